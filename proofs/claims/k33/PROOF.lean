import PyProof.Rows.All
import Wide.All
import OpenK.AllK
import Wide.FinOn
import KE.SortData
import KE.DataCmp
import HandS.ForMost
import HandS.Exc
import HandS.ExcOwn
import HandS.Deep
import HandS.Style
import HandS.IsInst
import HandS.Codes
import HandS.Star
import HandS.CallSlots
import HandS.More
import PyProof.MaxThree
import HandS.Text
import HandS.Iter
import HandS.Conv
import HandS.Zip
import HandS.Comp
import HandS.ExcInit
import HandS.ExcField
import HandS.Small
import HandS.SetKeys
import HandS.TryMany
import HandS.Defaults
import HandS.HeadWalk
import HandS.HeadEnd
import KE.KStateDown
import HandS.Head0
import HandS.Head1
import HandS.Head2
import HandS.HeadHook1
import HandS.HeadHook2
import PySem.Challenge.RW_suffixhouse_k33_tables_from_below
set_option Elab.async false
section
set_option Elab.async false
set_option linter.all false
set_option autoImplicit false
/-! The core language: plain data, expressions, statements, and what they come to. -/
namespace SH
open PySem

/-- a dict's key -/
abbrev Ky := Sum Int (List Char)

/-- plain data -/
inductive D where
  | non | bl (b : Bool) | int (i : Int) | str (s : List Char)
  | tup (ds : List D) | lst (ds : List D)
  | dK (kvs : List (Ky × D)) | dT (kvs : List (List Ky × D))
  /-- a caught exception, by its number -/
  | exo (n : Int)
  /-- the script -/
  | ro (ns : List Int)
  deriving Inhabited

inductive Res (α : Type) where
  | ok (a : α) | exc (c : Nat) (n : Int) | bad

namespace Res
def bind {α β : Type} (x : Res α) (f : α → Res β) : Res β := match x with
  | .ok a => f a
  | .exc c n => .exc c n
  | .bad => .bad
instance : Monad Res where
  pure := .ok
  bind := Res.bind
@[simp] theorem ok_bind {α β : Type} (a : α) (f : α → Res β) : (Res.ok a >>= f) = f a := rfl
@[simp] theorem exc_bind {α β : Type} (c : Nat) (n : Int) (f : α → Res β) : ((Res.exc c n : Res α) >>= f) = .exc c n := rfl
@[simp] theorem bad_bind {α β : Type} (f : α → Res β) : ((Res.bad : Res α) >>= f) = .bad := rfl
@[simp] theorem pure_ok {α : Type} (a : α) : (pure a : Res α) = .ok a := rfl
theorem bind_assoc {α β γ : Type} (x : Res α) (f : α → Res β) (g : β → Res γ) : ((x >>= f) >>= g) = (x >>= fun a => f a >>= g) := by
  cases x <;> rfl
theorem bind_ok {α : Type} (x : Res α) : (x >>= Res.ok) = x := by cases x <;> rfl
end Res

/-- the most items that a list may have -/
def lim : Nat := 16777216

abbrev Env := List (Option D)
def getV (env : Env) (i : Nat) : Res D := match env[i]? with
  | some (some d) => .ok d
  | _ => .bad

/-! ### data as the kit's -/
def mkS (s : List Char) : Str := ⟨(s.map Char.toNat).toArray⟩
mutual
def py : D → PyData
  | .non => .none
  | .bl b => .bool b
  | .int i => .int i
  | .str s => .str (mkS s)
  | .tup ds => .tuple (pyL ds)
  | .lst ds => .list (pyL ds)
  | .dK _ => .dict []
  | .dT _ => .dict []
  | .exo _ => .dict []
  | .ro _ => .dict []
def pyL : List D → List PyData
  | [] => []
  | d :: ds => py d :: pyL ds
end
theorem pyL_map : ∀ ds : List D, pyL ds = ds.map py
  | [] => rfl
  | d :: ds => by rw [pyL, pyL_map ds]; rfl
/-- no deeper than n, no dict within -/
def dp : Nat → D → Bool
  | _, .non => true
  | _, .bl _ => true
  | _, .int _ => true
  | _, .str _ => true
  | n + 1, .tup ds => ds.all (dp n)
  | n + 1, .lst ds => ds.all (dp n)
  | _, _ => false
/-- == -/
def deq (a b : D) : Bool := PyData.eqv (py a) (py b)
def eqD (a b : D) : Res Bool := if dp 8 a && dp 8 b then .ok (deq a b) else .bad

/-! ### operations on data -/
inductive Op2 where
  | add | sub | mul | fdiv | mod | pow | band
  deriving DecidableEq
def opD : Op2 → D → D → Res D
  | .add, .int a, .int b => .ok (.int (a + b))
  | .add, .str a, .str b => if a.length + b.length ≤ lim then .ok (.str (a ++ b)) else .bad
  | .add, .lst a, .lst b => if a.length ≤ lim ∧ b.length ≤ lim ∧ a.length + b.length ≤ lim then .ok (.lst (a ++ b)) else .bad
  | .sub, .int a, .int b => .ok (.int (a - b))
  | .mul, .int a, .int b => if (-(2 ^ 64) < a ∧ a < 2 ^ 64) ∨ (-(2 ^ 64) < b ∧ b < 2 ^ 64) then .ok (.int (a * b)) else .bad
  | .fdiv, .int a, .int b => if 0 < b ∧ b < 1073741824 then .ok (.int (a / b)) else .bad
  | .mod, .int a, .int b => if 0 < b then .ok (.int (a % b)) else .bad
  | .pow, .int a, .int b => if 0 ≤ b ∧ b ≤ 1000000 ∧ a.natAbs < 2 ^ 64 then .ok (.int (a ^ b.toNat)) else .bad
  | .band, .int a, .int b => .ok (.int (Builtin.bitAnd a b))
  | _, _, _ => .bad
inductive Cmp where
  | lt | le | gt | ge | eq | ne | isN | notN | isB | notB | inn | nin
  deriving DecidableEq
def ltS (a b : List Char) : Bool := decide (a.map Char.toNat < b.map Char.toNat)
/-- < of alike data -/
def ltD (a b : D) : Res Bool := match a, b with
  | .int a, .int b => .ok (decide (a < b))
  | .str a, .str b => .ok (ltS a b)
  | .tup a, .tup b => if PySem.W.alike (py (.tup a)) (py (.tup b)) && dp 8 (.tup a) && dp 8 (.tup b) then .ok (PySem.W.dataLt (py (.tup a)) (py (.tup b))) else .bad
  | _, _ => .bad
def kyOf : D → Option Ky
  | .int i => some (.inl i)
  | .str s => some (.inr s)
  | _ => none
def kysOf : List D → Option (List Ky)
  | [] => some []
  | d :: ds => match kyOf d, kysOf ds with
    | some k, some ks => some (k :: ks)
    | _, _ => none
def kd : Ky → D
  | .inl i => .int i
  | .inr s => .str s
def look {κ : Type} [DecidableEq κ] (k : κ) : List (κ × D) → Option D
  | [] => none
  | (j, d) :: r => if j = k then some d else look k r
def put {κ : Type} [DecidableEq κ] (k : κ) (v : D) : List (κ × D) → List (κ × D)
  | [] => [(k, v)]
  | (j, d) :: r => if j = k then (j, v) :: r else (j, d) :: put k v r
/-- is the word a part of the text -/
def subS (t w : List Char) : Bool := match w with
  | [c] => decide (c ∈ t)
  | w => !(Builtin.Str.occurrences (mkS t) (mkS w) 0 (mkS t).length 1).isEmpty
def inD (a b : D) : Res Bool := match b with
  | .lst ds => if dp 8 a && dp 8 (.lst ds) then .ok (ds.any fun z => deq z a) else .bad
  | .str t => match a with
    | .str w => .ok (subS t w)
    | _ => .bad
  | .dK kvs => match kyOf a with
    | some k => .ok (look k kvs).isSome
    | none => .bad
  | .dT kvs => match a with
    | .tup ds => match kysOf ds with
      | some ks => .ok (look ks kvs).isSome
      | none => .bad
    | _ => .bad
  | _ => .bad
def notR (r : Res Bool) : Res Bool := r >>= fun b => .ok (!b)
def cmpD : Cmp → D → D → Res Bool
  | .lt, a, b => ltD a b
  | .gt, .int a, .int b => .ok (decide (b < a))
  | .gt, .str a, .str b => .ok (ltS b a)
  | .le, .int a, .int b => .ok (decide (a ≤ b))
  | .le, .str a, .str b => .ok (!ltS b a)
  | .ge, .int a, .int b => .ok (decide (b ≤ a))
  | .ge, .str a, .str b => .ok (!ltS a b)
  | .eq, a, b => eqD a b
  | .ne, a, b => notR (eqD a b)
  | .isN, .non, .non => .ok true
  | .isN, .bl _, .non => .ok false
  | .isN, .int _, .non => .ok false
  | .isN, .str _, .non => .ok false
  | .isN, .tup _, .non => .ok false
  | .isN, .lst _, .non => .ok false
  | .isN, .dK _, .non => .ok false
  | .isN, .dT _, .non => .ok false
  | .notN, .non, .non => .ok false
  | .notN, .bl _, .non => .ok true
  | .notN, .int _, .non => .ok true
  | .notN, .str _, .non => .ok true
  | .notN, .tup _, .non => .ok true
  | .notN, .lst _, .non => .ok true
  | .notN, .dK _, .non => .ok true
  | .notN, .dT _, .non => .ok true
  | .isB, .bl a, .bl b => .ok (a == b)
  | .notB, .bl a, .bl b => .ok (a != b)
  | .inn, a, b => inD a b
  | .nin, a, b => notR (inD a b)
  | _, _, _ => .bad
/-- the place that an index names -/
def place (i : Int) (n : Nat) : Option Nat := if 0 ≤ i then (if i < n then some i.toNat else none) else if -(n : Int) ≤ i then some (i + n).toNat else none
def ixD (a i : D) : Res D := match a, i with
  | .lst ds, .int i => match place i ds.length with
    | some k => match ds[k]? with
      | some d => .ok d
      | none => .bad
    | none => .bad
  | .tup ds, .int i => match place i ds.length with
    | some k => match ds[k]? with
      | some d => .ok d
      | none => .bad
    | none => .bad
  | .ro ns, .int i => match place i ns.length with
    | some k => match ns[k]? with
      | some d => .ok (.int d)
      | none => .bad
    | none => .bad
  | .str s, .int i => if s.length ≤ lim then match place i s.length with
    | some k => match s[k]? with
      | some c => .ok (.str [c])
      | none => .bad
    | none => .bad
    else .bad
  | .dK kvs, k => match kyOf k with
    | some k => match look k kvs with
      | some d => .ok d
      | none => .bad
    | none => .bad
  | .dT kvs, .tup ds => match kysOf ds with
    | some ks => match look ks kvs with
      | some d => .ok d
      | none => .bad
    | none => .bad
  | _, _ => .bad
/-- a slice's end, brought within 0 .. n -/
def clip (n : Nat) (i : Int) : Nat := if 0 ≤ i then min i.toNat n else (i + n).toNat
def clipLo (n : Nat) : Option Int → Nat
  | none => 0
  | some i => clip n i
def clipHi (n : Nat) : Option Int → Nat
  | none => n
  | some i => clip n i
def cut {α : Type} (xs : List α) (lo hi : Option Int) : List α := (xs.take (clipHi xs.length hi)).drop (clipLo xs.length lo)
def intO : Option D → Res (Option Int)
  | none => .ok none
  | some (.int i) => .ok (some i)
  | _ => .bad
def slD (a : D) (l h : Option Int) : Res D := match a with
  | .lst ds => .ok (.lst (cut ds l h))
  | .str s => if s.length ≤ lim then .ok (.str (cut s l h)) else .bad
  | _ => .bad

/-! ### built-ins -/
inductive Blt where
  | len | abs | int | min | max | ord | sum | all | sorted | list | tuple | dict | str | repr
  deriving DecidableEq
def intsD : List D → Option (List Int)
  | [] => some []
  | .int i :: ds => (intsD ds).map (i :: ·)
  | _ :: _ => none
def blsD : List D → Option (List Bool)
  | [] => some []
  | .bl i :: ds => (blsD ds).map (i :: ·)
  | _ :: _ => none
/-- min(a, b, ..), max(a, b, ..) of numbers, as Python goes through them -/
def leastI : Int → List Int → Int
  | m, [] => m
  | m, x :: xs => leastI (if x < m then x else m) xs
def mostI : Int → List Int → Int
  | m, [] => m
  | m, x :: xs => mostI (if m < x then x else m) xs
def dataLeD (a b : D) : Bool := PySem.W.dataLe false py a b
def sortable (ds : List D) : Bool :=
  (ds.all fun d => dp 8 d) && (ds.all fun d => ds.all fun e => PySem.W.alike (py d) (py e)) && ((ds.all fun d => match d with | .tup (_ :: _) => true | _ => false) || (ds.all fun d => match d with | .int _ => true | .str _ => true | .bl _ => true | .lst _ => true | _ => false))
def sortD (ds : List D) : Res (List D) := if sortable ds && decide (ds.length ≤ lim) then .ok (ds.mergeSort dataLeD) else .bad
def pairsD : List D → Option (List (Ky × D))
  | [] => some []
  | .tup [k, v] :: ds => match kyOf k, pairsD ds with
    | some k, some r => some ((k, v) :: r)
    | _, _ => none
  | _ :: _ => none
def putAll (kvs : List (Ky × D)) : List (Ky × D) → List (Ky × D)
  | [] => kvs
  | (k, v) :: r => putAll (put k v kvs) r
/-- keys that are texts -/
def kvsS : List (Ky × D) → Option (List (List Char))
  | [] => some []
  | (.inr s, _) :: r => (kvsS r).map (s :: ·)
  | _ :: _ => none
def bltD : Blt → List D → Res D
  | .len, [.lst ds] => .ok (.int ds.length)
  | .len, [.ro ns] => .ok (.int ns.length)
  | .len, [.tup ds] => .ok (.int ds.length)
  | .len, [.str s] => if s.length ≤ lim then .ok (.int s.length) else .bad
  | .len, [.dK kvs] => .ok (.int kvs.length)
  | .abs, [.int i] => .ok (.int (if i < 0 then -i else i))
  | .int, [.int i] => .ok (.int i)
  | .int, [.bl b] => .ok (.int (if b then 1 else 0))
  | .int, [.str s] => match PySem.intText? (mkS s) with
    | some n => if s.length ≤ 640 then .ok (.int n) else .bad
    | none => .bad
  | .str, [.int i] => if i.natAbs.log2 < 1920 then .ok (.str (toString i).toList) else .bad
  | .min, [.int a, .int b] => .ok (.int (if b < a then b else a))
  | .max, [.int a, .int b] => .ok (.int (if a < b then b else a))
  | .min, [.int a, .int b, .int c] => .ok (.int (leastI a [b, c]))
  | .min, [.lst ds] => match intsD ds with
    | some (i :: is) => .ok (.int (leastI i is))
    | _ => .bad
  | .max, [.lst ds] => match intsD ds with
    | some (i :: is) => .ok (.int (mostI i is))
    | _ => .bad
  | .ord, [.str [c]] => .ok (.int c.toNat)
  | .sum, [.lst ds] => match intsD ds with
    | some is => .ok (.int is.sum)
    | none => .bad
  | .all, [.lst ds] => match blsD ds with
    | some bs => .ok (.bl (bs.all id))
    | none => .bad
  | .sorted, [.lst ds] => (sortD ds) >>= fun r => .ok (.lst r)
  | .list, [.lst ds] => .ok (.lst ds)
  | .list, [.tup ds] => .ok (.lst ds)
  | .list, [.dK kvs] => .ok (.lst (kvs.map fun p => kd p.1))
  | .sorted, [.dK kvs] => match kvsS kvs with
    | some ks => if ks.length < 64 then .ok (.lst ((ks.mergeSort fun a b => !ltS b a).map D.str)) else .bad
    | none => .bad
  | .tuple, [.lst ds] => .ok (.tup ds)
  | .dict, [.lst ds] => match pairsD ds with
    | some r => .ok (.dK (putAll [] r))
    | none => .bad
  | .dict, [.dK kvs] => .ok (.dK kvs)
  | _, _ => .bad
inductive Mth where
  | get | join | find | split | index
  deriving DecidableEq
def strsD : List D → Option (List (List Char))
  | [] => some []
  | .str i :: ds => (strsD ds).map (i :: ·)
  | _ :: _ => none
/-- cut at each c -/
def splC (c : Char) : List Char → List Char → List (List Char)
  | acc, [] => [acc]
  | acc, x :: r => if x = c then acc :: splC c [] r else splC c (acc ++ [x]) r
/-- where the first c is -/
def fndC (c : Char) (s : List Char) : Int := match s.findIdx? fun x => decide (x = c) with
  | some k => k
  | none => -1
def joinS (sep : List Char) : List (List Char) → List Char
  | [] => []
  | [x] => x
  | x :: y :: r => x ++ sep ++ joinS sep (y :: r)
def mthD : Mth → D → List D → Res D
  | .get, .dK kvs, [k] => match kyOf k with
    | some k => .ok ((look k kvs).getD .non)
    | none => .bad
  | .get, .dK kvs, [k, v] => match kyOf k with
    | some k => .ok ((look k kvs).getD v)
    | none => .bad
  | .get, .dT kvs, [.tup k] => match kysOf k with
    | some k => .ok ((look k kvs).getD .non)
    | none => .bad
  | .index, .lst ds, [d] => if dp 8 d && dp 8 (.lst ds) then (match ds.findIdx? fun z => deq z d with
    | some k => .ok (.int k)
    | none => .bad) else .bad
  | .find, .str s, [.str [c]] => if c.toNat < 256 then .ok (.int (fndC c s)) else .bad
  | .split, .str s, [.str [c]] => if c.toNat < 256 ∧ s.length + 2 ≤ lim then .ok (.lst ((splC c [] s).map .str)) else .bad
  | .join, .str s, [.lst ds] => match strsD ds with
    | some ws => if (ws.map (·.length)).sum + ws.length * s.length ≤ lim then .ok (.str (joinS s ws)) else .bad
    | none => .bad
  | _, _, _ => .bad
/-- is it a thing that has the method -/
def rcvD : Mth → D → Bool
  | .get, .dK _ => true
  | .get, .dT _ => true
  | .join, .str _ => true
  | .index, .lst _ => true
  | .find, .str _ => true
  | .split, .str _ => true
  | _, _ => false
/-- numbers, each once -/
def ddI (ns : List Int) : List Int := ns.foldl (fun σ v => if σ.any (· == v) then σ else σ ++ [v]) []
def lsetD : D → Res D
  | .lst ds => match intsD ds with
    | some ns => if ns.length < 4000 then .ok (.int (ddI ns).length) else .bad
    | none => .bad
  | _ => .bad
inductive Ty where
  | int | bool | list | tuple | str | dict
  deriving DecidableEq
def isiD : D → Ty → Option Bool
  | .int _, t => some (t == .int)
  | .bl _, t => some (t == .int || t == .bool)
  | .str _, t => some (t == .str)
  | .lst _, t => some (t == .list)
  | .tup _, t => some (t == .tuple)
  | .non, _ => some false
  | .dK _, t => some (t == .dict)
  | _, _ => none
def truD : D → Res Bool
  | .bl b => .ok b
  | .int i => .ok (i != 0)
  | .lst ds => .ok (!ds.isEmpty)
  | .str s => if s.length ≤ lim then .ok (!s.isEmpty) else .bad
  | .non => .ok false
  | _ => .bad
def blR : Res Bool → Res D := fun r => r >>= fun b => .ok (.bl b)
def asB : D → Res Bool
  | .bl b => .ok b
  | _ => .bad
def asSc : D → Res D
  | .int i => .ok (.int i)
  | .str s => .ok (.str s)
  | .bl b => .ok (.bl b)
  | .non => .ok .non
  | _ => .bad

/-! ### the language -/
/-- who else may hold a thing: sc: a number, a text, a truth value or None; sh: any one; nd o: nobody else holds it, what is in it is o -/
inductive Own where
  | sc | sh | nd (o : Own)
  deriving DecidableEq, Inhabited
inductive Tg where
  | name (i : Nat) | tup (is : List Nat)
  deriving DecidableEq
mutual
inductive CE where
  | var (i : Nat) | int (i : Int) | str (s : List Char) | bl (b : Bool) | non
  | gi (x : String) (i : Int) | gs (x : String) (s : List Char)
  | tup (es : CEs) | lst (es : CEs) | dK | dT
  | neg (a : CE) | not (a : CE)
  | bin (o : Op2) (a b : CE) | cmp (o : Cmp) (a b : CE) | chain (o o' : Cmp) (a b c : CE)
  | and (a b : CE) | or (a b : CE) | ite (c a b : CE)
  | ix (a i : CE) | sl (a : CE) (lo hi : CEo)
  | call (x : String) (f : List D → Res D) (R : Own) (es : CEs)
  | blt (b : Blt) (es : CEs) | mth (m : Mth) (o : CE) (es : CEs) | isi (a : CE) (t : Ty)
  | lc (tg : Tg) (src : Src) (c : CEo) (e : CE)
  | sc (a : CE) | tru (a : CE) | at (i : Nat)
  | shr (a : CE) | chn (o o' o2 : Cmp) (a b c d : CE) | lrng (a b : CE)
  | lset (a : CE) | lck (tg : Tg) (i : Nat) (c : CEo) (e : CE)
inductive CEs where
  | nil | cons (star : Bool) (e : CE) (es : CEs)
inductive CEo where
  | none | some (e : CE)
inductive Src where
  | over (e : CE) | rng1 (a : CE) | rng2 (a b : CE) | down (a b : CE) | keys (e : CE)
end
def bindIs (env : Env) : List Nat → List D → Res Env
  | [], [] => .ok env
  | i :: is, d :: ds => bindIs (env.set i (some d)) is ds
  | _, _ => .bad
def bindT (tg : Tg) (d : D) (env : Env) : Res Env := match tg with
  | .name i => .ok (env.set i (some d))
  | .tup is => match d with
    | .tup ds => bindIs env is ds
    | _ => .bad
def tgIs : Tg → List Nat
  | .name i => [i]
  | .tup is => is
def wipeE (env : Env) : List Nat → Env
  | [] => env
  | i :: is => (wipeE env is).set i none
/-- a list comprehension's turns -/
def lcLoop (f : D → Res (Option D)) : List D → List D → Res (List D)
  | [], acc => .ok acc
  | d :: ds, acc => match f d with
    | .ok (some x) => if acc.length < lim then lcLoop f ds (acc ++ [x]) else .bad
    | .ok none => lcLoop f ds acc
    | _ => .bad
def rngD (lo : Int) (n : Nat) : List D := (List.range n).map fun (i : Nat) => .int (lo + i)
def downD (lo : Int) (n : Nat) : List D := (List.range n).map fun (i : Nat) => .int (lo - i)
def okR (i : Int) : Bool := decide (-(2 ^ 62) ≤ i ∧ i < 2 ^ 62)
def itemsD : D → Res (List D)
  | .lst ds => .ok ds
  | .tup ds => .ok ds
  | .str s => .ok (s.map fun c => .str [c])
  | _ => .bad
def starD : D → Res (List D)
  | .lst ds => .ok ds
  | .tup ds => .ok ds
  | _ => .bad
def keysD : D → Res (List D)
  | .dK kvs => .ok (kvs.map fun p => kd p.1)
  | .dT kvs => .ok (kvs.map fun p => .tup (p.1.map kd))
  | _ => .bad
def keysK : D → Res (List D)
  | .dK kvs => .ok (kvs.map fun p => kd p.1)
  | _ => .bad
mutual
def evE : CE → Env → Res D
  | .var i, env => getV env i
  | .int i, _ => .ok (.int i)
  | .str s, _ => .ok (.str s)
  | .bl b, _ => .ok (.bl b)
  | .non, _ => .ok .non
  | .gi _ i, _ => .ok (.int i)
  | .gs _ s, _ => .ok (.str s)
  | .tup es, env => evEs es env >>= fun ds => if ds.length ≤ lim then .ok (.tup ds) else .bad
  | .lst es, env => evEs es env >>= fun ds => if ds.length ≤ lim then .ok (.lst ds) else .bad
  | .dK, _ => .ok (.dK [])
  | .dT, _ => .ok (.dT [])
  | .neg a, env => evE a env >>= fun d => match d with
    | .int i => .ok (.int (-i))
    | _ => .bad
  | .not a, env => evE a env >>= fun d => asB d >>= fun b => .ok (.bl (!b))
  | .bin o a b, env => evE a env >>= fun x => evE b env >>= fun y => opD o x y
  | .cmp o a b, env => evE a env >>= fun x => evE b env >>= fun y => blR (cmpD o x y)
  | .chain o o' a b c, env => evE a env >>= fun x => evE b env >>= fun y => cmpD o x y >>= fun k => if k then evE c env >>= fun z => blR (cmpD o' y z) else .ok (.bl false)
  | .and a b, env => evE a env >>= fun d => asB d >>= fun k => if k then evE b env else .ok (.bl false)
  | .or a b, env => evE a env >>= fun d => asB d >>= fun k => if k then .ok (.bl true) else evE b env
  | .ite c a b, env => evE c env >>= fun d => asB d >>= fun k => if k then evE a env else evE b env
  | .ix a i, env => evE a env >>= fun x => evE i env >>= fun y => ixD x y
  | .sl a lo hi, env => evE a env >>= fun x => (evO lo env >>= intO) >>= fun l => (evO hi env >>= intO) >>= fun h => slD x l h
  | .call _ f _ es, env => evEs es env >>= fun ds => f ds
  | .blt b es, env => evEs es env >>= fun ds => bltD b ds
  | .mth m o es, env => evE o env >>= fun x => if rcvD m x then evEs es env >>= fun ds => mthD m x ds else .bad
  | .isi a t, env => evE a env >>= fun x => match isiD x t with
    | some b => .ok (.bl b)
    | none => .bad
  | .lc tg src c e, env => evSrc src env >>= fun items => lcLoop (fun d => bindT tg d (wipeE env (tgIs tg)) >>= fun env' => evO c env' >>= fun b => match b with
      | none => evE e env' >>= fun x => .ok (some x)
      | some b => asB b >>= fun k => if k then evE e env' >>= fun x => .ok (some x) else .ok none) items [] >>= fun r => .ok (.lst r)
  | .sc a, env => evE a env >>= asSc
  | .tru a, env => evE a env >>= fun x => truD x >>= fun b => .ok (.bl b)
  | .at i, env => getV env i >>= fun d => match d with
    | .exo n => .ok (.int n)
    | _ => .bad
  | .shr a, env => evE a env
  | .chn o o' o2 a b c d, env => evE a env >>= fun x => evE b env >>= fun y => cmpD o x y >>= fun k => if k then evE c env >>= fun z => cmpD o' y z >>= fun k => if k then evE d env >>= fun w => blR (cmpD o2 z w) else .ok (.bl false) else .ok (.bl false)
  | .lrng a b, env => evE a env >>= fun x => evE b env >>= fun y => match x, y with
    | .int i, .int j => if okR i && okR j && decide ((j - i).toNat ≤ lim) then .ok (.lst (rngD i (j - i).toNat)) else .bad
    | _, _ => .bad
  | .lset a, env => evE a env >>= lsetD
  | .lck tg i c e, env => (getV env i >>= keysK) >>= fun items => lcLoop (fun d => bindT tg d (wipeE env (tgIs tg)) >>= fun env' => evO c env' >>= fun b => match b with
      | none => evE e env' >>= fun x => .ok (some x)
      | some b => asB b >>= fun k => if k then evE e env' >>= fun x => .ok (some x) else .ok none) items [] >>= fun r => .ok (.lst r)
def evEs : CEs → Env → Res (List D)
  | .nil, _ => .ok []
  | .cons star e es, env => evE e env >>= fun d => if star then starD d >>= fun xs => evEs es env >>= fun ds => .ok (xs ++ ds) else evEs es env >>= fun ds => .ok (d :: ds)
def evO : CEo → Env → Res (Option D)
  | .none, _ => .ok none
  | .some e, env => evE e env >>= fun d => .ok (some d)
def evSrc : Src → Env → Res (List D)
  | .over e, env => evE e env >>= itemsD
  | .rng1 a, env => evE a env >>= fun x => match x with
    | .int j => if okR j then .ok (rngD 0 j.toNat) else .bad
    | _ => .bad
  | .rng2 a b, env => evE a env >>= fun x => evE b env >>= fun y => match x, y with
    | .int i, .int j => if okR i && okR j then .ok (rngD i (j - i).toNat) else .bad
    | _, _ => .bad
  | .down a b, env => evE a env >>= fun x => evE b env >>= fun y => match x, y with
    | .int i, .int j => if okR i && okR j then .ok (downD i (i - j).toNat) else .bad
    | _, _ => .bad
  | .keys e, env => evE e env >>= keysD
end

/-! ### statements -/
inductive Mut where
  | append | extend | insert | pop | popAt
  deriving DecidableEq
/-- a handler's body: return e; if c: return e -/
inductive HB where
  | ret (e : CE) | chk (c e : CE)
inductive CHs where
  | nil | cons (c : Nat) (i : Option Nat) (body : HB) (hs : CHs)
mutual
inductive CS where
  | set (i : Nat) (e : CE) | setC (i : Nat) (e : CE) | unp (is : List Nat) (e : CE) | par (i j : Nat) (a b : CE)
  | aug (i : Nat) (o : Op2) (e : CE)
  | mut (b : CE) (m : Mut) (es : CEs)
  | put (b k e : CE)
  | sda (i : Nat) (k e : CE)
  | drop (e : CE)
  | ite (c : CE) (a b : CSs)
  | forS (tg : Tg) (src : Src) (body : CSs)
  | whl (n : Nat) (c : CE) (body : CSs)
  | ret (e : CE) | retN
  | rse (c : Nat) (e : CE)
  | tryS (cs : List Nat) (body : CSs) (hs : CHs)
  | pass | brk
  | wk (i : Nat) (o : Own) | kill (i : Nat)
  /-- for .. in a dict -/
  | forK (tg : Tg) (i : Nat) (body : CSs)
  /-- for x in xs: if c: return e -/
  | forC (j i : Nat) (c e : CE)
  /-- x = [e, *x] -/
  | cns (i : Nat) (e : CE)
inductive CSs where
  | nil | cons (s : CS) (ss : CSs) | ali (x i : Nat) (e : CE) (a : AL)
/-- what is done with x, a second name of an owned list's item -/
inductive AL where
  | mut (m : Mut) (es : CEs) | aug (k v : CE) | oth (ss : CSs) | ite (c : CE) (a b : AL)
end
inductive Fl where
  | nx (e : Env) | rt (d : D) | bk (e : Env) | exc (c : Nat) (n : Int) (e : Env) | bad
def Res.fl {α : Type} (x : Res α) (env : Env) (f : α → Fl) : Fl := match x with
  | .ok a => f a
  | .exc c n => .exc c n env
  | .bad => .bad
@[simp] theorem fl_ok {α : Type} (a : α) (env : Env) (f : α → Fl) : (Res.ok a).fl env f = f a := rfl
@[simp] theorem fl_exc {α : Type} (c : Nat) (n : Int) (env : Env) (f : α → Fl) : (Res.exc c n : Res α).fl env f = .exc c n env := rfl
@[simp] theorem fl_bad {α : Type} (env : Env) (f : α → Fl) : (Res.bad : Res α).fl env f = .bad := rfl
def forLoop (tg : Tg) (f : Env → Fl) : List D → Env → Fl
  | [], env => .nx env
  | d :: ds, env => (bindT tg d env).fl env fun e1 => match f e1 with
    | .nx e2 => forLoop tg f ds e2
    | .bk e2 => .nx e2
    | r => r
def whLoop (c : Env → Res D) (f : Env → Fl) : Nat → Env → Fl
  | 0, _ => .bad
  | n + 1, env => (c env >>= asB).fl env fun k => if k then (match f env with
    | .nx e2 => whLoop c f n e2
    | .bk e2 => .nx e2
    | r => r) else .nx env
def noX {α : Type} : Res α → Res α
  | .ok a => .ok a
  | _ => .bad
theorem noX_ok {α : Type} (a : α) : noX (Res.ok a) = .ok a := rfl
/-- nothing may be raised out of a walk over a dict -/
def lockF : Fl → Fl
  | .exc _ _ _ => .bad
  | r => r
/-- what lies at a place in a thing -/
def stepD (d p : D) : Option D := match d with
  | .lst ds => (match p with
    | .int i => (match place i ds.length with
      | some k => ds[k]?
      | none => none)
    | _ => none)
  | .tup ds => (match p with
    | .int i => (match place i ds.length with
      | some k => ds[k]?
      | none => none)
    | _ => none)
  | .dK kvs => (match kyOf p with
    | some k => look k kvs
    | none => none)
  | _ => none
def setD (d p y : D) : D := match d with
  | .lst ds => (match p with
    | .int i => (match place i ds.length with
      | some k => .lst (ds.set k y)
      | none => d)
    | _ => d)
  | .tup ds => (match p with
    | .int i => (match place i ds.length with
      | some k => .tup (ds.set k y)
      | none => d)
    | _ => d)
  | .dK kvs => (match kyOf p with
    | some k => .dK (put k y kvs)
    | none => d)
  | _ => d
/-- a part of a thing, by the places in it, replaced -/
def updAt (f : D → Res D) : List D → D → Res D
  | [], d => f d
  | p :: ps, d => match stepD d p with
    | some x => updAt f ps x >>= fun y => .ok (setD d p y)
    | none => .bad
def lstOk : D → Res Unit
  | .lst _ => .ok ()
  | _ => .bad
/-- x[..][..]: the slot, the places, what lies there -/
def pathD : CE → Env → Res (Nat × List D × D)
  | .var i, env => getV env i >>= fun d => .ok (i, [], d)
  | .ix b p, env => pathD b env >>= fun r => evE p env >>= fun q => match stepD r.2.2 q with
    | some y => .ok (r.1, r.2.1 ++ [q], y)
    | none => .bad
  | _, _ => .bad
def mutD (m : Mut) (ds : List D) (x : D) : Res D := match m, x, ds with
  | .append, .lst xs, [d] => if xs.length < lim then .ok (.lst (xs ++ [d])) else .bad
  | .extend, .lst xs, [.lst ys] => if xs.length + ys.length ≤ lim then .ok (.lst (xs ++ ys)) else .bad
  | .insert, .lst xs, [.int i, d] => if xs.length < lim ∧ 0 ≤ i ∧ i < 2 ^ 63 then .ok (.lst (xs.take i.toNat ++ [d] ++ xs.drop i.toNat)) else .bad
  | .pop, .lst xs, [] => if xs.isEmpty then .bad else .ok (.lst xs.dropLast)
  | _, _, _ => .bad
def putD (k v : D) (x : D) : Res D := match x with
  | .lst xs => match k with
    | .int i => match place i xs.length with
      | some j => .ok (.lst (xs.set j v))
      | none => .bad
    | _ => .bad
  | .dK kvs => match kyOf k with
    | some k => if kvs.length < lim then .ok (.dK (put k v kvs)) else .bad
    | none => .bad
  | .dT kvs => match k with
    | .tup ds => match kysOf ds with
      | some ks => if kvs.length < lim then .ok (.dT (put ks v kvs)) else .bad
      | none => .bad
    | _ => .bad
  | _ => .bad
/-- d.setdefault(k, []) -/
def sdfD (k : D) (x : D) : Res D := match x with
  | .dK kvs => match kyOf k with
    | some k => if kvs.length < lim then (match look k kvs with
      | some (.lst _) => .ok x
      | some _ => .bad
      | none => .ok (.dK (put k (.lst []) kvs))) else .bad
    | none => .bad
  | _ => .bad
/-- .. .append(v) -/
def sdaD (k v : D) (x : D) : Res D := match x with
  | .dK kvs => match kyOf k with
    | some k => (match look k kvs with
      | some (.lst xs) => if xs.length < lim then .ok (.dK (put k (.lst (xs ++ [v])) kvs)) else .bad
      | _ => .bad)
    | none => .bad
  | _ => .bad
def opI (o : Op2) (x y : D) : Res D := match o, x, y with
  | .add, .int a, .int b => .ok (.int (a + b))
  | .sub, .int a, .int b => .ok (.int (a - b))
  | _, _, _ => .bad
/-- an owned list's item -/
def chD (env : Env) (i : Nat) (j : Int) : Res D := pathD (.ix (.var i) (.int j)) env >>= fun r => .ok r.2.2
def itD (ch k : D) : Res D := match ch, k with
  | .lst ds, .int n => match place n ds.length with
    | some p => (match ds[p]? with
      | some (.int y) => .ok (.int y)
      | _ => .bad)
    | none => .bad
  | _, _ => .bad
/-- its place -/
def aliD (e : CE) (i : Nat) (env : Env) : Res Int := pathD (.ix (.var i) e) env >>= fun r => match r.2.1 with
  | [.int j] => .ok j
  | _ => .bad
def evHB : HB → Env → Fl
  | .ret e, env => match evE e env with
    | .ok d => .rt d
    | _ => .bad
  | .chk c e, env => match evE c env >>= asB with
    | .ok true => (match evE e env with
      | .ok d => .rt d
      | _ => .bad)
    | .ok false => .nx env
    | _ => .bad
/-- 0 is the class that all are of -/
def evH : CHs → Nat → Int → Env → Fl
  | .nil, c, n, env => .exc c n env
  | .cons k i body hs, c, n, env => if k = 0 ∨ k = c then
      (match i with
      | none => evHB body env
      | some i => match evHB body (env.set i (some (.exo n))) with
        | .nx e => .nx (e.set i none)
        | r => r)
    else evH hs c n env
mutual
def evS : CS → Env → Fl
  | .set i e, env => (evE e env).fl env fun d => .nx (env.set i (some d))
  | .setC i e, env => (evE e env).fl env fun d => .nx (env.set i (some d))
  | .unp is e, env => (evE e env).fl env fun d => (bindT (.tup is) d env).fl env .nx
  | .par i j a b, env => (evE a env >>= fun x => evE b env >>= fun y => .ok (x, y)).fl env fun p => .nx ((env.set i (some p.1)).set j (some p.2))
  | .aug i o e, env => (getV env i >>= fun x => evE e env >>= fun y => opI o x y).fl env fun d => .nx (env.set i (some d))
  | .mut b m es, env => (pathD b env >>= fun r => lstOk r.2.2 >>= fun _ => evEs es env >>= fun ds => getV env r.1 >>= fun x => updAt (mutD m ds) r.2.1 x >>= fun y => .ok (r.1, y)).fl env fun p => .nx (env.set p.1 (some p.2))
  | .put b k e, env => (evE e env >>= fun v => pathD b env >>= fun r => evE k env >>= fun kk => getV env r.1 >>= fun x => updAt (putD kk v) r.2.1 x >>= fun y => .ok (r.1, y)).fl env fun p => .nx (env.set p.1 (some p.2))
  | .sda i k e, env => (noX (evE k env) >>= fun kk => getV env i >>= fun x => sdfD kk x >>= fun y => .ok (kk, y)).fl env fun p => (evE e (env.set i (some p.2)) >>= fun v => sdaD p.1 v p.2).fl (env.set i (some p.2)) fun z => .nx ((env.set i (some p.2)).set i (some z))
  | .drop e, env => (evE e env).fl env fun _ => .nx env
  | .ite c a b, env => (evE c env >>= asB).fl env fun k => if k then evSs a env else evSs b env
  | .forS tg src body, env => (evSrc src env).fl env fun items => forLoop tg (evSs body) items env
  | .whl n c body, env => whLoop (evE c) (evSs body) n env
  | .ret e, env => (evE e env).fl env .rt
  | .retN, _ => .rt .non
  | .rse c e, env => (evE e env).fl env fun d => match d with
    | .int n => .exc c n env
    | _ => .bad
  | .tryS cs body hs, env => match evSs body env with
    | .exc c n env' => if cs.contains c then evH hs c n env' else .bad
    | r => r
  | .pass, env => .nx env
  | .brk, env => .bk env
  | .wk _ _, env => .nx env
  | .kill i, env => .nx (env.set i none)
  | .forK tg i body, env => (getV env i >>= keysK).fl env fun items => lockF (forLoop tg (evSs body) items env)
  | .forC j i c e, env => (getV env i).fl env fun d => match d with
    | .lst items => forLoop (.name j) (fun env => (evE c env >>= asB).fl env fun k => if k then (evE e env).fl env .rt else .nx env) items env
    | _ => .bad
  | .cns i e, env => (evE e env >>= fun x => getV env i >>= fun d => match d with
    | .lst ds => if ds.length < lim then .ok (.lst (x :: ds)) else .bad
    | _ => .bad).fl env fun d => .nx (env.set i (some d))
def evSs : CSs → Env → Fl
  | .nil, env => .nx env
  | .cons s ss, env => match evS s env with
    | .nx e => evSs ss e
    | r => r
  | .ali x i e a, env => (aliD e i env).fl env fun j => if x < env.length then evA x i j a (env.set x none) else .bad
def evA (x i : Nat) (j : Int) : AL → Env → Fl
  | .mut m es, env => (pathD (.ix (.var i) (.int j)) env >>= fun r => lstOk r.2.2 >>= fun _ => evEs es env >>= fun ds => getV env r.1 >>= fun y => updAt (mutD m ds) r.2.1 y >>= fun z => .ok (r.1, z)).fl env fun p => .nx (env.set p.1 (some p.2))
  | .aug k v, env => (chD env i j >>= fun ch => noX (evE k (env.set x (some ch))) >>= fun kd => itD ch kd >>= fun y => noX (evE v env) >>= fun z => opI .add y z >>= fun s => getV env i >>= fun d => updAt (putD kd s) [.int j] d).fl env fun d => .nx (env.set i (some d))
  | .oth ss, env => evSs ss env
  | .ite c a b, env => (chD env i j >>= fun ch => noX (evE c (env.set x (some ch))) >>= asB).fl env fun t => if t then evA x i j a env else evA x i j b env
end
/-- a def: its names (parameters first), its parameters' number, its body -/
structure Def where
  name : String
  names : List String
  npar : Nat
  body : CSs
def Def.run (d : Def) (ds : List D) : Res D :=
  if ds.length = d.npar then
    match evSs d.body (ds.map some ++ List.replicate (d.names.length - d.npar) none) with
    | .nx _ => .ok .non
    | .rt d => .ok d
    | .exc c n _ => .exc c n
    | _ => .bad
  else .bad
/-! ### a result that nobody else can hold -/
def rowsI : List D → Option (List (List Int))
  | [] => some []
  | .lst ds :: r => match intsD ds, rowsI r with
    | some a, some b => some (a :: b)
    | _, _ => none
  | _ :: _ => none
def scA : D → Bool
  | .int _ => true
  | .str _ => true
  | .bl _ => true
  | .non => true
  | _ => false
/-- a list of unlike lists of numbers, made of scalars alone -/
def ownF (f : List D → Res D) : List D → Res D := fun ds => if ds.all scA then (match f ds with
  | .ok (.lst rs) => (match rowsI rs with
    | some L => if L.Nodup then .ok (.lst rs) else .bad
    | none => .bad)
  | _ => .bad) else .bad
end SH
end
section
set_option Elab.async false
set_option linter.all false
set_option autoImplicit false
set_option maxRecDepth 10000
/-! Plain law: how the core's evaluator is stepped through. -/
namespace SH
open PySem

/-- a statement, then the rest -/
def Fl.seq (r : Fl) (ss : CSs) : Fl := match r with
  | .nx e => evSs ss e
  | r => r
theorem evSs_nil (env : Env) : evSs .nil env = .nx env := by rw [evSs]
theorem evSs_cons (s : CS) (ss : CSs) (env : Env) : evSs (.cons s ss) env = (evS s env).seq ss := by rw [evSs]; rfl
@[simp] theorem seq_nx (e : Env) (ss : CSs) : (Fl.nx e).seq ss = evSs ss e := rfl
@[simp] theorem seq_rt (d : D) (ss : CSs) : (Fl.rt d).seq ss = .rt d := rfl
@[simp] theorem seq_bk (e : Env) (ss : CSs) : (Fl.bk e).seq ss = .bk e := rfl
@[simp] theorem seq_exc (c : Nat) (n : Int) (e : Env) (ss : CSs) : (Fl.exc c n e).seq ss = .exc c n e := rfl
@[simp] theorem seq_bad (ss : CSs) : Fl.bad.seq ss = .bad := rfl
/-- two ways -/
def Fl.br (k : Bool) (a b : CSs) (env : Env) : Fl := if k then evSs a env else evSs b env
theorem br_t (a b : CSs) (env : Env) : Fl.br true a b env = evSs a env := rfl
theorem br_f (a b : CSs) (env : Env) : Fl.br false a b env = evSs b env := rfl
def Res.cond {α : Type} (k : Bool) (a b : Res α) : Res α := if k then a else b
theorem cond_t {α : Type} (a b : Res α) : Res.cond true a b = a := rfl
theorem cond_f {α : Type} (a b : Res α) : Res.cond false a b = b := rfl
theorem cond_and (k q : Bool) : Res.cond k (.ok (D.bl q)) (.ok (D.bl false)) = .ok (D.bl (k && q)) := by cases k <;> rfl
theorem cond_or (k q : Bool) : Res.cond k (.ok (D.bl true)) (.ok (D.bl q)) = .ok (D.bl (k || q)) := by cases k <;> rfl
theorem cond_int (k : Bool) (a b : Int) : Res.cond k (.ok (D.int a)) (.ok (D.int b)) = .ok (D.int (if k then a else b)) := by cases k <;> rfl
theorem cond_str (k : Bool) (a b : List Char) : Res.cond k (.ok (D.str a)) (.ok (D.str b)) = .ok (D.str (if k then a else b)) := by cases k <;> rfl
/-! ### one equation a form -/
def lcG (tg : Tg) (c : CEo) (e : CE) (env : Env) (d : D) : Res (Option D) := bindT tg d (wipeE env (tgIs tg)) >>= fun env' => evO c env' >>= fun b => match b with
      | none => evE e env' >>= fun x => .ok (some x)
      | some b => asB b >>= fun k => if k then evE e env' >>= fun x => .ok (some x) else .ok none
theorem cond_opt {α : Type} (k : Bool) (a : α) : Res.cond k (.ok (some a)) (.ok none) = .ok (if k then some a else none) := by cases k <;> rfl
def K_tup  (r : Res (List D)) : Res D := r >>= fun ds => if ds.length ≤ lim then .ok (.tup ds) else .bad
theorem K_tup_ok  {ds : List D} : K_tup  (.ok ds) = if ds.length ≤ lim then .ok (.tup ds) else .bad := rfl
theorem K_tup_x  {cx : Nat} {n : Int} : K_tup  (.exc cx n) = .exc cx n := rfl
def K_lst  (r : Res (List D)) : Res D := r >>= fun ds => if ds.length ≤ lim then .ok (.lst ds) else .bad
theorem K_lst_ok  {ds : List D} : K_lst  (.ok ds) = if ds.length ≤ lim then .ok (.lst ds) else .bad := rfl
theorem K_lst_x  {cx : Nat} {n : Int} : K_lst  (.exc cx n) = .exc cx n := rfl
def K_neg  (r : Res D) : Res D := r >>= fun d => match d with
    | .int i => .ok (.int (-i))
    | _ => .bad
theorem K_neg_ok  {i : Int} : K_neg  (.ok (.int i)) = .ok (.int (-i)) := rfl
theorem K_neg_x  {cx : Nat} {n : Int} : K_neg  (.exc cx n) = .exc cx n := rfl
def K_not  (r : Res D) : Res D := r >>= fun d => asB d >>= fun b => .ok (.bl (!b))
theorem K_not_ok  {b : Bool} : K_not  (.ok (.bl b)) = .ok (.bl (!b)) := rfl
theorem K_not_x  {cx : Nat} {n : Int} : K_not  (.exc cx n) = .exc cx n := rfl
def K_b2 (o : Op2) (x : D) (r : Res D) : Res D := r >>= fun y => opD o x y
theorem K_b2_ok {o : Op2} {x : D} {y : D} : K_b2 o x (.ok y) = opD o x y := rfl
theorem K_b2_x {o : Op2} {x : D} {cx : Nat} {n : Int} : K_b2 o x (.exc cx n) = .exc cx n := rfl
def K_b1 (o : Op2) (b : CE) (env : Env) (r : Res D) : Res D := r >>= fun x => evE b env >>= fun y => opD o x y
theorem K_b1_ok {o : Op2} {b : CE} {env : Env} {x : D} : K_b1 o b env (.ok x) = K_b2 o x (evE b env) := rfl
theorem K_b1_x {o : Op2} {b : CE} {env : Env} {cx : Nat} {n : Int} : K_b1 o b env (.exc cx n) = .exc cx n := rfl
def K_c2 (o : Cmp) (x : D) (r : Res D) : Res D := r >>= fun y => blR (cmpD o x y)
theorem K_c2_ok {o : Cmp} {x : D} {y : D} : K_c2 o x (.ok y) = blR (cmpD o x y) := rfl
theorem K_c2_x {o : Cmp} {x : D} {cx : Nat} {n : Int} : K_c2 o x (.exc cx n) = .exc cx n := rfl
def K_c1 (o : Cmp) (b : CE) (env : Env) (r : Res D) : Res D := r >>= fun x => evE b env >>= fun y => blR (cmpD o x y)
theorem K_c1_ok {o : Cmp} {b : CE} {env : Env} {x : D} : K_c1 o b env (.ok x) = K_c2 o x (evE b env) := rfl
theorem K_c1_x {o : Cmp} {b : CE} {env : Env} {cx : Nat} {n : Int} : K_c1 o b env (.exc cx n) = .exc cx n := rfl
def K_h3 (o' : Cmp) (y : D) (c : CE) (env : Env) (r : Res Bool) : Res D := r >>= fun k => Res.cond k (evE c env >>= fun z => blR (cmpD o' y z)) (.ok (.bl false))
theorem K_h3_ok {o' : Cmp} {y : D} {c : CE} {env : Env} {k : Bool} : K_h3 o' y c env (.ok k) = Res.cond k (K_c2 o' y (evE c env)) (.ok (.bl false)) := rfl
def K_h2 (o : Cmp) (o' : Cmp) (c : CE) (x : D) (env : Env) (r : Res D) : Res D := r >>= fun y => K_h3 o' y c env (cmpD o x y)
theorem K_h2_ok {o : Cmp} {o' : Cmp} {c : CE} {x : D} {env : Env} {y : D} : K_h2 o o' c x env (.ok y) = K_h3 o' y c env (cmpD o x y) := rfl
def K_h1 (o : Cmp) (o' : Cmp) (b : CE) (c : CE) (env : Env) (r : Res D) : Res D := r >>= fun x => K_h2 o o' c x env (evE b env)
theorem K_h1_ok {o : Cmp} {o' : Cmp} {b : CE} {c : CE} {env : Env} {x : D} : K_h1 o o' b c env (.ok x) = K_h2 o o' c x env (evE b env) := rfl
def K_and (b : CE) (env : Env) (r : Res D) : Res D := r >>= fun d => asB d >>= fun k => Res.cond k (evE b env) (.ok (.bl false))
theorem K_and_ok {b : CE} {env : Env} {k : Bool} : K_and b env (.ok (.bl k)) = Res.cond k (evE b env) (.ok (.bl false)) := rfl
theorem K_and_x {b : CE} {env : Env} {cx : Nat} {n : Int} : K_and b env (.exc cx n) = .exc cx n := rfl
def K_or (b : CE) (env : Env) (r : Res D) : Res D := r >>= fun d => asB d >>= fun k => Res.cond k (.ok (.bl true)) (evE b env)
theorem K_or_ok {b : CE} {env : Env} {k : Bool} : K_or b env (.ok (.bl k)) = Res.cond k (.ok (.bl true)) (evE b env) := rfl
theorem K_or_x {b : CE} {env : Env} {cx : Nat} {n : Int} : K_or b env (.exc cx n) = .exc cx n := rfl
def K_ite (a : CE) (b : CE) (env : Env) (r : Res D) : Res D := r >>= fun d => asB d >>= fun k => Res.cond k (evE a env) (evE b env)
theorem K_ite_ok {a : CE} {b : CE} {env : Env} {k : Bool} : K_ite a b env (.ok (.bl k)) = Res.cond k (evE a env) (evE b env) := rfl
theorem K_ite_x {a : CE} {b : CE} {env : Env} {cx : Nat} {n : Int} : K_ite a b env (.exc cx n) = .exc cx n := rfl
def K_i2 (x : D) (r : Res D) : Res D := r >>= fun y => ixD x y
theorem K_i2_ok {x : D} {y : D} : K_i2 x (.ok y) = ixD x y := rfl
theorem K_i2_x {x : D} {cx : Nat} {n : Int} : K_i2 x (.exc cx n) = .exc cx n := rfl
def K_i1 (i : CE) (env : Env) (r : Res D) : Res D := r >>= fun x => evE i env >>= fun y => ixD x y
theorem K_i1_ok {i : CE} {env : Env} {x : D} : K_i1 i env (.ok x) = K_i2 x (evE i env) := rfl
theorem K_i1_x {i : CE} {env : Env} {cx : Nat} {n : Int} : K_i1 i env (.exc cx n) = .exc cx n := rfl
def K_s3 (x : D) (l : Option Int) (r : Res (Option D)) : Res D := (r >>= intO) >>= fun h => slD x l h
theorem K_s3_n {x : D} {l : Option Int}  : K_s3 x l (.ok none) = slD x l none := rfl
theorem K_s3_ok {x : D} {l : Option Int} {i : Int} : K_s3 x l (.ok (some (.int i))) = slD x l (some i) := rfl
theorem K_s3_x {x : D} {l : Option Int} {cx : Nat} {n : Int} : K_s3 x l (.exc cx n) = .exc cx n := rfl
def K_s2 (x : D) (hi : CEo) (env : Env) (r : Res (Option D)) : Res D := (r >>= intO) >>= fun l => (evO hi env >>= intO) >>= fun h => slD x l h
theorem K_s2_n {x : D} {hi : CEo} {env : Env}  : K_s2 x hi env (.ok none) = K_s3 x none (evO hi env) := rfl
theorem K_s2_ok {x : D} {hi : CEo} {env : Env} {i : Int} : K_s2 x hi env (.ok (some (.int i))) = K_s3 x (some i) (evO hi env) := rfl
theorem K_s2_x {x : D} {hi : CEo} {env : Env} {cx : Nat} {n : Int} : K_s2 x hi env (.exc cx n) = .exc cx n := rfl
def K_s1 (lo : CEo) (hi : CEo) (env : Env) (r : Res D) : Res D := r >>= fun x => (evO lo env >>= intO) >>= fun l => (evO hi env >>= intO) >>= fun h => slD x l h
theorem K_s1_ok {lo : CEo} {hi : CEo} {env : Env} {x : D} : K_s1 lo hi env (.ok x) = K_s2 x hi env (evO lo env) := rfl
theorem K_s1_x {lo : CEo} {hi : CEo} {env : Env} {cx : Nat} {n : Int} : K_s1 lo hi env (.exc cx n) = .exc cx n := rfl
def K_call (f : List D → Res D) (r : Res (List D)) : Res D := r >>= fun ds => f ds
theorem K_call_ok {f : List D → Res D} {ds : List D} : K_call f (.ok ds) = f ds := rfl
theorem K_call_x {f : List D → Res D} {cx : Nat} {n : Int} : K_call f (.exc cx n) = .exc cx n := rfl
def K_blt (b : Blt) (r : Res (List D)) : Res D := r >>= fun ds => bltD b ds
theorem K_blt_ok {b : Blt} {ds : List D} : K_blt b (.ok ds) = bltD b ds := rfl
theorem K_blt_x {b : Blt} {cx : Nat} {n : Int} : K_blt b (.exc cx n) = .exc cx n := rfl
def K_m2 (m : Mth) (x : D) (r : Res (List D)) : Res D := r >>= fun ds => mthD m x ds
theorem K_m2_ok {m : Mth} {x : D} {ds : List D} : K_m2 m x (.ok ds) = mthD m x ds := rfl
theorem K_m2_x {m : Mth} {x : D} {cx : Nat} {n : Int} : K_m2 m x (.exc cx n) = .exc cx n := rfl
def K_m1 (m : Mth) (es : CEs) (env : Env) (r : Res D) : Res D := r >>= fun x => Res.cond (rcvD m x) (K_m2 m x (evEs es env)) .bad
theorem K_m1_ok {m : Mth} {es : CEs} {env : Env} {x : D} : K_m1 m es env (.ok x) = Res.cond (rcvD m x) (K_m2 m x (evEs es env)) .bad := rfl
theorem K_m1_x {m : Mth} {es : CEs} {env : Env} {cx : Nat} {n : Int} : K_m1 m es env (.exc cx n) = .exc cx n := rfl
def K_isi (t : Ty) (r : Res D) : Res D := r >>= fun x => match isiD x t with
    | some b => .ok (.bl b)
    | none => .bad
theorem K_isi_int {t : Ty} {i : Int} : K_isi t (.ok (.int i)) = .ok (.bl (t == .int)) := rfl
theorem K_isi_bl {t : Ty} {i : Bool} : K_isi t (.ok (.bl i)) = .ok (.bl (t == .int || t == .bool)) := rfl
theorem K_isi_str {t : Ty} {i : List Char} : K_isi t (.ok (.str i)) = .ok (.bl (t == .str)) := rfl
theorem K_isi_lst {t : Ty} {i : List D} : K_isi t (.ok (.lst i)) = .ok (.bl (t == .list)) := rfl
theorem K_isi_tup {t : Ty} {i : List D} : K_isi t (.ok (.tup i)) = .ok (.bl (t == .tuple)) := rfl
theorem K_isi_non {t : Ty}  : K_isi t (.ok .non) = .ok (.bl false) := rfl
theorem K_isi_dK {t : Ty} {i : List (Ky × D)} : K_isi t (.ok (.dK i)) = .ok (.bl (t == .dict)) := rfl
theorem K_isi_x {t : Ty} {cx : Nat} {n : Int} : K_isi t (.exc cx n) = .exc cx n := rfl
def K_l2  (r : Res (List D)) : Res D := r >>= fun l => .ok (.lst l)
theorem K_l2_ok  {l : List D} : K_l2  (.ok l) = .ok (.lst l) := rfl
theorem K_l2_x  {cx : Nat} {n : Int} : K_l2  (.exc cx n) = .exc cx n := rfl
def K_lc (tg : Tg) (c : CEo) (e : CE) (env : Env) (r : Res (List D)) : Res D := r >>= fun items => K_l2 (lcLoop (lcG tg c e env) items [])
theorem K_lc_ok {tg : Tg} {c : CEo} {e : CE} {env : Env} {items : List D} : K_lc tg c e env (.ok items) = K_l2 (lcLoop (lcG tg c e env) items []) := rfl
theorem K_lc_x {tg : Tg} {c : CEo} {e : CE} {env : Env} {cx : Nat} {n : Int} : K_lc tg c e env (.exc cx n) = .exc cx n := rfl
def K_sc  (r : Res D) : Res D := r >>= asSc
theorem K_sc_ok  {x : D} : K_sc  (.ok x) = asSc x := rfl
theorem K_sc_x  {cx : Nat} {n : Int} : K_sc  (.exc cx n) = .exc cx n := rfl
def K_tru  (r : Res D) : Res D := r >>= fun x => truD x >>= fun b => .ok (.bl b)
theorem K_tru_ok  {x : D} : K_tru  (.ok x) = blR (truD x) := rfl
theorem K_tru_x  {cx : Nat} {n : Int} : K_tru  (.exc cx n) = .exc cx n := rfl
def K_at  (r : Res D) : Res D := r >>= fun d => match d with
    | .exo n => .ok (.int n)
    | _ => .bad
theorem K_at_ok  {n : Int} : K_at  (.ok (.exo n)) = .ok (.int n) := rfl
theorem K_at_x  {cx : Nat} {n : Int} : K_at  (.exc cx n) = .exc cx n := rfl
def K_n4 (o2 : Cmp) (z : D) (d : CE) (env : Env) (r : Res Bool) : Res D := r >>= fun k => Res.cond k (evE d env >>= fun w => blR (cmpD o2 z w)) (.ok (.bl false))
theorem K_n4_ok {o2 : Cmp} {z : D} {d : CE} {env : Env} {k : Bool} : K_n4 o2 z d env (.ok k) = Res.cond k (K_c2 o2 z (evE d env)) (.ok (.bl false)) := rfl
def K_n3 (o' : Cmp) (o2 : Cmp) (y : D) (d : CE) (env : Env) (r : Res D) : Res D := r >>= fun z => K_n4 o2 z d env (cmpD o' y z)
theorem K_n3_ok {o' : Cmp} {o2 : Cmp} {y : D} {d : CE} {env : Env} {z : D} : K_n3 o' o2 y d env (.ok z) = K_n4 o2 z d env (cmpD o' y z) := rfl
def K_n2 (o' : Cmp) (o2 : Cmp) (y : D) (c : CE) (d : CE) (env : Env) (r : Res Bool) : Res D := r >>= fun k => Res.cond k (K_n3 o' o2 y d env (evE c env)) (.ok (.bl false))
theorem K_n2_ok {o' : Cmp} {o2 : Cmp} {y : D} {c : CE} {d : CE} {env : Env} {k : Bool} : K_n2 o' o2 y c d env (.ok k) = Res.cond k (K_n3 o' o2 y d env (evE c env)) (.ok (.bl false)) := rfl
def K_n0 (o : Cmp) (o' : Cmp) (o2 : Cmp) (x : D) (c : CE) (d : CE) (env : Env) (r : Res D) : Res D := r >>= fun y => K_n2 o' o2 y c d env (cmpD o x y)
theorem K_n0_ok {o : Cmp} {o' : Cmp} {o2 : Cmp} {x : D} {c : CE} {d : CE} {env : Env} {y : D} : K_n0 o o' o2 x c d env (.ok y) = K_n2 o' o2 y c d env (cmpD o x y) := rfl
def K_n1 (o : Cmp) (o' : Cmp) (o2 : Cmp) (b : CE) (c : CE) (d : CE) (env : Env) (r : Res D) : Res D := r >>= fun x => K_n0 o o' o2 x c d env (evE b env)
theorem K_n1_ok {o : Cmp} {o' : Cmp} {o2 : Cmp} {b : CE} {c : CE} {d : CE} {env : Env} {x : D} : K_n1 o o' o2 b c d env (.ok x) = K_n0 o o' o2 x c d env (evE b env) := rfl
def K_lr2 (x : D) (r : Res D) : Res D := r >>= fun y => match x, y with
    | .int i, .int j => if okR i && okR j && decide ((j - i).toNat ≤ lim) then .ok (.lst (rngD i (j - i).toNat)) else .bad
    | _, _ => .bad
theorem K_lr2_ok {i j : Int} : K_lr2 (.int i) (.ok (.int j)) = (if okR i && okR j && decide ((j - i).toNat ≤ lim) then .ok (.lst (rngD i (j - i).toNat)) else .bad) := rfl
def K_lr1 (b : CE) (env : Env) (r : Res D) : Res D := r >>= fun x => K_lr2 x (evE b env)
theorem K_lr1_ok {b : CE} {env : Env} {x : D} : K_lr1 b env (.ok x) = K_lr2 x (evE b env) := rfl
theorem K_lr1_x {b : CE} {env : Env} {cx : Nat} {n : Int} : K_lr1 b env (.exc cx n) = .exc cx n := rfl
def K_lset  (r : Res D) : Res D := r >>= lsetD
theorem K_lset_ok  {x : D} : K_lset  (.ok x) = lsetD x := rfl
theorem K_lset_x  {cx : Nat} {n : Int} : K_lset  (.exc cx n) = .exc cx n := rfl
def K_ks  (r : Res D) : Res (List D) := r >>= keysK
theorem K_ks_ok  {kvs : List (Ky × D)} : K_ks  (.ok (.dK kvs)) = .ok (kvs.map fun p => kd p.1) := rfl
theorem K_ks_x  {cx : Nat} {n : Int} : K_ks  (.exc cx n) = .exc cx n := rfl
theorem E_var {i : Nat} {env : Env} : evE (CE.var i) env = getV env i := by first | rfl | rw [evE] | (rw [evE]; rfl)
theorem E_int {i : Int} {env : Env} : evE (CE.int i) env = .ok (.int i) := by first | rfl | rw [evE] | (rw [evE]; rfl)
theorem E_str {s : List Char} {env : Env} : evE (CE.str s) env = .ok (.str s) := by first | rfl | rw [evE] | (rw [evE]; rfl)
theorem E_bl {b : Bool} {env : Env} : evE (CE.bl b) env = .ok (.bl b) := by first | rfl | rw [evE] | (rw [evE]; rfl)
theorem E_non  {env : Env} : evE (CE.non ) env = .ok .non := by first | rfl | rw [evE] | (rw [evE]; rfl)
theorem E_gi {x : String} {i : Int} {env : Env} : evE (CE.gi x i) env = .ok (.int i) := by first | rfl | rw [evE] | (rw [evE]; rfl)
theorem E_gs {x : String} {s : List Char} {env : Env} : evE (CE.gs x s) env = .ok (.str s) := by first | rfl | rw [evE] | (rw [evE]; rfl)
theorem E_tup {es : CEs} {env : Env} : evE (CE.tup es) env = K_tup (evEs es env) := by first | rfl | rw [evE] | (rw [evE]; rfl)
theorem E_lst {es : CEs} {env : Env} : evE (CE.lst es) env = K_lst (evEs es env) := by first | rfl | rw [evE] | (rw [evE]; rfl)
theorem E_dK  {env : Env} : evE (CE.dK ) env = .ok (.dK []) := by first | rfl | rw [evE] | (rw [evE]; rfl)
theorem E_dT  {env : Env} : evE (CE.dT ) env = .ok (.dT []) := by first | rfl | rw [evE] | (rw [evE]; rfl)
theorem E_neg {a : CE} {env : Env} : evE (CE.neg a) env = K_neg (evE a env) := by first | rfl | rw [evE] | (rw [evE]; rfl)
theorem E_not {a : CE} {env : Env} : evE (CE.not a) env = K_not (evE a env) := by first | rfl | rw [evE] | (rw [evE]; rfl)
theorem E_bin {o : Op2} {a : CE} {b : CE} {env : Env} : evE (CE.bin o a b) env = K_b1 o b env (evE a env) := by first | rfl | rw [evE] | (rw [evE]; rfl)
theorem E_cmp {o : Cmp} {a : CE} {b : CE} {env : Env} : evE (CE.cmp o a b) env = K_c1 o b env (evE a env) := by first | rfl | rw [evE] | (rw [evE]; rfl)
theorem E_chain {o : Cmp} {o' : Cmp} {a : CE} {b : CE} {c : CE} {env : Env} : evE (CE.chain o o' a b c) env = K_h1 o o' b c env (evE a env) := by first | rfl | rw [evE] | (rw [evE]; rfl)
theorem E_and {a : CE} {b : CE} {env : Env} : evE (CE.and a b) env = K_and b env (evE a env) := by first | rfl | rw [evE] | (rw [evE]; rfl)
theorem E_or {a : CE} {b : CE} {env : Env} : evE (CE.or a b) env = K_or b env (evE a env) := by first | rfl | rw [evE] | (rw [evE]; rfl)
theorem E_ite {c : CE} {a : CE} {b : CE} {env : Env} : evE (CE.ite c a b) env = K_ite a b env (evE c env) := by first | rfl | rw [evE] | (rw [evE]; rfl)
theorem E_ix {a : CE} {i : CE} {env : Env} : evE (CE.ix a i) env = K_i1 i env (evE a env) := by first | rfl | rw [evE] | (rw [evE]; rfl)
theorem E_sl {a : CE} {lo : CEo} {hi : CEo} {env : Env} : evE (CE.sl a lo hi) env = K_s1 lo hi env (evE a env) := by first | rfl | rw [evE] | (rw [evE]; rfl)
theorem E_call {x : String} {f : List D → Res D} {R : Own} {es : CEs} {env : Env} : evE (CE.call x f R es) env = K_call f (evEs es env) := by first | rfl | rw [evE] | (rw [evE]; rfl)
theorem E_blt {b : Blt} {es : CEs} {env : Env} : evE (CE.blt b es) env = K_blt b (evEs es env) := by first | rfl | rw [evE] | (rw [evE]; rfl)
theorem E_mth {m : Mth} {o : CE} {es : CEs} {env : Env} : evE (CE.mth m o es) env = K_m1 m es env (evE o env) := by first | rfl | rw [evE] | (rw [evE]; rfl)
theorem E_isi {a : CE} {t : Ty} {env : Env} : evE (CE.isi a t) env = K_isi t (evE a env) := by first | rfl | rw [evE] | (rw [evE]; rfl)
theorem E_lc {tg : Tg} {src : Src} {c : CEo} {e : CE} {env : Env} : evE (CE.lc tg src c e) env = K_lc tg c e env (evSrc src env) := by first | rfl | rw [evE] | (rw [evE]; rfl)
theorem E_sc {a : CE} {env : Env} : evE (CE.sc a) env = K_sc (evE a env) := by first | rfl | rw [evE] | (rw [evE]; rfl)
theorem E_tru {a : CE} {env : Env} : evE (CE.tru a) env = K_tru (evE a env) := by first | rfl | rw [evE] | (rw [evE]; rfl)
theorem E_at {i : Nat} {env : Env} : evE (CE.at i) env = K_at (getV env i) := by first | rfl | rw [evE] | (rw [evE]; rfl)
theorem E_shr {a : CE} {env : Env} : evE (CE.shr a) env = evE a env := by first | rfl | rw [evE] | (rw [evE]; rfl)
theorem E_lrng {a : CE} {b : CE} {env : Env} : evE (CE.lrng a b) env = K_lr1 b env (evE a env) := by first | rfl | rw [evE] | (rw [evE]; rfl)
theorem E_lset {a : CE} {env : Env} : evE (CE.lset a) env = K_lset (evE a env) := by first | rfl | rw [evE] | (rw [evE]; rfl)
theorem E_lck {tg : Tg} {i : Nat} {c : CEo} {e : CE} {env : Env} : evE (CE.lck tg i c e) env = K_lc tg c e env (K_ks (getV env i)) := by first | rfl | rw [evE] | (rw [evE]; rfl)
theorem E_chn {o : Cmp} {o' : Cmp} {o2 : Cmp} {a : CE} {b : CE} {c : CE} {d : CE} {env : Env} : evE (CE.chn o o' o2 a b c d) env = K_n1 o o' o2 b c d env (evE a env) := by first | rfl | rw [evE] | (rw [evE]; rfl)
def K_e2 (d : D) (r : Res (List D)) : Res (List D) := r >>= fun ds => .ok (d :: ds)
theorem K_e2_ok {d : D} {ds : List D} : K_e2 d (.ok ds) = .ok (d :: ds) := rfl
theorem K_e2_x {d : D} {cx : Nat} {n : Int} : K_e2 d (.exc cx n) = .exc cx n := rfl
def K_e1 (es : CEs) (env : Env) (r : Res D) : Res (List D) := r >>= fun d => evEs es env >>= fun ds => .ok (d :: ds)
theorem K_e1_ok {es : CEs} {env : Env} {d : D} : K_e1 es env (.ok d) = K_e2 d (evEs es env) := rfl
theorem K_e1_x {es : CEs} {env : Env} {cx : Nat} {n : Int} : K_e1 es env (.exc cx n) = .exc cx n := rfl
def K_t3 (xs : List D) (r : Res (List D)) : Res (List D) := r >>= fun ds => .ok (xs ++ ds)
theorem K_t3_ok {xs : List D} {ds : List D} : K_t3 xs (.ok ds) = .ok (xs ++ ds) := rfl
theorem K_t3_x {xs : List D} {cx : Nat} {n : Int} : K_t3 xs (.exc cx n) = .exc cx n := rfl
def K_t2 (es : CEs) (env : Env) (r : Res (List D)) : Res (List D) := r >>= fun xs => evEs es env >>= fun ds => .ok (xs ++ ds)
theorem K_t2_ok {es : CEs} {env : Env} {xs : List D} : K_t2 es env (.ok xs) = K_t3 xs (evEs es env) := rfl
theorem K_t2_x {es : CEs} {env : Env} {cx : Nat} {n : Int} : K_t2 es env (.exc cx n) = .exc cx n := rfl
def K_t1 (es : CEs) (env : Env) (r : Res D) : Res (List D) := r >>= fun d => starD d >>= fun xs => evEs es env >>= fun ds => .ok (xs ++ ds)
theorem K_t1_ok {es : CEs} {env : Env} {d : D} : K_t1 es env (.ok d) = K_t2 es env (starD d) := rfl
theorem K_t1_x {es : CEs} {env : Env} {cx : Nat} {n : Int} : K_t1 es env (.exc cx n) = .exc cx n := rfl
def K_o  (r : Res D) : Res (Option D) := r >>= fun d => .ok (some d)
theorem K_o_ok  {d : D} : K_o  (.ok d) = .ok (some d) := rfl
theorem K_o_x  {cx : Nat} {n : Int} : K_o  (.exc cx n) = .exc cx n := rfl
theorem Es_nil  {env : Env} : evEs (CEs.nil ) env = .ok [] := by first | rfl | rw [evEs] | (rw [evEs]; rfl)
theorem Es_cf {e : CE} {es : CEs} {env : Env} : evEs (CEs.cons false e es) env = K_e1 es env (evE e env) := by first | rfl | (rw [evEs]; rfl)
theorem Es_ct {e : CE} {es : CEs} {env : Env} : evEs (CEs.cons true e es) env = K_t1 es env (evE e env) := by first | rfl | (rw [evEs]; rfl)
theorem O_none  {env : Env} : evO (CEo.none ) env = .ok none := by first | rfl | rw [evO] | (rw [evO]; rfl)
theorem O_some {e : CE} {env : Env} : evO (CEo.some e) env = K_o (evE e env) := by first | rfl | rw [evO] | (rw [evO]; rfl)
def K_it  (r : Res D) : Res (List D) := r >>= itemsD
theorem K_it_ok  {d : D} : K_it  (.ok d) = itemsD d := rfl
theorem K_it_x  {cx : Nat} {n : Int} : K_it  (.exc cx n) = .exc cx n := rfl
def K_ky  (r : Res D) : Res (List D) := r >>= keysD
theorem K_ky_ok  {d : D} : K_ky  (.ok d) = keysD d := rfl
theorem K_ky_x  {cx : Nat} {n : Int} : K_ky  (.exc cx n) = .exc cx n := rfl
def K_r1  (r : Res D) : Res (List D) := r >>= fun x => match x with
    | .int j => if okR j then .ok (rngD 0 j.toNat) else .bad
    | _ => .bad
theorem K_r1_ok  {j : Int} : K_r1  (.ok (.int j)) = if okR j then .ok (rngD 0 j.toNat) else .bad := rfl
theorem K_r1_x  {cx : Nat} {n : Int} : K_r1  (.exc cx n) = .exc cx n := rfl
def K_r3 (x : D) (r : Res D) : Res (List D) := r >>= fun y => match x, y with
    | .int i, .int j => if okR i && okR j then .ok (rngD i (j - i).toNat) else .bad
    | _, _ => .bad
theorem K_r3_ok {i j : Int} : K_r3 (.int i) (.ok (.int j)) = (if okR i && okR j then .ok (rngD i (j - i).toNat) else .bad) := rfl
def K_r2 (b : CE) (env : Env) (r : Res D) : Res (List D) := r >>= fun x => K_r3 x (evE b env)
theorem K_r2_ok {b : CE} {env : Env} {x : D} : K_r2 b env (.ok x) = K_r3 x (evE b env) := rfl
theorem K_r2_x {b : CE} {env : Env} {cx : Nat} {n : Int} : K_r2 b env (.exc cx n) = .exc cx n := rfl
def K_d3 (x : D) (r : Res D) : Res (List D) := r >>= fun y => match x, y with
    | .int i, .int j => if okR i && okR j then .ok (downD i (i - j).toNat) else .bad
    | _, _ => .bad
theorem K_d3_ok {i j : Int} : K_d3 (.int i) (.ok (.int j)) = (if okR i && okR j then .ok (downD i (i - j).toNat) else .bad) := rfl
def K_d2 (b : CE) (env : Env) (r : Res D) : Res (List D) := r >>= fun x => K_d3 x (evE b env)
theorem K_d2_ok {b : CE} {env : Env} {x : D} : K_d2 b env (.ok x) = K_d3 x (evE b env) := rfl
theorem K_d2_x {b : CE} {env : Env} {cx : Nat} {n : Int} : K_d2 b env (.exc cx n) = .exc cx n := rfl
theorem Sr_over {e : CE} {env : Env} : evSrc (Src.over e) env = K_it (evE e env) := by first | rfl | rw [evSrc] | (rw [evSrc]; rfl)
theorem Sr_rng1 {a : CE} {env : Env} : evSrc (Src.rng1 a) env = K_r1 (evE a env) := by first | rfl | rw [evSrc] | (rw [evSrc]; rfl)
theorem Sr_rng2 {a : CE} {b : CE} {env : Env} : evSrc (Src.rng2 a b) env = K_r2 b env (evE a env) := by first | rfl | rw [evSrc] | (rw [evSrc]; rfl)
theorem Sr_down {a : CE} {b : CE} {env : Env} : evSrc (Src.down a b) env = K_d2 b env (evE a env) := by first | rfl | rw [evSrc] | (rw [evSrc]; rfl)
theorem Sr_keys {e : CE} {env : Env} : evSrc (Src.keys e) env = K_ky (evE e env) := by first | rfl | rw [evSrc] | (rw [evSrc]; rfl)
def K_g2  (r : Res D) : Res (Option D) := r >>= fun x => .ok (some x)
theorem K_g2_ok  {x : D} : K_g2  (.ok x) = .ok (some x) := rfl
theorem K_g2_x  {cx : Nat} {n : Int} : K_g2  (.exc cx n) = .exc cx n := rfl
def K_g1 (e : CE) (r : Res Env) : Res (Option D) := r >>= fun env' => K_g2 (evE e env')
theorem K_g1_ok {e : CE} {env : Env} : K_g1 e (.ok env) = K_g2 (evE e env) := rfl
theorem K_g1_x {e : CE} {cx : Nat} {n : Int} : K_g1 e (.exc cx n) = .exc cx n := rfl
def K_g4 (e : CE) (env : Env) (r : Res D) : Res (Option D) := r >>= fun b => asB b >>= fun k => Res.cond k (K_g2 (evE e env)) (.ok none)
theorem K_g4_ok {e : CE} {env : Env} {k : Bool} : K_g4 e env (.ok (.bl k)) = Res.cond k (K_g2 (evE e env)) (.ok none) := rfl
theorem K_g4_x {e : CE} {env : Env} {cx : Nat} {n : Int} : K_g4 e env (.exc cx n) = .exc cx n := rfl
def K_g3 (c : CE) (e : CE) (r : Res Env) : Res (Option D) := r >>= fun env' => K_g4 e env' (evE c env')
theorem K_g3_ok {c : CE} {e : CE} {env : Env} : K_g3 c e (.ok env) = K_g4 e env (evE c env) := rfl
theorem K_g3_x {c : CE} {e : CE} {cx : Nat} {n : Int} : K_g3 c e (.exc cx n) = .exc cx n := rfl
theorem lcG_n {tg : Tg} {e : CE} {env : Env} {d : D} : lcG tg .none e env d = K_g1 e (bindT tg d (wipeE env (tgIs tg))) := by
  unfold lcG K_g1
  cases bindT tg d (wipeE env (tgIs tg)) <;> first | rfl | (show (evO CEo.none _ >>= _) = _; rw [evO]; rfl)
theorem lcG_s {tg : Tg} {c e : CE} {env : Env} {d : D} : lcG tg (.some c) e env d = K_g3 c e (bindT tg d (wipeE env (tgIs tg))) := by
  unfold lcG K_g3
  cases bindT tg d (wipeE env (tgIs tg)) with
  | ok env' =>
    show (evO (CEo.some c) env' >>= _) = K_g4 e env' (evE c env')
    rw [evO]
    cases evE c env' <;> rfl
  | _ => rfl
def K_p1 (i : Nat) (r : Res D) : Res (Nat × List D × D) := r >>= fun d => .ok (i, [], d)
theorem K_p1_ok {i : Nat} {d : D} : K_p1 i (.ok d) = .ok (i, [], d) := rfl
theorem K_p1_x {i : Nat} {cx : Nat} {n : Int} : K_p1 i (.exc cx n) = .exc cx n := rfl
def K_p4 (p : Nat × List D × D) (q : D) (r : Option D) : Res (Nat × List D × D) := match r with
    | some y => .ok (p.1, p.2.1 ++ [q], y)
    | none => .bad
theorem K_p4_ok {p : Nat × List D × D} {q : D} {y : D} : K_p4 p q (some y) = .ok (p.1, p.2.1 ++ [q], y) := rfl
def K_p3 (p : Nat × List D × D) (r : Res D) : Res (Nat × List D × D) := r >>= fun q => K_p4 p q (stepD p.2.2 q)
theorem K_p3_ok {p : Nat × List D × D} {q : D} : K_p3 p (.ok q) = K_p4 p q (stepD p.2.2 q) := rfl
theorem K_p3_x {p : Nat × List D × D} {cx : Nat} {n : Int} : K_p3 p (.exc cx n) = .exc cx n := rfl
def K_p2 (p : CE) (env : Env) (r : Res (Nat × List D × D)) : Res (Nat × List D × D) := r >>= fun b => K_p3 b (evE p env)
theorem K_p2_ok {p : CE} {env : Env} {b : Nat × List D × D} : K_p2 p env (.ok b) = K_p3 b (evE p env) := rfl
theorem K_p2_x {p : CE} {env : Env} {cx : Nat} {n : Int} : K_p2 p env (.exc cx n) = .exc cx n := rfl
theorem P_var {i : Nat} {env : Env} : pathD (.var i) env = K_p1 i (getV env i) := by first | rfl | (rw [pathD]; rfl)
theorem P_ix {b p : CE} {env : Env} : pathD (.ix b p) env = K_p2 p env (pathD b env) := by first | rfl | (rw [pathD]; rfl)
def T_set (i : Nat) (env : Env) (r : Res D) : Fl := r.fl env fun d => .nx (env.set i (some d))
theorem T_set_ok {i : Nat} {env : Env} {d : D} : T_set i env (.ok d) = .nx (env.set i (some d)) := rfl
theorem T_set_x {i : Nat} {env : Env} {cx : Nat} {n : Int} : T_set i env (.exc cx n) = .exc cx n env := rfl
def T_b (env : Env) (r : Res Env) : Fl := r.fl env .nx
theorem T_b_ok {env : Env} {e : Env} : T_b env (.ok e) = .nx e := rfl
theorem T_b_x {env : Env} {cx : Nat} {n : Int} : T_b env (.exc cx n) = .exc cx n env := rfl
def T_unp (is : List Nat) (env : Env) (r : Res D) : Fl := r.fl env fun d => T_b env (bindT (.tup is) d env)
theorem T_unp_ok {is : List Nat} {env : Env} {d : D} : T_unp is env (.ok d) = T_b env (bindT (.tup is) d env) := rfl
theorem T_unp_x {is : List Nat} {env : Env} {cx : Nat} {n : Int} : T_unp is env (.exc cx n) = .exc cx n env := rfl
def T_par2 (i : Nat) (j : Nat) (x : D) (env : Env) (r : Res D) : Fl := r.fl env fun y => .nx ((env.set i (some x)).set j (some y))
theorem T_par2_ok {i : Nat} {j : Nat} {x : D} {env : Env} {y : D} : T_par2 i j x env (.ok y) = .nx ((env.set i (some x)).set j (some y)) := rfl
theorem T_par2_x {i : Nat} {j : Nat} {x : D} {env : Env} {cx : Nat} {n : Int} : T_par2 i j x env (.exc cx n) = .exc cx n env := rfl
def T_par (i : Nat) (j : Nat) (b : CE) (env : Env) (r : Res D) : Fl := r.fl env fun x => T_par2 i j x env (evE b env)
theorem T_par_ok {i : Nat} {j : Nat} {b : CE} {env : Env} {x : D} : T_par i j b env (.ok x) = T_par2 i j x env (evE b env) := rfl
theorem T_par_x {i : Nat} {j : Nat} {b : CE} {env : Env} {cx : Nat} {n : Int} : T_par i j b env (.exc cx n) = .exc cx n env := rfl
def T_aug2 (i : Nat) (o : Op2) (x : D) (env : Env) (r : Res D) : Fl := r.fl env fun y => T_set i env (opI o x y)
theorem T_aug2_ok {i : Nat} {o : Op2} {x : D} {env : Env} {y : D} : T_aug2 i o x env (.ok y) = T_set i env (opI o x y) := rfl
theorem T_aug2_x {i : Nat} {o : Op2} {x : D} {env : Env} {cx : Nat} {n : Int} : T_aug2 i o x env (.exc cx n) = .exc cx n env := rfl
def T_aug (i : Nat) (o : Op2) (e : CE) (env : Env) (r : Res D) : Fl := r.fl env fun x => T_aug2 i o x env (evE e env)
theorem T_aug_ok {i : Nat} {o : Op2} {e : CE} {env : Env} {x : D} : T_aug i o e env (.ok x) = T_aug2 i o x env (evE e env) := rfl
theorem T_aug_x {i : Nat} {o : Op2} {e : CE} {env : Env} {cx : Nat} {n : Int} : T_aug i o e env (.exc cx n) = .exc cx n env := rfl
def T_m4 (f : D → Res D) (p : Nat × List D × D) (env : Env) (r : Res D) : Fl := r.fl env fun x => T_set p.1 env (updAt f p.2.1 x)
theorem T_m4_ok {f : D → Res D} {p : Nat × List D × D} {env : Env} {x : D} : T_m4 f p env (.ok x) = T_set p.1 env (updAt f p.2.1 x) := rfl
theorem T_m4_x {f : D → Res D} {p : Nat × List D × D} {env : Env} {cx : Nat} {n : Int} : T_m4 f p env (.exc cx n) = .exc cx n env := rfl
def T_m3 (m : Mut) (p : Nat × List D × D) (env : Env) (r : Res (List D)) : Fl := r.fl env fun ds => T_m4 (mutD m ds) p env (getV env p.1)
theorem T_m3_ok {m : Mut} {p : Nat × List D × D} {env : Env} {ds : List D} : T_m3 m p env (.ok ds) = T_m4 (mutD m ds) p env (getV env p.1) := rfl
theorem T_m3_x {m : Mut} {p : Nat × List D × D} {env : Env} {cx : Nat} {n : Int} : T_m3 m p env (.exc cx n) = .exc cx n env := rfl
def T_m2 (m : Mut) (p : Nat × List D × D) (es : CEs) (env : Env) (r : Res Unit) : Fl := r.fl env fun _ => T_m3 m p env (evEs es env)
theorem T_m2_ok {m : Mut} {p : Nat × List D × D} {es : CEs} {env : Env} {u : Unit} : T_m2 m p es env (.ok u) = T_m3 m p env (evEs es env) := rfl
def T_m1 (m : Mut) (es : CEs) (env : Env) (r : Res (Nat × List D × D)) : Fl := r.fl env fun p => T_m2 m p es env (lstOk p.2.2)
theorem T_m1_ok {m : Mut} {es : CEs} {env : Env} {p : Nat × List D × D} : T_m1 m es env (.ok p) = T_m2 m p es env (lstOk p.2.2) := rfl
theorem T_m1_x {m : Mut} {es : CEs} {env : Env} {cx : Nat} {n : Int} : T_m1 m es env (.exc cx n) = .exc cx n env := rfl
def T_p3 (v : D) (p : Nat × List D × D) (env : Env) (r : Res D) : Fl := r.fl env fun k => T_m4 (putD k v) p env (getV env p.1)
theorem T_p3_ok {v : D} {p : Nat × List D × D} {env : Env} {k : D} : T_p3 v p env (.ok k) = T_m4 (putD k v) p env (getV env p.1) := rfl
theorem T_p3_x {v : D} {p : Nat × List D × D} {env : Env} {cx : Nat} {n : Int} : T_p3 v p env (.exc cx n) = .exc cx n env := rfl
def T_p2 (v : D) (k : CE) (env : Env) (r : Res (Nat × List D × D)) : Fl := r.fl env fun p => T_p3 v p env (evE k env)
theorem T_p2_ok {v : D} {k : CE} {env : Env} {p : Nat × List D × D} : T_p2 v k env (.ok p) = T_p3 v p env (evE k env) := rfl
theorem T_p2_x {v : D} {k : CE} {env : Env} {cx : Nat} {n : Int} : T_p2 v k env (.exc cx n) = .exc cx n env := rfl
def T_p1 (b : CE) (k : CE) (env : Env) (r : Res D) : Fl := r.fl env fun v => T_p2 v k env (pathD b env)
theorem T_p1_ok {b : CE} {k : CE} {env : Env} {v : D} : T_p1 b k env (.ok v) = T_p2 v k env (pathD b env) := rfl
theorem T_p1_x {b : CE} {k : CE} {env : Env} {cx : Nat} {n : Int} : T_p1 b k env (.exc cx n) = .exc cx n env := rfl
def T_a3 (i : Nat) (k : D) (y : D) (env : Env) (r : Res D) : Fl := r.fl env fun v => T_set i env (sdaD k v y)
theorem T_a3_ok {i : Nat} {k : D} {y : D} {env : Env} {v : D} : T_a3 i k y env (.ok v) = T_set i env (sdaD k v y) := rfl
theorem T_a3_x {i : Nat} {k : D} {y : D} {env : Env} {cx : Nat} {n : Int} : T_a3 i k y env (.exc cx n) = .exc cx n env := rfl
def T_a2 (i : Nat) (k : D) (e : CE) (env : Env) (r : Res D) : Fl := r.fl env fun y => T_a3 i k y (env.set i (some y)) (evE e (env.set i (some y)))
theorem T_a2_ok {i : Nat} {k : D} {e : CE} {env : Env} {y : D} : T_a2 i k e env (.ok y) = T_a3 i k y (env.set i (some y)) (evE e (env.set i (some y))) := rfl
theorem T_a2_x {i : Nat} {k : D} {e : CE} {env : Env} {cx : Nat} {n : Int} : T_a2 i k e env (.exc cx n) = .exc cx n env := rfl
def T_a1 (i : Nat) (k : D) (e : CE) (env : Env) (r : Res D) : Fl := r.fl env fun x => T_a2 i k e env (sdfD k x)
theorem T_a1_ok {i : Nat} {k : D} {e : CE} {env : Env} {x : D} : T_a1 i k e env (.ok x) = T_a2 i k e env (sdfD k x) := rfl
theorem T_a1_x {i : Nat} {k : D} {e : CE} {env : Env} {cx : Nat} {n : Int} : T_a1 i k e env (.exc cx n) = .exc cx n env := rfl
def T_a0 (i : Nat) (e : CE) (env : Env) (r : Res D) : Fl := (noX r).fl env fun k => T_a1 i k e env (getV env i)
theorem T_a0_ok {i : Nat} {e : CE} {env : Env} {k : D} : T_a0 i e env (.ok k) = T_a1 i k e env (getV env i) := rfl
def T_cr (e : CE) (env : Env) (r : Res D) : Fl := (r >>= asB).fl env fun k => if k then (evE e env).fl env .rt else .nx env
theorem T_cr_t {e : CE} {env : Env} : T_cr e env (.ok (.bl true)) = (evE e env).fl env .rt := rfl
theorem T_cr_f {e : CE} {env : Env} : T_cr e env (.ok (.bl false)) = .nx env := rfl
def T_lk (tg : Tg) (body : CSs) (env : Env) (r : Res (List D)) : Fl := r.fl env fun items => lockF (forLoop tg (evSs body) items env)
theorem T_lk_ok {tg : Tg} {body : CSs} {env : Env} {items : List D} : T_lk tg body env (.ok items) = lockF (forLoop tg (evSs body) items env) := rfl
theorem T_lk_x {tg : Tg} {body : CSs} {env : Env} {cx : Nat} {n : Int} : T_lk tg body env (.exc cx n) = .exc cx n env := rfl
def T_fc (j : Nat) (c : CE) (e : CE) (env : Env) (r : Res D) : Fl := r.fl env fun d => match d with
    | .lst items => forLoop (.name j) (fun env => T_cr e env (evE c env)) items env
    | _ => .bad
theorem T_fc_ok {j : Nat} {c : CE} {e : CE} {env : Env} {items : List D} : T_fc j c e env (.ok (.lst items)) = forLoop (.name j) (fun env => T_cr e env (evE c env)) items env := rfl
theorem T_fc_x {j : Nat} {c : CE} {e : CE} {env : Env} {cx : Nat} {n : Int} : T_fc j c e env (.exc cx n) = .exc cx n env := rfl
def T_c2 (i : Nat) (x : D) (env : Env) (r : Res D) : Fl := (r >>= fun d => match d with
    | .lst ds => if ds.length < lim then .ok (.lst (x :: ds)) else .bad
    | _ => .bad).fl env fun d => .nx (env.set i (some d))
theorem T_c2_ok {i : Nat} {x : D} {env : Env} {ds : List D} : T_c2 i x env (.ok (.lst ds)) = T_set i env (if ds.length < lim then .ok (.lst (x :: ds)) else .bad) := rfl
theorem T_c2_x {i : Nat} {x : D} {env : Env} {cx : Nat} {n : Int} : T_c2 i x env (.exc cx n) = .exc cx n env := rfl
def T_c1 (i : Nat) (env : Env) (r : Res D) : Fl := r.fl env fun x => T_c2 i x env (getV env i)
theorem T_c1_ok {i : Nat} {env : Env} {x : D} : T_c1 i env (.ok x) = T_c2 i x env (getV env i) := rfl
theorem T_c1_x {i : Nat} {env : Env} {cx : Nat} {n : Int} : T_c1 i env (.exc cx n) = .exc cx n env := rfl
def T_drop (env : Env) (r : Res D) : Fl := r.fl env fun _ => .nx env
theorem T_drop_ok {env : Env} {d : D} : T_drop env (.ok d) = .nx env := rfl
theorem T_drop_x {env : Env} {cx : Nat} {n : Int} : T_drop env (.exc cx n) = .exc cx n env := rfl
def T_ite (a : CSs) (b : CSs) (env : Env) (r : Res D) : Fl := (r >>= asB).fl env fun k => Fl.br k a b env
theorem T_ite_ok {a : CSs} {b : CSs} {env : Env} {k : Bool} : T_ite a b env (.ok (.bl k)) = Fl.br k a b env := rfl
theorem T_ite_x {a : CSs} {b : CSs} {env : Env} {cx : Nat} {n : Int} : T_ite a b env (.exc cx n) = .exc cx n env := rfl
def T_for (tg : Tg) (body : CSs) (env : Env) (r : Res (List D)) : Fl := r.fl env fun items => forLoop tg (evSs body) items env
theorem T_for_ok {tg : Tg} {body : CSs} {env : Env} {items : List D} : T_for tg body env (.ok items) = forLoop tg (evSs body) items env := rfl
theorem T_for_x {tg : Tg} {body : CSs} {env : Env} {cx : Nat} {n : Int} : T_for tg body env (.exc cx n) = .exc cx n env := rfl
def T_ret (env : Env) (r : Res D) : Fl := r.fl env .rt
theorem T_ret_ok {env : Env} {d : D} : T_ret env (.ok d) = .rt d := rfl
theorem T_ret_x {env : Env} {cx : Nat} {n : Int} : T_ret env (.exc cx n) = .exc cx n env := rfl
def T_rse (c : Nat) (env : Env) (r : Res D) : Fl := r.fl env fun d => match d with
    | .int n => .exc c n env
    | _ => .bad
theorem T_rse_ok {c : Nat} {env : Env} {n : Int} : T_rse c env (.ok (.int n)) = .exc c n env := rfl
theorem S_set {i : Nat} {e : CE} {env : Env} : evS (CS.set i e) env = T_set i env (evE e env) := by first | rfl | rw [evS] | (rw [evS]; rfl)
theorem S_setC {i : Nat} {e : CE} {env : Env} : evS (CS.setC i e) env = T_set i env (evE e env) := by first | rfl | rw [evS] | (rw [evS]; rfl)
theorem S_unp {is : List Nat} {e : CE} {env : Env} : evS (CS.unp is e) env = T_unp is env (evE e env) := by first | rfl | rw [evS] | (rw [evS]; rfl)
theorem S_drop {e : CE} {env : Env} : evS (CS.drop e) env = T_drop env (evE e env) := by first | rfl | rw [evS] | (rw [evS]; rfl)
theorem S_ite {c : CE} {a : CSs} {b : CSs} {env : Env} : evS (CS.ite c a b) env = T_ite a b env (evE c env) := by first | rfl | rw [evS] | (rw [evS]; rfl)
theorem S_for {tg : Tg} {src : Src} {body : CSs} {env : Env} : evS (CS.forS tg src body) env = T_for tg body env (evSrc src env) := by first | rfl | rw [evS] | (rw [evS]; rfl)
theorem S_whl {n : Nat} {c : CE} {body : CSs} {env : Env} : evS (CS.whl n c body) env = whLoop (evE c) (evSs body) n env := by first | rfl | rw [evS] | (rw [evS]; rfl)
theorem S_ret {e : CE} {env : Env} : evS (CS.ret e) env = T_ret env (evE e env) := by first | rfl | rw [evS] | (rw [evS]; rfl)
theorem S_retN  {env : Env} : evS (CS.retN ) env = .rt .non := by first | rfl | rw [evS] | (rw [evS]; rfl)
theorem S_rse {c : Nat} {e : CE} {env : Env} : evS (CS.rse c e) env = T_rse c env (evE e env) := by first | rfl | rw [evS] | (rw [evS]; rfl)
theorem S_pass  {env : Env} : evS (CS.pass ) env = .nx env := by first | rfl | rw [evS] | (rw [evS]; rfl)
theorem S_brk  {env : Env} : evS (CS.brk ) env = .bk env := by first | rfl | rw [evS] | (rw [evS]; rfl)
theorem S_wk {i : Nat} {o : Own} {env : Env} : evS (CS.wk i o) env = .nx env := by first | rfl | rw [evS] | (rw [evS]; rfl)
theorem S_kill {i : Nat} {env : Env} : evS (CS.kill i) env = .nx (env.set i none) := by first | rfl | rw [evS] | (rw [evS]; rfl)
theorem S_forC {j : Nat} {i : Nat} {c : CE} {e : CE} {env : Env} : evS (CS.forC j i c e) env = T_fc j c e env (getV env i) := by first | rfl | rw [evS] | (rw [evS]; rfl)
theorem S_par {i : Nat} {j : Nat} {a : CE} {b : CE} {env : Env} : evS (CS.par i j a b) env = T_par i j b env (evE a env) := by
  rw [evS]
  cases evE a env with
  | ok x => cases h : evE b env <;> simp only [T_par_ok, h] <;> rfl
  | _ => rfl
theorem S_aug {i : Nat} {o : Op2} {e : CE} {env : Env} : evS (CS.aug i o e) env = T_aug i o e env (getV env i) := by
  rw [evS]
  cases getV env i with
  | ok x => cases h : evE e env <;> simp only [T_aug_ok, h] <;> rfl
  | _ => rfl
theorem S_mut {b : CE} {m : Mut} {es : CEs} {env : Env} : evS (CS.mut b m es) env = T_m1 m es env (pathD b env) := by
  rw [evS]
  cases pathD b env with
  | ok p =>
    simp only [T_m1_ok, Res.ok_bind]
    cases h1 : lstOk p.2.2 with
    | ok u =>
      simp only [T_m2_ok, Res.ok_bind]
      cases h2 : evEs es env with
      | ok ds =>
        simp only [T_m3_ok, Res.ok_bind]
        cases h3 : getV env p.1 with
        | ok x =>
          simp only [T_m4_ok, Res.ok_bind]
          cases h4 : updAt (mutD m ds) p.2.1 x <;> rfl
        | _ => rfl
      | _ => rfl
    | _ => rfl
  | _ => rfl
theorem S_put {b : CE} {k : CE} {e : CE} {env : Env} : evS (CS.put b k e) env = T_p1 b k env (evE e env) := by
  rw [evS]
  cases evE e env with
  | ok v =>
    simp only [T_p1_ok, Res.ok_bind]
    cases h1 : pathD b env with
    | ok p =>
      simp only [T_p2_ok, Res.ok_bind]
      cases h2 : evE k env with
      | ok kk =>
        simp only [T_p3_ok, Res.ok_bind]
        cases h3 : getV env p.1 with
        | ok x =>
          simp only [T_m4_ok, Res.ok_bind]
          cases h4 : updAt (putD kk v) p.2.1 x <;> rfl
        | _ => rfl
      | _ => rfl
    | _ => rfl
  | _ => rfl
theorem S_forK {tg : Tg} {i : Nat} {body : CSs} {env : Env} : evS (CS.forK tg i body) env = T_lk tg body env (K_ks (getV env i)) := by
  rw [evS]
  rfl
theorem S_cns {i : Nat} {e : CE} {env : Env} : evS (CS.cns i e) env = T_c1 i env (evE e env) := by
  rw [evS]
  cases evE e env with
  | ok x =>
    simp only [T_c1_ok, Res.ok_bind]
    cases getV env i <;> rfl
  | _ => rfl
theorem S_sda {i : Nat} {k : CE} {e : CE} {env : Env} : evS (CS.sda i k e) env = T_a0 i e env (evE k env) := by
  rw [evS]
  cases evE k env with
  | ok kk =>
    simp only [T_a0_ok, Res.ok_bind, noX_ok]
    cases h1 : getV env i with
    | ok x =>
      simp only [T_a1_ok, Res.ok_bind]
      cases h2 : sdfD kk x with
      | ok y =>
        simp only [T_a2_ok, Res.ok_bind, fl_ok]
        cases h3 : evE e (env.set i (some y)) <;> rfl
      | _ => rfl
    | _ => rfl
  | _ => rfl
/-- how it ends -/
def Fl.sat (r : Fl) (N : Env → Prop) (T : D → Prop) : Prop := match r with
  | .nx e => N e
  | .rt d => T d
  | _ => False
@[simp] theorem sat_nx (e : Env) (N : Env → Prop) (T : D → Prop) : (Fl.nx e).sat N T = N e := rfl
@[simp] theorem sat_rt (d : D) (N : Env → Prop) (T : D → Prop) : (Fl.rt d).sat N T = T d := rfl
theorem sat_imp {r : Fl} {N N' : Env → Prop} {T T' : D → Prop} (h : r.sat N T) (n : ∀ e, N e → N' e) (t : ∀ d, T d → T' d) : r.sat N' T' := by
  cases r <;> first | exact n _ h | exact t _ h | exact h
theorem sat_seq {r : Fl} {ss : CSs} {N : Env → Prop} {T : D → Prop} (h : r.sat (fun e => (evSs ss e).sat N T) T) : (r.seq ss).sat N T := by
  cases r <;> exact h
theorem sat_to {r : Fl} {ss : CSs} {M N : Env → Prop} {T : D → Prop} (h : r.sat M T) (k : ∀ e, M e → (evSs ss e).sat N T) : (r.seq ss).sat N T := sat_seq (sat_imp h k fun _ z => z)
/-- what a def's run gives -/
def Fl.res (r : Fl) : Res D := match r with
  | .nx _ => .ok .non
  | .rt d => .ok d
  | .exc c n _ => .exc c n
  | _ => .bad
@[simp] theorem res_nx (e : Env) : (Fl.nx e).res = .ok .non := rfl
@[simp] theorem res_rt (d : D) : (Fl.rt d).res = .ok d := rfl
@[simp] theorem res_exc (c : Nat) (n : Int) (e : Env) : (Fl.exc c n e).res = .exc c n := rfl
theorem run_eq (d : Def) (ds : List D) (h : ds.length = d.npar) : d.run ds = (evSs d.body (ds.map some ++ List.replicate (d.names.length - d.npar) none)).res := by
  unfold Def.run
  rw [if_pos h]
  cases evSs d.body (ds.map some ++ List.replicate (d.names.length - d.npar) none) <;> rfl
theorem run_sat {d : Def} {ds : List D} {Q : D → Prop} (h : ds.length = d.npar) (s : (evSs d.body (ds.map some ++ List.replicate (d.names.length - d.npar) none)).sat (fun _ => Q .non) Q) : ∃ r, d.run ds = .ok r ∧ Q r := by
  rw [run_eq d ds h]
  cases e : evSs d.body (ds.map some ++ List.replicate (d.names.length - d.npar) none) with
  | nx e' => rw [e] at s; exact ⟨_, rfl, s⟩
  | rt d' => rw [e] at s; exact ⟨_, rfl, s⟩
  | _ => rw [e] at s; exact s.elim
theorem run_is {d : Def} {ds : List D} {v : D} (h : ds.length = d.npar) (s : (evSs d.body (ds.map some ++ List.replicate (d.names.length - d.npar) none)).sat (fun _ => v = .non) (fun r => r = v)) : d.run ds = .ok v := by
  rw [run_eq d ds h]
  cases e : evSs d.body (ds.map some ++ List.replicate (d.names.length - d.npar) none) with
  | nx e' => rw [e] at s; have s : v = .non := s; rw [s]; rfl
  | rt d' => rw [e] at s; have s : d' = v := s; rw [s]; rfl
  | _ => rw [e] at s; exact s.elim

/-! ### loops -/
theorem for_nil (tg : Tg) (f : Env → Fl) (env : Env) : forLoop tg f [] env = .nx env := by rw [forLoop]
def L_f2 (tg : Tg) (f : Env → Fl) (ds : List D) (r : Fl) : Fl := match r with
  | .nx e2 => forLoop tg f ds e2
  | .bk e2 => .nx e2
  | r => r
def L_f1 (tg : Tg) (f : Env → Fl) (ds : List D) (env : Env) (r : Res Env) : Fl := r.fl env fun e1 => L_f2 tg f ds (f e1)
theorem L_f1_ok {tg : Tg} {f : Env → Fl} {ds : List D} {env e1 : Env} : L_f1 tg f ds env (.ok e1) = L_f2 tg f ds (f e1) := rfl
theorem L_f2_nx {tg : Tg} {f : Env → Fl} {ds : List D} {e2 : Env} : L_f2 tg f ds (.nx e2) = forLoop tg f ds e2 := rfl
theorem L_f2_bk {tg : Tg} {f : Env → Fl} {ds : List D} {e2 : Env} : L_f2 tg f ds (.bk e2) = .nx e2 := rfl
theorem L_f2_rt {tg : Tg} {f : Env → Fl} {ds : List D} {d : D} : L_f2 tg f ds (.rt d) = .rt d := rfl
theorem L_f2_exc {tg : Tg} {f : Env → Fl} {ds : List D} {c : Nat} {n : Int} {e : Env} : L_f2 tg f ds (.exc c n e) = .exc c n e := rfl
theorem for_cons (tg : Tg) (f : Env → Fl) (d : D) (ds : List D) (env : Env) : forLoop tg f (d :: ds) env = L_f1 tg f ds env (bindT tg d env) := by
  rw [forLoop]
  unfold L_f1
  cases bindT tg d env with
  | ok e1 => 
    show (match f e1 with
      | Fl.nx e2 => forLoop tg f ds e2
      | Fl.bk e2 => Fl.nx e2
      | r => r) = L_f2 tg f ds (f e1)
    cases f e1 <;> rfl
  | _ => rfl
theorem for_sat {α : Type} {enc : α → D} {tg : Tg} {f : Env → Fl} {N : Env → Prop} {T : D → Prop} (I : List α → Env → Prop) : ∀ (as dn : List α) (env : Env),
    I dn env → (∀ (d : List α) (a : α) (r : List α), dn ++ as = d ++ a :: r → ∀ e, I d e → ∃ e1, bindT tg (enc a) e = .ok e1 ∧ (f e1).sat (I (d ++ [a])) T) → (∀ e, I (dn ++ as) e → N e) → (forLoop tg f (as.map enc) env).sat N T
  | [], dn, env, h, _, n => by
    rw [List.map_nil, for_nil]
    exact n env (by simpa using h)
  | a :: as, dn, env, h, st, n => by
    rw [List.map_cons, forLoop]
    obtain ⟨e1, b, s⟩ := st dn a as rfl env h
    rw [b, fl_ok]
    cases e : f e1 with
    | nx e2 =>
      rw [e] at s
      exact for_sat I as (dn ++ [a]) e2 s (fun d a' r hh => st d a' r (by simpa using hh)) fun e => by simpa using n e
    | rt d => rw [e] at s; exact s
    | _ => rw [e] at s; exact s.elim
/-- a loop that goes over all -/
theorem for_inv {α : Type} {enc : α → D} {tg : Tg} {f : Env → Fl} {env : Env} {N : Env → Prop} {T : D → Prop} (as : List α) (I : List α → Env → Prop) (h0 : I [] env)
    (st : ∀ (d : List α) (a : α) (r : List α), as = d ++ a :: r → ∀ e, I d e → ∃ e1, bindT tg (enc a) e = .ok e1 ∧ (f e1).sat (I (d ++ [a])) T) (n : ∀ e, I as e → N e) : (forLoop tg f (as.map enc) env).sat N T :=
  for_sat I as [] env h0 st n
theorem range_split {n : Nat} {d r : List Nat} {a : Nat} (h : List.range n = d ++ a :: r) : d = List.range a ∧ a < n := by
  have hl : d.length < n := by
    have := congrArg List.length h
    simp at this; omega
  have e1 : (List.range n)[d.length]? = some a := by rw [h]; simp
  rw [List.getElem?_range hl] at e1
  have ea : d.length = a := Option.some.inj e1
  refine ⟨?_, by omega⟩
  have : d = (List.range n).take d.length := by rw [h]; simp
  rw [this, List.take_range, ← ea]
  congr 1
  omega
/-- for i in range(n): I i before turn i -/
theorem for_rng {tg : Tg} {f : Env → Fl} {env : Env} {N : Env → Prop} {T : D → Prop} {lo : Int} (n : Nat) (I : Nat → Env → Prop) (h0 : I 0 env)
    (st : ∀ i, i < n → ∀ e, I i e → ∃ e1, bindT tg (.int (lo + i)) e = .ok e1 ∧ (f e1).sat (I (i + 1)) T) (nn : ∀ e, I n e → N e) : (forLoop tg f (rngD lo n) env).sat N T := by
  unfold rngD
  refine for_inv (List.range n) (fun d e => I d.length e) h0 (fun d a r h e he => ?_) fun e he => nn e (by simpa using he)
  obtain ⟨hd, ha⟩ := range_split h
  have hl : d.length = a := by rw [hd]; simp
  obtain ⟨e1, b, s⟩ := st a ha e (by rw [← hl]; exact he)
  refine ⟨e1, b, sat_imp s (fun e2 h2 => ?_) fun _ z => z⟩
  show I (d ++ [a]).length e2
  rw [List.length_append, hl]; exact h2
theorem for_down {tg : Tg} {f : Env → Fl} {env : Env} {N : Env → Prop} {T : D → Prop} {lo : Int} (n : Nat) (I : Nat → Env → Prop) (h0 : I 0 env)
    (st : ∀ i, i < n → ∀ e, I i e → ∃ e1, bindT tg (.int (lo - i)) e = .ok e1 ∧ (f e1).sat (I (i + 1)) T) (nn : ∀ e, I n e → N e) : (forLoop tg f (downD lo n) env).sat N T := by
  unfold downD
  refine for_inv (List.range n) (fun d e => I d.length e) h0 (fun d a r h e he => ?_) fun e he => nn e (by simpa using he)
  obtain ⟨hd, ha⟩ := range_split h
  have hl : d.length = a := by rw [hd]; simp
  obtain ⟨e1, b, s⟩ := st a ha e (by rw [← hl]; exact he)
  refine ⟨e1, b, sat_imp s (fun e2 h2 => ?_) fun _ z => z⟩
  show I (d ++ [a]).length e2
  rw [List.length_append, hl]; exact h2
/-- while, by a measure -/
theorem wh_sat {c : Env → Res D} {f : Env → Fl} {N : Env → Prop} {T : D → Prop} (I : Nat → Env → Prop) : ∀ (n m : Nat) (env : Env), I m env → m < n →
    (∀ m e, I m e → ∃ b, c e = .ok (.bl b) ∧ (if b then (f e).sat (fun e' => ∃ m', m' < m ∧ I m' e') T else N e)) → (whLoop c f n env).sat N T
  | 0, m, env, _, h, _ => absurd h (by omega)
  | n + 1, m, env, h, hm, st => by
    rw [whLoop]
    obtain ⟨b, eb, s⟩ := st m env h
    rw [eb]
    show ((if b then (match f env with
      | .nx e2 => whLoop c f n e2
      | .bk e2 => .nx e2
      | r => r) else .nx env : Fl)).sat N T
    cases b with
    | false => exact s
    | true =>
      have s : (f env).sat (fun e' => ∃ m', m' < m ∧ I m' e') T := s
      show ((match f env with
        | .nx e2 => whLoop c f n e2
        | .bk e2 => .nx e2
        | r => r : Fl)).sat N T
      cases e : f env with
      | nx e2 =>
        rw [e] at s
        obtain ⟨m', hm', hI⟩ := s
        exact wh_sat I n m' e2 hI (by omega) st
      | rt d => rw [e] at s; exact s
      | _ => rw [e] at s; exact s.elim

/-! ### comprehensions -/
theorem lc_acc {α : Type} {enc : α → D} {f : D → Res (Option D)} {g : α → Option D} : ∀ (as : List α) (acc : List D), (∀ a ∈ as, f (enc a) = .ok (g a)) → acc.length + as.length ≤ lim → lcLoop f (as.map enc) acc = .ok (acc ++ as.filterMap g)
  | [], acc, _, _ => by rw [List.map_nil, lcLoop]; simp
  | a :: as, acc, h, hl => by
    rw [List.map_cons, lcLoop, h a (by simp)]
    simp only [List.length_cons] at hl
    cases e : g a with
    | none =>
      show lcLoop f (as.map enc) acc = _
      rw [lc_acc as acc (fun x hx => h x (by simp [hx])) (by omega)]
      simp [e]
    | some x =>
      show (if acc.length < lim then lcLoop f (as.map enc) (acc ++ [x]) else .bad) = _
      rw [if_pos (by omega), lc_acc as (acc ++ [x]) (fun x hx => h x (by simp [hx])) (by simp; omega)]
      simp [e]
theorem lc_fm {α : Type} {enc : α → D} {f : D → Res (Option D)} (g : α → Option D) (as : List α) (h : ∀ a ∈ as, f (enc a) = .ok (g a)) (hl : as.length ≤ lim) : lcLoop f (as.map enc) [] = .ok (as.filterMap g) := by
  rw [lc_acc as [] h (by simpa using hl)]; simp
theorem lc_map {α : Type} {enc : α → D} {f : D → Res (Option D)} (g : α → D) (as : List α) (h : ∀ a ∈ as, f (enc a) = .ok (some (g a))) (hl : as.length ≤ lim) : lcLoop f (as.map enc) [] = .ok (as.map g) := by
  rw [lc_fm (fun a => some (g a)) as h hl]; simp
theorem lc_if {α : Type} {enc : α → D} {f : D → Res (Option D)} (p : α → Bool) (g : α → D) (as : List α) (h : ∀ a ∈ as, f (enc a) = .ok (if p a then some (g a) else none)) (hl : as.length ≤ lim) : lcLoop f (as.map enc) [] = .ok ((as.filter p).map g) := by
  rw [lc_fm (fun a => if p a then some (g a) else none) as h hl]
  congr 1
  induction as with
  | nil => rfl
  | cons a as ih =>
    have := ih (fun x hx => h x (by simp [hx])) (by simp only [List.length_cons] at hl; omega)
    by_cases hp : p a <;> simp [List.filterMap_cons, hp, this]

/-! ### places in lists and texts -/
theorem place_nat {n k : Nat} (h : k < n) : place (k : Int) n = some k := by
  unfold place
  rw [if_pos (by omega), if_pos (by omega)]; simp
theorem ixk_lst {ds : List D} {k : Nat} {d : D} (h : ds[k]? = some d) : ixD (.lst ds) (.int k) = .ok d := by
  have hk : k < ds.length := (List.getElem?_eq_some_iff.mp h).1
  unfold ixD
  simp only [place_nat hk, h]
theorem ixk_tup {ds : List D} {k : Nat} {d : D} (h : ds[k]? = some d) : ixD (.tup ds) (.int k) = .ok d := by
  have hk : k < ds.length := (List.getElem?_eq_some_iff.mp h).1
  unfold ixD
  simp only [place_nat hk, h]
theorem ixk_ro {ds : List Int} {k : Nat} {d : Int} (h : ds[k]? = some d) : ixD (.ro ds) (.int k) = .ok (.int d) := by
  have hk : k < ds.length := (List.getElem?_eq_some_iff.mp h).1
  unfold ixD
  simp only [place_nat hk, h]
theorem ixk_str {s : List Char} {k : Nat} {c : Char} (hl : s.length ≤ lim) (h : s[k]? = some c) : ixD (.str s) (.int k) = .ok (.str [c]) := by
  have hk : k < s.length := (List.getElem?_eq_some_iff.mp h).1
  unfold ixD
  simp only [place_nat hk, h, if_pos hl]
theorem run_same {d d' : Def} (hb : d.body = d'.body) (hn : d.names.length = d'.names.length) (hp : d.npar = d'.npar) : d.run = d'.run := by
  funext ds
  unfold Def.run
  rw [hb, hn, hp]
end SH
end
section
set_option Elab.async false
set_option linter.all false
set_option autoImplicit false
set_option maxRecDepth 10000
/-! Plain law: typed data as the core's, ==, <, sorting. -/
namespace SH
open PySem

theorem dp_succ : ∀ (n : Nat) (d : D), dp n d = true → dp (n + 1) d = true
  | 0, d, h => by cases d <;> simp_all [dp]
  | n + 1, d, h => by
    cases d with
    | tup ds =>
      simp only [dp, List.all_eq_true] at h ⊢
      exact fun x hx => dp_succ n x (h x hx)
    | lst ds =>
      simp only [dp, List.all_eq_true] at h ⊢
      exact fun x hx => dp_succ n x (h x hx)
    | _ => simp_all [dp]
theorem dp_le {n m : Nat} {d : D} (h : dp n d = true) (l : n ≤ m) : dp m d = true := by
  induction l with
  | refl => exact h
  | step _ ih => exact dp_succ _ _ ih
theorem toNat_inj' {a b : Char} (h : a.toNat = b.toNat) : a = b := by
  apply Char.ext
  exact UInt32.toNat_inj.mp h
theorem mapN_inj : ∀ {a b : List Char}, a.map Char.toNat = b.map Char.toNat → a = b
  | [], [], _ => rfl
  | [], _ :: _, h => by simp at h
  | _ :: _, [], h => by simp at h
  | x :: a, y :: b, h => by
    simp only [List.map_cons, List.cons.injEq] at h
    rw [toNat_inj' h.1, mapN_inj h.2]
theorem mkS_inj_p {a b : List Char} (h : mkS a = mkS b) : a = b := by
  unfold mkS at h
  injection h with h
  have h2 := congrArg Array.toList h
  exact mapN_inj (by simpa using h2)
theorem mkS_beq (a b : List Char) : (mkS a == mkS b) = decide (a = b) := by
  rw [Bool.eq_iff_iff, beq_iff_eq, decide_eq_true_eq]
  exact ⟨mkS_inj_p, fun h => by rw [h]⟩

/-! ### == -/
class Ee {α : Type} (f : α → D) where
  n : Nat
  dpn : ∀ a, dp n (f a) = true
  n8 : n ≤ 8
  eq : ∀ a b, deq (f a) (f b) = true ↔ a = b
theorem Ee.dec {α : Type} {f : α → D} [Ee f] [DecidableEq α] (a b : α) : deq (f a) (f b) = decide (a = b) := by
  rw [Bool.eq_iff_iff, decide_eq_true_eq]; exact Ee.eq a b
theorem Ee.dp8 {α : Type} {f : α → D} [Ee f] (a : α) : dp 8 (f a) = true := dp_le (Ee.dpn a) (Ee.n8 (f := f))
theorem deq_ii (a b : Int) : deq (.int a) (.int b) = decide (a = b) := rfl
theorem deq_ss (a b : List Char) : deq (.str a) (.str b) = decide (a = b) := mkS_beq a b
theorem deq_bb (a b : Bool) : deq (.bl a) (.bl b) = decide (a = b) := by cases a <;> cases b <;> rfl
theorem deq_nn : deq .non .non = true := rfl
theorem deq_ni (a : Int) : deq .non (.int a) = false := rfl
theorem deq_ns (a : List Char) : deq .non (.str a) = false := rfl
theorem deq_nt (a : List D) : deq .non (.tup a) = false := rfl
theorem deq_in (a : Int) : deq (.int a) .non = false := rfl
theorem deq_sn (a : List Char) : deq (.str a) .non = false := rfl
theorem deq_tn (a : List D) : deq (.tup a) .non = false := rfl
theorem deq_is (a : Int) (b : List Char) : deq (.int a) (.str b) = false := rfl
theorem deq_si (a : Int) (b : List Char) : deq (.str b) (.int a) = false := rfl
theorem deq_sl (a : List D) (b : List Char) : deq (.str b) (.lst a) = false := rfl
theorem deq_ls (a : List D) (b : List Char) : deq (.lst a) (.str b) = false := rfl
theorem deq_il (a : List D) (b : Int) : deq (.int b) (.lst a) = false := rfl
theorem deq_li (a : List D) (b : Int) : deq (.lst a) (.int b) = false := rfl
def deqs : List D → List D → Bool
  | [], [] => true
  | a :: as, b :: bs => deq a b && deqs as bs
  | [], _ :: _ => false
  | _ :: _, [] => false
theorem eqvAll_deqs : ∀ as bs : List D, PyData.eqvAll (pyL as) (pyL bs) = deqs as bs
  | [], [] => by rw [pyL, PyData.eqvAll, deqs]
  | [], b :: bs => by rw [pyL, pyL, PyData.eqvAll, deqs]
  | a :: as, [] => by rw [pyL, pyL, PyData.eqvAll, deqs]
  | a :: as, b :: bs => by rw [pyL, pyL, PyData.eqvAll, deqs, eqvAll_deqs as bs]; rfl
theorem deq_tt (as bs : List D) : deq (.tup as) (.tup bs) = deqs as bs := by
  unfold deq
  rw [py, py, PyData.eqv]; exact eqvAll_deqs as bs
theorem deq_ll (as bs : List D) : deq (.lst as) (.lst bs) = deqs as bs := by
  unfold deq
  rw [py, py, PyData.eqv]; exact eqvAll_deqs as bs
theorem deqs_map {α : Type} {f : α → D} [Ee f] : ∀ as bs : List α, deqs (as.map f) (bs.map f) = true ↔ as = bs
  | [], [] => by simp [deqs]
  | [], b :: bs => by simp [deqs]
  | a :: as, [] => by simp [deqs]
  | a :: as, b :: bs => by
    rw [List.map_cons, List.map_cons, deqs, Bool.and_eq_true, Ee.eq, deqs_map as bs]
    simp
instance : Ee D.int where
  n := 0
  dpn _ := rfl
  n8 := by decide
  eq a b := by rw [deq_ii]; simp
instance : Ee D.str where
  n := 0
  dpn _ := rfl
  n8 := by decide
  eq a b := by rw [deq_ss]; simp
instance : Ee D.bl where
  n := 0
  dpn _ := rfl
  n8 := by decide
  eq a b := by rw [deq_bb]; simp
/-- pairs, triples, lists -/
def eP {α β : Type} (f : α → D) (g : β → D) (p : α × β) : D := .tup [f p.1, g p.2]
def eT {α β γ : Type} (f : α → D) (g : β → D) (h : γ → D) (p : α × β × γ) : D := .tup [f p.1, g p.2.1, h p.2.2]
def eQ {α β γ δ : Type} (f : α → D) (g : β → D) (h : γ → D) (k : δ → D) (p : α × β × γ × δ) : D := .tup [f p.1, g p.2.1, h p.2.2.1, k p.2.2.2]
def eL {α : Type} (f : α → D) (xs : List α) : D := .lst (xs.map f)
/-- a bound of depths that the instances can be shown by -/
class DpC {α : Type} (f : α → D) (n : outParam Nat) : Prop where
  ok : ∀ a, dp n (f a) = true
instance : DpC D.int 0 := ⟨fun _ => rfl⟩
instance : DpC D.str 0 := ⟨fun _ => rfl⟩
instance : DpC D.bl 0 := ⟨fun _ => rfl⟩
section
variable {α β γ δ : Type} {f : α → D} {g : β → D} {h : γ → D} {k : δ → D}
/-- how == goes over a pair -/
theorem deq_P [Ee f] [Ee g] (a b : α × β) : deq (eP f g a) (eP f g b) = true ↔ a = b := by
  unfold eP
  rw [deq_tt, deqs, deqs, deqs, Bool.and_true, Bool.and_eq_true, Ee.eq, Ee.eq]
  exact ⟨fun ⟨x, y⟩ => Prod.ext x y, fun e => by rw [e]; exact ⟨rfl, rfl⟩⟩
theorem deq_T [Ee f] [Ee g] [Ee h] (a b : α × β × γ) : deq (eT f g h a) (eT f g h b) = true ↔ a = b := by
  unfold eT
  rw [deq_tt, deqs, deqs, deqs, deqs, Bool.and_true, Bool.and_eq_true, Bool.and_eq_true, Ee.eq, Ee.eq, Ee.eq]
  exact ⟨fun ⟨x, y, z⟩ => Prod.ext x (Prod.ext y z), fun e => by rw [e]; exact ⟨rfl, rfl, rfl⟩⟩
theorem deq_Q [Ee f] [Ee g] [Ee h] [Ee k] (a b : α × β × γ × δ) : deq (eQ f g h k a) (eQ f g h k b) = true ↔ a = b := by
  unfold eQ
  rw [deq_tt, deqs, deqs, deqs, deqs, deqs, Bool.and_true, Bool.and_eq_true, Bool.and_eq_true, Bool.and_eq_true, Ee.eq, Ee.eq, Ee.eq, Ee.eq]
  exact ⟨fun ⟨x, y, z, u⟩ => Prod.ext x (Prod.ext y (Prod.ext z u)), fun e => by rw [e]; exact ⟨rfl, rfl, rfl, rfl⟩⟩
theorem deq_L [Ee f] (a b : List α) : deq (eL f a) (eL f b) = true ↔ a = b := by
  unfold eL
  rw [deq_ll]; exact deqs_map a b
theorem dp_P {n : Nat} (p : α × β) (h1 : dp n (f p.1) = true) (h2 : dp n (g p.2) = true) : dp (n + 1) (eP f g p) = true := by
  simp only [eP, dp, List.all_cons, List.all_nil, h1, h2, Bool.and_self]
theorem dp_T {n : Nat} (p : α × β × γ) (h1 : dp n (f p.1) = true) (h2 : dp n (g p.2.1) = true) (h3 : dp n (h p.2.2) = true) : dp (n + 1) (eT f g h p) = true := by
  simp only [eT, dp, List.all_cons, List.all_nil, h1, h2, h3, Bool.and_self]
theorem dp_Q {n : Nat} (p : α × β × γ × δ) (h1 : dp n (f p.1) = true) (h2 : dp n (g p.2.1) = true) (h3 : dp n (h p.2.2.1) = true) (h4 : dp n (k p.2.2.2) = true) : dp (n + 1) (eQ f g h k p) = true := by
  simp only [eQ, dp, List.all_cons, List.all_nil, h1, h2, h3, h4, Bool.and_self]
theorem dp_L {n : Nat} (xs : List α) (h1 : ∀ a, dp n (f a) = true) : dp (n + 1) (eL f xs) = true := by
  simp only [eL, dp, List.all_map, List.all_eq_true]
  exact fun x _ => h1 x
/-- Ee by hand: the depth is checked where it is made -/
@[reducible] def Ee.P [Ee f] [Ee g] (hn : max (Ee.n f) (Ee.n g) + 1 ≤ 8) : Ee (eP f g) where
  n := max (Ee.n f) (Ee.n g) + 1
  dpn p := dp_P p (dp_le (Ee.dpn _) (Nat.le_max_left _ _)) (dp_le (Ee.dpn _) (Nat.le_max_right _ _))
  n8 := hn
  eq := deq_P
@[reducible] def Ee.T [Ee f] [Ee g] [Ee h] (hn : max (Ee.n f) (max (Ee.n g) (Ee.n h)) + 1 ≤ 8) : Ee (eT f g h) where
  n := max (Ee.n f) (max (Ee.n g) (Ee.n h)) + 1
  dpn p := dp_T p (dp_le (Ee.dpn _) (Nat.le_max_left _ _)) (dp_le (Ee.dpn _) (Nat.le_trans (Nat.le_max_left _ _) (Nat.le_max_right _ _))) (dp_le (Ee.dpn _) (Nat.le_trans (Nat.le_max_right _ _) (Nat.le_max_right _ _)))
  n8 := hn
  eq := deq_T
@[reducible] def Ee.Q [Ee f] [Ee g] [Ee h] [Ee k] (hn : max (Ee.n f) (max (Ee.n g) (max (Ee.n h) (Ee.n k))) + 1 ≤ 8) : Ee (eQ f g h k) where
  n := max (Ee.n f) (max (Ee.n g) (max (Ee.n h) (Ee.n k))) + 1
  dpn p := dp_Q p (dp_le (Ee.dpn _) (by omega)) (dp_le (Ee.dpn _) (by omega)) (dp_le (Ee.dpn _) (by omega)) (dp_le (Ee.dpn _) (by omega))
  n8 := hn
  eq := deq_Q
@[reducible] def Ee.L [Ee f] (hn : Ee.n f + 1 ≤ 8) : Ee (eL f) where
  n := Ee.n f + 1
  dpn xs := dp_L xs Ee.dpn
  n8 := hn
  eq := deq_L
end
instance : Ee (eP D.int D.str) := Ee.P (by decide)
instance : Ee (eP D.str D.int) := Ee.P (by decide)
instance : Ee (eP D.int D.int) := Ee.P (by decide)
instance : Ee (eP D.str D.str) := Ee.P (by decide)
instance : Ee (eP D.str (eP D.int D.int)) := Ee.P (by decide)
instance : Ee (eP (eP D.int D.int) D.str) := Ee.P (by decide)
instance : Ee (eT D.str D.int D.int) := Ee.T (by decide)
instance : Ee (eT D.int D.str D.str) := Ee.T (by decide)
instance : Ee (eT D.str D.str D.int) := Ee.T (by decide)
instance : Ee (eT D.str D.int D.str) := Ee.T (by decide)
instance : Ee (eL D.int) := Ee.L (by decide)
instance : Ee (eL D.str) := Ee.L (by decide)
instance : Ee (eL (eP D.int D.int)) := Ee.L (by decide)
instance : Ee (eL (eP D.int D.str)) := Ee.L (by decide)
instance : Ee (eL (eL D.int)) := Ee.L (by decide)
instance : Ee (eQ D.int D.int D.int D.int) := Ee.Q (by decide)
instance : Ee (eT D.str D.str (eL (eP D.int D.int))) := Ee.T (by decide)
section
variable {α : Type} {f : α → D} [Ee f] [DecidableEq α]
theorem cmp_eq (a b : α) : cmpD .eq (f a) (f b) = .ok (decide (a = b)) := by
  show eqD (f a) (f b) = _
  unfold eqD
  rw [Ee.dp8, Ee.dp8, Ee.dec]; rfl
theorem cmp_ne (a b : α) : cmpD .ne (f a) (f b) = .ok (!decide (a = b)) := by
  show notR (eqD (f a) (f b)) = _
  unfold eqD
  rw [Ee.dp8, Ee.dp8, Ee.dec]; rfl
end
theorem dpL {α : Type} {f : α → D} [Ee f] (xs : List α) (h : Ee.n f ≤ 7) : dp 8 (.lst (xs.map f)) = true := dp_L (n := 7) xs fun a => dp_le (Ee.dpn a) h
/-- lists of what has an == -/
theorem cmp_eqL {α : Type} {f : α → D} [Ee f] [DecidableEq α] (h : Ee.n f ≤ 7) (a b : List α) : cmpD .eq (.lst (a.map f)) (.lst (b.map f)) = .ok (decide (a = b)) := by
  show eqD _ _ = _
  unfold eqD
  rw [dpL a h, dpL b h, deq_ll]
  show Res.ok _ = _
  congr 1
  rw [Bool.eq_iff_iff, decide_eq_true_eq]; exact deqs_map a b
theorem cmp_neL {α : Type} {f : α → D} [Ee f] [DecidableEq α] (h : Ee.n f ≤ 7) (a b : List α) : cmpD .ne (.lst (a.map f)) (.lst (b.map f)) = .ok (!decide (a = b)) := by
  have := cmp_eqL (f := f) h a b
  show notR (eqD _ _) = _
  have e : eqD (.lst (a.map f)) (.lst (b.map f)) = .ok (decide (a = b)) := this
  rw [e]; rfl
theorem cmp_inL {α : Type} {f : α → D} [Ee f] [DecidableEq α] (h : Ee.n f ≤ 7) (a : α) (b : List α) : cmpD .inn (f a) (.lst (b.map f)) = .ok (decide (a ∈ b)) := by
  show inD (f a) (.lst (b.map f)) = _
  unfold inD
  simp only
  rw [dpL b h, Ee.dp8]
  show Res.ok _ = _
  congr 1
  rw [Bool.eq_iff_iff, decide_eq_true_eq, List.any_map, List.any_eq_true]
  constructor
  · rintro ⟨x, hx, e⟩
    have e : deq (f x) (f a) = true := e
    rw [Ee.eq] at e
    rw [← e]; exact hx
  · intro hx
    refine ⟨a, hx, ?_⟩
    show deq (f a) (f a) = true
    rw [Ee.eq]
theorem cmp_ninL {α : Type} {f : α → D} [Ee f] [DecidableEq α] (h : Ee.n f ≤ 7) (a : α) (b : List α) : cmpD .nin (f a) (.lst (b.map f)) = .ok (!decide (a ∈ b)) := by
  have e : inD (f a) (.lst (b.map f)) = .ok (decide (a ∈ b)) := cmp_inL h a b
  show notR (inD _ _) = _
  rw [e]; rfl

/-! ### < and sorting -/
class Oe {α : Type} (f : α → D) extends Ee f where
  lt : α → α → Bool
  alk : ∀ a b, PySem.W.alike (py (f a)) (py (f b)) = true
  lt_eq : ∀ a b, PySem.W.dataLt (py (f a)) (py (f b)) = lt a b
  eqv : ∀ a b, PyData.eqv (py (f a)) (py (f b)) = true ↔ a = b := Ee.eq
  shp : ∀ xs : List α, (((xs.map f).all fun d => match d with | .tup (_ :: _) => true | _ => false) || ((xs.map f).all fun d => match d with | .int _ => true | .str _ => true | .bl _ => true | .lst _ => true | _ => false)) = true
def leE {α : Type} (f : α → D) [Oe f] (a b : α) : Bool := !Oe.lt f b a
section
variable {α β γ δ : Type} {f : α → D} {g : β → D} {h : γ → D} {k : δ → D}
theorem dataLe_f [Oe f] (a b : α) : dataLeD (f a) (f b) = leE f a b := by
  unfold leE
  rw [← Oe.lt_eq]; rfl
theorem oe_irr [Oe f] (a : α) : Oe.lt f a a = false := by
  rw [← Oe.lt_eq]; exact PyProof.Rows.lex_irrefl _
theorem oe_tr [Oe f] {a b c : α} (h1 : Oe.lt f a b = true) (h2 : Oe.lt f b c = true) : Oe.lt f a c = true := by
  rw [← Oe.lt_eq] at *; exact PyProof.Rows.lex_trans _ _ _ h1 h2
theorem oe_tot [Oe f] {a b : α} (h1 : Oe.lt f a b = false) (h2 : Oe.lt f b a = false) : a = b := by
  rw [← Oe.lt_eq] at h1 h2
  have e : PySem.W.keyToks (py (f a)) = PySem.W.keyToks (py (f b)) := PyProof.Rows.lex_total (O := PyProof.Rows.itemOrd) _ _ h1 h2
  have q := (PySem.W.toks_eqv (py (f a)) (py (f b)) (Oe.alk a b)).2
  cases ev : PyData.eqv (py (f a)) (py (f b)) with
  | true => exact (Oe.eqv a b).mp ev
  | false =>
    have z := q ev [] [.inl 0]
    rw [e] at z
    have z1 : PyProof.Rows.lexLt PyProof.Rows.itemOrd (PySem.W.keyToks (py (f b))) (PySem.W.keyToks (py (f b))) = false := PyProof.Rows.lex_irrefl _
    rw [z1] at z
    have z2 := PySem.W.lex_pre (PySem.W.keyToks (py (f b))) [] [.inl 0]
    rw [z] at z2
    cases z2
theorem leE_total [Oe f] (a b : α) : (leE f a b || leE f b a) = true := by
  unfold leE
  cases h1 : Oe.lt f b a with
  | false => rfl
  | true =>
    cases h2 : Oe.lt f a b with
    | false => rfl
    | true => have := oe_tr h1 h2; rw [oe_irr] at this; cases this
theorem leE_trans [Oe f] (a b c : α) (h1 : leE f a b = true) (h2 : leE f b c = true) : leE f a c = true := by
  unfold leE at *
  simp only [Bool.not_eq_true'] at *
  cases e : Oe.lt f c a with
  | false => rfl
  | true =>
    cases e1 : Oe.lt f a b with
    | true => have := oe_tr e e1; rw [h2] at this; cases this
    | false =>
      have := oe_tot e1 h1
      subst this
      rw [h2] at e; cases e
theorem leE_anti [Oe f] {a b : α} (h1 : leE f a b = true) (h2 : leE f b a = true) : a = b := by
  unfold leE at *
  simp only [Bool.not_eq_true'] at *
  exact oe_tot h2 h1
def sortE (f : α → D) [Oe f] (xs : List α) : List α := xs.mergeSort (leE f)
theorem sortD_f [Oe f] (xs : List α) (hl : xs.length ≤ lim) : sortD (xs.map f) = .ok ((sortE f xs).map f) := by
  unfold sortD sortE
  have h1 : sortable (xs.map f) = true := by
    unfold sortable
    rw [Bool.and_eq_true]
    refine ⟨?_, Oe.shp xs⟩
    rw [Bool.and_eq_true, List.all_map, List.all_map, List.all_eq_true, List.all_eq_true]
    refine ⟨fun a _ => Ee.dp8 a, fun a _ => ?_⟩
    show ((xs.map f).all fun e => PySem.W.alike (py (f a)) (py e)) = true
    rw [List.all_map, List.all_eq_true]
    exact fun b _ => Oe.alk a b
  rw [h1, List.length_map, decide_eq_true hl]
  show Res.ok _ = _
  congr 1
  symm
  apply List.map_mergeSort
  intro a _ b _
  exact (dataLe_f a b).symm
theorem sortE_perm [Oe f] (xs : List α) : (sortE f xs).Perm xs := List.mergeSort_perm _ _
theorem sortE_pw [Oe f] (xs : List α) : (sortE f xs).Pairwise (fun a b => leE f a b = true) := List.pairwise_mergeSort (le := leE f) leE_trans leE_total xs
theorem sortE_len [Oe f] (xs : List α) : (sortE f xs).length = xs.length := (sortE_perm xs).length_eq
theorem sortE_mem [Oe f] (xs : List α) (a : α) : a ∈ sortE f xs ↔ a ∈ xs := (sortE_perm xs).mem_iff
/-- two lists with the same things, both in order, are one -/
theorem pw_unique [Oe f] : ∀ {xs ys : List α}, xs.Perm ys → xs.Pairwise (fun a b => leE f a b = true) → ys.Pairwise (fun a b => leE f a b = true) → xs = ys
  | [], ys, p, _, _ => (List.nil_perm.mp p).symm
  | x :: xs, [], p, _, _ => by have := p.length_eq; simp at this
  | x :: xs, y :: ys, p, h1, h2 => by
    have e : x = y := by
      have m1 : x ∈ y :: ys := p.mem_iff.mp (by simp)
      have m2 : y ∈ x :: xs := p.mem_iff.mpr (by simp)
      rcases List.mem_cons.mp m1 with e | m1
      · exact e
      · rcases List.mem_cons.mp m2 with e | m2
        · exact e.symm
        · exact leE_anti ((List.pairwise_cons.mp h1).1 y m2) ((List.pairwise_cons.mp h2).1 x m1)
    subst e
    rw [pw_unique (List.perm_cons x |>.mp p) (List.pairwise_cons.mp h1).2 (List.pairwise_cons.mp h2).2]
theorem sortE_eq [Oe f] {xs ys : List α} (p : xs.Perm ys) (h : ys.Pairwise (fun a b => leE f a b = true)) : sortE f xs = ys := pw_unique ((sortE_perm xs).trans p) (sortE_pw xs) h
theorem sortE_congr [Oe f] {xs ys : List α} (p : xs.Perm ys) : sortE f xs = sortE f ys := sortE_eq (p.trans (sortE_perm ys).symm) (sortE_pw ys)
theorem alike_P [Oe f] [Oe g] (a b : α × β) : PySem.W.alike (py (eP f g a)) (py (eP f g b)) = true := by
  simp only [eP, py, pyL, PySem.W.alike, PySem.W.alikeAll, Oe.alk, Bool.and_self]
theorem dataLt_P [Oe f] [Oe g] [DecidableEq α] (a b : α × β) : PySem.W.dataLt (py (eP f g a)) (py (eP f g b)) = if a.1 = b.1 then Oe.lt g a.2 b.2 else Oe.lt f a.1 b.1 := by
  simp only [eP, py, pyL]
  rw [PySem.W.dataLt_pair (Oe.alk _ _) (Oe.alk _ _), Oe.lt_eq, Oe.lt_eq]
  by_cases e : a.1 = b.1
  · rw [if_pos e, if_pos ((Oe.eqv _ _).mpr e)]
    split
    · rename_i h
      rw [(Oe.eqv _ _).mp h, oe_irr]
    · rfl
  · rw [if_neg e, if_neg (fun z => e ((Oe.eqv _ _).mp z))]
instance : Oe D.int where
  toEe := inferInstance
  lt a b := decide (a < b)
  alk _ _ := rfl
  lt_eq a b := PySem.W.dataLt_int a b
  shp xs := by
    rw [Bool.or_eq_true]; right
    rw [List.all_map, List.all_eq_true]; exact fun _ _ => rfl
instance : Oe D.str where
  toEe := inferInstance
  lt a b := ltS a b
  alk _ _ := rfl
  lt_eq a b := PySem.W.dataLt_str (mkS a) (mkS b)
  shp xs := by
    rw [Bool.or_eq_true]; right
    rw [List.all_map, List.all_eq_true]; exact fun _ _ => rfl
@[reducible] def Oe.P [Oe f] [Oe g] [Ee (eP f g)] [DecidableEq α] : Oe (eP f g) where
  toEe := inferInstance
  lt a b := if a.1 = b.1 then Oe.lt g a.2 b.2 else Oe.lt f a.1 b.1
  alk := alike_P
  lt_eq := dataLt_P
  shp xs := by
    rw [Bool.or_eq_true]; left
    rw [List.all_map, List.all_eq_true]; exact fun _ _ => rfl
instance : Oe (eP D.int D.str) := Oe.P
instance : Oe (eP D.str D.int) := Oe.P
instance : Oe (eP D.int D.int) := Oe.P
instance : Oe (eP D.str (eP D.int D.int)) := Oe.P
theorem ltD_P [Oe f] [Oe g] [Oe (eP f g)] (a b : α × β) : cmpD .lt (eP f g a) (eP f g b) = .ok (Oe.lt (eP f g) a b) := by
  have e : ∀ x, eP f g x = .tup [f x.1, g x.2] := fun _ => rfl
  rw [e a, e b]
  show ltD (.tup [f a.1, g a.2]) (.tup [f b.1, g b.2]) = _
  unfold ltD
  simp only
  rw [← e a, ← e b, Oe.alk, Ee.dp8, Ee.dp8, Oe.lt_eq]; rfl
end
end SH
end
section
set_option Elab.async false
set_option linter.all false
set_option autoImplicit false
/-! What a value stands for in a heap, and who else may hold it. -/
namespace SH
open PySem L2

abbrev Fg := PySem.W.Frag
def kyK : Ky → Key
  | .inl i => .inl i
  | .inr s => .inr (mkS s)
/-- what all of a def's proof shares: the written part, the caught exception's place and its dict's, the classes' places, the module -/
structure Pm where
  K : Fg
  xs : Addr → Addr → Prop
  ca : Nat → Addr
  prog : Program
  w : World
  mg : Str → Option Value
  base : Heap
/-- the heaps at a def's entry -/
structure Bs where
  G : Hp
  H : Hp
def Le (G H : Hp) : Prop := ∀ a o, G a = some o → H a = some o
theorem Le.refl (G : Hp) : Le G G := fun _ _ h => h
theorem Le.trans {A B C : Hp} (x : Le A B) (y : Le B C) : Le A C := fun a o h => y a o (x a o h)
def xdN (n : Int) : HO := .xd [(("at" : Str), .int n)]

inductive Sc : V → D → Prop
  | non : Sc .non .non
  | bl (b : Bool) : Sc (.bl b) (.bl b)
  | int (i : Int) : Sc (.int i) (.int i)
  | str (s : List Char) : Sc (.str (mkS s)) (.str s)

/-- v is d, read in G -/
inductive Rp (P : Pm) (G : Hp) : V → D → Prop
  | sc {v : V} {d : D} : Sc v d → Rp P G v d
  | tup {p : Addr} {vs : List V} {ds : List D} : G p = some (.tup vs) → vs.length = ds.length → (∀ (i : Nat) (v : V) (d : D), vs[i]? = some v → ds[i]? = some d → Rp P G v d) → Rp P G (.ref p) (.tup ds)
  | lst {p : Addr} {vs : List V} {ds : List D} : G p = some (.lst vs) → vs.length = ds.length → (∀ (i : Nat) (v : V) (d : D), vs[i]? = some v → ds[i]? = some d → Rp P G v d) → Rp P G (.ref p) (.lst ds)
  | dK {p : Addr} {kvs : List (Key × V)} {es : List (Ky × D)} : Rd G p (.dK kvs) → kvs.map (·.1) = es.map (fun e => kyK e.1) → (∀ (i : Nat) (q : Key × V) (e : Ky × D), kvs[i]? = some q → es[i]? = some e → Rp P G q.2 e.2) → Rp P G (.ref p) (.dK es)
  | dT {p : Addr} {kvs : List (List Key × V)} {es : List (List Ky × D)} : Rd G p (.dT kvs) → kvs.map (·.1) = es.map (fun e => e.1.map kyK) → (∀ (i : Nat) (q : List Key × V) (e : List Ky × D), kvs[i]? = some q → es[i]? = some e → Rp P G q.2 e.2) → Rp P G (.ref p) (.dT es)
  | ro {p : Addr} {ns : List Int} : SqL P.K G p (ns.map V.int) → Rp P G (.ref p) (.ro ns)
  | exo {a d : Addr} {n : Int} : P.xs a d → G d = some (xdN n) → Rp P G (.ref a) (.exo n)

theorem Rd.le {G H : Hp} {a : Addr} {u : HO} (l : Le G H) (h : Rd G a u) : Rd H a u := by
  rcases h with h | ⟨o, h⟩
  · exact .inl (l _ _ h)
  · exact .inr ⟨o, l _ _ h⟩
theorem SqL.le {K : Fg} {G H : Hp} {a : Addr} {xs : List V} (l : Le G H) (h : SqL K G a xs) : SqL K H a xs := h.imp (Rd.le l) id
theorem SqT.le {K : Fg} {G H : Hp} {a : Addr} {xs : List V} (l : Le G H) (h : SqT K G a xs) : SqT K H a xs := h.imp (Rd.le l) id
theorem Rp.le {P : Pm} {G H : Hp} (l : Le G H) {v : V} {d : D} (h : Rp P G v d) : Rp P H v d := by
  induction h with
  | sc h => exact .sc h
  | tup h e _ ih => exact .tup (l _ _ h) e ih
  | lst h e _ ih => exact .lst (l _ _ h) e ih
  | dK h e _ ih => exact .dK (Rd.le l h) e ih
  | dT h e _ ih => exact .dT (Rd.le l h) e ih
  | ro h => exact .ro (SqL.le l h)
  | exo h e => exact .exo h (l _ _ e)

/-- v is d: what is owned of it lies in F and stands in H, the rest in G -/
inductive Ow (P : Pm) (G H : Hp) : Own → (Addr → Prop) → V → D → Prop
  | sc {o : Own} {F : Addr → Prop} {v : V} {d : D} : Sc v d → Ow P G H o F v d
  | sh {F : Addr → Prop} {v : V} {d : D} : Rp P G v d → Ow P G H .sh F v d
  | lst {o : Own} {F : Addr → Prop} {p : Addr} {vs : List V} {ds : List D} (Fs : Nat → Addr → Prop) : H p = some (.lst vs) → F p → vs.length = ds.length →
      (∀ (i : Nat) (v : V) (d : D), vs[i]? = some v → ds[i]? = some d → Ow P G H o (Fs i) v d) → (∀ i a, Fs i a → F a ∧ a ≠ p) → (∀ i j a, Fs i a → Fs j a → i = j) → Ow P G H (.nd o) F (.ref p) (.lst ds)
  | tup {o : Own} {F : Addr → Prop} {p : Addr} {vs : List V} {ds : List D} (Fs : Nat → Addr → Prop) : H p = some (.tup vs) → F p → vs.length = ds.length →
      (∀ (i : Nat) (v : V) (d : D), vs[i]? = some v → ds[i]? = some d → Ow P G H o (Fs i) v d) → (∀ i a, Fs i a → F a ∧ a ≠ p) → (∀ i j a, Fs i a → Fs j a → i = j) → Ow P G H (.nd o) F (.ref p) (.tup ds)
  | dK {o : Own} {F : Addr → Prop} {p : Addr} {kvs : List (Key × V)} {es : List (Ky × D)} (Fs : Nat → Addr → Prop) : H p = some (.dK kvs) → F p → kvs.map (·.1) = es.map (fun e => kyK e.1) → (es.map (·.1)).Nodup →
      (∀ (i : Nat) (q : Key × V) (e : Ky × D), kvs[i]? = some q → es[i]? = some e → Ow P G H o (Fs i) q.2 e.2) → (∀ i a, Fs i a → F a ∧ a ≠ p) → (∀ i j a, Fs i a → Fs j a → i = j) → Ow P G H (.nd o) F (.ref p) (.dK es)
  | dT {o : Own} {F : Addr → Prop} {p : Addr} {kvs : List (List Key × V)} {es : List (List Ky × D)} (Fs : Nat → Addr → Prop) : H p = some (.dT kvs) → F p → kvs.map (·.1) = es.map (fun e => e.1.map kyK) → (es.map (·.1)).Nodup →
      (∀ (i : Nat) (q : List Key × V) (e : List Ky × D), kvs[i]? = some q → es[i]? = some e → Ow P G H o (Fs i) q.2 e.2) → (∀ i a, Fs i a → F a ∧ a ≠ p) → (∀ i j a, Fs i a → Fs j a → i = j) → Ow P G H (.nd o) F (.ref p) (.dT es)

section
variable {P : Pm} {G G' H H' : Hp} {o : Own} {F : Addr → Prop} {v : V} {d : D}
theorem Ow.frame (l : Le G G') (k : ∀ a, F a → H' a = H a) (h : Ow P G H o F v d) : Ow P G' H' o F v d := by
  induction h with
  | sc h => exact .sc h
  | sh h => exact .sh (h.le l)
  | lst Fs h f e _ s j ih => exact .lst Fs ((k _ f).trans h) f e (fun i v d a b => ih i v d a b fun a ha => k a (s i a ha).1) s j
  | tup Fs h f e _ s j ih => exact .tup Fs ((k _ f).trans h) f e (fun i v d a b => ih i v d a b fun a ha => k a (s i a ha).1) s j
  | dK Fs h f e nd _ s j ih => exact .dK Fs ((k _ f).trans h) f e nd (fun i v d a b => ih i v d a b fun a ha => k a (s i a ha).1) s j
  | dT Fs h f e nd _ s j ih => exact .dT Fs ((k _ f).trans h) f e nd (fun i v d a b => ih i v d a b fun a ha => k a (s i a ha).1) s j
theorem Ow.more {F' : Addr → Prop} (k : ∀ a, F a → F' a) (h : Ow P G H o F v d) : Ow P G H o F' v d := by
  cases h with
  | sc h => exact .sc h
  | sh h => exact .sh h
  | lst Fs h f e c s j => exact .lst Fs h (k _ f) e c (fun i a ha => ⟨k a (s i a ha).1, (s i a ha).2⟩) j
  | tup Fs h f e c s j => exact .tup Fs h (k _ f) e c (fun i a ha => ⟨k a (s i a ha).1, (s i a ha).2⟩) j
  | dK Fs h f e nd c s j => exact .dK Fs h (k _ f) e nd c (fun i a ha => ⟨k a (s i a ha).1, (s i a ha).2⟩) j
  | dT Fs h f e nd c s j => exact .dT Fs h (k _ f) e nd c (fun i a ha => ⟨k a (s i a ha).1, (s i a ha).2⟩) j
theorem Ow.rp (l : Le G H) (h : Ow P G H o F v d) : Rp P H v d := by
  induction h with
  | sc h => exact .sc h
  | sh h => exact h.le l
  | lst Fs h f e _ s j ih => exact .lst h e ih
  | tup Fs h f e _ s j ih => exact .tup h e ih
  | dK Fs h f e nd _ s j ih => exact .dK (.inl h) e ih
  | dT Fs h f e nd _ s j ih => exact .dT (.inl h) e ih
theorem Ow.shr (h : Ow P G H .sh F v d) : Rp P G v d := by
  cases h with
  | sc h => exact .sc h
  | sh h => exact h
end

/-- o may be given where o' is wanted (the rest is made shared) -/
def co : Own → Own → Bool
  | .sc, _ => true
  | _, .sh => true
  | .nd a, .nd b => co a b
  | _, _ => false
theorem Ow.scO {P : Pm} {G H : Hp} {F : Addr → Prop} {v : V} {d : D} (h : Ow P G H .sc F v d) : Sc v d := by
  cases h with
  | sc h => exact h
/-- made shared as far as o' says -/
theorem Ow.soften {P : Pm} {G H : Hp} {o : Own} {F : Addr → Prop} {v : V} {d : D} (h : Ow P G H o F v d) : ∀ o', co o o' = true →
    ∃ S : Addr → Prop, (∀ a, S a → F a) ∧ ∀ G', Le G G' → (∀ a, S a → G' a = H a) → Ow P G' H o' (fun a => F a ∧ ¬ S a) v d := by
  have pick : ∀ {R : Nat → (Addr → Prop) → Prop}, (∀ i, ∃ S, R i S) → ∃ S : Nat → Addr → Prop, ∀ i, R i (S i) := fun {R} h => ⟨fun i => (h i).choose, fun i => (h i).choose_spec⟩
  induction h with
  | sc h => exact fun o' _ => ⟨fun _ => False, fun _ z => z.elim, fun _ _ _ => .sc h⟩
  | @sh F v d h =>
    intro o' c
    have e : o' = .sh := by cases o' <;> first | rfl | (simp [co] at c)
    subst e
    exact ⟨fun _ => False, fun _ z => z.elim, fun _ l _ => .sh (h.le l)⟩
  | @lst o F p vs ds Fs h f e c s j ih =>
    intro o' hc
    cases o' with
    | sc => simp [co] at hc
    | sh =>
      have q : ∀ i, ∃ S : Addr → Prop, (∀ a, S a → Fs i a) ∧ ∀ v d, vs[i]? = some v → ds[i]? = some d → ∀ G', Le G G' → (∀ a, S a → G' a = H a) → Ow P G' H .sh (fun a => Fs i a ∧ ¬ S a) v d := fun i => by
        by_cases hi : i < vs.length
        · obtain ⟨S, h1, h2⟩ := ih i vs[i] ds[i] (List.getElem?_eq_getElem hi) (List.getElem?_eq_getElem (e ▸ hi)) .sh (by cases o <;> rfl)
          exact ⟨S, h1, fun v d a b G' l k => by
            rw [List.getElem?_eq_getElem hi] at a
            rw [List.getElem?_eq_getElem (e ▸ hi)] at b
            cases a; cases b
            exact h2 G' l k⟩
        · exact ⟨fun _ => False, fun _ z => z.elim, fun v d a => by rw [List.getElem?_eq_none (Nat.le_of_not_lt hi)] at a; cases a⟩
      obtain ⟨S, hS⟩ := pick q
      refine ⟨fun a => a = p ∨ ∃ i, S i a, fun a z => ?_, fun G' l k => .sh (.lst ((k p (.inl rfl)).trans h) e fun i v d a b => ?_)⟩
      · rcases z with rfl | ⟨i, z⟩
        · exact f
        · exact (s i a ((hS i).1 a z)).1
      · exact ((hS i).2 v d a b G' l fun a z => k a (.inr ⟨i, z⟩)).shr
    | nd o' =>
      have q : ∀ i, ∃ S : Addr → Prop, (∀ a, S a → Fs i a) ∧ ∀ v d, vs[i]? = some v → ds[i]? = some d → ∀ G', Le G G' → (∀ a, S a → G' a = H a) → Ow P G' H o' (fun a => Fs i a ∧ ¬ S a) v d := fun i => by
        by_cases hi : i < vs.length
        · obtain ⟨S, h1, h2⟩ := ih i vs[i] ds[i] (List.getElem?_eq_getElem hi) (List.getElem?_eq_getElem (e ▸ hi)) o' hc
          exact ⟨S, h1, fun v d a b G' l k => by
            rw [List.getElem?_eq_getElem hi] at a
            rw [List.getElem?_eq_getElem (e ▸ hi)] at b
            cases a; cases b
            exact h2 G' l k⟩
        · exact ⟨fun _ => False, fun _ z => z.elim, fun v d a => by rw [List.getElem?_eq_none (Nat.le_of_not_lt hi)] at a; cases a⟩
      obtain ⟨S, hS⟩ := pick q
      refine ⟨fun a => ∃ i, S i a, fun a ⟨i, z⟩ => (s i a ((hS i).1 a z)).1, fun G' l k => .lst (fun i a => Fs i a ∧ ¬ S i a) h ⟨f, fun ⟨i, z⟩ => (s i p ((hS i).1 p z)).2 rfl⟩ e (fun i v d a b => (hS i).2 v d a b G' l fun a z => k a ⟨i, z⟩)
        (fun i a ⟨z, n⟩ => ⟨⟨(s i a z).1, fun ⟨i', z'⟩ => n (by rw [j i i' a z ((hS i').1 a z')]; exact z')⟩, (s i a z).2⟩) fun i i' a z z' => j i i' a z.1 z'.1⟩
  | @tup o F p vs ds Fs h f e c s j ih =>
    intro o' hc
    cases o' with
    | sc => simp [co] at hc
    | sh =>
      have q : ∀ i, ∃ S : Addr → Prop, (∀ a, S a → Fs i a) ∧ ∀ v d, vs[i]? = some v → ds[i]? = some d → ∀ G', Le G G' → (∀ a, S a → G' a = H a) → Ow P G' H .sh (fun a => Fs i a ∧ ¬ S a) v d := fun i => by
        by_cases hi : i < vs.length
        · obtain ⟨S, h1, h2⟩ := ih i vs[i] ds[i] (List.getElem?_eq_getElem hi) (List.getElem?_eq_getElem (e ▸ hi)) .sh (by cases o <;> rfl)
          exact ⟨S, h1, fun v d a b G' l k => by
            rw [List.getElem?_eq_getElem hi] at a
            rw [List.getElem?_eq_getElem (e ▸ hi)] at b
            cases a; cases b
            exact h2 G' l k⟩
        · exact ⟨fun _ => False, fun _ z => z.elim, fun v d a => by rw [List.getElem?_eq_none (Nat.le_of_not_lt hi)] at a; cases a⟩
      obtain ⟨S, hS⟩ := pick q
      refine ⟨fun a => a = p ∨ ∃ i, S i a, fun a z => ?_, fun G' l k => .sh (.tup ((k p (.inl rfl)).trans h) e fun i v d a b => ?_)⟩
      · rcases z with rfl | ⟨i, z⟩
        · exact f
        · exact (s i a ((hS i).1 a z)).1
      · exact ((hS i).2 v d a b G' l fun a z => k a (.inr ⟨i, z⟩)).shr
    | nd o' =>
      have q : ∀ i, ∃ S : Addr → Prop, (∀ a, S a → Fs i a) ∧ ∀ v d, vs[i]? = some v → ds[i]? = some d → ∀ G', Le G G' → (∀ a, S a → G' a = H a) → Ow P G' H o' (fun a => Fs i a ∧ ¬ S a) v d := fun i => by
        by_cases hi : i < vs.length
        · obtain ⟨S, h1, h2⟩ := ih i vs[i] ds[i] (List.getElem?_eq_getElem hi) (List.getElem?_eq_getElem (e ▸ hi)) o' hc
          exact ⟨S, h1, fun v d a b G' l k => by
            rw [List.getElem?_eq_getElem hi] at a
            rw [List.getElem?_eq_getElem (e ▸ hi)] at b
            cases a; cases b
            exact h2 G' l k⟩
        · exact ⟨fun _ => False, fun _ z => z.elim, fun v d a => by rw [List.getElem?_eq_none (Nat.le_of_not_lt hi)] at a; cases a⟩
      obtain ⟨S, hS⟩ := pick q
      refine ⟨fun a => ∃ i, S i a, fun a ⟨i, z⟩ => (s i a ((hS i).1 a z)).1, fun G' l k => .tup (fun i a => Fs i a ∧ ¬ S i a) h ⟨f, fun ⟨i, z⟩ => (s i p ((hS i).1 p z)).2 rfl⟩ e (fun i v d a b => (hS i).2 v d a b G' l fun a z => k a ⟨i, z⟩)
        (fun i a ⟨z, n⟩ => ⟨⟨(s i a z).1, fun ⟨i', z'⟩ => n (by rw [j i i' a z ((hS i').1 a z')]; exact z')⟩, (s i a z).2⟩) fun i i' a z z' => j i i' a z.1 z'.1⟩
  | @dK o F p kvs es Fs h f e nd c s j ih =>
    have el : kvs.length = es.length := by simpa using congrArg List.length e
    intro o' hc
    cases o' with
    | sc => simp [co] at hc
    | sh =>
      have q : ∀ i, ∃ S : Addr → Prop, (∀ a, S a → Fs i a) ∧ ∀ q e, kvs[i]? = some q → es[i]? = some e → ∀ G', Le G G' → (∀ a, S a → G' a = H a) → Ow P G' H .sh (fun a => Fs i a ∧ ¬ S a) q.2 e.2 := fun i => by
        by_cases hi : i < kvs.length
        · obtain ⟨S, h1, h2⟩ := ih i kvs[i] es[i] (List.getElem?_eq_getElem hi) (List.getElem?_eq_getElem (el ▸ hi)) .sh (by cases o <;> rfl)
          exact ⟨S, h1, fun v d a b G' l k => by
            rw [List.getElem?_eq_getElem hi] at a
            rw [List.getElem?_eq_getElem (el ▸ hi)] at b
            cases a; cases b
            exact h2 G' l k⟩
        · exact ⟨fun _ => False, fun _ z => z.elim, fun v d a => by rw [List.getElem?_eq_none (Nat.le_of_not_lt hi)] at a; cases a⟩
      obtain ⟨S, hS⟩ := pick q
      refine ⟨fun a => a = p ∨ ∃ i, S i a, fun a z => ?_, fun G' l k => .sh (.dK (.inl ((k p (.inl rfl)).trans h)) e fun i v d a b => ?_)⟩
      · rcases z with rfl | ⟨i, z⟩
        · exact f
        · exact (s i a ((hS i).1 a z)).1
      · exact ((hS i).2 v d a b G' l fun a z => k a (.inr ⟨i, z⟩)).shr
    | nd o' =>
      have q : ∀ i, ∃ S : Addr → Prop, (∀ a, S a → Fs i a) ∧ ∀ q e, kvs[i]? = some q → es[i]? = some e → ∀ G', Le G G' → (∀ a, S a → G' a = H a) → Ow P G' H o' (fun a => Fs i a ∧ ¬ S a) q.2 e.2 := fun i => by
        by_cases hi : i < kvs.length
        · obtain ⟨S, h1, h2⟩ := ih i kvs[i] es[i] (List.getElem?_eq_getElem hi) (List.getElem?_eq_getElem (el ▸ hi)) o' hc
          exact ⟨S, h1, fun v d a b G' l k => by
            rw [List.getElem?_eq_getElem hi] at a
            rw [List.getElem?_eq_getElem (el ▸ hi)] at b
            cases a; cases b
            exact h2 G' l k⟩
        · exact ⟨fun _ => False, fun _ z => z.elim, fun v d a => by rw [List.getElem?_eq_none (Nat.le_of_not_lt hi)] at a; cases a⟩
      obtain ⟨S, hS⟩ := pick q
      refine ⟨fun a => ∃ i, S i a, fun a ⟨i, z⟩ => (s i a ((hS i).1 a z)).1, fun G' l k => .dK (fun i a => Fs i a ∧ ¬ S i a) h ⟨f, fun ⟨i, z⟩ => (s i p ((hS i).1 p z)).2 rfl⟩ e nd (fun i v d a b => (hS i).2 v d a b G' l fun a z => k a ⟨i, z⟩)
        (fun i a ⟨z, n⟩ => ⟨⟨(s i a z).1, fun ⟨i', z'⟩ => n (by rw [j i i' a z ((hS i').1 a z')]; exact z')⟩, (s i a z).2⟩) fun i i' a z z' => j i i' a z.1 z'.1⟩
  | @dT o F p kvs es Fs h f e nd c s j ih =>
    have el : kvs.length = es.length := by simpa using congrArg List.length e
    intro o' hc
    cases o' with
    | sc => simp [co] at hc
    | sh =>
      have q : ∀ i, ∃ S : Addr → Prop, (∀ a, S a → Fs i a) ∧ ∀ q e, kvs[i]? = some q → es[i]? = some e → ∀ G', Le G G' → (∀ a, S a → G' a = H a) → Ow P G' H .sh (fun a => Fs i a ∧ ¬ S a) q.2 e.2 := fun i => by
        by_cases hi : i < kvs.length
        · obtain ⟨S, h1, h2⟩ := ih i kvs[i] es[i] (List.getElem?_eq_getElem hi) (List.getElem?_eq_getElem (el ▸ hi)) .sh (by cases o <;> rfl)
          exact ⟨S, h1, fun v d a b G' l k => by
            rw [List.getElem?_eq_getElem hi] at a
            rw [List.getElem?_eq_getElem (el ▸ hi)] at b
            cases a; cases b
            exact h2 G' l k⟩
        · exact ⟨fun _ => False, fun _ z => z.elim, fun v d a => by rw [List.getElem?_eq_none (Nat.le_of_not_lt hi)] at a; cases a⟩
      obtain ⟨S, hS⟩ := pick q
      refine ⟨fun a => a = p ∨ ∃ i, S i a, fun a z => ?_, fun G' l k => .sh (.dT (.inl ((k p (.inl rfl)).trans h)) e fun i v d a b => ?_)⟩
      · rcases z with rfl | ⟨i, z⟩
        · exact f
        · exact (s i a ((hS i).1 a z)).1
      · exact ((hS i).2 v d a b G' l fun a z => k a (.inr ⟨i, z⟩)).shr
    | nd o' =>
      have q : ∀ i, ∃ S : Addr → Prop, (∀ a, S a → Fs i a) ∧ ∀ q e, kvs[i]? = some q → es[i]? = some e → ∀ G', Le G G' → (∀ a, S a → G' a = H a) → Ow P G' H o' (fun a => Fs i a ∧ ¬ S a) q.2 e.2 := fun i => by
        by_cases hi : i < kvs.length
        · obtain ⟨S, h1, h2⟩ := ih i kvs[i] es[i] (List.getElem?_eq_getElem hi) (List.getElem?_eq_getElem (el ▸ hi)) o' hc
          exact ⟨S, h1, fun v d a b G' l k => by
            rw [List.getElem?_eq_getElem hi] at a
            rw [List.getElem?_eq_getElem (el ▸ hi)] at b
            cases a; cases b
            exact h2 G' l k⟩
        · exact ⟨fun _ => False, fun _ z => z.elim, fun v d a => by rw [List.getElem?_eq_none (Nat.le_of_not_lt hi)] at a; cases a⟩
      obtain ⟨S, hS⟩ := pick q
      refine ⟨fun a => ∃ i, S i a, fun a ⟨i, z⟩ => (s i a ((hS i).1 a z)).1, fun G' l k => .dT (fun i a => Fs i a ∧ ¬ S i a) h ⟨f, fun ⟨i, z⟩ => (s i p ((hS i).1 p z)).2 rfl⟩ e nd (fun i v d a b => (hS i).2 v d a b G' l fun a z => k a ⟨i, z⟩)
        (fun i a ⟨z, n⟩ => ⟨⟨(s i a z).1, fun ⟨i', z'⟩ => n (by rw [j i i' a z ((hS i').1 a z')]; exact z')⟩, (s i a z).2⟩) fun i i' a z z' => j i i' a z.1 z'.1⟩

/-! ### an expression's end -/
inductive Kd where
  | sc | sh | fr (o : Own) | bo (o : Own)
  deriving DecidableEq
def ofOwn : Own → Kd
  | .sc => .sc
  | .sh => .sh
  | .nd o => .fr (.nd o)
/-- from G, H to G', H': what stood stands -/
structure Ext (G H G' H' : Hp) : Prop where
  same : Le H H'
  keep : ∀ a o, H a = some o → G' a = G a
  sub : Le G' H'
/-- new since H₀ -/
def New (H₀ G H : Hp) (F : Addr → Prop) : Prop := ∀ a, F a → H₀ a = none ∧ G a = none ∧ ∃ o, H a = some o
def KdR (P : Pm) (κ : Kd) (H₀ G H : Hp) (v : V) (d : D) : Prop := match κ with
  | .sc => Sc v d
  | .sh => Rp P G v d
  | .fr o => ∃ F, New H₀ G H F ∧ Ow P G H o F v d
  | .bo o => ∃ F, Ow P G H o F v d
section
variable {P : Pm} {G H G' H' G₁ H₁ G₂ H₂ H₀ : Hp} {κ : Kd} {v : V} {d : D}
theorem Ext.refl (s : Le G H) : Ext G H G H := ⟨.refl _, fun _ _ _ => rfl, s⟩
theorem Ext.le (x : Ext G H G' H') (s : Le G H) : Le G G' := fun a o h => (x.keep a o (s a o h)).trans h
theorem Ext.trans (x : Ext G H G₁ H₁) (y : Ext G₁ H₁ G₂ H₂) : Ext G H G₂ H₂ := ⟨x.same.trans y.same, fun a o h => (y.keep a o (x.same a o h)).trans (x.keep a o h), y.sub⟩
theorem none_le {a : Addr} (l : Le H H') (h : H' a = none) : H a = none := by
  cases e : H a with
  | none => rfl
  | some o => rw [l a o e] at h; cases h
theorem KdR.ext (s : Le G H) (x : Ext G H G' H') (h : KdR P κ H₀ G H v d) : KdR P κ H₀ G' H' v d := by
  cases κ with
  | sc => exact h
  | sh => exact Rp.le (x.le s) h
  | fr o =>
    obtain ⟨F, n, w⟩ := h
    refine ⟨F, fun a fa => ?_, w.frame (x.le s) fun a fa => ?_⟩
    · obtain ⟨n0, ng, u, hu⟩ := n a fa
      exact ⟨n0, (x.keep a u hu).trans ng, u, x.same a u hu⟩
    · obtain ⟨_, _, u, hu⟩ := n a fa
      rw [hu]; exact x.same a u hu
  | bo o =>
    obtain ⟨F, w⟩ := h
    refine ⟨fun a => F a ∧ ∃ u, H a = some u, ?_⟩
    have key : ∀ {o : Own} {F : Addr → Prop} {v : V} {d : D}, Ow P G H o F v d → Ow P G' H' o (fun a => F a ∧ ∃ u, H a = some u) v d := by
      intro o F v d w
      induction w with
      | sc h => exact .sc h
      | sh h => exact .sh (h.le (x.le s))
      | @lst o F p vs ds Fs h f e _ sb j ih => exact .lst (fun i a => Fs i a ∧ ∃ u, H a = some u) (x.same _ _ h) ⟨f, _, h⟩ e ih (fun i a z => ⟨⟨(sb i a z.1).1, z.2⟩, (sb i a z.1).2⟩) fun i k a z z' => j i k a z.1 z'.1
      | @tup o F p vs ds Fs h f e _ sb j ih => exact .tup (fun i a => Fs i a ∧ ∃ u, H a = some u) (x.same _ _ h) ⟨f, _, h⟩ e ih (fun i a z => ⟨⟨(sb i a z.1).1, z.2⟩, (sb i a z.1).2⟩) fun i k a z z' => j i k a z.1 z'.1
      | @dK o F p kvs es Fs h f e nd _ sb j ih => exact .dK (fun i a => Fs i a ∧ ∃ u, H a = some u) (x.same _ _ h) ⟨f, _, h⟩ e nd ih (fun i a z => ⟨⟨(sb i a z.1).1, z.2⟩, (sb i a z.1).2⟩) fun i k a z z' => j i k a z.1 z'.1
      | @dT o F p kvs es Fs h f e nd _ sb j ih => exact .dT (fun i a => Fs i a ∧ ∃ u, H a = some u) (x.same _ _ h) ⟨f, _, h⟩ e nd ih (fun i a z => ⟨⟨(sb i a z.1).1, z.2⟩, (sb i a z.1).2⟩) fun i k a z z' => j i k a z.1 z'.1
    exact key w
/-- new since an earlier heap -/
theorem KdR.since (l : Le H₀ H₁) (h : KdR P κ H₁ G H v d) : KdR P κ H₀ G H v d := by
  cases κ with
  | sc => exact h
  | sh => exact h
  | bo o => exact h
  | fr o =>
    obtain ⟨F, n, w⟩ := h
    exact ⟨F, fun a fa => ⟨none_le l (n a fa).1, (n a fa).2⟩, w⟩
theorem KdR.rp (s : Le G H) (h : KdR P κ H₀ G H v d) : Rp P H v d := by
  cases κ with
  | sc => exact .sc h
  | sh => exact Rp.le s h
  | fr o => obtain ⟨F, _, w⟩ := h; exact w.rp s
  | bo o => obtain ⟨F, w⟩ := h; exact w.rp s
theorem KdR.ofSc (h : Sc v d) : KdR P κ H₀ G H v d := by
  cases κ with
  | sc => exact h
  | sh => exact .sc h
  | fr o => exact ⟨fun _ => False, fun _ z => z.elim, .sc h⟩
  | bo o => exact ⟨fun _ => False, .sc h⟩
end

/-! ### the slots -/
def ow (ω : List Own) (i : Nat) : Own := ω.getD i .sh
def setw : List Own → Nat → Own → List Own
  | [], 0, o => [o]
  | [], i + 1, o => .sh :: setw [] i o
  | _ :: ω, 0, o => o :: ω
  | a :: ω, i + 1, o => a :: setw ω i o
theorem ow_setw (o : Own) : ∀ (ω : List Own) (i j : Nat), ow (setw ω i o) j = if j = i then o else ow ω j
  | [], 0, 0 => rfl
  | [], 0, j + 1 => by simp [setw, ow]
  | [], i + 1, 0 => by simp [setw, ow]
  | [], i + 1, j + 1 => by
    have := ow_setw o [] i j
    unfold ow at this ⊢
    simp only [setw, List.getD_cons_succ, this, Nat.add_right_cancel_iff]
    simp
  | a :: ω, 0, 0 => rfl
  | a :: ω, 0, j + 1 => by simp [setw, ow]
  | a :: ω, i + 1, 0 => by simp [setw, ow]
  | a :: ω, i + 1, j + 1 => by
    have := ow_setw o ω i j
    unfold ow at this ⊢
    simp only [setw, List.getD_cons_succ, this, Nat.add_right_cancel_iff]
structure Rel (P : Pm) (B : Bs) (ω : List Own) (env : Env) (σ : St) (G H : Hp) : Prop where
  sub : Le G H
  ent : ∀ a o, B.H a = some o → H a = some o
  entG : ∀ a o, B.H a = some o → G a = B.G a
  len : σ.length = env.length
  slots : ∃ Fs : Nat → Addr → Prop, (∀ (i : Nat) (d : D), env[i]? = some (some d) → ∃ v, σ[i]? = some (some v) ∧ Ow P G H (ow ω i) (Fs i) v d) ∧
    (∀ i, New B.H G H (Fs i)) ∧ ∀ i j a, Fs i a → Fs j a → i = j
section
variable {P : Pm} {B : Bs} {ω ω' : List Own} {env : Env} {σ : St} {G H G' H' : Hp}
theorem New.ext {F : Addr → Prop} {H₀ : Hp} (x : Ext G H G' H') (n : New H₀ G H F) : New H₀ G' H' F := fun a fa => by
  obtain ⟨n0, ng, u, hu⟩ := n a fa
  exact ⟨n0, (x.keep a u hu).trans ng, u, x.same a u hu⟩
theorem Rel.ext (r : Rel P B ω env σ G H) (x : Ext G H G' H') : Rel P B ω env σ G' H' := by
  obtain ⟨Fs, h1, h2, h3⟩ := r.slots
  refine ⟨x.sub, fun a o h => x.same a o (r.ent a o h), fun a o h => (x.keep a o (r.ent a o h)).trans (r.entG a o h), r.len, Fs, fun i d e => ?_, fun i => (h2 i).ext x, h3⟩
  obtain ⟨v, e1, w⟩ := h1 i d e
  refine ⟨v, e1, w.frame (x.le r.sub) fun a fa => ?_⟩
  obtain ⟨_, _, u, hu⟩ := h2 i a fa
  rw [hu]; exact x.same a u hu
/-- a slot is set to what is new since an earlier heap, or nobody's -/
theorem Rel.setNew {G₀ H₀ : Hp} (R : Rel P B ω env σ G₀ H₀) (x : Ext G₀ H₀ G H) {o : Own} {F : Addr → Prop} {v : V} {d : D} (n : New H₀ G H F) (w : Ow P G H o F v d) (i : Nat) : Rel P B (setw ω i o) (env.set i (some d)) (σ.set i (some v)) G H := by
  have R₁ := R.ext x
  obtain ⟨Fs, h1, h2, h3⟩ := R.slots
  refine ⟨R₁.sub, R₁.ent, R₁.entG, by simp [R.len], fun j => if j = i then F else Fs j, fun j dj e => ?_, fun j => ?_, fun j k a z1 z2 => ?_⟩
  · by_cases hj : j = i
    · subst hj
      have hl : j < env.length := by
        by_cases hl : j < env.length
        · exact hl
        · rw [List.getElem?_eq_none (by simpa using Nat.le_of_not_lt hl)] at e; cases e
      rw [List.getElem?_set_self hl] at e
      cases e
      refine ⟨v, List.getElem?_set_self (by rw [R.len]; exact hl), ?_⟩
      show Ow P G H _ (if j = j then F else Fs j) v d
      rw [if_pos rfl, ow_setw, if_pos rfl]
      exact w
    · rw [List.getElem?_set_ne (Ne.symm hj)] at e
      obtain ⟨v', e1, w'⟩ := h1 j dj e
      refine ⟨v', by rw [List.getElem?_set_ne (Ne.symm hj)]; exact e1, ?_⟩
      show Ow P G H _ (if j = i then F else Fs j) v' dj
      rw [if_neg hj, ow_setw, if_neg hj]
      refine w'.frame (x.le R.sub) fun a fa => ?_
      obtain ⟨_, _, u, hu⟩ := h2 j a fa
      rw [hu]; exact x.same a u hu
  · show New B.H G H (if j = i then F else Fs j)
    by_cases hj : j = i
    · rw [if_pos hj]
      exact fun a fa => ⟨none_le R.ent (n a fa).1, (n a fa).2⟩
    · rw [if_neg hj]
      exact (h2 j).ext x
  · have z1 : (if j = i then F else Fs j) a := z1
    have z2 : (if k = i then F else Fs k) a := z2
    have cl : ∀ k, F a → Fs k a → False := fun k y1 y2 => by
      obtain ⟨_, _, u, hu⟩ := h2 k a y2
      rw [(n a y1).1] at hu; cases hu
    by_cases hj : j = i
    · by_cases hk : k = i
      · rw [hj, hk]
      · rw [if_pos hj] at z1; rw [if_neg hk] at z2
        exact (cl k z1 z2).elim
    · by_cases hk : k = i
      · rw [if_neg hj] at z1; rw [if_pos hk] at z2
        exact (cl j z2 z1).elim
      · rw [if_neg hj] at z1; rw [if_neg hk] at z2
        exact h3 j k a z1 z2
theorem Rel.setOld (R : Rel P B ω env σ G H) {o : Own} {v : V} {d : D} (w : Ow P G H o (fun _ => False) v d) (i : Nat) : Rel P B (setw ω i o) (env.set i (some d)) (σ.set i (some v)) G H :=
  R.setNew (.refl R.sub) (fun _ z => z.elim) w i
/-- a slot is forgotten -/
theorem Rel.drop1 (R : Rel P B ω env σ G H) (i : Nat) (v : Option V) : Rel P B ω (env.set i none) (σ.set i v) G H := by
  obtain ⟨Fs, h1, h2, h3⟩ := R.slots
  refine ⟨R.sub, R.ent, R.entG, by simp [R.len], Fs, fun j dj e => ?_, h2, h3⟩
  by_cases hj : j = i
  · subst hj
    by_cases hl : j < env.length
    · rw [List.getElem?_set_self hl] at e; cases e
    · rw [List.getElem?_eq_none (by simpa using Nat.le_of_not_lt hl)] at e; cases e
  · rw [List.getElem?_set_ne (Ne.symm hj)] at e
    obtain ⟨v', e1, w'⟩ := h1 j dj e
    exact ⟨v', by rw [List.getElem?_set_ne (Ne.symm hj)]; exact e1, w'⟩
theorem ow_all {ω ω' : List Own} (h : ((List.range (max ω.length ω'.length)).all fun i => ow ω i == ow ω' i) = true) (i : Nat) : ow ω i = ow ω' i := by
  by_cases hi : i < max ω.length ω'.length
  · rw [List.all_eq_true] at h
    simpa using h i (List.mem_range.mpr hi)
  · have h1 : ω.length ≤ i := by omega
    have h2 : ω'.length ≤ i := by omega
    unfold ow
    rw [List.getD_eq_getElem?_getD, List.getD_eq_getElem?_getD, List.getElem?_eq_none h1, List.getElem?_eq_none h2]
theorem Rel.like (R : Rel P B ω env σ G H) (h : ∀ i, ow ω i = ow ω' i) : Rel P B ω' env σ G H := by
  obtain ⟨Fs, h1, h2, h3⟩ := R.slots
  refine ⟨R.sub, R.ent, R.entG, R.len, Fs, fun i d e => ?_, h2, h3⟩
  rw [← h i]; exact h1 i d e
/-- slots softened, each as wanted -/
theorem Rel.soften (R : Rel P B ω env σ G H) (h : ∀ i d, env[i]? = some (some d) → co (ow ω i) (ow ω' i) = true) : ∃ G', Le G G' ∧ Rel P B ω' env σ G' H := by
  obtain ⟨Fs, h1, h2, h3⟩ := R.slots
  have q : ∀ i, ∃ S : Addr → Prop, (∀ a, S a → Fs i a) ∧ ∀ d v, env[i]? = some (some d) → σ[i]? = some (some v) → ∀ G', Le G G' → (∀ a, S a → G' a = H a) → Ow P G' H (ow ω' i) (fun a => Fs i a ∧ ¬ S a) v d := fun i => by
    cases e : env[i]? with
    | none => exact ⟨fun _ => False, fun _ z => z.elim, fun d v z => by cases z⟩
    | some x =>
      cases x with
      | none => exact ⟨fun _ => False, fun _ z => z.elim, fun d v z => by cases z⟩
      | some d =>
        obtain ⟨v, ev, w⟩ := h1 i d e
        obtain ⟨S, s1, s2⟩ := w.soften _ (h i d e)
        refine ⟨S, s1, fun d' v' z1 z2 G' l k => ?_⟩
        cases z1
        rw [ev] at z2
        cases z2
        exact s2 G' l k
  classical
  let S : Nat → Addr → Prop := fun i => (q i).choose
  have hS : ∀ i, (∀ a, S i a → Fs i a) ∧ ∀ d v, env[i]? = some (some d) → σ[i]? = some (some v) → ∀ G', Le G G' → (∀ a, S i a → G' a = H a) → Ow P G' H (ow ω' i) (fun a => Fs i a ∧ ¬ S i a) v d := fun i => (q i).choose_spec
  refine ⟨fun a => if ∃ i, S i a then H a else G a, fun a u hu => ?_, ?_⟩
  · have : ¬ ∃ i, S i a := fun ⟨i, z⟩ => by
      obtain ⟨_, ng, _⟩ := h2 i a ((hS i).1 a z)
      rw [ng] at hu; cases hu
    show (if ∃ i, S i a then H a else G a) = _
    rw [if_neg this]; exact hu
  · have le : Le G (fun a => if ∃ i, S i a then H a else G a) := fun a u hu => by
      have : ¬ ∃ i, S i a := fun ⟨i, z⟩ => by
        obtain ⟨_, ng, _⟩ := h2 i a ((hS i).1 a z)
        rw [ng] at hu; cases hu
      show (if ∃ i, S i a then H a else G a) = _
      rw [if_neg this]; exact hu
    refine ⟨fun a u hu => ?_, R.ent, fun a u hu => ?_, R.len, fun i a => Fs i a ∧ ¬ S i a, fun i d e => ?_, fun i a ⟨fa, ns⟩ => ?_, fun i j a z1 z2 => h3 i j a z1.1 z2.1⟩
    · have hu : (if ∃ i, S i a then H a else G a) = some u := hu
      split at hu
      · exact hu
      · exact R.sub a u hu
    · have : ¬ ∃ i, S i a := fun ⟨i, z⟩ => by
        obtain ⟨nb, _, _⟩ := h2 i a ((hS i).1 a z)
        rw [nb] at hu; cases hu
      show (if ∃ i, S i a then H a else G a) = _
      rw [if_neg this]; exact R.entG a u hu
    · obtain ⟨v, ev, w⟩ := h1 i d e
      exact ⟨v, ev, (hS i).2 d v e ev _ le fun a z => if_pos ⟨i, z⟩⟩
    · obtain ⟨nb, ng, hh⟩ := h2 i a fa
      refine ⟨nb, ?_, hh⟩
      show (if ∃ i, S i a then H a else G a) = _
      rw [if_neg fun ⟨j, z⟩ => ns (by rw [h3 i j a fa ((hS j).1 a z)]; exact z)]
      exact ng
theorem co_sh (o : Own) : co o .sh = true := by cases o <;> rfl
theorem co_self : ∀ o : Own, co o o = true
  | .sc => rfl
  | .sh => rfl
  | .nd o => co_self o
theorem Rel.freeze (R : Rel P B ω env σ G H) : ∃ G', Le G G' ∧ Rel P B [] env σ G' H := R.soften fun i d _ => by
  show co _ (ow [] i) = true
  exact co_sh _
end
end SH
end
section
set_option Elab.async false
set_option linter.all false
set_option autoImplicit false
/-! Does a core term stand for an expression of the text; who holds its value. -/
namespace SH
open PySem L2

structure Ck where
  sc : Scope
  N : List Str
  hot : Bool

/-! ### what an expression is -/
def asName : Expr → Option (Str × Pos)
  | .Name x p => some (x, p)
  | _ => none
theorem asName_eq {e : Expr} {x : Str} {p : Pos} (h : asName e = some (x, p)) : e = .Name x p := by
  cases e <;> simp [asName] at h
  obtain ⟨rfl, rfl⟩ := h; rfl
def asConst : Expr → Option (Const × Nat × Pos)
  | .Constant c k p => some (c, k, p)
  | _ => none
theorem asConst_eq {e : Expr} {c : Const} {k : Nat} {p : Pos} (h : asConst e = some (c, k, p)) : e = .Constant c k p := by
  cases e <;> simp [asConst] at h
  obtain ⟨rfl, rfl, rfl⟩ := h; rfl
def asTup : Expr → Option (List Expr × Nat × Pos)
  | .Tuple c k p => some (c, k, p)
  | _ => none
theorem asTup_eq {e : Expr} {c : List Expr} {k : Nat} {p : Pos} (h : asTup e = some (c, k, p)) : e = .Tuple c k p := by
  cases e <;> simp [asTup] at h
  obtain ⟨rfl, rfl, rfl⟩ := h; rfl
def asLst : Expr → Option (List Expr × Pos)
  | .List c p => some (c, p)
  | _ => none
theorem asLst_eq {e : Expr} {c : List Expr} {p : Pos} (h : asLst e = some (c, p)) : e = .List c p := by
  cases e <;> simp [asLst] at h
  obtain ⟨rfl, rfl⟩ := h; rfl
def asDict0 : Expr → Option Pos
  | .Dict [] [] p => some p
  | _ => none
theorem asDict0_eq {e : Expr} {p : Pos} (h : asDict0 e = some p) : e = .Dict [] [] p := by
  unfold asDict0 at h
  split at h
  · cases h; rfl
  · cases h
def asUn : Expr → Option (UnaryOp × Expr × Pos)
  | .UnaryOp o a p => some (o, a, p)
  | _ => none
theorem asUn_eq {e : Expr} {o : UnaryOp} {a : Expr} {p : Pos} (h : asUn e = some (o, a, p)) : e = .UnaryOp o a p := by
  cases e <;> simp [asUn] at h
  obtain ⟨rfl, rfl, rfl⟩ := h; rfl
def asBin : Expr → Option (Expr × Operator × Expr × Pos)
  | .BinOp a o b p => some (a, o, b, p)
  | _ => none
theorem asBin_eq {e : Expr} {o : Operator} {a b : Expr} {p : Pos} (h : asBin e = some (a, o, b, p)) : e = .BinOp a o b p := by
  cases e <;> simp [asBin] at h
  obtain ⟨rfl, rfl, rfl, rfl⟩ := h; rfl
def asCmp : Expr → Option (Expr × CmpOp × Expr × Pos)
  | .Compare a [o] [b] p => some (a, o, b, p)
  | _ => none
theorem asCmp_eq {e : Expr} {o : CmpOp} {a b : Expr} {p : Pos} (h : asCmp e = some (a, o, b, p)) : e = .Compare a [o] [b] p := by
  unfold asCmp at h
  split at h
  · cases h; rfl
  · cases h
def asCmp2 : Expr → Option (Expr × CmpOp × CmpOp × Expr × Expr × Pos)
  | .Compare a [o, o'] [b, c] p => some (a, o, o', b, c, p)
  | _ => none
theorem asCmp2_eq {e : Expr} {o o' : CmpOp} {a b c : Expr} {p : Pos} (h : asCmp2 e = some (a, o, o', b, c, p)) : e = .Compare a [o, o'] [b, c] p := by
  unfold asCmp2 at h
  split at h
  · cases h; rfl
  · cases h
def asCmp3 : Expr → Option (Expr × CmpOp × CmpOp × CmpOp × Expr × Expr × Expr × Pos)
  | .Compare a [o, o', o2] [b, c, d] p => some (a, o, o', o2, b, c, d, p)
  | _ => none
theorem asCmp3_eq {e : Expr} {o o' o2 : CmpOp} {a b c d : Expr} {p : Pos} (h : asCmp3 e = some (a, o, o', o2, b, c, d, p)) : e = .Compare a [o, o', o2] [b, c, d] p := by
  unfold asCmp3 at h
  split at h
  · cases h; rfl
  · cases h
/-- a and b, a and b and c: the first one, and the rest as one expression -/
def asBool : Expr → Option (BoolOp × Expr × Expr × List Expr × Pos)
  | .BoolOp o (a :: b :: r) p => some (o, a, b, r, p)
  | _ => none
theorem asBool_eq {e : Expr} {o : BoolOp} {a b : Expr} {r : List Expr} {p : Pos} (h : asBool e = some (o, a, b, r, p)) : e = .BoolOp o (a :: b :: r) p := by
  unfold asBool at h
  split at h
  · cases h; rfl
  · cases h
def asIf : Expr → Option (Expr × Expr × Expr × Pos)
  | .IfExp c a b p => some (c, a, b, p)
  | _ => none
theorem asIf_eq {e : Expr} {a b c : Expr} {p : Pos} (h : asIf e = some (c, a, b, p)) : e = .IfExp c a b p := by
  cases e <;> simp [asIf] at h
  obtain ⟨rfl, rfl, rfl, rfl⟩ := h; rfl
def notSl : Expr → Bool
  | .Slice _ _ _ _ => false
  | _ => true
def asIx : Expr → Option (Expr × Expr × Pos)
  | .Subscript a i p => some (a, i, p)
  | _ => none
theorem asIx_eq {e : Expr} {a b : Expr} {p : Pos} (h : asIx e = some (a, b, p)) : e = .Subscript a b p := by
  cases e <;> simp [asIx] at h
  obtain ⟨rfl, rfl, rfl⟩ := h; rfl
def asSl : Expr → Option (Option Expr × Option Expr × Pos)
  | .Slice lo hi none p => some (lo, hi, p)
  | _ => none
theorem asSl_eq {e : Expr} {a b : Option Expr} {p : Pos} (h : asSl e = some (a, b, p)) : e = .Slice a b none p := by
  unfold asSl at h
  split at h
  · cases h; rfl
  · cases h
def asCall : Expr → Option (Str × Pos × List Expr × Pos)
  | .Call (.Name x p) es [] q => some (x, p, es, q)
  | _ => none
theorem asCall_eq {e : Expr} {x : Str} {p q : Pos} {es : List Expr} (h : asCall e = some (x, p, es, q)) : e = .Call (.Name x p) es [] q := by
  unfold asCall at h
  split at h
  · cases h; rfl
  · cases h
def asMeth : Expr → Option (Expr × Str × Pos × List Expr × Pos)
  | .Call (.Attribute o m p) es [] q => some (o, m, p, es, q)
  | _ => none
theorem asMeth_eq {e o : Expr} {m : Str} {p q : Pos} {es : List Expr} (h : asMeth e = some (o, m, p, es, q)) : e = .Call (.Attribute o m p) es [] q := by
  unfold asMeth at h
  split at h
  · cases h; rfl
  · cases h
def asAttr : Expr → Option (Expr × Str × Pos)
  | .Attribute o m p => some (o, m, p)
  | _ => none
theorem asAttr_eq {e o : Expr} {m : Str} {p : Pos} (h : asAttr e = some (o, m, p)) : e = .Attribute o m p := by
  cases e <;> simp [asAttr] at h
  obtain ⟨rfl, rfl, rfl⟩ := h; rfl
def asLc : Expr → Option (Expr × Expr × Expr × List Expr × Scope × Pos)
  | .ListComp elt [⟨tg, it, ifs, 0⟩] sc p => some (elt, tg, it, ifs, sc, p)
  | _ => none
theorem asLc_eq {e elt tg it : Expr} {ifs : List Expr} {sc : Scope} {p : Pos} (h : asLc e = some (elt, tg, it, ifs, sc, p)) : e = .ListComp elt [⟨tg, it, ifs, 0⟩] sc p := by
  unfold asLc at h
  split at h
  · cases h; rfl
  · cases h
def notStar : Expr → Bool
  | .Starred _ _ => false
  | _ => true
theorem star_plain {e : Expr} {es : List Expr} {env : PySem.Env} (h : notStar e = true) : starEach (e :: es) env = (false, eval e env) :: starEach es env := by
  cases e <;> first | rfl | (simp [notStar] at h)
theorem star_any {pos : Pos} {env : PySem.Env} : ∀ {es : List Expr}, es.all notStar = true → (backTo pos (starEach es env)).any (·.1) = false
  | [], _ => rfl
  | e :: es, h => by
    rw [List.all_cons, Bool.and_eq_true] at h
    rw [star_plain h.1]
    have ih := star_any (pos := pos) (env := env) h.2
    unfold backTo at ih ⊢
    simp only [List.map_cons, List.any_cons, Bool.or_eq_false_iff]
    exact ⟨trivial, ih⟩
/-- an expression whose test is its value's truth -/
def plainT : Expr → Bool
  | .UnaryOp .Not _ _ => false
  | .BoolOp _ _ _ => false
  | .IfExp _ _ _ _ => false
  | .Compare _ _ _ _ => false
  | _ => true
theorem plainT_eq {e : Expr} {env : PySem.Env} (h : plainT e = true) (whole : Sem Value) : isTrue e env whole = (do let v ← whole; standAt e.pos; holding [v] (truthy v)) := by
  cases e with
  | UnaryOp o a p => cases o <;> first | rfl | (simp [plainT] at h)
  | BoolOp o a p => simp [plainT] at h
  | IfExp a b c p => simp [plainT] at h
  | Compare a b c p => simp [plainT] at h
  | _ => rfl
/-- a receiver that is no super() -/
def plainB : Expr → Bool
  | .Call (.Name _ _) [] [] _ => false
  | _ => true
theorem plainB_eq {o : Expr} {m : Str} {env : PySem.Env} (h : plainB o = true) : attributeBase o m env (eval o env) = eval o env := by
  unfold attributeBase
  split
  · simp [plainB] at h
  · rfl
def notSet : Expr → Bool
  | .Set _ _ _ => false
  | _ => true
theorem notSet_eq {op : CmpOp} {e : Expr} (h : notSet e = true) : behindInMarks op e = false := by
  cases e <;> first | rfl | (simp [notSet] at h)
theorem notSet_fold {e : Expr} {env : PySem.Env} (h : notSet e = true) (x : Value) : foldedSetIterable e env x = pure x := by
  cases e <;> first | rfl | (simp [notSet] at h)
theorem plainIx {b : Expr} (h : notSl b = true) : PlainIx b := fun o i => by
  cases b <;> first | rfl | (simp [notSl] at h)
def notComp : Expr → Bool
  | .ListComp _ _ _ _ => false
  | .SetComp _ _ _ _ => false
  | .DictComp _ _ _ _ _ => false
  | _ => true
theorem notComp_eq {e : Expr} {tg : Option Expr} {l : Nat} {env : PySem.Env} (h : notComp e = true) : swapsWith e tg l env = pure false := by
  unfold swapsWith
  cases e <;> first | rfl | (simp [notComp] at h)
/-- the name is one that an inner block reads -/
def isCel (sc : Scope) (x : Str) : Bool := match sc.names.lookup x with
  | some .cell => true
  | _ => false
theorem isCel_eq {e : Expr} {x : Str} {p : Pos} {l : Nat} {env : PySem.Env} (h : isCel env.scope x = true) : swapsWith e (some (.Name x p)) l env = pure false := by
  have hk : env.kindOf x = some .cell := by
    unfold isCel at h
    show env.scope.names.lookup x = _
    split at h
    · assumption
    · cases h
  have h0 : (env.kindOf x == some .local) = false := by rw [hk]; rfl
  unfold swapsWith
  cases e <;> first | rfl | (simp only [h0, Bool.and_false, Bool.false_and])
theorem notComp_sole {e t : Expr} {l : Nat} {env : PySem.Env} (h : notComp e = true) : swapsWithSole [t] e l env = pure false := by
  unfold swapsWithSole
  exact notComp_eq h

/-! ### names -/
def visB (sc : Scope) (x : Str) : Bool := match sc.names.lookup x with
  | some .local => true
  | some .cell => true
  | some .free => true
  | _ => false
def locB (sc : Scope) (x : Str) : Bool := match sc.names.lookup x with
  | some .local => true
  | some .cell => true
  | _ => false
def isLoc (sc : Scope) (x : Str) : Bool := match sc.names.lookup x with
  | some .local => true
  | _ => false
def gloB (sc : Scope) (x : Str) : Bool := (match sc.names.lookup x with
  | some .globalImplicit => true
  | _ => false) && !(x == ("__debug__" : Str)) && !(x == ("__name__" : Str))
def slotB (I : Ck) (i : Nat) (x : Str) : Bool := (match I.N[i]? with
  | some y => y == x
  | none => false) && visB I.sc x && !(x == ("__debug__" : Str)) && !(x == ("__classdict__" : Str))
theorem visB_ok {sc : Scope} {x : Str} (h : visB sc x = true) : Vis sc x := by
  unfold visB at h
  split at h
  · exact .inl (by assumption)
  · exact .inr (.inl (by assumption))
  · exact .inr (.inr (by assumption))
  · cases h
theorem locB_ok {sc : Scope} {x : Str} (h : locB sc x = true) : Loc sc x := by
  unfold locB at h
  split at h
  · exact .inl (by assumption)
  · exact .inr (by assumption)
  · cases h
theorem isLoc_ok {sc : Scope} {x : Str} (h : isLoc sc x = true) : sc.names.lookup x = some .local := by
  unfold isLoc at h
  split at h
  · assumption
  · cases h
theorem gloB_ok {sc : Scope} {x : Str} (h : gloB sc x = true) : sc.names.lookup x = some .globalImplicit ∧ (x == ("__debug__" : Str)) = false ∧ x ≠ "__name__" := by
  unfold gloB at h
  simp only [Bool.and_eq_true, Bool.not_eq_true'] at h
  obtain ⟨⟨h1, h2⟩, h3⟩ := h
  refine ⟨?_, h2, by simpa using h3⟩
  split at h1
  · assumption
  · cases h1
theorem slotB_ok {I : Ck} {i : Nat} {x : Str} (h : slotB I i x = true) : I.N[i]? = some x ∧ Vis I.sc x ∧ (x == ("__debug__" : Str)) = false ∧ (x == ("__classdict__" : Str)) = false := by
  unfold slotB at h
  simp only [Bool.and_eq_true, Bool.not_eq_true'] at h
  obtain ⟨⟨⟨h1, h2⟩, h3⟩, h4⟩ := h
  refine ⟨?_, visB_ok h2, h3, h4⟩
  split at h1
  · rename_i y e
    rw [e]; exact congrArg some (by simpa using h1)
  · cases h1

/-! ### who holds a value -/
def kdOf : Own → Kd
  | .sc => .sc
  | .sh => .sh
  | .nd o => .bo (.nd o)
/-- may a value of this kind be kept as o -/
def kOK : Kd → Own → Bool
  | .sc, _ => true
  | .sh, o => o == .sh
  | .fr o', o => co o' o
  | .bo _, _ => false
/-- what is in a thing, read -/
def kid : Kd → Kd
  | .sc => .sc
  | .sh => .sh
  | .fr (.nd o) => kdOf o
  | .bo (.nd o) => kdOf o
  | .fr o => ofOwn o
  | .bo o => kdOf o
def lub : Own → Own → Own
  | .sc, o => o
  | o, .sc => o
  | .nd a, .nd b => .nd (lub a b)
  | _, _ => .sh
def ownOf : Kd → Own
  | .sc => .sc
  | .sh => .sh
  | .fr o => o
  | .bo o => o
def noSh : Own → Bool
  | .sc => true
  | .sh => false
  | .nd o => noSh o
/-- what is in a thing may be kept: what it is -/
def kidO (κ : Kd) : Option Own := match kid κ with
  | .sc => some .sc
  | .sh => some .sh
  | _ => none
def opOf : Op2 → Operator
  | .add => .Add | .sub => .Sub | .mul => .Mult | .fdiv => .FloorDiv | .mod => .Mod | .pow => .Pow | .band => .BitAnd
def cmpOf : Cmp → CmpOp
  | .lt => .Lt | .le => .LtE | .gt => .Gt | .ge => .GtE | .eq => .Eq | .ne => .NotEq | .isN => .Is | .notN => .IsNot | .isB => .Is | .notB => .IsNot | .inn => .In | .nin => .NotIn
def bltNm : Blt → String
  | .len => "len" | .abs => "abs" | .int => "int" | .min => "min" | .max => "max" | .ord => "ord" | .sum => "sum" | .all => "all" | .sorted => "sorted" | .list => "list" | .tuple => "tuple" | .dict => "dict" | .str => "str" | .repr => "repr"
def tyNm : Ty → String
  | .int => "int" | .bool => "bool" | .list => "list" | .tuple => "tuple" | .str => "str" | .dict => "dict"
def mthNm : Mth → String
  | .get => "get" | .join => "join" | .find => "find" | .split => "split" | .index => "index"
end SH
end
section
set_option Elab.async false
set_option linter.all false
set_option autoImplicit false
/-! What an evaluation leaves, as a reading. -/
namespace SH
open PySem L2

theorem _root_.L2.PE.imp {X : Cx} {e : Expr} {t t' : TE} (h : PE X e t) (i : ∀ σ H Q, t' σ H Q → t σ H Q) : PE X e t' := ⟨fun pins s σ H Q I hq => h.run pins s σ H Q I (i _ _ _ hq)⟩
theorem _root_.L2.PT.imp {X : Cx} {e : Expr} {t t' : TT} (h : PT X e t) (i : ∀ σ H Q, t' σ H Q → t σ H Q) : PT X e t' := ⟨fun pins s σ H Q I hq => h.run pins s σ H Q I (i _ _ _ hq)⟩
theorem _root_.L2.PW.imp {X : Cx} {e : Expr} {t t' : TT} (h : PW X e t) (i : ∀ σ H Q, t' σ H Q → t σ H Q) : PW X e t' := ⟨fun wh pins s σ H Q I hq => h.run wh pins s σ H Q I (i _ _ _ hq)⟩
theorem _root_.L2.PA.imp {X : Cx} {es : List Expr} {t t' : TA} (h : PA X es t) (i : ∀ σ H Q, t' σ H Q → t σ H Q) : PA X es t' := ⟨fun pos pins s σ H Q I hq => h.run pos pins s σ H Q I (i _ _ _ hq)⟩
theorem _root_.L2.PS.imp {X : Cx} {st : Stmt} {t t' : TS} (h : PS X st t) (i : ∀ D σ H, t' D σ H → t D σ H) : PS X st t' := ⟨fun pins s σ H D I hq => h.run pins s σ H D I (i _ _ _ hq)⟩
theorem _root_.L2.PSs.imp {X : Cx} {st : List Stmt} {t t' : TS} (h : PSs X st t) (i : ∀ D σ H, t' D σ H → t D σ H) : PSs X st t' := ⟨fun pins s σ H D I hq => h.run pins s σ H D I (i _ _ _ hq)⟩

/-- what is wanted of an evaluation from G, H on; N: what a value is to be -/
def Out {α β : Type} (P : Pm) (N : Hp → Hp → α → β → Prop) (W : WX) (σ : St) (G H : Hp) (r : Res β) (Q : α → Hp → Prop) : Prop := match r with
  | .ok d => ∀ v G' H', Ext G H G' H' → N G' H' v d → Q v H'
  | .exc c n => ∀ dx G' H', Ext G H G' H' → H dx = none → G' dx = some (xdN n) → W (.ref (P.ca c)) (some dx) σ H'
  | .bad => False
abbrev OutE (P : Pm) (κ : Kd) (W : WX) (σ : St) (G H : Hp) (r : Res D) (Q : VK) : Prop := Out P (fun G' H' v d => KdR P κ H G' H' v d) W σ G H r Q
abbrev OutB (P : Pm) (W : WX) (σ : St) (G H : Hp) (r : Res Bool) (Q : Bool → Hp → Prop) : Prop := Out P (fun _ _ v d => v = d) W σ G H r Q
/-- several values, each held as o, new since H -/
def KdsR (P : Pm) (o : Own) (H₀ G H : Hp) (vs : List V) (ds : List D) : Prop := vs.length = ds.length ∧ ∃ Fs : Nat → Addr → Prop,
  (∀ (i : Nat) (v : V) (d : D), vs[i]? = some v → ds[i]? = some d → Ow P G H o (Fs i) v d) ∧ (∀ i, New H₀ G H (Fs i)) ∧ ∀ i j a, Fs i a → Fs j a → i = j
abbrev OutA (P : Pm) (o : Own) (W : WX) (σ : St) (G H : Hp) (r : Res (List D)) (Q : List V → Hp → Prop) : Prop := Out P (fun G' H' v d => KdsR P o H G' H' v d) W σ G H r Q
def tE (P : Pm) (B : Bs) (ω : List Own) (κ : Kd) (W : WX) (f : Env → Res D) : TE := fun σ H Q => ∃ env G, Rel P B ω env σ G H ∧ OutE P κ W σ G H (f env) Q
def tT (P : Pm) (B : Bs) (ω : List Own) (W : WX) (f : Env → Res Bool) : TT := fun σ H Q => ∃ env G, Rel P B ω env σ G H ∧ OutB P W σ G H (f env) Q
def tA (P : Pm) (B : Bs) (ω : List Own) (o : Own) (W : WX) (f : Env → Res (List D)) : TA := fun σ H Q => ∃ env G, Rel P B ω env σ G H ∧ OutA P o W σ G H (f env) Q

section
variable {P : Pm} {B : Bs} {W : WX} {σ : St} {G H G₁ H₁ : Hp} {ω : List Own} {env : Env}
theorem Out.ext {α β : Type} {N N' : Hp → Hp → α → β → Prop} {r : Res β} {Q : α → Hp → Prop} (x : Ext G H G₁ H₁) (hN : ∀ G' H' v d, Ext G₁ H₁ G' H' → N' G' H' v d → N G' H' v d) (h : Out P N W σ G H r Q) : Out P N' W σ G₁ H₁ r Q := by
  cases r with
  | ok d => exact fun v G' H' y n => h v G' H' (x.trans y) (hN _ _ _ _ y n)
  | exc c n => exact fun dx G' H' y e g => h dx G' H' (x.trans y) (none_le x.same e) g
  | bad => exact h
theorem OutE.ext {κ : Kd} {r : Res D} {Q : VK} (x : Ext G H G₁ H₁) (h : OutE P κ W σ G H r Q) : OutE P κ W σ G₁ H₁ r Q := Out.ext x (fun _ _ _ _ _ n => n.since x.same) h
theorem OutB.ext {r : Res Bool} {Q : Bool → Hp → Prop} (x : Ext G H G₁ H₁) (h : OutB P W σ G H r Q) : OutB P W σ G₁ H₁ r Q := Out.ext x (fun _ _ _ _ _ n => n) h
theorem KdsR.since {o : Own} {H₀ : Hp} {vs : List V} {ds : List D} (l : Le H₀ H₁) (h : KdsR P o H₁ G H vs ds) : KdsR P o H₀ G H vs ds := by
  obtain ⟨e, Fs, a, b, c⟩ := h
  exact ⟨e, Fs, a, fun i x hx => ⟨none_le l (b i x hx).1, (b i x hx).2⟩, c⟩
theorem OutA.ext {o : Own} {r : Res (List D)} {Q : List V → Hp → Prop} (x : Ext G H G₁ H₁) (h : OutA P o W σ G H r Q) : OutA P o W σ G₁ H₁ r Q := Out.ext x (fun _ _ _ _ _ n => n.since x.same) h
theorem KdsR.ext {o : Own} {H₀ G' H' : Hp} {vs : List V} {ds : List D} (s : Le G H) (x : Ext G H G' H') (h : KdsR P o H₀ G H vs ds) : KdsR P o H₀ G' H' vs ds := by
  obtain ⟨e, Fs, a, b, c⟩ := h
  refine ⟨e, Fs, fun i v d h1 h2 => (a i v d h1 h2).frame (x.le s) fun b' hb => ?_, fun i => (b i).ext x, c⟩
  obtain ⟨_, _, u, hu⟩ := b i b' hb
  rw [hu]; exact x.same _ u hu
/-- one evaluation after another -/
theorem step {α β : Type} {N : Hp → Hp → α → β → Prop} {κ : Kd} {f : Env → Res D} {g : D → Res β} {Q : α → Hp → Prop} {Rest : VK} (R : Rel P B ω env σ G H) (h : Out P N W σ G H (f env >>= g) Q)
    (k : ∀ d v G₁ H₁, f env = .ok d → Rel P B ω env σ G₁ H₁ → Ext G H G₁ H₁ → KdR P κ H G₁ H₁ v d → Out P N W σ G H (g d) Q → Rest v H₁) : tE P B ω κ W f σ H Rest := by
  refine ⟨env, G, R, ?_⟩
  cases e : f env with
  | ok d =>
    rw [e] at h
    exact fun v G' H' x n => k d v G' H' e (R.ext x) x n h
  | exc c n =>
    rw [e] at h
    exact h
  | bad =>
    rw [e] at h
    exact h
theorem stepB {α β : Type} {N : Hp → Hp → α → β → Prop} {f : Env → Res Bool} {g : Bool → Res β} {Q : α → Hp → Prop} {Rest : Bool → Hp → Prop} (R : Rel P B ω env σ G H) (h : Out P N W σ G H (f env >>= g) Q)
    (k : ∀ d G₁ H₁, f env = .ok d → Rel P B ω env σ G₁ H₁ → Ext G H G₁ H₁ → Out P N W σ G H (g d) Q → Rest d H₁) : tT P B ω W f σ H Rest := by
  refine ⟨env, G, R, ?_⟩
  cases e : f env with
  | ok d =>
    rw [e] at h
    exact fun v G' H' x n => by subst n; exact k v G' H' e (R.ext x) x h
  | exc c n =>
    rw [e] at h
    exact h
  | bad =>
    rw [e] at h
    exact h
theorem stepA {α β : Type} {N : Hp → Hp → α → β → Prop} {o : Own} {f : Env → Res (List D)} {g : List D → Res β} {Q : α → Hp → Prop} {Rest : List V → Hp → Prop} (R : Rel P B ω env σ G H) (h : Out P N W σ G H (f env >>= g) Q)
    (k : ∀ d v G₁ H₁, f env = .ok d → Rel P B ω env σ G₁ H₁ → Ext G H G₁ H₁ → KdsR P o H G₁ H₁ v d → Out P N W σ G H (g d) Q → Rest v H₁) : tA P B ω o W f σ H Rest := by
  refine ⟨env, G, R, ?_⟩
  cases e : f env with
  | ok d =>
    rw [e] at h
    exact fun v G' H' x n => k d v G' H' e (R.ext x) x n h
  | exc c n =>
    rw [e] at h
    exact h
  | bad =>
    rw [e] at h
    exact h

/-! ### new things -/
theorem Ext.push {p : Addr} {o : HO} (s : Le G H) (hp : H p = none) : Ext G H G (upd H p o) := by
  refine ⟨fun a u h => ?_, fun _ _ _ => rfl, fun a u h => ?_⟩
  · rw [upd_ne (ne_of_none h hp)]; exact h
  · rw [upd_ne (ne_of_none (s a u h) hp)]; exact s a u h
theorem none_of_le {a : Addr} (s : Le G H) (h : H a = none) : G a = none := none_le s h
theorem new_lst {o : Own} {H₀ : Hp} {p : Addr} {vs : List V} {ds : List D} (s : Le G H) (l : Le H₀ H) (hp : H p = none) (h : KdsR P o H₀ G H vs ds) : KdR P (.fr (.nd o)) H₀ G (upd H p (.lst vs)) (.ref p) (.lst ds) := by
  obtain ⟨e, Fs, a, b, c⟩ := h
  have np : ∀ i a, Fs i a → a ≠ p := fun i a h z => by
    obtain ⟨_, _, u, hu⟩ := b i a h
    rw [z, hp] at hu; cases hu
  refine ⟨fun a => a = p ∨ ∃ i, Fs i a, fun a h => ?_, .lst Fs upd_same (.inl rfl) e (fun i v d h1 h2 => (a i v d h1 h2).frame (.refl _) fun b hb => upd_ne (np i b hb)) (fun i a h => ⟨.inr ⟨i, h⟩, np i a h⟩) c⟩
  rcases h with rfl | ⟨i, h⟩
  · exact ⟨none_le l hp, none_le s hp, _, upd_same⟩
  · obtain ⟨n0, ng, u, hu⟩ := b i a h
    exact ⟨n0, ng, u, by rw [upd_ne (np i a h)]; exact hu⟩
theorem new_tup {o : Own} {H₀ : Hp} {p : Addr} {vs : List V} {ds : List D} (s : Le G H) (l : Le H₀ H) (hp : H p = none) (h : KdsR P o H₀ G H vs ds) : KdR P (.fr (.nd o)) H₀ G (upd H p (.tup vs)) (.ref p) (.tup ds) := by
  obtain ⟨e, Fs, a, b, c⟩ := h
  have np : ∀ i a, Fs i a → a ≠ p := fun i a h z => by
    obtain ⟨_, _, u, hu⟩ := b i a h
    rw [z, hp] at hu; cases hu
  refine ⟨fun a => a = p ∨ ∃ i, Fs i a, fun a h => ?_, .tup Fs upd_same (.inl rfl) e (fun i v d h1 h2 => (a i v d h1 h2).frame (.refl _) fun b hb => upd_ne (np i b hb)) (fun i a h => ⟨.inr ⟨i, h⟩, np i a h⟩) c⟩
  rcases h with rfl | ⟨i, h⟩
  · exact ⟨none_le l hp, none_le s hp, _, upd_same⟩
  · obtain ⟨n0, ng, u, hu⟩ := b i a h
    exact ⟨n0, ng, u, by rw [upd_ne (np i a h)]; exact hu⟩
/-- children that nobody owns -/
theorem KdsR.kids {o : Own} (ho : o = .sc ∨ o = .sh) {H₀ : Hp} {vs : List V} {ds : List D} (e : vs.length = ds.length) (h : ∀ (i : Nat) (v : V) (d : D), vs[i]? = some v → ds[i]? = some d → KdR P (ofOwn o) H₀ G H v d) : KdsR P o H₀ G H vs ds := by
  refine ⟨e, fun _ _ => False, fun i v d h1 h2 => ?_, fun _ _ z => z.elim, fun _ _ _ z => z.elim⟩
  have q := h i v d h1 h2
  rcases ho with rfl | rfl
  · exact .sc q
  · exact .sh q

/-! ### kinds -/
theorem KdR.bo_of {F : Addr → Prop} {o : Own} {H₀ : Hp} {v : V} {d : D} (h : Ow P G H o F v d) : KdR P (kdOf o) H₀ G H v d := by
  cases o with
  | sc => exact h.scO
  | sh => exact h.shr
  | nd o => exact ⟨F, h⟩
/-- made shared as far as o says, and kept -/
theorem KdR.keep {κ : Kd} {o : Own} {H₀ G₀ : Hp} {v : V} {d : D} (ok : kOK κ o = true) (x : Ext G₀ H₀ G H) (h : KdR P κ H₀ G H v d) : ∃ G' F, Ext G₀ H₀ G' H ∧ New H₀ G' H F ∧ Ow P G' H o F v d := by
  cases κ with
  | sc => exact ⟨G, fun _ => False, x, fun _ z => z.elim, .sc h⟩
  | sh =>
    have e : o = .sh := by simpa [kOK] using ok
    subst e
    exact ⟨G, fun _ => False, x, fun _ z => z.elim, .sh h⟩
  | bo o' => simp [kOK] at ok
  | fr o' =>
    obtain ⟨F, n, w⟩ := h
    obtain ⟨S, hS, hw⟩ := w.soften o ok
    classical
    refine ⟨fun a => if S a then H a else G a, fun a => F a ∧ ¬ S a, ⟨x.same, fun a u hu => ?_, fun a u hu => ?_⟩, fun a ⟨fa, ns⟩ => ?_, hw _ (fun a u hu => ?_) fun a sa => if_pos sa⟩
    · have ns : ¬ S a := fun z => by
        obtain ⟨z0, _⟩ := n a (hS a z)
        rw [z0] at hu; cases hu
      show (if S a then H a else G a) = _
      rw [if_neg ns]; exact x.keep a u hu
    · have hu : (if S a then H a else G a) = some u := hu
      split at hu
      · exact hu
      · exact x.sub a u hu
    · obtain ⟨z0, zg, zh⟩ := n a fa
      exact ⟨z0, (if_neg ns).trans zg, zh⟩
    · have ns : ¬ S a := fun z => by
        obtain ⟨_, zg, _⟩ := n a (hS a z)
        rw [zg] at hu; cases hu
      exact (if_neg ns).trans hu
/-- the same, as one of several -/
theorem KdsR.nil {o : Own} {H₀ : Hp} : KdsR P o H₀ G H [] [] := ⟨rfl, fun _ _ => False, fun i v d h => by simp at h, fun _ _ z => z.elim, fun _ _ _ z => z.elim⟩
theorem KdsR.cons {o : Own} {H₀ : Hp} {F : Addr → Prop} {v : V} {d : D} {vs : List V} {ds : List D} (s : Le G H) (x : Ext G H G₁ H₁) (l : Le H₀ H) (n : New H₀ G H F) (w : Ow P G H o F v d) (r : KdsR P o H G₁ H₁ vs ds) : KdsR P o H₀ G₁ H₁ (v :: vs) (d :: ds) := by
  obtain ⟨e, Fs, a, b, c⟩ := r
  refine ⟨by simp [e], fun i => match i with | 0 => F | i + 1 => Fs i, fun i v' d' h1 h2 => ?_, fun i => ?_, fun i j b' h1 h2 => ?_⟩
  · cases i with
    | zero =>
      simp at h1 h2
      subst h1; subst h2
      refine w.frame (x.le s) fun b' hb => ?_
      obtain ⟨_, _, u, hu⟩ := n b' hb
      rw [hu]; exact x.same _ u hu
    | succ i => exact a i v' d' (by simpa using h1) (by simpa using h2)
  · cases i with
    | zero => exact n.ext x
    | succ i => exact fun b' hb => ⟨none_le l (b i b' hb).1, (b i b' hb).2⟩
  · have cl : ∀ i, F b' → Fs i b' → False := fun i z1 z2 => by
      obtain ⟨_, _, u, hu⟩ := n b' z1
      obtain ⟨hn, _⟩ := b i b' z2
      rw [hu] at hn; cases hn
    cases i with
    | zero =>
      cases j with
      | zero => rfl
      | succ j => exact (cl j h1 h2).elim
    | succ i =>
      cases j with
      | zero => exact (cl i h2 h1).elim
      | succ j => exact congrArg (· + 1) (c i j b' h1 h2)
/-- items that stand already, ahead -/
theorem KdsR.app {o : Own} {H₀ : Hp} {us vs : List V} {es ds : List D} (s : Le G H) (x : Ext G H G₁ H₁) (e : us.length = es.length) (h : ∀ (i : Nat) (v : V) (d : D), us[i]? = some v → es[i]? = some d → Ow P G H o (fun _ => False) v d)
    (r : KdsR P o H₀ G₁ H₁ vs ds) : KdsR P o H₀ G₁ H₁ (us ++ vs) (es ++ ds) := by
  obtain ⟨e', Fs, a, b, c⟩ := r
  refine ⟨by simp [e, e'], fun i => if i < us.length then fun _ => False else Fs (i - us.length), fun i v' d' h1 h2 => ?_, fun i => ?_, fun i j b' h1 h2 => ?_⟩
  · by_cases hi : i < us.length
    · rw [List.getElem?_append_left hi] at h1
      rw [List.getElem?_append_left (e ▸ hi)] at h2
      exact ((h i v' d' h1 h2).frame (x.le s) fun _ z => z.elim).more fun _ z => z.elim
    · rw [List.getElem?_append_right (Nat.le_of_not_lt hi)] at h1
      rw [List.getElem?_append_right (e ▸ Nat.le_of_not_lt hi), ← e] at h2
      show Ow P G₁ H₁ o (if i < us.length then fun _ => False else Fs (i - us.length)) v' d'
      rw [if_neg hi]
      exact a _ v' d' h1 h2
  · show New H₀ G₁ H₁ (if i < us.length then fun _ => False else Fs (i - us.length))
    by_cases hi : i < us.length
    · rw [if_pos hi]; exact fun _ z => z.elim
    · rw [if_neg hi]; exact b _
  · have h1 : (if i < us.length then fun _ => False else Fs (i - us.length)) b' := h1
    have h2 : (if j < us.length then fun _ => False else Fs (j - us.length)) b' := h2
    by_cases hi : i < us.length
    · rw [if_pos hi] at h1; exact h1.elim
    · by_cases hj : j < us.length
      · rw [if_pos hj] at h2; exact h2.elim
      · rw [if_neg hi] at h1
        rw [if_neg hj] at h2
        have := c _ _ b' h1 h2
        omega
end
end SH
end
section
set_option Elab.async false
set_option linter.all false
set_option autoImplicit false
/-! Operators: what they give on plain data. -/
namespace SH
open PySem L2

/-! ### data in the kit's words -/
theorem mkS_len (s : List Char) : (mkS s).length = s.length := by simp [mkS, Str.length]
theorem mkS_toList (s : List Char) : (mkS s).cps.toList = s.map Char.toNat := by simp [mkS]
theorem mkS_app (a b : List Char) : mkS (a ++ b) = mkS a ++ mkS b := by
  show _ = Str.append _ _
  simp [mkS, Str.append]
theorem mkS_inj {a b : List Char} (h : mkS a = mkS b) : a = b := by
  have h2 : a.map Char.toNat = b.map Char.toNat := by rw [← mkS_toList, ← mkS_toList, h]
  have inj : ∀ {l m : List Char}, l.map Char.toNat = m.map Char.toNat → l = m := by
    intro l
    induction l with
    | nil => intro m h; cases m with
      | nil => rfl
      | cons _ _ => simp at h
    | cons c l ih => intro m h; cases m with
      | nil => simp at h
      | cons d m =>
        simp only [List.map_cons, List.cons.injEq] at h
        have e : c = d := by
          have h3 := h.1
          apply Char.ext
          apply UInt32.toNat_inj.mp
          exact h3
        rw [e, ih h.2]
  exact inj h2
theorem lim_eq : lim = sizeLine := by rw [sizeLine_eq]; rfl
theorem strOk_mkS (s : List Char) : PyData.strOk (mkS s) = true := by
  unfold PyData.strOk mkS
  simp only [Array.all_eq_true']
  intro x hx
  simp only [List.mem_toArray, List.mem_map] at hx
  obtain ⟨c, _, rfl⟩ := hx
  have h := c.valid
  have : c.toNat = c.val.toNat := rfl
  simp only [UInt32.isValidChar, Nat.isValidChar] at h
  rw [this]
  simp only [decide_eq_true_eq]
  omega
section
variable {P : Pm} {H : Hp}
theorem dpAll_of {K : Fg} : ∀ {vs : List V} {ds : List D}, vs.length = ds.length → (∀ (i : Nat) (v : V) (d : D), vs[i]? = some v → ds[i]? = some d → Dp K H v (py d)) → DpAll K H vs (pyL ds)
  | [], [], _, _ => .nil
  | v :: vs, d :: ds, e, h => .cons (h 0 v d rfl rfl) (dpAll_of (by simpa using e) fun i v d a b => h (i + 1) v d (by simpa using a) (by simpa using b))
  | [], _ :: _, e, _ => by simp at e
  | _ :: _, [], e, _ => by simp at e
theorem Rp.dp {v : V} {d : D} (h : Rp P H v d) : ∀ n, dp n d = true → Dp P.K H v (py d) := by
  induction h with
  | sc h =>
    intro n _
    cases h with
    | non => exact .non
    | bl b => exact .bl b
    | int i => exact .int i
    | str s => exact .str _
  | @tup p vs ds h e _ ih =>
    intro n hn
    cases n with
    | zero => simp [SH.dp] at hn
    | succ n =>
      rw [SH.dp, List.all_eq_true] at hn
      exact .tup (SqT.of h) (dpAll_of e fun i v d a b => ih i v d a b n (hn d (List.mem_of_getElem? b)))
  | @lst p vs ds h e _ ih =>
    intro n hn
    cases n with
    | zero => simp [SH.dp] at hn
    | succ n =>
      rw [SH.dp, List.all_eq_true] at hn
      exact .lst (SqL.of h) (dpAll_of e fun i v d a b => ih i v d a b n (hn d (List.mem_of_getElem? b)))
  | dK h e _ ih => intro n hn; cases n <;> simp [SH.dp] at hn
  | dT h e _ ih => intro n hn; cases n <;> simp [SH.dp] at hn
  | ro h => intro n hn; cases n <;> simp [SH.dp] at hn
  | exo h e => intro n hn; cases n <;> simp [SH.dp] at hn
end
mutual
theorem lay_dp : ∀ (d : D) (n : Nat), dp n d = true → (py d).canLay0 = true ∧ (py d).depth ≤ n
  | .non, _, _ => ⟨by simp [py, PyData.canLay0], by simp [py, PyData.depth]⟩
  | .bl _, _, _ => ⟨by simp [py, PyData.canLay0], by simp [py, PyData.depth]⟩
  | .int _, _, _ => ⟨by simp [py, PyData.canLay0], by simp [py, PyData.depth]⟩
  | .str s, _, _ => ⟨by simp [py, PyData.canLay0, strOk_mkS], by simp [py, PyData.depth]⟩
  | .tup ds, 0, h => by simp [dp] at h
  | .tup ds, n + 1, h => by
    rw [dp] at h
    obtain ⟨a, b⟩ := lay_dpL ds n h
    exact ⟨by rw [py, PyData.canLay0]; exact a, by rw [py, PyData.depth]; omega⟩
  | .lst ds, 0, h => by simp [dp] at h
  | .lst ds, n + 1, h => by
    rw [dp] at h
    obtain ⟨a, b⟩ := lay_dpL ds n h
    exact ⟨by rw [py, PyData.canLay0]; exact a, by rw [py, PyData.depth]; omega⟩
  | .dK _, n, h => by cases n <;> simp [dp] at h
  | .dT _, n, h => by cases n <;> simp [dp] at h
  | .exo _, n, h => by cases n <;> simp [dp] at h
  | .ro _, n, h => by cases n <;> simp [dp] at h
theorem lay_dpL : ∀ (ds : List D) (n : Nat), ds.all (dp n) = true → PyData.canLayAll0 (pyL ds) = true ∧ PyData.depthAll (pyL ds) ≤ n
  | [], _, _ => ⟨by simp [pyL, PyData.canLayAll0], by simp [pyL, PyData.depthAll]⟩
  | d :: ds, n, h => by
    rw [List.all_cons, Bool.and_eq_true] at h
    obtain ⟨a, b⟩ := lay_dp d n h.1
    obtain ⟨a', b'⟩ := lay_dpL ds n h.2
    exact ⟨by rw [pyL, PyData.canLayAll0, a, a']; rfl, by rw [pyL, PyData.depthAll]; omega⟩
end
theorem shaped_dp {d : D} {n : Nat} (hn : n ≤ 64) (h : dp n d = true) : SeqAt.shaped (py d) = true := by
  obtain ⟨a, b⟩ := lay_dp d n h
  unfold SeqAt.shaped
  rw [a, decide_eq_true (Nat.le_trans b hn)]
  rfl

/-! ### shapes of values -/
section
variable {P : Pm} {G H H₀ : Hp} {κ : Kd} {v : V} {i : Int} {b : Bool} {s : List Char}
theorem Rp.int (h : Rp P H v (.int i)) : v = .int i := by
  cases h with
  | sc h => cases h; rfl
theorem Rp.bl (h : Rp P H v (.bl b)) : v = .bl b := by
  cases h with
  | sc h => cases h; rfl
theorem Rp.str (h : Rp P H v (.str s)) : v = .str (mkS s) := by
  cases h with
  | sc h => cases h; rfl
theorem Rp.non (h : Rp P H v .non) : v = .non := by
  cases h with
  | sc h => cases h; rfl
theorem Rp.lstI {ds : List D} (h : Rp P H v (.lst ds)) : ∃ p vs, v = .ref p ∧ H p = some (.lst vs) ∧ vs.length = ds.length ∧ ∀ (i : Nat) (v : V) (d : D), vs[i]? = some v → ds[i]? = some d → Rp P H v d := by
  cases h with
  | sc h => cases h
  | lst h e c => exact ⟨_, _, rfl, h, e, c⟩
theorem Rp.tupI {ds : List D} (h : Rp P H v (.tup ds)) : ∃ p vs, v = .ref p ∧ H p = some (.tup vs) ∧ vs.length = ds.length ∧ ∀ (i : Nat) (v : V) (d : D), vs[i]? = some v → ds[i]? = some d → Rp P H v d := by
  cases h with
  | sc h => cases h
  | tup h e c => exact ⟨_, _, rfl, h, e, c⟩
theorem Rp.dKI {es : List (Ky × D)} (h : Rp P H v (.dK es)) : ∃ p kvs, v = .ref p ∧ Rd H p (.dK kvs) ∧ kvs.map (·.1) = es.map (fun e => kyK e.1) ∧ ∀ (i : Nat) (q : Key × V) (e : Ky × D), kvs[i]? = some q → es[i]? = some e → Rp P H q.2 e.2 := by
  cases h with
  | sc h => cases h
  | dK h e c => exact ⟨_, _, rfl, h, e, c⟩
theorem Rp.dTI {es : List (List Ky × D)} (h : Rp P H v (.dT es)) : ∃ p kvs, v = .ref p ∧ Rd H p (.dT kvs) ∧ kvs.map (·.1) = es.map (fun e => e.1.map kyK) ∧ ∀ (i : Nat) (q : List Key × V) (e : List Ky × D), kvs[i]? = some q → es[i]? = some e → Rp P H q.2 e.2 := by
  cases h with
  | sc h => cases h
  | dT h e c => exact ⟨_, _, rfl, h, e, c⟩
theorem Rp.roI {ns : List Int} (h : Rp P H v (.ro ns)) : ∃ p, v = .ref p ∧ SqL P.K H p (ns.map V.int) := by
  cases h with
  | sc h => cases h
  | ro h => exact ⟨_, rfl, h⟩
/-- a list, with what its items are -/
theorem KdR.lstK {ds : List D} (hs : Le G H) (h : KdR P κ H₀ G H v (.lst ds)) : ∃ p vs, v = .ref p ∧ H p = some (.lst vs) ∧ vs.length = ds.length ∧ ∀ (i : Nat) (v : V) (d : D), vs[i]? = some v → ds[i]? = some d → KdR P (kid κ) H₀ G H v d := by
  have own : ∀ {o : Own} {F : Addr → Prop}, Ow P G H o F v (.lst ds) → ∃ p vs, v = .ref p ∧ H p = some (.lst vs) ∧ vs.length = ds.length ∧ ∀ (i : Nat) (v : V) (d : D), vs[i]? = some v → ds[i]? = some d → KdR P (match o with | .sc => .sc | .sh => .sh | .nd o => kdOf o) H₀ G H v d := by
    intro o F w
    cases w with
    | sc z => cases z
    | sh w1 =>
      cases w1 with
      | sc z => cases z
      | lst z e c => exact ⟨_, _, rfl, hs _ _ z, e, c⟩
    | lst Fs z f e c s j => exact ⟨_, _, rfl, z, e, fun i v d a b => KdR.bo_of (c i v d a b)⟩
  cases κ with
  | sc => cases h
  | sh =>
    have w1 : Rp P G v (.lst ds) := h
    cases w1 with
    | sc z => cases z
    | lst z e c => exact ⟨_, _, rfl, hs _ _ z, e, c⟩
  | fr o =>
    obtain ⟨F, _, w⟩ := h
    have z := own w
    cases o with
    | sc => exact z
    | sh => exact z
    | nd o => exact z
  | bo o =>
    obtain ⟨F, w⟩ := h
    have z := own w
    cases o with
    | sc => exact z
    | sh => exact z
    | nd o => exact z
theorem KdR.tupK {ds : List D} (hs : Le G H) (h : KdR P κ H₀ G H v (.tup ds)) : ∃ p vs, v = .ref p ∧ H p = some (.tup vs) ∧ vs.length = ds.length ∧ ∀ (i : Nat) (v : V) (d : D), vs[i]? = some v → ds[i]? = some d → KdR P (kid κ) H₀ G H v d := by
  have own : ∀ {o : Own} {F : Addr → Prop}, Ow P G H o F v (.tup ds) → ∃ p vs, v = .ref p ∧ H p = some (.tup vs) ∧ vs.length = ds.length ∧ ∀ (i : Nat) (v : V) (d : D), vs[i]? = some v → ds[i]? = some d → KdR P (match o with | .sc => .sc | .sh => .sh | .nd o => kdOf o) H₀ G H v d := by
    intro o F w
    cases w with
    | sc z => cases z
    | sh w1 =>
      cases w1 with
      | sc z => cases z
      | tup z e c => exact ⟨_, _, rfl, hs _ _ z, e, c⟩
    | tup Fs z f e c s j => exact ⟨_, _, rfl, z, e, fun i v d a b => KdR.bo_of (c i v d a b)⟩
  cases κ with
  | sc => cases h
  | sh =>
    have w1 : Rp P G v (.tup ds) := h
    cases w1 with
    | sc z => cases z
    | tup z e c => exact ⟨_, _, rfl, hs _ _ z, e, c⟩
  | fr o =>
    obtain ⟨F, _, w⟩ := h
    have z := own w
    cases o with
    | sc => exact z
    | sh => exact z
    | nd o => exact z
  | bo o =>
    obtain ⟨F, w⟩ := h
    have z := own w
    cases o with
    | sc => exact z
    | sh => exact z
    | nd o => exact z
theorem KdR.dKK {es : List (Ky × D)} (hs : Le G H) (h : KdR P κ H₀ G H v (.dK es)) : ∃ p kvs, v = .ref p ∧ Rd H p (.dK kvs) ∧ kvs.map (·.1) = es.map (fun e => kyK e.1) ∧ ∀ (i : Nat) (q : Key × V) (e : Ky × D), kvs[i]? = some q → es[i]? = some e → KdR P (kid κ) H₀ G H q.2 e.2 := by
  have own : ∀ {o : Own} {F : Addr → Prop}, Ow P G H o F v (.dK es) → ∃ p kvs, v = .ref p ∧ Rd H p (.dK kvs) ∧ kvs.map (·.1) = es.map (fun e => kyK e.1) ∧ ∀ (i : Nat) (q : Key × V) (e : Ky × D), kvs[i]? = some q → es[i]? = some e → KdR P (match o with | .sc => .sc | .sh => .sh | .nd o => kdOf o) H₀ G H q.2 e.2 := by
    intro o F w
    cases w with
    | sc z => cases z
    | sh w1 =>
      cases w1 with
      | sc z => cases z
      | dK z e c => exact ⟨_, _, rfl, Rd.le hs z, e, c⟩
    | dK Fs z f e nd c s j => exact ⟨_, _, rfl, .inl z, e, fun i v d a b => KdR.bo_of (c i v d a b)⟩
  cases κ with
  | sc => cases h
  | sh =>
    have w1 : Rp P G v (.dK es) := h
    cases w1 with
    | sc z => cases z
    | dK z e c => exact ⟨_, _, rfl, Rd.le hs z, e, c⟩
  | fr o =>
    obtain ⟨F, _, w⟩ := h
    have z := own w
    cases o with
    | sc => exact z
    | sh => exact z
    | nd o => exact z
  | bo o =>
    obtain ⟨F, w⟩ := h
    have z := own w
    cases o with
    | sc => exact z
    | sh => exact z
    | nd o => exact z
theorem KdR.dTK {es : List (List Ky × D)} (hs : Le G H) (h : KdR P κ H₀ G H v (.dT es)) : ∃ p kvs, v = .ref p ∧ Rd H p (.dT kvs) ∧ kvs.map (·.1) = es.map (fun e => e.1.map kyK) ∧ ∀ (i : Nat) (q : List Key × V) (e : List Ky × D), kvs[i]? = some q → es[i]? = some e → KdR P (kid κ) H₀ G H q.2 e.2 := by
  have own : ∀ {o : Own} {F : Addr → Prop}, Ow P G H o F v (.dT es) → ∃ p kvs, v = .ref p ∧ Rd H p (.dT kvs) ∧ kvs.map (·.1) = es.map (fun e => e.1.map kyK) ∧ ∀ (i : Nat) (q : List Key × V) (e : List Ky × D), kvs[i]? = some q → es[i]? = some e → KdR P (match o with | .sc => .sc | .sh => .sh | .nd o => kdOf o) H₀ G H q.2 e.2 := by
    intro o F w
    cases w with
    | sc z => cases z
    | sh w1 =>
      cases w1 with
      | sc z => cases z
      | dT z e c => exact ⟨_, _, rfl, Rd.le hs z, e, c⟩
    | dT Fs z f e nd c s j => exact ⟨_, _, rfl, .inl z, e, fun i v d a b => KdR.bo_of (c i v d a b)⟩
  cases κ with
  | sc => cases h
  | sh =>
    have w1 : Rp P G v (.dT es) := h
    cases w1 with
    | sc z => cases z
    | dT z e c => exact ⟨_, _, rfl, Rd.le hs z, e, c⟩
  | fr o =>
    obtain ⟨F, _, w⟩ := h
    have z := own w
    cases o with
    | sc => exact z
    | sh => exact z
    | nd o => exact z
  | bo o =>
    obtain ⟨F, w⟩ := h
    have z := own w
    cases o with
    | sc => exact z
    | sh => exact z
    | nd o => exact z
end
end SH
end
section
set_option Elab.async false
set_option linter.all false
set_option autoImplicit false
set_option maxRecDepth 10000
/-! Operators, comparisons: from plain data to readings. -/
namespace SH
open PySem L2

/-! ### items, one by one -/
def All2 {α β : Type} (R : α → β → Prop) (vs : List α) (ds : List β) : Prop := ∀ (i : Nat) (v : α) (d : β), vs[i]? = some v → ds[i]? = some d → R v d
section
variable {α β : Type} {R : α → β → Prop} {vs us : List α} {ds es : List β}
theorem All2.nil : All2 R ([] : List α) ([] : List β) := fun i v d h => by simp at h
theorem All2.cons {v : α} {d : β} (r : R v d) (h : All2 R vs ds) : All2 R (v :: vs) (d :: ds) := fun i v' d' a b => by
  cases i with
  | zero => simp at a b; subst a; subst b; exact r
  | succ i => exact h i v' d' (by simpa using a) (by simpa using b)
theorem All2.app (e : vs.length = ds.length) (h : All2 R vs ds) (h' : All2 R us es) : All2 R (vs ++ us) (ds ++ es) := fun i v d a b => by
  by_cases hi : i < vs.length
  · rw [List.getElem?_append_left hi] at a
    rw [List.getElem?_append_left (e ▸ hi)] at b
    exact h i v d a b
  · rw [List.getElem?_append_right (Nat.le_of_not_lt hi)] at a
    rw [List.getElem?_append_right (e ▸ Nat.le_of_not_lt hi), ← e] at b
    exact h' _ v d a b
theorem All2.take (n : Nat) (h : All2 R vs ds) : All2 R (vs.take n) (ds.take n) := fun i v d a b => by
  rw [List.getElem?_take] at a b
  split at a
  · rename_i hi
    rw [if_pos hi] at b
    exact h i v d a b
  · cases a
theorem All2.drop (n : Nat) (h : All2 R vs ds) : All2 R (vs.drop n) (ds.drop n) := fun i v d a b => by
  rw [List.getElem?_drop] at a b
  exact h _ v d a b
theorem All2.set {v : α} {d : β} (r : R v d) (k : Nat) (h : All2 R vs ds) : All2 R (vs.set k v) (ds.set k d) := fun i v' d' a b => by
  rw [List.getElem?_set] at a b
  split at a
  · rename_i hk
    rw [if_pos hk] at b
    split at a
    · cases a
      split at b
      · cases b; exact r
      · cases b
    · cases a
  · rename_i hk
    rw [if_neg hk] at b
    exact h i v' d' a b
theorem All2.imp {S : α → β → Prop} (f : ∀ v d, R v d → S v d) (h : All2 R vs ds) : All2 S vs ds := fun i v d a b => f v d (h i v d a b)
theorem All2.of_map {f : β → α} (h : ∀ d ∈ ds, R (f d) d) : All2 R (ds.map f) ds := fun i v d a b => by
  rw [List.getElem?_map, b] at a
  cases a
  exact h d (List.mem_of_getElem? b)
theorem All2.maps {γ : Type} {f : γ → α} {g : γ → β} {cs : List γ} (h : ∀ c ∈ cs, R (f c) (g c)) : All2 R (cs.map f) (cs.map g) := fun i v d a b => by
  rw [List.getElem?_map] at a b
  cases e : cs[i]? with
  | none => rw [e] at a; cases a
  | some c =>
    rw [e] at a b
    cases a; cases b
    exact h c (List.mem_of_getElem? e)
end
section
variable {P : Pm} {G H H₀ : Hp} {κ : Kd} {v : V} {d : D} {o : Own}
theorem kidO_or (h : kidO κ = some o) : o = .sc ∨ o = .sh := by
  unfold kidO at h
  split at h
  · cases h; exact .inl rfl
  · cases h; exact .inr rfl
  · cases h
theorem kidO_eq (h : kidO κ = some o) : kid κ = ofOwn o := by
  unfold kidO at h
  split at h
  · cases h; assumption
  · cases h; assumption
  · cases h
theorem KdR.toSh (h : KdR P (ofOwn o) H₀ G H v d) (ho : o = .sc ∨ o = .sh) : Rp P G v d := by
  rcases ho with rfl | rfl
  · exact .sc h
  · exact h
/-- an end that makes nothing -/
theorem out_sc {W : WX} {σ : St} {r : Res D} {Q : VK} (s : Le G H) (e : r = .ok d) (h : OutE P κ W σ G H r Q) (k : Sc v d) : Q v H := by
  subst e
  exact h v G H (.refl s) (.ofSc k)
theorem out_kd {W : WX} {σ : St} {r : Res D} {Q : VK} (s : Le G H) (e : r = .ok d) (h : OutE P κ W σ G H r Q) (k : KdR P κ H G H v d) : Q v H := by
  subst e
  exact h v G H (.refl s) k
/-- a new list, its items nobody's -/
theorem out_lst {W : WX} {σ : St} {r : Res D} {Q : VK} {vs : List V} {ds : List D} (s : Le G H) (e : r = .ok (.lst ds)) (h : OutE P (.fr (.nd o)) W σ G H r Q) (el : vs.length = ds.length) (k : All2 (fun v d => Ow P G H o (fun _ => False) v d) vs ds) :
    ∀ p, H p = none → Q (.ref p) (upd H p (.lst vs)) := fun p hp => by
  subst e
  exact h _ G _ (.push s hp) (new_lst s (.refl _) hp ⟨el, fun _ _ => False, k, fun _ _ z => z.elim, fun _ _ _ z => z.elim⟩)
theorem out_tup {W : WX} {σ : St} {r : Res D} {Q : VK} {vs : List V} {ds : List D} (s : Le G H) (e : r = .ok (.tup ds)) (h : OutE P (.fr (.nd o)) W σ G H r Q) (el : vs.length = ds.length) (k : All2 (fun v d => Ow P G H o (fun _ => False) v d) vs ds) :
    ∀ p, H p = none → Q (.ref p) (upd H p (.tup vs)) := fun p hp => by
  subst e
  exact h _ G _ (.push s hp) (new_tup s (.refl _) hp ⟨el, fun _ _ => False, k, fun _ _ z => z.elim, fun _ _ _ z => z.elim⟩)
theorem KdR.toOw (h : KdR P (ofOwn o) H₀ G H v d) (ho : o = .sc ∨ o = .sh) {o' : Own} (hc : o = .sc ∨ o' = .sh) : Ow P G H o' (fun _ => False) v d := by
  rcases ho with rfl | rfl
  · exact .sc h
  · rcases hc with e | rfl
    · cases e
    · exact .sh h
end

/-! ### arithmetic -/
/-- what an operation on two values of these kinds is -/
def kAdd (κ κ' : Kd) : Option Kd := if κ = .sc ∧ κ' = .sc then some .sc else match kidO κ, kidO κ' with
  | some _, some _ => some (.fr (.nd .sh))
  | _, _ => none
def kOp (o : Op2) (κ κ' : Kd) : Option Kd := match o with
  | .add => kAdd κ κ'
  | _ => some .sc
/-- a rule for two values, by what they stand for -/
def Two (P : Pm) (X : Cx) (f : Value → Value → Sem Value) (g : D → D → Res D) (k : Kd → Kd → Option Kd) : Prop :=
  ∃ r : R2, OpR X f r ∧ ∀ {κ₁ κ₂ κ : Kd} {H₁ H₂ G H : Hp} {v₁ v₂ : V} {d₁ d₂ : D} {W : WX} {σ : St} {Q : VK}, k κ₁ κ₂ = some κ → Le G H → KdR P κ₁ H₁ G H v₁ d₁ → KdR P κ₂ H₂ G H v₂ d₂ → (∃ d, g d₁ d₂ = .ok d) → OutE P κ W σ G H (g d₁ d₂) Q → r v₁ v₂ H Q
theorem opD_ok {o : Op2} {a b : D} {c : Nat} {n : Int} : opD o a b ≠ .exc c n := by
  intro h
  cases o <;> cases a <;> cases b <;> simp only [opD] at h <;> (try split at h) <;> cases h
section
variable {P : Pm} {X : Cx}
theorem two_add : Two P X (binaryOp .Add) (opD .add) kAdd := by
  refine ⟨_, (op_add.or op_add_str).or op_cat, ?_⟩
  intro κ₁ κ₂ κ H₁ H₂ G H v₁ v₂ d₁ d₂ W σ Q hk s h1 h2 ⟨d, e⟩ q
  have r1 := h1.rp s
  have r2 := h2.rp s
  cases d₁ <;> cases d₂ <;> simp only [opD] at e q <;> first | (cases e; done) | skip
  · rename_i i j
    exact .inl (.inl ⟨i, j, r1.int, r2.int, out_sc s rfl q (.int _)⟩)
  · rename_i a b
    split at e
    · rename_i hl
      rw [if_pos hl] at q
      refine .inl (.inr ⟨mkS a, mkS b, r1.str, r2.str, by rw [mkS_len, mkS_len, ← lim_eq]; exact hl, ?_⟩)
      rw [← mkS_app]
      exact out_sc s rfl q (.str _)
    · cases e
  · rename_i a b
    split at e
    · rename_i hl
      rw [if_pos hl] at q
      obtain ⟨p, vs, rfl, hp, el, c⟩ := h1.lstK s
      obtain ⟨p', vs', rfl, hp', el', c'⟩ := h2.lstK s
      unfold kAdd at hk
      split at hk
      · rename_i z
        obtain ⟨rfl, rfl⟩ := z
        cases h1
      · split at hk
        · rename_i o o' z z'
          cases hk
          refine .inr ⟨p, p', vs, vs', rfl, rfl, hp, hp', by rw [el, el', ← lim_eq]; exact hl.2.2, out_lst s rfl q (by simp [el, el']) (.app el (fun i v d x y => ?_) fun i v d x y => ?_)⟩
          · exact .sh (KdR.toSh (by rw [← kidO_eq z]; exact c i v d x y) (kidO_or z))
          · exact .sh (KdR.toSh (by rw [← kidO_eq z']; exact c' i v d x y) (kidO_or z'))
        · cases hk
    · cases e
theorem two_int {f : Value → Value → Sem Value} {o : Op2} {C : Int → Int → Prop} {g : Int → Int → Int} (rule : OpR X f (rI C fun i j => .int (g i j)))
    (h : ∀ a b d, opD o a b = .ok d → ∃ i j, a = .int i ∧ b = .int j ∧ C i j ∧ d = .int (g i j)) : Two P X f (opD o) (fun _ _ => some .sc) := by
  refine ⟨_, rule, ?_⟩
  intro κ₁ κ₂ κ H₁ H₂ G H v₁ v₂ d₁ d₂ W σ Q hk s h1 h2 ⟨d, e⟩ q
  obtain ⟨i, j, rfl, rfl, hc, rfl⟩ := h _ _ _ e
  exact ⟨i, j, (h1.rp s).int, (h2.rp s).int, hc, out_sc s e q (.int _)⟩
theorem two_int0 {f : Value → Value → Sem Value} {o : Op2} {g : Int → Int → Int} (rule : OpR X f (rI0 fun i j => .int (g i j)))
    (h : ∀ a b d, opD o a b = .ok d → ∃ i j, a = .int i ∧ b = .int j ∧ d = .int (g i j)) : Two P X f (opD o) (fun _ _ => some .sc) := by
  refine ⟨_, rule, ?_⟩
  intro κ₁ κ₂ κ H₁ H₂ G H v₁ v₂ d₁ d₂ W σ Q hk s h1 h2 ⟨d, e⟩ q
  obtain ⟨i, j, rfl, rfl, rfl⟩ := h _ _ _ e
  exact ⟨i, j, (h1.rp s).int, (h2.rp s).int, out_sc s e q (.int _)⟩
theorem two_op (o : Op2) : Two P X (binaryOp (opOf o)) (opD o) (kOp o) := by
  cases o with
  | add => exact two_add
  | sub =>
    refine two_int0 op_sub fun a b d e => ?_
    cases a <;> cases b <;> simp only [opD] at e <;> first | (cases e; done) | skip
    cases e; exact ⟨_, _, rfl, rfl, rfl⟩
  | mul =>
    refine two_int (C := CMul) (g := fun i j => i * j) op_mul fun a b d e => ?_
    cases a <;> cases b <;> simp only [opD] at e <;> first | (cases e; done) | skip
    split at e
    · rename_i z; cases e; exact ⟨_, _, rfl, rfl, z, rfl⟩
    · cases e
  | fdiv =>
    refine two_int (C := CDiv) (g := fun i j => i / j) op_fdiv fun a b d e => ?_
    cases a <;> cases b <;> simp only [opD] at e <;> first | (cases e; done) | skip
    split at e
    · rename_i z; cases e; exact ⟨_, _, rfl, rfl, z, rfl⟩
    · cases e
  | mod =>
    refine two_int (C := fun _ j => 0 < j) (g := fun i j => i % j) op_mod fun a b d e => ?_
    cases a <;> cases b <;> simp only [opD] at e <;> first | (cases e; done) | skip
    split at e
    · rename_i z; cases e; exact ⟨_, _, rfl, rfl, z, rfl⟩
    · cases e
  | pow =>
    refine two_int (C := CPow) (g := fun i j => i ^ j.toNat) op_pow fun a b d e => ?_
    cases a <;> cases b <;> simp only [opD] at e <;> first | (cases e; done) | skip
    split at e
    · rename_i z; cases e; exact ⟨_, _, rfl, rfl, z, rfl⟩
    · cases e
  | band =>
    refine two_int0 op_and fun a b d e => ?_
    cases a <;> cases b <;> simp only [opD] at e <;> first | (cases e; done) | skip
    cases e; exact ⟨_, _, rfl, rfl, rfl⟩
end
end SH
end
section
set_option Elab.async false
set_option linter.all false
set_option autoImplicit false
set_option maxRecDepth 10000
/-! Comparisons, places: from plain data to readings. -/
namespace SH
open PySem L2

/-! ### dicts -/
theorem kyK_inj {a b : Ky} (h : kyK a = kyK b) : a = b := by
  cases a <;> cases b <;> simp only [kyK] at h <;> first | (cases h; done) | skip
  · cases h; rfl
  · injection h with h; rw [mkS_inj h]
theorem kyKs_inj : ∀ {a b : List Ky}, a.map kyK = b.map kyK → a = b
  | [], [], _ => rfl
  | [], _ :: _, h => by simp at h
  | _ :: _, [], h => by simp at h
  | x :: a, y :: b, h => by
    simp only [List.map_cons, List.cons.injEq] at h
    rw [kyK_inj h.1, kyKs_inj h.2]
theorem look_val {α β : Type} [DecidableEq α] [DecidableEq β] (f : α → β) (inj : ∀ a b, f a = f b → a = b) {R : V → D → Prop} : ∀ {es : List (α × D)} {kvs : List (β × V)}, kvs.map (·.1) = es.map (fun e => f e.1) →
    All2 (fun (q : β × V) (e : α × D) => R q.2 e.2) kvs es → ∀ k, (∃ d v, look k es = some d ∧ valV kvs (f k) = some v ∧ R v d) ∨ (look k es = none ∧ valV kvs (f k) = none)
  | [], [], _, _, k => .inr ⟨rfl, rfl⟩
  | [], _ :: _, h, _, _ => by simp at h
  | _ :: _, [], h, _, _ => by simp at h
  | (j, d) :: es, (q, v) :: kvs, h, c, k => by
    simp only [List.map_cons, List.cons.injEq] at h
    by_cases e : j = k
    · refine .inl ⟨d, v, by rw [look, if_pos e], valV_pos (by show q = f k; rw [h.1, e]), c 0 (q, v) (j, d) rfl rfl⟩
    · rcases look_val f inj h.2 (fun i a b x y => c (i + 1) a b (by simpa using x) (by simpa using y)) k with ⟨d', v', h1, h2, h3⟩ | ⟨h1, h2⟩
      · exact .inl ⟨d', v', by rw [look, if_neg e]; exact h1, by rw [valV_neg (by show ¬ q = f k; rw [h.1]; exact fun z => e (inj _ _ z))]; exact h2, h3⟩
      · exact .inr ⟨by rw [look, if_neg e]; exact h1, by rw [valV_neg (by show ¬ q = f k; rw [h.1]; exact fun z => e (inj _ _ z))]; exact h2⟩
section
variable {P : Pm} {G H H₀ : Hp} {κ κ' : Kd} {v w : V} {a d : D}
theorem kyOf_val (h : Rp P H v d) {k : Ky} (e : kyOf d = some k) : v = kV (kyK k) := by
  cases d <;> simp only [kyOf] at e <;> first | (cases e; done) | skip
  · cases e; exact h.int
  · cases e; exact h.str
theorem kysOf_val : ∀ {ds : List D} {vs : List V} {ks : List Ky}, vs.length = ds.length → All2 (Rp P H) vs ds → kysOf ds = some ks → vs = (ks.map kyK).map kV
  | [], [], _, _, _, e => by cases e; rfl
  | [], _ :: _, _, h, _, _ => by simp at h
  | _ :: _, [], _, h, _, _ => by simp at h
  | d :: ds, v :: vs, ks, h, c, e => by
    simp only [kysOf] at e
    split at e
    · rename_i k ks' e1 e2
      cases e
      have z := kysOf_val (vs := vs) (by simpa using h) (fun i x y h1 h2 => c (i + 1) x y (by simpa using h1) (by simpa using h2)) e2
      rw [kyOf_val (c 0 v d rfl rfl) e1, z]
      rfl
    · cases e
/-- a dict with keys that are numbers and texts, asked -/
theorem get_dK (s : Le G H) {es : List (Ky × D)} (h : KdR P κ H₀ G H v (.dK es)) (hw : Rp P H w a) {k : Ky} (e : kyOf a = some k) :
    ∃ p, v = .ref p ∧ ((∃ d y, look k es = some d ∧ DGet H p w (some y) ∧ KdR P (kid κ) H₀ G H y d) ∨ (look k es = none ∧ DGet H p w none)) := by
  obtain ⟨p, kvs, rfl, hr, hk, c⟩ := h.dKK s
  refine ⟨p, rfl, ?_⟩
  have ew := kyOf_val hw e
  rcases look_val kyK (fun _ _ => kyK_inj) (R := fun y d => KdR P (kid κ) H₀ G H y d) hk c k with ⟨d, y, h1, h2, h3⟩ | ⟨h1, h2⟩
  · exact .inl ⟨d, y, h1, .inl ⟨kvs, kyK k, hr, ew, h2.symm⟩, h3⟩
  · exact .inr ⟨h1, .inl ⟨kvs, kyK k, hr, ew, h2.symm⟩⟩
theorem get_dT (s : Le G H) {es : List (List Ky × D)} (h : KdR P κ H₀ G H v (.dT es)) {ds : List D} (hw : Rp P H w (.tup ds)) {k : List Ky} (e : kysOf ds = some k) :
    ∃ p, v = .ref p ∧ ((∃ d y, look k es = some d ∧ DGet H p w (some y) ∧ KdR P (kid κ) H₀ G H y d) ∨ (look k es = none ∧ DGet H p w none)) := by
  obtain ⟨p, kvs, rfl, hr, hk, c⟩ := h.dTK s
  obtain ⟨b, vs, rfl, hb, el, cb⟩ := hw.tupI
  refine ⟨p, rfl, ?_⟩
  have ew := kysOf_val el cb e
  rw [ew] at hb
  rcases look_val (fun l : List Ky => l.map kyK) (fun _ _ => kyKs_inj) (R := fun y d => KdR P (kid κ) H₀ G H y d) hk c k with ⟨d, y, h1, h2, h3⟩ | ⟨h1, h2⟩
  · exact .inl ⟨d, y, h1, .inr ⟨kvs, k.map kyK, b, hr, rfl, hb, h2.symm⟩, h3⟩
  · exact .inr ⟨h1, .inr ⟨kvs, k.map kyK, b, hr, rfl, hb, h2.symm⟩⟩
end

/-! ### comparisons -/
section
variable {P : Pm} {X : Cx}
theorem op_ltData (hu : X.A.units + 64 < cLine) : OpR X (compareOp .Lt) (fun x y H Q => ∃ d e, Dp X.K H x d ∧ Dp X.K H y e ∧ PySem.W.alike d e = true ∧ d ≠ .none ∧ SeqAt.shaped d = true ∧ Q (.bl (PySem.W.dataLt d e)) H) := by
  intro pins s σ H x y v u Q I rx ry ⟨d, e, hd, he, al, nn, sh, q⟩
  obtain ⟨as, r1⟩ := Dp.reads I d x v hd rx
  obtain ⟨bs, r2⟩ := Dp.reads I e y u he ry
  exact PySem.W.lt_data r1 r2 al nn (SeqAt.room_of_shaped sh hu) ⟨.bl _, H, I, rfl, q⟩
theorem op_inDict (hu : X.A.units + 1 < cLine) : OpR X (compareOp .In) (fun y x H Q => ∃ a o, x = .ref a ∧ DGet H a y o ∧ Q (.bl o.isSome) H) := by
  intro pins s σ H y x v u Q I ry rx ⟨a, o, e, g, q⟩
  subst e
  obtain rfl : u = Value.ref a := rx
  exact d_in hu I g ry fun s3 I3 => ⟨.bl o.isSome, H, I3, rfl, q⟩
theorem op_ninDict (hu : X.A.units + 1 < cLine) : OpR X (compareOp .NotIn) (fun y x H Q => ∃ a o, x = .ref a ∧ DGet H a y o ∧ Q (.bl (!o.isSome)) H) := by
  intro pins s σ H y x v u Q I ry rx ⟨a, o, e, g, q⟩
  subst e
  obtain rfl : u = Value.ref a := rx
  exact d_notIn hu I g ry fun s3 I3 => ⟨.bl (!o.isSome), H, I3, rfl, q⟩
def kSc (_ _ : Kd) : Option Kd := some .sc
theorem blR_ok {r : Res Bool} {d : D} (h : blR r = .ok d) : ∃ b, r = .ok b ∧ d = .bl b := by
  cases r with
  | ok b => cases h; exact ⟨b, rfl, rfl⟩
  | exc c n => cases h
  | bad => cases h
theorem two_eq (hK : X.K = P.K) (hu : X.A.units + 64 < cLine) : Two P X (compareOp .Eq) (fun a b => blR (cmpD .eq a b)) kSc := by
  refine ⟨_, op_eqD hu, ?_⟩
  intro κ₁ κ₂ κ H₁ H₂ G H v₁ v₂ d₁ d₂ W σ Q hk s h1 h2 ⟨d, e⟩ q
  simp only [cmpD, eqD] at e q
  split at e
  · rename_i z
    rw [if_pos z] at q
    rw [Bool.and_eq_true] at z
    refine ⟨py d₁, py d₂, ?_, ?_, shaped_dp (by omega) z.1, shaped_dp (by omega) z.2, out_sc s rfl q (.bl _)⟩
    · rw [hK]; exact (h1.rp s).dp _ z.1
    · rw [hK]; exact (h2.rp s).dp _ z.2
  · cases e
theorem two_ne (hK : X.K = P.K) (hu : X.A.units + 64 < cLine) : Two P X (compareOp .NotEq) (fun a b => blR (cmpD .ne a b)) kSc := by
  refine ⟨_, op_neD hu, ?_⟩
  intro κ₁ κ₂ κ H₁ H₂ G H v₁ v₂ d₁ d₂ W σ Q hk s h1 h2 ⟨d, e⟩ q
  simp only [cmpD, eqD] at e q
  split at e
  · rename_i z
    rw [if_pos z] at q
    rw [Bool.and_eq_true] at z
    refine ⟨py d₁, py d₂, ?_, ?_, shaped_dp (by omega) z.1, shaped_dp (by omega) z.2, out_sc s rfl q (.bl _)⟩
    · rw [hK]; exact (h1.rp s).dp _ z.1
    · rw [hK]; exact (h2.rp s).dp _ z.2
  · cases e
theorem ltS_eq (a b : List Char) : ltS a b = decide ((mkS a).cps.toList < (mkS b).cps.toList) := by
  rw [mkS_toList, mkS_toList]; rfl
theorem two_lt (hK : X.K = P.K) (hu : X.A.units + 64 < cLine) : Two P X (compareOp .Lt) (fun a b => blR (cmpD .lt a b)) kSc := by
  refine ⟨_, (op_lt.or op_lt_str).or (op_ltData hu), ?_⟩
  intro κ₁ κ₂ κ H₁ H₂ G H v₁ v₂ d₁ d₂ W σ Q hk s h1 h2 ⟨d, e⟩ q
  have r1 := h1.rp s
  have r2 := h2.rp s
  cases d₁ <;> cases d₂ <;> simp only [cmpD, ltD] at e q <;> first | (cases e; done) | skip
  · exact .inl (.inl ⟨_, _, r1.int, r2.int, out_sc s rfl q (.bl _)⟩)
  · refine .inl (.inr ⟨_, _, r1.str, r2.str, ?_⟩)
    rw [← ltS_eq]
    exact out_sc s rfl q (.bl _)
  · rename_i a b
    split at e
    · rename_i z
      rw [if_pos z] at q
      simp only [Bool.and_eq_true] at z
      refine .inr ⟨py (.tup a), py (.tup b), ?_, ?_, z.1.1, (by rw [py]; exact fun y => nomatch y), shaped_dp (by omega) z.1.2, out_sc s rfl q (.bl _)⟩
      · rw [hK]; exact r1.dp _ z.1.2
      · rw [hK]; exact r2.dp _ z.2
    · cases e
theorem two_gt : Two P X (compareOp .Gt) (fun a b => blR (cmpD .gt a b)) kSc := by
  refine ⟨_, op_gt.or op_gt_str, ?_⟩
  intro κ₁ κ₂ κ H₁ H₂ G H v₁ v₂ d₁ d₂ W σ Q hk s h1 h2 ⟨d, e⟩ q
  have r1 := h1.rp s
  have r2 := h2.rp s
  cases d₁ <;> cases d₂ <;> simp only [cmpD] at e q <;> first | (cases e; done) | skip
  · exact .inl ⟨_, _, r1.int, r2.int, out_sc s rfl q (.bl _)⟩
  · refine .inr ⟨_, _, r1.str, r2.str, ?_⟩
    rw [← ltS_eq]
    exact out_sc s rfl q (.bl _)
theorem two_le : Two P X (compareOp .LtE) (fun a b => blR (cmpD .le a b)) kSc := by
  refine ⟨_, op_le.or op_le_str, ?_⟩
  intro κ₁ κ₂ κ H₁ H₂ G H v₁ v₂ d₁ d₂ W σ Q hk s h1 h2 ⟨d, e⟩ q
  have r1 := h1.rp s
  have r2 := h2.rp s
  cases d₁ <;> cases d₂ <;> simp only [cmpD] at e q <;> first | (cases e; done) | skip
  · exact .inl ⟨_, _, r1.int, r2.int, out_sc s rfl q (.bl _)⟩
  · refine .inr ⟨_, _, r1.str, r2.str, ?_⟩
    rw [← ltS_eq]
    exact out_sc s rfl q (.bl _)
theorem two_ge : Two P X (compareOp .GtE) (fun a b => blR (cmpD .ge a b)) kSc := by
  refine ⟨_, op_ge.or op_ge_str, ?_⟩
  intro κ₁ κ₂ κ H₁ H₂ G H v₁ v₂ d₁ d₂ W σ Q hk s h1 h2 ⟨d, e⟩ q
  have r1 := h1.rp s
  have r2 := h2.rp s
  cases d₁ <;> cases d₂ <;> simp only [cmpD] at e q <;> first | (cases e; done) | skip
  · exact .inl ⟨_, _, r1.int, r2.int, out_sc s rfl q (.bl _)⟩
  · refine .inr ⟨_, _, r1.str, r2.str, ?_⟩
    rw [← ltS_eq]
    exact out_sc s rfl q (.bl _)
theorem rp_nonN {H : Hp} {v : V} {d : D} (r : Rp P H v d) (h : d ≠ .non) : v ≠ .non := by
  cases r with
  | sc z => cases z <;> first | exact (h rfl).elim | (intro y; cases y)
  | _ => intro y; cases y
theorem two_isN : Two P X (compareOp .Is) (fun a b => blR (cmpD .isN a b)) kSc := by
  refine ⟨_, op_isN, ?_⟩
  intro κ₁ κ₂ κ H₁ H₂ G H v₁ v₂ d₁ d₂ W σ Q hk s h1 h2 ⟨d, e⟩ q
  have r1 := h1.rp s
  have r2 := h2.rp s
  cases d₁ <;> cases d₂ <;> simp only [cmpD] at e q <;> first | (cases e; done) | skip
  · exact ⟨r2.non, by rw [r1.non]; exact out_sc s rfl q (.bl true)⟩
  all_goals exact ⟨r2.non, by rw [decide_eq_false (rp_nonN r1 (by intro y; cases y))]; exact out_sc s rfl q (.bl false)⟩
theorem two_notN : Two P X (compareOp .IsNot) (fun a b => blR (cmpD .notN a b)) kSc := by
  refine ⟨_, op_notN, ?_⟩
  intro κ₁ κ₂ κ H₁ H₂ G H v₁ v₂ d₁ d₂ W σ Q hk s h1 h2 ⟨d, e⟩ q
  have r1 := h1.rp s
  have r2 := h2.rp s
  cases d₁ <;> cases d₂ <;> simp only [cmpD] at e q <;> first | (cases e; done) | skip
  · exact ⟨r2.non, by rw [r1.non]; exact out_sc s rfl q (.bl false)⟩
  all_goals exact ⟨r2.non, by rw [decide_eq_false (rp_nonN r1 (by intro y; cases y))]; exact out_sc s rfl q (.bl true)⟩
theorem two_isB : Two P X (compareOp .Is) (fun a b => blR (cmpD .isB a b)) kSc := by
  refine ⟨_, op_isBl, ?_⟩
  intro κ₁ κ₂ κ H₁ H₂ G H v₁ v₂ d₁ d₂ W σ Q hk s h1 h2 ⟨d, e⟩ q
  cases d₁ <;> cases d₂ <;> simp only [cmpD] at e q <;> first | (cases e; done) | skip
  rename_i a b
  exact ⟨a, b, (h1.rp s).bl, (h2.rp s).bl, by rw [show decide (a = b) = (a == b) by cases a <;> cases b <;> rfl]; exact out_sc s rfl q (.bl _)⟩
theorem two_notB : Two P X (compareOp .IsNot) (fun a b => blR (cmpD .notB a b)) kSc := by
  refine ⟨_, op_notBl, ?_⟩
  intro κ₁ κ₂ κ H₁ H₂ G H v₁ v₂ d₁ d₂ W σ Q hk s h1 h2 ⟨d, e⟩ q
  cases d₁ <;> cases d₂ <;> simp only [cmpD] at e q <;> first | (cases e; done) | skip
  rename_i a b
  exact ⟨a, b, (h1.rp s).bl, (h2.rp s).bl, by rw [show (!decide (a = b)) = (a != b) by cases a <;> cases b <;> rfl]; exact out_sc s rfl q (.bl _)⟩
theorem toNat_inj {c d : Char} (h : c.toNat = d.toNat) : c = d := by
  apply Char.ext
  apply UInt32.toNat_inj.mp
  exact h
theorem mem_mkS (c : Char) (t : List Char) : decide (c.toNat ∈ (mkS t).cps.toList) = decide (c ∈ t) := by
  rw [mkS_toList, decide_eq_decide, List.mem_map]
  constructor
  · rintro ⟨d, h1, h2⟩
    rw [← toNat_inj h2]; exact h1
  · exact fun h => ⟨c, h, rfl⟩
theorem pyL_any (ds : List D) (a : D) : ((pyL ds).any fun z => PyData.eqv z (py a)) = ds.any fun z => deq z a := by
  rw [pyL_map, List.any_map]; rfl
theorem two_in (hK : X.K = P.K) (hu : X.A.units + 65 < cLine) : Two P X (compareOp .In) (fun a b => blR (cmpD .inn a b)) kSc := by
  refine ⟨_, (((op_inD hu).or op_in_sign).or op_in_str).or (op_inDict (by omega)), ?_⟩
  intro κ₁ κ₂ κ H₁ H₂ G H v₁ v₂ d₁ d₂ W σ Q hk s h1 h2 ⟨d, e⟩ q
  have r1 := h1.rp s
  have r2 := h2.rp s
  simp only [cmpD] at e q
  unfold inD at e q
  cases d₂ with
  | lst ds =>
    simp only at e q
    split at e
    · rename_i z
      rw [if_pos z] at q
      rw [Bool.and_eq_true] at z
      refine .inl (.inl (.inl ⟨py d₁, pyL ds, ?_, ?_, shaped_dp (by omega) z.1, (by have := shaped_dp (by omega) z.2; rw [py] at this; exact this), ?_⟩))
      · rw [hK]; exact r1.dp _ z.1
      · rw [hK]
        have := r2.dp _ z.2
        rw [py] at this
        exact this
      · rw [pyL_any]
        exact out_sc s rfl q (.bl _)
    · cases e
  | str t =>
    cases d₁ with
    | str w =>
      simp only at e q
      by_cases hw : ∃ c, w = [c]
      · obtain ⟨c, rfl⟩ := hw
        refine .inl (.inl (.inr ⟨c.toNat, mkS t, by rw [r1.str]; rfl, r2.str, ?_⟩))
        rw [mem_mkS]
        exact out_sc s rfl q (.bl _)
      · refine .inl (.inr ⟨mkS w, mkS t, r1.str, r2.str, ?_⟩)
        have : subS t w = !(Builtin.Str.occurrences (mkS t) (mkS w) 0 (mkS t).length 1).isEmpty := by
          unfold subS
          split
          · rename_i c; exact (hw ⟨c, rfl⟩).elim
          · rfl
        rw [← this]
        exact out_sc s rfl q (.bl _)
    | _ => cases e
  | dK kvs =>
    simp only at e q
    cases ek : kyOf d₁ with
    | none => rw [ek] at e; cases e
    | some k =>
      rw [ek] at e q
      obtain ⟨p, rfl, h⟩ := get_dK s h2 r1 ek
      rcases h with ⟨d', y, l1, l2, _⟩ | ⟨l1, l2⟩
      · exact .inr ⟨p, some y, rfl, l2, by have z := out_sc s rfl q (.bl _); rw [l1] at z; exact z⟩
      · exact .inr ⟨p, none, rfl, l2, by have z := out_sc s rfl q (.bl _); rw [l1] at z; exact z⟩
  | dT kvs =>
    cases d₁ with
    | tup ds =>
      simp only at e q
      cases ek : kysOf ds with
      | none => rw [ek] at e; cases e
      | some k =>
        rw [ek] at e q
        obtain ⟨p, rfl, h⟩ := get_dT s h2 r1 ek
        rcases h with ⟨d', y, l1, l2, _⟩ | ⟨l1, l2⟩
        · exact .inr ⟨p, some y, rfl, l2, by have z := out_sc s rfl q (.bl _); rw [l1] at z; exact z⟩
        · exact .inr ⟨p, none, rfl, l2, by have z := out_sc s rfl q (.bl _); rw [l1] at z; exact z⟩
    | _ => cases e
  | _ => cases e
theorem two_nin (hK : X.K = P.K) (hu : X.A.units + 65 < cLine) : Two P X (compareOp .NotIn) (fun a b => blR (cmpD .nin a b)) kSc := by
  refine ⟨_, (((op_notInD hu).or op_notIn_sign).or op_notin_str).or (op_ninDict (by omega)), ?_⟩
  intro κ₁ κ₂ κ H₁ H₂ G H v₁ v₂ d₁ d₂ W σ Q hk s h1 h2 ⟨d, e⟩ q
  have r1 := h1.rp s
  have r2 := h2.rp s
  simp only [cmpD] at e q
  unfold inD at e q
  cases d₂ with
  | lst ds =>
    simp only at e q
    split at e
    · rename_i z
      rw [if_pos z] at q
      rw [Bool.and_eq_true] at z
      refine .inl (.inl (.inl ⟨py d₁, pyL ds, ?_, ?_, shaped_dp (by omega) z.1, (by have := shaped_dp (by omega) z.2; rw [py] at this; exact this), ?_⟩))
      · rw [hK]; exact r1.dp _ z.1
      · rw [hK]
        have := r2.dp _ z.2
        rw [py] at this
        exact this
      · rw [pyL_any]
        exact out_sc s rfl q (.bl _)
    · cases e
  | str t =>
    cases d₁ with
    | str w =>
      simp only at e q
      by_cases hw : ∃ c, w = [c]
      · obtain ⟨c, rfl⟩ := hw
        refine .inl (.inl (.inr ⟨c.toNat, mkS t, by rw [r1.str]; rfl, r2.str, ?_⟩))
        rw [mem_mkS]
        exact out_sc s rfl q (.bl _)
      · refine .inl (.inr ⟨mkS w, mkS t, r1.str, r2.str, ?_⟩)
        have : subS t w = !(Builtin.Str.occurrences (mkS t) (mkS w) 0 (mkS t).length 1).isEmpty := by
          unfold subS
          split
          · rename_i c; exact (hw ⟨c, rfl⟩).elim
          · rfl
        rw [← this]
        exact out_sc s rfl q (.bl _)
    | _ => cases e
  | dK kvs =>
    simp only at e q
    cases ek : kyOf d₁ with
    | none => rw [ek] at e; cases e
    | some k =>
      rw [ek] at e q
      obtain ⟨p, rfl, h⟩ := get_dK s h2 r1 ek
      rcases h with ⟨d', y, l1, l2, _⟩ | ⟨l1, l2⟩
      · exact .inr ⟨p, some y, rfl, l2, by have z := out_sc s rfl q (.bl _); rw [l1] at z; exact z⟩
      · exact .inr ⟨p, none, rfl, l2, by have z := out_sc s rfl q (.bl _); rw [l1] at z; exact z⟩
  | dT kvs =>
    cases d₁ with
    | tup ds =>
      simp only at e q
      cases ek : kysOf ds with
      | none => rw [ek] at e; cases e
      | some k =>
        rw [ek] at e q
        obtain ⟨p, rfl, h⟩ := get_dT s h2 r1 ek
        rcases h with ⟨d', y, l1, l2, _⟩ | ⟨l1, l2⟩
        · exact .inr ⟨p, some y, rfl, l2, by have z := out_sc s rfl q (.bl _); rw [l1] at z; exact z⟩
        · exact .inr ⟨p, none, rfl, l2, by have z := out_sc s rfl q (.bl _); rw [l1] at z; exact z⟩
    | _ => cases e
  | _ => cases e
theorem two_cmp (hK : X.K = P.K) (hu : X.A.units + 65 < cLine) (o : Cmp) : Two P X (compareOp (cmpOf o)) (fun a b => blR (cmpD o a b)) kSc := by
  have hu' : X.A.units + 64 < cLine := by omega
  cases o with
  | lt => exact two_lt hK hu'
  | le => exact two_le
  | gt => exact two_gt
  | ge => exact two_ge
  | eq => exact two_eq hK hu'
  | ne => exact two_ne hK hu'
  | isN => exact two_isN
  | notN => exact two_notN
  | isB => exact two_isB
  | notB => exact two_notB
  | inn => exact two_in hK hu
  | nin => exact two_nin hK hu
end
end SH
end
section
set_option Elab.async false
set_option linter.all false
set_option autoImplicit false
set_option maxRecDepth 10000
/-! Subscripts, slices, built-in functions: from plain data to readings. -/
namespace SH
open PySem L2

section
variable {P : Pm} {X : Cx}
/-! ### o[i] -/
theorem place_eq (i : Int) (n : Nat) : place i n = ixN n i := rfl
theorem ix_dict (hu : X.A.units + 1 < cLine) : IxR X (fun x y H Q => ∃ a v, x = .ref a ∧ DGet H a y (some v) ∧ Q v H) := by
  intro value slice pins s σ H x y v u Q I rx ry ⟨a, w, e, g, q⟩ hs
  subst e
  obtain rfl : v = Value.ref a := rx
  exact PyProof.Rows.tail_any (dict_typeIs I g) PySem.F.slot_dict_getitem.lookup (d_getItem hu I g ry fun w' s3 I3 rw' => ⟨w, H, I3, rw', q⟩) hs
def IxTwo (P : Pm) (X : Cx) (g : D → D → Res D) (k : Kd → Kd) : Prop :=
  ∃ r : R2, IxR X r ∧ ∀ {κ₁ κ₂ : Kd} {H₁ H₂ G H : Hp} {v₁ v₂ : V} {d₁ d₂ : D} {W : WX} {σ : St} {Q : VK}, Le G H → KdR P κ₁ H₁ G H v₁ d₁ → KdR P κ₂ H₂ G H v₂ d₂ → (∃ d, g d₁ d₂ = .ok d) → OutE P (k κ₁) W σ G H (g d₁ d₂) Q → r v₁ v₂ H Q
theorem kid_now {κ : Kd} {H₁ G H : Hp} {v : V} {d : D} (h : KdR P (kid κ) H₁ G H v d) : KdR P (kid κ) H G H v d := by
  cases κ with
  | sc => exact h
  | sh => exact h
  | fr o =>
    cases o with
    | sc => exact h
    | sh => exact h
    | nd o => cases o <;> exact h
  | bo o =>
    cases o with
    | sc => exact h
    | sh => exact h
    | nd o => cases o <;> exact h
theorem ix_two (hK : X.K = P.K) (hu : X.A.units + 1 < cLine) : IxTwo P X ixD kid := by
  refine ⟨_, ((ix_list.or ix_tup).or ix_str).or (ix_dict hu), ?_⟩
  intro κ₁ κ₂ H₁ H₂ G H v₁ v₂ d₁ d₂ W σ Q s h1 h2 ⟨d, e⟩ q
  have r1 := h1.rp s
  have r2 := h2.rp s
  unfold ixD at e q
  split at e
  · rename_i ds i
    simp only at q
    cases ep : place i ds.length with
    | none => rw [ep] at e; cases e
    | some k =>
      rw [ep] at e q
      simp only at e q
      cases eg : ds[k]? with
      | none => rw [eg] at e; cases e
      | some d' =>
        rw [eg] at e q
        obtain ⟨p, vs, rfl, hp, el, c⟩ := h1.lstK s
        have hk : k < vs.length := by rw [el]; exact (List.getElem?_eq_some_iff.mp eg).1
        have ev : vs[k]? = some vs[k] := List.getElem?_eq_getElem hk
        refine .inl (.inl (.inl ⟨p, vs, i, vs[k], rfl, r2.int, SqL.of hp, ?_, out_kd s rfl q (kid_now (c k _ _ ev eg))⟩))
        unfold atI
        rw [← place_eq, el, ep]
        exact ev
  · rename_i ds i
    simp only at q
    cases ep : place i ds.length with
    | none => rw [ep] at e; cases e
    | some k =>
      rw [ep] at e q
      simp only at e q
      cases eg : ds[k]? with
      | none => rw [eg] at e; cases e
      | some d' =>
        rw [eg] at e q
        obtain ⟨p, vs, rfl, hp, el, c⟩ := h1.tupK s
        have hk : k < vs.length := by rw [el]; exact (List.getElem?_eq_some_iff.mp eg).1
        have ev : vs[k]? = some vs[k] := List.getElem?_eq_getElem hk
        refine .inl (.inl (.inr ⟨p, vs, i, vs[k], rfl, r2.int, SqT.of hp, ?_, out_kd s rfl q (kid_now (c k _ _ ev eg))⟩))
        unfold atI
        rw [← place_eq, el, ep]
        exact ev
  · rename_i ns i
    simp only at q
    cases ep : place i ns.length with
    | none => rw [ep] at e; cases e
    | some k =>
      rw [ep] at e q
      simp only at e q
      cases eg : ns[k]? with
      | none => rw [eg] at e; cases e
      | some n =>
        rw [eg] at e q
        obtain ⟨p, rfl, hp⟩ := r1.roI
        refine .inl (.inl (.inl ⟨p, _, i, .int n, rfl, r2.int, by rw [hK]; exact hp, ?_, out_sc s rfl q (.int n)⟩))
        unfold atI
        rw [← place_eq, List.length_map, ep]
        show (ns.map V.int)[k]? = _
        rw [List.getElem?_map, eg]
        rfl
  · rename_i t i
    simp only at q
    split at e
    · rename_i hl
      rw [if_pos hl] at q
      cases ep : place i t.length with
      | none => rw [ep] at e; cases e
      | some k =>
        rw [ep] at e q
        simp only at e q
        cases eg : t[k]? with
        | none => rw [eg] at e; cases e
        | some c =>
          rw [eg] at e q
          refine .inl (.inr ⟨mkS t, i, c.toNat, r1.str, r2.int, by rw [mkS_len, ← lim_eq]; exact hl, ?_, out_sc s rfl q (.str [c])⟩)
          unfold atI
          rw [← place_eq, mkS_toList, List.length_map, ep]
          show (t.map Char.toNat)[k]? = _
          rw [List.getElem?_map, eg]
          rfl
    · cases e
  · rename_i kvs
    simp only at q
    cases ek : kyOf d₂ with
    | none => rw [ek] at e; cases e
    | some k =>
      rw [ek] at e q
      simp only at e q
      obtain ⟨p, rfl, h⟩ := get_dK s h1 r2 ek
      rcases h with ⟨d', y, l1, l2, l3⟩ | ⟨l1, l2⟩
      · rw [l1] at q
        exact .inr ⟨p, y, rfl, l2, out_kd s rfl q (kid_now l3)⟩
      · rw [l1] at e
        cases e
  · rename_i kvs ds
    simp only at q
    cases ek : kysOf ds with
    | none => rw [ek] at e; cases e
    | some k =>
      rw [ek] at e q
      simp only at e q
      obtain ⟨p, rfl, h⟩ := get_dT s h1 r2 ek
      rcases h with ⟨d', y, l1, l2, l3⟩ | ⟨l1, l2⟩
      · rw [l1] at q
        exact .inr ⟨p, y, rfl, l2, out_kd s rfl q (kid_now l3)⟩
      · rw [l1] at e
        cases e
  · cases e

/-! ### o[a:b] -/
def kSl (κ : Kd) : Option Kd := if κ = .sc then some .sc else (kidO κ).map fun o => .fr (.nd o)
theorem clip_eq (n : Nat) (i : Int) (d : Nat) : clip n i = HT.sIx n d (some i) := by
  show (if 0 ≤ i then min i.toNat n else (i + n).toNat) = (if i < 0 then (i + (n : Int)).toNat else min i.toNat n)
  by_cases h : i < 0
  · rw [if_neg (by omega), if_pos h]
  · rw [if_pos (by omega), if_neg h]
theorem cut_eq {α : Type} (xs : List α) (lo hi : Option Int) : cut xs lo hi = (xs.drop (HT.sIx xs.length 0 lo)).take (HT.sIx xs.length xs.length hi - HT.sIx xs.length 0 lo) := by
  have h1 : clipLo xs.length lo = HT.sIx xs.length 0 lo := by
    cases lo with
    | none => rfl
    | some i => exact clip_eq _ _ _
  have h2 : clipHi xs.length hi = HT.sIx xs.length xs.length hi := by
    cases hi with
    | none => rfl
    | some i => exact clip_eq _ _ _
  unfold cut
  rw [h1, h2, List.drop_take]
theorem All2.cut {α β : Type} {R : α → β → Prop} {vs : List α} {ds : List β} (el : vs.length = ds.length) (lo hi : Option Int) (h : All2 R vs ds) : All2 R (cut vs lo hi) (cut ds lo hi) ∧ (cut vs lo hi).length = (cut ds lo hi).length := by
  rw [cut_eq, cut_eq, ← el]
  exact ⟨(h.drop _).take _, by simp [el]⟩
theorem cut_map {α β : Type} (f : α → β) (xs : List α) (lo hi : Option Int) : cut (xs.map f) lo hi = (cut xs lo hi).map f := by
  rw [cut_eq, cut_eq, List.length_map, List.map_take, List.map_drop]
theorem sl_two : ∃ r, SlR X r ∧ ∀ {κ κ' : Kd} {H₁ G H : Hp} {v : V} {d : D} {lo hi : Option Int} {W : WX} {σ : St} {Q : VK}, kSl κ = some κ' → Le G H → KdR P κ H₁ G H v d → (∃ d', slD d lo hi = .ok d') → OutE P κ' W σ G H (slD d lo hi) Q → r v lo hi H Q := by
  refine ⟨_, sl_list.or sl_str, ?_⟩
  intro κ κ' H₁ G H v d lo hi W σ Q hk s h1 ⟨d', e⟩ q
  unfold slD at e q
  cases d with
  | lst ds =>
    simp only at q
    obtain ⟨p, vs, rfl, hp, len, c⟩ := h1.lstK s
    unfold kSl at hk
    split at hk
    · rename_i z
      subst z
      cases h1
    · cases ho : kidO κ with
      | none => rw [ho] at hk; cases hk
      | some o =>
        rw [ho] at hk
        cases hk
        obtain ⟨c1, c2⟩ := All2.cut len lo hi (R := fun v d => Ow P G H o (fun _ => False) v d) fun i v d a b => KdR.toOw (by rw [← kidO_eq ho]; exact c i v d a b) (kidO_or ho) (by rcases kidO_or ho with z | z <;> simp [z])
        refine .inl ⟨p, vs, rfl, SqL.of hp, ?_⟩
        have z := out_lst s rfl q c2 c1
        rw [cut_eq] at z
        exact z
  | str t =>
    simp only at e q
    split at e
    · rename_i hl
      rw [if_pos hl] at q
      refine .inr ⟨mkS t, (h1.rp s).str, by rw [mkS_len, ← lim_eq]; exact hl, ?_⟩
      have ez : cutS (mkS t) lo hi = mkS (cut t lo hi) := by
        unfold cutS
        rw [mkS_toList, mkS_len]
        have z := cut_map Char.toNat t lo hi
        rw [cut_eq, List.length_map] at z
        rw [z]
        rfl
      rw [ez]
      exact out_sc s rfl q (.str _)
    · cases e
  | _ => cases e

/-! ### built-in functions of one thing -/
def One (P : Pm) (X : Cx) (f : Value) (g : D → Res D) (k : Kd → Option Kd) : Prop :=
  ∃ r : List V → Hp → VK → Prop, CallR X f r ∧ ∀ {κ κ' : Kd} {H₁ G H : Hp} {v : V} {d : D} {W : WX} {σ : St} {Q : VK}, k κ = some κ' → Le G H → KdR P κ H₁ G H v d → (∃ d', g d = .ok d') → OutE P κ' W σ G H (g d) Q → r [v] H Q
def k1Sc (_ : Kd) : Option Kd := some .sc
/-- a new thing of what was in one -/
def k1New (κ : Kd) : Option Kd := (kidO κ).map fun o => .fr (.nd o)
theorem call_lenRd : CallR X (.builtin "len") (fun xs H Q => ∃ a kvs, xs = [V.ref a] ∧ Rd H a (.dK kvs) ∧ Q (.int kvs.length) H) := by
  intro pins s σ H xs us Q I r ⟨a, kvs, e, hd, q⟩
  subst e
  obtain ⟨u, rfl, ru⟩ := vals1 r
  cases ru
  exact d_len I hd fun t s' J => ⟨.int kvs.length, H, J, ⟨t, rfl⟩, q⟩
theorem one_len (hK : X.K = P.K) : One P X (.builtin "len") (fun d => bltD .len [d]) k1Sc := by
  refine ⟨_, call_len.or call_lenRd, ?_⟩
  intro κ κ' H₁ G H v d W σ Q hk s h1 ⟨d', e⟩ q
  have r1 := h1.rp s
  cases d <;> simp only [bltD] at e q <;> first | (cases e; done) | skip
  · rename_i t
    split at e
    · rename_i hl
      rw [if_pos hl] at q
      exact .inl ⟨.str (mkS t), t.length, by rw [r1.str], (show _ ∧ _ from ⟨by rw [mkS_len, ← lim_eq]; exact hl, by rw [mkS_len]⟩), out_sc s rfl q (.int _)⟩
    · cases e
  · rename_i ds
    obtain ⟨p, vs, rfl, hp, el, c⟩ := r1.tupI
    exact .inl ⟨_, ds.length, rfl, .inr ⟨vs, SqT.of hp, el.symm⟩, out_sc s rfl q (.int _)⟩
  · rename_i ds
    obtain ⟨p, vs, rfl, hp, el, c⟩ := r1.lstI
    exact .inl ⟨_, ds.length, rfl, .inl ⟨vs, SqL.of hp, el.symm⟩, out_sc s rfl q (.int _)⟩
  · rename_i es
    obtain ⟨p, kvs, rfl, hp, el, c⟩ := r1.dKI
    have el' : kvs.length = es.length := by simpa using congrArg List.length el
    exact .inr ⟨p, kvs, rfl, hp, by rw [el']; exact out_sc s rfl q (.int _)⟩
  · rename_i ns
    obtain ⟨p, rfl, hp⟩ := r1.roI
    exact .inl ⟨_, ns.length, rfl, .inl ⟨_, by rw [hK]; exact hp, by simp⟩, out_sc s rfl q (.int _)⟩
theorem one_abs : One P X (.builtin "abs") (fun d => bltD .abs [d]) k1Sc := by
  refine ⟨_, call_abs, ?_⟩
  intro κ κ' H₁ G H v d W σ Q hk s h1 ⟨d', e⟩ q
  cases d <;> simp only [bltD] at e q <;> first | (cases e; done) | skip
  exact ⟨_, by rw [(h1.rp s).int], out_sc s rfl q (.int _)⟩
theorem one_int : One P X (.type "int") (fun d => bltD .int [d]) k1Sc := by
  refine ⟨_, call_int1.or call_int_str, ?_⟩
  intro κ κ' H₁ G H v d W σ Q hk s h1 ⟨d', e⟩ q
  cases d <;> simp only [bltD] at e q <;> first | (cases e; done) | skip
  · exact .inl (.inr ⟨_, by rw [(h1.rp s).bl], out_sc s rfl q (.int _)⟩)
  · exact .inl (.inl ⟨_, by rw [(h1.rp s).int], out_sc s rfl q (.int _)⟩)
  · rename_i z
    cases en : intText? (mkS z) with
    | none => rw [en] at e; cases e
    | some n =>
      rw [en] at e q
      simp only at e q
      split at e
      · rename_i hl
        rw [if_pos hl] at q
        exact .inr ⟨mkS z, n, by rw [(h1.rp s).str], en, by rw [mkS_len]; exact hl, out_sc s rfl q (.int _)⟩
      · cases e
theorem ofS_mkS (x : String) : (Str.ofString x) = mkS x.toList := by
  rw [Str.ofString_eq_toList]; rfl
theorem one_str : One P X (.type "str") (fun d => bltD .str [d]) k1Sc := by
  refine ⟨_, call_str_int, ?_⟩
  intro κ κ' H₁ G H v d W σ Q hk s h1 ⟨d', e⟩ q
  cases d <;> simp only [bltD] at e q <;> first | (cases e; done) | skip
  rename_i i
  split at e
  · rename_i hl
    rw [if_pos hl] at q
    refine ⟨i, by rw [(h1.rp s).int], hl, ?_⟩
    have ee : ((toString i : String) : Str) = mkS (toString i).toList := ofS_mkS _
    rw [ee]
    exact out_sc s rfl q (.str _)
  · cases e
theorem one_ord : One P X (.builtin "ord") (fun d => bltD .ord [d]) k1Sc := by
  refine ⟨_, call_ord, ?_⟩
  intro κ κ' H₁ G H v d W σ Q hk s h1 ⟨d', e⟩ q
  cases d <;> simp only [bltD] at e q <;> first | (cases e; done) | skip
  rename_i t
  match t, e, q, h1 with
  | [], e, _, _ => cases e
  | [c], e, q, h1 => exact ⟨_, by rw [(h1.rp s).str], rfl, out_sc s rfl q (.int _)⟩
  | _ :: _ :: _, e, _, _ => cases e
theorem ints_vals : ∀ {ds : List D} {vs : List V} {is : List Int} {H : Hp}, vs.length = ds.length → All2 (Rp P H) vs ds → intsD ds = some is → vs = is.map V.int
  | [], [], _, _, _, _, e => by cases e; rfl
  | [], _ :: _, _, _, h, _, _ => by simp at h
  | _ :: _, [], _, _, h, _, _ => by simp at h
  | d :: ds, v :: vs, is, H, h, c, e => by
    cases d <;> simp only [intsD] at e <;> first | (cases e; done) | skip
    cases er : intsD ds with
    | none => rw [er] at e; cases e
    | some js =>
      rw [er] at e
      cases e
      have z := ints_vals (vs := vs) (H := H) (by simpa using h) (fun i x y h1 h2 => c (i + 1) x y (by simpa using h1) (by simpa using h2)) er
      rw [z, (c 0 v _ rfl rfl).int]
      rfl
theorem bls_vals : ∀ {ds : List D} {vs : List V} {is : List Bool} {H : Hp}, vs.length = ds.length → All2 (Rp P H) vs ds → blsD ds = some is → vs = is.map V.bl
  | [], [], _, _, _, _, e => by cases e; rfl
  | [], _ :: _, _, _, h, _, _ => by simp at h
  | _ :: _, [], _, _, h, _, _ => by simp at h
  | d :: ds, v :: vs, is, H, h, c, e => by
    cases d <;> simp only [blsD] at e <;> first | (cases e; done) | skip
    cases er : blsD ds with
    | none => rw [er] at e; cases e
    | some js =>
      rw [er] at e
      cases e
      have z := bls_vals (vs := vs) (H := H) (by simpa using h) (fun i x y h1 h2 => c (i + 1) x y (by simpa using h1) (by simpa using h2)) er
      rw [z, (c 0 v _ rfl rfl).bl]
      rfl
theorem strs_vals : ∀ {ds : List D} {vs : List V} {is : List (List Char)} {H : Hp}, vs.length = ds.length → All2 (Rp P H) vs ds → strsD ds = some is → vs = (is.map mkS).map V.str
  | [], [], _, _, _, _, e => by cases e; rfl
  | [], _ :: _, _, _, h, _, _ => by simp at h
  | _ :: _, [], _, _, h, _, _ => by simp at h
  | d :: ds, v :: vs, is, H, h, c, e => by
    cases d <;> simp only [strsD] at e <;> first | (cases e; done) | skip
    cases er : strsD ds with
    | none => rw [er] at e; cases e
    | some js =>
      rw [er] at e
      cases e
      have z := strs_vals (vs := vs) (H := H) (by simpa using h) (fun i x y h1 h2 => c (i + 1) x y (by simpa using h1) (by simpa using h2)) er
      rw [z, (c 0 v _ rfl rfl).str]
      rfl
theorem leastI_le : ∀ (xs : List Int) (m : Int), leastI m xs ≤ m ∧ (∀ x ∈ xs, leastI m xs ≤ x) ∧ (leastI m xs = m ∨ leastI m xs ∈ xs)
  | [], m => ⟨Int.le_refl _, (fun _ h => nomatch h), .inl rfl⟩
  | x :: xs, m => by
    by_cases h : x < m
    · obtain ⟨a, b, c⟩ := leastI_le xs x
      rw [leastI, if_pos h]
      refine ⟨by omega, fun y hy => ?_, .inr ?_⟩
      · rcases List.mem_cons.mp hy with rfl | hy
        · exact a
        · exact b y hy
      · rcases c with c | c
        · rw [c]; exact List.mem_cons_self
        · exact List.mem_cons_of_mem _ c
    · obtain ⟨a, b, c⟩ := leastI_le xs m
      rw [leastI, if_neg h]
      refine ⟨a, fun y hy => ?_, ?_⟩
      · rcases List.mem_cons.mp hy with rfl | hy
        · omega
        · exact b y hy
      · rcases c with c | c
        · exact .inl c
        · exact .inr (List.mem_cons_of_mem _ c)
theorem mostI_le : ∀ (xs : List Int) (m : Int), m ≤ mostI m xs ∧ (∀ x ∈ xs, x ≤ mostI m xs) ∧ (mostI m xs = m ∨ mostI m xs ∈ xs)
  | [], m => ⟨Int.le_refl _, (fun _ h => nomatch h), .inl rfl⟩
  | x :: xs, m => by
    by_cases h : m < x
    · obtain ⟨a, b, c⟩ := mostI_le xs x
      rw [mostI, if_pos h]
      refine ⟨by omega, fun y hy => ?_, .inr ?_⟩
      · rcases List.mem_cons.mp hy with rfl | hy
        · exact a
        · exact b y hy
      · rcases c with c | c
        · rw [c]; exact List.mem_cons_self
        · exact List.mem_cons_of_mem _ c
    · obtain ⟨a, b, c⟩ := mostI_le xs m
      rw [mostI, if_neg h]
      refine ⟨a, fun y hy => ?_, ?_⟩
      · rcases List.mem_cons.mp hy with rfl | hy
        · omega
        · exact b y hy
      · rcases c with c | c
        · exact .inl c
        · exact .inr (List.mem_cons_of_mem _ c)
theorem one_min (hK : X.K = P.K) (hc : X.calm = true) : One P X (.builtin "min") (fun d => bltD .min [d]) k1Sc := by
  refine ⟨_, cr_min hc, ?_⟩
  intro κ κ' H₁ G H v d W σ Q hk s h1 ⟨d', e⟩ q
  cases d <;> simp only [bltD] at e q <;> first | (cases e; done) | skip
  rename_i ds
  obtain ⟨p, vs, rfl, hp, el, c⟩ := (h1.rp s).lstI
  cases ei : intsD ds with
  | none => rw [ei] at e; cases e
  | some is =>
    rw [ei] at e q
    cases is with
    | nil => cases e
    | cons i is =>
      have ev := ints_vals el c ei
      refine ⟨p, i :: is, rfl, by rw [← ev]; exact SqL.of hp, by simp, fun m hm hle => ?_⟩
      obtain ⟨a, b, c⟩ := leastI_le is i
      have e1 : m = leastI i is := by
        have h1 : m ≤ leastI i is := by
          rcases c with c | c
          · rw [c]; exact hle _ List.mem_cons_self
          · exact hle _ (List.mem_cons_of_mem _ c)
        have h2 : leastI i is ≤ m := by
          rcases List.mem_cons.mp hm with rfl | hm
          · exact a
          · exact b m hm
        omega
      rw [e1]
      exact out_sc s rfl q (.int _)
theorem one_max (hK : X.K = P.K) (hc : X.calm = true) : One P X (.builtin "max") (fun d => bltD .max [d]) k1Sc := by
  refine ⟨_, cr_max hc, ?_⟩
  intro κ κ' H₁ G H v d W σ Q hk s h1 ⟨d', e⟩ q
  cases d <;> simp only [bltD] at e q <;> first | (cases e; done) | skip
  rename_i ds
  obtain ⟨p, vs, rfl, hp, el, c⟩ := (h1.rp s).lstI
  cases ei : intsD ds with
  | none => rw [ei] at e; cases e
  | some is =>
    rw [ei] at e q
    cases is with
    | nil => cases e
    | cons i is =>
      have ev := ints_vals el c ei
      refine ⟨p, i :: is, rfl, by rw [← ev]; exact SqL.of hp, by simp, fun m hm hle => ?_⟩
      obtain ⟨a, b, c⟩ := mostI_le is i
      have e1 : m = mostI i is := by
        have h1 : mostI i is ≤ m := by
          rcases c with c | c
          · rw [c]; exact hle _ List.mem_cons_self
          · exact hle _ (List.mem_cons_of_mem _ c)
        have h2 : m ≤ mostI i is := by
          rcases List.mem_cons.mp hm with rfl | hm
          · exact a
          · exact b m hm
        omega
      rw [e1]
      exact out_sc s rfl q (.int _)
theorem one_sum (hc : X.calm = true) : One P X (.builtin "sum") (fun d => bltD .sum [d]) k1Sc := by
  refine ⟨_, cr_sum hc, ?_⟩
  intro κ κ' H₁ G H v d W σ Q hk s h1 ⟨d', e⟩ q
  cases d <;> simp only [bltD] at e q <;> first | (cases e; done) | skip
  rename_i ds
  obtain ⟨p, vs, rfl, hp, el, c⟩ := (h1.rp s).lstI
  cases ei : intsD ds with
  | none => rw [ei] at e; cases e
  | some is =>
    rw [ei] at e q
    exact ⟨p, is, rfl, by rw [← ints_vals el c ei]; exact SqL.of hp, out_sc s rfl q (.int _)⟩
theorem one_all (hc : X.calm = true) : One P X (.builtin "all") (fun d => bltD .all [d]) k1Sc := by
  refine ⟨_, cr_all hc, ?_⟩
  intro κ κ' H₁ G H v d W σ Q hk s h1 ⟨d', e⟩ q
  cases d <;> simp only [bltD] at e q <;> first | (cases e; done) | skip
  rename_i ds
  obtain ⟨p, vs, rfl, hp, el, c⟩ := (h1.rp s).lstI
  cases ei : blsD ds with
  | none => rw [ei] at e; cases e
  | some is =>
    rw [ei] at e q
    exact ⟨p, is, rfl, by rw [← bls_vals el c ei]; exact SqL.of hp, out_sc s rfl q (.bl _)⟩
theorem k1New_ow {κ κ' : Kd} (hk : k1New κ = some κ') : ∃ o, kidO κ = some o ∧ κ' = .fr (.nd o) := by
  unfold k1New at hk
  cases ho : kidO κ with
  | none => rw [ho] at hk; cases hk
  | some o => rw [ho] at hk; cases hk; exact ⟨o, rfl, rfl⟩
theorem kids_ow {κ : Kd} {o : Own} {H₁ G H : Hp} {vs : List V} {ds : List D} (ho : kidO κ = some o) (c : ∀ (i : Nat) (v : V) (d : D), vs[i]? = some v → ds[i]? = some d → KdR P (kid κ) H₁ G H v d) : All2 (fun v d => Ow P G H o (fun _ => False) v d) vs ds :=
  fun i v d a b => KdR.toOw (by rw [← kidO_eq ho]; exact c i v d a b) (kidO_or ho) (by rcases kidO_or ho with z | z <;> simp [z])
/-! ### dicts' keys -/
theorem kd_sc (k : Ky) : Sc (kV (kyK k)) (kd k) := by
  cases k with
  | inl i => exact .int i
  | inr s => exact .str s
theorem keys_ow {G H : Hp} {kvs : List (Key × V)} {es : List (Ky × D)} {o : Own} (e : kvs.map (·.1) = es.map (fun e => kyK e.1)) : All2 (fun v d => Ow P G H o (fun _ => False) v d) (kvs.map fun kv => kV kv.1) (es.map fun p => kd p.1) := by
  have e2 : (kvs.map fun kv => kV kv.1) = es.map fun p => kV (kyK p.1) := by
    have := congrArg (List.map kV) e
    simpa [List.map_map, Function.comp_def] using this
  rw [e2]
  exact All2.maps fun p _ => .sc (kd_sc p.1)
def unS (x : Str) : List Char := x.cps.toList.map Char.ofNat
theorem unS_mk (s : List Char) : unS (mkS s) = s := by
  unfold unS mkS
  simp only [List.map_map]
  induction s with
  | nil => rfl
  | cons c s ih => rw [List.map_cons, ih]; simp [Function.comp]
theorem rising_pw : ∀ (p : List Char) (l : List (List Char)), PyProof.Rows.risingS (mkS p) (l.map mkS) = true → (p :: l).Pairwise (fun a b => leE D.str a b = true)
  | p, [], _ => by simp
  | p, x :: r, h => by
    rw [List.map_cons, PyProof.Rows.risingS, Bool.and_eq_true, PyProof.Rows.ltCps_eq] at h
    have ih := rising_pw x r h.2
    have hpx : leE D.str p x = true := by
      show (!ltS x p) = true
      have e : ltS x p = decide ((mkS x).cps.toList < (mkS p).cps.toList) := rfl
      rw [e]; exact h.1
    refine List.pairwise_cons.mpr ⟨fun y hy => ?_, ih⟩
    rcases List.mem_cons.mp hy with rfl | hy
    · exact hpx
    · exact leE_trans _ _ _ hpx ((List.pairwise_cons.mp ih).1 y hy)
theorem sortedS_uni {ks : List (List Char)} {ys : List Str} (p : ys.Perm (ks.map mkS)) (h : PyProof.Rows.sortedS ys = true) : ys = (ks.mergeSort fun a b => !ltS b a).map mkS := by
  have hz : ys = (ys.map unS).map mkS := by
    rw [List.map_map]
    conv => lhs; rw [← List.map_id ys]
    refine List.map_congr_left fun y hy => ?_
    obtain ⟨k, _, rfl⟩ := List.mem_map.mp (p.mem_iff.mp hy)
    show mkS k = mkS (unS (mkS k))
    rw [unS_mk]
  have pz : (ys.map unS).Perm ks := by
    have := p.map unS
    rw [List.map_map] at this
    have e : ks.map (unS ∘ mkS) = ks := by
      conv => rhs; rw [← List.map_id ks]
      exact List.map_congr_left fun k _ => unS_mk k
    rw [e] at this; exact this
  have pw : (ys.map unS).Pairwise (fun a b => leE D.str a b = true) := by
    rw [hz] at h
    cases q : ys.map unS with
    | nil => exact .nil
    | cons x r =>
      rw [q] at h
      exact rising_pw x r h
  rw [hz]
  congr 1
  exact pw_unique (f := D.str) (pz.trans (sortE_perm (f := D.str) ks).symm) pw (sortE_pw (f := D.str) ks)
theorem kvsS_keys : ∀ {es : List (Ky × D)} {ks : List (List Char)}, kvsS es = some ks → es.map (fun e => kyK e.1) = (ks.map mkS).map Sum.inr
  | [], _, h => by cases h; rfl
  | (.inr s, d) :: r, ks, h => by
    rw [kvsS] at h
    cases q : kvsS r with
    | none => rw [q] at h; cases h
    | some z =>
      rw [q] at h
      cases h
      simp only [List.map_cons, kvsS_keys q]; rfl
  | (.inl s, d) :: r, ks, h => by cases h
theorem one_list (hc : X.calm = true) : One P X (.type "list") (fun d => bltD .list [d]) k1New := by
  refine ⟨_, call_list_of.or (call_listD hc), ?_⟩
  intro κ κ' H₁ G H v d W σ Q hk s h1 ⟨d', e⟩ q
  obtain ⟨o, ho, rfl⟩ := k1New_ow hk
  cases d <;> simp only [bltD] at e q <;> first | (cases e; done) | skip
  · obtain ⟨p, vs, rfl, hp, el, c⟩ := h1.tupK s
    exact .inl ⟨p, vs, rfl, .inr (SqT.of hp), out_lst s rfl q el (kids_ow ho c)⟩
  · obtain ⟨p, vs, rfl, hp, el, c⟩ := h1.lstK s
    exact .inl ⟨p, vs, rfl, .inl (SqL.of hp), out_lst s rfl q el (kids_ow ho c)⟩
  · obtain ⟨p, kvs, rfl, hp, ek, _⟩ := h1.dKK s
    exact .inr ⟨p, kvs, rfl, hp, out_lst s rfl q (by have := congrArg List.length ek; simpa using this) (keys_ow ek)⟩
theorem one_tuple : One P X (.type "tuple") (fun d => bltD .tuple [d]) k1New := by
  refine ⟨_, call_tuple_of, ?_⟩
  intro κ κ' H₁ G H v d W σ Q hk s h1 ⟨d', e⟩ q
  obtain ⟨o, ho, rfl⟩ := k1New_ow hk
  cases d <;> simp only [bltD] at e q <;> first | (cases e; done) | skip
  obtain ⟨p, vs, rfl, hp, el, c⟩ := h1.lstK s
  exact ⟨p, vs, rfl, .inl ⟨SqL.of hp, out_tup s rfl q el (kids_ow ho c)⟩⟩

/-! ### sorted -/
theorem each_of {α β : Type} {R : α → β → Prop} : ∀ {as : List α} {bs : List β}, as.length = bs.length → All2 R as bs → PySem.W.EachIs R as bs
  | [], [], _, _ => .nil
  | [], _ :: _, h, _ => by simp at h
  | _ :: _, [], h, _ => by simp at h
  | a :: as, b :: bs, h, c => .cons (c 0 a b rfl rfl) (each_of (by simpa using h) fun i x y h1 h2 => c (i + 1) x y (by simpa using h1) (by simpa using h2))
theorem of_each {α β : Type} {R : α → β → Prop} {as : List α} {bs : List β} (h : PySem.W.EachIs R as bs) : as.length = bs.length ∧ All2 R as bs := by
  induction h with
  | nil => exact ⟨rfl, .nil⟩
  | cons r _ ih => exact ⟨by simp [ih.1], .cons r ih.2⟩
theorem vals_all : ∀ {vs : List V} {us : List Value}, Vals vs us → vs.length = us.length ∧ All2 (fun (u : Value) (v : V) => RelV v u) us vs
  | _, _, .nil => ⟨rfl, .nil⟩
  | _, _, .cons r t => ⟨by simp [(vals_all t).1], .cons r (vals_all t).2⟩
theorem all_vals : ∀ {vs : List V} {us : List Value}, vs.length = us.length → All2 (fun (u : Value) (v : V) => RelV v u) us vs → Vals vs us
  | [], [], _, _ => .nil
  | [], _ :: _, h, _ => by simp at h
  | _ :: _, [], h, _ => by simp at h
  | v :: vs, u :: us, h, c => .cons (c 0 u v rfl rfl) (all_vals (by simpa using h) fun i x y h1 h2 => c (i + 1) x y (by simpa using h1) (by simpa using h2))
def rSortD (P : Pm) (X : Cx) : List V → Hp → VK → Prop := fun xs H Q => ∃ (p : Addr) (ps : List (V × D)), xs = [.ref p] ∧ H p = some (.lst (ps.map (·.1))) ∧ (∀ q ∈ ps, Rp P H q.1 q.2) ∧ sortable (ps.map (·.2)) = true ∧
  ∀ p', H p' = none → Q (.ref p') (upd H p' (.lst ((ps.mergeSort fun a b => dataLeD a.2 b.2).map (·.1))))
theorem cr_sortD (hK : X.K = P.K) (hu : X.A.units + 64 < cLine) : CallR X (.builtin "sorted") (rSortD P X) := by
  intro pins s σ H xs us Q I r ⟨p, ps, e, hp, hr, hs, q⟩
  subst e
  obtain ⟨u, rfl, ru⟩ := vals1 r
  cases ru
  obtain ⟨hz, its, n, rv, ho⟩ := I.hok p _ hp
  obtain ⟨l1, c1⟩ := vals_all rv
  have el : its.length = ps.length := by rw [← l1, List.length_map]
  simp only [sortable, Bool.and_eq_true, Bool.or_eq_true, List.all_eq_true] at hs
  obtain ⟨⟨hdp, hal⟩, hkind⟩ := hs
  have mem : ∀ {q : V × D}, q ∈ ps → q.2 ∈ ps.map (·.2) := fun hq => List.mem_map.mpr ⟨_, hq, rfl⟩
  have ea : All2 (fun (u : Value) (q : V × D) => RelV q.1 u ∧ q ∈ ps) its ps := fun i u q h1 h2 =>
    ⟨c1 i u q.1 h1 (by rw [List.getElem?_map, h2]; rfl), List.mem_of_getElem? h2⟩
  have rd : ∀ {u : Value} {q : V × D}, RelV q.1 u → q ∈ ps → ∃ as, Reads s.heap u (py q.2) as := fun {u q} h1 h2 => by
    refine Dp.reads I (py q.2) q.1 u ?_ h1
    rw [hK]; exact (hr q h2).dp 8 (hdp _ (mem h2))
  refine PySem.W.sorted_data (R := fun u (q : V × D) => RelV q.1 u ∧ q ∈ ps) (enc := fun q => py q.2) (bs := ps) (vs := its) ⟨_, ho, rfl, n, rfl⟩ (each_of el ea) (each_of el (ea.imp fun u q z => rd z.1 z.2)) ?_ ?_ ?_ ?_ fun out hl eo => ?_
  · intro d hd d' hd'
    obtain ⟨q, hq, rfl⟩ := List.mem_map.mp hd
    obtain ⟨q', hq', rfl⟩ := List.mem_map.mp hd'
    exact hal _ (mem hq) _ (mem hq')
  · rcases hkind with hk | hk
    · refine .inl fun d hd => ?_
      obtain ⟨q, hq, rfl⟩ := List.mem_map.mp hd
      have z := hk _ (mem hq)
      split at z
      · rename_i d0 r0 e0
        exact ⟨py d0, pyL r0, by rw [e0, py, pyL]⟩
      · cases z
    · refine .inr fun d hd => ?_
      obtain ⟨q, hq, rfl⟩ := List.mem_map.mp hd
      have z := hk _ (mem hq)
      split at z <;> first | (cases z; done) | (rename_i e0; rw [e0, py]; exact ⟨(by intro y; cases y), (by intro xs y; cases y)⟩)
  · rw [List.length_map] at hz; exact hz
  · intro q hq
    obtain ⟨_, hd⟩ := lay_dp q.2 8 (hdp _ (mem hq))
    show X.A.units + 2 + (py q.2).depth < cLine
    omega
  · obtain ⟨ep, he'⟩ := PyProof.Rows.sortedAll_at s.heap its out.toArray
    obtain ⟨l2, c2⟩ := of_each eo
    have le : (PySem.W.dataLe false fun q : V × D => py q.2) = fun a b => dataLeD a.2 b.2 := rfl
    rw [le] at l2 c2
    refine ⟨.ref _, upd H (s.heap.objs.size + 1) (.lst ((ps.mergeSort fun a b => dataLeD a.2 b.2).map (·.1))), I.laid (t' := s.toks) (fun _ _ => PyProof.Rows.sortedAll_old) (Nat.le_succ _) ⟨?_, out, ep, ?_, he'⟩, rfl, q _ (I.hok.fresh (Nat.le_succ _))⟩
    · rw [List.length_map, List.length_mergeSort]
      rw [List.length_map] at hz; exact hz
    · refine all_vals (by rw [List.length_map, l2]) fun i u v h1 h2 => ?_
      rw [List.getElem?_map] at h2
      cases eq : (ps.mergeSort fun a b => dataLeD a.2 b.2)[i]? with
      | none => rw [eq] at h2; cases h2
      | some z =>
        rw [eq] at h2
        cases h2
        exact (c2 i u z h1 eq).1
theorem one_sorted (hK : X.K = P.K) (hc : X.calm = true) (hu : X.A.units + 64 < cLine) : One P X (.builtin "sorted") (fun d => bltD .sorted [d]) k1New := by
  refine ⟨_, (cr_sortD hK hu).or (call_sortedD hc), ?_⟩
  intro κ κ' H₁ G H v d W σ Q hk s h1 ⟨d', e⟩ q
  obtain ⟨o, ho, rfl⟩ := k1New_ow hk
  cases d <;> simp only [bltD] at e q <;> first | (cases e; done) | skip
  case dK es =>
    obtain ⟨p, kvs, rfl, hp, ek, _⟩ := h1.dKK s
    right
    cases e1 : kvsS es with
    | none => rw [e1] at e; cases e
    | some ks =>
      rw [e1] at e q
      simp only at e q
      split at e
      · rename_i hl
        rw [if_pos hl] at q
        refine ⟨p, kvs, ks.map mkS, rfl, hp, ek.trans (kvsS_keys e1), by simpa using hl, fun ys p' hy hs hp' => ?_⟩
        have ey := sortedS_uni hy hs
        rw [ey]
        refine out_lst s rfl q (by simp) ?_ p' hp'
        rw [List.map_map]
        exact All2.maps fun w _ => .sc (.str w)
      · cases e
  rename_i ds
  left
  obtain ⟨p, vs, rfl, hp, el, c⟩ := h1.lstK s
  unfold sortD at e q
  split at e
  · rename_i z
    rw [if_pos z] at q
    rw [Bool.and_eq_true] at z
    simp only [Res.ok_bind] at q
    have m1 : (vs.zip ds).map (·.1) = vs := List.map_fst_zip (by omega)
    have m2 : (vs.zip ds).map (·.2) = ds := List.map_snd_zip (by omega)
    have at_ : ∀ x ∈ vs.zip ds, ∃ i : Nat, vs[i]? = some x.1 ∧ ds[i]? = some x.2 := fun x hx => by
      obtain ⟨i, hi⟩ := List.mem_iff_getElem?.mp hx
      exact ⟨i, List.getElem?_zip_eq_some.mp hi⟩
    refine ⟨p, vs.zip ds, rfl, by rw [m1]; exact hp, fun x hx => ?_, by rw [m2]; exact z.1, ?_⟩
    · obtain ⟨i, a, b⟩ := at_ x hx
      exact (c i _ _ a b).rp s
    · have e2 : ds.mergeSort dataLeD = ((vs.zip ds).mergeSort fun a b => dataLeD a.2 b.2).map (·.2) := by
        conv => lhs; rw [← m2]
        exact (List.map_mergeSort (f := fun x : V × D => x.2) (r := fun a b => dataLeD a.2 b.2) (s := dataLeD) fun a _ b _ => rfl).symm
      rw [e2] at q
      refine out_lst s rfl q (by simp) (All2.maps fun x hx => ?_)
      obtain ⟨i, a, b⟩ := at_ x ((List.mergeSort_perm _ _).mem_iff.mp hx)
      exact kids_ow ho c i _ _ a b
  · cases e
end
end SH
end
section
set_option Elab.async false
set_option linter.all false
set_option autoImplicit false
set_option maxRecDepth 10000
/-! The check of an expression, and what it needs of the module. -/
namespace SH
open PySem L2

structure Ci where
  sc : Scope
  N : List Str
  hot : Bool
  raw : Option Scope
def Ci.ck (I : Ci) : Ck := ⟨I.sc, I.N, I.hot⟩
def rest1 (o : BoolOp) (y : Expr) (r : List Expr) (p : Pos) : Expr := match r with
  | [] => y
  | _ => .BoolOp o (y :: r) p
/-- a name that may be stored here -/
def stoB (I : Ci) (i : Nat) (x : Str) : Bool := slotB I.ck i x && locB I.sc x && (match I.raw with
  | none => true
  | some r => isLoc I.sc x || (match r.names.lookup x with
    | some .cell => true
    | _ => false))
def tgsB (I : Ci) : List Nat → List Expr → Bool
  | [], [] => true
  | i :: is, e :: es => (match asName e with
    | some (x, _) => stoB I i x
    | none => false) && tgsB I is es
  | _, _ => false
def tgB (I : Ci) (tg : Tg) (e : Expr) : Bool := match tg with
  | .name i => (match asName e with
    | some (x, _) => stoB I i x
    | none => false)
  | .tup is => (match asTup e with
    | some (l, _, _) => tgsB I is l
    | none => false)
def setO (ω : List Own) (o : Own) : List Nat → List Own
  | [] => ω
  | i :: is => setO (setw ω i o) o is
def ownL (N : List Str) (is : List Nat) : List (Str × Nat) := is.map fun i => ((N[i]?).getD Str.empty, i)
def k1 (b : Blt) (κ : Kd) : Option Kd := match b with
  | .sorted => k1New κ
  | .list => k1New κ
  | .tuple => k1New κ
  | .dict => none
  | .repr => none
  | _ => some .sc
def kB (b : Blt) (κs : List Kd) : Option Kd := match κs with
  | [κ] => k1 b κ
  | [_, _] => if b = .min ∨ b = .max then some .sc else none
  | [_, _, _] => if b = .min then some .sc else none
  | _ => none
def kMth (m : Mth) (κ : Kd) (κs : List Kd) : Option Kd := match m, κs with
  | .get, [_] => some (kid κ)
  | .get, [_, κ'] => if kid κ = .sc then (if κ' = .sc then some .sc else if κ' = .sh then some .sh else none) else if kid κ = .sh ∧ (κ' = .sc ∨ κ' = .sh) then some .sh else none
  | .join, [_] => some .sc
  | .index, [_] => some .sc
  | .find, [_] => some .sc
  | .split, [_] => some (.fr (.nd .sc))
  | _, _ => none
def isZ : CE → Bool
  | .int 0 => true
  | _ => false
theorem isZ_eq {a : CE} (h : isZ a = true) : a = .int 0 := by
  unfold isZ at h
  split at h
  · rfl
  · cases h
mutual
/-- t: as a test -/
def ck (I : Ci) (ω : List Own) (t : Bool) : CE → Expr → Option Kd
  | .var i, e => match asName e with
    | some (x, _) => if slotB I.ck i x then some (kdOf (ow ω i)) else none
    | none => none
  | .int i, e => match asConst e with
    | some (.int j, _, _) => if i = j then some .sc else none
    | _ => none
  | .str s, e => match asConst e with
    | some (.str x, _, _) => if x = mkS s then some .sc else none
    | _ => none
  | .bl b, e => match asConst e with
    | some (.bool c, _, _) => if b = c then some .sc else none
    | _ => none
  | .non, e => match asConst e with
    | some (.none, _, _) => some .sc
    | _ => none
  | .gi x _, e => match asName e with
    | some (y, _) => if y == (x : Str) && gloB I.sc y then some .sc else none
    | none => none
  | .gs x _, e => match asName e with
    | some (y, _) => if y == (x : Str) && gloB I.sc y then some .sc else none
    | none => none
  | .tup es, e => match asTup e with
    | some (l, _, _) => if ckEs I ω (jnEs I ω es l) es l then some (.fr (.nd (jnEs I ω es l))) else none
    | none => none
  | .lst es, e => match asLst e with
    | some (l, _) => if ckEs I ω (jnEs I ω es l) es l then some (.fr (.nd (jnEs I ω es l))) else none
    | none => none
  | .dK, e => match asDict0 e with
    | some _ => some (.fr (.nd .sc))
    | none => none
  | .dT, e => match asDict0 e with
    | some _ => some (.fr (.nd .sc))
    | none => none
  | .neg a, e => match asUn e with
    | some (.USub, x, _) => (ck I ω false a x).map fun _ => .sc
    | _ => none
  | .not a, e => match asUn e with
    | some (.Not, x, _) => (ck I ω t a x).map fun _ => .sc
    | _ => none
  | .bin o a b, e => match asBin e with
    | some (x, op, y, _) => if op = opOf o then (match ck I ω false a x, ck I ω false b y with
      | some κ, some κ' => kOp o κ κ'
      | _, _ => none) else none
    | none => none
  | .cmp o a b, e => match asCmp e with
    | some (x, op, y, _) => if op = cmpOf o ∧ notSet y = true then (match ck I ω false a x, ck I ω false b y with
      | some _, some _ => some .sc
      | _, _ => none) else none
    | none => none
  | .chain o o' a b c, e => match asCmp2 e with
    | some (x, op, op', y, z, _) => if op = cmpOf o ∧ op' = cmpOf o' ∧ notSet z = true then (match ck I ω false a x, ck I ω false b y, ck I ω false c z with
      | some _, some _, some _ => some .sc
      | _, _, _ => none) else none
    | none => none
  | .and a b, e => match asBool e with
    | some (.And, x, y, r, p) => (match ck I ω t a x, ck I ω t b (rest1 .And y r p) with
      | some _, some κ => if t = true ∨ κ = .sc then some .sc else none
      | _, _ => none)
    | _ => none
  | .or a b, e => match asBool e with
    | some (.Or, x, y, r, p) => (match ck I ω t a x, ck I ω t b (rest1 .Or y r p) with
      | some _, some κ => if t = true ∨ κ = .sc then some .sc else none
      | _, _ => none)
    | _ => none
  | .ite c a b, e => if t then none else match asIf e with
    | some (x, y, z, _) => (match ck I ω true c x, ck I ω false a y, ck I ω false b z with
      | some _, some κ, some κ' => if kOK κ (lub (ownOf κ) (ownOf κ')) && kOK κ' (lub (ownOf κ) (ownOf κ')) then some (ofOwn (lub (ownOf κ) (ownOf κ'))) else none
      | _, _, _ => none)
    | none => none
  | .ix a i, e => match asIx e with
    | some (x, y, _) => if notSl y then (match ck I ω false a x, ck I ω false i y with
      | some κ, some _ => some (kid κ)
      | _, _ => none) else none
    | none => none
  | .sl a lo hi, e => match asIx e with
    | some (x, y, _) => (match asSl y with
      | some (l, h, _) => if ckO I ω lo l && ckO I ω hi h then (match ck I ω false a x with
        | some κ => kSl κ
        | none => none) else none
      | none => none)
    | none => none
  | .call x _ R es, e => match asCall e with
    | some (y, _, l, _) => if y == (x : Str) && gloB I.sc y && l.all notStar && !l.isEmpty && !I.hot && (ckEs I ω .sh es l || (noSh R && (ckKs I ω es l).isSome)) then some (ofOwn R) else none
    | none => none
  | .blt b es, e => match asCall e with
    | some (y, _, l, _) => if y == (bltNm b : Str) && gloB I.sc y && l.all notStar && !I.hot then (match ckKs I ω es l with
      | some κs => kB b κs
      | none => none) else none
    | none => none
  | .mth m o es, e => match asMeth e with
    | some (x, nm, p, l, q) => if nm == (mthNm m : Str) && plainB x && l.all notStar && (p.endLine == q.line) && !I.hot then (match ck I ω false o x, ckKs I ω es l with
      | some κ, some κs => kMth m κ κs
      | _, _ => none) else none
    | none => none
  | .isi a ty, e => match asCall e with
    | some (y, _, [x, n], _) => (match asName n with
      | some (z, _) => if y == ("isinstance" : Str) && gloB I.sc y && z == (tyNm ty : Str) && gloB I.sc z && notStar x then (ck I ω false a x).map fun _ => .sc else none
      | none => none)
    | _ => none
  | .lc tg src c el, e => match asLc e with
    | some (elt, tg', it, ifs, sc', _) => if I.hot then none else match ckSrc I ω false src it with
      | some o => if notSet it && blkC I.N I.sc sc' (ownL I.N (tgIs tg)) && tgB ⟨relS sc' I.sc, I.N, false, some sc'⟩ tg tg' && ckIf ⟨relS sc' I.sc, I.N, false, some sc'⟩ (setO ω o (tgIs tg)) c ifs then
        (match ck ⟨relS sc' I.sc, I.N, false, some sc'⟩ (setO ω o (tgIs tg)) false el elt with
        | some κ => if kOK κ (ownOf κ) then some (.fr (.nd (ownOf κ))) else none
        | none => none) else none
      | none => none
    | none => none
  | .sc a, e => if t = false ∨ plainT e = true then (ck I ω false a e).map fun _ => .sc else none
  | .tru a, e => if t = true ∧ plainT e = true then (ck I ω false a e).map fun _ => .sc else none
  | .at i, e => match asAttr e with
    | some (x, nm, _) => (match asName x with
      | some (y, _) => if nm == ("at" : Str) && slotB I.ck i y && I.hot then some .sc else none
      | none => none)
    | none => none
  | .shr a, e => if t then none else match ck I ω false a e with
    | some κ => if kOK κ .sh then some .sh else none
    | none => none
  | .chn o o' o2 a b c d, e => match asCmp3 e with
    | some (x, op, op', op2, y, z, u, _) => if op = cmpOf o ∧ op' = cmpOf o' ∧ op2 = cmpOf o2 ∧ notSet u = true then (match ck I ω false a x, ck I ω false b y, ck I ω false c z, ck I ω false d u with
      | some _, some _, some _, some _ => some .sc
      | _, _, _, _ => none) else none
    | none => none
  | .lrng a b, e => if t then none else match asCall e with
    | some (y, _, [z], _) => (match asCall z with
      | some (y', _, [x1, x2], _) => if y == ("list" : Str) && gloB I.sc y && y' == ("range" : Str) && gloB I.sc y' && notStar z && notStar x1 && notStar x2 && !I.hot then (match ck I ω false a x1, ck I ω false b x2 with
        | some _, some _ => some (.fr (.nd .sc))
        | _, _ => none) else none
      | some (y', _, [x2], _) => if y == ("list" : Str) && gloB I.sc y && y' == ("range" : Str) && gloB I.sc y' && notStar z && notStar x2 && isZ a && !I.hot then (match ck I ω false b x2 with
        | some _ => some (.fr (.nd .sc))
        | none => none) else none
      | _ => none)
    | _ => none
  | .lset a, e => if t then none else match asCall e with
    | some (y, _, [z], _) => (match asCall z with
      | some (y', _, [x], _) => if y == ("len" : Str) && gloB I.sc y && y' == ("set" : Str) && gloB I.sc y' && notStar z && notStar x && !I.hot then (ck I ω false a x).map fun _ => .sc else none
      | _ => none)
    | _ => none
  | .lck tg i c el, e => match asLc e with
    | some (elt, tg', it, ifs, sc', _) => (match asName it with
      | some (x, _) => if !I.hot && slotB I.ck i x && (ow ω i == .sh) && blkC I.N I.sc sc' (ownL I.N (tgIs tg)) && tgB ⟨relS sc' I.sc, I.N, false, some sc'⟩ tg tg' && ckIf ⟨relS sc' I.sc, I.N, false, some sc'⟩ (setO ω .sc (tgIs tg)) c ifs then
        (match ck ⟨relS sc' I.sc, I.N, false, some sc'⟩ (setO ω .sc (tgIs tg)) false el elt with
        | some κ => if kOK κ (ownOf κ) then some (.fr (.nd (ownOf κ))) else none
        | none => none) else none
      | none => none)
    | none => none
/-- all may be kept as o -/
def ckEs (I : Ci) (ω : List Own) (o : Own) : CEs → List Expr → Bool
  | .nil, [] => true
  | .cons false a es, e :: l => notStar e && (match ck I ω false a e with
    | some κ => kOK κ o
    | none => false) && ckEs I ω o es l
  | .cons true a es, e :: l => (match e with
    | .Starred x _ => (match ck I ω false a x with
      | some κ => (match kidO κ with
        | some o' => co o' o && (o' == .sc || o == .sh)
        | none => false)
      | none => false)
    | _ => false) && ckEs I ω o es l
  | _, _ => false
def jnEs (I : Ci) (ω : List Own) : CEs → List Expr → Own
  | .cons false a es, e :: l => (match ck I ω false a e with
    | some κ => lub (ownOf κ) (jnEs I ω es l)
    | none => .sh)
  | .cons true a es, e :: l => (match e with
    | .Starred x _ => (match ck I ω false a x with
      | some κ => (match kidO κ with
        | some o' => lub o' (jnEs I ω es l)
        | none => .sh)
      | none => .sh)
    | _ => .sh)
  | _, _ => .sc
def ckKs (I : Ci) (ω : List Own) : CEs → List Expr → Option (List Kd)
  | .nil, [] => some []
  | .cons false a es, e :: l => if notStar e = true then (match ck I ω false a e, ckKs I ω es l with
    | some κ, some κs => some (κ :: κs)
    | _, _ => none) else none
  | _, _ => none
/-- a slice's end -/
def ckO (I : Ci) (ω : List Own) : CEo → Option Expr → Bool
  | .none, none => true
  | .some c, some e => (ck I ω false c e).isSome
  | _, _ => false
/-- a comprehension's test -/
def ckIf (I : Ci) (ω : List Own) : CEo → List Expr → Bool
  | .none, [] => true
  | .some c, [e] => (ck I ω true c e).isSome
  | _, _ => false
/-- what is walked: what its items are; loop: the body may change things -/
def ckSrc (I : Ci) (ω : List Own) (loop : Bool) : Src → Expr → Option Own
  | .over a, e => (match ck I ω false a e with
    | some κ => if loop = true ∧ kOK κ .sh = false then none else kidO κ
    | none => none)
  | .rng1 a, e => match asCall e with
    | some (y, _, [x], _) => if y == ("range" : Str) && gloB I.sc y && notStar x then (ck I ω false a x).map fun _ => .sc else none
    | _ => none
  | .rng2 a b, e => match asCall e with
    | some (y, _, [x, z], _) => if y == ("range" : Str) && gloB I.sc y && notStar x && notStar z then (match ck I ω false a x, ck I ω false b z with
      | some _, some _ => some .sc
      | _, _ => none) else none
    | _ => none
  | .down a b, e => match asCall e with
    | some (y, _, [x, z, u], _) => (match asUn u with
      | some (.USub, c, _) => (match asConst c with
        | some (.int j, _, _) => if y == ("range" : Str) && gloB I.sc y && notStar x && notStar z && (j == 1) then (match ck I ω false a x, ck I ω false b z with
          | some _, some _ => some .sc
          | _, _ => none) else none
        | _ => none)
      | _ => none)
    | _ => none
  | .keys _, _ => none
end

/-! ### what a callee promises -/
def noXs : Addr → Addr → Prop := fun _ _ => False
def Pm.cold (P : Pm) : Pm := { P with xs := noXs }
def spOf (P : Pm) (f : List D → Res D) (R : Own) (n : Nat) : Sp := fun vs H Q E => vs.length = n ∧ ∃ G ds, Le G H ∧ vs.length = ds.length ∧ All2 (Rp P.cold G) vs ds ∧
  Out P.cold (fun G' H' v d => KdR P.cold (ofOwn R) H G' H' v d) (fun c d _ H => E c d H) [] G H (f ds) Q
def Cal (P : Pm) (k : Nat) (x : String) (f : List D → Res D) (R : Own) (n : Nat) : Prop := ∃ j a fd ps, j ≤ k ∧ List.length ps = n ∧
  FnOk P.prog P.w P.K P.mg P.base (L2.CX P.prog P.w) j a fd ps (spOf P f R n) ∧ P.mg x = some (.ref a) ∧ PySem.W.keepIn P.K (.ref a) = true ∧ Binds P.K fd ps []
def CEs.len : CEs → Nat
  | .nil => 0
  | .cons _ _ es => es.len + 1
mutual
def NdE (P : Pm) (k : Nat) : CE → Prop
  | .gi x i => ∃ t, P.mg x = some (.int i t)
  | .gs x s => ∃ t, P.mg x = some (.str (mkS s) t)
  | .tup es => NdEs P k es
  | .lst es => NdEs P k es
  | .neg a => NdE P k a
  | .not a => NdE P k a
  | .bin _ a b => NdE P k a ∧ NdE P k b
  | .cmp _ a b => NdE P k a ∧ NdE P k b
  | .chain _ _ a b c => NdE P k a ∧ NdE P k b ∧ NdE P k c
  | .and a b => NdE P k a ∧ NdE P k b
  | .or a b => NdE P k a ∧ NdE P k b
  | .ite c a b => NdE P k c ∧ NdE P k a ∧ NdE P k b
  | .ix a i => NdE P k a ∧ NdE P k i
  | .sl a lo hi => NdE P k a ∧ NdO P k lo ∧ NdO P k hi
  | .call x f R es => Cal P k x f R es.len ∧ NdEs P k es
  | .blt b es => P.mg (bltNm b) = none ∧ NdEs P k es
  | .mth _ o es => NdE P k o ∧ NdEs P k es
  | .isi a t => P.mg "isinstance" = none ∧ P.mg (tyNm t) = none ∧ NdE P k a
  | .lc _ src c e => NdSrc P k src ∧ NdO P k c ∧ NdE P k e
  | .sc a => NdE P k a
  | .tru a => NdE P k a
  | .shr a => NdE P k a
  | .chn _ _ _ a b c d => NdE P k a ∧ NdE P k b ∧ NdE P k c ∧ NdE P k d
  | .lrng a b => P.mg "range" = none ∧ P.mg "list" = none ∧ NdE P k a ∧ NdE P k b
  | .lset a => P.mg "len" = none ∧ P.mg "set" = none ∧ NdE P k a
  | .lck _ _ c e => NdO P k c ∧ NdE P k e
  | _ => True
def NdEs (P : Pm) (k : Nat) : CEs → Prop
  | .nil => True
  | .cons _ e es => NdE P k e ∧ NdEs P k es
def NdO (P : Pm) (k : Nat) : CEo → Prop
  | .none => True
  | .some e => NdE P k e
def NdSrc (P : Pm) (k : Nat) : Src → Prop
  | .over e => NdE P k e
  | .rng1 a => P.mg "range" = none ∧ NdE P k a
  | .rng2 a b => P.mg "range" = none ∧ NdE P k a ∧ NdE P k b
  | .down a b => P.mg "range" = none ∧ NdE P k a ∧ NdE P k b
  | .keys e => NdE P k e
end

/-! ### where code runs -/
structure Ct (P : Pm) (I : Ci) (k : Nat) (W : WX) (X : Cx) : Prop where
  K : X.K = P.K
  prog : X.prog = P.prog
  w : X.w = P.w
  mg : X.mg = P.mg
  base : X.base = P.base
  sc : X.env.scope = I.sc
  N : X.N = I.N
  nd : I.N.Nodup
  un : X.A.units + 65 < cLine
  fn : ∀ x, (match I.raw with
    | none => True
    | some r => r.names.lookup x = some .cell) → X.fn x = true
  cold : I.hot = false → X.calm = true ∧ Room k X.A ∧ Takes X W ∧ P.xs = noXs
  at_ : I.hot = true → ∀ (e : Expr) (te : TE) (pos : Pos), PE X e te → attributeBase e "at" X.env (eval e X.env) = eval e X.env →
    PE X (.Attribute e "at" pos) (fun σ H Q => te σ H fun x H1 => ∃ a d n, x = .ref a ∧ P.xs a d ∧ H1 d = some (xdN n) ∧ Q (.int n) H1)
end SH
end
section
set_option Elab.async false
set_option linter.all false
set_option autoImplicit false
set_option maxRecDepth 10000
/-! Each core expression that passes the check does what it says. -/
namespace SH
open PySem L2

def SE (c : CE) : Prop := ∀ (P : Pm) (B : Bs) (I : Ci) (k : Nat) (W : WX) (X : Cx) (ω : List Own), Ct P I k W X → NdE P k c →
  (∀ e κ, ck I ω false c e = some κ → PE X e (tE P B ω κ W (evE c))) ∧ (∀ e κ, ck I ω true c e = some κ → PT X e (tT P B ω W fun env => evE c env >>= asB))
/-- several, each of its kind -/
inductive KL (P : Pm) (H₀ G H : Hp) : List Kd → List V → List D → Prop
  | nil : KL P H₀ G H [] [] []
  | cons {κ : Kd} {v : V} {d : D} {κs : List Kd} {vs : List V} {ds : List D} : KdR P κ H₀ G H v d → KL P H₀ G H κs vs ds → KL P H₀ G H (κ :: κs) (v :: vs) (d :: ds)
abbrev OutK (P : Pm) (κs : List Kd) (W : WX) (σ : St) (G H : Hp) (r : Res (List D)) (Q : List V → Hp → Prop) : Prop := Out P (fun G' H' v d => KL P H G' H' κs v d) W σ G H r Q
def tK (P : Pm) (B : Bs) (ω : List Own) (κs : List Kd) (W : WX) (f : Env → Res (List D)) : TA := fun σ H Q => ∃ env G, Rel P B ω env σ G H ∧ OutK P κs W σ G H (f env) Q
def SEs (es : CEs) : Prop := ∀ (P : Pm) (B : Bs) (I : Ci) (k : Nat) (W : WX) (X : Cx) (ω : List Own), Ct P I k W X → NdEs P k es →
  (∀ o l, ckEs I ω o es l = true → PA X l (tA P B ω o W (evEs es))) ∧ (∀ κs l, ckKs I ω es l = some κs → PA X l (tK P B ω κs W (evEs es)) ∧ κs.length = l.length)
def SO (c : CEo) : Prop := ∀ (P : Pm) (B : Bs) (I : Ci) (k : Nat) (W : WX) (X : Cx) (ω : List Own), Ct P I k W X → NdO P k c →
  (∀ e, ckO I ω c e = true → PO X e (fun σ H Q => ∃ env G, Rel P B ω env σ G H ∧ Out P (fun _ _ (v : Option Int) (d : Option Int) => v = d) W σ G H (evO c env >>= intO) Q)) ∧
  (∀ l, ckIf I ω c l = true → PTs X l (tT P B ω W fun env => evO c env >>= fun b => match b with
    | none => .ok true
    | some d => asB d))

section
variable {P : Pm} {B : Bs} {I : Ci} {k : Nat} {W : WX} {X : Cx} {ω : List Own}

theorem asB_ok {d : D} {b : Bool} (h : asB d = .ok b) : d = .bl b := by
  cases d <;> simp only [asB] at h <;> first | (cases h; done) | skip
  cases h; rfl
theorem OutB.val {κ : Kd} {σ : St} {G H : Hp} {r : Res D} {Q : Bool → Hp → Prop} (h : OutB P W σ G H (r >>= asB) Q) : OutE P κ W σ G H r (fun x H' => ∃ k, x = .bl k ∧ Q k H') := by
  cases r with
  | ok d =>
    intro v G' H' x kd
    have h : OutB P W σ G H (asB d) Q := h
    cases ed : asB d with
    | ok b' =>
      rw [ed] at h
      have z := asB_ok ed
      subst z
      exact ⟨b', (kd.rp x.sub).bl, h b' G' H' x rfl⟩
    | exc c n => cases d <;> simp [asB] at ed
    | bad => rw [ed] at h; exact h.elim
  | exc c n => exact h
  | bad => exact h
/-- an expression of a truth value is a test -/
theorem PT.of_val {e : Expr} {κ : Kd} {f : Env → Res D} (ht : plainT e = true) (h : PE X e (tE P B ω κ W f)) : PT X e (tT P B ω W fun env => f env >>= asB) := by
  refine (pt_val h fun whole => plainT_eq ht whole).imp fun σ H Q ⟨env, G, R, o⟩ => ?_
  refine step R o fun d v G₁ H₁ _ R₁ x₁ k₁ o₁ => ?_
  cases e1 : asB d with
  | ok b =>
    rw [e1] at o₁
    have ed := asB_ok e1
    subst ed
    exact ⟨b, (k₁.rp R₁.sub).bl, o₁ b G₁ H₁ x₁ rfl⟩
  | exc c n => cases d <;> simp [asB] at e1
  | bad => rw [e1] at o₁; exact o₁.elim
/-- for terms whose check is the same as a test -/
theorem both {c : CE} (hc : ∀ e κ, ck I ω true c e = some κ → plainT e = true ∧ ck I ω false c e = some κ) (h : ∀ e κ, ck I ω false c e = some κ → PE X e (tE P B ω κ W (evE c))) :
    (∀ e κ, ck I ω false c e = some κ → PE X e (tE P B ω κ W (evE c))) ∧ (∀ e κ, ck I ω true c e = some κ → PT X e (tT P B ω W fun env => evE c env >>= asB)) :=
  ⟨h, fun e κ q => PT.of_val (hc e κ q).1 (h e κ (hc e κ q).2)⟩
/-- an end without a step -/
theorem tE_now {κ : Kd} {f : Env → Res D} {σ : St} {H : Hp} {Q : VK} {v : V} (h : tE P B ω κ W f σ H Q) (k : ∀ env G, Rel P B ω env σ G H → ∀ d, f env = .ok d → KdR P κ H G H v d) (nx : ∀ env, ∃ d, f env = .ok d) : Q v H := by
  obtain ⟨env, G, R, o⟩ := h
  obtain ⟨d, e⟩ := nx env
  exact out_kd R.sub e o (k env G R d e)
theorem Ct.xck (c : Ct P I k W X) {i : Nat} {x : Str} (h : slotB I.ck i x = true) : X.N[i]? = some x ∧ Vis X.env.scope x ∧ (x == ("__debug__" : Str)) = false ∧ (x == ("__classdict__" : Str)) = false := by
  obtain ⟨a, b, d, e⟩ := slotB_ok h
  exact ⟨by rw [c.N]; exact a, by rw [c.sc]; exact b, d, e⟩
theorem Ct.gl (c : Ct P I k W X) {x : Str} (h : gloB I.sc x = true) : Gl X x ∧ (x == ("__debug__" : Str)) = false ∧ x ≠ "__name__" := by
  obtain ⟨a, b, d⟩ := gloB_ok h
  exact ⟨by unfold Gl Env.kindOf; rw [c.sc]; exact a, b, d⟩
theorem some_of_map {α β : Type} {o : Option α} {f : α → β} {b : β} (h : o.map f = some b) : ∃ a, o = some a ∧ f a = b := by
  cases o with
  | none => cases h
  | some a => exact ⟨a, rfl, Option.some.inj h⟩

/-! ### names and constants -/
theorem s_var (i : Nat) : SE (.var i) := fun P B I k W X ω c _ => by
  refine both (fun e κ h => ?_) fun e κ h => ?_
  · refine ⟨?_, h⟩
    rw [ck] at h
    split at h
    · rename_i x p e1
      rw [asName_eq e1]; rfl
    · cases h
  · rw [ck] at h
    split at h
    · rename_i x p e1
      split at h
      · rename_i hs
        cases h
        rw [asName_eq e1]
        obtain ⟨a, b, d, e'⟩ := c.xck hs
        refine (pe_var a b d e').imp fun σ H Q ⟨env, G, R, o⟩ => ?_
        rw [evE] at o
        unfold getV at o
        split at o
        · rename_i d0 e0
          obtain ⟨Fs, h1, h2, h3⟩ := R.slots
          obtain ⟨v, ev, w⟩ := h1 i d0 e0
          exact ⟨v, ev, out_kd R.sub rfl o (KdR.bo_of w)⟩
        · exact o.elim
      · cases h
    · cases h
theorem s_const {c : CE} {d : D} {v : V} (hd : Sc v d) (hv : ∀ env, evE c env = .ok d) (ht : ∀ (I : Ci) ω t e κ, ck I ω t c e = some κ → κ = .sc ∧ plainT e = true ∧ ck I ω false c e = some κ)
    (hp : ∀ (P : Pm) (B : Bs) (I : Ci) (k : Nat) (W : WX) (X : Cx) ω e κ, Ct P I k W X → NdE P k c → ck I ω false c e = some κ → PE X e (tC v)) : SE c := fun P B I k W X ω ct nd => by
  refine both (fun e κ h => (ht I ω true e κ h).2) fun e κ h => ?_
  obtain ⟨rfl, _, _⟩ := ht I ω false e κ h
  refine (hp P B I k W X ω e .sc ct nd h).imp fun σ H Q ⟨env, G, R, o⟩ => ?_
  exact out_sc R.sub (hv env) o hd
theorem s_int (i : Int) : SE (.int i) := by
  refine s_const (.int i) (fun env => by rw [evE]) (fun I ω t e κ h => ?_) fun P B I k W X ω e κ ct nd h => ?_
  · have h' := h
    rw [ck] at h
    split at h
    · rename_i j n p e1
      split at h
      · cases h
        refine ⟨rfl, by rw [asConst_eq e1]; rfl, by rw [ck] at h' ⊢; exact h'⟩
      · cases h
    · cases h
  · rw [ck] at h
    split at h
    · rename_i j n p e1
      split at h
      · rename_i hj
        rw [asConst_eq e1, hj]; exact pe_int
      · cases h
    · cases h
theorem s_str (i : List Char) : SE (.str i) := by
  refine s_const (.str i) (fun env => by rw [evE]) (fun I ω t e κ h => ?_) fun P B I k W X ω e κ ct nd h => ?_
  · have h' := h
    rw [ck] at h
    split at h
    · rename_i j n p e1
      split at h
      · cases h
        refine ⟨rfl, by rw [asConst_eq e1]; rfl, by rw [ck] at h' ⊢; exact h'⟩
      · cases h
    · cases h
  · rw [ck] at h
    split at h
    · rename_i j n p e1
      split at h
      · rename_i hj
        rw [asConst_eq e1, hj]; exact pe_str
      · cases h
    · cases h
theorem s_bl (i : Bool) : SE (.bl i) := by
  refine s_const (.bl i) (fun env => by rw [evE]) (fun I ω t e κ h => ?_) fun P B I k W X ω e κ ct nd h => ?_
  · have h' := h
    rw [ck] at h
    split at h
    · rename_i j n p e1
      split at h
      · cases h
        refine ⟨rfl, by rw [asConst_eq e1]; rfl, by rw [ck] at h' ⊢; exact h'⟩
      · cases h
    · cases h
  · rw [ck] at h
    split at h
    · rename_i j n p e1
      split at h
      · rename_i hj
        rw [asConst_eq e1, hj]; exact pe_bl
      · cases h
    · cases h
theorem s_non : SE .non := by
  refine s_const .non (fun env => by rw [evE]) (fun I ω t e κ h => ?_) fun P B I k W X ω e κ ct nd h => ?_
  · have h' := h
    rw [ck] at h
    split at h
    · rename_i n p e1
      cases h
      refine ⟨rfl, by rw [asConst_eq e1]; rfl, by rw [ck] at h' ⊢; exact h'⟩
    · cases h
  · rw [ck] at h
    split at h
    · rename_i n p e1
      rw [asConst_eq e1]; exact pe_non
    · cases h
theorem s_gi (x : String) (i : Int) : SE (.gi x i) := by
  refine s_const (.int i) (fun env => by rw [evE]) (fun I ω t e κ h => ?_) fun P B I k W X ω e κ ct nd h => ?_
  · have h' := h
    rw [ck] at h
    split at h
    · rename_i y p e1
      split at h
      · cases h
        refine ⟨rfl, by rw [asName_eq e1]; rfl, by rw [ck] at h' ⊢; exact h'⟩
      · cases h
    · cases h
  · rw [ck] at h
    split at h
    · rename_i y p e1
      split at h
      · rename_i hj
        rw [Bool.and_eq_true, beq_iff_eq] at hj
        obtain ⟨hy, hg⟩ := hj
        obtain ⟨g1, g2, _⟩ := ct.gl hg
        rw [NdE] at nd
        obtain ⟨t, ht⟩ := nd
        rw [asName_eq e1]
        exact pe_glob g1 (by rw [ct.mg, hy]; exact ht) ⟨t, rfl⟩ g2
      · cases h
    · cases h
theorem s_gs (x : String) (i : List Char) : SE (.gs x i) := by
  refine s_const (.str i) (fun env => by rw [evE]) (fun I ω t e κ h => ?_) fun P B I k W X ω e κ ct nd h => ?_
  · have h' := h
    rw [ck] at h
    split at h
    · rename_i y p e1
      split at h
      · cases h
        refine ⟨rfl, by rw [asName_eq e1]; rfl, by rw [ck] at h' ⊢; exact h'⟩
      · cases h
    · cases h
  · rw [ck] at h
    split at h
    · rename_i y p e1
      split at h
      · rename_i hj
        rw [Bool.and_eq_true, beq_iff_eq] at hj
        obtain ⟨hy, hg⟩ := hj
        obtain ⟨g1, g2, _⟩ := ct.gl hg
        rw [NdE] at nd
        obtain ⟨t, ht⟩ := nd
        rw [asName_eq e1]
        exact pe_glob g1 (by rw [ct.mg, hy]; exact ht) ⟨t, rfl⟩ g2
      · cases h
    · cases h

/-! ### operators -/
theorem two_step {g : D → D → Res D} {kk : Kd → Kd → Option Kd} {r : R2}
    (hr : ∀ {κ₁ κ₂ κ : Kd} {H₁ H₂ G H : Hp} {v₁ v₂ : V} {d₁ d₂ : D} {W : WX} {σ : St} {Q : VK}, kk κ₁ κ₂ = some κ → Le G H → KdR P κ₁ H₁ G H v₁ d₁ → KdR P κ₂ H₂ G H v₂ d₂ → (∃ d, g d₁ d₂ = .ok d) → OutE P κ W σ G H (g d₁ d₂) Q → r v₁ v₂ H Q)
    (hx : ∀ a b c n, g a b ≠ .exc c n) {κ₁ κ₂ κ : Kd} (hk : kk κ₁ κ₂ = some κ) {fa fb : Env → Res D} {σ : St} {H : Hp} {Q : VK}
    (h : tE P B ω κ W (fun env => fa env >>= fun x => fb env >>= fun y => g x y) σ H Q) : tOp r (tE P B ω κ₁ W fa) (tE P B ω κ₂ W fb) σ H Q := by
  obtain ⟨env, G, R, o⟩ := h
  refine step R o fun d v G₁ H₁ _ R₁ x₁ k₁ o₁ => ?_
  refine step R₁ (OutE.ext x₁ o₁) fun d2 v2 G₂ H₂ _ R₂ x₂ k₂ o₂ => ?_
  have o₃ := OutE.ext x₂ o₂
  cases e : g d d2 with
  | ok z =>
    exact hr (H₁ := H) (H₂ := H₁) hk R₂.sub (k₁.ext R₁.sub x₂) k₂ ⟨z, e⟩ o₃
  | exc c n => exact (hx _ _ _ _ e).elim
  | bad => rw [e] at o₃; exact o₃.elim
theorem s_bin (op : Op2) {a b : CE} (ha : SE a) (hb : SE b) : SE (.bin op a b) := fun P B I k W X ω c nd => by
  rw [NdE] at nd
  refine both (fun e κ h => ?_) fun e κ h => ?_
  · have h' := h
    rw [ck] at h
    split at h
    · rename_i x op' y p e1
      exact ⟨by rw [asBin_eq e1]; rfl, by rw [ck] at h' ⊢; exact h'⟩
    · cases h
  · rw [ck] at h
    split at h
    · rename_i x op' y p e1
      split at h
      · rename_i ho
        split at h
        · rename_i κ₁ κ₂ e2 e3
          rw [asBin_eq e1, ho]
          obtain ⟨r, h1, h2⟩ := two_op (P := P) (X := X) op
          refine (pe_op h1 ((ha P B I k W X ω c nd.1).1 _ _ e2) ((hb P B I k W X ω c nd.2).1 _ _ e3)).imp fun σ H Q q => ?_
          refine two_step (g := opD op) (kk := kOp op) h2 (fun a b c n => opD_ok) h (by
            obtain ⟨env, G, R, o⟩ := q
            rw [evE] at o
            exact ⟨env, G, R, o⟩)
        · cases h
      · cases h
    · cases h
theorem cmpD_ok {o : Cmp} {a b : D} {c : Nat} {n : Int} : blR (cmpD o a b) ≠ .exc c n := by
  have h0 : ∀ (r : Res Bool), (∀ c n, r ≠ .exc c n) → ∀ c n, blR r ≠ .exc c n := fun r h c n e => by
    cases r with
    | ok b => cases e
    | exc c' n' => exact h _ _ rfl
    | bad => cases e
  have hin : ∀ a b c n, inD a b ≠ .exc c n := fun a b c n e => by
    unfold inD at e
    split at e
    · split at e <;> cases e
    · split at e <;> cases e
    · split at e <;> cases e
    · split at e
      · split at e <;> cases e
      · cases e
    · cases e
  have heq : ∀ a b c n, eqD a b ≠ .exc c n := fun a b c n e => by
    unfold eqD at e
    split at e <;> cases e
  have hlt : ∀ a b c n, ltD a b ≠ .exc c n := fun a b c n e => by
    unfold ltD at e
    split at e
    · cases e
    · cases e
    · split at e <;> cases e
    · cases e
  have hnot : ∀ (r : Res Bool), (∀ c n, r ≠ .exc c n) → ∀ c n, notR r ≠ .exc c n := fun r h c n e => by
    cases r with
    | ok b => cases e
    | exc c' n' => exact h _ _ rfl
    | bad => cases e
  refine h0 _ (fun c n e => ?_) c n
  cases o with
  | lt => exact hlt _ _ _ _ (by simpa only [cmpD] using e)
  | eq => exact heq _ _ _ _ (by simpa only [cmpD] using e)
  | ne => exact hnot _ (heq _ _) _ _ (by simpa only [cmpD] using e)
  | inn => exact hin _ _ _ _ (by simpa only [cmpD] using e)
  | nin => exact hnot _ (hin _ _) _ _ (by simpa only [cmpD] using e)
  | _ => cases a <;> cases b <;> simp only [cmpD] at e <;> cases e
theorem s_cmp (op : Cmp) {a b : CE} (ha : SE a) (hb : SE b) : SE (.cmp op a b) := fun P B I k W X ω c nd => by
  rw [NdE] at nd
  have key : ∀ t e κ, ck I ω t (.cmp op a b) e = some κ → ∃ x y p κ₁ κ₂, e = .Compare x [cmpOf op] [y] p ∧ notSet y = true ∧ ck I ω false a x = some κ₁ ∧ ck I ω false b y = some κ₂ ∧ κ = .sc := fun t e κ h => by
    rw [ck] at h
    split at h
    · rename_i x op' y p e1
      split at h
      · rename_i ho
        split at h
        · rename_i κ₁ κ₂ e2 e3
          cases h
          exact ⟨x, y, p, κ₁, κ₂, by rw [asCmp_eq e1, ho.1], ho.2, e2, e3, rfl⟩
        · cases h
      · cases h
    · cases h
  obtain ⟨r, h1, h2⟩ := two_cmp (P := P) c.K c.un op
  refine ⟨fun e κ h => ?_, fun e κ h => ?_⟩
  · obtain ⟨x, y, p, κ₁, κ₂, rfl, hs, e2, e3, rfl⟩ := key _ _ _ h
    refine (pe_cmpR h1 ((ha P B I k W X ω c nd.1).1 _ _ e2) ((hb P B I k W X ω c nd.2).1 _ _ e3) (notSet_eq hs)).imp fun σ H Q q => ?_
    refine two_step (g := fun a b => blR (cmpD op a b)) (kk := kSc) h2 (fun a b c n => cmpD_ok) rfl (by
      obtain ⟨env, G, R, o⟩ := q
      rw [evE] at o
      exact ⟨env, G, R, o⟩)
  · obtain ⟨x, y, p, κ₁, κ₂, rfl, hs, e2, e3, rfl⟩ := key _ _ _ h
    refine (pt_cmpR h1 ((ha P B I k W X ω c nd.1).1 _ _ e2) ((hb P B I k W X ω c nd.2).1 _ _ e3) (notSet_eq hs)).imp fun σ H Q q => ?_
    refine two_step (g := fun a b => blR (cmpD op a b)) (kk := kSc) h2 (fun a b c n => cmpD_ok) rfl ?_
    obtain ⟨env, G, R, o⟩ := q
    have o : OutB P W σ G H (evE (.cmp op a b) env >>= asB) Q := o
    rw [evE] at o
    exact ⟨env, G, R, OutB.val o⟩
end
end SH
end
section
set_option Elab.async false
set_option linter.all false
set_option autoImplicit false
set_option maxRecDepth 10000
/-! .. the forms that hold others. -/
namespace SH
open PySem L2

section
variable {P : Pm} {B : Bs} {I : Ci} {k : Nat} {W : WX} {X : Cx} {ω : List Own}
theorem OutE.co {κ : Kd} {o : Own} {σ : St} {G H : Hp} {r : Res D} {Q : VK} (ok : kOK κ o = true) (s : Le G H) (h : OutE P (ofOwn o) W σ G H r Q) : OutE P κ W σ G H r Q := by
  cases r with
  | ok d =>
    intro v G' H' x kd
    obtain ⟨G'', F, x', n, w⟩ := kd.keep ok x
    refine h v G'' H' x' ?_
    cases o with
    | sc => exact w.scO
    | sh => exact w.shr
    | nd o => exact ⟨F, n, w⟩
  | exc c n => exact h
  | bad => exact h
theorem s_chain (op op' : Cmp) {a b c : CE} (ha : SE a) (hb : SE b) (hc : SE c) : SE (.chain op op' a b c) := fun P B I k W X ω ct nd => by
  rw [NdE] at nd
  have key : ∀ t e κ, ck I ω t (.chain op op' a b c) e = some κ → ∃ x y z p κ₁ κ₂ κ₃, e = .Compare x [cmpOf op, cmpOf op'] [y, z] p ∧ notSet z = true ∧ ck I ω false a x = some κ₁ ∧ ck I ω false b y = some κ₂ ∧ ck I ω false c z = some κ₃ ∧ κ = .sc := fun t e κ h => by
    rw [ck] at h
    split at h
    · rename_i x o1 o2 y z p e1
      split at h
      · rename_i ho
        split at h
        · rename_i κ₁ κ₂ κ₃ e2 e3 e4
          cases h
          exact ⟨x, y, z, p, κ₁, κ₂, κ₃, by rw [asCmp2_eq e1, ho.1, ho.2.1], ho.2.2, e2, e3, e4, rfl⟩
        · cases h
      · cases h
    · cases h
  obtain ⟨r, h1, h2⟩ := two_cmp (P := P) ct.K ct.un op
  obtain ⟨r', h1', h2'⟩ := two_cmp (P := P) ct.K ct.un op'
  have run : ∀ {κ₁ κ₂ κ₃ : Kd} {σ : St} {H : Hp} {Q : VK}, tE P B ω .sc W (evE (.chain op op' a b c)) σ H Q → tChain r r' (tE P B ω κ₁ W (evE a)) (tE P B ω κ₂ W (evE b)) (tE P B ω κ₃ W (evE c)) σ H Q := by
    intro κ₁ κ₂ κ₃ σ H Q ⟨env, G, R, o⟩
    rw [evE] at o
    refine step R o fun d v G₁ H₁ _ R₁ x₁ k₁ o₁ => ?_
    refine step R₁ (OutE.ext x₁ o₁) fun d2 v2 G₂ H₂ _ R₂ x₂ k₂ o₂ => ?_
    have o₃ := OutE.ext x₂ o₂
    cases e : cmpD op d d2 with
    | ok bb =>
      rw [e] at o₃
      refine h2 (κ := .sc) (σ := σ) (W := W) rfl R₂.sub (k₁.ext R₁.sub x₂) k₂ ⟨.bl bb, by show blR (cmpD op d d2) = _; rw [e]; rfl⟩ ?_
      show OutE P .sc W σ G₂ H₂ (blR (cmpD op d d2)) _
      rw [e]
      intro u G' H' x' ku
      refine ⟨bb, (ku.rp x'.sub).bl, ?_⟩
      have R₃ := R₂.ext x'
      have o₄ := OutE.ext x' o₃
      cases bb with
      | false =>
        rw [if_neg (by decide)]
        exact out_sc R₃.sub rfl o₄ (.bl false)
      | true =>
        rw [if_pos rfl]
        refine step R₃ o₄ fun d3 v3 G₃ H₃ _ R₄ x₄ k₃ o₅ => ?_
        have o₆ := OutE.ext x₄ o₅
        cases e' : blR (cmpD op' d2 d3) with
        | ok z => exact h2' (κ := .sc) rfl R₄.sub ((k₂.ext R₂.sub x').ext R₃.sub x₄) k₃ ⟨z, e'⟩ o₆
        | exc cc n => exact (cmpD_ok e').elim
        | bad => rw [e'] at o₆; exact o₆.elim
    | exc cc n => exact (cmpD_ok (o := op) (a := d) (b := d2) (c := cc) (n := n) (by rw [e]; rfl)).elim
    | bad => rw [e] at o₃; exact o₃.elim
  have mk : ∀ {z : Expr} {op : Cmp}, notSet z = true → ∀ {y : Expr} {op₀ : CmpOp}, lastMarks [op₀, cmpOf op] [y, z] = false := fun {z op} hz {y op₀} => notSet_eq hz
  refine ⟨fun e κ h => ?_, fun e κ h => ?_⟩
  · obtain ⟨x, y, z, p, κ₁, κ₂, κ₃, rfl, hs, e2, e3, e4, rfl⟩ := key _ _ _ h
    exact (pe_chain h1 h1' ((ha P B I k W X ω ct nd.1).1 _ _ e2) ((hb P B I k W X ω ct nd.2.1).1 _ _ e3) ((hc P B I k W X ω ct nd.2.2).1 _ _ e4) (mk hs)).imp fun σ H Q q => run q
  · obtain ⟨x, y, z, p, κ₁, κ₂, κ₃, rfl, hs, e2, e3, e4, rfl⟩ := key _ _ _ h
    refine (pt_chain h1 h1' ((ha P B I k W X ω ct nd.1).1 _ _ e2) ((hb P B I k W X ω ct nd.2.1).1 _ _ e3) ((hc P B I k W X ω ct nd.2.2).1 _ _ e4) (mk hs)).imp fun σ H Q q => ?_
    obtain ⟨env, G, R, o⟩ := q
    exact run ⟨env, G, R, OutB.val o⟩
/-- a op1 b op2 c op3 d -/
def tChain3 (r r' r2 : R2) (ta tb tc td : TE) : TE := fun σ H Q => ta σ H fun x H1 => tb σ H1 fun y H2 => r x y H2 fun z H3 => ∃ k, z = .bl k ∧
  (if k = true then tc σ H3 fun w H4 => r' y w H4 fun z' H5 => ∃ k', z' = .bl k' ∧ (if k' = true then td σ H5 fun u H6 => r2 w u H6 Q else Q (.bl false) H5) else Q (.bl false) H3)
open PyProof.Rows in
theorem pe_chain3 {X : Cx} {a b c d : Expr} {ta tb tc td : TE} {pos : Pos} {op op' op2 : CmpOp} {r r' r2 : R2} (ho : OpR X (compareOp op) r) (ho' : OpR X (compareOp op') r') (ho2 : OpR X (compareOp op2) r2) (ha : PE X a ta) (hb : PE X b tb) (hc : PE X c tc) (hd : PE X d td)
    (hm : lastMarks [op, op', op2] [b, c, d] = false) : PE X (.Compare a [op, op', op2] [b, c, d] pos) (tChain3 r r' r2 ta tb tc td) := by
  refine ⟨fun pins s σ H Q I h => ?_⟩
  refine Compare_chain (thn (ha.run pins s σ H _ I h) fun v s1 ⟨x, H1, I1, r1, q1⟩ => chain_link (thn (hb.run pins s1 σ H1 _ I1 q1) fun u s2 ⟨y, H2, I2, r2, q2⟩ =>
    thn (ho pins s2 σ H2 x y v u _ I2 r1 r2 q2) fun d s3 ⟨z, H3, I3, r3, k, e, q3⟩ => ?_)) hm
  subst e
  cases r3
  refine wpAny_truthy_bool ?_
  cases k with
  | false => exact ite_ff ⟨.bl false, H3, I3, rfl, q3⟩
  | true =>
    refine ite_tt (chain_link (thn (hc.run pins s3 σ H3 _ I3 q3) fun w' s4 ⟨z', H4, I4, r4, q4⟩ => thn (ho' pins s4 σ H4 y z' u w' _ I4 r2 r4 q4) fun d' s5 ⟨z2, H5, I5, r5, k2, e2, q5⟩ => ?_))
    subst e2
    cases r5
    refine wpAny_truthy_bool ?_
    cases k2 with
    | false => exact ite_ff ⟨.bl false, H5, I5, rfl, q5⟩
    | true => exact ite_tt (chain_last (thn (hd.run pins s5 σ H5 _ I5 q5) fun u' s6 ⟨z3, H6, I6, r6, q6⟩ => ho2 pins s6 σ H6 z' z3 w' u' Q I6 r4 r6 q6))
open PyProof.Rows in
theorem pt_chain3 {X : Cx} {a b c d : Expr} {ta tb tc td : TE} {pos : Pos} {op op' op2 : CmpOp} {r r' r2 : R2} (ho : OpR X (compareOp op) r) (ho' : OpR X (compareOp op') r') (ho2 : OpR X (compareOp op2) r2) (ha : PE X a ta) (hb : PE X b tb) (hc : PE X c tc) (hd : PE X d td)
    (hm : lastMarks [op, op', op2] [b, c, d] = false) : PT X (.Compare a [op, op', op2] [b, c, d] pos) (tTest (tChain3 r r' r2 ta tb tc td)) := by
  refine ⟨fun pins s σ H Q I h => ?_⟩
  refine isTrue_chain (thn (ha.run pins s σ H _ I h) fun v s1 ⟨x, H1, I1, r1, q1⟩ => test_link (thn (hb.run pins s1 σ H1 _ I1 q1) fun u s2 ⟨y, H2, I2, r2, q2⟩ =>
    thn (ho pins s2 σ H2 x y v u _ I2 r1 r2 q2) fun d s3 ⟨z, H3, I3, r3, k, e, q3⟩ => ?_)) hm
  subst e
  cases r3
  refine wpAny_truthy_bool ?_
  cases k with
  | false =>
    obtain ⟨k', e', q'⟩ := q3
    cases e'
    exact ite_ff ⟨H3, I3, q'⟩
  | true =>
    refine ite_tt (test_link (thn (hc.run pins s3 σ H3 _ I3 q3) fun w' s4 ⟨z', H4, I4, r4, q4⟩ => thn (ho' pins s4 σ H4 y z' u w' _ I4 r2 r4 q4) fun d' s5 ⟨z2, H5, I5, r5, k2, e2, q5⟩ => ?_))
    subst e2
    cases r5
    refine wpAny_truthy_bool ?_
    cases k2 with
    | false =>
      obtain ⟨k', e', q'⟩ := q5
      cases e'
      exact ite_ff ⟨H5, I5, q'⟩
    | true =>
      refine ite_tt (test_last (thn (hd.run pins s5 σ H5 _ I5 q5) fun u' s6 ⟨z3, H6, I6, r6, q6⟩ => thn (ho2 pins s6 σ H6 z' z3 w' u' _ I6 r4 r6 q6) fun d3 s7 ⟨z4, H7, I7, r7, k3, e3, q7⟩ => ?_))
      subst e3
      cases r7
      exact wpAny_truthy_bool ⟨H7, I7, q7⟩
theorem s_chn (op op' op2 : Cmp) {a b c d : CE} (ha : SE a) (hb : SE b) (hc : SE c) (hd : SE d) : SE (.chn op op' op2 a b c d) := fun P B I k W X ω ct nd => by
  rw [NdE] at nd
  have key : ∀ t e κ, ck I ω t (.chn op op' op2 a b c d) e = some κ → ∃ x y z u p κ₁ κ₂ κ₃ κ₄, e = .Compare x [cmpOf op, cmpOf op', cmpOf op2] [y, z, u] p ∧ notSet u = true ∧ ck I ω false a x = some κ₁ ∧ ck I ω false b y = some κ₂ ∧ ck I ω false c z = some κ₃ ∧ ck I ω false d u = some κ₄ ∧ κ = .sc := fun t e κ h => by
    rw [ck] at h
    split at h
    · rename_i x o1 o2 o3 y z u p e1
      split at h
      · rename_i ho
        split at h
        · rename_i κ₁ κ₂ κ₃ κ₄ e2 e3 e4 e5
          cases h
          exact ⟨x, y, z, u, p, κ₁, κ₂, κ₃, κ₄, by rw [asCmp3_eq e1, ho.1, ho.2.1, ho.2.2.1], ho.2.2.2, e2, e3, e4, e5, rfl⟩
        · cases h
      · cases h
    · cases h
  obtain ⟨r, h1, h2⟩ := two_cmp (P := P) ct.K ct.un op
  obtain ⟨r', h1', h2'⟩ := two_cmp (P := P) ct.K ct.un op'
  obtain ⟨r2, h1'', h2''⟩ := two_cmp (P := P) ct.K ct.un op2
  have run : ∀ {κ₁ κ₂ κ₃ κ₄ : Kd} {σ : St} {H : Hp} {Q : VK}, tE P B ω .sc W (evE (.chn op op' op2 a b c d)) σ H Q → tChain3 r r' r2 (tE P B ω κ₁ W (evE a)) (tE P B ω κ₂ W (evE b)) (tE P B ω κ₃ W (evE c)) (tE P B ω κ₄ W (evE d)) σ H Q := by
    intro κ₁ κ₂ κ₃ κ₄ σ H Q ⟨env, G, R, o⟩
    rw [evE] at o
    refine step R o fun d1 v G₁ H₁ _ R₁ x₁ k₁ o₁ => ?_
    refine step R₁ (OutE.ext x₁ o₁) fun d2 v2 G₂ H₂ _ R₂ x₂ k₂ o₂ => ?_
    have o₃ := OutE.ext x₂ o₂
    cases e : cmpD op d1 d2 with
    | ok bb =>
      rw [e] at o₃
      refine h2 (κ := .sc) (σ := σ) (W := W) rfl R₂.sub (k₁.ext R₁.sub x₂) k₂ ⟨.bl bb, by show blR (cmpD op d1 d2) = _; rw [e]; rfl⟩ ?_
      show OutE P .sc W σ G₂ H₂ (blR (cmpD op d1 d2)) _
      rw [e]
      intro u G' H' x' ku
      refine ⟨bb, (ku.rp x'.sub).bl, ?_⟩
      have R₃ := R₂.ext x'
      have o₄ := OutE.ext x' o₃
      cases bb with
      | false =>
        rw [if_neg (by decide)]
        exact out_sc R₃.sub rfl o₄ (.bl false)
      | true =>
        rw [if_pos rfl]
        refine step R₃ o₄ fun d3 v3 G₃ H₃ _ R₄ x₄ k₃ o₅ => ?_
        have o₆ := OutE.ext x₄ o₅
        cases e' : cmpD op' d2 d3 with
        | ok b2 =>
          rw [e'] at o₆
          refine h2' (κ := .sc) (σ := σ) (W := W) rfl R₄.sub ((k₂.ext R₂.sub x').ext R₃.sub x₄) k₃ ⟨.bl b2, by show blR (cmpD op' d2 d3) = _; rw [e']; rfl⟩ ?_
          show OutE P .sc W σ G₃ H₃ (blR (cmpD op' d2 d3)) _
          rw [e']
          intro u' G'' H'' x'' ku'
          refine ⟨b2, (ku'.rp x''.sub).bl, ?_⟩
          have R₅ := R₄.ext x''
          have o₇ := OutE.ext x'' o₆
          cases b2 with
          | false =>
            rw [if_neg (by decide)]
            exact out_sc R₅.sub rfl o₇ (.bl false)
          | true =>
            rw [if_pos rfl]
            refine step R₅ o₇ fun d4 v4 G₄ H₄ _ R₆ x₆ k₄ o₈ => ?_
            have o₉ := OutE.ext x₆ o₈
            cases e2 : blR (cmpD op2 d3 d4) with
            | ok z => exact h2'' (κ := .sc) rfl R₆.sub ((k₃.ext R₄.sub x'').ext R₅.sub x₆) k₄ ⟨z, e2⟩ o₉
            | exc cc n => exact (cmpD_ok e2).elim
            | bad => rw [e2] at o₉; exact o₉.elim
        | exc cc n => exact (cmpD_ok (o := op') (a := d2) (b := d3) (c := cc) (n := n) (by rw [e']; rfl)).elim
        | bad => rw [e'] at o₆; exact o₆.elim
    | exc cc n => exact (cmpD_ok (o := op) (a := d1) (b := d2) (c := cc) (n := n) (by rw [e]; rfl)).elim
    | bad => rw [e] at o₃; exact o₃.elim
  have mk : ∀ {u : Expr} {op : Cmp}, notSet u = true → ∀ {y z : Expr} {op₀ op₁ : CmpOp}, lastMarks [op₀, op₁, cmpOf op] [y, z, u] = false := fun {u op} hz {y z op₀ op₁} => notSet_eq hz
  refine ⟨fun e κ h => ?_, fun e κ h => ?_⟩
  · obtain ⟨x, y, z, u, p, κ₁, κ₂, κ₃, κ₄, rfl, hs, e2, e3, e4, e5, rfl⟩ := key _ _ _ h
    exact (pe_chain3 h1 h1' h1'' ((ha P B I k W X ω ct nd.1).1 _ _ e2) ((hb P B I k W X ω ct nd.2.1).1 _ _ e3) ((hc P B I k W X ω ct nd.2.2.1).1 _ _ e4) ((hd P B I k W X ω ct nd.2.2.2).1 _ _ e5) (mk hs)).imp fun σ H Q q => run q
  · obtain ⟨x, y, z, u, p, κ₁, κ₂, κ₃, κ₄, rfl, hs, e2, e3, e4, e5, rfl⟩ := key _ _ _ h
    refine (pt_chain3 h1 h1' h1'' ((ha P B I k W X ω ct nd.1).1 _ _ e2) ((hb P B I k W X ω ct nd.2.1).1 _ _ e3) ((hc P B I k W X ω ct nd.2.2.1).1 _ _ e4) ((hd P B I k W X ω ct nd.2.2.2).1 _ _ e5) (mk hs)).imp fun σ H Q q => ?_
    obtain ⟨env, G, R, o⟩ := q
    exact run ⟨env, G, R, OutB.val o⟩
theorem s_neg {a : CE} (ha : SE a) : SE (.neg a) := fun P B I k W X ω c nd => by
  rw [NdE] at nd
  refine both (fun e κ h => ?_) fun e κ h => ?_
  · have h' := h
    rw [ck] at h
    split at h
    · rename_i x p e1
      exact ⟨by rw [asUn_eq e1]; rfl, by rw [ck] at h' ⊢; exact h'⟩
    · cases h
  · rw [ck] at h
    split at h
    · rename_i x p e1
      obtain ⟨κ', e2, rfl⟩ := some_of_map h
      rw [asUn_eq e1]
      refine (pe_un un_neg ((ha P B I k W X ω c nd).1 _ _ e2)).imp fun σ H Q ⟨env, G, R, o⟩ => ?_
      rw [evE] at o
      refine step R o fun d v G₁ H₁ _ R₁ x₁ k₁ o₁ => ?_
      cases d with
      | int i => exact ⟨i, (k₁.rp R₁.sub).int, out_sc R₁.sub rfl (OutE.ext x₁ o₁) (.int _)⟩
      | _ => exact o₁.elim
    · cases h
theorem s_not {a : CE} (ha : SE a) : SE (.not a) := fun P B I k W X ω c nd => by
  rw [NdE] at nd
  refine ⟨fun e κ h => ?_, fun e κ h => ?_⟩
  · rw [ck] at h
    split at h
    · rename_i x p e1
      obtain ⟨κ', e2, rfl⟩ := some_of_map h
      rw [asUn_eq e1]
      refine (pe_not ((ha P B I k W X ω c nd).1 _ _ e2)).imp fun σ H Q ⟨env, G, R, o⟩ => ?_
      rw [evE] at o
      refine step R o fun d v G₁ H₁ _ R₁ x₁ k₁ o₁ => ?_
      cases d with
      | bl b => exact ⟨b, (k₁.rp R₁.sub).bl, out_sc R₁.sub rfl (OutE.ext x₁ o₁) (.bl _)⟩
      | _ => exact o₁.elim
    · cases h
  · rw [ck] at h
    split at h
    · rename_i x p e1
      obtain ⟨κ', e2, rfl⟩ := some_of_map h
      rw [asUn_eq e1]
      refine (pt_not ((ha P B I k W X ω c nd).2 _ _ e2)).imp fun σ H Q ⟨env, G, R, o⟩ => ?_
      have o : OutB P W σ G H (evE (.not a) env >>= asB) Q := o
      rw [evE] at o
      have o' : OutB P W σ G H ((evE a env >>= asB) >>= fun b => (Res.ok (!b) : Res Bool)) Q := by
        have e3 : ((evE a env >>= asB) >>= fun b => (Res.ok (!b) : Res Bool)) = ((evE a env >>= fun d => asB d >>= fun b => Res.ok (D.bl !b)) >>= asB) := by
          cases evE a env with
          | ok d => cases d <;> rfl
          | exc _ _ => rfl
          | bad => rfl
        rw [e3]; exact o
      refine stepB (f := fun env => evE a env >>= asB) R o' fun d G₁ H₁ _ R₁ x₁ o₁ => ?_
      exact o₁ _ _ _ x₁ rfl
    · cases h
theorem rest_pe {o : BoolOp} {y : Expr} {r : List Expr} {p : Pos} {t : TE} (h : PE X (rest1 o y r p) t) : PE X (.BoolOp o (y :: r) p) t := by
  cases r with
  | nil => exact pe_one h
  | cons z r => exact h
theorem rest_and {y : Expr} {r : List Expr} {p : Pos} {t : TT} (h : PT X (rest1 .And y r p) t) : PW X (.BoolOp .And (y :: r) p) t := by
  cases r with
  | nil => exact pw_and1 h
  | cons z r => exact ⟨fun _ => h.run⟩
theorem rest_or {y : Expr} {r : List Expr} {p : Pos} {t : TT} (h : PT X (rest1 .Or y r p) t) : PW X (.BoolOp .Or (y :: r) p) t := by
  cases r with
  | nil => exact pw_or1 h
  | cons z r => exact ⟨fun _ => h.run⟩
theorem s_and {a b : CE} (ha : SE a) (hb : SE b) : SE (.and a b) := fun P B I k W X ω c nd => by
  rw [NdE] at nd
  refine ⟨fun e κ h => ?_, fun e κ h => ?_⟩
  · rw [ck] at h
    split at h
    · rename_i x y r p e1
      split at h
      · rename_i κ₁ κ₂ e2 e3
        split at h
        · rename_i hk
          cases h
          have hk : κ₂ = .sc := by simpa using hk
          subst hk
          rw [asBool_eq e1]
          refine (pe_and ((ha P B I k W X ω c nd.1).1 _ _ e2) (rest_pe ((hb P B I k W X ω c nd.2).1 _ _ e3))).imp fun σ H Q ⟨env, G, R, o⟩ => ?_
          rw [evE] at o
          refine step R o fun d v G₁ H₁ _ R₁ x₁ k₁ o₁ => ?_
          cases d with
          | bl bb =>
            refine ⟨bb, (k₁.rp R₁.sub).bl, ?_⟩
            cases bb with
            | true => exact ⟨env, G₁, R₁, OutE.ext x₁ o₁⟩
            | false => exact out_sc R₁.sub rfl (OutE.ext x₁ o₁) (.bl false)
          | _ => exact o₁.elim
        · cases h
      · cases h
    · cases h
  · rw [ck] at h
    split at h
    · rename_i x y r p e1
      split at h
      · rename_i κ₁ κ₂ e2 e3
        rw [asBool_eq e1]
        refine (PW.pt (pw_and ((ha P B I k W X ω c nd.1).2 _ _ e2) (rest_and ((hb P B I k W X ω c nd.2).2 _ _ e3)))).imp fun σ H Q ⟨env, G, R, o⟩ => ?_
        have o : OutB P W σ G H (evE (.and a b) env >>= asB) Q := o
        rw [evE] at o
        have o' : OutB P W σ G H ((evE a env >>= asB) >>= fun bb => if bb then evE b env >>= asB else (Res.ok false : Res Bool)) Q := by
          have e3 : ((evE a env >>= asB) >>= fun bb => if bb then evE b env >>= asB else (Res.ok false : Res Bool)) = ((evE a env >>= fun d => asB d >>= fun k => if k then evE b env else Res.ok (D.bl false)) >>= asB) := by
            cases evE a env with
            | ok d =>
              cases d with
              | bl bb => cases bb <;> rfl
              | _ => rfl
            | exc _ _ => rfl
            | bad => rfl
          rw [e3]; exact o
        refine stepB (f := fun env => evE a env >>= asB) R o' fun d G₁ H₁ _ R₁ x₁ o₁ => ?_
        · cases d with
          | true => exact ⟨env, G₁, R₁, OutB.ext x₁ o₁⟩
          | false => exact o₁ _ _ _ x₁ rfl
      · cases h
    · cases h
theorem s_or {a b : CE} (ha : SE a) (hb : SE b) : SE (.or a b) := fun P B I k W X ω c nd => by
  rw [NdE] at nd
  refine ⟨fun e κ h => ?_, fun e κ h => ?_⟩
  · rw [ck] at h
    split at h
    · rename_i x y r p e1
      split at h
      · rename_i κ₁ κ₂ e2 e3
        split at h
        · rename_i hk
          cases h
          have hk : κ₂ = .sc := by simpa using hk
          subst hk
          rw [asBool_eq e1]
          refine (pe_or ((ha P B I k W X ω c nd.1).1 _ _ e2) (rest_pe ((hb P B I k W X ω c nd.2).1 _ _ e3))).imp fun σ H Q ⟨env, G, R, o⟩ => ?_
          rw [evE] at o
          refine step R o fun d v G₁ H₁ _ R₁ x₁ k₁ o₁ => ?_
          cases d with
          | bl bb =>
            refine ⟨bb, (k₁.rp R₁.sub).bl, ?_⟩
            cases bb with
            | false => exact ⟨env, G₁, R₁, OutE.ext x₁ o₁⟩
            | true => exact out_sc R₁.sub rfl (OutE.ext x₁ o₁) (.bl true)
          | _ => exact o₁.elim
        · cases h
      · cases h
    · cases h
  · rw [ck] at h
    split at h
    · rename_i x y r p e1
      split at h
      · rename_i κ₁ κ₂ e2 e3
        rw [asBool_eq e1]
        refine (PW.pt (pw_or ((ha P B I k W X ω c nd.1).2 _ _ e2) (rest_or ((hb P B I k W X ω c nd.2).2 _ _ e3)))).imp fun σ H Q ⟨env, G, R, o⟩ => ?_
        have o : OutB P W σ G H (evE (.or a b) env >>= asB) Q := o
        rw [evE] at o
        have o' : OutB P W σ G H ((evE a env >>= asB) >>= fun bb => if bb then (Res.ok true : Res Bool) else evE b env >>= asB) Q := by
          have e3 : ((evE a env >>= asB) >>= fun bb => if bb then (Res.ok true : Res Bool) else evE b env >>= asB) = ((evE a env >>= fun d => asB d >>= fun k => if k then Res.ok (D.bl true) else evE b env) >>= asB) := by
            cases evE a env with
            | ok d =>
              cases d with
              | bl bb => cases bb <;> rfl
              | _ => rfl
            | exc _ _ => rfl
            | bad => rfl
          rw [e3]; exact o
        refine stepB (f := fun env => evE a env >>= asB) R o' fun d G₁ H₁ _ R₁ x₁ o₁ => ?_
        · cases d with
          | false => exact ⟨env, G₁, R₁, OutB.ext x₁ o₁⟩
          | true => exact o₁ _ _ _ x₁ rfl
      · cases h
    · cases h
theorem s_ite {a b d : CE} (hc : SE d) (ha : SE a) (hb : SE b) : SE (.ite d a b) := fun P B I k W X ω c nd => by
  rw [NdE] at nd
  refine ⟨fun e κ h => ?_, fun e κ h => ?_⟩
  · rw [ck, if_neg (by decide)] at h
    split at h
    · rename_i x y z p e1
      split at h
      · rename_i κ₁ κ₂ κ₃ e2 e3 e4
        split at h
        · rename_i hk
          rw [Bool.and_eq_true] at hk
          cases h
          rw [asIf_eq e1]
          refine (pe_ifExp ((hc P B I k W X ω c nd.1).2 _ _ e2) ((ha P B I k W X ω c nd.2.1).1 _ _ e3) ((hb P B I k W X ω c nd.2.2).1 _ _ e4)).imp fun σ H Q ⟨env, G, R, o⟩ => ?_
          rw [evE] at o
          have o' : OutE P (ofOwn (lub (ownOf κ₂) (ownOf κ₃))) W σ G H ((evE d env >>= asB) >>= fun bb => if bb then evE a env else evE b env) Q := by
            rw [Res.bind_assoc]; exact o
          refine stepB (f := fun env => evE d env >>= asB) R o' fun bb G₁ H₁ _ R₁ x₁ o₁ => ?_
          · cases bb with
            | true => exact ⟨env, G₁, R₁, OutE.co hk.1 R₁.sub (OutE.ext x₁ o₁)⟩
            | false => exact ⟨env, G₁, R₁, OutE.co hk.2 R₁.sub (OutE.ext x₁ o₁)⟩
        · cases h
      · cases h
    · cases h
  · rw [ck, if_pos rfl] at h
    cases h
theorem ixD_ok {a b : D} {c : Nat} {n : Int} : ixD a b ≠ .exc c n := by
  intro e
  unfold ixD at e
  split at e
  · split at e
    · split at e <;> cases e
    · cases e
  · split at e
    · split at e <;> cases e
    · cases e
  · split at e
    · split at e <;> cases e
    · cases e
  · split at e
    · split at e
      · split at e <;> cases e
      · cases e
    · cases e
  · split at e
    · split at e <;> cases e
    · cases e
  · split at e
    · split at e <;> cases e
    · cases e
  · cases e
theorem s_ix {a b : CE} (ha : SE a) (hb : SE b) : SE (.ix a b) := fun P B I k W X ω c nd => by
  rw [NdE] at nd
  refine both (fun e κ h => ?_) fun e κ h => ?_
  · have h' := h
    rw [ck] at h
    split at h
    · rename_i x y p e1
      exact ⟨by rw [asIx_eq e1]; rfl, by rw [ck] at h' ⊢; exact h'⟩
    · cases h
  · rw [ck] at h
    split at h
    · rename_i x y p e1
      split at h
      · rename_i hs
        split at h
        · rename_i κ₁ κ₂ e2 e3
          cases h
          rw [asIx_eq e1]
          obtain ⟨r, h1, h2⟩ := ix_two (P := P) c.K (by have := c.un; omega)
          refine (pe_ix h1 ((ha P B I k W X ω c nd.1).1 _ _ e2) ((hb P B I k W X ω c nd.2).1 _ _ e3) (plainIx hs)).imp fun σ H Q ⟨env, G, R, o⟩ => ?_
          rw [evE] at o
          refine step R o fun d v G₁ H₁ _ R₁ x₁ k₁ o₁ => ?_
          refine step R₁ (OutE.ext x₁ o₁) fun d2 v2 G₂ H₂ _ R₂ x₂ k₂ o₂ => ?_
          have o₃ := OutE.ext x₂ o₂
          cases e : ixD d d2 with
          | ok z => exact h2 R₂.sub (k₁.ext R₁.sub x₂) k₂ ⟨z, e⟩ o₃
          | exc cc n => exact (ixD_ok e).elim
          | bad => rw [e] at o₃; exact o₃.elim
        · cases h
      · cases h
    · cases h
theorem s_sl {a : CE} {lo hi : CEo} (ha : SE a) (hl : SO lo) (hh : SO hi) : SE (.sl a lo hi) := fun P B I k W X ω c nd => by
  rw [NdE] at nd
  refine both (fun e κ h => ?_) fun e κ h => ?_
  · have h' := h
    rw [ck] at h
    split at h
    · rename_i x y p e1
      exact ⟨by rw [asIx_eq e1]; rfl, by rw [ck] at h' ⊢; exact h'⟩
    · cases h
  · rw [ck] at h
    split at h
    · rename_i x y p e1
      split at h
      · rename_i l u q e0
        split at h
        · rename_i hs
          rw [Bool.and_eq_true] at hs
          split at h
          · rename_i κ₁ e2
            rw [asIx_eq e1, asSl_eq e0]
            obtain ⟨r, h1, h2⟩ := sl_two (P := P) (X := X)
            refine (pe_slice h1 ((ha P B I k W X ω c nd.1).1 _ _ e2) ((hl P B I k W X ω c nd.2.1).1 _ hs.1) ((hh P B I k W X ω c nd.2.2).1 _ hs.2)).imp fun σ H Q ⟨env, G, R, o⟩ => ?_
            rw [evE] at o
            refine step R o fun d v G₁ H₁ _ R₁ x₁ k₁ o₁ => ?_
            refine ⟨env, G₁, R₁, ?_⟩
            have o₁' := OutE.ext x₁ o₁
            cases el : (evO lo env >>= intO) with
            | ok li =>
              rw [el] at o₁'
              intro v2 G₂ H₂ x₂ n2
              subst n2
              refine ⟨env, G₂, R₁.ext x₂, ?_⟩
              have o₂' := OutE.ext x₂ o₁'
              cases eh : (evO hi env >>= intO) with
              | ok hi' =>
                rw [eh] at o₂'
                intro v3 G₃ H₃ x₃ n3
                subst n3
                have o₃' := OutE.ext x₃ o₂'
                have R₃ := (R₁.ext x₂).ext x₃
                have k₃ := (k₁.ext R₁.sub x₂).ext (R₁.ext x₂).sub x₃
                simp only [Res.ok_bind] at o₃'
                cases es : slD d v2 v3 with
                | ok z => exact h2 h R₃.sub k₃ ⟨z, es⟩ o₃'
                | exc cc n =>
                  exfalso
                  unfold slD at es
                  split at es
                  · cases es
                  · split at es <;> cases es
                  · cases es
                | bad => rw [es] at o₃'; exact o₃'.elim
              | exc cc n => rw [eh] at o₂'; exact o₂'
              | bad => rw [eh] at o₂'; exact o₂'
            | exc cc n => rw [el] at o₁'; exact o₁'
            | bad => rw [el] at o₁'; exact o₁'
          · cases h
        · cases h
      · cases h
    · cases h
/-! ### displays -/
theorem s_tup {es : CEs} (hs : SEs es) : SE (.tup es) := fun P B I k W X ω c nd => by
  rw [NdE] at nd
  refine both (fun e κ h => ?_) fun e κ h => ?_
  · have h' := h
    rw [ck] at h
    split at h
    · rename_i l n p e1
      exact ⟨by rw [asTup_eq e1]; rfl, by rw [ck] at h' ⊢; exact h'⟩
    · cases h
  · rw [ck] at h
    split at h
    · rename_i l n p e1
      split at h
      · rename_i hc
        cases h
        rw [asTup_eq e1]
        refine (pe_tup ((hs P B I k W X ω c nd).1 _ _ hc)).imp fun σ H Q ⟨env, G, R, o⟩ => ?_
        rw [evE] at o
        refine stepA R o fun d v G₁ H₁ _ R₁ x₁ k₁ o₁ => ?_
        have el := k₁.1
        split at o₁
        · rename_i hl
          refine ⟨by rw [el, ← lim_eq]; exact hl, fun q hq => ?_⟩
          exact o₁ _ G₁ _ (x₁.trans (.push R₁.sub hq)) (new_tup R₁.sub x₁.same hq k₁)
        · exact o₁.elim
      · cases h
    · cases h
theorem s_lst {es : CEs} (hs : SEs es) : SE (.lst es) := fun P B I k W X ω c nd => by
  rw [NdE] at nd
  refine both (fun e κ h => ?_) fun e κ h => ?_
  · have h' := h
    rw [ck] at h
    split at h
    · rename_i l p e1
      exact ⟨by rw [asLst_eq e1]; rfl, by rw [ck] at h' ⊢; exact h'⟩
    · cases h
  · rw [ck] at h
    split at h
    · rename_i l p e1
      split at h
      · rename_i hc
        cases h
        rw [asLst_eq e1]
        refine (pe_lst ((hs P B I k W X ω c nd).1 _ _ hc)).imp fun σ H Q ⟨env, G, R, o⟩ => ?_
        rw [evE] at o
        refine stepA R o fun d v G₁ H₁ _ R₁ x₁ k₁ o₁ => ?_
        have el := k₁.1
        split at o₁
        · rename_i hl
          refine ⟨by rw [el, ← lim_eq]; exact hl, fun q hq => ?_⟩
          exact o₁ _ G₁ _ (x₁.trans (.push R₁.sub hq)) (new_lst R₁.sub x₁.same hq k₁)
        · exact o₁.elim
      · cases h
    · cases h
theorem s_dK : SE .dK := fun P B I k W X ω c nd => by
  refine both (fun e κ h => ?_) fun e κ h => ?_
  · have h' := h
    rw [ck] at h
    split at h
    · rename_i p e1
      exact ⟨by rw [asDict0_eq e1]; rfl, by rw [ck] at h' ⊢; exact h'⟩
    · cases h
  · rw [ck] at h
    split at h
    · rename_i p e1
      cases h
      rw [asDict0_eq e1]
      refine pe_dnewK.imp fun σ H Q ⟨env, G, R, o⟩ => ?_
      rw [evE] at o
      intro q hq
      refine o _ G _ (.push R.sub hq) ⟨fun a => a = q, fun a e => ?_, .dK (fun _ _ => False) upd_same rfl rfl .nil (fun i a b z => by simp at z) (fun _ _ z => z.elim) fun _ _ _ z => z.elim⟩
      subst e
      exact ⟨hq, none_le R.sub hq, _, upd_same⟩
    · cases h
theorem s_dT : SE .dT := fun P B I k W X ω c nd => by
  refine both (fun e κ h => ?_) fun e κ h => ?_
  · have h' := h
    rw [ck] at h
    split at h
    · rename_i p e1
      exact ⟨by rw [asDict0_eq e1]; rfl, by rw [ck] at h' ⊢; exact h'⟩
    · cases h
  · rw [ck] at h
    split at h
    · rename_i p e1
      cases h
      rw [asDict0_eq e1]
      refine pe_dnewT.imp fun σ H Q ⟨env, G, R, o⟩ => ?_
      rw [evE] at o
      intro q hq
      refine o _ G _ (.push R.sub hq) ⟨fun a => a = q, fun a e => ?_, .dT (fun _ _ => False) upd_same rfl rfl .nil (fun i a b z => by simp at z) (fun _ _ z => z.elim) fun _ _ _ z => z.elim⟩
      subst e
      exact ⟨hq, none_le R.sub hq, _, upd_same⟩
    · cases h
theorem s_sc {a : CE} (ha : SE a) : SE (.sc a) := fun P B I k W X ω c nd => by
  rw [NdE] at nd
  refine both (fun e κ h => ?_) fun e κ h => ?_
  · rw [ck] at h ⊢
    split at h
    · rename_i hp
      refine ⟨by simpa using hp, ?_⟩
      rw [if_pos (.inl rfl)]
      exact h
    · cases h
  · rw [ck, if_pos (.inl rfl)] at h
    obtain ⟨κ', e2, rfl⟩ := some_of_map h
    refine ((ha P B I k W X ω c nd).1 _ _ e2).imp fun σ H Q ⟨env, G, R, o⟩ => ?_
    rw [evE] at o
    refine step R o fun d v G₁ H₁ _ R₁ x₁ k₁ o₁ => ?_
    have r := k₁.rp R₁.sub
    have o₂ := OutE.ext x₁ o₁
    cases d with
    | int i => exact out_sc R₁.sub rfl o₂ (by rw [r.int]; exact .int i)
    | str i => exact out_sc R₁.sub rfl o₂ (by rw [r.str]; exact .str i)
    | bl i => exact out_sc R₁.sub rfl o₂ (by rw [r.bl]; exact .bl i)
    | non => exact out_sc R₁.sub rfl o₂ (by rw [r.non]; exact .non)
    | _ => exact o₂.elim
theorem s_shr {a : CE} (ha : SE a) : SE (.shr a) := fun P B I k W X ω c nd => by
  rw [NdE] at nd
  refine ⟨fun e κ h => ?_, fun e κ h => ?_⟩
  · rw [ck, if_neg (by decide)] at h
    split at h
    · rename_i κ' e2
      split at h
      · rename_i hk
        cases h
        refine ((ha P B I k W X ω c nd).1 _ _ e2).imp fun σ H Q ⟨env, G, R, o⟩ => ?_
        rw [evE] at o
        refine ⟨env, G, R, ?_⟩
        cases e : evE a env with
        | ok d =>
          rw [e] at o
          intro v G₁ H₁ x kd
          obtain ⟨G₂, F, x₂, n, w⟩ := kd.keep (o := .sh) hk x
          exact o v G₂ H₁ x₂ w.shr
        | exc c n => rw [e] at o; exact o
        | bad => rw [e] at o; exact o
      · cases h
    · cases h
  · rw [ck, if_pos rfl] at h
    cases h
theorem s_never {c : CE} (h : ∀ I ω t e, ck I ω t c e = none) : SE c := fun P B I k W X ω ct nd => ⟨fun e κ z => (by rw [h] at z; cases z), fun e κ z => (by rw [h] at z; cases z)⟩
theorem s_tru {a : CE} (ha : SE a) : SE (.tru a) := fun P B I k W X ω c nd => by
  rw [NdE] at nd
  refine ⟨fun e κ h => ?_, fun e κ h => ?_⟩
  · rw [ck, if_neg (by simp)] at h
    cases h
  · rw [ck] at h
    split at h
    · rename_i hp
      obtain ⟨κ', e2, rfl⟩ := some_of_map h
      refine (pt_truth ((ha P B I k W X ω c nd).1 _ _ e2) fun whole => plainT_eq hp.2 whole).imp fun σ H Q ⟨env, G, R, o⟩ => ?_
      have o : OutB P W σ G H (evE (.tru a) env >>= asB) Q := o
      rw [evE] at o
      have e3 : ((evE a env >>= fun x => truD x >>= fun b => Res.ok (D.bl b)) >>= asB) = (evE a env >>= truD) := by
        cases evE a env with
        | ok d =>
          show ((truD d >>= fun b => Res.ok (D.bl b)) >>= asB) = truD d
          cases truD d <;> rfl
        | exc _ _ => rfl
        | bad => rfl
      rw [e3] at o
      refine step R o fun d v G₁ H₁ _ R₁ x₁ k₁ o₁ => ?_
      have r := k₁.rp R₁.sub
      have o₂ := OutB.ext x₁ o₁
      cases d with
      | bl b => exact ⟨b, by rw [r.bl]; exact rfl, o₂ _ _ _ (.refl R₁.sub) rfl⟩
      | int i => exact ⟨_, by rw [r.int]; exact rfl, o₂ _ _ _ (.refl R₁.sub) rfl⟩
      | non => exact ⟨false, by rw [r.non]; exact rfl, o₂ _ _ _ (.refl R₁.sub) rfl⟩
      | str t =>
        simp only [truD] at o₂
        split at o₂
        · rename_i hl
          refine ⟨!t.isEmpty, ?_, o₂ _ _ _ (.refl R₁.sub) rfl⟩
          rw [r.str]
          refine ⟨by rw [mkS_len, ← lim_eq]; exact hl, ?_⟩
          rw [mkS_len]
          cases t <;> simp <;> omega
        · exact o₂.elim
      | lst ds =>
        obtain ⟨p, vs, rfl, hp, el, _⟩ := r.lstI
        refine ⟨!ds.isEmpty, .inl ⟨vs, SqL.of hp, ?_⟩, o₂ _ _ _ (.refl R₁.sub) rfl⟩
        cases vs <;> cases ds <;> simp at el ⊢
      | _ => exact o₂.elim
    · cases h
theorem s_at (i : Nat) : SE (.at i) := fun P B I k W X ω c nd => by
  refine both (fun e κ h => ?_) fun e κ h => ?_
  · have h' := h
    rw [ck] at h
    split at h
    · rename_i x nm p e1
      exact ⟨by rw [asAttr_eq e1]; rfl, by rw [ck] at h' ⊢; exact h'⟩
    · cases h
  · rw [ck] at h
    split at h
    · rename_i x nm p e1
      split at h
      · rename_i y q e2
        split at h
        · rename_i hs
          cases h
          simp only [Bool.and_eq_true, beq_iff_eq] at hs
          obtain ⟨⟨rfl, h2⟩, h3⟩ := hs
          rw [asAttr_eq e1, asName_eq e2]
          obtain ⟨a, b, d, e'⟩ := c.xck h2
          refine (c.at_ h3 _ _ _ (pe_var a b d e') rfl).imp fun σ H Q ⟨env, G, R, o⟩ => ?_
          rw [evE] at o
          unfold getV at o
          split at o
          · rename_i d0 e0
            obtain ⟨Fs, g1, g2, g3⟩ := R.slots
            obtain ⟨v, ev, w⟩ := g1 i d0 e0
            refine ⟨v, ev, ?_⟩
            cases d0 with
            | exo n =>
              have r := w.rp R.sub
              cases r with
              | sc z => cases z
              | exo z1 z2 => exact ⟨_, _, n, rfl, z1, z2, out_sc R.sub rfl o (.int n)⟩
            | _ => exact o.elim
          · exact o.elim
        · cases h
      · cases h
    · cases h
end
end SH
end
section
set_option Elab.async false
set_option linter.all false
set_option autoImplicit false
set_option maxRecDepth 10000
/-! .. lists of expressions, calls. -/
namespace SH
open PySem L2

section
variable {P : Pm} {B : Bs} {I : Ci} {k : Nat} {W : WX} {X : Cx} {ω : List Own}
theorem Out.map_ok {α β : Type} {N : Hp → Hp → α → β → Prop} {σ : St} {G H : Hp} {b : β} {Q : α → Hp → Prop} (s : Le G H) (h : Out P N W σ G H (.ok b) Q) {v : α} (n : N G H v b) : Q v H := h v G H (.refl s) n
theorem s_nil : SEs .nil := fun P B I k W X ω c nd => by
  refine ⟨fun o l h => ?_, fun κs l h => ?_⟩
  · cases l with
    | nil =>
      refine pa_nil.imp fun σ H Q ⟨env, G, R, q⟩ => ?_
      rw [evEs] at q
      exact q _ _ _ (.refl R.sub) KdsR.nil
    | cons e l => simp [ckEs] at h
  · cases l with
    | nil =>
      rw [ckKs] at h
      cases h
      refine ⟨pa_nil.imp fun σ H Q ⟨env, G, R, q⟩ => ?_, rfl⟩
      rw [evEs] at q
      exact q _ _ _ (.refl R.sub) KL.nil
    | cons e l => simp [ckKs] at h
theorem ofRes {α β : Type} {N : Hp → Hp → α → β → Prop} {σ : St} {G H : Hp} {β' : Type} {f : Res β'} {g : β' → Res β} {Q : α → Hp → Prop} (h : Out P N W σ G H (f >>= g) Q) {c : Nat} {n : Int} (e : f = .exc c n) : Out P N W σ G H (.exc c n) Q := by
  rw [e] at h; exact h
theorem KL.ext {H₀ G H G₁ H₁ : Hp} {κs : List Kd} {vs : List V} {ds : List D} (s : Le G H) (x : Ext G H G₁ H₁) (h : KL P H₀ G H κs vs ds) : KL P H₀ G₁ H₁ κs vs ds := by
  induction h with
  | nil => exact .nil
  | cons a _ ih => exact .cons (a.ext s x) ih
theorem KL.since {H₀ H₁ G H : Hp} {κs : List Kd} {vs : List V} {ds : List D} (l : Le H₀ H₁) (h : KL P H₁ G H κs vs ds) : KL P H₀ G H κs vs ds := by
  induction h with
  | nil => exact .nil
  | cons a _ ih => exact .cons (a.since l) ih
theorem s_cons {a : CE} {es : CEs} (ha : SE a) (hs : SEs es) : SEs (.cons false a es) := fun P B I k W X ω c nd => by
  rw [NdEs] at nd
  refine ⟨fun o l h => ?_, fun κs l h => ?_⟩
  · cases l with
    | nil => simp [ckEs] at h
    | cons e l =>
      rw [ckEs, Bool.and_eq_true, Bool.and_eq_true] at h
      obtain ⟨⟨h1, h2⟩, h3⟩ := h
      split at h2
      · rename_i κ e2
        refine (pa_cons ((ha P B I k W X ω c nd.1).1 _ _ e2) ((hs P B I k W X ω c nd.2).1 _ _ h3) (star_plain h1)).imp fun σ H Q ⟨env, G, R, q⟩ => ?_
        rw [evEs] at q
        simp only [Bool.false_eq_true, if_false] at q
        refine ⟨env, G, R, ?_⟩
        cases e : evE a env with
        | ok d =>
          rw [e] at q
          intro v G' H₁ x kd
          obtain ⟨G₁, F, x', n, w⟩ := kd.keep h2 x
          have R₁ := R.ext x'
          refine ⟨env, G₁, R₁, ?_⟩
          have q₂ : Out P (fun G' H' v d => KdsR P o H G' H' v d) W σ G H (evEs es env >>= fun ds => .ok (d :: ds)) Q := q
          cases e' : evEs es env with
          | ok ds =>
            rw [e'] at q₂
            intro vs G₂ H₂ x₂ ks
            exact q₂ (v :: vs) G₂ H₂ (x'.trans x₂) (KdsR.cons R₁.sub x₂ x'.same n w ks)
          | exc cc m =>
            rw [e'] at q₂
            exact fun dx G₂ H₂ x₂ hn hg => q₂ dx G₂ H₂ (x'.trans x₂) (none_le x'.same hn) hg
          | bad => rw [e'] at q₂; exact q₂
        | exc cc m =>
          rw [e] at q
          exact q
        | bad => rw [e] at q; exact q
      · cases h2
  · cases l with
    | nil => simp [ckKs] at h
    | cons e l =>
      rw [ckKs] at h
      have hns : notStar e = true := by
        by_cases hns : notStar e = true
        · exact hns
        · rw [if_neg hns] at h; cases h
      rw [if_pos hns] at h
      split at h
      · rename_i κ κs' e2 e3
        cases h
        obtain ⟨p1, p2⟩ := (hs P B I k W X ω c nd.2).2 _ _ e3
        refine ⟨?_, by simp [p2]⟩
        refine (pa_cons ((ha P B I k W X ω c nd.1).1 _ _ e2) p1 (star_plain hns)).imp fun σ H Q ⟨env, G, R, q⟩ => ?_
        rw [evEs] at q
        simp only [Bool.false_eq_true, if_false] at q
        refine ⟨env, G, R, ?_⟩
        cases e : evE a env with
        | ok d =>
          rw [e] at q
          intro v G₁ H₁ x kd
          have R₁ := R.ext x
          refine ⟨env, G₁, R₁, ?_⟩
          have q₂ : Out P (fun G' H' v d => KL P H G' H' (κ :: κs') v d) W σ G H (evEs es env >>= fun ds => .ok (d :: ds)) Q := q
          cases e' : evEs es env with
          | ok ds =>
            rw [e'] at q₂
            intro vs G₂ H₂ x₂ ks
            exact q₂ (v :: vs) G₂ H₂ (x.trans x₂) (.cons (kd.ext R₁.sub x₂) (ks.since x.same))
          | exc cc m =>
            rw [e'] at q₂
            exact fun dx G₂ H₂ x₂ hn hg => q₂ dx G₂ H₂ (x.trans x₂) (none_le x.same hn) hg
          | bad => rw [e'] at q₂; exact q₂
        | exc cc m =>
          rw [e] at q
          exact q
        | bad => rw [e] at q; exact q
      · cases h
theorem s_star {a : CE} {es : CEs} (ha : SE a) (hs : SEs es) : SEs (.cons true a es) := fun P B I k W X ω c nd => by
  rw [NdEs] at nd
  refine ⟨fun o l h => ?_, fun κs l h => ?_⟩
  · cases l with
    | nil => simp [ckEs] at h
    | cons e l =>
      cases e <;> first | (simp [ckEs] at h; done) | skip
      · rename_i x p
        rw [ckEs, Bool.and_eq_true] at h
        obtain ⟨h2, h3⟩ := h
        split at h2
        · rename_i κ e2
          split at h2
          · rename_i o' e3
            rw [Bool.and_eq_true, Bool.or_eq_true, beq_iff_eq, beq_iff_eq] at h2
            refine (StX.pa_star ((ha P B I k W X ω c nd.1).1 _ _ e2) ((hs P B I k W X ω c nd.2).1 _ _ h3)).imp fun σ H Q ⟨env, G, R, q⟩ => ?_
            rw [evEs] at q
            simp only [if_true] at q
            refine step R q fun d v G₁ H₁ _ R₁ x₁ k₁ q₁ => ?_
            have fin : ∀ (pp : Addr) (us : List V) (ds : List D), starD d = .ok ds → us.length = ds.length → (∀ (i : Nat) (v : V) (d : D), us[i]? = some v → ds[i]? = some d → KdR P (kid κ) H G₁ H₁ v d) →
                tA P B ω o W (evEs es) σ H₁ (fun ys H2 => Q (us ++ ys) H2) := fun pp us ds es' el hk => by
              rw [es'] at q₁
              have q₂ : Out P (fun G' H' v d => KdsR P o H G' H' v d) W σ G H (evEs es env >>= fun ds' => .ok (ds ++ ds')) Q := q₁
              refine ⟨env, G₁, R₁, ?_⟩
              cases e' : evEs es env with
              | ok ds' =>
                rw [e'] at q₂
                intro vs G₂ H₂ x₂ ks
                refine q₂ _ G₂ H₂ (x₁.trans x₂) (KdsR.app R₁.sub x₂ el (fun i v d z1 z2 => ?_) (ks.since x₁.same))
                have := hk i v d z1 z2
                rw [kidO_eq e3] at this
                exact this.toOw (kidO_or e3) h2.2
              | exc cc m =>
                rw [e'] at q₂
                exact fun dx G₂ H₂ x₂ hn hg => q₂ dx G₂ H₂ (x₁.trans x₂) (none_le x₁.same hn) hg
              | bad => rw [e'] at q₂; exact q₂
            cases d with
            | lst ds =>
              obtain ⟨pp, us, rfl, hp, el, hk⟩ := k₁.lstK R₁.sub
              exact ⟨pp, us, rfl, .inr (.of hp), fin pp us ds rfl el hk⟩
            | tup ds =>
              obtain ⟨pp, us, rfl, hp, el, hk⟩ := k₁.tupK R₁.sub
              exact ⟨pp, us, rfl, .inl (.of hp), fin pp us ds rfl el hk⟩
            | _ => exact q₁.elim
          · cases h2
        · cases h2
  · cases l with
    | nil => simp [ckKs] at h
    | cons e l => simp [ckKs] at h

/-! ### calls -/
theorem cold_eq (h : P.xs = noXs) : P.cold = P := by
  unfold Pm.cold
  cases P
  cases h
  rfl
theorem len_evEs {o : Own} {env : Env} : ∀ {es : CEs} {l : List Expr} {ds : List D}, ckEs I ω o es l = true → l.all notStar = true → evEs es env = .ok ds → ds.length = es.len ∧ l.length = es.len
  | .nil, [], ds, _, _, e => by
    rw [evEs] at e
    cases e
    exact ⟨rfl, rfl⟩
  | .nil, _ :: _, _, h, _, _ => by simp [ckEs] at h
  | .cons false _ _, [], _, h, _, _ => by simp [ckEs] at h
  | .cons true _ _, [], _, h, _, _ => by simp [ckEs] at h
  | .cons false a es, e :: l, ds, h, hn, ev => by
    rw [ckEs, Bool.and_eq_true] at h
    rw [List.all_cons, Bool.and_eq_true] at hn
    rw [evEs] at ev
    cases e1 : evE a env with
    | ok d =>
      rw [e1] at ev
      cases e2 : evEs es env with
      | ok ds' =>
        have ev : (evEs es env >>= fun ds => Res.ok (d :: ds)) = .ok ds := ev
        rw [e2] at ev
        cases ev
        obtain ⟨z1, z2⟩ := len_evEs h.2 hn.2 e2
        exact ⟨by simp [CEs.len, z1], by simp [CEs.len, z2]⟩
      | exc _ _ =>
        have ev : (evEs es env >>= fun ds => Res.ok (d :: ds)) = .ok ds := ev
        rw [e2] at ev; cases ev
      | bad =>
        have ev : (evEs es env >>= fun ds => Res.ok (d :: ds)) = .ok ds := ev
        rw [e2] at ev; cases ev
    | exc _ _ => rw [e1] at ev; cases ev
    | bad => rw [e1] at ev; cases ev
  | .cons true a es, e :: l, ds, h, hn, ev => by
    rw [List.all_cons, Bool.and_eq_true] at hn
    cases e <;> first | (simp [ckEs] at h; done) | skip
    exact absurd hn.1 (by simp [notStar])
theorem stepK {α β : Type} {N : Hp → Hp → α → β → Prop} {κs : List Kd} {f : Env → Res (List D)} {g : List D → Res β} {Q : α → Hp → Prop} {Rest : List V → Hp → Prop} {env : Env} {σ : St} {G H : Hp} (R : Rel P B ω env σ G H) (h : Out P N W σ G H (f env >>= g) Q)
    (k : ∀ d v G₁ H₁, f env = .ok d → Rel P B ω env σ G₁ H₁ → Ext G H G₁ H₁ → KL P H G₁ H₁ κs v d → Out P N W σ G H (g d) Q → Rest v H₁) : tK P B ω κs W f σ H Rest := by
  refine ⟨env, G, R, ?_⟩
  cases e : f env with
  | ok d =>
    rw [e] at h
    exact fun v G' H' x n => k d v G' H' e (R.ext x) x n h
  | exc c n =>
    rw [e] at h
    exact h
  | bad =>
    rw [e] at h
    exact h
theorem Ow.unfz {G H : Hp} {o : Own} {F : Addr → Prop} {v : V} {d : D} (h : Ow P G H o F v d) : noSh o = true → ∀ G', Ow P G' H o F v d := by
  induction h with
  | sc h => exact fun _ _ => .sc h
  | sh h => exact fun z => by simp [noSh] at z
  | lst Fs h f e _ s j ih => exact fun z G' => .lst Fs h f e (fun i v d a b => ih i v d a b z G') s j
  | tup Fs h f e _ s j ih => exact fun z G' => .tup Fs h f e (fun i v d a b => ih i v d a b z G') s j
  | dK Fs h f e nd _ s j ih => exact fun z G' => .dK Fs h f e nd (fun i v d a b => ih i v d a b z G') s j
  | dT Fs h f e nd _ s j ih => exact fun z G' => .dT Fs h f e nd (fun i v d a b => ih i v d a b z G') s j
theorem KdR.unfz {G G' H₁ H : Hp} {R : Own} {v : V} {d : D} (hn : noSh R = true) (l : Le G H₁) (h : KdR P (ofOwn R) H₁ G' H v d) : KdR P (ofOwn R) H₁ G H v d := by
  cases R with
  | sc => exact h
  | sh => simp [noSh] at hn
  | nd o =>
    obtain ⟨F, n, w⟩ := h
    exact ⟨F, fun a fa => ⟨(n a fa).1, none_le l (n a fa).1, (n a fa).2.2⟩, w.unfz hn G⟩
theorem len_ckKs : ∀ {es : CEs} {l : List Expr} {κs : List Kd}, ckKs I ω es l = some κs → l.length = es.len
  | .nil, [], _, _ => rfl
  | .nil, _ :: _, _, h => by simp [ckKs] at h
  | .cons false _ _, [], _, h => by simp [ckKs] at h
  | .cons true _ _, _, _, h => by simp [ckKs] at h
  | .cons false a es, e :: l, κs, h => by
    rw [ckKs] at h
    split at h
    · split at h
      · rename_i e1 e2
        cases h
        rw [List.length_cons, CEs.len, len_ckKs e2]
      · cases h
    · cases h
theorem KL.lens {H₀ G H : Hp} {κs : List Kd} {vs : List V} {ds : List D} (h : KL P H₀ G H κs vs ds) : vs.length = κs.length ∧ ds.length = κs.length := by
  induction h with
  | nil => exact ⟨rfl, rfl⟩
  | cons _ _ ih => exact ⟨by simp [ih.1], by simp [ih.2]⟩
theorem KL.rps {H₀ G H : Hp} {κs : List Kd} {vs : List V} {ds : List D} (s : Le G H) (h : KL P H₀ G H κs vs ds) : All2 (Rp P H) vs ds := by
  induction h with
  | nil => exact .nil
  | cons k _ ih => exact .cons (k.rp s) ih
theorem s_call {x : String} {f : List D → Res D} {Ro : Own} {es : CEs} (hs : SEs es) : SE (.call x f Ro es) := fun P B I k W X ω c nd => by
  rw [NdE] at nd
  refine both (fun e κ h => ?_) fun e κ h => ?_
  · have h' := h
    rw [ck] at h
    split at h
    · rename_i y p l q e1
      exact ⟨by rw [asCall_eq e1]; rfl, by rw [ck] at h' ⊢; exact h'⟩
    · cases h
  · rw [ck] at h
    split at h
    · rename_i y p l q e1
      split at h
      · rename_i hc
        cases h
        simp only [Bool.and_eq_true, beq_iff_eq, Bool.not_eq_true', List.isEmpty_eq_false_iff] at hc
        obtain ⟨⟨⟨⟨⟨hy, hg⟩, hns⟩, hne⟩, hot⟩, hk⟩ := hc
        obtain ⟨g1, g2, g3⟩ := c.gl hg
        obtain ⟨cm, rm, tk, xs0⟩ := c.cold hot
        obtain ⟨⟨j, a, fd, ps, hj, hpl, F, hmg, hkp, hb⟩, nd2⟩ := nd
        rw [asCall_eq e1]
        cases l with
        | nil => exact absurd rfl hne
        | cons e0 l =>
        rw [List.all_cons, Bool.and_eq_true] at hns
        rw [Bool.or_eq_true] at hk
        rcases hk with hk | hk
        case inr =>
          rw [Bool.and_eq_true] at hk
          obtain ⟨hno, hk⟩ := hk
          obtain ⟨κs, hk⟩ := Option.isSome_iff_exists.mp hk
          obtain ⟨ha, hl⟩ := (hs P B I k W X ω c nd2).2 _ _ hk
          refine (pe_callSD (dvs := []) (ds := []) (by rw [c.prog, c.w, c.K, c.mg, c.base]; exact F) (rm.mono hj) g1 (by rw [c.mg, hy]; exact hmg) (by rw [c.K]; exact hkp) (by rw [c.K]; exact hb) .nil (fun σ => by
            rw [← c.prog, ← c.w]; exact passAt tk σ) ha g2 (star_plain hns.1) (star_any hns.2)).imp fun σ H Q ⟨env, G, R, q⟩ => ?_
          rw [evE] at q
          refine stepK R q fun ds vs G₁ H₁ ev R₁ x₁ k₁ q₁ => ?_
          obtain ⟨z1, z2⟩ := k₁.lens
          have z3 := len_ckKs hk
          refine ⟨by rw [List.append_nil]; omega, H₁, ds, .refl _, by rw [List.append_nil]; omega, ?_, ?_⟩
          · rw [List.append_nil, cold_eq xs0]
            exact k₁.rps R₁.sub
          · have q₂ := OutE.ext x₁ q₁
            rw [cold_eq xs0]
            cases e' : f ds with
            | ok d =>
              rw [e'] at q₂
              intro v G' H' x kd
              exact q₂ v G₁ H' ⟨x.same, fun _ _ _ => rfl, R₁.sub.trans x.same⟩ (kd.unfz hno R₁.sub)
            | exc cc n =>
              rw [e'] at q₂
              intro dx G' H' x hn hg
              refine q₂ dx (upd G₁ dx (xdN n)) H' ⟨x.same, fun a o ha => upd_ne (ne_of_none ha hn), fun a o ha => ?_⟩ hn upd_same
              by_cases hd : a = dx
              · subst hd
                rw [upd_same] at ha
                cases ha
                exact x.sub _ _ hg
              · rw [upd_ne hd] at ha
                exact x.same _ _ (R₁.sub _ _ ha)
            | bad => rw [e'] at q₂; exact q₂
        have ha := (hs P B I k W X ω c nd2).1 _ _ hk
        refine (pe_callSD (dvs := []) (ds := []) (by rw [c.prog, c.w, c.K, c.mg, c.base]; exact F) (rm.mono hj) g1 (by rw [c.mg, hy]; exact hmg) (by rw [c.K]; exact hkp) (by rw [c.K]; exact hb) .nil (fun σ => by
          rw [← c.prog, ← c.w]; exact passAt tk σ) ha g2 (star_plain hns.1) (star_any hns.2)).imp fun σ H Q ⟨env, G, R, q⟩ => ?_
        rw [evE] at q
        have q' := q
        refine stepA R q fun ds vs G₁ H₁ ev R₁ x₁ k₁ q₁ => ?_
        obtain ⟨z1, z2⟩ := len_evEs hk (by rw [List.all_cons, Bool.and_eq_true]; exact hns) ev
        refine ⟨by rw [List.append_nil, k₁.1, z1], G₁, ds, R₁.sub, by rw [List.append_nil]; exact k₁.1, ?_, ?_⟩
        · obtain ⟨_, Fs, a1, _, _⟩ := k₁
          rw [List.append_nil, cold_eq xs0]
          exact fun i v d z1 z2 => (a1 i v d z1 z2).shr
        · have q₂ := OutE.ext x₁ q₁
          rw [cold_eq xs0]
          cases e' : f ds with
          | ok d => rw [e'] at q₂; exact q₂
          | exc cc n => rw [e'] at q₂; exact q₂
          | bad => rw [e'] at q₂; exact q₂
      · cases h
    · cases h
end
end SH
end
section
set_option Elab.async false
set_option linter.all false
set_option autoImplicit false
set_option maxRecDepth 10000
/-! A result that is made of scalars alone is new as a whole. -/
namespace SH
open PySem L2
theorem rowsI_at : ∀ {rs : List D} {L : List (List Int)}, rowsI rs = some L → ∀ (i : Nat) (d : D), rs[i]? = some d → ∃ ds is, d = .lst ds ∧ intsD ds = some is ∧ L[i]? = some is
  | [], _, _, i, d, h => by simp at h
  | r :: rs, L, e, i, d, h => by
    cases r <;> simp only [rowsI] at e <;> first | (cases e; done) | skip
    rename_i ds
    split at e
    · rename_i a b e1 e2
      cases e
      cases i with
      | zero =>
        simp at h
        exact ⟨ds, a, h.symm, e1, rfl⟩
      | succ i => exact rowsI_at e2 i d (by simpa using h)
    · cases e
theorem Rp.scA {P : Pm} {G : Hp} {v : V} {d : D} (h : Rp P G v d) (hs : scA d = true) : Sc v d := by
  cases h <;> first | assumption | (simp [SH.scA] at hs)
theorem Cal.own {P : Pm} {k : Nat} {x : String} {f : List D → Res D} {n : Nat} (h : Cal P k x f (.nd .sh) n) : Cal P k x (ownF f) (.nd (.nd .sc)) n := by
  obtain ⟨j, a, fd, ps, hj, hl, O, hm, kp, b⟩ := h
  refine ⟨j, a, fd, ps, hj, hl, O.imp fun vs H Q E ⟨hn, G, ds, le, el, al, o⟩ => ?_, hm, kp, b⟩
  unfold ownF at o
  split at o
  · rename_i hsc
    rw [List.all_eq_true] at hsc
    refine ⟨hn, fun _ => none, ds, (fun _ _ z => by cases z), el, fun i v d h1 h2 => .sc ((al i v d h1 h2).scA (hsc d (List.mem_of_getElem? h2))), ?_⟩
    split at o
    · rename_i rs ef
      split at o
      · rename_i L eL
        split at o
        · rename_i hnd
          rw [ef]
          intro v G' H' xx kd
          obtain ⟨F, nF, w⟩ := kd
          cases w with
          | sc z => cases z
          | @lst _ _ p us _ Fs hH hF eul hc hs hjj =>
          -- the rows
          have row : ∀ (i : Nat) (v : V) (d : D), us[i]? = some v → rs[i]? = some d → ∃ (c : Addr) (ws : List V) (dl : List D) (is : List Int), v = .ref c ∧ d = .lst dl ∧ G' c = some (.lst ws) ∧ ws.length = dl.length ∧ intsD dl = some is ∧ L[i]? = some is ∧ ws = is.map V.int ∧ All2 (Rp P.cold G') ws dl := fun i v d h1 h2 => by
            obtain ⟨dl, is, rfl, e1, e2⟩ := rowsI_at eL i d h2
            have r := (hc i v _ h1 h2).shr
            cases r with
            | sc z => cases z
            | @lst c ws _ hg ew cc => exact ⟨c, ws, dl, is, rfl, rfl, hg, ew, e1, e2, ints_vals ew cc e1, cc⟩
          have gne : ∀ {c : Addr} {u : HO}, G' c = some u → c ≠ p := fun {c u} hg z => by
            rw [z, (nF p hF).2.1] at hg; cases hg
          refine o _ G H' ⟨xx.same, fun _ _ _ => rfl, le.trans xx.same⟩ ⟨fun a => a = p ∨ ∃ i : Nat, us[i]? = some (.ref a) ∧ ∃ d, rs[i]? = some d, fun a ha => ?_, .lst (fun i a => us[i]? = some (.ref a) ∧ ∃ d, rs[i]? = some d) hH (.inl rfl) eul (fun i v d h1 h2 => ?_) (fun i a ⟨h1, d, h2⟩ => ?_) fun i i' a ⟨h1, d, h2⟩ ⟨h3, d', h4⟩ => ?_⟩
          · rcases ha with rfl | ⟨i, h1, d, h2⟩
            · obtain ⟨z1, z2, z3⟩ := nF a hF
              exact ⟨z1, none_le le z1, z3⟩
            · obtain ⟨c, ws, dl, is, e1, _, hg, _⟩ := row i _ d h1 h2
              cases e1
              have hn0 : H a = none := by
                cases eh : H a with
                | none => rfl
                | some u =>
                  have := xx.keep a u eh
                  rw [hg] at this; cases this
              exact ⟨hn0, none_le le hn0, _, xx.sub _ _ hg⟩
          · obtain ⟨c, ws, dl, is, rfl, rfl, hg, ew, e1, e2, e3, cc⟩ := row i v d h1 h2
            refine .lst (fun _ _ => False) (xx.sub _ _ hg) ⟨h1, _, h2⟩ ew (fun m v' d' k1 k2 => ?_) (fun _ _ z => z.elim) fun _ _ _ z => z.elim
            have hr := cc m v' d' k1 k2
            refine .sc (hr.scA ?_)
            have : ∀ {dl : List D} {is : List Int}, intsD dl = some is → ∀ d ∈ dl, scA d = true := fun {dl} => by
              induction dl with
              | nil => intro is _ d hd; cases hd
              | cons d0 dl ih =>
                intro is e d hd
                cases d0 <;> simp only [intsD] at e <;> first | (cases e; done) | skip
                rcases List.mem_cons.mp hd with rfl | hd
                · rfl
                · cases e5 : intsD dl with
                  | none => rw [e5] at e; cases e
                  | some js => exact ih e5 d hd
            exact this e1 d' (List.mem_of_getElem? k2)
          · obtain ⟨c, ws, dl, is, e1, _, hg, _⟩ := row i _ d h1 h2
            cases e1
            exact ⟨.inr ⟨i, h1, d, h2⟩, gne hg⟩
          · obtain ⟨c, ws, dl, is, e1, _, hg, _, _, e2, e3, _⟩ := row i _ d h1 h2
            obtain ⟨c', ws', dl', is', e1', _, hg', _, _, e2', e3', _⟩ := row i' _ d' h3 h4
            cases e1
            cases e1'
            rw [hg] at hg'
            cases hg'
            have eis : is = is' := by
              have := e3.symm.trans e3'
              exact (List.map_inj_right (fun a b h => by cases h; rfl)).mp this
            subst eis
            have hi : i < L.length := (List.getElem?_eq_some_iff.mp e2).1
            have hi' : i' < L.length := (List.getElem?_eq_some_iff.mp e2').1
            have := e2.trans e2'.symm
            exact (List.getElem?_inj hi hnd).mp this
        · exact o.elim
      · exact o.elim
    · exact o.elim
  · exact o.elim
end SH
end
section
set_option Elab.async false
set_option linter.all false
set_option autoImplicit false
set_option maxRecDepth 10000
/-! .. built-ins, methods, isinstance. -/
namespace SH
open PySem L2

section
variable {P : Pm} {B : Bs} {I : Ci} {k : Nat} {W : WX} {X : Cx} {ω : List Own}
def bltF : Blt → Value
  | .len => .builtin "len" | .abs => .builtin "abs" | .int => .type "int" | .min => .builtin "min" | .max => .builtin "max" | .ord => .builtin "ord" | .sum => .builtin "sum" | .all => .builtin "all"
  | .sorted => .builtin "sorted" | .list => .type "list" | .tuple => .type "tuple" | .dict => .type "dict" | .str => .type "str" | .repr => .builtin "repr"
theorem one_any (hK : X.K = P.K) (hc : X.calm = true) (hu : X.A.units + 64 < cLine) (b : Blt) : One P X (bltF b) (fun d => bltD b [d]) (k1 b) := by
  cases b with
  | len => exact one_len hK
  | abs => exact one_abs
  | int => exact one_int
  | min => exact one_min hK hc
  | max => exact one_max hK hc
  | ord => exact one_ord
  | sum => exact one_sum hc
  | all => exact one_all hc
  | sorted => exact one_sorted hK hc hu
  | list => exact one_list hc
  | tuple => exact one_tuple
  | dict => exact ⟨fun _ _ _ => False, fun _ _ _ _ _ _ _ _ _ h => h.elim, fun h => by cases h⟩
  | str => exact one_str
  | repr => exact ⟨fun _ _ _ => False, fun _ _ _ _ _ _ _ _ _ h => h.elim, fun h => by cases h⟩
theorem mm_ok {b : Blt} (hb : b = .min ∨ b = .max) {ds : List D} {c : Nat} {n : Int} : bltD b ds ≠ .exc c n := fun e => by
  rcases hb with rfl | rfl
  · unfold bltD at e
    split at e <;> first | (cases e; done) | skip
    all_goals (first | (split at e <;> cases e; done) | skip)
    all_goals simp_all
  · unfold bltD at e
    split at e <;> first | (cases e; done) | skip
    all_goals (first | (split at e <;> cases e; done) | skip)
    all_goals simp_all
theorem sortD_exc {ds : List D} {c : Nat} {n : Int} : sortD ds ≠ .exc c n := fun e => by
  unfold sortD at e
  split at e <;> cases e
theorem blt_ok {b : Blt} {ds : List D} {c : Nat} {n : Int} : bltD b ds ≠ .exc c n := fun e => by
  unfold bltD at e
  split at e <;> first | (cases e; done) | skip
  all_goals (first | (split at e <;> cases e; done) | skip)
  all_goals (first | (repeat' (first | (cases e; done) | (split at e))); done | skip)
  · rename_i ds'
    cases e1 : sortD ds' with
    | ok r => rw [e1] at e; cases e
    | exc c n => exact sortD_exc e1
    | bad => rw [e1] at e; cases e
theorem pe_blt {b : Blt} {r : List V → Hp → VK → Prop} {x : Str} {p pos : Pos} {e : Expr} {es : List Expr} {t : TA} (hb : b ≠ .dict ∧ b ≠ .repr) (hx : x = (bltNm b : Str)) (hc : CallR X (bltF b) r) (hg : Gl X x) (hm : X.mg x = none) (ha : PA X (e :: es) t)
    (hns : (e :: es).all notStar = true) : PE X (.Call (.Name x p) (e :: es) [] pos) (tCB r t) := by
  rw [List.all_cons, Bool.and_eq_true] at hns
  cases b with
  | len => subst hx; exact pe_callB hc hg hm rfl ha (by decide) (by decide) (star_plain hns.1) (star_any hns.2)
  | abs => subst hx; exact pe_callB hc hg hm rfl ha (by decide) (by decide) (star_plain hns.1) (star_any hns.2)
  | int => subst hx; exact pe_callTy hc hg hm rfl ha (by decide) (by decide) (star_plain hns.1) (star_any hns.2)
  | min => subst hx; exact pe_callB hc hg hm rfl ha (by decide) (by decide) (star_plain hns.1) (star_any hns.2)
  | max => subst hx; exact pe_callB hc hg hm rfl ha (by decide) (by decide) (star_plain hns.1) (star_any hns.2)
  | ord => subst hx; exact pe_callB hc hg hm rfl ha (by decide) (by decide) (star_plain hns.1) (star_any hns.2)
  | sum => subst hx; exact pe_callB hc hg hm rfl ha (by decide) (by decide) (star_plain hns.1) (star_any hns.2)
  | all => subst hx; exact pe_callB hc hg hm rfl ha (by decide) (by decide) (star_plain hns.1) (star_any hns.2)
  | sorted => subst hx; exact pe_callB hc hg hm rfl ha (by decide) (by decide) (star_plain hns.1) (star_any hns.2)
  | list => subst hx; exact pe_callTy hc hg hm rfl ha (by decide) (by decide) (star_plain hns.1) (star_any hns.2)
  | tuple => subst hx; exact pe_callTy hc hg hm rfl ha (by decide) (by decide) (star_plain hns.1) (star_any hns.2)
  | dict => exact absurd rfl hb.1
  | str => subst hx; exact pe_callTy hc hg hm rfl ha (by decide) (by decide) (star_plain hns.1) (star_any hns.2)
  | repr => exact absurd rfl hb.2
theorem KL.one {H₀ G H : Hp} {κ : Kd} {vs : List V} {ds : List D} (h : KL P H₀ G H [κ] vs ds) : ∃ v d, vs = [v] ∧ ds = [d] ∧ KdR P κ H₀ G H v d := by
  cases h with
  | cons a h => cases h; exact ⟨_, _, rfl, rfl, a⟩
theorem KL.two {H₀ G H : Hp} {κ κ' : Kd} {vs : List V} {ds : List D} (h : KL P H₀ G H [κ, κ'] vs ds) : ∃ v d v' d', vs = [v, v'] ∧ ds = [d, d'] ∧ KdR P κ H₀ G H v d ∧ KdR P κ' H₀ G H v' d' := by
  cases h with
  | cons a h => obtain ⟨v', d', rfl, rfl, b⟩ := h.one; exact ⟨_, _, _, _, rfl, rfl, a, b⟩
theorem KL.three {H₀ G H : Hp} {κ κ' κ'' : Kd} {vs : List V} {ds : List D} (h : KL P H₀ G H [κ, κ', κ''] vs ds) :
    ∃ v d v' d' v'' d'', vs = [v, v', v''] ∧ ds = [d, d', d''] ∧ KdR P κ H₀ G H v d ∧ KdR P κ' H₀ G H v' d' ∧ KdR P κ'' H₀ G H v'' d'' := by
  cases h with
  | cons a h => obtain ⟨v', d', v'', d'', rfl, rfl, b, c⟩ := h.two; exact ⟨_, _, _, _, _, _, rfl, rfl, a, b, c⟩
/-- min(a, b, c) -/
theorem call_min3' (hc : X.calm = true) : CallR X (.builtin "min") (fun xs H Q => ∃ a b c, xs = [.int a, .int b, .int c] ∧ Q (.int (leastI a [b, c])) H) := by
  intro pins s σ H xs us Q I r h
  obtain ⟨a, b, c, rfl, q⟩ := h
  cases r with
  | cons r1 r => cases r with
  | cons r2 r => cases r with
  | cons r3 r =>
    cases r
    obtain ⟨t1, rfl⟩ := r1
    obtain ⟨t2, rfl⟩ := r2
    obtain ⟨t3, rfl⟩ := r3
    refine min_three_ints (I.ok.hd hc) fun h' tk k => ⟨_, H, I.kept k, ?_, q⟩
    show RelV (.int (leastI a [b, c])) _
    unfold leastI leastI leastI
    by_cases h1 : b < a
    · rw [if_pos h1, if_pos h1]
      by_cases h2 : c < b
      · rw [if_pos h2, if_pos h2]; exact ⟨_, rfl⟩
      · rw [if_neg h2, if_neg h2]; exact ⟨_, rfl⟩
    · rw [if_neg h1, if_neg h1]
      by_cases h2 : c < a
      · rw [if_pos h2, if_pos h2]; exact ⟨_, rfl⟩
      · rw [if_neg h2, if_neg h2]; exact ⟨_, rfl⟩
theorem s_blt {b : Blt} {es : CEs} (hs : SEs es) : SE (.blt b es) := fun P B I k W X ω c nd => by
  rw [NdE] at nd
  refine both (fun e κ h => ?_) fun e κ h => ?_
  · have h' := h
    rw [ck] at h
    split at h
    · rename_i y p l q e1
      exact ⟨by rw [asCall_eq e1]; rfl, by rw [ck] at h' ⊢; exact h'⟩
    · cases h
  · rw [ck] at h
    split at h
    · rename_i y p l q e1
      split at h
      · rename_i hc
        simp only [Bool.and_eq_true, beq_iff_eq, Bool.not_eq_true'] at hc
        obtain ⟨⟨⟨hy, hg⟩, hns⟩, hot⟩ := hc
        obtain ⟨g1, g2, g3⟩ := c.gl hg
        obtain ⟨cm, rm, tk, xs0⟩ := c.cold hot
        split at h
        · rename_i κs hk
          obtain ⟨ha, hl⟩ := (hs P B I k W X ω c nd.2).2 _ _ hk
          rw [asCall_eq e1]
          have hm : X.mg y = none := by rw [c.mg, hy]; exact nd.1
          have hu : X.A.units + 64 < cLine := by have := c.un; omega
          match κs, l, hl, h, ha with
          | [], _, _, h, _ => simp [kB] at h
          | [κ₁], [e0], _, h, ha =>
            have hb : b ≠ .dict ∧ b ≠ .repr := by refine ⟨?_, ?_⟩ <;> (intro z; subst z; cases h)
            obtain ⟨r, h1, h2⟩ := one_any (P := P) c.K cm hu b
            refine (pe_blt hb hy h1 g1 hm ha hns).imp fun σ H Q ⟨env, G, R, q⟩ => ?_
            rw [evE] at q
            refine stepK R q fun ds vs G₁ H₁ ev R₁ x₁ k₁ q₁ => ?_
            have q₂ := OutE.ext x₁ q₁
            cases k₁ with
            | cons k2 kn =>
              cases kn
              cases e' : bltD b [_] with
              | ok z => exact h2 h R₁.sub k2 ⟨z, e'⟩ q₂
              | exc cc n => exact (blt_ok e').elim
              | bad => rw [e'] at q₂; exact q₂.elim
          | [κ₁, κ₂], [e0, e00], _, h, ha =>
            have hb : b = .min ∨ b = .max := by
              by_cases z : b = .min ∨ b = .max
              · exact z
              · simp [kB, z] at h
            have hκ : κ = .sc := by
              simp [kB, hb] at h
              exact h.symm
            subst hκ
            rcases hb with rfl | rfl
            · refine (pe_blt (b := .min) ⟨by decide, by decide⟩ hy (call_min2 cm) g1 hm ha hns).imp fun σ H Q ⟨env, G, R, q⟩ => ?_
              rw [evE] at q
              refine stepK R q fun ds vs G₁ H₁ ev R₁ x₁ k₁ q₁ => ?_
              have q₂ := OutE.ext x₁ q₁
              obtain ⟨v, d, v', d', rfl, rfl, k2, k3⟩ := k₁.two
              have r1 := k2.rp R₁.sub
              have r2 := k3.rp R₁.sub
              cases d with
              | int i => cases d' with
                | int j => exact ⟨i, j, by rw [r1.int, r2.int], out_sc R₁.sub rfl q₂ (.int _)⟩
                | _ => exact False.elim q₂
              | _ => exact False.elim q₂
            · refine (pe_blt (b := .max) ⟨by decide, by decide⟩ hy (call_max2 cm) g1 hm ha hns).imp fun σ H Q ⟨env, G, R, q⟩ => ?_
              rw [evE] at q
              refine stepK R q fun ds vs G₁ H₁ ev R₁ x₁ k₁ q₁ => ?_
              have q₂ := OutE.ext x₁ q₁
              obtain ⟨v, d, v', d', rfl, rfl, k2, k3⟩ := k₁.two
              have r1 := k2.rp R₁.sub
              have r2 := k3.rp R₁.sub
              cases d with
              | int i => cases d' with
                | int j => exact ⟨i, j, by rw [r1.int, r2.int], out_sc R₁.sub rfl q₂ (.int _)⟩
                | _ => exact False.elim q₂
              | _ => exact False.elim q₂
          | [κ₁, κ₂, κ₃], [e0, e00, e000], _, h, ha =>
            have hb : b = .min := by
              by_cases z : b = .min
              · exact z
              · simp [kB, z] at h
            subst hb
            have hκ : κ = .sc := by
              simp [kB] at h
              exact h.symm
            subst hκ
            refine (pe_blt (b := .min) ⟨by decide, by decide⟩ hy (call_min3' cm) g1 hm ha hns).imp fun σ H Q ⟨env, G, R, q⟩ => ?_
            rw [evE] at q
            refine stepK R q fun ds vs G₁ H₁ ev R₁ x₁ k₁ q₁ => ?_
            have q₂ := OutE.ext x₁ q₁
            obtain ⟨v, d, v', d', v'', d'', rfl, rfl, k2, k3, k4⟩ := k₁.three
            have r1 := k2.rp R₁.sub
            have r2 := k3.rp R₁.sub
            have r3 := k4.rp R₁.sub
            cases d with
            | int i => cases d' with
              | int j => cases d'' with
                | int l => exact ⟨i, j, l, by rw [r1.int, r2.int, r3.int], out_sc R₁.sub rfl q₂ (.int _)⟩
                | _ => exact False.elim q₂
              | _ => exact False.elim q₂
            | _ => exact False.elim q₂
          | _ :: _ :: _ :: _ :: _, _, _, h, _ => simp [kB] at h
        · cases h
      · cases h
    · cases h
/-! ### methods -/
def SEl : CEs → Prop
  | .nil => True
  | .cons _ e es => SE e ∧ SEl es
theorem join_mk (s : List Char) : ∀ ws : List (List Char), Txt.join (mkS s) (ws.map mkS) = mkS (joinS s ws) := fun ws => by
  rw [TL.join_eq]
  induction ws with
  | nil => rfl
  | cons x r ih =>
    cases r with
    | nil => rfl
    | cons y r =>
      show mkS x ++ mkS s ++ Str.join (mkS s) ((y :: r).map mkS) = mkS (x ++ s ++ joinS s (y :: r))
      rw [ih, mkS_app, mkS_app]
theorem mkS_tl (s : List Char) : TL.tl (mkS s) = s.map Char.toNat := rfl
theorem splC_spl (c : Char) : ∀ (s acc : List Char), TL.spl [c.toNat] 0 (acc.map Char.toNat) (s.map Char.toNat) = (splC c acc s).map (·.map Char.toNat)
  | [], acc => by rw [List.map_nil, TL.spl_nil]; rfl
  | x :: r, acc => by
    rw [List.map_cons, splC]
    by_cases h : x = c
    · rw [if_pos h, TL.spl_hit (by subst h; simp [TL.pre])]
      have := splC_spl c r []
      rw [List.map_nil] at this
      show _ :: TL.spl [c.toNat] 0 [] (r.map Char.toNat) = _
      rw [this]; rfl
    · rw [if_neg h, TL.spl_miss (TL.pre_of_head [] _ fun z => h (toNat_inj z))]
      have := splC_spl c r (acc ++ [x])
      rw [List.map_append] at this
      exact this
theorem c256 {c : Char} (h : c.toNat < 256) : (mkS [c]).cps.all (· < 256) = true := by
  show ([c.toNat].toArray).all (· < 256) = true
  simp [h]
theorem split_mk {c : Char} (s : List Char) (h : c.toNat < 256) : Txt.split (mkS s) (mkS [c]) = (splC c [] s).map mkS := by
  refine TL.map_tl_inj ?_
  rw [TL.split_spl (mkS s) (mkS [c]) (by simp [mkS_tl]) (TL.kind_ok (c256 h)), mkS_tl, mkS_tl]
  show TL.spl [c.toNat] 0 (([] : List Char).map Char.toNat) _ = _
  rw [splC_spl, List.map_map]
  rfl
theorem at_mk {c : Char} (s : List Char) (i : Nat) : StrLaws.At (mkS s) (mkS [c]) (mkS s).length i ↔ s[i]? = some c := by
  rw [TL.at_iff (by simp [mkS_tl])]
  show TL.pre [c.toNat] ((s.map Char.toNat).drop i) = true ↔ _
  rw [← List.map_drop]
  cases e : s.drop i with
  | nil =>
    have hl : s.length ≤ i := List.drop_eq_nil_iff.mp e
    rw [List.getElem?_eq_none hl]
    simp [TL.pre]
  | cons x r =>
    have hi : i < s.length := by
      by_cases h : i < s.length
      · exact h
      · rw [List.drop_eq_nil_of_le (by omega)] at e; cases e
    rw [List.drop_eq_getElem_cons hi] at e
    injection e with e1 e2
    rw [List.getElem?_eq_getElem hi, e1]
    simp only [TL.pre, List.map_cons, List.length_cons, List.length_nil, Nat.zero_add, List.take_succ_cons, List.take_zero, beq_iff_eq, List.cons.injEq, and_true, Option.some.injEq]
    exact ⟨fun z => toNat_inj z, fun z => by rw [z]⟩
theorem find_mk {c : Char} (s : List Char) : Txt.find (mkS s) (mkS [c]) = fndC c s := by
  unfold Txt.find fndC
  rcases StrLaws.occ_head (mkS s) (mkS [c]) 1 (Nat.le_refl 1) with ⟨e, hn⟩ | ⟨i, r, e, ha, hn⟩
  · rw [e]
    have : (s.findIdx? fun x => decide (x = c)) = none := by
      rw [List.findIdx?_eq_none_iff]
      intro x hx
      obtain ⟨j, hj, ej⟩ := List.getElem_of_mem hx
      have := hn j
      rw [at_mk, List.getElem?_eq_getElem hj, ej] at this
      simpa using this
    rw [this]
  · rw [e]
    rw [at_mk] at ha
    have hi : i < s.length := by
      by_cases h : i < s.length
      · exact h
      · rw [List.getElem?_eq_none (by omega)] at ha; cases ha
    rw [List.getElem?_eq_getElem hi] at ha
    have : (s.findIdx? fun x => decide (x = c)) = some i := by
      rw [List.findIdx?_eq_some_iff_getElem]
      refine ⟨hi, by simpa using ha, fun j hj => ?_⟩
      have := hn j hj
      rw [at_mk, List.getElem?_eq_getElem (by omega)] at this
      simpa using this
    rw [this]
theorem m1_of {X : Cx} {o e : Expr} {m : Str} {apos cpos : Pos} (ho : plainB o = true) (he : notStar e = true) (hl : (apos.endLine == cpos.line) = true) : M1 X o m apos e cpos := by
  have hs : starEach [e] X.env = [(false, eval e X.env)] := star_plain he
  exact ⟨plainB_eq ho, by rw [hs]; rfl, hl, by rw [hs]; rfl⟩
theorem m2_of {X : Cx} {o e f : Expr} {m : Str} {apos cpos : Pos} (ho : plainB o = true) (he : notStar e = true) (hf : notStar f = true) (hl : (apos.endLine == cpos.line) = true) : M2 X o m apos e f cpos := by
  have hs : starEach [e, f] X.env = [(false, eval e X.env), (false, eval f X.env)] := (star_plain he).trans (by rw [star_plain hf]; rfl)
  exact ⟨plainB_eq ho, by rw [hs]; rfl, hl, by rw [hs]; rfl⟩
theorem ev1 {a : CE} {env : Env} : evEs (.cons false a .nil) env = (evE a env >>= fun d => .ok [d]) := by
  rw [evEs, evEs]
  cases evE a env <;> rfl
theorem ev2 {a b : CE} {env : Env} : evEs (.cons false a (.cons false b .nil)) env = (evE a env >>= fun d => evE b env >>= fun d' => .ok [d, d']) := by
  rw [evEs, ev1]
  cases evE a env with
  | ok d => cases evE b env <;> rfl
  | _ => rfl
theorem mth_ok {m : Mth} {x : D} {ds : List D} {c : Nat} {n : Int} : mthD m x ds ≠ .exc c n := fun e => by
  unfold mthD at e
  repeat' (first | (cases e; done) | (split at e))
theorem ckKs_ne {st : Bool} {a : CE} {es : CEs} {l : List Expr} {κs : List Kd} (h : ckKs I ω (.cons st a es) l = some κs) : κs ≠ [] := by
  cases l with
  | nil => cases st <;> simp [ckKs] at h
  | cons e l =>
    cases st with
    | true => simp [ckKs] at h
    | false =>
      rw [ckKs] at h
      by_cases hn : notStar e = true
      · rw [if_pos hn] at h
        cases e1 : ck I ω false a e with
        | none => rw [e1] at h; cases h
        | some κ =>
          cases e2 : ckKs I ω es l with
          | none => rw [e1, e2] at h; cases h
          | some κs' => rw [e1, e2] at h; cases h; simp
      · rw [if_neg hn] at h; cases h
theorem few1 {e : Expr} {env : PySem.Env} {cpos : Pos} (h : notStar e = true) : ((backTo cpos (starEach [e] env)).all (fun x => !x.1) && (backToKw cpos (keywordEach [] env)).all (fun x => x.1.isSome)
      && decide (([e] : List Expr).length + ([] : List Keyword).length + (if ([] : List Keyword).isEmpty then 0 else 1) < 30)) = true := by
  have hs : starEach [e] env = [(false, eval e env)] := star_plain h
  rw [hs]; rfl
theorem few2 {e f : Expr} {env : PySem.Env} {cpos : Pos} (h : notStar e = true) (h' : notStar f = true) : ((backTo cpos (starEach [e, f] env)).all (fun x => !x.1) && (backToKw cpos (keywordEach [] env)).all (fun x => x.1.isSome)
      && decide (([e, f] : List Expr).length + ([] : List Keyword).length + (if ([] : List Keyword).isEmpty then 0 else 1) < 30)) = true := by
  have hs : starEach [e, f] env = [(false, eval e env), (false, eval f env)] := (star_plain h).trans (by rw [star_plain h']; rfl)
  rw [hs]; rfl
theorem s_mth {m : Mth} {o : CE} {es : CEs} (ho : SE o) (hs : SEl es) : SE (.mth m o es) := fun P B I k W X ω c nd => by
  rw [NdE] at nd
  refine both (fun e κ h => ?_) fun e κ h => ?_
  · have h' := h
    rw [ck] at h
    split at h
    · rename_i x nm p l q e1
      exact ⟨by rw [asMeth_eq e1]; rfl, by rw [ck] at h' ⊢; exact h'⟩
    · cases h
  · rw [ck] at h
    split at h
    · rename_i x nm p l q e1
      split at h
      · rename_i hc
        simp only [Bool.and_eq_true, beq_iff_eq, Bool.not_eq_true'] at hc
        obtain ⟨⟨⟨⟨hy, hpl⟩, hns⟩, hline⟩, hot⟩ := hc
        have hline : (p.endLine == q.line) = true := by simp [hline]
        split at h
        · rename_i κ₀ κs e2 e3
          rw [asMeth_eq e1]
          subst hy
          have po := (ho P B I k W X ω c nd.1).1 _ _ e2
          have hu : X.A.units + 1 < cLine := by have := c.un; omega
          match es, l, hs, e3, h, hns, nd with
          | .nil, [], _, e3, h, _, _ =>
            rw [ckKs] at e3
            cases e3
            cases m <;> simp [kMth] at h
          | .nil, _ :: _, _, e3, _, _, _ => simp [ckKs] at e3
          | .cons true _ _, [], _, e3, _, _, _ => simp [ckKs] at e3
          | .cons true _ _, _ :: _, _, e3, _, _, _ => simp [ckKs] at e3
          | .cons false _ _, [], _, e3, _, _, _ => simp [ckKs] at e3
          | .cons false a es, e :: l, hs, e3, h, hns, nd =>
            rw [List.all_cons, Bool.and_eq_true] at hns
            rw [ckKs, if_pos hns.1] at e3
            obtain ⟨nd1, nd2⟩ := nd
            rw [NdEs] at nd2
            split at e3
            · rename_i κ₁ κs' e4 e5
              cases e3
              have pa := (hs.1 P B I k W X ω c nd2.1).1 _ _ e4
              match es, l, hs.2, e5, h, hns.2, nd2.2 with
              | .nil, [], _, e5, h, _, _ =>
                rw [ckKs] at e5
                cases e5
                cases m with
                | get =>
                  cases h
                  refine (pe_dget1 hu po pa (m1_of hpl hns.1 hline)).imp fun σ H Q ⟨env, G, R, q⟩ => ?_
                  rw [evE, ev1] at q
                  refine step R q fun d v G₁ H₁ _ R₁ x₁ k₁ q₁ => ?_
                  split at q₁
                  · rename_i hr
                    have q₁ : Out P (fun G' H' v d => KdR P (kid κ₀) H G' H' v d) W σ G H (evE a env >>= fun d' => mthD .get d [d']) Q := by
                      rw [Res.bind_assoc] at q₁; exact q₁
                    have fin : ∀ pp, v = .ref pp → IsD H₁ pp → (∀ d2 v2 G₂ H₂, Rel P B ω env σ G₂ H₂ → Ext G₁ H₁ G₂ H₂ → KdR P κ₁ H₁ G₂ H₂ v2 d2 → (∃ z, mthD .get d [d2] = .ok z) → OutE P (kid κ₀) W σ G₂ H₂ (mthD .get d [d2]) Q → ∃ o, DGet H₂ pp v2 o ∧ Q (o.getD .non) H₂) →
                        ∃ a_1, v = V.ref a_1 ∧ IsD H₁ a_1 ∧ tE P B ω κ₁ W (evE a) σ H₁ fun y H2 => ∃ o, DGet H2 a_1 y o ∧ Q (o.getD .non) H2 := fun pp ep hd kk => by
                      refine ⟨pp, ep, hd, ?_⟩
                      refine step R₁ (OutE.ext x₁ q₁) fun d2 v2 G₂ H₂ _ R₂ x₂ k₂ q₂ => ?_
                      have q₃ := OutE.ext x₂ q₂
                      cases ez : mthD .get d [d2] with
                      | ok z => exact kk d2 v2 G₂ H₂ R₂ x₂ k₂ ⟨z, ez⟩ q₃
                      | exc cc n => exact (mth_ok ez).elim
                      | bad => rw [ez] at q₃; exact False.elim q₃
                    cases d with
                    | dK kvs =>
                      obtain ⟨pp, kv, rfl, hr1, _, _⟩ := k₁.dKK R₁.sub
                      refine fin pp rfl (.inl ⟨kv, hr1⟩) fun d2 v2 G₂ H₂ R₂ x₂ k₂ ⟨z, ez⟩ q₃ => ?_
                      simp only [mthD] at ez q₃
                      split at ez
                      · rename_i kk ek
                        obtain ⟨p', ep, g⟩ := get_dK (w := v2) R₂.sub (k₁.ext R₁.sub x₂) (k₂.rp R₂.sub) ek
                        cases ep
                        rw [ek] at q₃
                        rcases g with ⟨d3, y, l1, g, k3⟩ | ⟨l1, g⟩
                        · exact ⟨_, g, out_kd R₂.sub (by show Res.ok ((look kk kvs).getD D.non) = _; rw [l1]; rfl) q₃ (kid_now k3)⟩
                        · exact ⟨_, g, out_sc R₂.sub (by show Res.ok ((look kk kvs).getD D.non) = _; rw [l1]; rfl) q₃ .non⟩
                      · cases ez
                    | dT kvs =>
                      obtain ⟨pp, kv, rfl, hr1, _, _⟩ := k₁.dTK R₁.sub
                      refine fin pp rfl (.inr ⟨kv, hr1⟩) fun d2 v2 G₂ H₂ R₂ x₂ k₂ ⟨z, ez⟩ q₃ => ?_
                      cases d2 with
                      | tup ks =>
                        simp only [mthD] at ez q₃
                        split at ez
                        · rename_i kk ek
                          obtain ⟨p', ep, g⟩ := get_dT (w := v2) R₂.sub (k₁.ext R₁.sub x₂) (k₂.rp R₂.sub) ek
                          cases ep
                          rw [ek] at q₃
                          rcases g with ⟨d3, y, l1, g, k3⟩ | ⟨l1, g⟩
                          · exact ⟨_, g, out_kd R₂.sub (by show Res.ok ((look kk kvs).getD D.non) = _; rw [l1]; rfl) q₃ (kid_now k3)⟩
                          · exact ⟨_, g, out_sc R₂.sub (by show Res.ok ((look kk kvs).getD D.non) = _; rw [l1]; rfl) q₃ .non⟩
                        · cases ez
                      | _ => simp [mthD] at ez
                    | _ => cases hr
                  · exact False.elim q₁
                | join =>
                  cases h
                  refine (pe_join po pa (star_plain hns.1) (plainB_eq hpl) hline).imp fun σ H Q ⟨env, G, R, q⟩ => ?_
                  rw [evE, ev1] at q
                  refine step R q fun d v G₁ H₁ _ R₁ x₁ k₁ q₁ => ?_
                  split at q₁
                  · rename_i hr
                    have q₁ : Out P (fun G' H' v d => KdR P .sc H G' H' v d) W σ G H (evE a env >>= fun d' => mthD .join d [d']) Q := by
                      rw [Res.bind_assoc] at q₁; exact q₁
                    cases d with
                    | str sp =>
                      have r1 := (k₁.rp R₁.sub).str
                      refine ⟨⟨_, r1⟩, ?_⟩
                      refine step R₁ (OutE.ext x₁ q₁) fun d2 v2 G₂ H₂ _ R₂ x₂ k₂ q₂ => ?_
                      have q₃ := OutE.ext x₂ q₂
                      cases d2 with
                      | lst ds =>
                        simp only [mthD] at q₃
                        split at q₃
                        · rename_i ws ew
                          split at q₃
                          · rename_i hl
                            obtain ⟨pp, vs, rfl, hp, el, cc⟩ := (k₂.rp R₂.sub).lstI
                            have ev := strs_vals el cc ew
                            rw [ev] at hp
                            refine ⟨mkS sp, pp, ws.map mkS, r1, rfl, .inl (.of hp), ?_, ?_⟩
                            · have e3 : (ws.map mkS).map (·.length) = ws.map (·.length) := by
                                rw [List.map_map]
                                exact List.map_congr_left fun w _ => mkS_len w
                              rw [e3, List.length_map, mkS_len]
                              exact hl
                            · rw [join_mk]
                              exact out_sc R₂.sub rfl q₃ (.str _)
                          · exact False.elim q₃
                        · exact False.elim q₃
                      | _ => exact False.elim q₃
                    | _ => cases hr
                  · exact False.elim q₁
                | find =>
                  cases h
                  refine (pe_m1 F.slot_str_find F.type_str_find mt_find po pa (star_plain hns.1) (plainB_eq hpl) hline).imp fun σ H Q ⟨env, G, R, q⟩ => ?_
                  rw [evE, ev1] at q
                  refine step R q fun d v G₁ H₁ _ R₁ x₁ k₁ q₁ => ?_
                  split at q₁
                  · rename_i hr
                    have q₁ : Out P (fun G' H' v d => KdR P .sc H G' H' v d) W σ G H (evE a env >>= fun d' => mthD .find d [d']) Q := by
                      rw [Res.bind_assoc] at q₁; exact q₁
                    cases d with
                    | str sp =>
                      have r1 := (k₁.rp R₁.sub).str
                      refine ⟨⟨_, r1⟩, ?_⟩
                      refine step R₁ (OutE.ext x₁ q₁) fun d2 v2 G₂ H₂ _ R₂ x₂ k₂ q₂ => ?_
                      have q₃ := OutE.ext x₂ q₂
                      cases d2 with
                      | str wd =>
                        match wd, q₃, k₂ with
                        | [], q₃, _ => exact False.elim q₃
                        | _ :: _ :: _, q₃, _ => exact False.elim q₃
                        | [cc], q₃, k₂ =>
                          simp only [mthD] at q₃
                          split at q₃
                          · rename_i h256
                            refine ⟨mkS sp, mkS [cc], r1, by rw [(k₂.rp R₂.sub).str], ?_⟩
                            rw [find_mk]
                            exact out_sc R₂.sub rfl q₃ (.int _)
                          · exact False.elim q₃
                      | _ => exact False.elim q₃
                    | _ => cases hr
                  · exact False.elim q₁
                | split =>
                  cases h
                  refine (pe_split po pa (star_plain hns.1) (plainB_eq hpl) hline).imp fun σ H Q ⟨env, G, R, q⟩ => ?_
                  rw [evE, ev1] at q
                  refine step R q fun d v G₁ H₁ _ R₁ x₁ k₁ q₁ => ?_
                  split at q₁
                  · rename_i hr
                    have q₁ : Out P (fun G' H' v d => KdR P (.fr (.nd .sc)) H G' H' v d) W σ G H (evE a env >>= fun d' => mthD .split d [d']) Q := by
                      rw [Res.bind_assoc] at q₁; exact q₁
                    cases d with
                    | str sp =>
                      have r1 := (k₁.rp R₁.sub).str
                      refine ⟨⟨_, r1⟩, ?_⟩
                      refine step R₁ (OutE.ext x₁ q₁) fun d2 v2 G₂ H₂ _ R₂ x₂ k₂ q₂ => ?_
                      have q₃ := OutE.ext x₂ q₂
                      cases d2 with
                      | str wd =>
                        match wd, q₃, k₂ with
                        | [], q₃, _ => exact False.elim q₃
                        | _ :: _ :: _, q₃, _ => exact False.elim q₃
                        | [cc], q₃, k₂ =>
                          simp only [mthD] at q₃
                          split at q₃
                          · rename_i h256
                            refine ⟨mkS sp, mkS [cc], r1, by rw [(k₂.rp R₂.sub).str], rfl, by rw [mkS_len, ← lim_eq]; exact h256.2, ?_⟩
                            rw [split_mk sp h256.1]
                            intro p hp
                            refine q₃ _ G₂ _ (.push R₂.sub hp) ⟨fun a => a = p, fun a e => ?_, .lst (fun _ _ => False) upd_same rfl (by simp) (fun m v d hv hd => ?_) (fun _ _ z => z.elim) fun _ _ _ z => z.elim⟩
                            · subst e
                              exact ⟨hp, none_le R₂.sub hp, _, upd_same⟩
                            · rw [List.map_map, List.getElem?_map] at hv
                              rw [List.getElem?_map] at hd
                              cases hm : (splC cc [] sp)[m]? with
                              | none => rw [hm] at hv; cases hv
                              | some u => rw [hm] at hv hd; cases hv; cases hd; exact .sc (.str _)
                          · exact False.elim q₃
                      | _ => exact False.elim q₃
                    | _ => cases hr
                  · exact False.elim q₁
                | index =>
                  cases h
                  have hs : notStar e = true := by simpa using hns.1
                  refine (pe_bm F.plainAttrs_list F.slot_list_index F.type_list_index (mt_indexD (by have := c.un; omega)) po (pa_cons pa pa_nil (star_plain hs)) (plainB_eq hpl) (few1 hs) hline (star_plain hs) rfl).imp fun σ H Q ⟨env, G, R, q⟩ => ?_
                  rw [evE, ev1] at q
                  refine step R q fun d v G₁ H₁ _ R₁ x₁ k₁ q₁ => ?_
                  split at q₁
                  · rename_i hr
                    have q₁ : Out P (fun G' H' v d => KdR P .sc H G' H' v d) W σ G H (evE a env >>= fun d' => mthD .index d [d']) Q := by
                      rw [Res.bind_assoc] at q₁; exact q₁
                    cases d with
                    | lst ds =>
                      have r1 := k₁.rp R₁.sub
                      obtain ⟨pp, vs, rfl, hp, el, cc⟩ := r1.lstI
                      refine ⟨.inl ⟨rfl, vs, .of hp⟩, ?_⟩
                      refine step R₁ (OutE.ext x₁ q₁) fun d2 v2 G₂ H₂ _ R₂ x₂ k₂ q₂ => ?_
                      have q₃ := OutE.ext x₂ q₂
                      have r2 := k₂.rp R₂.sub
                      have r1' := r1.le x₂.same
                      simp only [mthD] at q₃
                      split at q₃
                      · rename_i z
                        split at q₃
                        · rename_i j ej
                          rw [Bool.and_eq_true] at z
                          obtain ⟨hj, hjt, hjf⟩ := List.findIdx?_eq_some_iff_getElem.mp ej
                          refine ⟨pp, v2, py d2, pyL ds, j, py ds[j], rfl, rfl, ?_, ?_, ?_, shaped_dp (by omega) z.1, ?_, hjt, ?_, out_sc R₂.sub rfl q₃ (.int _)⟩
                          · rw [c.K]
                            have := r1'.dp _ z.2
                            rw [py] at this
                            exact this
                          · rw [c.K]; exact r2.dp _ z.1
                          · have := shaped_dp (by omega) z.2
                            rw [py] at this
                            exact this
                          · rw [pyL_map, List.getElem?_map, List.getElem?_eq_getElem hj]; rfl
                          · intro m z' hm hz
                            have hml : m < ds.length := by omega
                            rw [pyL_map, List.getElem?_map, List.getElem?_eq_getElem hml] at hz
                            cases hz
                            have := hjf m hm
                            simpa [deq] using this
                        · exact False.elim q₃
                      · exact False.elim q₃
                    | _ => cases hr
                  · exact False.elim q₁
              | .nil, _ :: _, _, e5, _, _, _ => simp [ckKs] at e5
              | .cons true _ _, [], _, e5, _, _, _ => simp [ckKs] at e5
              | .cons true _ _, _ :: _, _, e5, _, _, _ => simp [ckKs] at e5
              | .cons false _ _, [], _, e5, _, _, _ => simp [ckKs] at e5
              | .cons false b (.cons _ _ _), e' :: l, hs2, e5, h, hns2, nd2 =>
                exfalso
                rw [List.all_cons, Bool.and_eq_true] at hns2
                rw [ckKs, if_pos hns2.1] at e5
                split at e5
                · rename_i κ₂ κs'' e6 e7
                  cases e5
                  cases κs'' with
                  | nil => exact ckKs_ne e7 rfl
                  | cons z zs => cases m <;> cases h
                · cases e5
              | .cons false b .nil, e' :: l, hs2, e5, h, hns2, nd2 =>
                rw [List.all_cons, Bool.and_eq_true] at hns2
                rw [ckKs, if_pos hns2.1] at e5
                rw [NdEs] at nd2
                split at e5
                · rename_i κ₂ κs'' e6 e7
                  cases e5
                  cases l with
                  | cons _ _ => simp [ckKs] at e7
                  | nil =>
                    rw [ckKs] at e7
                    cases e7
                    have pb := (hs2.1 P B I k W X ω c nd2.1).1 _ _ e6
                    cases m with
                    | get =>
                      have hk : ∀ {H₀ G H : Hp} {v : V} {d : D}, (KdR P (kid κ₀) H₀ G H v d → KdR P κ H₀ G H v d) ∧ (KdR P κ₂ H₀ G H v d → KdR P κ H₀ G H v d) := by
                        intro H₀ G H v d
                        have h : (if kid κ₀ = .sc then (if κ₂ = .sc then some Kd.sc else if κ₂ = .sh then some Kd.sh else none) else if kid κ₀ = .sh ∧ (κ₂ = .sc ∨ κ₂ = .sh) then some Kd.sh else none) = some κ := h
                        by_cases z1 : kid κ₀ = .sc
                        · rw [if_pos z1] at h
                          by_cases z2 : κ₂ = .sc
                          · rw [if_pos z2] at h; cases h
                            rw [z1, z2]; exact ⟨id, id⟩
                          · rw [if_neg z2] at h
                            by_cases z3 : κ₂ = .sh
                            · rw [if_pos z3] at h; cases h
                              rw [z1, z3]; exact ⟨fun z => .sc z, id⟩
                            · rw [if_neg z3] at h; cases h
                        · rw [if_neg z1] at h
                          by_cases z2 : kid κ₀ = .sh ∧ (κ₂ = .sc ∨ κ₂ = .sh)
                          · rw [if_pos z2] at h; cases h
                            rw [z2.1]
                            refine ⟨id, fun z => ?_⟩
                            rcases z2.2 with rfl | rfl
                            · exact .sc z
                            · exact z
                          · rw [if_neg z2] at h; cases h
                      refine (pe_dget2 hu po pa pb (m2_of hpl hns.1 hns2.1 hline)).imp fun σ H Q ⟨env, G, R, q⟩ => ?_
                      rw [evE, ev2] at q
                      refine step R q fun d v G₁ H₁ _ R₁ x₁ k₁ q₁ => ?_
                      split at q₁
                      · rename_i hr
                        have q₁ : Out P (fun G' H' v d => KdR P κ H G' H' v d) W σ G H (evE a env >>= fun d' => evE b env >>= fun d'' => mthD .get d [d', d'']) Q := by
                          rw [Res.bind_assoc] at q₁
                          have e9 : (evE a env >>= fun d' => evE b env >>= fun d'' => mthD .get d [d', d'']) = (evE a env >>= fun x => (do let d' ← evE b env; Res.ok [x, d']) >>= fun ds => mthD Mth.get d ds) := by
                            cases evE a env with
                            | ok d' => cases evE b env <;> rfl
                            | _ => rfl
                          rw [e9]; exact q₁
                        have fin : ∀ pp, v = .ref pp → IsD H₁ pp → (∀ d2 v2 v3 d3 H₂ G₃ H₃, Le G₃ H₃ → Ext G₁ H₁ G₃ H₃ → Rp P H₃ v2 d2 → KdR P κ₂ H₂ G₃ H₃ v3 d3 → (∃ z, mthD .get d [d2, d3] = .ok z) → OutE P κ W σ G₃ H₃ (mthD .get d [d2, d3]) Q → Le H H₂ → ∃ o, DGet H₃ pp v2 o ∧ Q (o.getD v3) H₃) →
                            ∃ a_1, v = V.ref a_1 ∧ IsD H₁ a_1 ∧ tE P B ω κ₁ W (evE a) σ H₁ fun y H2 => tE P B ω κ₂ W (evE b) σ H2 fun z H3 => ∃ o, DGet H3 a_1 y o ∧ Q (o.getD z) H3 := fun pp ep hd kk => by
                          refine ⟨pp, ep, hd, ?_⟩
                          refine step R₁ (OutE.ext x₁ q₁) fun d2 v2 G₂ H₂ _ R₂ x₂ k₂ q₂ => ?_
                          refine step R₂ (OutE.ext x₂ q₂) fun d3 v3 G₃ H₃ _ R₃ x₃ k₃ q₃ => ?_
                          have q₄ := OutE.ext x₃ q₃
                          cases ez : mthD .get d [d2, d3] with
                          | ok z => exact kk d2 v2 v3 d3 H₂ G₃ H₃ R₃.sub (x₂.trans x₃) ((k₂.ext R₂.sub x₃).rp R₃.sub) k₃ ⟨z, ez⟩ q₄ (x₁.same.trans x₂.same)
                          | exc cc n => exact (mth_ok ez).elim
                          | bad => rw [ez] at q₄; exact False.elim q₄
                        have hn : ∀ {H₀ G H : Hp} {v : V} {d : D}, KdR P κ₂ H₀ G H v d → KdR P κ H G H v d := by
                          intro H₀ G H v d z
                          have h : (if kid κ₀ = .sc then (if κ₂ = .sc then some Kd.sc else if κ₂ = .sh then some Kd.sh else none) else if kid κ₀ = .sh ∧ (κ₂ = .sc ∨ κ₂ = .sh) then some Kd.sh else none) = some κ := h
                          have e8 : κ₂ = .sc ∨ κ₂ = .sh := by
                            by_cases z1 : kid κ₀ = .sc
                            · rw [if_pos z1] at h
                              by_cases z2 : κ₂ = .sc
                              · exact .inl z2
                              · rw [if_neg z2] at h
                                by_cases z3 : κ₂ = .sh
                                · exact .inr z3
                                · rw [if_neg z3] at h; cases h
                            · rw [if_neg z1] at h
                              by_cases z2 : kid κ₀ = .sh ∧ (κ₂ = .sc ∨ κ₂ = .sh)
                              · exact z2.2
                              · rw [if_neg z2] at h; cases h
                          refine hk.2 ?_
                          rcases e8 with rfl | rfl
                          · exact z
                          · exact z
                        cases d with
                        | dK kvs =>
                          obtain ⟨pp, kv, rfl, hr1, _, _⟩ := k₁.dKK R₁.sub
                          refine fin pp rfl (.inl ⟨kv, hr1⟩) fun d2 v2 v3 d3 H₂ G₃ H₃ s₃ x₃ r2 k₃ ⟨z, ez⟩ q₃ hl => ?_
                          simp only [mthD] at ez q₃
                          split at ez
                          · rename_i kk ek
                            obtain ⟨p', ep, g⟩ := get_dK (w := v2) s₃ (k₁.ext R₁.sub x₃) r2 ek
                            cases ep
                            rw [ek] at q₃
                            rcases g with ⟨d3', y, l1, g, k3⟩ | ⟨l1, g⟩
                            · exact ⟨_, g, out_kd s₃ (by show Res.ok ((look kk kvs).getD d3) = _; rw [l1]; rfl) q₃ (hk.1 (kid_now k3))⟩
                            · exact ⟨_, g, out_kd s₃ (by show Res.ok ((look kk kvs).getD d3) = _; rw [l1]; rfl) q₃ (hn k₃)⟩
                          · cases ez
                        | dT kvs =>
                          obtain ⟨pp, kv, rfl, hr1, _, _⟩ := k₁.dTK R₁.sub
                          refine fin pp rfl (.inr ⟨kv, hr1⟩) fun d2 v2 v3 d3 H₂ G₃ H₃ s₃ x₃ r2 k₃ ⟨z, ez⟩ q₃ hl => ?_
                          cases d2 <;> simp [mthD] at ez
                        | _ => cases hr
                      · exact False.elim q₁
                    | join => cases h
                    | find => cases h
                    | split => cases h
                    | index => cases h
                · cases e5
            · cases e3
        · cases h
      · cases h
    · cases h
end
end SH
end
section
set_option Elab.async false
set_option linter.all false
set_option autoImplicit false
set_option maxRecDepth 10000
/-! .. isinstance, slice ends, sources. -/
namespace SH
open PySem L2

section
variable {P : Pm} {B : Bs} {I : Ci} {k : Nat} {W : WX} {X : Cx} {ω : List Own}
theorem isi_one {K : PySem.W.Frag} {G H : Hp} (hK : K = P.K) {v : V} {d : D} {t : Ty} {b : Bool} (r : Rp P H v d) (e : isiD d t = some b) : ∃ tv, TyX K H v tv ∧ PySem.W.kitOne K tv (.type (tyNm t)) = some b := by
  cases d with
  | non =>
    cases e
    rw [r.non]
    exact ⟨_, .base .non, by cases t <;> rfl⟩
  | bl x =>
    cases e
    rw [r.bl]
    exact ⟨_, .base (.bl x), by cases t <;> rfl⟩
  | int x =>
    cases e
    rw [r.int]
    exact ⟨_, .base (.int x), by cases t <;> rfl⟩
  | str x =>
    cases e
    rw [r.str]
    exact ⟨_, .base (.str _), by cases t <;> rfl⟩
  | lst ds =>
    cases e
    obtain ⟨p, vs, rfl, hp, _, _⟩ := r.lstI
    exact ⟨_, .base (.lst hp), by cases t <;> rfl⟩
  | tup ds =>
    cases e
    obtain ⟨p, vs, rfl, hp, _, _⟩ := r.tupI
    exact ⟨_, .base (.tup hp), by cases t <;> rfl⟩
  | dK ds =>
    cases e
    obtain ⟨p, kvs, rfl, hp, _, _⟩ := r.dKI
    rcases hp with hp | ⟨o, hp⟩
    · exact ⟨_, .base (.dK hp), by cases t <;> rfl⟩
    · exact ⟨_, .fDict hp, by cases t <;> rfl⟩
  | dT ds => cases e
  | exo n => cases e
  | ro n => cases e
theorem boot_ty (t : Ty) : bootBuiltins (tyNm t : Str) = some (.type (tyNm t)) := by cases t <;> rfl
theorem s_isi {a : CE} {t : Ty} (ha : SE a) : SE (.isi a t) := fun P B I k W X ω c nd => by
  rw [NdE] at nd
  refine both (fun e κ h => ?_) fun e κ h => ?_
  · have h' := h
    rw [ck] at h
    split at h
    · rename_i y p x n q e1
      exact ⟨by rw [asCall_eq e1]; rfl, by rw [ck] at h' ⊢; exact h'⟩
    · cases h
  · rw [ck] at h
    split at h
    · rename_i y p x n q e1
      split at h
      · rename_i z zp e2
        split at h
        · rename_i hc
          obtain ⟨κ', e3, rfl⟩ := some_of_map h
          simp only [Bool.and_eq_true, beq_iff_eq] at hc
          obtain ⟨⟨⟨⟨hy, hg⟩, hz⟩, hgz⟩, hns⟩ := hc
          obtain ⟨g1, g2, g3⟩ := c.gl hg
          obtain ⟨z1, z2, z3⟩ := c.gl hgz
          rw [asCall_eq e1, asName_eq e2]
          have pt : PE X (.Name z zp) (tC (.ty (tyNm t))) := pe_bltn z1 (by rw [c.mg, hz]; exact nd.2.1) (by rw [hz]; exact boot_ty t) rfl z3 z2
          have hs2 : starEach [.Name z zp] X.env = [(false, eval (.Name z zp) X.env)] := star_plain rfl
          refine (pe_callB call_isi g1 (by rw [c.mg, hy]; exact nd.1) (by rw [hy]; rfl) (pa_cons ((ha P B I k W X ω c nd.2.2).1 _ _ e3) (pa_cons pt pa_nil hs2) (star_plain hns)) g3 g2 (star_plain hns) (by rw [hs2]; rfl)).imp fun σ H Q ⟨env, G, R, q⟩ => ?_
          rw [evE] at q
          refine step R q fun d v G₁ H₁ _ R₁ x₁ k₁ q₁ => ?_
          have q₂ := OutE.ext x₁ q₁
          split at q₂
          · rename_i b eb
            obtain ⟨tv, ty, ek⟩ := isi_one (G := G₁) c.K (k₁.rp R₁.sub) eb
            exact ⟨v, .ty (tyNm t), tv, .type (tyNm t), b, rfl, .ty _, ty, ek, out_sc R₁.sub rfl q₂ (.bl b)⟩
          · exact False.elim q₂
        · cases h
      · cases h
    · cases h
/-! ### a slice's ends, a comprehension's tests -/
theorem s_onone : SO .none := fun P B I k W X ω c nd => by
  refine ⟨fun e h => ?_, fun l h => ?_⟩
  · cases e with
    | some e => simp [ckO] at h
    | none =>
      refine ⟨fun pins s σ H Q I hq => ?_⟩
      obtain ⟨env, G, R, q⟩ := hq
      refine po_none.run pins s σ H Q I ?_
      rw [evO] at q
      exact q none G H (.refl R.sub) rfl
  · cases l with
    | cons e l => simp [ckIf] at h
    | nil =>
      refine ⟨fun pins s σ H Q I hq => ?_⟩
      obtain ⟨env, G, R, q⟩ := hq
      refine pts_nil.run pins s σ H Q I ?_
      simp only [evO] at q
      exact q true G H (.refl R.sub) rfl
theorem s_osome {a : CE} (ha : SE a) : SO (.some a) := fun P B I k W X ω c nd => by
  rw [NdO] at nd
  refine ⟨fun e h => ?_, fun l h => ?_⟩
  · cases e with
    | none => simp [ckO] at h
    | some e =>
      rw [ckO] at h
      obtain ⟨κ, e2⟩ := Option.isSome_iff_exists.mp h
      refine ⟨fun pins s σ H Q I hq => ?_⟩
      obtain ⟨env, G, R, q⟩ := hq
      refine (po_some ((ha P B _ k W X ω c nd).1 _ _ e2)).run pins s σ H Q I ?_
      rw [evO, Res.bind_assoc] at q
      refine step R q fun d v G₁ H₁ _ R₁ x₁ k₁ q₁ => ?_
      cases d with
      | int i => exact ⟨i, (k₁.rp R₁.sub).int, q₁ (some i) G₁ H₁ x₁ rfl⟩
      | _ => exact False.elim q₁
  · cases l with
    | nil => simp [ckIf] at h
    | cons e l =>
      cases l with
      | cons _ _ => simp [ckIf] at h
      | nil =>
        rw [ckIf] at h
        obtain ⟨κ, e2⟩ := Option.isSome_iff_exists.mp h
        refine ⟨fun pins s σ H Q I hq => ?_⟩
        obtain ⟨env, G, R, q⟩ := hq
        refine (pts_one ((ha P B _ k W X ω c nd).2 _ _ e2)).run pins s σ H Q I ⟨env, G, R, ?_⟩
        simp only [evO, Res.bind_assoc] at q
        show OutB P W σ G H (evE a env >>= asB) Q
        cases e3 : evE a env with
        | ok d => rw [e3] at q; exact q
        | exc _ _ => rw [e3] at q; exact q
        | bad => rw [e3] at q; exact q

/-! ### targets -/
def setS : St → List Nat → List V → St
  | σ, i :: is, v :: vs => setS (σ.set i (some v)) is vs
  | σ, _, _ => σ
def gIs (n : Nat) (is : List Nat) : TGs := fun vs σ H Q => vs.length = n ∧ Q (setS σ is vs) H
def gT (K : PySem.W.Frag) : Tg → TG
  | .name i => gName i
  | .tup is => fun v σ H Q => ∃ a xs, v = .ref a ∧ SqT K H a xs ∧ xs.length = is.length ∧ Q (setS σ is xs) H
theorem Ct.sto (c : Ct P I k W X) {i : Nat} {x : Str} (h : stoB I i x = true) : X.N[i]? = some x ∧ Loc X.env.scope x ∧ (X.fn x = true ∨ X.env.scope.names.lookup x = some .local) := by
  unfold stoB at h
  rw [Bool.and_eq_true, Bool.and_eq_true] at h
  obtain ⟨⟨h1, h2⟩, h3⟩ := h
  refine ⟨(c.xck h1).1, by rw [c.sc]; exact locB_ok h2, ?_⟩
  have f := c.fn x
  cases hr : I.raw with
  | none => rw [hr] at f; exact .inl (f trivial)
  | some r =>
    rw [hr] at f h3
    rw [Bool.or_eq_true] at h3
    rcases h3 with h3 | h3
    · exact .inr (by rw [c.sc]; exact isLoc_ok h3)
    · refine .inl (f ?_)
      split at h3
      · assumption
      · cases h3
theorem pgs_is (c : Ct P I k W X) : ∀ {is : List Nat} {es : List Expr}, tgsB I is es = true → PGs X es (gIs is.length is) ∧ (assignEach es X.env).length = is.length ∧ (assignEach es X.env).findIdx? (·.1) = none
  | [], [], _ => ⟨⟨fun pins s σ H vs us Q I r h => by
    obtain ⟨h1, h2⟩ := h
    cases vs with
    | nil => exact pgs_nil.run pins s σ H [] us Q I r ⟨rfl, h2⟩
    | cons _ _ => simp at h1⟩, rfl, rfl⟩
  | [], _ :: _, h => by simp [tgsB] at h
  | _ :: _, [], h => by simp [tgsB] at h
  | i :: is, e :: es, h => by
    rw [tgsB, Bool.and_eq_true] at h
    obtain ⟨h1, h2⟩ := h
    split at h1
    · rename_i x p e1
      have e1 := asName_eq e1
      subst e1
      obtain ⟨t1, t2, t3⟩ := c.sto h1
      obtain ⟨p1, p2, p3⟩ := pgs_is c h2
      refine ⟨⟨fun pins s σ H vs us Q I r h => ?_⟩, ?_, ?_⟩
      · refine (pgs_cons (pg_name (by rw [c.N]; exact c.nd) t1 t2 t3) p1 rfl).run pins s σ H vs us Q I r ?_
        obtain ⟨q1, q2⟩ := h
        cases vs with
        | nil => simp at q1
        | cons v vs => exact ⟨v, vs, rfl, by simpa using q1, q2⟩
      · have : (assignEach (.Name x p :: es) X.env).length = (assignEach es X.env).length + 1 := rfl
        rw [this, p2]; rfl
      · have : assignEach (.Name x p :: es) X.env = (false, assign (.Name x p) X.env) :: assignEach es X.env := rfl
        rw [this, List.findIdx?_cons]
        simp [p3]
    · cases h1
theorem pg_tg (c : Ct P I k W X) (hc : X.calm = true) {tg : Tg} {e : Expr} (h : tgB I tg e = true) : PG X e (gT X.K tg) := by
  cases tg with
  | name i =>
    unfold tgB at h
    simp only at h
    split at h
    · rename_i x p e1
      have e1 := asName_eq e1
      subst e1
      obtain ⟨t1, t2, t3⟩ := c.sto h
      exact pg_name (by rw [c.N]; exact c.nd) t1 t2 t3
    · cases h
  | tup is =>
    unfold tgB at h
    simp only at h
    split at h
    · rename_i l n p e1
      have e1 := asTup_eq e1
      subst e1
      obtain ⟨p1, p2, p3⟩ := pgs_is c h
      refine ⟨fun pins s σ H v u Q I r h => (pg_tup hc p1 p2 p3).run pins s σ H v u Q I r ?_⟩
      obtain ⟨a, xs, e1, e2, e3, q⟩ := h
      exact ⟨a, xs, e1, e2, e3, e3, q⟩
    · cases h
theorem wipe_get (σ : St) : ∀ (is : List Nat) (j : Nat), (wipe σ is)[j]? = if j ∈ is then (σ[j]?).map (fun _ => none) else σ[j]?
  | [], j => by simp [wipe]
  | i :: is, j => by
    unfold wipe
    by_cases hj : i = j
    · subst hj
      rw [if_pos (List.mem_cons_self)]
      by_cases hl : i < σ.length
      · rw [List.getElem?_set_self (by rw [wipe_length]; exact hl), List.getElem?_eq_getElem hl]; rfl
      · rw [List.getElem?_eq_none (by simpa [wipe_length] using Nat.le_of_not_lt hl), List.getElem?_eq_none (Nat.le_of_not_lt hl)]; rfl
    · rw [List.getElem?_set_ne hj, wipe_get σ is j]
      by_cases hm : j ∈ is
      · rw [if_pos hm, if_pos (by simp [hm])]
      · rw [if_neg hm, if_neg (by simp [hm, Ne.symm hj])]
theorem wipe_same {σ σ' : St} {is : List Nat} (hl : σ.length = σ'.length) (h : ∀ j, j ∉ is → σ[j]? = σ'[j]?) : wipe σ is = wipe σ' is := by
  refine List.ext_getElem? fun j => ?_
  rw [wipe_get, wipe_get]
  by_cases hj : j ∈ is
  · rw [if_pos hj, if_pos hj]
    by_cases hlj : j < σ.length
    · rw [List.getElem?_eq_getElem hlj, List.getElem?_eq_getElem (hl ▸ hlj)]; rfl
    · rw [List.getElem?_eq_none (Nat.le_of_not_lt hlj), List.getElem?_eq_none (hl ▸ Nat.le_of_not_lt hlj)]
  · rw [if_neg hj, if_neg hj]; exact h j hj
theorem setS_len : ∀ {σ : St} {is : List Nat} {vs : List V}, (setS σ is vs).length = σ.length
  | _, [], _ => rfl
  | _, _ :: _, [] => rfl
  | σ, i :: is, v :: vs => by rw [setS, setS_len, List.length_set]
theorem setS_ne : ∀ {σ : St} {is : List Nat} {vs : List V} {j : Nat}, j ∉ is → (setS σ is vs)[j]? = σ[j]?
  | _, [], _, _, _ => rfl
  | _, _ :: _, [], _, _ => rfl
  | σ, i :: is, v :: vs, j, h => by
    rw [setS, setS_ne (fun z => h (by simp [z])), List.getElem?_set_ne (fun z => h (by simp [z]))]
theorem bind_is {o : Own} {G H : Hp} : ∀ {is : List Nat} {ω : List Own} {env env' : Env} {σ : St} {vs : List V} {ds : List D}, Rel P B ω env σ G H → vs.length = ds.length →
    (∀ (i : Nat) (v : V) (d : D), vs[i]? = some v → ds[i]? = some d → Ow P G H o (fun _ => False) v d) → bindIs env is ds = .ok env' → Rel P B (setO ω o is) env' (setS σ is vs) G H ∧ ds.length = is.length
  | [], ω, env, env', σ, vs, [], R, _, _, e => by
    cases e
    exact ⟨by cases vs <;> exact R, rfl⟩
  | [], _, _, _, _, _, _ :: _, _, _, _, e => by cases e
  | _ :: _, _, _, _, _, _, [], _, _, _, e => by cases e
  | _ :: _, _, _, _, _, [], _ :: _, _, el, _, _ => by simp at el
  | i :: is, ω, env, env', σ, v :: vs, d :: ds, R, el, h, e => by
    rw [bindIs] at e
    obtain ⟨r1, r2⟩ := bind_is (is := is) (vs := vs) (R.setOld (h 0 v d rfl rfl) i) (by simpa using el) (fun j v d a b => h (j + 1) v d (by simpa using a) (by simpa using b)) e
    exact ⟨r1, by simp [r2]⟩
theorem bind_exc {tg : Tg} {d : D} {env : Env} {c : Nat} {n : Int} : bindT tg d env ≠ .exc c n := by
  have key : ∀ (is : List Nat) (env : Env) (ds : List D), bindIs env is ds ≠ .exc c n := fun is => by
    induction is with
    | nil => intro env ds e; cases ds <;> cases e
    | cons i is ih =>
      intro env ds e
      cases ds with
      | nil => cases e
      | cons d ds => exact ih _ _ e
  intro e
  cases tg with
  | name i => cases e
  | tup is => cases d <;> first | (cases e; done) | exact key _ _ _ e
/-- a target takes a value that nobody owns -/
theorem bind_ok {o : Own} (ho : o = .sc ∨ o = .sh) {K : PySem.W.Frag} {G H : Hp} {tg : Tg} {env env' : Env} {σ : St} {v : V} {d : D} {Q : St → Hp → Prop} (R : Rel P B ω env σ G H) (w : Ow P G H o (fun _ => False) v d) (e : bindT tg d env = .ok env')
    (q : ∀ σ', Rel P B (setO ω o (tgIs tg)) env' σ' G H → wipe σ' (tgIs tg) = wipe σ (tgIs tg) → Q σ' H) : gT K tg v σ H Q := by
  cases tg with
  | name i =>
    cases e
    exact q _ (R.setOld w i) (wipe_same (by simp) fun j hj => List.getElem?_set_ne fun z => hj (by simp [tgIs, z]))
  | tup is =>
    cases d with
    | tup ds =>
      rcases ho with rfl | rfl
      · have := w.scO
        cases this
      · have r := w.shr
        cases r with
        | sc z => cases z
        | tup hp el c =>
          rename_i p vs
          obtain ⟨r1, r2⟩ := bind_is R el (fun i v d a b => Ow.sh (c i v d a b)) e
          exact ⟨p, vs, rfl, .of (R.sub _ _ hp), by rw [el, r2], q _ r1 (wipe_same setS_len fun j hj => setS_ne hj)⟩
    | _ => cases e
end
end SH
end
section
set_option Elab.async false
set_option linter.all false
set_option autoImplicit false
set_option maxRecDepth 10000
/-! .. what is walked. -/
namespace SH
open PySem L2

/-- where Z holds the iterator gives vs -/
structure ItOK (J : It) (Z : Hp → Prop) (vs : List V) : Prop where
  go : ∀ i H, Z H → i < vs.length → J.go i H
  stop : ∀ i H, Z H → vs.length ≤ i → J.stop i H
  yld : ∀ i H x H', Z H → i < vs.length → J.yld i H x H' → H' = H ∧ vs[i]? = some x
def SrcR (P : Pm) (o : Own) (loop : Bool) (G H : Hp) (J : It) (ds : List D) : Prop :=
  ∃ vs, vs.length = ds.length ∧ All2 (fun v d => Ow P G H o (fun _ => False) v d) vs ds ∧ ItOK J (fun H2 => Le (if loop then G else H) H2) vs
def tSrc (P : Pm) (B : Bs) (ω : List Own) (o : Own) (loop : Bool) (W : WX) (f : Env → Res (List D)) : TI := fun σ H R => ∃ env G, Rel P B ω env σ G H ∧ Out P (fun G' H' J ds => SrcR P o loop G' H' J ds) W σ G H (f env) R
def SS (src : Src) : Prop := ∀ (P : Pm) (B : Bs) (I : Ci) (k : Nat) (W : WX) (X : Cx) (ω : List Own), Ct P I k W X → X.calm = true → NdSrc P k src →
  ∀ loop e o tg, ckSrc I ω loop src e = some o → (o = .sc ∨ o = .sh) ∧ PI X tg e (tSrc P B ω o loop W (evSrc src))
section
variable {P : Pm} {B : Bs} {I : Ci} {k : Nat} {W : WX} {X : Cx} {ω : List Own}
theorem PI.or3 {tg e : Expr} {w1 w2 w3 : TI} (h1 : PI X tg e w1) (h2 : PI X tg e w2) (h3 : PI X tg e w3) : PI X tg e (fun σ H R => w1 σ H R ∨ w2 σ H R ∨ w3 σ H R) := ⟨fun pins s σ H R I h => by
  rcases h with h | h | h
  · exact h1.run pins s σ H R I h
  · exact h2.run pins s σ H R I h
  · exact h3.run pins s σ H R I h⟩
theorem _root_.L2.PI.imp {X : Cx} {tg e : Expr} {w w' : TI} (h : PI X tg e w) (i : ∀ σ H R, w' σ H R → w σ H R) : PI X tg e w' := ⟨fun pins s σ H R I hq => h.run pins s σ H R I (i _ _ _ hq)⟩
theorem it_lst {K : PySem.W.Frag} {Z : Hp → Prop} {p : Addr} {vs : List V} (h : ∀ H, Z H → H p = some (.lst vs)) : ItOK (Itl K p) Z vs :=
  ⟨fun i H z hi => ⟨vs, vs[i], .of (h H z), List.getElem?_eq_getElem hi⟩, fun i H z hi => ⟨vs, .of (h H z), hi⟩, fun i H x H' z hi y => ⟨y.1, y.2 vs (.of (h H z))⟩⟩
theorem it_tup {K : PySem.W.Frag} {Z : Hp → Prop} {p : Addr} {vs : List V} (h : ∀ H, Z H → H p = some (.tup vs)) : ItOK (Itt K p) Z vs :=
  ⟨fun i H z hi => ⟨vs, vs[i], .of (h H z), List.getElem?_eq_getElem hi⟩, fun i H z hi => ⟨vs, .of (h H z), hi⟩, fun i H x H' z hi y => ⟨y.1, y.2 vs (.of (h H z))⟩⟩
theorem it_str {Z : Hp → Prop} {t : List Char} : ItOK (Its (mkS t)) Z (t.map fun c => V.str (mkS [c])) := by
  have hz : (mkS t).cps.size = t.length := by simp [mkS]
  refine ⟨fun i H z hi => ?_, fun i H z hi => ?_, fun i H x H' z hi y => ⟨y.1, ?_⟩⟩
  · show i < (mkS t).cps.size
    rw [hz]; simpa using hi
  · show (mkS t).cps.size ≤ i
    rw [hz]; simpa using hi
  · obtain ⟨c, e, rfl⟩ := y.2
    have hi : i < t.length := by simpa using hi
    rw [List.getElem?_map, List.getElem?_eq_getElem hi]
    have e2 : (mkS t).cps[i]? = some (t[i]).toNat := by
      show ((t.map Char.toNat).toArray)[i]? = _
      simp [hi]
    rw [e] at e2
    cases e2
    rfl
theorem it_rng {Z : Hp → Prop} {lo : Int} {n : Nat} : ItOK (Itr lo n) Z ((List.range n).map fun (i : Nat) => V.int (lo + i)) := by
  refine ⟨fun i H z hi => ?_, fun i H z hi => ?_, fun i H x H' z hi y => ⟨y.1, ?_⟩⟩
  · show i < n
    simpa using hi
  · show n ≤ i
    simpa using hi
  · have hi : i < n := by simpa using hi
    rw [y.2, List.getElem?_map, List.getElem?_range hi]; rfl
theorem it_down {Z : Hp → Prop} {lo : Int} {n : Nat} : ItOK (Itc lo (-1) n) Z ((List.range n).map fun (i : Nat) => V.int (lo - i)) := by
  refine ⟨fun i H z hi => ?_, fun i H z hi => ?_, fun i H x H' z hi y => ⟨y.1, ?_⟩⟩
  · show i < n
    simpa using hi
  · show n ≤ i
    simpa using hi
  · have hi : i < n := by simpa using hi
    rw [y.2, List.getElem?_map, List.getElem?_range hi]
    show some (V.int (lo - i)) = some (V.int (lo + i * (-1)))
    congr 2
    omega
theorem s_over {a : CE} (ha : SE a) : SS (.over a) := fun P B I k W X ω c hc nd loop e o tg h => by
  rw [NdSrc] at nd
  rw [ckSrc] at h
  split at h
  · rename_i κ e2
    have hk : loop = true → kOK κ .sh = true := fun hl => by
      by_cases z : kOK κ .sh = true
      · exact z
      · rw [if_pos ⟨hl, by simpa using z⟩] at h; cases h
    have h : kidO κ = some o := by
      split at h
      · cases h
      · exact h
    have ho := kidO_or h
    refine ⟨ho, ?_⟩
    have pe := (ha P B I k W X ω c nd).1 _ _ e2
    refine (PI.or3 (pi_list (tg := tg) pe) (pi_tup pe) (pi_str pe)).imp fun σ H R ⟨env, G, Rl, q⟩ => ?_
    rw [evSrc] at q
    -- what is walked, kept where a loop's body may not reach it
    have keep : ∀ {G₁ H₁ : Hp} {v : V} {d : D}, Ext G H G₁ H₁ → KdR P κ H G₁ H₁ v d → ∃ G₂, Ext G H G₂ H₁ ∧ (loop = false → G₂ = G₁) ∧ (loop = true → Rp P G₂ v d) := by
      intro G₁ H₁ v d x kd
      cases loop with
      | false => exact ⟨G₁, x, (fun _ => rfl), fun z => by cases z⟩
      | true =>
        obtain ⟨G₂, F, x₂, n, w⟩ := kd.keep (o := .sh) (hk rfl) x
        exact ⟨G₂, x₂, (fun z => by cases z), fun _ => w.shr⟩
    cases ev : evE a env with
    | exc cc n =>
      refine .inl ⟨env, G, Rl, ?_⟩
      rw [ev] at q ⊢
      exact q
    | bad => rw [ev] at q; exact False.elim q
    | ok d =>
      rw [ev] at q
      cases d with
      | lst ds =>
        refine .inl ⟨env, G, Rl, ?_⟩
        rw [ev]
        intro v G₁ H₁ x kd
        obtain ⟨p, vs, rfl, hp, el, hk2⟩ := kd.lstK x.sub
        obtain ⟨G₂, x₂, l₂, hr⟩ := keep x kd
        refine ⟨p, rfl, ⟨vs, .of hp⟩, ?_⟩
        refine q _ G₂ H₁ x₂ ⟨vs, el, fun i v d z1 z2 => ?_, it_lst fun H2 hz => ?_⟩
        · have hc2 := hk2 i v d z1 z2
          rw [kidO_eq h] at hc2
          rcases ho with rfl | rfl
          · exact .sc hc2
          · refine .sh ?_
            cases loop with
            | false =>
              have := l₂ rfl
              subst this
              exact hc2
            | true =>
              have r := hr rfl
              cases r with
              | sc z => cases z
              | lst hp' _ cc =>
                have := x₂.sub _ _ hp'
                rw [hp] at this
                cases this
                exact cc i v d z1 z2
        · cases loop with
          | false => exact hz _ _ hp
          | true =>
            have r := hr rfl
            cases r with
            | sc z => cases z
            | lst hp' _ _ =>
              have := x₂.sub _ _ hp'
              rw [hp] at this
              cases this
              exact hz _ _ hp'
      | tup ds =>
        refine .inr (.inl ⟨env, G, Rl, ?_⟩)
        rw [ev]
        intro v G₁ H₁ x kd
        obtain ⟨p, vs, rfl, hp, el, hk2⟩ := kd.tupK x.sub
        obtain ⟨G₂, x₂, l₂, hr⟩ := keep x kd
        refine ⟨p, rfl, ⟨vs, .of hp⟩, ?_⟩
        refine q _ G₂ H₁ x₂ ⟨vs, el, fun i v d z1 z2 => ?_, it_tup fun H2 hz => ?_⟩
        · have hc2 := hk2 i v d z1 z2
          rw [kidO_eq h] at hc2
          rcases ho with rfl | rfl
          · exact .sc hc2
          · refine .sh ?_
            cases loop with
            | false =>
              have := l₂ rfl
              subst this
              exact hc2
            | true =>
              have r := hr rfl
              cases r with
              | sc z => cases z
              | tup hp' _ cc =>
                have := x₂.sub _ _ hp'
                rw [hp] at this
                cases this
                exact cc i v d z1 z2
        · cases loop with
          | false => exact hz _ _ hp
          | true =>
            have r := hr rfl
            cases r with
            | sc z => cases z
            | tup hp' _ _ =>
              have := x₂.sub _ _ hp'
              rw [hp] at this
              cases this
              exact hz _ _ hp'
      | str t =>
        refine .inr (.inr ⟨env, G, Rl, ?_⟩)
        rw [ev]
        intro v G₁ H₁ x kd
        refine ⟨mkS t, (kd.rp x.sub).str, ?_⟩
        refine q _ G₁ H₁ x ⟨_, by simp, All2.maps fun c _ => ?_, it_str⟩
        rcases ho with rfl | rfl
        · exact .sc (.str [c])
        · exact .sc (.str [c])
      | _ => exact False.elim q
  · cases h
theorem okR_ok {i : Int} (h : okR i = true) : -(2 ^ 62) ≤ i ∧ i < 2 ^ 62 := by simpa [okR] using h
theorem sc_ints {G H : Hp} {f : Nat → Int} {n : Nat} : All2 (fun v d => Ow P G H .sc (fun _ => False) v d) ((List.range n).map fun i => V.int (f i)) ((List.range n).map fun i => D.int (f i)) := All2.maps fun i _ => .sc (.int _)
theorem s_rng1 {a : CE} (ha : SE a) : SS (.rng1 a) := fun P B I k W X ω c hc nd loop e o tg h => by
  rw [NdSrc] at nd
  rw [ckSrc] at h
  split at h
  · rename_i y p x q e1
    split at h
    · rename_i hb
      obtain ⟨κ', e2, rfl⟩ := some_of_map h
      simp only [Bool.and_eq_true, beq_iff_eq] at hb
      obtain ⟨⟨hy, hg⟩, hns⟩ := hb
      obtain ⟨g1, g2, g3⟩ := c.gl hg
      refine ⟨.inl rfl, ?_⟩
      rw [asCall_eq e1]
      subst hy
      refine (pi_range1 g1 (by rw [c.mg]; exact nd.1) (pa_cons ((ha P B I k W X ω c nd.2).1 _ _ e2) pa_nil (star_plain hns)) (star_plain hns)).imp fun σ H R ⟨env, G, Rl, q⟩ => ?_
      rw [evSrc] at q
      refine step Rl q fun d v G₁ H₁ _ R₁ x₁ k₁ q₁ => ?_
      cases d with
      | int j =>
        simp only at q₁
        split at q₁
        · rename_i hj
          obtain ⟨b1, b2⟩ := okR_ok hj
          exact ⟨j, by rw [(k₁.rp R₁.sub).int], b1, b2, q₁ _ G₁ H₁ x₁ ⟨_, by simp [rngD], sc_ints, it_rng⟩⟩
        · exact False.elim q₁
      | _ => exact False.elim q₁
    · cases h
  · cases h
theorem s_rng2 {a b : CE} (ha : SE a) (hb : SE b) : SS (.rng2 a b) := fun P B I k W X ω c hc nd loop e o tg h => by
  rw [NdSrc] at nd
  rw [ckSrc] at h
  split at h
  · rename_i y p x z q e1
    split at h
    · rename_i hbb
      split at h
      · rename_i κ₁ κ₂ e2 e3
        cases h
        simp only [Bool.and_eq_true, beq_iff_eq] at hbb
        obtain ⟨⟨⟨hy, hg⟩, hns⟩, hns2⟩ := hbb
        obtain ⟨g1, g2, g3⟩ := c.gl hg
        refine ⟨.inl rfl, ?_⟩
        rw [asCall_eq e1]
        subst hy
        have hs2 : starEach [z] X.env = [(false, eval z X.env)] := star_plain hns2
        refine (pi_range2 g1 (by rw [c.mg]; exact nd.1) (pa_cons ((ha P B I k W X ω c nd.2.1).1 _ _ e2) (pa_cons ((hb P B I k W X ω c nd.2.2).1 _ _ e3) pa_nil hs2) (star_plain hns)) ((star_plain hns).trans (by rw [hs2])) hs2).imp fun σ H R ⟨env, G, Rl, q⟩ => ?_
        rw [evSrc] at q
        refine step Rl q fun d v G₁ H₁ _ R₁ x₁ k₁ q₁ => ?_
        refine step R₁ (Out.ext x₁ (fun _ _ _ _ _ n => n) q₁) fun d2 v2 G₂ H₂ _ R₂ x₂ k₂ q₂ => ?_
        have r1 := (k₁.ext R₁.sub x₂).rp R₂.sub
        have r2 := k₂.rp R₂.sub
        cases d with
        | int i => cases d2 with
          | int j =>
            simp only at q₂
            split at q₂
            · rename_i hj
              rw [Bool.and_eq_true] at hj
              obtain ⟨b1, b2⟩ := okR_ok hj.1
              obtain ⟨b3, b4⟩ := okR_ok hj.2
              exact ⟨i, j, by rw [r1.int, r2.int], ⟨b1, b2, b3, b4⟩, q₂ _ G₂ H₂ x₂ ⟨_, by simp [rngD], sc_ints, it_rng⟩⟩
            · exact False.elim q₂
          | _ => exact False.elim q₂
        | _ => exact False.elim q₂
      · cases h
    · cases h
  · cases h
/-- list(range(a, b)) -/
theorem s_lrng {a b : CE} (ha : SE a) (hb : SE b) : SE (.lrng a b) := fun P B I k W X ω c nd => by
  rw [NdE] at nd
  refine ⟨fun e κ h => ?_, fun e κ h => ?_⟩
  · rw [ck, if_neg (by decide)] at h
    split at h
    · rename_i y p z q e1
      split at h
      · rename_i y' p' x1 x2 q' e2
        split at h
        · rename_i hbb
          split at h
          · rename_i κ₁ κ₂ e3 e4
            cases h
            simp only [Bool.and_eq_true, beq_iff_eq, Bool.not_eq_true'] at hbb
            obtain ⟨⟨⟨⟨⟨⟨⟨hy, hg⟩, hy'⟩, hg'⟩, hz⟩, hns⟩, hns2⟩, hh⟩ := hbb
            obtain ⟨g1, g2, g3⟩ := c.gl hg
            obtain ⟨g1', g2', g3'⟩ := c.gl hg'
            rw [asCall_eq e1]
            have ez := asCall_eq e2
            subst hy
            subst hy'
            have hs2 : starEach [x2] X.env = (false, eval x2 X.env) :: starEach [] X.env := star_plain hns2
            have hs1 : starEach [x1, x2] X.env = (false, eval x1 X.env) :: starEach [x2] X.env := star_plain hns
            have rg := prg_2 (p := p') (pos := q') g1' (by rw [c.mg]; exact nd.1) ((ha P B I k W X ω c nd.2.2.1).1 _ _ e3) ((hb P B I k W X ω c nd.2.2.2).1 _ _ e4) hs1 hs2 (by rw [hs2]; rfl)
            rw [← ez] at rg
            refine (pe_listRg (c.cold hh).1 g1 (by rw [c.mg]; exact nd.2.1) rg (star_plain hz)).imp fun σ H Q ⟨env, G, Rl, o⟩ => ?_
            rw [evE] at o
            refine step Rl o fun d v G₁ H₁ _ R₁ x₁ k₁ o₁ => ?_
            refine step R₁ (OutE.ext x₁ o₁) fun d2 v2 G₂ H₂ _ R₂ x₂ k₂ o₂ => ?_
            have o₃ := OutE.ext x₂ o₂
            have r1 := (k₁.ext R₁.sub x₂).rp R₂.sub
            have r2 := k₂.rp R₂.sub
            cases d with
            | int i => cases d2 with
              | int j =>
                simp only at o₃
                split at o₃
                · rename_i hj
                  simp only [Bool.and_eq_true, decide_eq_true_eq] at hj
                  obtain ⟨b1, b2⟩ := okR_ok hj.1.1
                  obtain ⟨b3, b4⟩ := okR_ok hj.1.2
                  refine ⟨i, j, r1.int, r2.int, ⟨b1, b2, b3, b4, by have := hj.2; simp only [lim] at this; omega⟩, fun q hq => ?_⟩
                  refine o₃ _ G₂ _ (.push R₂.sub hq) ⟨fun a => a = q, fun a e => ?_, .lst (fun _ _ => False) upd_same rfl (by simp [rgV, rngD]) (fun m v d hv hd => ?_) (fun _ _ z => z.elim) fun _ _ _ z => z.elim⟩
                  · subst e
                    exact ⟨hq, none_le R₂.sub hq, _, upd_same⟩
                  · unfold rgV at hv
                    unfold rngD at hd
                    rw [List.getElem?_map] at hv hd
                    cases hm : (List.range (j - i).toNat)[m]? with
                    | none => rw [hm] at hv; cases hv
                    | some u => rw [hm] at hv hd; cases hv; cases hd; exact .sc (.int _)
                · exact o₃.elim
              | _ => exact o₃.elim
            | _ => exact o₃.elim
          · cases h
        · cases h
      · rename_i y' p' x2 q' e2
        split at h
        · rename_i hbb
          split at h
          · rename_i κ₂ e4
            cases h
            simp only [Bool.and_eq_true, beq_iff_eq, Bool.not_eq_true'] at hbb
            obtain ⟨⟨⟨⟨⟨⟨⟨hy, hg⟩, hy'⟩, hg'⟩, hz⟩, hns2⟩, h0⟩, hh⟩ := hbb
            have h0 := isZ_eq h0
            subst h0
            obtain ⟨g1, g2, g3⟩ := c.gl hg
            obtain ⟨g1', g2', g3'⟩ := c.gl hg'
            rw [asCall_eq e1]
            have ez := asCall_eq e2
            subst hy
            subst hy'
            have hs2 : starEach [x2] X.env = (false, eval x2 X.env) :: starEach [] X.env := star_plain hns2
            have rg := prg_1 (p := p') (pos := q') g1' (by rw [c.mg]; exact nd.1) ((hb P B I k W X ω c nd.2.2.2).1 _ _ e4) hs2
            rw [← ez] at rg
            refine (pe_listRg (c.cold hh).1 g1 (by rw [c.mg]; exact nd.2.1) rg (star_plain hz)).imp fun σ H Q ⟨env, G, Rl, o⟩ => ?_
            rw [evE, evE] at o
            refine step Rl o fun d2 v2 G₂ H₂ _ R₂ x₂ k₂ o₂ => ?_
            have o₃ := OutE.ext x₂ o₂
            have r2 := k₂.rp R₂.sub
            cases d2 with
            | int j =>
              simp only at o₃
              split at o₃
              · rename_i hj
                simp only [Bool.and_eq_true, decide_eq_true_eq] at hj
                obtain ⟨b1, b2⟩ := okR_ok hj.1.1
                obtain ⟨b3, b4⟩ := okR_ok hj.1.2
                refine ⟨j, r2.int, ⟨b1, b2, b3, b4, by have := hj.2; simp only [lim] at this; omega⟩, fun q hq => ?_⟩
                refine o₃ _ G₂ _ (.push R₂.sub hq) ⟨fun a => a = q, fun a e => ?_, .lst (fun _ _ => False) upd_same rfl (by simp [rgV, rngD]) (fun m v d hv hd => ?_) (fun _ _ z => z.elim) fun _ _ _ z => z.elim⟩
                · subst e
                  exact ⟨hq, none_le R₂.sub hq, _, upd_same⟩
                · unfold rgV at hv
                  unfold rngD at hd
                  rw [List.getElem?_map] at hv hd
                  cases hm : (List.range (j - 0).toNat)[m]? with
                  | none => rw [hm] at hv; cases hv
                  | some u => rw [hm] at hv hd; cases hv; cases hd; exact .sc (.int _)
              · exact o₃.elim
            | _ => exact o₃.elim
          · cases h
        · cases h
      · cases h
    · cases h
  · rw [ck, if_pos rfl] at h
    cases h
theorem range_getD (ns : List Int) : (List.range ns.length).map (fun i => ns.getD i 0) = ns := by
  refine List.ext_getElem (by simp) fun i h1 h2 => ?_
  have h2' : i < ns.length := by simpa using h1
  simp [h2']
theorem firstMet_dd (ns : List Int) : PyProof.Rows.firstMet (fun i => ns.getD i 0) ns.length = ddI ns := by
  unfold PyProof.Rows.firstMet
  rw [range_getD]; rfl
def tLenS (K : PySem.W.Frag) (ta : TE) : TE := fun σ H Q => ta σ H fun x H1 => ∃ (l : Addr) (ns : List Int), x = .ref l ∧ SqL K H1 l (ns.map V.int) ∧ ns.length < 4000 ∧ Q (.int (ddI ns).length) H1
/-- len(set(a list of numbers)) -/
theorem pe_lset {a : Expr} {ta : TE} {p p2 q pos : Pos} (hc : X.calm = true) (g1 : Gl X "len") (m1 : X.mg "len" = none) (g2 : Gl X "set") (m2 : X.mg "set" = none) (ha : PE X a ta) (na : starEach [a] X.env = (false, eval a X.env) :: starEach [] X.env) :
    PE X (.Call (.Name "len" p) [.Call (.Name "set" p2) [a] [] q] [] pos) (tLenS X.K ta) := by
  refine ⟨fun pins s σ H Q I0 hq0 => PyProof.Rows.Call_ (ld_blt I0 g1 m1 PySem.boot_len (PyProof.Rows.callWith_builtin1 (PyProof.Rows.args_cons ?_ rfl) rfl rfl))⟩
  refine PyProof.Rows.Call_ (ld_blt I0 g2 m2 PyProof.Rows.boot_set (PyProof.Rows.callWith_type1 (PyProof.Rows.args_cons ?_ na) na rfl))
  refine thn (ha.run pins s σ H _ I0 hq0) fun v s1 ⟨x, H1, I1, r1, l, ns, ex, hq, hl, qq⟩ => PyProof.Rows.args_nil ?_
  subst ex
  cases r1
  obtain ⟨its, vr, pl, hz⟩ := I1.list hq
  have hn : its.toArray.size = ns.length := by
    have := vr.length
    simp at this
    simp [this]
  refine PySem.call_set_list (I1.ok.hd hc) pl.isList (by simpa using RZ.intsAre_vals vr) (by rw [hn]; unfold scanBound; omega) fun h' tk hS hk => PyProof.Rows.args_nil ?_
  rw [hn, firstMet_dd] at hS
  have hlen : (ddI ns).length ≤ ns.length := by
    rw [← firstMet_dd]; exact PyProof.Rows.firstMet_length_le _ _
  obtain ⟨so, es, ep, tt, h1, h2, h3, _, _, _, h7, h8⟩ := hS
  have J : Inv X pins σ H1 { s1 with heap := h', toks := tk } := I1.kept fun b o e => hk b o (Heap.lt_size e) e
  exact call_len_set h1 h2 h3 h7 (by rw [h8]; omega) ⟨.int (ddI ns).length, H1, J.tok _, ⟨_, by rw [h8]⟩, qq⟩
theorem s_lset {a : CE} (ha : SE a) : SE (.lset a) := fun P B I k W X ω c nd => by
  rw [NdE] at nd
  refine ⟨fun e κ h => ?_, fun e κ h => ?_⟩
  · rw [ck, if_neg (by decide)] at h
    split at h
    · rename_i y p z q e1
      split at h
      · rename_i y' p' x q' e2
        split at h
        · rename_i hb
          obtain ⟨κ', e3, rfl⟩ := some_of_map h
          simp only [Bool.and_eq_true, beq_iff_eq, Bool.not_eq_true'] at hb
          obtain ⟨⟨⟨⟨⟨⟨hy, hg⟩, hy'⟩, hg'⟩, hz⟩, hns⟩, hh⟩ := hb
          obtain ⟨g1, _, _⟩ := c.gl hg
          obtain ⟨g2, _, _⟩ := c.gl hg'
          rw [asCall_eq e1, asCall_eq e2]
          subst hy
          subst hy'
          refine (pe_lset (c.cold hh).1 g1 (by rw [c.mg]; exact nd.1) g2 (by rw [c.mg]; exact nd.2.1) ((ha P B I k W X ω c nd.2.2).1 _ _ e3) (star_plain hns)).imp fun σ H Q ⟨env, G, Rl, o⟩ => ?_
          rw [evE] at o
          refine step Rl o fun d v G₁ H₁ _ R₁ x₁ k₁ o₁ => ?_
          have o₂ := OutE.ext x₁ o₁
          cases d with
          | lst ds =>
            simp only [lsetD] at o₂
            split at o₂
            · rename_i ns en
              split at o₂
              · rename_i hl
                obtain ⟨pp, vs, rfl, hp, el, cc⟩ := (k₁.rp R₁.sub).lstI
                exact ⟨pp, ns, rfl, by rw [← ints_vals el cc en]; exact SqL.of hp, hl, out_sc R₁.sub rfl o₂ (.int _)⟩
              · exact o₂.elim
            · exact o₂.elim
          | _ => exact o₂.elim
        · cases h
      · cases h
    · cases h
  · rw [ck, if_pos rfl] at h
    cases h
theorem s_down {a b : CE} (ha : SE a) (hb : SE b) : SS (.down a b) := fun P B I k W X ω c hc nd loop e o tg h => by
  rw [NdSrc] at nd
  rw [ckSrc] at h
  split at h
  · rename_i y p x z u q e1
    split at h
    · rename_i cc up e4
      split at h
      · rename_i jj kk kp e5
        split at h
        · rename_i hbb
          split at h
          · rename_i κ₁ κ₂ e2 e3
            cases h
            simp only [Bool.and_eq_true, beq_iff_eq] at hbb
            obtain ⟨⟨⟨⟨hy, hg⟩, hns⟩, hns2⟩, hj1⟩ := hbb
            obtain ⟨g1, g2, g3⟩ := c.gl hg
            refine ⟨.inl rfl, ?_⟩
            rw [asCall_eq e1, asUn_eq e4, asConst_eq e5]
            subst hy
            subst hj1
            have pu : PE X (.UnaryOp .USub (.Constant (.int 1) kk kp) up) _ := pe_un un_neg pe_int
            have hs3 : starEach [.UnaryOp .USub (.Constant (.int 1) kk kp) up] X.env = [(false, eval (.UnaryOp .USub (.Constant (.int 1) kk kp) up) X.env)] := star_plain rfl
            have hs2 : starEach [z, .UnaryOp .USub (.Constant (.int 1) kk kp) up] X.env = (false, eval z X.env) :: starEach [.UnaryOp .USub (.Constant (.int 1) kk kp) up] X.env := star_plain hns2
            refine (pi_range3 g1 (by rw [c.mg]; exact nd.1) (pa_cons ((ha P B I k W X ω c nd.2.1).1 _ _ e2) (pa_cons ((hb P B I k W X ω c nd.2.2).1 _ _ e3) (pa_cons pu pa_nil hs3) hs2) (star_plain hns)) (star_plain hns) (star_any (by rw [List.all_cons, hns2]; rfl))).imp fun σ H R ⟨env, G, Rl, q⟩ => ?_
            rw [evSrc] at q
            refine step Rl q fun d v G₁ H₁ _ R₁ x₁ k₁ q₁ => ?_
            refine step R₁ (Out.ext x₁ (fun _ _ _ _ _ n => n) q₁) fun d2 v2 G₂ H₂ _ R₂ x₂ k₂ q₂ => ?_
            have r1 := (k₁.ext R₁.sub x₂).rp R₂.sub
            have r2 := k₂.rp R₂.sub
            cases d with
            | int i => cases d2 with
              | int j =>
                simp only at q₂
                split at q₂
                · rename_i hj
                  rw [Bool.and_eq_true] at hj
                  obtain ⟨b1, b2⟩ := okR_ok hj.1
                  obtain ⟨b3, b4⟩ := okR_ok hj.2
                  refine ⟨1, rfl, i, j, -1, _, by rw [r1.int, r2.int], RgC.neg b1 b2 b3 b4, q₂ _ G₂ H₂ x₂ ⟨_, by simp [downD], sc_ints, it_down⟩⟩
                · exact False.elim q₂
              | _ => exact False.elim q₂
            | _ => exact False.elim q₂
          · cases h
        · cases h
      · cases h
    · cases h
  · cases h
theorem s_keys {a : CE} : SS (.keys a) := fun P B I k W X ω c hc nd loop e o tg h => by
  rw [ckSrc] at h; cases h
end
end SH
end
section
set_option Elab.async false
set_option linter.all false
set_option autoImplicit false
set_option maxRecDepth 10000
/-! A dict locked and unlocked while it is walked. -/
namespace SH
open PySem L2

def IsDk : HO → Prop
  | .dK _ => True
  | .dT _ => True
  | _ => False
/-- the same for reading -/
def Sm (G G' : Hp) : Prop := ∀ a o, G a = some o → G' a = some o ∨ ∃ b u, IsDk u ∧ ((o = u ∧ G' a = some (.frz b u)) ∨ (o = .frz b u ∧ G' a = some u))
theorem Sm.refl (G : Hp) : Sm G G := fun _ _ h => .inl h
theorem Sm.rdD {G G' : Hp} (s : Sm G G') {a : Addr} {u : HO} (hu : IsDk u) (h : Rd G a u) : Rd G' a u := by
  rcases h with h | ⟨b, h⟩
  · rcases s a _ h with h2 | ⟨b, u', h3, ⟨h4, h5⟩ | ⟨h4, h5⟩⟩
    · exact .inl h2
    · subst h4; exact .inr ⟨b, h5⟩
    · subst h4; exact hu.elim
  · rcases s a _ h with h2 | ⟨b', u', h3, ⟨h4, h5⟩ | ⟨h4, h5⟩⟩
    · exact .inr ⟨b, h2⟩
    · subst h4; exact h3.elim
    · cases h4; exact .inl h5
theorem Sm.rdN {G G' : Hp} (s : Sm G G') {a : Addr} {u : HO} (hu : ¬ IsDk u) (hf : ∀ b w, u ≠ .frz b w) (h : Rd G a u) : Rd G' a u := by
  rcases h with h | ⟨b, h⟩
  · rcases s a _ h with h2 | ⟨b, u', h3, ⟨h4, h5⟩ | ⟨h4, h5⟩⟩
    · exact .inl h2
    · subst h4; exact (hu h3).elim
    · exact (hf _ _ h4).elim
  · rcases s a _ h with h2 | ⟨b', u', h3, ⟨h4, h5⟩ | ⟨h4, h5⟩⟩
    · exact .inr ⟨b, h2⟩
    · subst h4; exact h3.elim
    · cases h4; exact (hu h3).elim
theorem Sm.at {G G' : Hp} (s : Sm G G') {a : Addr} {u : HO} (hu : ¬ IsDk u) (hf : ∀ b w, u ≠ .frz b w) (h : G a = some u) : G' a = some u := by
  rcases s a _ h with h2 | ⟨b, u', h3, ⟨h4, h5⟩ | ⟨h4, h5⟩⟩
  · exact h2
  · subst h4; exact (hu h3).elim
  · exact (hf _ _ h4).elim
theorem Rp.sm {P : Pm} {G G' : Hp} (s : Sm G G') {v : V} {d : D} (h : Rp P G v d) : Rp P G' v d := by
  induction h with
  | sc h => exact .sc h
  | tup h e _ ih => exact .tup (s.at (fun z => z) (fun _ _ z => by cases z) h) e ih
  | lst h e _ ih => exact .lst (s.at (fun z => z) (fun _ _ z => by cases z) h) e ih
  | dK h e _ ih => exact .dK (s.rdD trivial h) e ih
  | dT h e _ ih => exact .dT (s.rdD trivial h) e ih
  | ro h =>
    refine .ro ?_
    rcases h with h | h
    · exact .inl (s.rdN (fun z => z) (fun _ _ z => by cases z) h)
    · exact .inr h
  | exo h e => exact .exo h (s.at (fun z => z) (fun _ _ z => by cases z) e)
theorem Ow.sm {P : Pm} {G G' H H' : Hp} {o : Own} {F : Addr → Prop} {v : V} {d : D} (l : Sm G G') (k : ∀ a, F a → H' a = H a) (h : Ow P G H o F v d) : Ow P G' H' o F v d := by
  induction h with
  | sc h => exact .sc h
  | sh h => exact .sh (h.sm l)
  | lst Fs h f e _ s j ih => exact .lst Fs ((k _ f).trans h) f e (fun i v d a b => ih i v d a b fun a ha => k a (s i a ha).1) s j
  | tup Fs h f e _ s j ih => exact .tup Fs ((k _ f).trans h) f e (fun i v d a b => ih i v d a b fun a ha => k a (s i a ha).1) s j
  | dK Fs h f e nd _ s j ih => exact .dK Fs ((k _ f).trans h) f e nd (fun i v d a b => ih i v d a b fun a ha => k a (s i a ha).1) s j
  | dT Fs h f e nd _ s j ih => exact .dT Fs ((k _ f).trans h) f e nd (fun i v d a b => ih i v d a b fun a ha => k a (s i a ha).1) s j

/-- what stands at p, exchanged -/
def tog (p : Addr) (u : HO) (H : Hp) : Hp := fun a => if a = p ∧ (H p).isSome = true then some u else H a
section
variable {P : Pm} {B : Bs} {ω : List Own} {env : Env} {σ : St} {G H G' H' : Hp} {p : Addr} {u w : HO}
theorem tog_ne {a : Addr} (h : a ≠ p) : tog p u H a = H a := if_neg fun z => h z.1
theorem tog_at (h : H p = some w) : tog p u H p = some u := if_pos ⟨rfl, by rw [h]; rfl⟩
theorem tog_no (h : H p = none) : tog p u H = H := funext fun a => if_neg fun z => by rw [h] at z; cases z.2
theorem tog_upd (h : H p = some w) : tog p u H = upd H p u := funext fun a => by
  by_cases e : a = p
  · subst e; rw [tog_at h, upd_same]
  · rw [tog_ne e, upd_ne e]
theorem tog_some {a : Addr} {o : HO} (h : tog p u H a = some o) : ∃ o', H a = some o' := by
  unfold tog at h
  split at h
  · rename_i z
    obtain ⟨rfl, z⟩ := z
    exact Option.isSome_iff_exists.mp z
  · exact ⟨o, h⟩
theorem tog_none {a : Addr} (h : H a = none) : tog p u H a = none := by
  by_cases e : a = p
  · subst e; rw [tog_no h]; exact h
  · rw [tog_ne e]; exact h
theorem none_tog {a : Addr} (h : tog p u H a = none) : H a = none := by
  cases e : H a with
  | none => rfl
  | some o =>
    by_cases ea : a = p
    · subst ea; rw [tog_at e] at h; cases h
    · rw [tog_ne ea, e] at h; cases h
/-- two ways to hold one dict -/
def Two2 (u w : HO) : Prop := (∃ b, IsDk u ∧ w = .frz b u) ∨ ∃ b, IsDk w ∧ u = .frz b w
theorem Sm.tog (h : G p = some w) (t : Two2 u w) : Sm G (tog p u G) := fun a o ha => by
  by_cases e : a = p
  · subst e
    rw [h] at ha
    cases ha
    rw [tog_at h]
    rcases t with ⟨b, h1, h2⟩ | ⟨b, h1, h2⟩
    · exact .inr ⟨b, u, h1, .inr ⟨h2, rfl⟩⟩
    · exact .inr ⟨b, w, h1, .inl ⟨rfl, by rw [h2]⟩⟩
  · rw [tog_ne e]; exact .inl ha
def Bs.tog (B : Bs) (p : Addr) (u : HO) : Bs := ⟨SH.tog p u B.G, SH.tog p u B.H⟩
theorem Le.tog (s : Le G H) (hG : G p = some w) : Le (SH.tog p u G) (SH.tog p u H) := fun a o h => by
  by_cases e : a = p
  · subst e
    rw [tog_at hG] at h
    rw [tog_at (s _ _ hG)]; exact h
  · rw [tog_ne e] at h ⊢; exact s _ _ h
theorem Rel.tog (R : Rel P B ω env σ G H) (hG : G p = some w) (t : Two2 u w) : Rel P (B.tog p u) ω env σ (SH.tog p u G) (SH.tog p u H) := by
  obtain ⟨Fs, h1, h2, h3⟩ := R.slots
  refine ⟨R.sub.tog hG, fun a o h => ?_, fun a o h => ?_, R.len, Fs, fun i d e => ?_, fun i a fa => ?_, h3⟩
  · obtain ⟨o', h'⟩ := tog_some h
    have := R.ent a o' h'
    by_cases e : a = p
    · subst e
      have h : SH.tog a u B.H a = some o := h
      rw [tog_at h'] at h
      rw [tog_at this]; exact h
    · have h : SH.tog p u B.H a = some o := h
      rw [tog_ne e] at h ⊢
      exact R.ent a o h
  · obtain ⟨o', h'⟩ := tog_some h
    have eg := R.entG a o' h'
    show SH.tog p u G a = SH.tog p u B.G a
    by_cases e : a = p
    · subst e
      rw [hG] at eg
      rw [tog_at hG, tog_at eg.symm]
    · rw [tog_ne e, tog_ne e]; exact eg
  · obtain ⟨v, ev, w'⟩ := h1 i d e
    refine ⟨v, ev, w'.sm (.tog hG t) fun a fa => tog_ne fun z => ?_⟩
    obtain ⟨_, ng, _⟩ := h2 i a fa
    rw [z, hG] at ng; cases ng
  · obtain ⟨n0, ng, o, ho⟩ := h2 i a fa
    have e : a ≠ p := fun z => by rw [z, hG] at ng; cases ng
    exact ⟨tog_none n0, tog_none ng, o, by rw [tog_ne e]; exact ho⟩
/-- back from a stretch under a lock -/
theorem Ext.tog (s : Le G H) (hG : G p = some w) (x : Ext (SH.tog p u G) (SH.tog p u H) G' H') : Ext G H (SH.tog p w G') (SH.tog p w H') := by
  have hH := s _ _ hG
  have eH := x.same p u (tog_at hH)
  have eG : G' p = some u := (x.keep p u (tog_at hH)).trans (tog_at hG)
  refine ⟨fun a o h => ?_, fun a o h => ?_, x.sub.tog eG⟩
  · by_cases e : a = p
    · subst e
      rw [hH] at h
      cases h
      exact tog_at eH
    · rw [tog_ne e]
      exact x.same a o (by rw [tog_ne e]; exact h)
  · by_cases e : a = p
    · subst e
      rw [tog_at eG, hG]
    · rw [tog_ne e]
      have := x.keep a o (by rw [tog_ne e]; exact h)
      rw [tog_ne e] at this
      exact this
theorem Two2.symm {u w : HO} (t : Two2 u w) : Two2 w u := by
  rcases t with t | t
  · exact .inr t
  · exact .inl t
theorem KdR.tog {κ : Kd} {v : V} {d : D} (hG' : G' p = some u) (t : Two2 u w) (hp : ∃ o, H p = some o) (k : KdR P κ (SH.tog p u H) G' H' v d) (hb : ∀ o, κ ≠ .bo o) : KdR P κ H (SH.tog p w G') (SH.tog p w H') v d := by
  cases κ with
  | sc => exact k
  | sh => exact Rp.sm (.tog hG' t.symm) k
  | bo o => exact absurd rfl (hb o)
  | fr o =>
    obtain ⟨F, n, ow⟩ := k
    have np : ∀ a, F a → a ≠ p := fun a fa z => by
      obtain ⟨_, ng, _⟩ := n a fa
      rw [z, hG'] at ng; cases ng
    refine ⟨F, fun a fa => ?_, ow.sm (.tog hG' t.symm) fun a fa => tog_ne (np a fa)⟩
    obtain ⟨n0, ng, o', ho⟩ := n a fa
    exact ⟨none_tog n0, tog_none ng, o', by rw [tog_ne (np a fa)]; exact ho⟩
/-! ### with the entry's heaps, too -/
def Bs.lk (B : Bs) (p : Addr) (f : HO) : Bs := ⟨upd B.G p f, upd B.H p f⟩
theorem Sm.upd (h : G p = some w) (t : Two2 u w) : Sm G (L2.upd G p u) := by rw [← tog_upd h]; exact .tog h t
theorem Rel.lock (R : Rel P B ω env σ G H) {od : Obj} (hG : G p = some u) (hu : IsDk u) : Rel P (B.lk p (.frz od u)) ω env σ (upd G p (.frz od u)) (upd H p (.frz od u)) := by
  obtain ⟨Fs, h1, h2, h3⟩ := R.slots
  have t : Two2 (.frz od u) u := .inr ⟨od, hu, rfl⟩
  refine ⟨fun a o h => ?_, fun a o h => ?_, fun a o h => ?_, R.len, Fs, fun i d e => ?_, fun i a fa => ?_, h3⟩
  · by_cases e : a = p
    · subst e; rw [upd_same] at h ⊢; exact h
    · rw [upd_ne e] at h ⊢; exact R.sub _ _ h
  · have h : upd B.H p (.frz od u) a = some o := h
    by_cases e : a = p
    · subst e; rw [upd_same] at h ⊢; exact h
    · rw [upd_ne e] at h ⊢; exact R.ent _ _ h
  · have h : upd B.H p (.frz od u) a = some o := h
    show upd G p (.frz od u) a = upd B.G p (.frz od u) a
    by_cases e : a = p
    · subst e; rw [upd_same, upd_same]
    · rw [upd_ne e] at h
      rw [upd_ne e, upd_ne e]; exact R.entG _ _ h
  · obtain ⟨v, ev, w'⟩ := h1 i d e
    refine ⟨v, ev, w'.sm (.upd hG t) fun a fa => upd_ne fun z => ?_⟩
    obtain ⟨_, ng, _⟩ := h2 i a fa
    rw [z, hG] at ng; cases ng
  · obtain ⟨n0, ng, o, ho⟩ := h2 i a fa
    have e : a ≠ p := fun z => by rw [z, hG] at ng; cases ng
    exact ⟨by show upd B.H p _ a = none; rw [upd_ne e]; exact n0, by rw [upd_ne e]; exact ng, o, by rw [upd_ne e]; exact ho⟩
/-- what the entry's heaps know of p -/
def EntAt (B : Bs) (p : Addr) (u : HO) : Prop := ∀ o, B.H p = some o → o = u ∧ B.G p = some u
theorem Rel.entAt (R : Rel P B ω env σ G H) (hG : G p = some u) : EntAt B p u := fun o h => by
  have h1 := R.ent _ _ h
  rw [R.sub _ _ hG] at h1
  cases h1
  exact ⟨rfl, (R.entG _ _ h).symm.trans hG⟩
theorem Rel.unlock {od : Obj} (hu : IsDk u) (hB : EntAt B p u) (R : Rel P (B.lk p (.frz od u)) ω env σ G H) : H p = some (.frz od u) ∧ G p = some (.frz od u) ∧ Rel P B ω env σ (upd G p u) (upd H p u) := by
  have e0 : (B.lk p (.frz od u)).H p = some (.frz od u) := upd_same
  have eH := R.ent p _ e0
  have eG : G p = some (.frz od u) := (R.entG p _ e0).trans upd_same
  refine ⟨eH, eG, ?_⟩
  obtain ⟨Fs, h1, h2, h3⟩ := R.slots
  have t : Two2 u (.frz od u) := .inl ⟨od, hu, rfl⟩
  refine ⟨fun a o h => ?_, fun a o h => ?_, fun a o h => ?_, R.len, Fs, fun i d e => ?_, fun i a fa => ?_, h3⟩
  · by_cases e : a = p
    · subst e; rw [upd_same] at h ⊢; exact h
    · rw [upd_ne e] at h ⊢; exact R.sub _ _ h
  · by_cases e : a = p
    · subst e; rw [upd_same]; rw [(hB o h).1]
    · rw [upd_ne e]; exact R.ent a o (by show upd B.H p _ a = some o; rw [upd_ne e]; exact h)
  · by_cases e : a = p
    · subst e; rw [upd_same]; exact (hB o h).2.symm
    · rw [upd_ne e]
      have := R.entG a o (by show upd B.H p _ a = some o; rw [upd_ne e]; exact h)
      rw [this]
      exact upd_ne e
  · obtain ⟨v, ev, w'⟩ := h1 i d e
    refine ⟨v, ev, w'.sm (.upd eG t) fun a fa => upd_ne fun z => ?_⟩
    obtain ⟨_, ng, _⟩ := h2 i a fa
    rw [z, eG] at ng; cases ng
  · obtain ⟨n0, ng, o, ho⟩ := h2 i a fa
    have e : a ≠ p := fun z => by rw [z, eG] at ng; cases ng
    refine ⟨?_, by rw [upd_ne e]; exact ng, o, by rw [upd_ne e]; exact ho⟩
    have n0 : upd B.H p (.frz od u) a = none := n0
    rw [upd_ne e] at n0; exact n0
theorem Ext.unlock {od : Obj} (hu : IsDk u) (hB : EntAt B p u) (x : Ext (B.lk p (.frz od u)).G (B.lk p (.frz od u)).H G H) : H p = some (.frz od u) ∧ G p = some (.frz od u) ∧ Ext B.G B.H (upd G p u) (upd H p u) := by
  have e0 : (B.lk p (.frz od u)).H p = some (.frz od u) := upd_same
  have eH := x.same p _ e0
  have eG : G p = some (.frz od u) := (x.keep p _ e0).trans upd_same
  refine ⟨eH, eG, fun a o h => ?_, fun a o h => ?_, fun a o h => ?_⟩
  · by_cases e : a = p
    · subst e; rw [upd_same, (hB o h).1]
    · rw [upd_ne e]; exact x.same a o (by show upd B.H p _ a = some o; rw [upd_ne e]; exact h)
  · by_cases e : a = p
    · subst e; rw [upd_same]; exact (hB o h).2.symm
    · rw [upd_ne e]
      have := x.keep a o (by show upd B.H p _ a = some o; rw [upd_ne e]; exact h)
      rw [this]
      exact upd_ne e
  · by_cases e : a = p
    · subst e; rw [upd_same] at h ⊢; exact h
    · rw [upd_ne e] at h ⊢; exact x.sub _ _ h
theorem KdR.unlock {κ : Kd} {od : Obj} {v : V} {d : D} (hu : IsDk u) (eG : G p = some (.frz od u)) (k : KdR P κ (B.lk p (.frz od u)).H G H v d) (hb : ∀ o, κ ≠ .bo o) : KdR P κ B.H (upd G p u) (upd H p u) v d := by
  have t : Two2 u (.frz od u) := .inl ⟨od, hu, rfl⟩
  cases κ with
  | sc => exact k
  | sh => exact Rp.sm (.upd eG t) k
  | bo o => exact absurd rfl (hb o)
  | fr o =>
    obtain ⟨F, n, ow⟩ := k
    have np : ∀ a, F a → a ≠ p := fun a fa z => by
      obtain ⟨_, ng, _⟩ := n a fa
      rw [z, eG] at ng; cases ng
    refine ⟨F, fun a fa => ?_, ow.sm (.upd eG t) fun a fa => upd_ne (np a fa)⟩
    obtain ⟨n0, ng, o', ho⟩ := n a fa
    have n0 : upd B.H p (.frz od u) a = none := n0
    rw [upd_ne (np a fa)] at n0
    exact ⟨n0, by rw [upd_ne (np a fa)]; exact ng, o', by rw [upd_ne (np a fa)]; exact ho⟩
end
end SH
end
section
set_option Elab.async false
set_option linter.all false
set_option autoImplicit false
set_option maxRecDepth 10000
/-! .. list comprehensions; all expressions. -/
namespace SH
open PySem L2

section
variable {P : Pm} {B : Bs} {I : Ci} {k : Nat} {W : WX} {X : Cx} {ω : List Own}
theorem wipe_wipe (σ : St) (is : List Nat) : wipe (wipe σ is) is = wipe σ is := wipe_same (wipe_length σ is) fun j hj => by rw [wipe_get, if_neg hj]
theorem Rel.wiped {env : Env} {σ : St} {G H : Hp} (R : Rel P B ω env σ G H) : ∀ is : List Nat, Rel P B ω (wipeE env is) (wipe σ is) G H
  | [] => R
  | i :: is => (R.wiped is).drop1 i none
/-- one more of several -/
theorem KdsR.snoc {o : Own} {H₀ G H G' H' : Hp} {F : Addr → Prop} {v : V} {d : D} {vs : List V} {ds : List D} (s : Le G H) (l : ∀ a, H a = none → H₀ a = none) (r : KdsR P o H₀ G H vs ds) (x : Ext G H G' H') (n : New H G' H' F) (w : Ow P G' H' o F v d) : KdsR P o H₀ G' H' (vs ++ [v]) (ds ++ [d]) := by
  obtain ⟨e, Fs, a, b, c⟩ := r.ext s x
  have old : ∀ i q, Fs i q → i < vs.length → False → False := fun _ _ _ _ z => z
  obtain ⟨_, Fs, a0, b0, c0⟩ := r
  refine ⟨by simp [e], fun i => if i < vs.length then Fs i else if i = vs.length then F else fun _ => False, fun i v' d' h1 h2 => ?_, fun i => ?_, fun i j q h1 h2 => ?_⟩
  · show Ow P G' H' o (if i < vs.length then Fs i else if i = vs.length then F else fun _ => False) v' d'
    by_cases hi : i < vs.length
    · rw [if_pos hi]
      rw [List.getElem?_append_left hi] at h1
      rw [List.getElem?_append_left (e ▸ hi)] at h2
      refine (a0 i v' d' h1 h2).frame (x.le s) fun q hq => ?_
      obtain ⟨_, _, u, hu⟩ := b0 i q hq
      rw [hu]; exact x.same q u hu
    · rw [if_neg hi]
      rw [List.getElem?_append_right (Nat.le_of_not_lt hi)] at h1
      rw [List.getElem?_append_right (e ▸ Nat.le_of_not_lt hi), ← e] at h2
      by_cases hi2 : i = vs.length
      · rw [if_pos hi2]
        subst hi2
        simp at h1 h2
        subst h1; subst h2
        exact w
      · rw [List.getElem?_eq_none (by simp; omega)] at h1; cases h1
  · show New H₀ G' H' (if i < vs.length then Fs i else if i = vs.length then F else fun _ => False)
    by_cases hi : i < vs.length
    · rw [if_pos hi]; exact (b0 i).ext x
    · rw [if_neg hi]
      by_cases hi2 : i = vs.length
      · rw [if_pos hi2]; exact fun q hq => ⟨l q (n q hq).1, (n q hq).2⟩
      · rw [if_neg hi2]; exact fun _ z => z.elim
  · have h1 : (if i < vs.length then Fs i else if i = vs.length then F else fun _ => False) q := h1
    have h2 : (if j < vs.length then Fs j else if j = vs.length then F else fun _ => False) q := h2
    have cl : ∀ k, Fs k q → F q → False := fun k z1 z2 => by
      obtain ⟨_, _, u, hu⟩ := b0 k q z1
      rw [(n q z2).1] at hu; cases hu
    by_cases hi : i < vs.length
    · rw [if_pos hi] at h1
      by_cases hj : j < vs.length
      · rw [if_pos hj] at h2; exact c0 i j q h1 h2
      · rw [if_neg hj] at h2
        by_cases hj2 : j = vs.length
        · rw [if_pos hj2] at h2; exact (cl i h1 h2).elim
        · rw [if_neg hj2] at h2; exact h2.elim
    · rw [if_neg hi] at h1
      by_cases hi2 : i = vs.length
      · rw [if_pos hi2] at h1
        by_cases hj : j < vs.length
        · rw [if_pos hj] at h2; exact (cl j h2 h1).elim
        · rw [if_neg hj] at h2
          by_cases hj2 : j = vs.length
          · rw [hi2, hj2]
          · rw [if_neg hj2] at h2; exact h2.elim
      · rw [if_neg hi2] at h1; exact h1.elim
theorem KdsR.out {o : Own} {H₀ G H : Hp} {p : Addr} {u : HO} {vs : List V} {ds : List D} (h1 : ∃ u, H₀ p = some u) (r : KdsR P o H₀ G H vs ds) : KdsR P o H₀ G (upd H p u) vs ds := by
  obtain ⟨e, Fs, a, b, c⟩ := r
  have np : ∀ i a, Fs i a → a ≠ p := fun i a h z => by
    obtain ⟨hn, _⟩ := b i a h
    obtain ⟨u, hu⟩ := h1
    rw [z, hu] at hn; cases hn
  refine ⟨e, Fs, fun i v d z1 z2 => (a i v d z1 z2).frame (.refl _) fun q hq => upd_ne (np i q hq), fun i q hq => ?_, c⟩
  obtain ⟨n0, ng, w, hw⟩ := b i q hq
  exact ⟨n0, ng, w, by rw [upd_ne (np i q hq)]; exact hw⟩
theorem Ext.out {G H G' H' : Hp} {p : Addr} {u : HO} (x : Ext G H G' H') (hp : H p = none) (hg : G' p = none) : Ext G H G' (upd H' p u) :=
  ⟨fun a w h => by rw [upd_ne (ne_of_none h hp)]; exact x.same a w h, x.keep, fun a w h => by rw [upd_ne (fun z => by rw [z, hg] at h; cases h)]; exact x.sub a w h⟩
theorem mk_lst {o : Own} {H₀ H₁ G H : Hp} {p : Addr} {vs : List V} {ds : List D} (l : Le H₀ H₁) (h0 : H₀ p = none) (h1 : ∃ u, H₁ p = some u) (hg : G p = none) (hp : H p = some (.lst vs)) (h : KdsR P o H₁ G H vs ds) : KdR P (.fr (.nd o)) H₀ G H (.ref p) (.lst ds) := by
  obtain ⟨e, Fs, a, b, c⟩ := h
  have np : ∀ i a, Fs i a → a ≠ p := fun i a h z => by
    obtain ⟨hn, _⟩ := b i a h
    obtain ⟨u, hu⟩ := h1
    rw [z, hu] at hn; cases hn
  refine ⟨fun a => a = p ∨ ∃ i, Fs i a, fun a h => ?_, .lst Fs hp (.inl rfl) e a (fun i a h => ⟨.inr ⟨i, h⟩, np i a h⟩) c⟩
  rcases h with rfl | ⟨i, h⟩
  · exact ⟨h0, hg, _, hp⟩
  · obtain ⟨n0, ng, u, hu⟩ := b i a h
    exact ⟨none_le l n0, ng, u, hu⟩
def lcF (tg : Tg) (c : CEo) (e : CE) (env0 : Env) : D → Res (Option D) := fun d => bindT tg d env0 >>= fun env' => evO c env' >>= fun b => match b with
  | none => evE e env' >>= fun x => .ok (some x)
  | some b => asB b >>= fun k => if k then evE e env' >>= fun x => .ok (some x) else .ok none
theorem lc_ok {f : D → Res (Option D)} : ∀ {ds acc : List D} {c : Nat} {n : Int}, lcLoop f ds acc ≠ .exc c n
  | [], _, _, _, e => by cases e
  | d :: ds, acc, c, n, e => by
    rw [lcLoop] at e
    split at e
    · split at e
      · exact lc_ok e
      · cases e
    · exact lc_ok e
    · cases e
/-- the turns of a comprehension from what its source gives on -/
def tLcR (J : It) (g : TG) (tt : TT) (te : TE) (vs : List Nat) (σ : St) (H1 : Hp) (Q : VK) : Prop := ∀ D, H1 D = none → ∃ Wd : Nat → Nat → Hp → Prop, (∃ m, Wd 0 m (upd H1 D (.lst []))) ∧ ∀ i m H, Wd i m H →
  (J.stop i H ∧ Q (.ref D) H) ∨ (J.go i H ∧ ∃ Nx : Hp → Prop, (∀ H', Nx H' → ∃ m', m' < m ∧ Wd (i + 1) m' H') ∧ ∀ x H', J.yld i H x H' → g x (wipe σ vs) H' fun σ2 H2 => wipe σ2 vs = wipe σ vs ∧ tt σ2 H2 fun b H3 =>
    (if b = true then te σ2 H3 fun y H4 => ∃ acc, H4 D = some (.lst acc) ∧ acc.length < sizeLine ∧ Nx (upd H4 D (.lst (acc ++ [y]))) else Nx H3))
def lcT (cd : CEo) (env : Env) : Res Bool := evO cd env >>= fun b => match b with
  | none => .ok true
  | some d => asB d
theorem lc_turns {tg : Tg} {cd : CEo} {el : CE} {κe : Kd} {o : Own} (hke : kOK κe (ownOf κe) = true) (oo : o = .sc ∨ o = .sh) {env : Env} {σ : St} {G H G₁ H₁ : Hp} {J : It} {items res : List D} {Q : VK} (R : Rel P B ω env σ G H)
    (er : lcLoop (lcF tg cd el (wipeE env (tgIs tg))) items [] = .ok res) (q : Out P (fun G' H' v d => KdR P (.fr (.nd (ownOf κe))) H G' H' v d) W σ G H (Res.ok (D.lst res)) Q) (x₁ : Ext G H G₁ H₁) (sr : SrcR P o false G₁ H₁ J items) :
    tLcR J (gT X.K tg) (tT P B (setO ω o (tgIs tg)) (fun _ _ _ _ => False) (lcT cd)) (tE P B (setO ω o (tgIs tg)) κe (fun _ _ _ _ => False) (evE el)) (tgIs tg) σ H₁ Q := by
  obtain ⟨vs, elv, hvs, itok⟩ := sr
  intro Dn hD
  have R₁ := (R.ext x₁).wiped (tgIs tg)
  -- between the turns
  refine ⟨fun i m H₂ => ∃ G₂ av ad, i + m = items.length ∧ Ext G₁ H₁ G₂ H₂ ∧ G₂ Dn = none ∧ H₂ Dn = some (.lst av) ∧
    KdsR P (ownOf κe) (upd H₁ Dn (.lst [])) G₂ H₂ av ad ∧ lcLoop (lcF tg cd el (wipeE env (tgIs tg))) (items.drop i) ad = .ok res,
    ⟨items.length, G₁, [], [], by simp, Ext.push R₁.sub hD, none_le R₁.sub hD, upd_same, KdsR.nil, er⟩, fun i m H₂ ⟨G₂, av, ad, him, x₂, hg₂, hd₂, ks, el₂⟩ => ?_⟩
  · have R₂ := R₁.ext x₂
    by_cases hi : vs.length ≤ i
    · refine .inl ⟨itok.stop i H₂ x₂.same hi, ?_⟩
      rw [List.drop_eq_nil_of_le (by omega)] at el₂
      cases el₂
      refine q _ G₂ H₂ (x₁.trans x₂) (mk_lst (H₁ := upd H₁ Dn (.lst [])) (fun a u hu => ?_) (none_le x₁.same hD) ⟨_, upd_same⟩ hg₂ hd₂ ks)
      rw [upd_ne (ne_of_none (x₁.same a u hu) hD)]; exact x₁.same a u hu
    · have hi : i < vs.length := Nat.lt_of_not_le hi
      refine .inr ⟨itok.go i H₂ x₂.same hi, fun H₅ => ∃ G₅ av ad, Ext G₁ H₁ G₅ H₅ ∧ G₅ Dn = none ∧ H₅ Dn = some (.lst av) ∧
        KdsR P (ownOf κe) (upd H₁ Dn (.lst [])) G₅ H₅ av ad ∧ lcLoop (lcF tg cd el (wipeE env (tgIs tg))) (items.drop (i + 1)) ad = .ok res, fun H' ⟨G₅, av', ad', y1, y2, y3, y5, y6⟩ => ⟨m - 1, by omega, G₅, av', ad', by omega, y1, y2, y3, y5, y6⟩, fun xv H' hy => ?_⟩
      obtain ⟨rfl, hxv⟩ := itok.yld i H₂ xv H' x₂.same hi hy
      have hii : i < items.length := by omega
      rw [List.drop_eq_getElem_cons hii, lcLoop] at el₂
      have wx : Ow P G₂ H' o (fun _ => False) xv items[i] := (hvs i xv items[i] hxv (List.getElem?_eq_getElem hii)).frame (x₂.le (R.ext x₁).sub) fun _ z => z.elim
      unfold lcF at el₂
      cases eb : bindT tg items[i] (wipeE env (tgIs tg)) with
      | exc cc n => exact (bind_exc eb).elim
      | bad => rw [eb] at el₂; cases el₂
      | ok env' =>
      rw [eb] at el₂
      refine bind_ok oo R₂ wx eb fun σ' R₃ hw => ⟨by rw [hw, wipe_wipe], ?_⟩
      have nn : ∀ a, H' a = none → upd H₁ Dn (.lst []) a = none := fun a ha => by
        rw [upd_ne (fun z => by rw [z, hd₂] at ha; cases ha)]
        exact none_le x₂.same ha
      have el₂ : (match (evO cd env' >>= fun b => match b with
        | none => evE el env' >>= fun x => Res.ok (some x)
        | some b => asB b >>= fun k => if k then evE el env' >>= fun x => Res.ok (some x) else Res.ok none) with
        | .ok (some x) => if ad.length < lim then lcLoop (lcF tg cd el (wipeE env (tgIs tg))) (items.drop (i + 1)) (ad ++ [x]) else .bad
        | .ok none => lcLoop (lcF tg cd el (wipeE env (tgIs tg))) (items.drop (i + 1)) ad
        | _ => .bad) = Res.ok res := el₂
      -- the item's value, laid
      have last : ∀ {G₃ H₃ : Hp}, Rel P B (setO ω o (tgIs tg)) env' σ' G₃ H₃ → Ext G₂ H' G₃ H₃ → (∀ x, evE el env' = .ok x → ad.length < lim ∧ lcLoop (lcF tg cd el (wipeE env (tgIs tg))) (items.drop (i + 1)) (ad ++ [x]) = .ok res) → (∃ x, evE el env' = .ok x) →
          tE P B (setO ω o (tgIs tg)) κe (fun _ _ _ _ => False) (evE el) σ' H₃ fun y H4 => ∃ acc, H4 Dn = some (.lst acc) ∧ acc.length < sizeLine ∧ ∃ G₅ av ad, Ext G₁ H₁ G₅ (upd H4 Dn (.lst (acc ++ [y]))) ∧ G₅ Dn = none ∧ (upd H4 Dn (.lst (acc ++ [y]))) Dn = some (.lst av) ∧
            KdsR P (ownOf κe) (upd H₁ Dn (.lst [])) G₅ (upd H4 Dn (.lst (acc ++ [y]))) av ad ∧ lcLoop (lcF tg cd el (wipeE env (tgIs tg))) (items.drop (i + 1)) ad = .ok res := fun {G₃ H₃} R₄ x₃ hx ⟨xd, ex⟩ => by
        obtain ⟨hl, hx⟩ := hx xd ex
        refine ⟨env', G₃, R₄, ?_⟩
        rw [ex]
        intro y G₄ H₄ x₄ ky
        obtain ⟨G₅, F, x₅, nF, wF⟩ := ky.keep hke x₄
        have x₆ := x₃.trans x₅
        have hd₄ := x₆.same _ _ hd₂
        have hg₅ : G₅ Dn = none := (x₆.keep _ _ hd₂).trans hg₂
        have ks' := KdsR.snoc R₂.sub nn ks x₆ (fun a fa => ⟨none_le x₃.same (nF a fa).1, (nF a fa).2⟩) wF
        refine ⟨av, hd₄, by rw [← lim_eq, ks.1]; exact hl, G₅, av ++ [y], ad ++ [xd], (x₂.trans x₆).out hD hg₅, hg₅, upd_same, ks'.out ⟨_, upd_same⟩, hx⟩
      refine ⟨env', G₂, R₃, ?_⟩
      show OutB P (fun _ _ _ _ => False) σ' G₂ H' (evO cd env' >>= fun b => match b with
        | none => .ok true
        | some d => asB d) _
      cases ec : evO cd env' with
      | exc cc n => rw [ec] at el₂; cases el₂
      | bad => rw [ec] at el₂; cases el₂
      | ok ob =>
      rw [ec] at el₂
      have goT : (∀ x, evE el env' = .ok x → ad.length < lim ∧ lcLoop (lcF tg cd el (wipeE env (tgIs tg))) (items.drop (i + 1)) (ad ++ [x]) = .ok res) ∧ (∃ x, evE el env' = .ok x) ↔ (match (evE el env' >>= fun x => Res.ok (some x)) with
        | .ok (some x) => if ad.length < lim then lcLoop (lcF tg cd el (wipeE env (tgIs tg))) (items.drop (i + 1)) (ad ++ [x]) else .bad
        | .ok none => lcLoop (lcF tg cd el (wipeE env (tgIs tg))) (items.drop (i + 1)) ad
        | _ => .bad) = Res.ok res := by
        cases ee : evE el env' with
        | exc cc n => exact ⟨(fun ⟨_, _, z⟩ => by cases z), (fun z => by cases z)⟩
        | bad => exact ⟨(fun ⟨_, _, z⟩ => by cases z), (fun z => by cases z)⟩
        | ok x =>
          constructor
          · intro ⟨z, _⟩
            obtain ⟨z1, z2⟩ := z x rfl
            show (if ad.length < lim then _ else _) = _
            rw [if_pos z1]; exact z2
          · intro z
            have z : (if ad.length < lim then lcLoop (lcF tg cd el (wipeE env (tgIs tg))) (items.drop (i + 1)) (ad ++ [x]) else .bad) = Res.ok res := z
            by_cases z1 : ad.length < lim
            · rw [if_pos z1] at z
              exact ⟨fun x' e' => by cases e'; exact ⟨z1, z⟩, x, rfl⟩
            · rw [if_neg z1] at z; cases z
      cases ob with
      | none =>
        intro bv G₃ H₃ x₃ eb'
        subst eb'
        rw [if_pos rfl]
        have g := goT.mpr el₂
        exact last (R₃.ext x₃) x₃ g.1 g.2
      | some db =>
        cases ea : asB db with
        | exc cc n => cases db <;> simp [asB] at ea
        | bad =>
          exfalso
          have : (match (asB db >>= fun k => if k then evE el env' >>= fun x => Res.ok (some x) else Res.ok none) with
            | .ok (some x) => if ad.length < lim then lcLoop (lcF tg cd el (wipeE env (tgIs tg))) (items.drop (i + 1)) (ad ++ [x]) else .bad
            | .ok none => lcLoop (lcF tg cd el (wipeE env (tgIs tg))) (items.drop (i + 1)) ad
            | _ => .bad) = Res.ok res := el₂
          rw [ea] at this
          cases this
        | ok bb =>
          have e9 : (match (asB db >>= fun k => if k then evE el env' >>= fun x => Res.ok (some x) else Res.ok none) with
            | .ok (some x) => if ad.length < lim then lcLoop (lcF tg cd el (wipeE env (tgIs tg))) (items.drop (i + 1)) (ad ++ [x]) else .bad
            | .ok none => lcLoop (lcF tg cd el (wipeE env (tgIs tg))) (items.drop (i + 1)) ad
            | _ => .bad) = Res.ok res := el₂
          rw [ea] at e9
          show OutB P (fun _ _ _ _ => False) σ' G₂ H' (asB db) _
          rw [ea]
          intro bv G₃ H₃ x₃ eb'
          subst eb'
          cases bv with
          | true =>
            rw [if_pos rfl]
            have g := goT.mpr e9
            exact last (R₃.ext x₃) x₃ g.1 g.2
          | false =>
            rw [if_neg (by decide)]
            exact ⟨G₃, av, ad, x₂.trans x₃, (x₃.keep _ _ hd₂).trans hg₂, x₃.same _ _ hd₂, ks.ext R₂.sub x₃, e9⟩
/-- a list comprehension's parts -/
theorem lc_parts {tg : Tg} {src : Src} {cd : CEo} {el : CE} (hs : SS src) (ho : SO cd) (he : SE el) (c : Ct P I k W X) (nd : NdE P k (.lc tg src cd el)) {t : Bool} {e : Expr} {κ : Kd} (h : ck I ω t (.lc tg src cd el) e = some κ) :
    ∃ (elt tg' it : Expr) (ifs : List Expr) (sc' : Scope) (p : Pos) (own : List (Str × Nat)) (wi : TI) (g : TG) (tt : TT) (te : TE), e = .ListComp elt [⟨tg', it, ifs, 0⟩] sc' p ∧ X.calm = true ∧ X.N.Nodup ∧ PI X tg' it wi ∧ BlkOk X.N X.env.scope sc' own ∧
      (∀ (s : Shared) (H : Hp) (C : Addr) (cl : List (Str × Addr)) (fp : List Addr), PG (X.blk s H sc' (compEnvC sc' cl C X.env) fp) tg' g) ∧
      (∀ (s : Shared) (H : Hp) (C : Addr) (cl : List (Str × Addr)) (fp : List Addr), PTs (X.blk s H sc' (compEnvC sc' cl C X.env) fp) ifs tt) ∧
      (∀ (s : Shared) (H : Hp) (C : Addr) (cl : List (Str × Addr)) (fp : List Addr), PE (X.blk s H sc' (compEnvC sc' cl C X.env) fp) elt te) ∧ (∀ x, foldedSetIterable it X.env x = pure x) ∧
      ∀ σ H Q, tE P B ω κ W (evE (.lc tg src cd el)) σ H Q → tLc wi g tt te (own.map (·.2)) σ H Q := by
    rw [NdE] at nd
    rw [ck] at h
    split at h
    · rename_i elt tg' it ifs sc' p e1
      split at h
      · cases h
      · rename_i hhot
        have hot : I.hot = false := by simpa using hhot
        obtain ⟨cm, rm, tk, xs0⟩ := c.cold hot
        split at h
        · rename_i o e2
          split at h
          · rename_i hb
            simp only [Bool.and_eq_true] at hb
            obtain ⟨⟨⟨b1, b2⟩, b3⟩, b4⟩ := hb
            split at h
            · rename_i κe e3
              split at h
              · rename_i hke
                cases h
                obtain ⟨oo, hi⟩ := hs P B I k W X ω c cm nd.1 false it o tg' e2
                -- where the turns run
                have cb : ∀ (s : Shared) (H : Hp) (C : Addr) (cl : List (Str × Addr)) (fp : List Addr), Ct P ⟨relS sc' I.sc, I.N, false, some sc'⟩ k (fun _ _ _ _ => False) (X.blk s H sc' (compEnvC sc' cl C X.env) fp) := fun s H C cl fp =>
                  ⟨c.K, c.prog, c.w, c.mg, c.base, by rw [← c.sc]; rfl, c.N, c.nd, c.un, fun x => by
                    show sc'.names.lookup x = some .cell → (sc'.names.lookup x == some .cell) = true
                    intro z; rw [z]; rfl, fun _ => ⟨cm, rm, fun u s' ⟨_, _, _, _, _, _, _, _, _, _, _, _, _, _, _, _, z⟩ => z.elim, xs0⟩, fun z => by cases z⟩
                have hcm : ∀ (s : Shared) (H : Hp) (C : Addr) (cl : List (Str × Addr)) (fp : List Addr), (X.blk s H sc' (compEnvC sc' cl C X.env) fp).calm = true := fun _ _ _ _ _ => cm
                have own2 : (ownL I.N (tgIs tg)).map (·.2) = tgIs tg := by
                  unfold ownL
                  rw [List.map_map]
                  exact List.map_id' _
                refine ⟨elt, tg', it, ifs, sc', p, ownL I.N (tgIs tg), _, gT X.K tg, _, _, asLc_eq e1, cm, by rw [c.N]; exact c.nd, hi, by rw [c.N, c.sc]; exact blkOk_by b2, fun s H C cl fp => pg_tg (cb s H C cl fp) (hcm s H C cl fp) b3,
                  fun s H C cl fp => (ho P B _ k _ _ (setO ω o (tgIs tg)) (cb s H C cl fp) nd.2.1).2 _ b4, fun s H C cl fp => (he P B _ k _ _ (setO ω o (tgIs tg)) (cb s H C cl fp) nd.2.2).1 _ _ e3, notSet_fold b1, fun σ H Q ⟨env, G, R, q⟩ => ?_⟩
                rw [own2]
                rw [evE] at q
                refine ⟨env, G, R, ?_⟩
                cases ev : evSrc src env with
                | exc cc n => rw [ev] at q; exact q
                | bad => rw [ev] at q; exact q
                | ok items =>
                rw [ev] at q
                have q : Out P (fun G' H' v d => KdR P (.fr (.nd (ownOf κe))) H G' H' v d) W σ G H (lcLoop (lcF tg cd el (wipeE env (tgIs tg))) items [] >>= fun r => Res.ok (D.lst r)) Q := q
                cases er : lcLoop (lcF tg cd el (wipeE env (tgIs tg))) items [] with
                | exc cc n => exact (lc_ok er).elim
                | bad => rw [er] at q; exact False.elim q
                | ok res =>
                rw [er] at q
                intro J G₁ H₁ x₁ sr
                exact lc_turns (W := W) hke oo R er q x₁ sr
              · cases h
            · cases h
          · cases h
        · cases h
    · cases h
theorem s_lc {tg : Tg} {src : Src} {cd : CEo} {el : CE} (hs : SS src) (ho : SO cd) (he : SE el) : SE (.lc tg src cd el) := fun P B I k W X ω c nd => by
  refine both (fun e κ h => ?_) fun e κ h => ?_
  · have h' := h
    rw [ck] at h
    split at h
    · rename_i elt tg' it ifs sc' p e1
      exact ⟨by rw [asLc_eq e1]; rfl, by rw [ck] at h' ⊢; exact h'⟩
    · cases h
  · obtain ⟨elt, tg', it, ifs, sc', p, own, wi, g, tt, te, rfl, cm, nd', hi, ok, hg, ht, hee, hf, imp⟩ := lc_parts (B := B) hs ho he c nd h
    exact (pe_lc cm nd' hi ok hg ht hee hf).imp imp
theorem _root_.L2.PE.or {X : Cx} {e : Expr} {t t' : TE} (h : PE X e t) (h' : PE X e t') : PE X e (fun σ H Q => t σ H Q ∨ t' σ H Q) := ⟨fun pins s σ H Q I z => by
  rcases z with z | z
  · exact h.run pins s σ H Q I z
  · exact h'.run pins s σ H Q I z⟩
theorem it_keys {p : Addr} {od : Obj} {kvs : List (Key × V)} {Z : Hp → Prop} (h : ∀ H, Z H → H p = some (.frz od (.dK kvs))) : ItOK (Itk p od kvs) Z (kvs.map fun e => kV e.1) :=
  ⟨fun i H z hi => ⟨h H z, by simpa using hi⟩, fun i H z hi => ⟨h H z, by simpa using hi⟩, fun i H x H' z hi y => by
    obtain ⟨e, k, v, h1, h2⟩ := y
    exact ⟨e, by rw [List.getElem?_map, h1, h2]; rfl⟩⟩
theorem keys_all {G H : Hp} {kvs : List (Key × V)} {es : List (Ky × D)} (e : kvs.map (·.1) = es.map (fun e => kyK e.1)) : (kvs.map fun e => kV e.1).length = (es.map fun p => kd p.1).length ∧ All2 (fun v d => Ow P G H .sc (fun _ => False) v d) (kvs.map fun e => kV e.1) (es.map fun p => kd p.1) := by
  have e2 : (kvs.map fun e => kV e.1) = es.map fun e => kV (kyK e.1) := by
    have := congrArg (List.map kV) e
    rw [List.map_map, List.map_map] at this
    exact this
  rw [e2]
  exact ⟨by simp, All2.maps fun x _ => .sc (kd_sc x.1)⟩
theorem s_lck {tg : Tg} {i : Nat} {cd : CEo} {el : CE} (ho : SO cd) (he : SE el) : SE (.lck tg i cd el) := fun P B I k W X ω c nd => by
  rw [NdE] at nd
  refine both (fun e κ h => ?_) fun e κ h => ?_
  · have h' := h
    rw [ck] at h
    split at h
    · rename_i elt tg' it ifs sc' p e1
      exact ⟨by rw [asLc_eq e1]; rfl, by rw [ck] at h' ⊢; exact h'⟩
    · cases h
  · rw [ck] at h
    split at h
    · rename_i elt tg' it ifs sc' p e1
      split at h
      · rename_i x px e2
        split at h
        · rename_i hb
          simp only [Bool.and_eq_true, Bool.not_eq_true', beq_iff_eq] at hb
          obtain ⟨⟨⟨⟨⟨hot, hs⟩, how⟩, b2⟩, b3⟩, b4⟩ := hb
          split at h
          · rename_i κe e3
            split at h
            · rename_i hke
              cases h
              obtain ⟨cm, rm, tk, xs0⟩ := c.cold hot
              obtain ⟨a1, a2, a3, a4⟩ := c.xck hs
              have cb : ∀ (s : Shared) (H : Hp) (C : Addr) (cl : List (Str × Addr)) (fp : List Addr), Ct P ⟨relS sc' I.sc, I.N, false, some sc'⟩ k (fun _ _ _ _ => False) (X.blk s H sc' (compEnvC sc' cl C X.env) fp) := fun s H C cl fp =>
                ⟨c.K, c.prog, c.w, c.mg, c.base, by rw [← c.sc]; rfl, c.N, c.nd, c.un, fun x => by
                  show sc'.names.lookup x = some .cell → (sc'.names.lookup x == some .cell) = true
                  intro z; rw [z]; rfl, fun _ => ⟨cm, rm, fun u s' ⟨_, _, _, _, _, _, _, _, _, _, _, _, _, _, _, _, z⟩ => z.elim, xs0⟩, fun z => by cases z⟩
              have own2 : (ownL I.N (tgIs tg)).map (·.2) = tgIs tg := by
                unfold ownL
                rw [List.map_map]
                exact List.map_id' _
              have pk : ∀ B' : Bs, PE X (.ListComp elt [⟨tg', .Name x px, ifs, 0⟩] sc' p) (tLc (iKeys _) (gT X.K tg) (tT P B' (setO ω .sc (tgIs tg)) (fun _ _ _ _ => False) (lcT cd)) (tE P B' (setO ω .sc (tgIs tg)) κe (fun _ _ _ _ => False) (evE el)) (tgIs tg)) := fun B' => by
                have := pe_lc (own := ownL I.N (tgIs tg)) (g := gT X.K tg) (tt := tT P B' (setO ω .sc (tgIs tg)) (fun _ _ _ _ => False) (lcT cd)) (te := tE P B' (setO ω .sc (tgIs tg)) κe (fun _ _ _ _ => False) (evE el)) (pos := p) cm (by rw [c.N]; exact c.nd) (pi_keys (tg := tg') (pe_var (pos := px) a1 a2 a3 a4)) (by rw [c.N, c.sc]; exact blkOk_by b2) (fun s H C cl fp => pg_tg (cb s H C cl fp) cm b3)
                  (fun s H C cl fp => (ho P B' _ k _ _ (setO ω .sc (tgIs tg)) (cb s H C cl fp) nd.1).2 _ b4) (fun s H C cl fp => (he P B' _ k _ _ (setO ω .sc (tgIs tg)) (cb s H C cl fp) nd.2).1 _ _ e3) (notSet_fold rfl)
                rw [own2] at this
                exact this
              rw [asLc_eq e1, asName_eq e2]
              -- what is asked of a dict that is locked already
              have go : ∀ {B' : Bs} {env : Env} {σ : St} {G' H' : Hp} {Q' : VK} {pp : Addr} {od : Obj} {kvs : List (Key × V)} {es : List (Ky × D)} {res : List D}, Rel P B' ω env σ G' H' → σ[i]? = some (some (.ref pp)) → G' pp = some (.frz od (.dK kvs)) → kvs.map (·.1) = es.map (fun e => kyK e.1) →
                  lcLoop (lcF tg cd el (wipeE env (tgIs tg))) (es.map fun p => kd p.1) [] = .ok res → Out P (fun G2 H2 v d => KdR P (.fr (.nd (ownOf κe))) H' G2 H2 v d) W σ G' H' (Res.ok (D.lst res)) Q' →
                  tLc (iKeys fun σ H Q => ∃ v, σ[i]? = some (some v) ∧ Q v H) (gT X.K tg) (tT P B' (setO ω .sc (tgIs tg)) (fun _ _ _ _ => False) (lcT cd)) (tE P B' (setO ω .sc (tgIs tg)) κe (fun _ _ _ _ => False) (evE el)) (tgIs tg) σ H' Q' := fun {B' env σ G' H' Q' pp od kvs es res} R' hσ hG he er q' => by
                obtain ⟨l1, l2⟩ := keys_all (P := P) (G := G') (H := H') he
                exact ⟨.ref pp, hσ, pp, od, rfl, .inl ⟨kvs, R'.sub _ _ hG, lc_turns (W := W) hke (.inl rfl) R' er q' (Ext.refl R'.sub) ⟨_, l1, l2, it_keys fun H2 z => z _ _ (R'.sub _ _ hG)⟩⟩⟩
              have pl : PE X (.ListComp elt [⟨tg', .Name x px, ifs, 0⟩] sc' p) (fun σ H Q => ∃ B', tLc (iKeys fun σ H Q => ∃ v, σ[i]? = some (some v) ∧ Q v H) (gT X.K tg) (tT P B' (setO ω .sc (tgIs tg)) (fun _ _ _ _ => False) (lcT cd)) (tE P B' (setO ω .sc (tgIs tg)) κe (fun _ _ _ _ => False) (evE el)) (tgIs tg) σ H Q) :=
                ⟨fun pins s σ H Q I0 ⟨B', z⟩ => (pk B').run pins s σ H Q I0 z⟩
              refine (PE.or (pe_lock pl) pl).imp fun σ H Q ⟨env, G, R, q⟩ => ?_
              rw [evE] at q
              cases eg : getV env i with
              | exc cc n => rw [eg] at q; unfold getV at eg; split at eg <;> cases eg
              | bad => rw [eg] at q; exact q.elim
              | ok d =>
              rw [eg] at q
              have eslot : env[i]? = some (some d) := by
                unfold getV at eg
                split at eg
                · rename_i d0 e0; cases eg; exact e0
                · cases eg
              cases d with
              | dK es =>
                have q : Out P (fun G' H' v d => KdR P (.fr (.nd (ownOf κe))) H G' H' v d) W σ G H (lcLoop (lcF tg cd el (wipeE env (tgIs tg))) (es.map fun p => kd p.1) [] >>= fun r => Res.ok (D.lst r)) Q := q
                cases er : lcLoop (lcF tg cd el (wipeE env (tgIs tg))) (es.map fun p => kd p.1) [] with
                | exc cc n => exact (lc_ok er).elim
                | bad => rw [er] at q; exact q.elim
                | ok res =>
                rw [er] at q
                obtain ⟨Fs, h1, h2, h3⟩ := R.slots
                obtain ⟨v, hσ, w⟩ := h1 i _ eslot
                rw [how] at w
                have w := w.shr
                cases w with
                | sc z => cases z
                | @dK pp kvs _ hr hk hc =>
                rcases hr with hG | ⟨od, hG⟩
                · refine .inl ⟨pp, .dK kvs, R.sub _ _ hG, trivial, fun od => ⟨B.tog pp (.frz od (.dK kvs)), ?_⟩⟩
                  have t2 : Two2 (.frz od (.dK kvs)) (.dK kvs) := .inr ⟨od, trivial, rfl⟩
                  rw [← tog_upd (R.sub _ _ hG)]
                  refine go (R.tog hG t2) hσ (tog_at hG) hk er fun v G' H' x kd => ?_
                  have eG' : G' pp = some (.frz od (.dK kvs)) := (x.keep pp _ (tog_at (R.sub _ _ hG))).trans (tog_at hG)
                  have eH' : H' pp = some (.frz od (.dK kvs)) := x.sub _ _ eG'
                  refine ⟨eH', ?_⟩
                  rw [← tog_upd eH']
                  exact q v _ _ (x.tog R.sub hG) (KdR.tog eG' t2 ⟨_, R.sub _ _ hG⟩ kd fun _ z => by cases z)
                · exact .inr ⟨B, go R hσ hG hk er q⟩
              | _ => exact q.elim
            · cases h
          · cases h
        · cases h
      · cases h
    · cases h
end
mutual
theorem sE : ∀ c : CE, SE c
  | .var i => s_var i
  | .int i => s_int i
  | .str s => s_str s
  | .bl b => s_bl b
  | .non => s_non
  | .gi x i => s_gi x i
  | .gs x s => s_gs x s
  | .tup es => s_tup (sEs es).1
  | .lst es => s_lst (sEs es).1
  | .dK => s_dK
  | .dT => s_dT
  | .neg a => s_neg (sE a)
  | .not a => s_not (sE a)
  | .bin o a b => s_bin o (sE a) (sE b)
  | .cmp o a b => s_cmp o (sE a) (sE b)
  | .chain o o' a b c => s_chain o o' (sE a) (sE b) (sE c)
  | .and a b => s_and (sE a) (sE b)
  | .or a b => s_or (sE a) (sE b)
  | .ite c a b => s_ite (sE c) (sE a) (sE b)
  | .ix a i => s_ix (sE a) (sE i)
  | .sl a lo hi => s_sl (sE a) (sO lo) (sO hi)
  | .call x f R es => s_call (sEs es).1
  | .blt b es => s_blt (sEs es).1
  | .mth m o es => s_mth (sE o) (sEs es).2
  | .isi a t => s_isi (sE a)
  | .lc tg src c e => s_lc (sSrc src) (sO c) (sE e)
  | .sc a => s_sc (sE a)
  | .tru a => s_tru (sE a)
  | .at i => s_at i
  | .shr a => s_shr (sE a)
  | .chn o o' o2 a b c d => s_chn o o' o2 (sE a) (sE b) (sE c) (sE d)
  | .lrng a b => s_lrng (sE a) (sE b)
  | .lset a => s_lset (sE a)
  | .lck tg i c e => s_lck (sO c) (sE e)
theorem sEs : ∀ es : CEs, SEs es ∧ SEl es
  | .nil => ⟨s_nil, trivial⟩
  | .cons false e es => ⟨s_cons (sE e) (sEs es).1, sE e, (sEs es).2⟩
  | .cons true e es => ⟨s_star (sE e) (sEs es).1, sE e, (sEs es).2⟩
theorem sO : ∀ c : CEo, SO c
  | .none => s_onone
  | .some e => s_osome (sE e)
theorem sSrc : ∀ s : Src, SS s
  | .over e => s_over (sE e)
  | .rng1 a => s_rng1 (sE a)
  | .rng2 a b => s_rng2 (sE a) (sE b)
  | .down a b => s_down (sE a) (sE b)
  | .keys e => s_keys
end
end SH
end
section
set_option Elab.async false
set_option linter.all false
set_option autoImplicit false
set_option maxRecDepth 10000
/-! What lies at a place in an owned thing, and its change. -/
namespace SH
open PySem L2

def StepV (H : Hp) (v : V) (p : D) (x : V) : Prop :=
  (∃ a vs i k, v = .ref a ∧ p = .int i ∧ H a = some (.lst vs) ∧ place i vs.length = some k ∧ vs[k]? = some x) ∨
  (∃ a vs i k, v = .ref a ∧ p = .int i ∧ H a = some (.tup vs) ∧ place i vs.length = some k ∧ vs[k]? = some x) ∨
  (∃ a kvs k, v = .ref a ∧ kyOf p = some k ∧ Rd H a (.dK kvs) ∧ valV kvs (kyK k) = some x)
def PathV (H : Hp) : V → List D → V → Prop
  | v, [], w => w = v
  | v, p :: ps, w => ∃ x, StepV H v p x ∧ PathV H x ps w
theorem StepV.le {H H' : Hp} (l : Le H H') {v x : V} {p : D} (h : StepV H v p x) : StepV H' v p x := by
  rcases h with ⟨a, vs, i, k, e1, e2, e3, e4, e5⟩ | ⟨a, vs, i, k, e1, e2, e3, e4, e5⟩ | ⟨a, kvs, k, e1, e2, e3, e4⟩
  · exact .inl ⟨a, vs, i, k, e1, e2, l _ _ e3, e4, e5⟩
  · exact .inr (.inl ⟨a, vs, i, k, e1, e2, l _ _ e3, e4, e5⟩)
  · exact .inr (.inr ⟨a, kvs, k, e1, e2, Rd.le l e3, e4⟩)
theorem PathV.le {H H' : Hp} (l : Le H H') : ∀ {ps : List D} {v w : V}, PathV H v ps w → PathV H' v ps w
  | [], _, _, h => h
  | _ :: _, _, _, ⟨x, s, h⟩ => ⟨x, s.le l, h.le l⟩
theorem PathV.snoc {H : Hp} {q : D} {w z : V} (s : StepV H w q z) : ∀ {ps : List D} {v : V}, PathV H v ps w → PathV H v (ps ++ [q]) z
  | [], _, h => by cases h; exact ⟨z, s, rfl⟩
  | _ :: _, _, ⟨x, s', h⟩ => ⟨x, s', h.snoc s⟩
def atD : List D → D → Option D
  | [], d => some d
  | p :: ps, d => (stepD d p).bind (atD ps)
theorem atD_snoc {q : D} : ∀ {ps : List D} {d x y : D}, atD ps d = some x → stepD x q = some y → atD (ps ++ [q]) d = some y
  | [], d, x, y, h, e => by
    cases h
    show (stepD d q).bind (atD []) = _
    rw [e]; rfl
  | p :: ps, d, x, y, h, e => by
    have h : (stepD d p).bind (atD ps) = some x := h
    show (stepD d p).bind (atD (ps ++ [q])) = some y
    cases e1 : stepD d p with
    | none => rw [e1] at h; cases h
    | some z => rw [e1] at h; exact atD_snoc (ps := ps) h e
section
variable {P : Pm} {B : Bs} {I : Ci} {k : Nat} {W : WX} {X : Cx} {ω : List Own} {G H : Hp}
theorem Rp.step {v : V} {d p y : D} (r : Rp P H v d) (e : stepD d p = some y) : ∃ x, StepV H v p x ∧ Rp P H x y := by
  unfold stepD at e
  split at e
  · split at e
    · split at e
      · rename_i ds _ i _ k ek
        obtain ⟨a, vs, rfl, ha, el, cc⟩ := r.lstI
        have hk : k < vs.length := by rw [el]; exact (List.getElem?_eq_some_iff.mp e).1
        exact ⟨vs[k], .inl ⟨a, vs, i, k, rfl, rfl, ha, by rw [el]; exact ek, List.getElem?_eq_getElem hk⟩, cc k _ _ (List.getElem?_eq_getElem hk) e⟩
      · cases e
    · cases e
  · split at e
    · split at e
      · rename_i ds _ i _ k ek
        obtain ⟨a, vs, rfl, ha, el, cc⟩ := r.tupI
        have hk : k < vs.length := by rw [el]; exact (List.getElem?_eq_some_iff.mp e).1
        exact ⟨vs[k], .inr (.inl ⟨a, vs, i, k, rfl, rfl, ha, by rw [el]; exact ek, List.getElem?_eq_getElem hk⟩), cc k _ _ (List.getElem?_eq_getElem hk) e⟩
      · cases e
    · cases e
  · split at e
    · rename_i kvs _ k ek
      obtain ⟨a, kv, rfl, ha, hk, cc⟩ := r.dKI
      rcases look_val kyK (fun _ _ => kyK_inj) (R := fun y d => Rp P H y d) hk cc k with ⟨d', y', h1, h2, h3⟩ | ⟨h1, h2⟩
      · rw [e] at h1
        cases h1
        exact ⟨y', .inr (.inr ⟨a, kv, k, rfl, ek, ha, h2⟩), h3⟩
      · rw [e] at h1; cases h1
    · cases e
  · cases e
/-- a path's value -/
def PathR (P : Pm) (env : Env) (σ : St) (H : Hp) (v : V) (r : Nat × List D × D) : Prop := ∃ v₀ d₀, σ[r.1]? = some (some v₀) ∧ env[r.1]? = some (some d₀) ∧ PathV H v₀ r.2.1 v ∧ atD r.2.1 d₀ = some r.2.2 ∧ Rp P H v r.2.2
def tPath (P : Pm) (B : Bs) (ω : List Own) (W : WX) (b : CE) : TE := fun σ H Q => ∃ env G, Rel P B ω env σ G H ∧ Out P (fun _ H' v r => PathR P env σ H' v r) W σ G H (pathD b env) Q
inductive IsP : CE → Prop
  | var (i : Nat) : IsP (.var i)
  | ix {b p : CE} : IsP b → IsP (.ix b p)
theorem pe_path (c : Ct P I k W X) {b : CE} (hb : IsP b) : ∀ {e : Expr} {κ : Kd}, NdE P k b → ck I ω false b e = some κ → PE X e (tPath P B ω W b) := by
  induction hb with
  | var i =>
    intro e κ nd h
    rw [ck] at h
    split at h
    · rename_i x p e1
      split at h
      · rename_i hs
        rw [asName_eq e1]
        obtain ⟨a, b, d, e'⟩ := c.xck hs
        refine (pe_var a b d e').imp fun σ H Q ⟨env, G, R, o⟩ => ?_
        rw [pathD] at o
        unfold getV at o
        split at o
        · rename_i d0 e0
          obtain ⟨Fs, h1, h2, h3⟩ := R.slots
          obtain ⟨v, ev, w⟩ := h1 i d0 e0
          exact ⟨v, ev, o v G H (.refl R.sub) ⟨v, d0, ev, e0, rfl, rfl, w.rp R.sub⟩⟩
        · exact False.elim o
      · cases h
    · cases h
  | @ix b p hb ih =>
    intro e κ nd h
    rw [NdE] at nd
    rw [ck] at h
    split at h
    · rename_i x y q e1
      split at h
      · rename_i hs
        split at h
        · rename_i κ₁ κ₂ e2 e3
          rw [asIx_eq e1]
          have pb : PE X x (tPath P B ω W b) := ih nd.1 e2
          · have hu : X.A.units + 1 < cLine := by have := c.un; omega
            refine (pe_ix (((ix_list.or ix_tup).or ix_str).or (ix_dict hu)) pb ((sE p P B I k W X ω c nd.2).1 _ _ e3) (plainIx hs)).imp fun σ H Q ⟨env, G, R, o⟩ => ?_
            rw [pathD] at o
            refine ⟨env, G, R, ?_⟩
            cases e4 : pathD b env with
            | exc cc n => rw [e4] at o; exact o
            | bad => rw [e4] at o; exact o
            | ok r =>
              rw [e4] at o
              intro v G₁ H₁ x₁ pr
              have R₁ := R.ext x₁
              refine ⟨env, G₁, R₁, ?_⟩
              have o : Out P (fun _ H' v r => PathR P env σ H' v r) W σ G H (evE p env >>= fun q => match stepD r.2.2 q with
                | some y => .ok (r.1, r.2.1 ++ [q], y)
                | none => .bad) Q := o
              cases e5 : evE p env with
              | exc cc n =>
                rw [e5] at o
                exact fun dx G' H' y hn hg => o dx G' H' (x₁.trans y) (none_le x₁.same hn) hg
              | bad => rw [e5] at o; exact o
              | ok dq =>
                rw [e5] at o
                intro w G₂ H₂ x₂ kq
                have R₂ := R₁.ext x₂
                have o : Out P (fun _ H' v r => PathR P env σ H' v r) W σ G H (match stepD r.2.2 dq with
                  | some y => .ok (r.1, r.2.1 ++ [dq], y)
                  | none => .bad) Q := o
                cases e6 : stepD r.2.2 dq with
                | none => rw [e6] at o; exact False.elim o
                | some dy =>
                  rw [e6] at o
                  obtain ⟨v₀, d₀, p1, p2, p3, p4, p5⟩ := pr
                  obtain ⟨z, sv, rz⟩ := (p5.le x₂.same).step e6
                  have fin : Q z H₂ := o z G₂ H₂ (x₁.trans x₂) ⟨v₀, d₀, p1, p2, (p3.le x₂.same).snoc sv, atD_snoc p4 e6, rz⟩
                  have rq := kq.rp R₂.sub
                  rcases sv with ⟨a, vs, i, k, rfl, rfl, ha, hp, hx⟩ | ⟨a, vs, i, k, rfl, rfl, ha, hp, hx⟩ | ⟨a, kvs, kk, rfl, hk, ha, hx⟩
                  · refine .inl (.inl (.inl ⟨a, vs, i, z, rfl, rq.int, SqL.of ha, ?_, fin⟩))
                    unfold atI
                    rw [← place_eq, hp]; exact hx
                  · refine .inl (.inl (.inr ⟨a, vs, i, z, rfl, rq.int, SqT.of ha, ?_, fin⟩))
                    unfold atI
                    rw [← place_eq, hp]; exact hx
                  · refine .inr ⟨a, z, rfl, .inl ⟨kvs, kyK kk, ha, kyOf_val rq hk, hx.symm⟩, fin⟩
        · cases h
      · cases h
    · cases h
def deepO : Own → Nat → Option Own
  | o, 0 => some o
  | .nd o, n + 1 => deepO o n
  | _, _ => none
theorem kids_upd {α β : Type} {o : Own} {H' : Hp} {p : Addr} {F F₀ F₁ : Addr → Prop} {Fs : Nat → Addr → Prop} {vs : List α} {ds ds' : List β} {pv : α → V} {pd : β → D} {k : Nat} {x : V} {dx : D}
    (c : ∀ (i : Nat) (q : α) (e : β), vs[i]? = some q → ds[i]? = some e → Ow P G H o (Fs i) (pv q) (pd e)) (s : ∀ i a, Fs i a → F a ∧ a ≠ p) (j : ∀ i j a, Fs i a → Fs j a → i = j) (fp : F p)
    (h0 : ∀ a, F₀ a → Fs k a) (keep : ∀ a, F a → ¬ F₀ a → H' a = H a) (hF : ∀ a, F₁ a → F a → F₀ a) (w : Ow P G H' o (fun a => (Fs k a ∧ ¬ F₀ a) ∨ F₁ a) x dx)
    (hk : ∀ q e, vs[k]? = some q → ds'[k]? = some e → pv q = x ∧ pd e = dx) (hne : ∀ i, i ≠ k → ds'[i]? = ds[i]?) :
    ∃ Fs' : Nat → Addr → Prop, (∀ (i : Nat) (q : α) (e : β), vs[i]? = some q → ds'[i]? = some e → Ow P G H' o (Fs' i) (pv q) (pd e)) ∧ (∀ i a, Fs' i a → ((F a ∧ ¬ F₀ a) ∨ F₁ a) ∧ a ≠ p) ∧ ∀ i j a, Fs' i a → Fs' j a → i = j := by
  have np : ¬ F₀ p := fun z => (s k p (h0 p z)).2 rfl
  refine ⟨fun i => if i = k then (fun a => (Fs k a ∧ ¬ F₀ a) ∨ F₁ a) else Fs i, fun i q e h1 h2 => ?_, fun i a h => ?_, fun i i' a h1 h2 => ?_⟩
  · show Ow P G H' o (if i = k then (fun a => (Fs k a ∧ ¬ F₀ a) ∨ F₁ a) else Fs i) _ _
    by_cases hi : i = k
    · subst hi
      rw [if_pos rfl]
      obtain ⟨e1, e2⟩ := hk q e h1 h2
      rw [e1, e2]; exact w
    · rw [if_neg hi]
      rw [hne i hi] at h2
      exact (c i q e h1 h2).frame (.refl _) fun a ha => keep a (s i a ha).1 fun z => hi (j i k a ha (h0 a z))
  · have h : (if i = k then (fun a => (Fs k a ∧ ¬ F₀ a) ∨ F₁ a) else Fs i) a := h
    by_cases hi : i = k
    · rw [if_pos hi] at h
      rcases h with ⟨h1, h2⟩ | h
      · exact ⟨.inl ⟨(s k a h1).1, h2⟩, (s k a h1).2⟩
      · exact ⟨.inr h, fun z => by subst z; exact np (hF a h fp)⟩
    · rw [if_neg hi] at h
      exact ⟨.inl ⟨(s i a h).1, fun z => hi (j i k a h (h0 a z))⟩, (s i a h).2⟩
  · have h1 : (if i = k then (fun a => (Fs k a ∧ ¬ F₀ a) ∨ F₁ a) else Fs i) a := h1
    have h2 : (if i' = k then (fun a => (Fs k a ∧ ¬ F₀ a) ∨ F₁ a) else Fs i') a := h2
    have cl : ∀ i, i ≠ k → Fs i a → ((Fs k a ∧ ¬ F₀ a) ∨ F₁ a) → False := fun i hi z1 z2 => by
      rcases z2 with ⟨z2, _⟩ | z2
      · exact hi (j i k a z1 z2)
      · exact hi (j i k a z1 (h0 a (hF a z2 (s i a z1).1)))
    by_cases hi : i = k
    · by_cases hi' : i' = k
      · rw [hi, hi']
      · rw [if_pos hi] at h1; rw [if_neg hi'] at h2
        exact (cl i' hi' h2 h1).elim
    · by_cases hi' : i' = k
      · rw [if_neg hi] at h1; rw [if_pos hi'] at h2
        exact (cl i hi h1 h2).elim
      · rw [if_neg hi] at h1; rw [if_neg hi'] at h2
        exact j i i' a h1 h2
/-- where a key stands -/
theorem look_at {κ κ' : Type} [DecidableEq κ] [DecidableEq κ'] (f : κ → κ') (inj : ∀ a b, f a = f b → a = b) (k : κ) : ∀ {es : List (κ × D)} {kvs : List (κ' × V)} {d : D} {x : V}, kvs.map (·.1) = es.map (fun e => f e.1) → look k es = some d → valV kvs (f k) = some x →
    ∃ i, es[i]? = some (k, d) ∧ kvs[i]? = some (f k, x) ∧ ∀ y, put k y es = es.set i (k, y)
  | [], _, _, _, _, h, _ => by cases h
  | (a, b) :: es, [], _, _, h, _, _ => by simp at h
  | (a, b) :: es, (q, v) :: kvs, d, x, h, h1, h2 => by
    simp only [List.map_cons, List.cons.injEq] at h
    obtain ⟨h3, h4⟩ := h
    rw [look] at h1
    by_cases hk : a = k
    · rw [if_pos hk] at h1
      cases h1
      subst hk
      have h3 : q = f a := h3
      subst h3
      rw [valV_pos rfl] at h2
      cases h2
      exact ⟨0, rfl, rfl, fun y => by rw [put, if_pos rfl]; rfl⟩
    · rw [if_neg hk] at h1
      have h3 : q = f a := h3
      subst h3
      rw [valV_neg (fun z => hk (inj _ _ z))] at h2
      obtain ⟨i, i1, i2, i3⟩ := look_at f inj k h4 h1 h2
      exact ⟨i + 1, i1, i2, fun y => by rw [put, if_neg hk, i3]; rfl⟩
theorem stepV_lst {a : Addr} {vs : List V} {p : D} {x : V} (h : StepV H (.ref a) p x) (ha : H a = some (.lst vs)) : ∃ i k, p = .int i ∧ place i vs.length = some k ∧ vs[k]? = some x := by
  rcases h with ⟨b, ws, i, k, e1, e2, e3, e4, e5⟩ | ⟨b, ws, i, k, e1, e2, e3, e4, e5⟩ | ⟨b, kvs, k, e1, e2, e3, e4⟩
  · cases e1; rw [ha] at e3; cases e3; exact ⟨i, k, e2, e4, e5⟩
  · cases e1; rw [ha] at e3; cases e3
  · cases e1
    rcases e3 with e3 | ⟨o, e3⟩ <;> (rw [ha] at e3; cases e3)
theorem stepV_tup {a : Addr} {vs : List V} {p : D} {x : V} (h : StepV H (.ref a) p x) (ha : H a = some (.tup vs)) : ∃ i k, p = .int i ∧ place i vs.length = some k ∧ vs[k]? = some x := by
  rcases h with ⟨b, ws, i, k, e1, e2, e3, e4, e5⟩ | ⟨b, ws, i, k, e1, e2, e3, e4, e5⟩ | ⟨b, kvs, k, e1, e2, e3, e4⟩
  · cases e1; rw [ha] at e3; cases e3
  · cases e1; rw [ha] at e3; cases e3; exact ⟨i, k, e2, e4, e5⟩
  · cases e1
    rcases e3 with e3 | ⟨o, e3⟩ <;> (rw [ha] at e3; cases e3)
theorem stepV_dK {a : Addr} {kvs : List (Key × V)} {p : D} {x : V} (h : StepV H (.ref a) p x) (ha : H a = some (.dK kvs)) : ∃ k, kyOf p = some k ∧ valV kvs (kyK k) = some x := by
  rcases h with ⟨b, ws, i, k, e1, e2, e3, e4, e5⟩ | ⟨b, ws, i, k, e1, e2, e3, e4, e5⟩ | ⟨b, ws, k, e1, e2, e3, e4⟩
  · cases e1; rw [ha] at e3; cases e3
  · cases e1; rw [ha] at e3; cases e3
  · cases e1
    rcases e3 with e3 | ⟨o, e3⟩
    · rw [ha] at e3; cases e3; exact ⟨k, e2, e4⟩
    · rw [ha] at e3; cases e3
/-- the part at a path of an owned thing; its change -/
theorem Ow.at : ∀ {ps : List D} {o o₁ : Own} {F : Addr → Prop} {v u : V} {d du : D}, Ow P G H o F v d → PathV H v ps u → atD ps d = some du → deepO o ps.length = some o₁ →
    ∃ F₀ : Addr → Prop, (∀ a, F₀ a → F a) ∧ Ow P G H o₁ F₀ u du ∧ ∀ (H' : Hp) (F₁ : Addr → Prop) (du' : D) (f : D → Res D), (∀ a, F a → ¬ F₀ a → H' a = H a) → Ow P G H' o₁ F₁ u du' → (∀ a, F₁ a → F a → F₀ a) → f du = .ok du' →
      ∃ d', updAt f ps d = .ok d' ∧ Ow P G H' o (fun a => (F a ∧ ¬ F₀ a) ∨ F₁ a) v d'
  | [], o, o₁, F, v, u, d, du, w, pv, ea, ho => by
    cases pv
    cases ea
    have ho : o = o₁ := by cases o <;> (cases ho; rfl)
    subst ho
    exact ⟨F, fun _ h => h, w, fun H' F₁ du' f _ w' _ hf => ⟨du', hf, w'.more fun a h => .inr h⟩⟩
  | p :: ps, o, o₁, F, v, u, d, du, w, pv, ea, ho => by
    obtain ⟨x, sv, pv⟩ := pv
    cases o with
    | sc => cases ho
    | sh => cases ho
    | nd o =>
      have ho : deepO o ps.length = some o₁ := ho
      have ea : (stepD d p).bind (atD ps) = some du := ea
      cases e1 : stepD d p with
      | none => rw [e1] at ea; cases ea
      | some dx =>
      rw [e1] at ea
      have eb : atD ps dx = some du := ea
      clear ea
      cases w with
      | sc z => cases z <;> simp [stepD] at e1
      | @lst _ _ a vs ds Fs h fa e c s j =>
        obtain ⟨i, k, rfl, hk, hx⟩ := stepV_lst sv h
        have hk2 : place i ds.length = some k := by rw [← e]; exact hk
        simp only [stepD, hk2] at e1
        have hkl : k < ds.length := (List.getElem?_eq_some_iff.mp e1).1
        obtain ⟨F₀, s0, w0, up⟩ := Ow.at (c k x dx hx e1) pv eb ho
        refine ⟨F₀, fun b hb => (s k b (s0 b hb)).1, w0, fun H' F₁ du' f keep w' hF hf => ?_⟩
        obtain ⟨dx', u1, u2⟩ := up H' F₁ du' f (fun b hb nb => keep b (s k b hb).1 nb) w' (fun b hb hs => hF b hb (s k b hs).1) hf
        refine ⟨.lst (ds.set k dx'), by rw [updAt]; simp only [stepD, hk2, e1, u1, Res.ok_bind, setD], ?_⟩
        obtain ⟨Fs', c', s', j'⟩ := kids_upd (pv := id) (pd := id) (ds' := ds.set k dx') c s j fa s0 keep hF u2 (fun q e' z1 z2 => by
          rw [hx] at z1; cases z1
          rw [List.getElem?_set_self hkl] at z2; cases z2
          exact ⟨rfl, rfl⟩) (fun i hi => List.getElem?_set_ne (Ne.symm hi))
        exact .lst Fs' ((keep a fa fun z => (s k a (s0 a z)).2 rfl).trans h) (.inl ⟨fa, fun z => (s k a (s0 a z)).2 rfl⟩) (by simp [e]) c' s' j'
      | @tup _ _ a vs ds Fs h fa e c s j =>
        obtain ⟨i, k, rfl, hk, hx⟩ := stepV_tup sv h
        have hk2 : place i ds.length = some k := by rw [← e]; exact hk
        simp only [stepD, hk2] at e1
        have hkl : k < ds.length := (List.getElem?_eq_some_iff.mp e1).1
        obtain ⟨F₀, s0, w0, up⟩ := Ow.at (c k x dx hx e1) pv eb ho
        refine ⟨F₀, fun b hb => (s k b (s0 b hb)).1, w0, fun H' F₁ du' f keep w' hF hf => ?_⟩
        obtain ⟨dx', u1, u2⟩ := up H' F₁ du' f (fun b hb nb => keep b (s k b hb).1 nb) w' (fun b hb hs => hF b hb (s k b hs).1) hf
        refine ⟨.tup (ds.set k dx'), by rw [updAt]; simp only [stepD, hk2, e1, u1, Res.ok_bind, setD], ?_⟩
        obtain ⟨Fs', c', s', j'⟩ := kids_upd (pv := id) (pd := id) (ds' := ds.set k dx') c s j fa s0 keep hF u2 (fun q e' z1 z2 => by
          rw [hx] at z1; cases z1
          rw [List.getElem?_set_self hkl] at z2; cases z2
          exact ⟨rfl, rfl⟩) (fun i hi => List.getElem?_set_ne (Ne.symm hi))
        exact .tup Fs' ((keep a fa fun z => (s k a (s0 a z)).2 rfl).trans h) (.inl ⟨fa, fun z => (s k a (s0 a z)).2 rfl⟩) (by simp [e]) c' s' j'
      | @dK _ _ a kvs es Fs h fa e nd c s j =>
        obtain ⟨kk, hk, hx⟩ := stepV_dK sv h
        simp only [stepD, hk] at e1
        obtain ⟨k, g1, g2, g3⟩ := look_at kyK (fun _ _ => kyK_inj) kk e e1 hx
        have hkl : k < es.length := (List.getElem?_eq_some_iff.mp g1).1
        obtain ⟨F₀, s0, w0, up⟩ := Ow.at (c k _ _ g2 g1) pv eb ho
        refine ⟨F₀, fun b hb => (s k b (s0 b hb)).1, w0, fun H' F₁ du' f keep w' hF hf => ?_⟩
        obtain ⟨dx', u1, u2⟩ := up H' F₁ du' f (fun b hb nb => keep b (s k b hb).1 nb) w' (fun b hb hs => hF b hb (s k b hs).1) hf
        refine ⟨.dK (put kk dx' es), by rw [updAt]; simp only [stepD, hk, e1, u1, Res.ok_bind, setD], ?_⟩
        rw [g3]
        obtain ⟨Fs', c', s', j'⟩ := kids_upd (pv := fun q : Key × V => q.2) (pd := fun q : Ky × D => q.2) (ds' := es.set k (kk, dx')) c s j fa s0 keep hF u2 (fun q e' z1 z2 => by
          rw [g2] at z1; cases z1
          rw [List.getElem?_set_self hkl] at z2; cases z2
          exact ⟨rfl, rfl⟩) (fun i hi => List.getElem?_set_ne (Ne.symm hi))
        have em : (es.set k (kk, dx')).map (·.1) = es.map (·.1) := by
          rw [List.map_set]
          refine List.ext_getElem? fun n => ?_
          by_cases hn : n = k
          · subst hn
            rw [List.getElem?_set_self (by simpa using hkl), List.getElem?_map, g1]; rfl
          · rw [List.getElem?_set_ne (Ne.symm hn)]
        refine .dK Fs' ((keep a fa fun z => (s k a (s0 a z)).2 rfl).trans h) (.inl ⟨fa, fun z => (s k a (s0 a z)).2 rfl⟩) ?_ (by rw [em]; exact nd) c' s' j'
        have : (es.set k (kk, dx')).map (fun e => kyK e.1) = ((es.set k (kk, dx')).map (·.1)).map kyK := by rw [List.map_map]; rfl
        rw [this, em, List.map_map]
        exact e
      | @dT _ _ a kvs es Fs h fa e nd c s j => simp [stepD] at e1
/-- a leaf of an owned slot is rewritten -/
theorem leaf_done {B : Bs} {env : Env} {σ : St} {G₁ H₁ G₂ H₂ : Hp} {v : V} {i : Nat} {ps : List D} {du du' : D} {o₁ : Own} {Fx : Addr → Prop} {p : Addr} {u : HO} {f : D → Res D} (R₁ : Rel P B ω env σ G₁ H₁) (x : Ext G₁ H₁ G₂ H₂)
    (pr : PathR P env σ H₁ v (i, ps, du)) (ho : deepO (ow ω i) ps.length = some o₁) (nx : New H₁ G₂ H₂ Fx) (hv : v = .ref p)
    (leaf : ∀ F₀ : Addr → Prop, (∀ a, F₀ a → ∃ w, H₁ a = some w) → Ow P G₂ H₂ o₁ F₀ (.ref p) du → F₀ p ∧ Ow P G₂ (upd H₂ p u) o₁ (fun a => F₀ a ∨ Fx a) (.ref p) du') (hf : f du = .ok du') :
    ∃ d₀ d', env[i]? = some (some d₀) ∧ updAt f ps d₀ = .ok d' ∧ Rel P B ω (env.set i (some d')) σ G₂ (upd H₂ p u) := by
  obtain ⟨v₀, d₀, p1, p2, p3, p4, p5⟩ := pr
  obtain ⟨Fs, h1, h2, h3⟩ := R₁.slots
  obtain ⟨v₁, e1, w⟩ := h1 i d₀ p2
  rw [p1] at e1
  cases e1
  have old : ∀ j a, Fs j a → ∃ z, H₁ a = some z := fun j a h => (h2 j a h).2.2
  have w2 : Ow P G₂ H₂ (ow ω i) (Fs i) v₀ d₀ := w.frame (x.le R₁.sub) fun a ha => by
    obtain ⟨z, hz⟩ := old i a ha
    rw [hz]; exact x.same a z hz
  subst hv
  obtain ⟨F₀, s0, w0, up⟩ := Ow.at w2 (p3.le x.same) p4 ho
  obtain ⟨fp, w1⟩ := leaf F₀ (fun a h => old i a (s0 a h)) w0
  have cl : ∀ j a, Fs j a → Fx a → False := fun j a z1 z2 => by
    obtain ⟨z, hz⟩ := old j a z1
    rw [(nx a z2).1] at hz; cases hz
  obtain ⟨d', u1, u2⟩ := up (upd H₂ p u) _ du' f (fun a ha na => upd_ne fun z => na (by rw [z]; exact fp)) w1 (fun a h1 h2 => by
    rcases h1 with h1 | h1
    · exact h1
    · exact (cl i a h2 h1).elim) hf
  refine ⟨d₀, d', p2, u1, ?_⟩
  have pi : Fs i p := s0 p fp
  have R₂ := R₁.ext x
  have ne : ∀ {a w}, G₂ a = some w → a ≠ p := fun {a w} h z => by
    have := ((h2 i).ext x p pi).2.1
    rw [z, this] at h; cases h
  have nb : ∀ {a w}, B.H a = some w → a ≠ p := fun {a w} h z => by
    have := (h2 i p pi).1
    rw [z, this] at h; cases h
  refine ⟨fun a w h => by rw [upd_ne (ne h)]; exact R₂.sub a w h, fun a w h => by rw [upd_ne (nb h)]; exact R₂.ent a w h, R₂.entG, by simp [R₂.len], fun j => if j = i then (fun a => (Fs i a ∧ ¬ F₀ a) ∨ (F₀ a ∨ Fx a)) else Fs j, fun j dj e => ?_, fun j a h => ?_, fun j k a z1 z2 => ?_⟩
  · by_cases hj : j = i
    · subst hj
      have hl : j < env.length := (List.getElem?_eq_some_iff.mp p2).1
      rw [List.getElem?_set_self hl] at e
      cases e
      refine ⟨v₀, p1, ?_⟩
      show Ow P G₂ _ _ (if j = j then (fun a => (Fs j a ∧ ¬ F₀ a) ∨ (F₀ a ∨ Fx a)) else Fs j) v₀ d'
      rw [if_pos rfl]
      exact u2
    · rw [List.getElem?_set_ne (Ne.symm hj)] at e
      obtain ⟨vj, e1, wj⟩ := h1 j dj e
      refine ⟨vj, e1, ?_⟩
      show Ow P G₂ _ _ (if j = i then (fun a => (Fs i a ∧ ¬ F₀ a) ∨ (F₀ a ∨ Fx a)) else Fs j) vj dj
      rw [if_neg hj]
      refine wj.frame (x.le R₁.sub) fun a ha => ?_
      obtain ⟨z, hz⟩ := old j a ha
      rw [upd_ne (fun z => hj (h3 j i a ha (by rw [z]; exact pi))), hz]
      exact x.same a z hz
  · have h : (if j = i then (fun a => (Fs i a ∧ ¬ F₀ a) ∨ (F₀ a ∨ Fx a)) else Fs j) a := h
    have fin : ∀ {F : Addr → Prop}, New B.H G₂ H₂ F → F a → B.H a = none ∧ G₂ a = none ∧ ∃ o, upd H₂ p u a = some o := fun {F} n z => by
      obtain ⟨n1, n2, w, n3⟩ := n a z
      refine ⟨n1, n2, ?_⟩
      by_cases hp : a = p
      · rw [hp, upd_same]; exact ⟨u, rfl⟩
      · rw [upd_ne hp]; exact ⟨w, n3⟩
    by_cases hj : j = i
    · rw [if_pos hj] at h
      rcases h with ⟨h, _⟩ | h | h
      · exact fin ((h2 i).ext x) h
      · exact fin ((h2 i).ext x) (s0 a h)
      · exact fin (F := Fx) (fun a z => ⟨none_le R₁.ent (nx a z).1, (nx a z).2⟩) h
    · rw [if_neg hj] at h
      exact fin ((h2 j).ext x) h
  · have z1 : (if j = i then (fun a => (Fs i a ∧ ¬ F₀ a) ∨ (F₀ a ∨ Fx a)) else Fs j) a := z1
    have z2 : (if k = i then (fun a => (Fs i a ∧ ¬ F₀ a) ∨ (F₀ a ∨ Fx a)) else Fs k) a := z2
    have cl2 : ∀ k, k ≠ i → Fs k a → ((Fs i a ∧ ¬ F₀ a) ∨ (F₀ a ∨ Fx a)) → False := fun k hk y1 y2 => by
      rcases y2 with ⟨y2, _⟩ | y2 | y2
      · exact hk (h3 k i a y1 y2)
      · exact hk (h3 k i a y1 (s0 a y2))
      · exact cl k a y1 y2
    by_cases hj : j = i
    · by_cases hk : k = i
      · rw [hj, hk]
      · rw [if_pos hj] at z1; rw [if_neg hk] at z2
        exact (cl2 k hk z2 z1).elim
    · by_cases hk : k = i
      · rw [if_neg hj] at z1; rw [if_pos hk] at z2
        exact (cl2 j hj z1 z2).elim
      · rw [if_neg hj] at z1; rw [if_neg hk] at z2
        exact h3 j k a z1 z2
theorem updAt_bad {f : D → Res D} {du : D} (hf : f du = .bad) : ∀ {ps : List D} {d : D}, atD ps d = some du → updAt f ps d = .bad
  | [], d, h => by cases h; exact hf
  | p :: ps, d, h => by
    have h : (stepD d p).bind (atD ps) = some du := h
    rw [updAt]
    cases e : stepD d p with
    | none => rfl
    | some x =>
      rw [e] at h
      have h : atD ps x = some du := h
      show (updAt f ps x >>= fun y => Res.ok (setD d p y)) = .bad
      rw [updAt_bad hf h]
      rfl
/-- the slot, and how deep -/
def pathIN : CE → Option (Nat × Nat)
  | .var i => some (i, 0)
  | .ix b _ => match pathIN b with
    | some (i, n) => some (i, n + 1)
    | none => none
  | _ => none
theorem pathIN_ok {b : CE} (hb : IsP b) : ∃ i n, pathIN b = some (i, n) ∧ ∀ env r, pathD b env = .ok r → r.1 = i ∧ r.2.1.length = n := by
  induction hb with
  | var i =>
    refine ⟨i, 0, by rw [pathIN], fun env r e => ?_⟩
    rw [pathD] at e
    cases e1 : getV env i with
    | ok d => rw [e1] at e; cases e; exact ⟨rfl, rfl⟩
    | exc _ _ => rw [e1] at e; cases e
    | bad => rw [e1] at e; cases e
  | @ix b p hb ih =>
    obtain ⟨i, n, e1, h⟩ := ih
    refine ⟨i, n + 1, by rw [pathIN, e1], fun env r e => ?_⟩
    rw [pathD] at e
    cases e2 : pathD b env with
    | exc _ _ => rw [e2] at e; cases e
    | bad => rw [e2] at e; cases e
    | ok r0 =>
      rw [e2] at e
      cases e3 : evE p env with
      | exc _ _ =>
        have e : (evE p env >>= fun q => match stepD r0.2.2 q with
          | some y => Res.ok (r0.1, r0.2.1 ++ [q], y)
          | none => .bad) = .ok r := e
        rw [e3] at e; cases e
      | bad =>
        have e : (evE p env >>= fun q => match stepD r0.2.2 q with
          | some y => Res.ok (r0.1, r0.2.1 ++ [q], y)
          | none => .bad) = .ok r := e
        rw [e3] at e; cases e
      | ok q =>
        have e : (evE p env >>= fun q => match stepD r0.2.2 q with
          | some y => Res.ok (r0.1, r0.2.1 ++ [q], y)
          | none => .bad) = .ok r := e
        rw [e3] at e
        have e : (match stepD r0.2.2 q with
          | some y => Res.ok (r0.1, r0.2.1 ++ [q], y)
          | none => .bad) = .ok r := e
        cases e4 : stepD r0.2.2 q with
        | none => rw [e4] at e; cases e
        | some y =>
          rw [e4] at e
          cases e
          obtain ⟨z1, z2⟩ := h env r0 e2
          exact ⟨z1, by simp [z2]⟩
theorem isP_of {b : CE} {i n : Nat} (h : pathIN b = some (i, n)) : IsP b := by
  have key : ∀ (n : Nat) (b : CE) (i : Nat), pathIN b = some (i, n) → IsP b := fun n => by
    induction n with
    | zero =>
      intro b i h
      cases b <;> first | exact .var _ | (simp [pathIN] at h; done) | skip
      rename_i b p
      rw [pathIN] at h
      split at h <;> cases h
    | succ n ih =>
      intro b i h
      cases b <;> first | (simp [pathIN] at h; done) | skip
      rename_i b p
      rw [pathIN] at h
      split at h
      · rename_i i' n' e
        cases h
        exact .ix (ih _ _ e)
      · cases h
  exact key n b i h
/-- one more child -/
theorem kids_snoc {o : Own} {H' : Hp} {p : Addr} {F Fx : Addr → Prop} {Fs : Nat → Addr → Prop} {vs : List V} {ds : List D} {y : V} {dy : D} (e : vs.length = ds.length)
    (c : ∀ (i : Nat) (v : V) (d : D), vs[i]? = some v → ds[i]? = some d → Ow P G H o (Fs i) v d) (s : ∀ i a, Fs i a → F a ∧ a ≠ p) (j : ∀ i j a, Fs i a → Fs j a → i = j)
    (keep : ∀ a, a ≠ p → H' a = H a) (w : Ow P G H' o Fx y dy) (dis : ∀ a, F a → Fx a → False) (fp : F p) :
    ∃ Fs' : Nat → Addr → Prop, (∀ (i : Nat) (v : V) (d : D), (vs ++ [y])[i]? = some v → (ds ++ [dy])[i]? = some d → Ow P G H' o (Fs' i) v d) ∧ (∀ i a, Fs' i a → (F a ∨ Fx a) ∧ a ≠ p) ∧ ∀ i j a, Fs' i a → Fs' j a → i = j := by
  refine ⟨fun i => if i < vs.length then Fs i else if i = vs.length then Fx else fun _ => False, fun i v d h1 h2 => ?_, fun i a h => ?_, fun i i' a h1 h2 => ?_⟩
  · show Ow P G H' o (if i < vs.length then Fs i else if i = vs.length then Fx else fun _ => False) v d
    by_cases hi : i < vs.length
    · rw [if_pos hi]
      rw [List.getElem?_append_left hi] at h1
      rw [List.getElem?_append_left (e ▸ hi)] at h2
      exact (c i v d h1 h2).frame (.refl _) fun a ha => keep a (s i a ha).2
    · rw [if_neg hi]
      rw [List.getElem?_append_right (Nat.le_of_not_lt hi)] at h1
      rw [List.getElem?_append_right (e ▸ Nat.le_of_not_lt hi), ← e] at h2
      by_cases hi2 : i = vs.length
      · rw [if_pos hi2]
        subst hi2
        simp at h1 h2
        subst h1; subst h2
        exact w
      · rw [List.getElem?_eq_none (by simp; omega)] at h1; cases h1
  · have h : (if i < vs.length then Fs i else if i = vs.length then Fx else fun _ => False) a := h
    by_cases hi : i < vs.length
    · rw [if_pos hi] at h; exact ⟨.inl (s i a h).1, (s i a h).2⟩
    · rw [if_neg hi] at h
      by_cases hi2 : i = vs.length
      · rw [if_pos hi2] at h
        exact ⟨.inr h, fun z => dis p fp (by rw [← z]; exact h)⟩
      · rw [if_neg hi2] at h; exact h.elim
  · have h1 : (if i < vs.length then Fs i else if i = vs.length then Fx else fun _ => False) a := h1
    have h2 : (if i' < vs.length then Fs i' else if i' = vs.length then Fx else fun _ => False) a := h2
    by_cases hi : i < vs.length
    · rw [if_pos hi] at h1
      by_cases hi' : i' < vs.length
      · rw [if_pos hi'] at h2; exact j i i' a h1 h2
      · rw [if_neg hi'] at h2
        by_cases hi2 : i' = vs.length
        · rw [if_pos hi2] at h2; exact (dis a (s i a h1).1 h2).elim
        · rw [if_neg hi2] at h2; exact h2.elim
    · rw [if_neg hi] at h1
      by_cases hi2 : i = vs.length
      · rw [if_pos hi2] at h1
        by_cases hi' : i' < vs.length
        · rw [if_pos hi'] at h2; exact (dis a (s i' a h2).1 h1).elim
        · rw [if_neg hi'] at h2
          by_cases hi3 : i' = vs.length
          · rw [hi2, hi3]
          · rw [if_neg hi3] at h2; exact h2.elim
      · rw [if_neg hi2] at h1; exact h1.elim
/-- an owned list with one more at its end -/
theorem Ow.snoc {o : Own} {F Fx : Addr → Prop} {p : Addr} {vs : List V} {ds : List D} {y : V} {dy : D} (w : Ow P G H (.nd o) F (.ref p) (.lst ds)) (hp : H p = some (.lst vs)) (wy : Ow P G H o Fx y dy) (dis : ∀ a, F a → Fx a → False) :
    F p ∧ Ow P G (upd H p (.lst (vs ++ [y]))) (.nd o) (fun a => F a ∨ Fx a) (.ref p) (.lst (ds ++ [dy])) := by
  cases w with
  | sc z => cases z
  | lst Fs h fp e c s j =>
    rw [hp] at h
    cases h
    have hx : ¬ Fx p := fun z => dis p fp z
    obtain ⟨Fs', c', s', j'⟩ := kids_snoc (H' := upd H p (.lst (vs ++ [y]))) e c s j (fun a ha => upd_ne ha) (wy.frame (.refl _) fun a ha => upd_ne fun z => hx (by rw [← z]; exact ha)) dis fp
    exact ⟨fp, .lst Fs' upd_same (.inl fp) (by simp [e]) c' s' j'⟩
end
end SH
end
section
set_option Elab.async false
set_option linter.all false
set_option autoImplicit false
set_option maxRecDepth 10000
/-! Changes of owned things: items stored, lists that grow or shrink, dicts that grow. -/
namespace SH
open PySem L2

section
variable {P : Pm} {G H : Hp}
/-- the new children are old ones and others, each once -/
theorem kids_mix {α β : Type} {o : Own} {H' : Hp} {p : Addr} {F Fx : Addr → Prop} {Fs F2 : Nat → Addr → Prop} {vs vs' : List α} {ds ds' : List β} {pv : α → V} {pd : β → D} {n2 : Nat} {y : Nat → V} {dy : Nat → D} (m : Nat → Nat ⊕ Nat)
    (c : ∀ (i : Nat) (q : α) (e : β), vs[i]? = some q → ds[i]? = some e → Ow P G H o (Fs i) (pv q) (pd e)) (s : ∀ i a, Fs i a → F a ∧ a ≠ p) (j : ∀ i j a, Fs i a → Fs j a → i = j)
    (keep : ∀ a, a ≠ p → H' a = H a) (c2 : ∀ i, i < n2 → Ow P G H' o (F2 i) (y i) (dy i)) (s2 : ∀ i a, F2 i a → Fx a) (j2 : ∀ i j a, F2 i a → F2 j a → i = j) (dis : ∀ a, F a → Fx a → False) (fp : F p)
    (hm : ∀ (i : Nat) (q : α) (e : β), vs'[i]? = some q → ds'[i]? = some e → (∃ (k : Nat) (q0 : α) (e0 : β), m i = .inl k ∧ vs[k]? = some q0 ∧ ds[k]? = some e0 ∧ pv q = pv q0 ∧ pd e = pd e0) ∨ ∃ k, m i = .inr k ∧ k < n2 ∧ pv q = y k ∧ pd e = dy k)
    (minj : ∀ i i', i < vs'.length → i' < vs'.length → m i = m i' → i = i') :
    ∃ Fs' : Nat → Addr → Prop, (∀ (i : Nat) (q : α) (e : β), vs'[i]? = some q → ds'[i]? = some e → Ow P G H' o (Fs' i) (pv q) (pd e)) ∧ (∀ i a, Fs' i a → (F a ∨ Fx a) ∧ a ≠ p) ∧ ∀ i j a, Fs' i a → Fs' j a → i = j := by
  refine ⟨fun i a => i < vs'.length ∧ (match m i with | .inl k => Fs k a | .inr k => F2 k a), fun i q e h1 h2 => ?_, fun i a ⟨_, h⟩ => ?_, fun i i' a ⟨l, h⟩ ⟨l', h'⟩ => ?_⟩
  · have hl : i < vs'.length := (List.getElem?_eq_some_iff.mp h1).1
    rcases hm i q e h1 h2 with ⟨k, q0, e0, e1, e2, e3, e4, e5⟩ | ⟨k, e1, e2, e3, e4⟩
    · rw [e4, e5]
      refine ((c k q0 e0 e2 e3).frame (.refl _) fun a ha => keep a (s k a ha).2).more fun a ha => ⟨hl, ?_⟩
      rw [e1]; exact ha
    · rw [e3, e4]
      refine (c2 k e2).more fun a ha => ⟨hl, ?_⟩
      rw [e1]; exact ha
  · cases e : m i with
    | inl k => rw [e] at h; exact ⟨.inl (s k a h).1, (s k a h).2⟩
    | inr k =>
      rw [e] at h
      exact ⟨.inr (s2 k a h), fun z => dis p fp (by rw [← z]; exact s2 k a h)⟩
  · refine minj i i' l l' ?_
    cases e : m i with
    | inl k =>
      rw [e] at h
      cases e' : m i' with
      | inl k' => rw [e'] at h'; rw [j k k' a h h']
      | inr k' => rw [e'] at h'; exact (dis a (s k a h).1 (s2 k' a h')).elim
    | inr k =>
      rw [e] at h
      cases e' : m i' with
      | inl k' => rw [e'] at h'; exact (dis a (s k' a h').1 (s2 k a h)).elim
      | inr k' => rw [e'] at h'; rw [j2 k k' a h h']
theorem keep_upd {p : Addr} {u : HO} : ∀ a, a ≠ p → upd H p u a = H a := fun a h => upd_ne h
/-- xs[k] = y -/
theorem Ow.setL {o : Own} {F Fx : Addr → Prop} {p : Addr} {vs : List V} {ds : List D} {y : V} {dy : D} {k : Nat} (w : Ow P G H (.nd o) F (.ref p) (.lst ds)) (hp : H p = some (.lst vs)) (wy : Ow P G H o Fx y dy) (dis : ∀ a, F a → Fx a → False) (hk : k < ds.length) :
    F p ∧ Ow P G (upd H p (.lst (vs.set k y))) (.nd o) (fun a => F a ∨ Fx a) (.ref p) (.lst (ds.set k dy)) := by
  cases w with
  | sc z => cases z
  | lst Fs h fp e c s j =>
    rw [hp] at h
    cases h
    have hx : ¬ Fx p := fun z => dis p fp z
    obtain ⟨Fs', c', s', j'⟩ := kids_mix (H' := upd H p (.lst (vs.set k y))) (vs' := vs.set k y) (ds' := ds.set k dy) (pv := id) (pd := id) (n2 := 1) (F2 := fun i a => i = 0 ∧ Fx a) (y := fun _ => y) (dy := fun _ => dy) (fun i => if i = k then .inr 0 else .inl i) c s j keep_upd
      (fun i hi => (wy.frame (.refl _) fun a ha => upd_ne fun z => hx (by rw [← z]; exact ha)).more fun a ha => ⟨by omega, ha⟩) (fun i a h => h.2) (fun i j a h h' => by rw [h.1, h'.1]) dis fp
      (fun i q e' h1 h2 => by
        by_cases hi : i = k
        · right
          subst hi
          rw [List.getElem?_set_self (by rw [e]; exact hk)] at h1
          rw [List.getElem?_set_self hk] at h2
          cases h1; cases h2
          exact ⟨0, if_pos rfl, by omega, rfl, rfl⟩
        · left
          rw [List.getElem?_set_ne (Ne.symm hi)] at h1 h2
          exact ⟨i, q, e', if_neg hi, h1, h2, rfl, rfl⟩)
      (fun i i' _ _ h => by
        by_cases hi : i = k
        · by_cases hi' : i' = k
          · rw [hi, hi']
          · rw [if_pos hi, if_neg hi'] at h; cases h
        · by_cases hi' : i' = k
          · rw [if_neg hi, if_pos hi'] at h; cases h
          · rw [if_neg hi, if_neg hi'] at h; cases h; rfl)
    exact ⟨fp, .lst Fs' upd_same (.inl fp) (by simp [e]) c' s' j'⟩
/-- xs.extend(ys), ys a list of one's own -/
theorem Ow.extL {o : Own} {F Fx : Addr → Prop} {p q : Addr} {vs us : List V} {ds es : List D} (w : Ow P G H (.nd o) F (.ref p) (.lst ds)) (hp : H p = some (.lst vs)) (wy : Ow P G H (.nd o) Fx (.ref q) (.lst es)) (hq : H q = some (.lst us)) (dis : ∀ a, F a → Fx a → False) :
    F p ∧ Ow P G (upd H p (.lst (vs ++ us))) (.nd o) (fun a => F a ∨ Fx a) (.ref p) (.lst (ds ++ es)) := by
  cases w with
  | sc z => cases z
  | lst Fs h fp e c s j =>
    rw [hp] at h
    cases h
    cases wy with
    | sc z => cases z
    | lst F2 h2 fq e2 c2 s2 j2 =>
      rw [hq] at h2
      cases h2
      have hx : ¬ Fx p := fun z => dis p fp z
      obtain ⟨Fs', c', s', j'⟩ := kids_mix (H' := upd H p (.lst (vs ++ us))) (vs' := vs ++ us) (ds' := ds ++ es) (pv := id) (pd := id) (n2 := us.length) (F2 := F2) (y := fun i => us.getD i .non) (dy := fun i => es.getD i .non) (fun i => if i < vs.length then .inl i else .inr (i - vs.length)) c s j keep_upd
        (fun i hi => by
          have a1 : us[i]? = some (us.getD i .non) := by rw [List.getD_eq_getElem?_getD, List.getElem?_eq_getElem hi]; rfl
          have a2 : es[i]? = some (es.getD i .non) := by rw [List.getD_eq_getElem?_getD, List.getElem?_eq_getElem (e2 ▸ hi)]; rfl
          exact (c2 i _ _ a1 a2).frame (.refl _) fun a ha => upd_ne fun z => hx (by rw [← z]; exact (s2 i a ha).1)) (fun i a h => (s2 i a h).1) j2 dis fp
        (fun i q e' h1 h2 => by
          by_cases hi : i < vs.length
          · left
            rw [List.getElem?_append_left hi] at h1
            rw [List.getElem?_append_left (e ▸ hi)] at h2
            exact ⟨i, q, e', if_pos hi, h1, h2, rfl, rfl⟩
          · right
            rw [List.getElem?_append_right (Nat.le_of_not_lt hi)] at h1
            rw [List.getElem?_append_right (e ▸ Nat.le_of_not_lt hi), ← e] at h2
            refine ⟨i - vs.length, if_neg hi, (List.getElem?_eq_some_iff.mp h1).1, ?_, ?_⟩
            · show q = us.getD _ _
              rw [List.getD_eq_getElem?_getD, h1]; rfl
            · show e' = es.getD _ _
              rw [List.getD_eq_getElem?_getD, h2]; rfl)
        (fun i i' _ _ h => by
          by_cases hi : i < vs.length
          · by_cases hi' : i' < vs.length
            · rw [if_pos hi, if_pos hi'] at h; cases h; rfl
            · rw [if_pos hi, if_neg hi'] at h; cases h
          · by_cases hi' : i' < vs.length
            · rw [if_neg hi, if_pos hi'] at h; cases h
            · rw [if_neg hi, if_neg hi'] at h; injection h with h; omega)
      exact ⟨fp, .lst Fs' upd_same (.inl fp) (by simp [e, e2]) c' s' j'⟩
/-- xs.insert(k, y) -/
theorem Ow.insL {o : Own} {F Fx : Addr → Prop} {p : Addr} {vs : List V} {ds : List D} {y : V} {dy : D} {k : Nat} (w : Ow P G H (.nd o) F (.ref p) (.lst ds)) (hp : H p = some (.lst vs)) (wy : Ow P G H o Fx y dy) (dis : ∀ a, F a → Fx a → False) :
    F p ∧ Ow P G (upd H p (.lst (vs.take k ++ [y] ++ vs.drop k))) (.nd o) (fun a => F a ∨ Fx a) (.ref p) (.lst (ds.take k ++ [dy] ++ ds.drop k)) := by
  cases w with
  | sc z => cases z
  | lst Fs h fp e c s j =>
    rw [hp] at h
    cases h
    have hx : ¬ Fx p := fun z => dis p fp z
    have get : ∀ {α : Type} (xs : List α) (x : α) (i : Nat), (xs.take k ++ [x] ++ xs.drop k)[i]? = if i < min k xs.length then xs[i]? else if i = min k xs.length then some x else xs[i - 1]? := by
      intro α xs x i
      by_cases h1 : i < min k xs.length
      · rw [if_pos h1, List.append_assoc, List.getElem?_append_left (by simp; omega), List.getElem?_take_of_lt (by omega)]
      · rw [if_neg h1, List.append_assoc, List.getElem?_append_right (by simp; omega), List.length_take]
        by_cases h2 : i = min k xs.length
        · rw [if_pos h2, h2]; simp
        · rw [if_neg h2, List.getElem?_append_right (by simp; omega), List.getElem?_drop]
          by_cases h3 : k ≤ xs.length
          · congr 1
            simp; omega
          · rw [List.getElem?_eq_none (by simp; omega), List.getElem?_eq_none (by omega)]
    obtain ⟨Fs', c', s', j'⟩ := kids_mix (H' := upd H p (.lst (vs.take k ++ [y] ++ vs.drop k))) (vs' := vs.take k ++ [y] ++ vs.drop k) (ds' := ds.take k ++ [dy] ++ ds.drop k) (pv := id) (pd := id) (n2 := 1) (F2 := fun i a => i = 0 ∧ Fx a) (y := fun _ => y) (dy := fun _ => dy)
      (fun i => if i < min k vs.length then .inl i else if i = min k vs.length then .inr 0 else .inl (i - 1)) c s j keep_upd
      (fun i hi => (wy.frame (.refl _) fun a ha => upd_ne fun z => hx (by rw [← z]; exact ha)).more fun a ha => ⟨by omega, ha⟩) (fun i a h => h.2) (fun i j a h h' => by rw [h.1, h'.1]) dis fp
      (fun i q e' h1 h2 => by
        rw [get] at h1 h2
        rw [← e] at h2
        by_cases hi : i < min k vs.length
        · left
          rw [if_pos hi] at h1 h2
          exact ⟨i, q, e', if_pos hi, h1, h2, rfl, rfl⟩
        · rw [if_neg hi] at h1 h2
          by_cases hi2 : i = min k vs.length
          · right
            rw [if_pos hi2] at h1 h2
            cases h1; cases h2
            exact ⟨0, by rw [if_neg hi, if_pos hi2], by omega, rfl, rfl⟩
          · left
            rw [if_neg hi2] at h1 h2
            exact ⟨i - 1, q, e', by rw [if_neg hi, if_neg hi2], h1, h2, rfl, rfl⟩)
      (fun i i' _ _ h => by
        by_cases hi : i < min k vs.length
        · rw [if_pos hi] at h
          by_cases hi' : i' < min k vs.length
          · rw [if_pos hi'] at h; cases h; rfl
          · rw [if_neg hi'] at h
            by_cases hi2 : i' = min k vs.length
            · rw [if_pos hi2] at h; cases h
            · rw [if_neg hi2] at h; injection h with h; omega
        · rw [if_neg hi] at h
          by_cases hi1 : i = min k vs.length
          · rw [if_pos hi1] at h
            by_cases hi' : i' < min k vs.length
            · rw [if_pos hi'] at h; cases h
            · rw [if_neg hi'] at h
              by_cases hi2 : i' = min k vs.length
              · rw [hi1, hi2]
              · rw [if_neg hi2] at h; cases h
          · rw [if_neg hi1] at h
            by_cases hi' : i' < min k vs.length
            · rw [if_pos hi'] at h; injection h with h; omega
            · rw [if_neg hi'] at h
              by_cases hi2 : i' = min k vs.length
              · rw [if_pos hi2] at h; cases h
              · rw [if_neg hi2] at h; injection h with h; omega)
    exact ⟨fp, .lst Fs' upd_same (.inl fp) (by simp [e]) c' s' j'⟩
/-- a list without its last one -/
theorem Ow.popL {o : Own} {F Fx : Addr → Prop} {p : Addr} {vs : List V} {ds : List D} (w : Ow P G H (.nd o) F (.ref p) (.lst ds)) (hp : H p = some (.lst vs)) :
    F p ∧ Ow P G (upd H p (.lst vs.dropLast)) (.nd o) (fun a => F a ∨ Fx a) (.ref p) (.lst ds.dropLast) := by
  cases w with
  | sc z => cases z
  | lst Fs h fp e c s j =>
    rw [hp] at h
    cases h
    refine ⟨fp, .lst Fs upd_same (.inl fp) (by simp [e]) (fun i v d h1 h2 => ?_) (fun i a h => ⟨.inl (s i a h).1, (s i a h).2⟩) j⟩
    rw [List.dropLast_eq_take, List.getElem?_take] at h1 h2
    split at h1
    · split at h2
      · exact (c i v d h1 h2).frame (.refl _) fun a ha => upd_ne (s i a ha).2
      · cases h2
    · cases h1
/-! ### dicts -/
theorem put_find {κ : Type} [DecidableEq κ] (k : κ) (d : D) : ∀ es : List (κ × D), put k d es = match es.findIdx? (fun e => decide (e.1 = k)) with
    | some i => es.set i (k, d)
    | none => es ++ [(k, d)]
  | [] => rfl
  | (k', d') :: es => by
    rw [put, List.findIdx?_cons]
    by_cases h : k' = k
    · rw [if_pos h, h]; simp
    · rw [if_neg h, put_find k d es]
      simp only [h, decide_false]
      cases es.findIdx? (fun e => decide (e.1 = k)) <;> simp
theorem putK_find {κ : Type} [DecidableEq κ] (k : κ) (y : V) : ∀ kvs : List (κ × V), (kvs.map (·.1)).Nodup → putK kvs k y = match kvs.findIdx? (fun e => decide (e.1 = k)) with
    | some i => kvs.set i (k, y)
    | none => kvs ++ [(k, y)]
  | [], _ => rfl
  | (k', y') :: kvs, nd => by
    rw [List.map_cons, List.nodup_cons] at nd
    rw [List.findIdx?_cons]
    by_cases h : k' = k
    · subst h
      have hno : ∀ q ∈ kvs, ¬ q.1 = k' := fun q hq z => nd.1 (List.mem_map.mpr ⟨q, hq, z⟩)
      unfold putK
      simp only [List.any_cons, decide_true, Bool.true_or, ↓reduceIte, List.map_cons]
      show _ = (k', y) :: kvs
      congr 1
      conv => rhs; rw [← List.map_id kvs]
      exact List.map_congr_left fun q hq => by rw [if_neg (hno q hq)]; rfl
    · have ih := putK_find k y kvs nd.2
      have e : putK ((k', y') :: kvs) k y = (k', y') :: putK kvs k y := by
        unfold putK
        simp only [List.any_cons, h, decide_false, Bool.false_or, List.map_cons, ↓reduceIte]
        split <;> rfl
      rw [e, ih]
      simp only [h, decide_false]
      cases kvs.findIdx? (fun e => decide (e.1 = k)) <;> simp
theorem find_keys {κ κ' : Type} [DecidableEq κ] [DecidableEq κ'] (f : κ → κ') (inj : ∀ a b, f a = f b → a = b) (k : κ) : ∀ {es : List (κ × D)} {kvs : List (κ' × V)}, kvs.map (·.1) = es.map (fun e => f e.1) → kvs.findIdx? (fun e => decide (e.1 = f k)) = es.findIdx? (fun e => decide (e.1 = k))
  | [], [], _ => rfl
  | [], _ :: _, h => by simp at h
  | _ :: _, [], h => by simp at h
  | (k', d) :: es, (q, y) :: kvs, h => by
    simp only [List.map_cons, List.cons.injEq] at h
    obtain ⟨h1, h2⟩ := h
    rw [List.findIdx?_cons, List.findIdx?_cons, find_keys f inj k h2]
    have : decide (q = f k) = decide (k' = k) := by
      rw [h1]
      by_cases z : k' = k
      · simp [z]
      · have : ¬ f k' = f k := fun y => z (inj _ _ y)
        simp [z, this]
    simp only [this]
theorem put_keys {κ κ' : Type} [DecidableEq κ] [DecidableEq κ'] (f : κ → κ') (inj : ∀ a b, f a = f b → a = b) (k : κ) (d : D) (y : V) {es : List (κ × D)} {kvs : List (κ' × V)} (h : kvs.map (·.1) = es.map (fun e => f e.1)) (nd : (es.map (·.1)).Nodup) :
    (putK kvs (f k) y).map (·.1) = (put k d es).map (fun e => f e.1) ∧ ((put k d es).map (·.1)).Nodup ∧
    ∃ m : Nat → Nat ⊕ Nat, (∀ (i : Nat) (q : κ' × V) (e : κ × D), (putK kvs (f k) y)[i]? = some q → (put k d es)[i]? = some e → (∃ (j : Nat) (q0 : κ' × V) (e0 : κ × D), m i = .inl j ∧ kvs[j]? = some q0 ∧ es[j]? = some e0 ∧ q.2 = q0.2 ∧ e.2 = e0.2) ∨ ∃ j, m i = .inr j ∧ j < 1 ∧ q.2 = y ∧ e.2 = d) ∧
      ∀ i i', i < (putK kvs (f k) y).length → i' < (putK kvs (f k) y).length → m i = m i' → i = i' := by
  have el : kvs.length = es.length := by simpa using congrArg List.length h
  have nd' : (kvs.map (·.1)).Nodup := by
    rw [h]
    have e : es.map (fun e => f e.1) = (es.map (·.1)).map f := by rw [List.map_map]; rfl
    rw [e]
    refine List.Pairwise.map _ (fun a b hab z => hab (inj _ _ z)) nd
  rw [putK_find _ _ kvs nd', put_find, find_keys f inj k h]
  cases e1 : es.findIdx? (fun e => decide (e.1 = k)) with
  | some n =>
    obtain ⟨hn, hk, _⟩ := List.findIdx?_eq_some_iff_getElem.mp e1
    have hk : es[n].1 = k := by simpa using hk
    have em : (es.set n (k, d)).map (·.1) = es.map (·.1) := by
      rw [List.map_set]
      show (es.map (·.1)).set n k = _
      refine List.ext_getElem? fun j => ?_
      by_cases hj : j = n
      · subst hj
        rw [List.getElem?_set_self (by simpa using hn), List.getElem?_map, List.getElem?_eq_getElem hn]
        show some k = some es[j].1
        rw [hk]
      · rw [List.getElem?_set_ne (Ne.symm hj)]
    refine ⟨?_, ?_, fun i => if i = n then .inr 0 else .inl i, fun i q e h1 h2 => ?_, fun i i' _ _ hh => ?_⟩
    · have e2 : (es.set n (k, d)).map (fun e => f e.1) = ((es.set n (k, d)).map (·.1)).map f := by rw [List.map_map]; rfl
      show (kvs.set n (f k, y)).map (·.1) = (es.set n (k, d)).map (fun e => f e.1)
      rw [e2, em, List.map_set, h]
      show (es.map fun e => f e.1).set n (f k) = _
      refine List.ext_getElem? fun j => ?_
      by_cases hj : j = n
      · subst hj
        rw [List.getElem?_set_self (by simpa using hn), List.map_map, List.getElem?_map, List.getElem?_eq_getElem hn]
        show some (f k) = some (f es[j].1)
        rw [hk]
      · rw [List.getElem?_set_ne (Ne.symm hj), List.map_map]; rfl
    · show ((es.set n (k, d)).map (·.1)).Nodup
      rw [em]; exact nd
    · have h1 : (kvs.set n (f k, y))[i]? = some q := h1
      have h2 : (es.set n (k, d))[i]? = some e := h2
      by_cases hi : i = n
      · right
        subst hi
        rw [List.getElem?_set_self (by omega)] at h1
        rw [List.getElem?_set_self hn] at h2
        cases h1; cases h2
        exact ⟨0, if_pos rfl, by omega, rfl, rfl⟩
      · left
        rw [List.getElem?_set_ne (Ne.symm hi)] at h1 h2
        exact ⟨i, q, e, if_neg hi, h1, h2, rfl, rfl⟩
    · have hh : (if i = n then (Sum.inr 0 : Nat ⊕ Nat) else .inl i) = if i' = n then .inr 0 else .inl i' := hh
      by_cases hi : i = n
      · by_cases hi' : i' = n
        · rw [hi, hi']
        · rw [if_pos hi, if_neg hi'] at hh; cases hh
      · by_cases hi' : i' = n
        · rw [if_neg hi, if_pos hi'] at hh; cases hh
        · rw [if_neg hi, if_neg hi'] at hh; cases hh; rfl
  | none =>
    have hno : ∀ q ∈ es, ¬ q.1 = k := fun q hq => by simpa using List.findIdx?_eq_none_iff.mp e1 q hq
    refine ⟨?_, ?_, fun i => if i < kvs.length then .inl i else .inr 0, fun i q e h1 h2 => ?_, fun i i' l l' hh => ?_⟩
    · show (kvs ++ [(f k, y)]).map (·.1) = (es ++ [(k, d)]).map (fun e => f e.1)
      rw [List.map_append, List.map_append, h]; rfl
    · show ((es ++ [(k, d)]).map (·.1)).Nodup
      rw [List.map_append, List.nodup_append]
      refine ⟨nd, by simp, fun a ha b hb => ?_⟩
      obtain ⟨q, hq, rfl⟩ := List.mem_map.mp ha
      simp at hb
      subst hb
      exact hno q hq
    · have h1 : (kvs ++ [(f k, y)])[i]? = some q := h1
      have h2 : (es ++ [(k, d)])[i]? = some e := h2
      by_cases hi : i < kvs.length
      · left
        rw [List.getElem?_append_left hi] at h1
        rw [List.getElem?_append_left (el ▸ hi)] at h2
        exact ⟨i, q, e, if_pos hi, h1, h2, rfl, rfl⟩
      · right
        rw [List.getElem?_append_right (Nat.le_of_not_lt hi)] at h1
        rw [List.getElem?_append_right (el ▸ Nat.le_of_not_lt hi), ← el] at h2
        have hz : i - kvs.length = 0 := by
          have := (List.getElem?_eq_some_iff.mp h1).1
          simp at this; omega
        rw [hz] at h1 h2
        cases h1; cases h2
        exact ⟨0, if_neg hi, by omega, rfl, rfl⟩
    · have hh : (if i < kvs.length then (Sum.inl i : Nat ⊕ Nat) else .inr 0) = if i' < kvs.length then .inl i' else .inr 0 := hh
      have l : i < (kvs ++ [(f k, y)]).length := l
      have l' : i' < (kvs ++ [(f k, y)]).length := l'
      simp only [List.length_append, List.length_cons, List.length_nil] at l l'
      by_cases hi : i < kvs.length
      · by_cases hi' : i' < kvs.length
        · rw [if_pos hi, if_pos hi'] at hh; cases hh; rfl
        · rw [if_pos hi, if_neg hi'] at hh; cases hh
      · by_cases hi' : i' < kvs.length
        · rw [if_neg hi, if_pos hi'] at hh; cases hh
        · omega
/-- d[k] = y -/
theorem Ow.putD {o : Own} {F Fx : Addr → Prop} {p : Addr} {kvs : List (Key × V)} {es : List (Ky × D)} {y : V} {dy : D} {k : Ky} (w : Ow P G H (.nd o) F (.ref p) (.dK es)) (hp : H p = some (.dK kvs)) (wy : Ow P G H o Fx y dy) (dis : ∀ a, F a → Fx a → False) :
    F p ∧ Ow P G (upd H p (.dK (putK kvs (kyK k) y))) (.nd o) (fun a => F a ∨ Fx a) (.ref p) (.dK (put k dy es)) := by
  cases w with
  | sc z => cases z
  | dK Fs h fp e nd c s j =>
    rw [hp] at h
    cases h
    have hx : ¬ Fx p := fun z => dis p fp z
    obtain ⟨e', nd', m, hm, minj⟩ := put_keys kyK (fun _ _ => kyK_inj) k dy y e nd
    obtain ⟨Fs', c', s', j'⟩ := kids_mix (H' := upd H p (.dK (putK kvs (kyK k) y))) (vs' := putK kvs (kyK k) y) (ds' := put k dy es) (pv := fun q : Key × V => q.2) (pd := fun q : Ky × D => q.2) (n2 := 1) (F2 := fun i a => i = 0 ∧ Fx a) (y := fun _ => y) (dy := fun _ => dy) m c s j keep_upd
      (fun i hi => (wy.frame (.refl _) fun a ha => upd_ne fun z => hx (by rw [← z]; exact ha)).more fun a ha => ⟨by omega, ha⟩) (fun i a h => h.2) (fun i j a h h' => by rw [h.1, h'.1]) dis fp hm minj
    exact ⟨fp, .dK Fs' upd_same (.inl fp) e' nd' c' s' j'⟩
theorem Ow.putDT {o : Own} {F Fx : Addr → Prop} {p : Addr} {kvs : List (List Key × V)} {es : List (List Ky × D)} {y : V} {dy : D} {k : List Ky} (w : Ow P G H (.nd o) F (.ref p) (.dT es)) (hp : H p = some (.dT kvs)) (wy : Ow P G H o Fx y dy) (dis : ∀ a, F a → Fx a → False) :
    F p ∧ Ow P G (upd H p (.dT (putK kvs (k.map kyK) y))) (.nd o) (fun a => F a ∨ Fx a) (.ref p) (.dT (put k dy es)) := by
  cases w with
  | sc z => cases z
  | dT Fs h fp e nd c s j =>
    rw [hp] at h
    cases h
    have hx : ¬ Fx p := fun z => dis p fp z
    obtain ⟨e', nd', m, hm, minj⟩ := put_keys (fun k : List Ky => k.map kyK) (fun _ _ => kyKs_inj) k dy y e nd
    obtain ⟨Fs', c', s', j'⟩ := kids_mix (H' := upd H p (.dT (putK kvs (k.map kyK) y))) (vs' := putK kvs (k.map kyK) y) (ds' := put k dy es) (pv := fun q : List Key × V => q.2) (pd := fun q : List Ky × D => q.2) (n2 := 1) (F2 := fun i a => i = 0 ∧ Fx a) (y := fun _ => y) (dy := fun _ => dy) m c s j keep_upd
      (fun i hi => (wy.frame (.refl _) fun a ha => upd_ne fun z => hx (by rw [← z]; exact ha)).more fun a ha => ⟨by omega, ha⟩) (fun i a h => h.2) (fun i j a h h' => by rw [h.1, h'.1]) dis fp hm minj
    exact ⟨fp, .dT Fs' upd_same (.inl fp) e' nd' c' s' j'⟩
/-! ### a path, seen earlier -/
theorem StepV.uni {v x x' : V} {p : D} (h : StepV H v p x) (h' : StepV H v p x') : x = x' := by
  rcases h with ⟨a, vs, i, k, e1, e2, e3, e4, e5⟩ | ⟨a, vs, i, k, e1, e2, e3, e4, e5⟩ | ⟨a, kvs, k, e1, e2, e3, e4⟩ <;>
    rcases h' with ⟨a', vs', i', k', f1, f2, f3, f4, f5⟩ | ⟨a', vs', i', k', f1, f2, f3, f4, f5⟩ | ⟨a', kvs', k', f1, f2, f3, f4⟩
  · rw [e1] at f1; cases f1; rw [e2] at f2; cases f2; rw [e3] at f3; cases f3; rw [e4] at f4; cases f4; rw [e5] at f5; cases f5; rfl
  · rw [e1] at f1; cases f1; rw [e3] at f3; cases f3
  · rw [e1] at f1; cases f1; rcases f3 with f3 | ⟨o, f3⟩ <;> (rw [e3] at f3; cases f3)
  · rw [e1] at f1; cases f1; rw [e3] at f3; cases f3
  · rw [e1] at f1; cases f1; rw [e2] at f2; cases f2; rw [e3] at f3; cases f3; rw [e4] at f4; cases f4; rw [e5] at f5; cases f5; rfl
  · rw [e1] at f1; cases f1; rcases f3 with f3 | ⟨o, f3⟩ <;> (rw [e3] at f3; cases f3)
  · rw [e1] at f1; cases f1; rcases e3 with e3 | ⟨o, e3⟩ <;> (rw [e3] at f3; cases f3)
  · rw [e1] at f1; cases f1; rcases e3 with e3 | ⟨o, e3⟩ <;> (rw [e3] at f3; cases f3)
  · rw [e1] at f1; cases f1; rw [e2] at f2; cases f2
    have : kvs = kvs' := by
      rcases e3 with e3 | ⟨o, e3⟩ <;> rcases f3 with f3 | ⟨o', f3⟩ <;> (rw [e3] at f3; cases f3) <;> rfl
    subst this
    rw [e4] at f4; cases f4; rfl
theorem PathV.uni : ∀ {ps : List D} {v w w' : V}, PathV H v ps w → PathV H v ps w' → w = w'
  | [], _, _, _, h, h' => by rw [show _ = _ from h, show _ = _ from h']
  | _ :: _, _, _, _, ⟨x, s, h⟩, ⟨x', s', h'⟩ => by
    have := s.uni s'
    subst this
    exact h.uni h'
theorem Rp.path : ∀ {ps : List D} {v : V} {d y : D}, Rp P H v d → atD ps d = some y → ∃ x, PathV H v ps x ∧ Rp P H x y
  | [], v, d, y, r, e => by cases e; exact ⟨v, rfl, r⟩
  | p :: ps, v, d, y, r, e => by
    have e : (stepD d p).bind (atD ps) = some y := e
    cases e1 : stepD d p with
    | none => rw [e1] at e; cases e
    | some z =>
      rw [e1] at e
      obtain ⟨x, s, r'⟩ := r.step e1
      obtain ⟨x', s', r''⟩ := r'.path (ps := ps) e
      exact ⟨x', ⟨x, s, s'⟩, r''⟩
theorem PathR.down {B : Bs} {ω : List Own} {env : Env} {σ : St} {H' : Hp} {v : V} {r : Nat × List D × D} (R : Rel P B ω env σ G H) (l : Le H H') (h : PathR P env σ H' v r) : PathR P env σ H v r := by
  obtain ⟨v₀, d₀, h1, h2, h3, h4, h5⟩ := h
  obtain ⟨Fs, g1, _, _⟩ := R.slots
  obtain ⟨v₁, e1, w⟩ := g1 _ _ h2
  rw [h1] at e1
  cases e1
  obtain ⟨x, s, rx⟩ := (w.rp R.sub).path h4
  have := (s.le l).uni h3
  subst this
  exact ⟨v₀, d₀, h1, h2, s, h4, rx⟩
end
end SH
end
section
set_option Elab.async false
set_option linter.all false
set_option autoImplicit false
set_option maxRecDepth 10000
/-! Statements: the check, what is left behind one. -/
namespace SH
open PySem L2

/-! ### what a statement is -/
def asAsg : Stmt → Option (Expr × Expr × Pos)
  | .Assign [t] v p => some (t, v, p)
  | _ => none
theorem asAsg_eq {s : Stmt} {t v : Expr} {p : Pos} (h : asAsg s = some (t, v, p)) : s = .Assign [t] v p := by
  unfold asAsg at h
  split at h
  · cases h; rfl
  · cases h
def asIfS : Stmt → Option (Expr × List Stmt × List Stmt × Pos)
  | .If c a b p => some (c, a, b, p)
  | _ => none
theorem asIfS_eq {s : Stmt} {c : Expr} {a b : List Stmt} {p : Pos} (h : asIfS s = some (c, a, b, p)) : s = .If c a b p := by
  unfold asIfS at h
  split at h
  · cases h; rfl
  · cases h
def asFor : Stmt → Option (Expr × Expr × List Stmt × Pos)
  | .For t i b [] p => some (t, i, b, p)
  | _ => none
theorem asFor_eq {s : Stmt} {t i : Expr} {b : List Stmt} {p : Pos} (h : asFor s = some (t, i, b, p)) : s = .For t i b [] p := by
  unfold asFor at h
  split at h
  · cases h; rfl
  · cases h
def asWhl : Stmt → Option (Expr × List Stmt × Pos)
  | .While c b [] p => some (c, b, p)
  | _ => none
theorem asWhl_eq {s : Stmt} {c : Expr} {b : List Stmt} {p : Pos} (h : asWhl s = some (c, b, p)) : s = .While c b [] p := by
  unfold asWhl at h
  split at h
  · cases h; rfl
  · cases h
def asRet : Stmt → Option (Option Expr × Pos)
  | .Return v p => some (v, p)
  | _ => none
theorem asRet_eq {s : Stmt} {v : Option Expr} {p : Pos} (h : asRet s = some (v, p)) : s = .Return v p := by
  unfold asRet at h
  split at h
  · cases h; rfl
  · cases h
def asExp : Stmt → Option (Expr × Pos)
  | .Expr v p => some (v, p)
  | _ => none
theorem asExp_eq {s : Stmt} {v : Expr} {p : Pos} (h : asExp s = some (v, p)) : s = .Expr v p := by
  unfold asExp at h
  split at h
  · cases h; rfl
  · cases h
def asRse : Stmt → Option (Expr × Pos)
  | .Raise (some v) none p => some (v, p)
  | _ => none
theorem asRse_eq {s : Stmt} {v : Expr} {p : Pos} (h : asRse s = some (v, p)) : s = .Raise (some v) none p := by
  unfold asRse at h
  split at h
  · cases h; rfl
  · cases h
def excNm : Nat → String
  | 0 => "HouseError" | 1 => "BadLine" | 2 => "BadText" | 3 => "WrongOrder" | 4 => "TooMany" | 5 => "TakenNumber" | 6 => "NoText" | 7 => "OutOfRange" | 8 => "BadStep" | _ => "NoChange"
def asTry : Stmt → Option (List Stmt × List ExceptHandler × Pos)
  | .Try b hs [] [] p => some (b, hs, p)
  | _ => none
theorem asTry_eq {s : Stmt} {b : List Stmt} {hs : List ExceptHandler} {p : Pos} (h : asTry s = some (b, hs, p)) : s = .Try b hs [] [] p := by
  unfold asTry at h
  split at h
  · cases h; rfl
  · cases h
def ckR (I : Ci) (R : Own) (e : CE) (v : Expr) : Bool := match ck I [] false e v with
  | some κ => kOK κ (ownOf κ) && noSh (ownOf κ) && co (ownOf κ) R
  | none => false
/-- a handler's body; does it go on -/
def ckHB (I : Ci) (R : Own) : HB → List Stmt → Option Bool
  | .ret e, [s] => match asRet s with
    | some (some v, _) => if ckR I R e v then some false else none
    | _ => none
  | .chk c e, [s] => match asIfS s with
    | some (x, [s'], [], _) => (match asRet s' with
      | some (some v, _) => if (ck I [] true c x).isSome && ckR I R e v then some true else none
      | _ => none)
    | _ => none
  | _, _ => none
def goesH : CHs → Bool
  | .nil => false
  | .cons _ _ (.chk _ _) _ => true
  | .cons _ _ _ hs => goesH hs
def ckNm (I : Ci) : Option Nat → Option Str → Bool
  | none, none => true
  | some i, some n => (match I.N[i]? with
    | some y => y == n
    | none => false) && isLoc I.sc n
  | _, _ => false
/-- the clauses; does one go on -/
def ckHs (I : Ci) (R : Own) : CHs → List ExceptHandler → Option Bool
  | .nil, [] => some false
  | .cons c i b hs, .ExceptHandler (some (.Name x _)) n body _ :: l => if x == (excNm c : Str) && gloB I.sc x && ckNm I i n then (match ckHB { I with hot := true } R b body, ckHs I R hs l with
    | some g, some g' => some (g || g')
    | _, _ => none) else none
  | _, _ => none
def asAug : Stmt → Option (Expr × Operator × Expr × Pos)
  | .AugAssign t o v p => some (t, o, v, p)
  | _ => none
theorem asAug_eq {s : Stmt} {t v : Expr} {o : Operator} {p : Pos} (h : asAug s = some (t, o, v, p)) : s = .AugAssign t o v p := by
  unfold asAug at h
  split at h
  · cases h; rfl
  · cases h
def isPass : Stmt → Bool
  | .Pass _ => true
  | .Expr (.Constant (.str _) _ _) _ => true
  | _ => false
def isBrk : Stmt → Bool
  | .Break _ => true
  | _ => false
def notTup : Expr → Bool
  | .Tuple _ _ _ => false
  | _ => true

def eqO (ω ω' : List Own) : Bool := (List.range (max ω.length ω'.length)).all fun i => ow ω i == ow ω' i
/-- an owned slot, given away -/
def movB (ω : List Own) (R : Own) : CE → Bool
  | .var i => co (ow ω i) R
  | _ => false
def isLcE : CE → Bool
  | .lc _ _ _ _ => true
  | _ => false
def mutNm : Mut → String
  | .append => "append" | .extend => "extend" | .insert => "insert" | .pop => "pop" | .popAt => "pop"
def ckMut (I : Ci) (ω : List Own) (m : Mut) (o : Own) (es : CEs) (l : List Expr) : Bool := match m with
  | .append => decide (l.length = 1) && ckEs I ω o es l
  | .extend => decide (l.length = 1) && ckEs I ω (.nd o) es l
  | .insert => decide (l.length = 2) && ckEs I ω o es l
  | .pop => decide (l.length = 0) && ckEs I ω o es l
  | _ => false
/-- the end of two ways -/
def joinO (a b : Option (List Own)) : Option (Option (List Own)) := match a, b with
  | none, b => some b
  | a, none => some a
  | some a, some b => if eqO a b then some (some a) else none
mutual
def ckS (I : Ci) (lw : Option (List Own)) (R : Own) (ω : List Own) : CS → Stmt → Option (Option (List Own))
  | .set i e, s => match asAsg s with
    | some (t, v, _) => (match asName t with
      | some (x, _) => if (notComp v || isCel I.sc x) && stoB I i x && I.raw.isNone then (match ck I ω false e v with
        | some κ => if kOK κ (ownOf κ) then some (some (setw ω i (ownOf κ))) else none
        | none => none) else none
      | none => none)
    | none => none
  | .unp is e, s => match asAsg s with
    | some (t, v, _) => if tgB I (.tup is) t && notComp v && notTup v then (match ck I ω false e v with
      | some κ => (match kidO κ with
        | some o => some (some (setO ω o is))
        | none => if kOK κ .sh then some (some (setO ω .sh is)) else none)
      | none => none) else none
    | none => none
  | .aug i o e, s => match asAug s with
    | some (t, op, v, _) => (match asName t with
      | some (x, _) => if op = opOf o ∧ (o = .add ∨ o = .sub) ∧ stoB I i x = true ∧ I.raw.isNone = true ∧ co (ow ω i) .sh = true then (match ck I ω false e v with
        | some _ => some (some (setw ω i .sc))
        | none => none) else none
      | none => none)
    | none => none
  | .drop e, s => match asExp s with
    | some (v, _) => if notComp v then (ck I ω false e v).map fun _ => some ω else none
    | none => none
  | .ite c a b, s => match asIfS s with
    | some (x, y, z, _) => (match ck I ω true c x, ckSs I lw R ω a y, ckSs I lw R ω b z with
      | some _, some o, some o' => joinO o o'
      | _, _, _ => none)
    | none => none
  | .forS tg src body, s => match asFor s with
    | some (t, it, b, _) => (match ckSrc I ω true src it with
      | some o => if notSet it && tgB I tg t then (match ckSs I (some ω) R (setO ω o (tgIs tg)) body b with
        | some none => some (some ω)
        | some (some ω') => if eqO ω' ω then some (some ω) else none
        | none => none) else none
      | none => none)
    | none => none
  | .whl _ c body, s => match asWhl s with
    | some (x, b, _) => (match ck I ω true c x, ckSs I (some ω) R ω body b with
      | some _, some none => some (some ω)
      | some _, some (some ω') => if eqO ω' ω then some (some ω) else none
      | _, _ => none)
    | none => none
  | .ret e, s => match asRet s with
    | some (some v, _) => (match ck I ω false e v with
      | some κ => if kOK κ R || movB ω R e then some none else none
      | none => none)
    | _ => none
  | .retN, s => match asRet s with
    | some (none, _) => some none
    | _ => none
  | .pass, s => if isPass s then some (some ω) else none
  | .brk, s => if isBrk s then (match lw with
    | some w => if eqO ω w then some none else none
    | none => none) else none
  | .setC i e, s => match asAsg s with
    | some (t, v, _) => (match asName t with
      | some (x, py) => (match asLc v with
        | some (_, _, _, _, sc', pos) => if isLcE e && stoB I i x && I.raw.isNone && isLoc I.sc x && (py.line == pos.line) && !(sc'.names.any fun (n, k) => n == x && (k == .local || k == .cell)) then (match ck I ω false e v with
          | some κ => if kOK κ (ownOf κ) then some (some (setw ω i (ownOf κ))) else none
          | none => none) else none
        | none => none)
      | none => none)
    | none => none
  | .par _ _ _ _, _ => none
  | .mut b m es, s => match asExp s with
    | some (v, _) => (match asMeth v with
      | some (o, nm, p, l, q) => if nm == (mutNm m : Str) && plainB o && l.all notStar && (p.endLine == q.line) && I.raw.isNone then (match ck I ω false b o, pathIN b with
        | some _, some (i, n) => (match deepO (ow ω i) n with
          | some (.nd o₁) => if ckMut I ω m o₁ es l then some (some ω) else none
          | _ => none)
        | _, _ => none) else none
      | none => none)
    | none => none
  | .put b k e, s => match asAsg s with
    | some (t, v, _) => (match asIx t with
      | some (o, i, _) => if notComp v && notTup v && notSl i && I.raw.isNone then (match ck I ω false b o, pathIN b, ck I ω false k i, ck I ω false e v with
        | some _, some (j, n), some _, some κ => (match deepO (ow ω j) n with
          | some (.nd o₁) => if kOK κ o₁ then some (some ω) else none
          | _ => none)
        | _, _, _, _ => none) else none
      | none => none)
    | none => none
  | .sda i k e, s => match asExp s with
    | some (v, _) => (match asMeth v with
      | some (o, nm, p, [a], q) => (match asMeth o with
        | some (dn, nm2, p2, [kx, l0], q2) => (match asName dn, asLst l0 with
          | some (x, _), some ([], _) => if nm == ("append" : Str) && nm2 == ("setdefault" : Str) && slotB I.ck i x && notStar a && notStar kx && (p.endLine == q.line) && (p2.endLine == q2.line) && I.raw.isNone then
            (match ck I ω false k kx, ck I ω false e a, ow ω i with
            | some _, some κ, .nd (.nd o₁) => if kOK κ o₁ then some (some ω) else none
            | _, _, _ => none) else none
          | _, _ => none)
        | _ => none)
      | _ => none)
    | none => none
  | .forK tg i body, s => match asFor s with
    | some (t, it, b, _) => (match asName it with
      | some (x, _) => if slotB I.ck i x && (ow ω i == .sh) && tgB I tg t then (match ckSs I (some ω) R (setO ω .sc (tgIs tg)) body b with
        | some none => some (some ω)
        | some (some ω') => if eqO ω' ω then some (some ω) else none
        | none => none) else none
      | none => none)
    | none => none
  | .forC j i c e, s => match asFor s with
    | some (t, it, [b], _) => (match asName t, asName it, asIfS b with
      | some (y, _), some (x, _), some (tx, [rs], [], _) => (match asRet rs with
        | some (some v, _) => if slotB I.ck i x && stoB I j y && (ow ω i == .nd .sc) && !(i == j) && I.raw.isNone then (match ck I ω true c tx, ck I ω false e v with
          | some _, some κ => if kOK κ R then some (some ω) else none
          | _, _ => none) else none
        | _ => none)
      | _, _, _ => none)
    | _ => none
  | .cns i e, s => match asAsg s with
    | some (t, v, _) => (match asName t, asLst v with
      | some (x, _), some ([a, .Starred z _], _) => (match asName z with
        | some (x', _) => if x' == x && notStar a && stoB I i x && I.raw.isNone then (match ck I ω false e a, ow ω i with
          | some κ, .nd o => if kOK κ o then some (some ω) else none
          | _, _ => none) else none
        | none => none)
      | _, _ => none)
    | none => none
  | .rse c e, s => match asRse s with
    | some (v, _) => (match asCall v with
      | some (x, _, [a], _) => if x == (excNm c : Str) && gloB I.sc x && notStar a && I.raw.isNone then (ck I ω false e a).map fun _ => none else none
      | _ => none)
    | none => none
  | .tryS _ b hs, s => match asTry s with
    | some (x, l, _) => if I.raw.isNone && !l.isEmpty then (match ckSs I lw R ω b x, ckHs I R hs l with
      | some o, some _ => joinO o (if goesH hs then some [] else none)
      | _, _ => none) else none
    | none => none
  | .wk _ _, _ => none
  | .kill _, _ => none
def ckSs (I : Ci) (lw : Option (List Own)) (R : Own) (ω : List Own) : CSs → List Stmt → Option (Option (List Own))
  | .nil, [] => some (some ω)
  | .nil, _ :: _ => none
  | .cons s ss, l => match s with
    | .wk i o => if co (ow ω i) o then ckSs I lw R (setw ω i o) ss l else none
    | .kill i => ckSs I lw R (setw ω i .sh) ss l
    | s => match l with
      | [] => none
      | st :: l => match ckS I lw R ω s st with
        | some (some ω') => ckSs I lw R ω' ss l
        | some none => some none
        | none => none
  | .ali _ _ _ _, [] => none
  | .ali x i e a, st :: l => match asAsg st with
    | some (t, v, _) => (match asName t with
      | some (xn, _) => if notComp v && stoB I x xn && I.raw.isNone && !(x == i) then (match pathIN (.ix (.var i) e), ck I ω false (.ix (.var i) e) v with
        | some _, some _ => ckA I lw R (setw ω x .sh) x i a l
        | _, _ => none) else none
      | none => none)
    | none => none
def ckA (I : Ci) (lw : Option (List Own)) (R : Own) (ω : List Own) (x i : Nat) : AL → List Stmt → Option (Option (List Own))
  | .mut m es, [s] => match asExp s with
    | some (v, _) => (match asMeth v with
      | some (o, nm, p, l, q) => (match asName o with
        | some (xn, _) => if nm == (mutNm m : Str) && plainB o && slotB I.ck x xn && l.all notStar && (p.endLine == q.line) && I.raw.isNone then (match deepO (ow ω i) 1 with
          | some (.nd o₁) => if ckMut I ω m o₁ es l then some (some ω) else none
          | _ => none) else none
        | none => none)
      | none => none)
    | none => none
  | .aug k v, [s] => match asAug s with
    | some (t, op, vx, _) => (match asIx t with
      | some (o, kx, _) => (match asName o with
        | some (xn, _) => if op = opOf .add ∧ slotB I.ck x xn = true ∧ notSl kx = true ∧ I.raw.isNone = true then (match ck I [] false k kx, ck I ω false v vx, deepO (ow ω i) 1 with
          | some _, some _, some (.nd _) => some (some ω)
          | _, _, _ => none) else none
        | none => none)
      | none => none)
    | none => none
  | .oth ss, l => ckSs I lw R ω ss l
  | .ite c a b, [s] => match asIfS s with
    | some (cx, y, z, _) => (match ck I [] true c cx, ckA I lw R ω x i a y, ckA I lw R ω x i b z with
      | some _, some o, some o' => joinO o o'
      | _, _, _ => none)
    | none => none
  | _, _ => none
end
/-- what __init__ of the exceptions does -/
def spI (K : PySem.W.Frag) : Sp := fun vs H Q _ => ∃ (a C : Addr) (y : V), vs = [.ref a, y] ∧ L2.OexC K C ∧ PySem.W.findIn K (.ref C) "at" = some none ∧ H a = some (L2.exo a C none) ∧
  ∀ dx, H dx = none → dx ≠ a → Q .non (upd (upd H dx (L2.exd dx [(("at" : Str), y)])) a (L2.exo a C (some dx)))
/-- an exception's class -/
def Clz (P : Pm) (k : Nat) (x : String) (c : Nat) : Prop := ∃ j fI fd, j + 1 ≤ k ∧ L2.OexC P.K (P.ca c) ∧ PySem.W.findIn P.K (.ref (P.ca c)) "__init__" = some (some (.ref fI)) ∧ PySem.W.typeIn P.K (.ref fI) = some (.type "function") ∧
  PySem.W.findIn P.K (.ref (P.ca c)) "at" = some none ∧ FnOk P.prog P.w P.K P.mg P.base (L2.CX P.prog P.w) j fI fd [("self" : Str), ("at" : Str)] (spI P.K) ∧ Binds P.K fd [("self" : Str), ("at" : Str)] [] ∧ P.mg x = some (.ref (P.ca c))
def CHs.cls : CHs → List Nat
  | .nil => []
  | .cons c _ _ hs => c :: hs.cls
def NdHB (P : Pm) (k : Nat) : HB → Prop
  | .ret e => ∀ xs, NdE { P with xs := xs } k e
  | .chk c e => ∀ xs, NdE { P with xs := xs } k c ∧ NdE { P with xs := xs } k e
def NdHs (P : Pm) (k : Nat) : CHs → Prop
  | .nil => True
  | .cons c _ b hs => P.mg (excNm c) = some (.ref (P.ca c)) ∧ NdHB P k b ∧ NdHs P k hs
/-- what is caught -/
def NdX (P : Pm) (cs ks : List Nat) : Prop := ∀ c ∈ cs, XfC P.K (P.ca c) ∧ PySem.W.findIn P.K (.ref (P.ca c)) "at" = some none ∧ ∀ k ∈ ks, PySem.W.exmOne P.K (.ref (P.ca c)) (.ref (P.ca k)) = some (decide (k = 0 ∨ k = c))
mutual
def NdS (P : Pm) (k : Nat) : CS → Prop
  | .set _ e => NdE P k e
  | .setC _ e => NdE P k e
  | .unp _ e => NdE P k e
  | .par _ _ a b => NdE P k a ∧ NdE P k b
  | .aug _ _ e => NdE P k e
  | .mut b _ es => NdE P k b ∧ NdEs P k es
  | .put b a e => NdE P k b ∧ NdE P k a ∧ NdE P k e
  | .sda _ a e => NdE P k a ∧ NdE P k e
  | .drop e => NdE P k e
  | .ite c a b => NdE P k c ∧ NdSs P k a ∧ NdSs P k b
  | .forS _ src b => NdSrc P k src ∧ NdSs P k b
  | .whl _ c b => NdE P k c ∧ NdSs P k b
  | .ret e => NdE P k e
  | .rse c e => Clz P k (excNm c) c ∧ NdE P k e
  | .tryS cs b hs => NdSs P k b ∧ NdHs P k hs ∧ NdX P cs hs.cls
  | .forK _ _ b => NdSs P k b
  | .forC _ _ c e => NdE P k c ∧ NdE P k e
  | .cns _ e => NdE P k e
  | _ => True
def NdSs (P : Pm) (k : Nat) : CSs → Prop
  | .nil => True
  | .cons s ss => NdS P k s ∧ NdSs P k ss
  | .ali _ _ e a => NdE P k e ∧ NdA P k a
def NdA (P : Pm) (k : Nat) : AL → Prop
  | .mut _ es => NdEs P k es
  | .aug a b => NdE P k a ∧ NdE P k b
  | .oth ss => NdSs P k ss
  | .ite c a b => NdE P k c ∧ NdA P k a ∧ NdA P k b
end

/-! ### what is left -/
def OutF (P : Pm) (B : Bs) (ω' lw : Option (List Own)) (R : Own) (W : WX) (D : Ends) (G : Hp) : Fl → Prop
  | .nx e => ∃ w, ω' = some w ∧ ∀ σ' G' H', Rel P B w e σ' G' H' → Le G G' → D.nx σ' H'
  | .bk e => ∃ w, lw = some w ∧ ∀ σ' G' H', Rel P B w e σ' G' H' → Le G G' → D.bk σ' H'
  | .rt d => ∀ v G' H', Ext B.G B.H G' H' → KdR P (ofOwn R) B.H G' H' v d → D.rt v H'
  | .exc c n e => ∀ dx σ' G' H', Rel P B [] e σ' G' H' → Le G G' → B.H dx = none → G' dx = some (xdN n) → W (.ref (P.ca c)) (some dx) σ' H'
  | .bad => False
def tS (P : Pm) (B : Bs) (ω : List Own) (ω' lw : Option (List Own)) (R : Own) (W : WX) (f : Env → Fl) : TS := fun D σ H => ∃ env G, Rel P B ω env σ G H ∧ OutF P B ω' lw R W D G (f env)
section
variable {P : Pm} {B : Bs} {I : Ci} {k : Nat} {W : WX} {X : Cx} {ω : List Own} {ω' lw : Option (List Own)} {R : Own} {D : Ends} {G G₁ H H₁ : Hp} {env : Env} {σ : St}
theorem OutF.le {r : Fl} (l : Le G G₁) (h : OutF P B ω' lw R W D G r) : OutF P B ω' lw R W D G₁ r := by
  cases r with
  | nx e => obtain ⟨w, e1, q⟩ := h; exact ⟨w, e1, fun σ' G' H' r l' => q σ' G' H' r (l.trans l')⟩
  | bk e => obtain ⟨w, e1, q⟩ := h; exact ⟨w, e1, fun σ' G' H' r l' => q σ' G' H' r (l.trans l')⟩
  | rt d => exact h
  | exc c n e => exact fun dx σ' G' H' r l' => h dx σ' G' H' r (l.trans l')
  | bad => exact h
/-- an expression's evaluation, then the rest -/
theorem OutF.step {α β : Type} {N : Hp → Hp → α → β → Prop} {r : Res β} {g : β → Fl} {Rest : α → Hp → Prop} (Rl : Rel P B ω env σ G H) (h : OutF P B ω' lw R W D G (r.fl env g))
    (k : ∀ d v G₁ H₁, r = .ok d → Rel P B ω env σ G₁ H₁ → Ext G H G₁ H₁ → N G₁ H₁ v d → OutF P B ω' lw R W D G (g d) → Rest v H₁) : Out P N W σ G H r Rest := by
  cases r with
  | ok d => exact fun v G' H' x n => k d v G' H' rfl (Rl.ext x) x n h
  | exc c n =>
    intro dx G' H' x hn hg
    obtain ⟨G'', l, R'⟩ := (Rl.ext x).freeze
    exact h dx σ G'' H' R' ((x.le Rl.sub).trans l) (none_le Rl.ent hn) (l _ _ hg)
  | bad => exact h
theorem Rel.entry (Rl : Rel P B ω env σ G H) : Ext B.G B.H G H := ⟨Rl.ent, Rl.entG, Rl.sub⟩
theorem eqO_ok {ω ω' : List Own} (h : eqO ω ω' = true) (i : Nat) : ow ω i = ow ω' i := ow_all h i
end
/-- how a def's frame stands -/
def Hold (X : Cx) : Prop := PassesOwn (model X.prog X.w) X.A X.env X.xe ∧ X.stack = X.env :: X.outer ∧ X.env.frame = some X.env.locals
def SSt (s : CS) : Prop := ∀ (P : Pm) (B : Bs) (I : Ci) (k : Nat) (W : WX) (X : Cx) (ω : List Own) (lw : Option (List Own)) (R : Own), Ct P I k W X → Hold X → I.hot = false → NdS P k s →
  ∀ st ω', ckS I lw R ω s st = some ω' → PS X st (tS P B ω ω' lw R W (evS s)) ∧ (ω' = none → ∀ env e', evS s env ≠ .nx e')
def SSs (ss : CSs) : Prop := ∀ (P : Pm) (B : Bs) (I : Ci) (k : Nat) (W : WX) (X : Cx) (ω : List Own) (lw : Option (List Own)) (R : Own), Ct P I k W X → Hold X → I.hot = false → NdSs P k ss →
  ∀ l ω', ckSs I lw R ω ss l = some ω' → PSs X l (tS P B ω ω' lw R W (evSs ss)) ∧ (ω' = none → ∀ env e', evSs ss env ≠ .nx e')
section
variable {P : Pm} {B : Bs} {I : Ci} {k : Nat} {W : WX} {X : Cx} {ω : List Own} {ω' lw : Option (List Own)} {R : Own} {D : Ends} {G G₁ H H₁ : Hp} {env : Env} {σ : St}
theorem fl_nx {α : Type} {r : Res α} {g : α → Fl} {env e' : Env} (h : ∀ a, g a ≠ .nx e') : r.fl env g ≠ .nx e' := by
  cases r with
  | ok a => exact h a
  | exc c n => intro z; cases z
  | bad => intro z; cases z
theorem t_set (i : Nat) (e : CE) : SSt (.set i e) := fun P B I k W X ω lw R c hp hot nd st ω' h => by
  rw [NdS] at nd
  rw [ckS] at h
  split at h
  · rename_i t v p e1
    split at h
    · rename_i x q e2
      split at h
      · rename_i hb
        simp only [Bool.and_eq_true] at hb
        obtain ⟨⟨h1, h2⟩, h3⟩ := hb
        split at h
        · rename_i κ e3
          split at h
          · rename_i hk
            cases h
            refine ⟨?_, fun z => by cases z⟩
            rw [asAsg_eq e1, asName_eq e2]
            obtain ⟨t1, t2, t3⟩ := c.sto h2
            refine (ps_set (by rw [c.N]; exact c.nd) t1 t2 ((sE e P B I k W X ω c nd).1 _ _ e3) (by
              rw [Bool.or_eq_true] at h1
              rcases h1 with h1 | h1
              · exact notComp_eq h1
              · exact isCel_eq (by rw [c.sc]; exact h1)) t3).imp fun D σ H ⟨env, G, Rl, o⟩ => ?_
            rw [evS] at o
            refine ⟨env, G, Rl, OutF.step Rl o fun d v G₁ H₁ _ R₁ x₁ k₁ o₁ => ?_⟩
            obtain ⟨w, e4, q1⟩ := o₁
            cases e4
            obtain ⟨G₂, F, x₂, n, ww⟩ := KdR.keep hk x₁ k₁
            exact q1 _ G₂ H₁ (Rl.setNew x₂ n ww i) (x₂.le Rl.sub)
          · cases h
        · cases h
      · cases h
    · cases h
  · cases h
theorem t_unp (is : List Nat) (e : CE) : SSt (.unp is e) := fun P B I k W X ω lw R c hp hot nd st ω' h => by
  rw [NdS] at nd
  rw [ckS] at h
  split at h
  · rename_i t v p e1
    split at h
    · rename_i hb
      simp only [Bool.and_eq_true] at hb
      obtain ⟨⟨h1, h2⟩, h3⟩ := hb
      split at h
      · rename_i κ e3
        rw [asAsg_eq e1]
        obtain ⟨cm, _, _, _⟩ := c.cold hot
        have never : ∀ env e', evS (.unp is e) env ≠ .nx e' → True := fun _ _ _ => trivial
        have go : ∀ o, (o = .sc ∨ o = .sh) → ω' = some (setO ω o is) → (∀ {H₀ G H : Hp} {v : V} {d : D} {env : Env} {σ : St} {G₀ : Hp}, Rel P B ω env σ G₀ H₀ → Ext G₀ H₀ G H → KdR P κ H₀ G H v (d) → ∀ ds, d = .tup ds → ∃ G' pp vs, Ext G₀ H₀ G' H ∧ v = .ref pp ∧ H pp = some (.tup vs) ∧ vs.length = ds.length ∧ ∀ (i : Nat) (v : V) (d : D), vs[i]? = some v → ds[i]? = some d → Ow P G' H o (fun _ => False) v d) →
            PS X (.Assign [t] v p) (tS P B ω ω' lw R W (evS (.unp is e))) ∧ (ω' = none → ∀ env e', evS (.unp is e) env ≠ .nx e') := fun o ho ew key => by
          subst ew
          refine ⟨?_, fun z => by cases z⟩
          have hsw : swappedStores [t] v X.env = pure none := by
            unfold swappedStores
            cases v <;> first | (simp [notTup] at h3; done) | (cases t <;> rfl)
          have h9 : (assignEach [t] X.env).map (·.2) = [assign t X.env] := by
            cases t <;> first | rfl | (simp [tgB, asTup] at h1)
          refine (ps_asg ((sE e P B I k W X ω c nd).1 _ _ e3) (pg_tg c cm h1) (notComp_sole h2) hsw h9).imp fun D σ H ⟨env, G, Rl, q⟩ => ?_
          rw [evS] at q
          refine ⟨env, G, Rl, OutF.step Rl q fun d v G₁ H₁ _ R₁ x₁ k₁ q₁ => ?_⟩
          cases eb : bindT (.tup is) d env with
          | exc cc n => exact (bind_exc eb).elim
          | bad => rw [eb] at q₁; exact False.elim q₁
          | ok env' =>
            rw [eb] at q₁
            obtain ⟨w, e4, q2⟩ := q₁
            cases e4
            cases d with
            | tup ds =>
              obtain ⟨G', pp, vs, x₂, rfl, hpp, el, cc⟩ := key Rl x₁ k₁ ds rfl
              obtain ⟨r1, r2⟩ := bind_is (Rl.ext x₂) el cc eb
              exact ⟨pp, vs, rfl, .of hpp, by rw [el, r2], q2 _ G' H₁ r1 (x₂.le Rl.sub)⟩
            | _ => cases eb
        split at h
        · rename_i o e4
          refine go o (kidO_or e4) (Option.some.inj h).symm fun {H₀ G H v d env σ G₀} Rl x kd ds hd => ?_
          subst hd
          obtain ⟨pp, vs, rfl, hpp, el, cc⟩ := kd.tupK x.sub
          refine ⟨G, pp, vs, x, rfl, hpp, el, fun i v d z1 z2 => ?_⟩
          have := cc i v d z1 z2
          rw [kidO_eq e4] at this
          exact this.toOw (kidO_or e4) (by rcases kidO_or e4 with z | z; exact .inl z; exact .inr z)
        · split at h
          · rename_i hk
            refine go .sh (.inr rfl) (Option.some.inj h).symm fun {H₀ G H v d env σ G₀} Rl x kd ds hd => ?_
            subst hd
            obtain ⟨G₂, F, x₂, n, w⟩ := KdR.keep hk x kd
            have r := w.shr
            cases r with
            | sc z => cases z
            | tup hp' el cc => exact ⟨G₂, _, _, x₂, rfl, x₂.sub _ _ hp', el, fun i v d z1 z2 => .sh (cc i v d z1 z2)⟩
          · cases h
      · cases h
    · cases h
  · cases h
theorem t_aug (i : Nat) (op : Op2) (e : CE) : SSt (.aug i op e) := fun P B I k W X ω lw R c hp hot nd st ω' h => by
  rw [NdS] at nd
  rw [ckS] at h
  split at h
  · rename_i t o v p e1
    split at h
    · rename_i x q e2
      split at h
      · rename_i hb
        obtain ⟨h1, h2, h3, h4, h5⟩ := hb
        split at h
        · rename_i κ e3
          cases h
          refine ⟨?_, fun z => by cases z⟩
          rw [asAug_eq e1, asName_eq e2, h1]
          obtain ⟨t1, t2, t3⟩ := c.sto h3
          have pe := (sE e P B I k W X ω c nd).1 _ _ e3
          have fin : ∀ {op : Op2} {g : Int → Int → Int}, (op = .add ∧ g = (· + ·)) ∨ (op = .sub ∧ g = (· - ·)) → ∀ D σ H, tS P B ω (some (setw ω i .sc)) lw R W (evS (.aug i op e)) D σ H → tAug i (tE P B ω κ W (evE e)) (ipI g) D σ H := fun {op g} hg D σ H ⟨env, G, Rl, q⟩ => by
            rw [evS] at q
            unfold getV at q
            split at q
            · rename_i d0 e0
              obtain ⟨Fs, g1, g2, g3⟩ := Rl.slots
              obtain ⟨v0, ev0, w0⟩ := g1 i d0 e0
              have r0 := w0.rp Rl.sub
              refine ⟨v0, ev0, env, G, Rl, ?_⟩
              have q : OutF P B (some (setw ω i .sc)) lw R W D G ((evE e env).fl env fun y => (opI op d0 y).fl env fun d => .nx (env.set i (some d))) := by
                have q : OutF P B (some (setw ω i .sc)) lw R W D G ((evE e env >>= fun y => opI op d0 y).fl env fun d => .nx (env.set i (some d))) := q
                revert q
                cases evE e env with
                | ok y => exact id
                | exc _ _ => exact id
                | bad => exact id
              refine OutF.step Rl q fun d v1 G₁ H₁ _ R₁ x₁ k₁ q₁ => ?_
              have r1 := k₁.rp R₁.sub
              have r0' := (w0.frame (x₁.le Rl.sub) (H' := H₁) fun a fa => by
                obtain ⟨_, _, u, hu⟩ := g2 i a fa
                rw [hu]; exact x₁.same a u hu).rp R₁.sub
              cases d0 with
              | int a =>
                cases d with
                | int b =>
                  refine ⟨a, b, r0'.int, r1.int, ?_⟩
                  rcases hg with ⟨rfl, rfl⟩ | ⟨rfl, rfl⟩
                  · obtain ⟨w, e4, q2⟩ := q₁
                    cases e4
                    exact q2 _ G₁ H₁ (Rl.setNew (F := fun _ => False) x₁ (fun _ z => z.elim) (.sc (.int _)) i) (x₁.le Rl.sub)
                  · obtain ⟨w, e4, q2⟩ := q₁
                    cases e4
                    exact q2 _ G₁ H₁ (Rl.setNew (F := fun _ => False) x₁ (fun _ z => z.elim) (.sc (.int _)) i) (x₁.le Rl.sub)
                | _ => cases op <;> exact False.elim q₁
              | _ => cases op <;> cases d <;> exact False.elim q₁
            · exact False.elim q
          rcases h2 with rfl | rfl
          · exact (ps_aug (by rw [c.N]; exact c.nd) t1 t2 pe ip_add t3).imp (fin (.inl ⟨rfl, rfl⟩))
          · exact (ps_aug (by rw [c.N]; exact c.nd) t1 t2 pe ip_sub t3).imp (fin (.inr ⟨rfl, rfl⟩))
        · cases h
      · cases h
    · cases h
  · cases h
theorem t_drop (e : CE) : SSt (.drop e) := fun P B I k W X ω lw R c hp hot nd st ω' h => by
  rw [NdS] at nd
  rw [ckS] at h
  split at h
  · rename_i v p e1
    split at h
    · rename_i hb
      obtain ⟨κ, e3, rfl⟩ := some_of_map h
      refine ⟨?_, fun z => by cases z⟩
      rw [asExp_eq e1]
      refine (ps_expr ((sE e P B I k W X ω c nd).1 _ _ e3) (notComp_eq hb)).imp fun D σ H ⟨env, G, Rl, q⟩ => ?_
      rw [evS] at q
      refine ⟨env, G, Rl, OutF.step Rl q fun d v G₁ H₁ _ R₁ x₁ k₁ q₁ => ?_⟩
      obtain ⟨w, e4, q2⟩ := q₁
      cases e4
      exact q2 _ G₁ H₁ R₁ (x₁.le Rl.sub)
    · cases h
  · cases h
theorem t_ret (e : CE) : SSt (.ret e) := fun P B I k W X ω lw R c hp hot nd st ω' h => by
  rw [NdS] at nd
  rw [ckS] at h
  split at h
  · rename_i v p e1
    split at h
    · rename_i κ e3
      split at h
      · rename_i hk
        cases h
        refine ⟨?_, fun _ env e' => by rw [evS]; exact fl_nx fun a z => by cases z⟩
        rw [asRet_eq e1]
        rw [Bool.or_eq_true] at hk
        rcases hk with hk | hk
        · refine (ps_ret ((sE e P B I k W X ω c nd).1 _ _ e3)).imp fun D σ H ⟨env, G, Rl, q⟩ => ?_
          rw [evS] at q
          refine ⟨env, G, Rl, OutF.step Rl q fun d v G₁ H₁ _ R₁ x₁ k₁ q₁ => ?_⟩
          obtain ⟨G₂, F, x₂, n, w⟩ := KdR.keep hk x₁ k₁
          refine q₁ v G₂ H₁ (Rl.entry.trans x₂) ?_
          cases R with
          | sc => exact w.scO
          | sh => exact w.shr
          | nd o => exact ⟨F, fun a fa => ⟨none_le Rl.ent (n a fa).1, (n a fa).2⟩, w⟩
        · cases e <;> first | (cases hk; done) | skip
          rename_i i
          have hk : co (ow ω i) R = true := hk
          rw [ck] at e3
          split at e3
          · rename_i x p' e4
            split at e3
            · rename_i hs
              rw [asName_eq e4]
              obtain ⟨a1, b1, d1, f1⟩ := c.xck hs
              refine (ps_ret (pe_var a1 b1 d1 f1)).imp fun D σ H ⟨env, G, Rl, q⟩ => ?_
              rw [evS, evE] at q
              unfold getV at q
              split at q
              · rename_i d0 e0
                obtain ⟨Fs, h1, h2, h3⟩ := Rl.slots
                obtain ⟨v, ev, w⟩ := h1 i d0 e0
                refine ⟨v, ev, ?_⟩
                have kd : KdR P (ofOwn (ow ω i)) B.H G H v d0 := by
                  cases e5 : ow ω i with
                  | sc => rw [e5] at w; exact w.scO
                  | sh => rw [e5] at w; exact w.shr
                  | nd o => rw [e5] at w; exact ⟨Fs i, h2 i, w⟩
                have ok : kOK (ofOwn (ow ω i)) R = true := by
                  cases e5 : ow ω i with
                  | sc => rfl
                  | sh => rw [e5] at hk; cases R <;> first | rfl | cases hk
                  | nd o => rw [e5] at hk; exact hk
                obtain ⟨G₂, F, x₂, n, w2⟩ := KdR.keep ok Rl.entry kd
                refine q v G₂ H x₂ ?_
                cases R with
                | sc => exact w2.scO
                | sh => exact w2.shr
                | nd o => exact ⟨F, n, w2⟩
              · exact False.elim q
            · cases e3
          · cases e3
      · cases h
    · cases h
  · cases h
theorem t_retN : SSt .retN := fun P B I k W X ω lw R c hp hot nd st ω' h => by
  rw [ckS] at h
  split at h
  · rename_i p e1
    cases h
    refine ⟨?_, fun _ env e' z => by rw [evS] at z; cases z⟩
    rw [asRet_eq e1]
    refine ps_retN.imp fun D σ H ⟨env, G, Rl, q⟩ => ?_
    rw [evS] at q
    exact q .non G H Rl.entry (.ofSc .non)
  · cases h
theorem t_pass : SSt .pass := fun P B I k W X ω lw R c hp hot nd st ω' h => by
  rw [ckS] at h
  split at h
  · rename_i hb
    cases h
    refine ⟨?_, fun z => by cases z⟩
    have key : ∀ {t : TS}, (∀ D σ H, t D σ H = D.nx σ H) → PS X st tNext → PS X st (tS P B ω (some ω) lw R W (evS .pass)) := fun {t} _ h => h.imp fun D σ H ⟨env, G, Rl, q⟩ => by
      rw [evS] at q
      obtain ⟨w, e4, q2⟩ := q
      cases e4
      exact q2 _ G H Rl (.refl _)
    refine key (t := tNext) (fun _ _ _ => rfl) ?_
    unfold isPass at hb
    split at hb
    · exact ps_pass
    · exact ps_doc
    · cases hb
  · cases h
theorem t_brk : SSt .brk := fun P B I k W X ω lw R c hp hot nd st ω' h => by
  cases lw with
  | none => simp [ckS] at h
  | some w =>
    simp only [ckS] at h
    split at h
    · rename_i hb
      split at h
      · rename_i hw
        cases h
        refine ⟨?_, fun _ env e' z => by rw [evS] at z; cases z⟩
        unfold isBrk at hb
        split at hb
        · refine ps_break.imp fun D σ H ⟨env, G, Rl, q⟩ => ?_
          rw [evS] at q
          obtain ⟨w', e4, q2⟩ := q
          cases e4
          exact q2 _ G H (Rl.like (eqO_ok hw)) (.refl _)
        · cases hb
      · cases h
    · cases h
theorem OutF.join {a b w : Option (List Own)} {r : Fl} (hj : joinO a b = some w) (h : OutF P B w lw R W D G r) (ha : a = none → ∀ e', r ≠ .nx e') : OutF P B a lw R W D G r := by
  cases r with
  | nx e =>
    obtain ⟨w', e1, q⟩ := h
    subst e1
    cases a with
    | none => exact absurd rfl (ha rfl e)
    | some a =>
      refine ⟨a, rfl, fun σ' G' H' r l => q σ' G' H' (r.like fun i => ?_) l⟩
      cases b with
      | none => cases hj; rfl
      | some b =>
        simp only [joinO] at hj
        split at hj
        · cases hj; rfl
        · cases hj
  | bk e => exact h
  | rt d => exact h
  | exc c n e => exact h
  | bad => exact h
theorem OutF.join' {a b w : Option (List Own)} {r : Fl} (hj : joinO a b = some w) (h : OutF P B w lw R W D G r) (ha : b = none → ∀ e', r ≠ .nx e') : OutF P B b lw R W D G r := by
  cases r with
  | nx e =>
    obtain ⟨w', e1, q⟩ := h
    subst e1
    cases b with
    | none => exact absurd rfl (ha rfl e)
    | some b =>
      refine ⟨b, rfl, fun σ' G' H' r l => q σ' G' H' (r.like fun i => ?_) l⟩
      cases a with
      | none => cases hj; rfl
      | some a =>
        simp only [joinO] at hj
        split at hj
        · rename_i he
          cases hj; exact (eqO_ok he i).symm
        · cases hj
  | bk e => exact h
  | rt d => exact h
  | exc c n e => exact h
  | bad => exact h
theorem joinO_none {a b : Option (List Own)} (h : joinO a b = some none) : a = none ∧ b = none := by
  cases a with
  | none => cases h; exact ⟨rfl, rfl⟩
  | some a =>
    cases b with
    | none => cases h
    | some b =>
      simp only [joinO] at h
      split at h
      · cases h
      · cases h
theorem t_ite (e : CE) {a b : CSs} (ha : SSs a) (hb : SSs b) : SSt (.ite e a b) := fun P B I k W X ω lw R c hp hot nd st ω' h => by
  rw [NdS] at nd
  rw [ckS] at h
  split at h
  · rename_i x y z p e1
    split at h
    · rename_i κ o o' e2 e3 e4
      obtain ⟨pa, na⟩ := ha P B I k W X ω lw R c hp hot nd.2.1 _ _ e3
      obtain ⟨pb, nb⟩ := hb P B I k W X ω lw R c hp hot nd.2.2 _ _ e4
      refine ⟨?_, fun z env e' => ?_⟩
      · rw [asIfS_eq e1]
        refine (ps_if ((sE e P B I k W X ω c nd.1).2 _ _ e2) pa pb).imp fun D σ H ⟨env, G, Rl, q⟩ => ?_
        rw [evS] at q
        refine ⟨env, G, Rl, OutF.step Rl q fun d v G₁ H₁ _ R₁ x₁ k₁ q₁ => ?_⟩
        subst k₁
        cases v with
        | true => exact ⟨env, G₁, R₁, OutF.le (x₁.le Rl.sub) (OutF.join h q₁ fun z => na z env)⟩
        | false => exact ⟨env, G₁, R₁, OutF.le (x₁.le Rl.sub) (OutF.join' h q₁ fun z => nb z env)⟩
      · subst z
        obtain ⟨z1, z2⟩ := joinO_none h
        rw [evS]
        refine fl_nx fun bb => ?_
        cases bb with
        | true => exact na z1 env e'
        | false => exact nb z2 env e'
    · cases h
  · cases h
/-- the loop's end, from the body's -/
def loopEnd (r : Fl) (next : Env → Fl) : Fl := match r with
  | .nx e2 => next e2
  | .bk e2 => .nx e2
  | r => r
theorem OutF.body {r : Fl} {next : Env → Fl} {wb : Option (List Own)} {N : St → Hp → Prop} (hb : wb = none ∧ (∀ e', r ≠ .nx e') ∨ ∃ w, wb = some w ∧ eqO w ω = true) (h : OutF P B (some ω) lw R W D G (loopEnd r next))
    (hN : ∀ e2 σ' G' H', Rel P B ω e2 σ' G' H' → Le G G' → OutF P B (some ω) lw R W D G (next e2) → N σ' H') : OutF P B wb (some ω) R W { D with nx := N, ct := N, bk := D.nx } G r := by
  cases r with
  | nx e2 =>
    rcases hb with ⟨_, hb⟩ | ⟨w, rfl, he⟩
    · exact absurd rfl (hb e2)
    · exact ⟨w, rfl, fun σ' G' H' r l => hN e2 σ' G' H' (r.like (eqO_ok he)) l h⟩
  | bk e2 =>
    obtain ⟨w, e1, q⟩ := h
    cases e1
    exact ⟨ω, rfl, q⟩
  | rt d => exact h
  | exc c n e => exact h
  | bad => exact h
theorem whLoop_eq (c : Env → Res SH.D) (f : Env → Fl) (n : Nat) (env : Env) : whLoop c f (n + 1) env = (c env >>= asB).fl env fun k => if k then loopEnd (f env) (whLoop c f n) else .nx env := by
  rw [whLoop]
  congr 1
theorem forLoop_eq (tg : Tg) (f : Env → Fl) (d : SH.D) (ds : List SH.D) (env : Env) : forLoop tg f (d :: ds) env = (bindT tg d env).fl env fun e1 => loopEnd (f e1) (forLoop tg f ds) := by
  rw [forLoop]
  congr 1
theorem t_whl (n : Nat) (e : CE) {b : CSs} (hb : SSs b) : SSt (.whl n e b) := fun P B I k W X ω lw R c hp hot nd st ω' h => by
  rw [NdS] at nd
  have key : ∃ x bd p κ wb, asWhl st = some (x, bd, p) ∧ ck I ω true e x = some κ ∧ ckSs I (some ω) R ω b bd = some wb ∧ ω' = some ω ∧ (wb = none ∨ ∃ w, wb = some w ∧ eqO w ω = true) := by
    rw [ckS] at h
    split at h
    · rename_i x bd p e1
      split at h
      · rename_i κ e2 e3
        cases h
        exact ⟨x, bd, p, κ, none, e1, e2, e3, rfl, .inl rfl⟩
      · rename_i κ w e2 e3
        split at h
        · rename_i he
          cases h
          exact ⟨x, bd, p, κ, some w, e1, e2, e3, rfl, .inr ⟨w, rfl, he⟩⟩
        · cases h
      · cases h
    · cases h
  obtain ⟨x, bd, p, κ, wb, e1, e2, e3, rfl, hw⟩ := key
  obtain ⟨pb, nb⟩ := hb P B I k W X ω (some ω) R c hp hot nd.2 _ _ e3
  refine ⟨?_, fun z => by cases z⟩
  rw [asWhl_eq e1]
  refine (ps_while hp.1 ((sE e P B I k W X ω c nd.1).2 _ _ e2) pb).imp fun D σ H ⟨env, G, Rl, q⟩ => ?_
  rw [evS] at q
  refine ⟨fun m σ H => ∃ env G, Rel P B ω env σ G H ∧ OutF P B (some ω) lw R W D G (whLoop (evE e) (evSs b) m env), ⟨n, env, G, Rl, q⟩, fun m σ H ⟨env, G, Rl, q⟩ => ?_⟩
  cases m with
  | zero => exact False.elim q
  | succ m =>
    rw [whLoop_eq] at q
    refine ⟨env, G, Rl, OutF.step Rl q fun d v G₁ H₁ _ R₁ x₁ k₁ q₁ => ?_⟩
    subst k₁
    cases v with
    | true =>
      rw [if_pos rfl] at q₁ ⊢
      refine ⟨fun σ' H' => ∃ env' G', Rel P B ω env' σ' G' H' ∧ OutF P B (some ω) lw R W D G' (whLoop (evE e) (evSs b) m env'), fun σ' H' z => ⟨m, Nat.lt_succ_self m, z⟩, env, G₁, R₁, ?_⟩
      refine OutF.body (next := whLoop (evE e) (evSs b) m) ?_ (OutF.le (x₁.le Rl.sub) q₁) fun e2 σ' G' H' r l q' => ⟨e2, G', r, OutF.le l q'⟩
      rcases hw with rfl | hw
      · exact .inl ⟨rfl, nb rfl env⟩
      · exact .inr hw
    | false =>
      rw [if_neg (by decide)] at q₁ ⊢
      obtain ⟨w, e4, q2⟩ := q₁
      cases e4
      exact q2 _ G₁ H₁ R₁ (x₁.le Rl.sub)
theorem t_for (tg : Tg) (src : Src) {b : CSs} (hb : SSs b) : SSt (.forS tg src b) := fun P B I k W X ω lw R c hp hot nd st ω' h => by
  rw [NdS] at nd
  have key : ∃ t it bd p o wb, asFor st = some (t, it, bd, p) ∧ ckSrc I ω true src it = some o ∧ notSet it = true ∧ tgB I tg t = true ∧ ckSs I (some ω) R (setO ω o (tgIs tg)) b bd = some wb ∧ ω' = some ω ∧ (wb = none ∨ ∃ w, wb = some w ∧ eqO w ω = true) := by
    rw [ckS] at h
    split at h
    · rename_i t it bd p e1
      split at h
      · rename_i o e2
        split at h
        · rename_i hbb
          rw [Bool.and_eq_true] at hbb
          split at h
          · rename_i e3
            cases h
            exact ⟨t, it, bd, p, o, none, e1, e2, hbb.1, hbb.2, e3, rfl, .inl rfl⟩
          · rename_i w e3
            split at h
            · rename_i he
              cases h
              exact ⟨t, it, bd, p, o, some w, e1, e2, hbb.1, hbb.2, e3, rfl, .inr ⟨w, rfl, he⟩⟩
            · cases h
          · cases h
        · cases h
      · cases h
    · cases h
  obtain ⟨t, it, bd, p, o, wb, e1, e2, hs, ht, e3, rfl, hw⟩ := key
  obtain ⟨cm, _, _, _⟩ := c.cold hot
  obtain ⟨oo, hi⟩ := sSrc src P B I k W X ω c cm nd.1 true it o t e2
  obtain ⟨pb, nb⟩ := hb P B I k W X (setO ω o (tgIs tg)) (some ω) R c hp hot nd.2 _ _ e3
  refine ⟨?_, fun z => by cases z⟩
  rw [asFor_eq e1]
  refine (ps_for hp.1 cm hi (pg_tg c cm ht) pb (notSet_fold hs)).imp fun D σ H ⟨env, G, Rl, q⟩ => ?_
  rw [evS] at q
  refine ⟨env, G, Rl, OutF.step Rl q fun items J G₁ H₁ _ R₁ x₁ k₁ q₁ => ?_⟩
  obtain ⟨vs, elv, hvs, itok⟩ := k₁
  refine ⟨fun i m σ H => ∃ env G, i + m = items.length ∧ Le G₁ G ∧ Rel P B ω env σ G H ∧ OutF P B (some ω) lw R W D G (forLoop tg (evSs b) (items.drop i) env), ⟨items.length, env, G₁, by simp, .refl _, R₁, OutF.le (x₁.le Rl.sub) q₁⟩, fun i m σ H ⟨env, G, him, lg, Rl, q⟩ => ?_⟩
  have hz : Le (if true = true then G₁ else H₁) H := fun a u hu => Rl.sub _ _ (lg _ _ hu)
  by_cases hi : vs.length ≤ i
  · refine .inl ⟨itok.stop i H hz hi, ?_⟩
    rw [List.drop_eq_nil_of_le (by omega), forLoop] at q
    obtain ⟨w, e4, q2⟩ := q
    cases e4
    exact q2 _ G H Rl (.refl _)
  · have hi : i < vs.length := Nat.lt_of_not_le hi
    have hii : i < items.length := by omega
    refine .inr ⟨itok.go i H hz hi, fun σ' H' => ∃ env G, Le G₁ G ∧ Rel P B ω env σ' G H' ∧ OutF P B (some ω) lw R W D G (forLoop tg (evSs b) (items.drop (i + 1)) env), fun σ' H' ⟨env, G, z1, z2, z3⟩ => ⟨m - 1, by omega, env, G, by omega, z1, z2, z3⟩, fun xv H' hy => ?_⟩
    obtain ⟨rfl, hxv⟩ := itok.yld i H xv H' hz hi hy
    rw [List.drop_eq_getElem_cons hii, forLoop_eq] at q
    have wx : Ow P G H' o (fun _ => False) xv items[i] := (hvs i xv items[i] hxv (List.getElem?_eq_getElem hii)).frame lg fun _ z => z.elim
    cases eb : bindT tg items[i] env with
    | exc cc n => exact (bind_exc eb).elim
    | bad => rw [eb] at q; exact False.elim q
    | ok env' =>
      rw [eb] at q
      refine bind_ok oo Rl wx eb fun σ' R₃ _ => ⟨env', G, R₃, ?_⟩
      refine OutF.body (next := forLoop tg (evSs b) (items.drop (i + 1))) ?_ q fun e2 σ' G' H' r l q' => ⟨e2, G', lg.trans l, r, OutF.le l q'⟩
      rcases hw with rfl | hw
      · exact .inl ⟨rfl, nb rfl env'⟩
      · exact .inr hw

/-! ### one after another -/
theorem ts_nil : SSs .nil := fun P B I k W X ω lw R c hp hot nd l ω' h => by
  cases l with
  | cons s l => simp [ckSs] at h
  | nil =>
    simp [ckSs] at h
    subst h
    refine ⟨pss_nil.imp fun D σ H ⟨env, G, Rl, q⟩ => ?_, fun z => by cases z⟩
    rw [evSs] at q
    obtain ⟨w, e4, q2⟩ := q
    cases e4
    exact q2 _ G H Rl (.refl _)
theorem ts_wk (i : Nat) (o : Own) {ss : CSs} (hs : SSs ss) : SSs (.cons (.wk i o) ss) := fun P B I k W X ω lw R c hp hot nd l ω' h => by
  rw [NdSs] at nd
  simp only [ckSs] at h
  split at h
  · rename_i hc
    obtain ⟨p1, p2⟩ := hs P B I k W X (setw ω i o) lw R c hp hot nd.2 _ _ h
    refine ⟨p1.imp fun D σ H ⟨env, G, Rl, q⟩ => ?_, fun z env e' => ?_⟩
    · rw [evSs, evS] at q
      obtain ⟨G', l, R'⟩ := Rl.soften (ω' := setw ω i o) fun j d _ => by
        rw [ow_setw]
        split
        · rename_i hj; rw [hj]; exact hc
        · exact co_self _
      exact ⟨env, G', R', OutF.le l q⟩
    · rw [evSs, evS]; exact p2 z env e'
  · cases h
theorem ts_kill (i : Nat) {ss : CSs} (hs : SSs ss) : SSs (.cons (.kill i) ss) := fun P B I k W X ω lw R c hp hot nd l ω' h => by
  rw [NdSs] at nd
  simp only [ckSs] at h
  obtain ⟨p1, p2⟩ := hs P B I k W X (setw ω i .sh) lw R c hp hot nd.2 _ _ h
  refine ⟨p1.imp fun D σ H ⟨env, G, Rl, q⟩ => ?_, fun z env e' => ?_⟩
  · rw [evSs, evS] at q
    obtain ⟨Fs, h1, h2, h3⟩ := Rl.slots
    refine ⟨env.set i none, G, ⟨Rl.sub, Rl.ent, Rl.entG, by simp [Rl.len], Fs, fun j d e => ?_, h2, h3⟩, q⟩
    by_cases hj : j = i
    · subst hj
      by_cases hl : j < env.length
      · rw [List.getElem?_set_self hl] at e; cases e
      · rw [List.getElem?_eq_none (by simpa using Nat.le_of_not_lt hl)] at e; cases e
    · rw [List.getElem?_set_ne (Ne.symm hj)] at e
      rw [ow_setw, if_neg hj]
      exact h1 j d e
  · rw [evSs, evS]; exact p2 z _ e'
theorem ts_cons {s : CS} {ss : CSs} (n1 : ∀ i o, s ≠ .wk i o) (n2 : ∀ i, s ≠ .kill i) (h1 : SSt s) (h2 : SSs ss) : SSs (.cons s ss) := fun P B I k W X ω lw R c hp hot nd l ω' h => by
  rw [NdSs] at nd
  have key : ∃ st l' o, l = st :: l' ∧ ckS I lw R ω s st = some o ∧ ((o = none ∧ ω' = none) ∨ ∃ w, o = some w ∧ ckSs I lw R w ss l' = some ω') := by
    cases l with
    | nil => cases s <;> first | (exact absurd rfl (n1 _ _)) | (exact absurd rfl (n2 _)) | (simp only [ckSs] at h; cases h)
    | cons st l' =>
      have h : (match ckS I lw R ω s st with
        | some (some ω') => ckSs I lw R ω' ss l'
        | some none => some none
        | none => none) = some ω' := by
        cases s <;> first | (exact absurd rfl (n1 _ _)) | (exact absurd rfl (n2 _)) | (simp only [ckSs] at h; exact h)
      split at h
      · rename_i w e1
        exact ⟨st, l', some w, rfl, e1, .inr ⟨w, rfl, h⟩⟩
      · rename_i e1
        cases h
        exact ⟨st, l', none, rfl, e1, .inl ⟨rfl, rfl⟩⟩
      · cases h
  obtain ⟨st, l', o, rfl, e1, hw⟩ := key
  obtain ⟨p1, q1⟩ := h1 P B I k W X ω lw R c hp hot nd.1 _ _ e1
  rcases hw with ⟨rfl, rfl⟩ | ⟨w, rfl, e2⟩
  · refine ⟨(pss_cons p1 (pss_never (sts := l'))).imp fun D σ H ⟨env, G, Rl, q⟩ => ⟨env, G, Rl, ?_⟩, fun _ env e' z => ?_⟩
    · rw [evSs] at q
      cases e : evS s env with
      | nx e2 => exact absurd e (q1 rfl env e2)
      | rt d => rw [e] at q; exact q
      | bk e2 => rw [e] at q; exact q
      | exc c n e2 => rw [e] at q; exact q
      | bad => rw [e] at q; exact q
    · rw [evSs] at z
      cases e : evS s env with
      | nx e2 => exact absurd e (q1 rfl env e2)
      | rt d => rw [e] at z; cases z
      | bk e2 => rw [e] at z; cases z
      | exc c n e2 => rw [e] at z; cases z
      | bad => rw [e] at z; cases z
  · obtain ⟨p2, q2⟩ := h2 P B I k W X w lw R c hp hot nd.2 _ _ e2
    refine ⟨(pss_cons p1 p2).imp fun D σ H ⟨env, G, Rl, q⟩ => ⟨env, G, Rl, ?_⟩, fun z env e' y => ?_⟩
    · rw [evSs] at q
      cases e : evS s env with
      | nx e2 =>
        rw [e] at q
        exact ⟨w, rfl, fun σ' G' H' r l => ⟨e2, G', r, OutF.le l q⟩⟩
      | rt d => rw [e] at q; exact q
      | bk e2 => rw [e] at q; exact q
      | exc c n e2 => rw [e] at q; exact q
      | bad => rw [e] at q; exact q
    · rw [evSs] at y
      cases e : evS s env with
      | nx e2 => rw [e] at y; exact q2 z e2 e' y
      | rt d => rw [e] at y; cases y
      | bk e2 => rw [e] at y; cases y
      | exc c n e2 => rw [e] at y; cases y
      | bad => rw [e] at y; cases y
end
end SH
end
section
set_option Elab.async false
set_option linter.all false
set_option autoImplicit false
set_option maxRecDepth 10000
/-! .. changes in owned things. -/
namespace SH
open PySem L2

section
variable {P : Pm} {B : Bs} {I : Ci} {k : Nat} {W : WX} {X : Cx} {ω : List Own} {ω' lw : Option (List Own)} {R : Own} {D : Ends} {G G₁ H H₁ : Hp} {env : Env} {σ : St}
/-- one after another in a row of results -/
theorem OutF.step2 {α β γ : Type} {N : Hp → Hp → α → β → Prop} {r : Res β} {g : β → Res γ} {h : γ → Fl} {Rest : α → Hp → Prop} (Rl : Rel P B ω env σ G H) (q : OutF P B ω' lw R W D G ((r >>= g).fl env h))
    (k : ∀ d v G₁ H₁, r = .ok d → Rel P B ω env σ G₁ H₁ → Ext G H G₁ H₁ → N G₁ H₁ v d → OutF P B ω' lw R W D G ((g d).fl env h) → Rest v H₁) : Out P N W σ G H r Rest := by
  refine OutF.step (g := fun d => (g d).fl env h) Rl ?_ k
  cases r with
  | ok d => exact q
  | exc c n => exact q
  | bad => exact q
/-- a path's reading with something known besides -/
def tPathA (P : Pm) (B : Bs) (ω : List Own) (W : WX) (A : SH.Env → St → Hp → Prop) (b : CE) : TE := fun σ H Q => ∃ env G, Rel P B ω env σ G H ∧ A env σ H ∧ Out P (fun _ H' v r => PathR P env σ H' v r) W σ G H (pathD b env) Q
theorem mut_core {b : CE} {m : Mut} {es : CEs} {A : SH.Env → St → Hp → Prop} {o : Expr} {p q pos : Pos} {l : List Expr} {i n : Nat} {o₁ : Own} (c : Ct P I k W X) (ndes : NdEs P k es) (hpl : plainB o = true) (hns : l.all notStar = true) (hline : (p.endLine == q.line) = true)
    (pp : PE X o (tPathA P B ω W A b)) (pin : ∀ env r, pathD b env = .ok r → r.1 = i ∧ r.2.1.length = n) (e5 : deepO (ow ω i) n = some (.nd o₁)) (hc : ckMut I ω m o₁ es l = true) :
    PS X (.Expr (.Call (.Attribute o (mutNm m : Str) p) l [] q) pos) (fun D σ H => ∃ env G, Rel P B ω env σ G H ∧ A env σ H ∧ OutF P B (some ω) lw R W D G (evS (.mut b m es) env)) := by
  have hbase : attributeBase o (mutNm m : Str) X.env (eval o X.env) = eval o X.env := plainB_eq hpl
  -- behind the arguments
  have fin : ∀ {D : Ends} {σ : St} {H₁ G₁ G₂ H₂ : Hp} {env : Env} {r : Nat × List SH.D × SH.D} {ds : List SH.D} {du' : SH.D} {v : V} {Fx : Addr → Prop} {p : Addr} {u : HO}, Rel P B ω env σ G₁ H₁ → pathD b env = .ok r → PathR P env σ H₁ v r → Ext G₁ H₁ G₂ H₂ → New H₁ G₂ H₂ Fx → v = .ref p →
      OutF P B (some ω) lw R W D G₁ ((getV env r.1 >>= fun x => updAt (mutD m ds) r.2.1 x >>= fun y => .ok (r.1, y)).fl env fun p => .nx (env.set p.1 (some p.2))) → mutD m ds r.2.2 = .ok du' →
      (∀ F₀ : Addr → Prop, (∀ a, F₀ a → ∃ w, H₁ a = some w) → Ow P G₂ H₂ (.nd o₁) F₀ (.ref p) r.2.2 → F₀ p ∧ Ow P G₂ (upd H₂ p u) (.nd o₁) (fun a => F₀ a ∨ Fx a) (.ref p) du') → D.nx σ (upd H₂ p u) := by
    intro D σ H₁ G₁ G₂ H₂ env r ds du' v Fx p u R₁ er pr x₂ nx hv q hf leaf
    obtain ⟨ri, rps, rd⟩ := r
    obtain ⟨rfl, hn⟩ := pin env _ er
    simp only at hn pr q hf leaf
    obtain ⟨d₀, d', g1, g2, g3⟩ := leaf_done (f := mutD m ds) R₁ x₂ pr (by rw [hn]; exact e5) nx hv leaf hf
    have gv : getV env ri = .ok d₀ := by unfold getV; rw [g1]
    rw [gv] at q
    simp only [Res.ok_bind, g2, fl_ok] at q
    obtain ⟨w, e9, q2⟩ := q
    cases e9
    exact q2 σ G₂ _ g3 (x₂.le R₁.sub)
  have lsty : ∀ {H : Hp} {v : V} {ds : List SH.D}, Rp P H v (.lst ds) → tyV X.K "list" v H := fun {H v ds} r => by
    obtain ⟨p, vs, rfl, hp, _, _⟩ := r.lstI
    exact .inl ⟨rfl, vs, .of hp⟩
  have bad1 : ∀ {env : Env} {σ : St} {H : Hp} {v : V} {r : Nat × List SH.D × SH.D} {ds : List SH.D} {D : Ends} {G : Hp}, PathR P env σ H v r → OutF P B (some ω) lw R W D G ((getV env r.1 >>= fun x => updAt (mutD m ds) r.2.1 x >>= fun y => .ok (r.1, y)).fl env fun p => .nx (env.set p.1 (some p.2))) → ∃ du', mutD m ds r.2.2 = .ok du' := by
    intro env σ H v r ds D G pr q
    obtain ⟨v₀, d₀, p1, p2, p3, p4, p5⟩ := pr
    have gv : getV env r.1 = .ok d₀ := by unfold getV; rw [p2]
    rw [gv] at q
    cases e : mutD m ds r.2.2 with
    | ok y => exact ⟨y, rfl⟩
    | exc c n =>
      exfalso
      unfold mutD at e
      split at e <;> first | (cases e; done) | (split at e <;> cases e)
    | bad =>
      have q : OutF P B (some ω) lw R W D G ((updAt (mutD m ds) r.2.1 d₀ >>= fun y => .ok (r.1, y)).fl env fun p => .nx (env.set p.1 (some p.2))) := q
      rw [updAt_bad e p4] at q
      exact False.elim q
  cases m with
  | append =>
    simp only [ckMut, Bool.and_eq_true, decide_eq_true_eq] at hc
    obtain ⟨hl, hk⟩ := hc
    match l, hl, hns, hk with
    | [e], _, hns, hk =>
      have hs : notStar e = true := by simpa using hns
      have pa := (sEs es).1 P B I k W X ω c ndes
      refine (ps_expr (pe_bm F.plainAttrs_list F.slot_list_append F.type_list_append mt_append pp (pa.1 _ _ hk) hbase (few1 hs) hline (star_plain hs) rfl) (notComp_eq rfl)).imp fun D σ H ⟨env, G, Rl, hA, qq⟩ => ?_
      rw [evS] at qq
      refine ⟨env, G, Rl, hA, OutF.step2 Rl qq fun r v G₁ H₁ er R₁ x₁ pr q₁ => ?_⟩
      obtain ⟨v₀, d₀, p1, p2, p3, p4, p5⟩ := id pr
      cases ed : r.2.2 with
      | lst dl =>
        rw [ed] at p5
        refine ⟨lsty p5, ?_⟩
        rw [ed] at q₁
        have q₁ : OutF P B (some ω) lw R W D G ((evEs es env >>= fun ds => getV env r.1 >>= fun x => updAt (mutD .append ds) r.2.1 x >>= fun y => .ok (r.1, y)).fl env fun p => .nx (env.set p.1 (some p.2))) := q₁
        refine ⟨env, G₁, R₁, OutF.step2 R₁ (OutF.le (x₁.le Rl.sub) q₁) fun ds xs G₂ H₂ _ R₂ x₂ ks q₂ => ?_⟩
        obtain ⟨du', hdu⟩ := bad1 (v := v) pr q₂
        obtain ⟨el, Fs, f1, f2, f3⟩ := ks
        rw [ed] at hdu
        obtain ⟨pp', vs, rfl, hpp, elv, _⟩ := (p5.le x₂.same).lstI
        match ds, xs, el, hdu with
        | [dx], [y], _, hdu =>
          simp only [mutD] at hdu
          split at hdu
          · rename_i hlim
            cases hdu
            refine ⟨pp', vs, y, rfl, rfl, hpp, by rw [← lim_eq, elv]; exact hlim, ?_⟩
            refine fin (Fx := Fs 0) (ds := [dx]) R₁ er pr x₂ (f2 0) rfl q₂ (by rw [ed]; simp only [mutD]; rw [if_pos hlim]) fun F₀ old w0 => ?_
            rw [ed] at w0
            exact w0.snoc hpp (f1 0 y dx rfl rfl) fun a z1 z2 => by
              obtain ⟨w, hw⟩ := old a z1
              rw [(f2 0 a z2).1] at hw; cases hw
          · cases hdu
        | [], _, _, hdu => simp [mutD] at hdu
        | _ :: _ :: _, _, _, hdu => simp [mutD] at hdu
      | _ => rw [ed] at q₁; exact False.elim q₁
  | extend =>
    simp only [ckMut, Bool.and_eq_true, decide_eq_true_eq] at hc
    obtain ⟨hl, hk⟩ := hc
    match l, hl, hns, hk with
    | [e], _, hns, hk =>
      have hs : notStar e = true := by simpa using hns
      have pa := (sEs es).1 P B I k W X ω c ndes
      refine (ps_expr (pe_bm F.plainAttrs_list F.slot_list_extend F.type_list_extend mt_extend pp (pa.1 _ _ hk) hbase (few1 hs) hline (star_plain hs) rfl) (notComp_eq rfl)).imp fun D σ H ⟨env, G, Rl, hA, qq⟩ => ?_
      rw [evS] at qq
      refine ⟨env, G, Rl, hA, OutF.step2 Rl qq fun r v G₁ H₁ er R₁ x₁ pr q₁ => ?_⟩
      obtain ⟨v₀, d₀, p1, p2, p3, p4, p5⟩ := id pr
      cases ed : r.2.2 with
      | lst dl =>
        rw [ed] at p5
        refine ⟨lsty p5, ?_⟩
        rw [ed] at q₁
        have q₁ : OutF P B (some ω) lw R W D G ((evEs es env >>= fun ds => getV env r.1 >>= fun x => updAt (mutD .extend ds) r.2.1 x >>= fun y => .ok (r.1, y)).fl env fun p => .nx (env.set p.1 (some p.2))) := q₁
        refine ⟨env, G₁, R₁, OutF.step2 R₁ (OutF.le (x₁.le Rl.sub) q₁) fun ds xs G₂ H₂ _ R₂ x₂ ks q₂ => ?_⟩
        obtain ⟨du', hdu⟩ := bad1 (v := v) pr q₂
        obtain ⟨el, Fs, f1, f2, f3⟩ := ks
        rw [ed] at hdu
        obtain ⟨pp', vs, rfl, hpp, elv, _⟩ := (p5.le x₂.same).lstI
        match ds, xs, el, hdu with
        | [dx], [y], _, hdu =>
          cases dx with
          | lst dz =>
            simp only [mutD] at hdu
            split at hdu
            · rename_i hlim
              cases hdu
              have wy := f1 0 y (.lst dz) rfl rfl
              obtain ⟨py, us, rfl, hpy, ely, _⟩ := (wy.rp R₂.sub).lstI
              refine ⟨pp', py, vs, us, rfl, rfl, hpp, hpy, by rw [← lim_eq, elv, ely]; exact hlim, ?_⟩
              refine fin (Fx := Fs 0) (ds := [.lst dz]) R₁ er pr x₂ (f2 0) rfl q₂ (by rw [ed]; simp only [mutD]; rw [if_pos hlim]) fun F₀ old w0 => ?_
              rw [ed] at w0
              exact w0.extL hpp wy hpy fun a z1 z2 => by
                obtain ⟨w, hw⟩ := old a z1
                rw [(f2 0 a z2).1] at hw; cases hw
            · cases hdu
          | _ => simp [mutD] at hdu
        | [], _, _, hdu => simp [mutD] at hdu
        | _ :: _ :: _, _, _, hdu => simp [mutD] at hdu
      | _ => rw [ed] at q₁; exact False.elim q₁
  | insert =>
    simp only [ckMut, Bool.and_eq_true, decide_eq_true_eq] at hc
    obtain ⟨hl, hk⟩ := hc
    match l, hl, hns, hk with
    | [e, e'], _, hns, hk =>
      rw [List.all_cons, List.all_cons, Bool.and_eq_true, Bool.and_eq_true] at hns
      have hs : notStar e = true := hns.1
      have hs' : notStar e' = true := hns.2.1
      have pa := (sEs es).1 P B I k W X ω c ndes
      have st2 : starEach [e, e'] X.env = (false, eval e X.env) :: starEach [e'] X.env := star_plain hs
      refine (ps_expr (pe_bm F.plainAttrs_list F.slot_list_insert F.type_list_insert mt_insert pp (pa.1 _ _ hk) hbase (few2 hs hs') hline st2 (star_any (by rw [List.all_cons, hs']; rfl))) (notComp_eq rfl)).imp fun D σ H ⟨env, G, Rl, hA, qq⟩ => ?_
      rw [evS] at qq
      refine ⟨env, G, Rl, hA, OutF.step2 Rl qq fun r v G₁ H₁ er R₁ x₁ pr q₁ => ?_⟩
      obtain ⟨v₀, d₀, p1, p2, p3, p4, p5⟩ := id pr
      cases ed : r.2.2 with
      | lst dl =>
        rw [ed] at p5
        refine ⟨lsty p5, ?_⟩
        rw [ed] at q₁
        have q₁ : OutF P B (some ω) lw R W D G ((evEs es env >>= fun ds => getV env r.1 >>= fun x => updAt (mutD .insert ds) r.2.1 x >>= fun y => .ok (r.1, y)).fl env fun p => .nx (env.set p.1 (some p.2))) := q₁
        refine ⟨env, G₁, R₁, OutF.step2 R₁ (OutF.le (x₁.le Rl.sub) q₁) fun ds xs G₂ H₂ _ R₂ x₂ ks q₂ => ?_⟩
        obtain ⟨du', hdu⟩ := bad1 (v := v) pr q₂
        obtain ⟨el, Fs, f1, f2, f3⟩ := ks
        rw [ed] at hdu
        obtain ⟨pp', vs, rfl, hpp, elv, _⟩ := (p5.le x₂.same).lstI
        match ds, xs, el, hdu with
        | [di, dx], [yi, y], _, hdu =>
          cases di with
          | int i =>
            simp only [mutD] at hdu
            split at hdu
            · rename_i hlim
              cases hdu
              have wi := ((f1 0 yi (.int i) rfl rfl).rp R₂.sub).int
              subst wi
              have wy := f1 1 y dx rfl rfl
              refine ⟨pp', vs, i, y, rfl, rfl, hpp, by rw [← lim_eq, elv]; exact hlim.1, hlim.2.1, hlim.2.2, ?_⟩
              refine fin (Fx := Fs 1) (ds := [.int i, dx]) R₁ er pr x₂ (f2 1) rfl q₂ (by rw [ed]; simp only [mutD]; rw [if_pos hlim]) fun F₀ old w0 => ?_
              rw [ed] at w0
              exact w0.insL hpp wy fun a z1 z2 => by
                obtain ⟨w, hw⟩ := old a z1
                rw [(f2 1 a z2).1] at hw; cases hw
            · cases hdu
          | _ => simp [mutD] at hdu
        | [], _, _, hdu => simp [mutD] at hdu
        | [_], _, _, hdu => simp [mutD] at hdu
        | _ :: _ :: _ :: _, _, _, hdu => simp [mutD] at hdu
      | _ => rw [ed] at q₁; exact False.elim q₁
  | pop =>
    simp only [ckMut, Bool.and_eq_true, decide_eq_true_eq] at hc
    obtain ⟨hl, hk⟩ := hc
    match l, hl, hns, hk with
    | [], _, hns, hk =>
      have he : es = .nil := by cases es with
        | nil => rfl
        | cons st a es => cases st <;> simp [ckEs] at hk
      subst he
      refine (ps_expr (pe_bm0 F.plainAttrs_list F.slot_list_pop F.type_list_pop mt_pop pp hbase hline) (notComp_eq rfl)).imp fun D σ H ⟨env, G, Rl, hA, qq⟩ => ?_
      rw [evS] at qq
      refine ⟨env, G, Rl, hA, OutF.step2 Rl qq fun r v G₁ H₁ er R₁ x₁ pr q₁ => ?_⟩
      obtain ⟨v₀, d₀, p1, p2, p3, p4, p5⟩ := id pr
      cases ed : r.2.2 with
      | lst dl =>
        rw [ed] at p5
        refine ⟨lsty p5, ?_⟩
        rw [ed] at q₁
        have q₁ : OutF P B (some ω) lw R W D G ((getV env r.1 >>= fun x => updAt (mutD .pop []) r.2.1 x >>= fun y => .ok (r.1, y)).fl env fun p => .nx (env.set p.1 (some p.2))) := q₁
        obtain ⟨du', hdu⟩ := bad1 (v := v) pr q₁
        rw [ed] at hdu
        obtain ⟨pp', vs, rfl, hpp, elv, _⟩ := p5.lstI
        simp only [mutD] at hdu
        split at hdu
        · cases hdu
        · rename_i hne
          cases hdu
          have hnv : 0 < vs.length := by
            rw [elv]
            cases dl with
            | nil => simp at hne
            | cons a b => simp
          refine ⟨pp', vs, vs[vs.length - 1]'(by omega), rfl, rfl, hpp, List.getElem?_eq_getElem (by omega), ?_⟩
          refine fin (Fx := fun _ => False) (ds := []) R₁ er pr (.refl R₁.sub) (fun _ z => z.elim) rfl (OutF.le (x₁.le Rl.sub) q₁) (by rw [ed]; simp only [mutD]; rw [if_neg hne]) fun F₀ old w0 => ?_
          rw [ed] at w0
          exact w0.popL hpp
      | _ => rw [ed] at q₁; exact False.elim q₁
  | popAt => simp [ckMut] at hc
theorem t_mut (b : CE) (m : Mut) (es : CEs) : SSt (.mut b m es) := fun P B I k W X ω lw R c hp hot nd st ω' h => by
  rw [NdS] at nd
  have key : ∃ o nm p l q pos κ i n o₁, st = .Expr (.Call (.Attribute o (mutNm m : Str) p) l [] q) pos ∧ plainB o = true ∧ l.all notStar = true ∧ (p.endLine == q.line) = true ∧ ck I ω false b o = some κ ∧ pathIN b = some (i, n) ∧ deepO (ow ω i) n = some (.nd o₁) ∧ ckMut I ω m o₁ es l = true ∧ ω' = some ω ∧ nm = mutNm m := by
    rw [ckS] at h
    split at h
    · rename_i v pos e1
      split at h
      · rename_i o nm p l q e2
        split at h
        · rename_i hb
          simp only [Bool.and_eq_true, beq_iff_eq] at hb
          obtain ⟨⟨⟨⟨h1, h2⟩, h3⟩, h4⟩, h5⟩ := hb
          split at h
          · rename_i κ i n e3 e4
            split at h
            · rename_i o₁ e5
              split at h
              · rename_i hc
                cases h
                exact ⟨o, mutNm m, p, l, q, pos, κ, i, n, o₁, by rw [asExp_eq e1, asMeth_eq e2, h1], h2, h3, by simp [h4], e3, e4, e5, hc, rfl, rfl⟩
              · cases h
            · cases h
          · cases h
        · cases h
      · cases h
    · cases h
  obtain ⟨o, nm, p, l, q, pos, κ, i, n, o₁, rfl, hpl, hns, hline, e3, e4, e5, hc, rfl, rfl⟩ := key
  refine ⟨?_, fun z => by cases z⟩
  have hb := isP_of e4
  have pin : ∀ env r, pathD b env = .ok r → r.1 = i ∧ r.2.1.length = n := by
    obtain ⟨i', n', z1, z2⟩ := pathIN_ok hb
    rw [e4] at z1
    cases z1
    exact z2
  have pp : PE X o (tPathA P B ω W (fun _ _ _ => True) b) := (pe_path (B := B) c hb nd.1 e3).imp fun σ H Q ⟨env, G, h1, _, h2⟩ => ⟨env, G, h1, h2⟩
  exact (mut_core c nd.2 hpl hns hline pp pin e5 hc).imp fun D σ H ⟨env, G, h1, h2⟩ => ⟨env, G, h1, trivial, h2⟩
theorem t_setC (i : Nat) (e : CE) : SSt (.setC i e) := fun P B I k W X ω lw R c hp hot nd st ω' h => by
  rw [NdS] at nd
  rw [ckS] at h
  split at h
  · rename_i t v spos e1
    split at h
    · rename_i x py e2
      split at h
      · rename_i elt tg it ifs sc' pos e3
        split at h
        · rename_i hb
          simp only [Bool.and_eq_true, Bool.not_eq_true'] at hb
          obtain ⟨⟨⟨⟨⟨h0, h1⟩, h2⟩, h3⟩, h4⟩, h5⟩ := hb
          split at h
          · rename_i κ e4
            split at h
            · rename_i hk
              cases h
              refine ⟨?_, fun z => by cases z⟩
              rw [asAsg_eq e1, asName_eq e2]
              obtain ⟨t1, t2, t3⟩ := c.sto h1
              have hx : X.env.scope.names.lookup x = some .local := by rw [c.sc]; exact isLoc_ok h3
              cases e with
              | lc tg' src cd el =>
                obtain ⟨elt', tg2, it', ifs', sc2, p', own, wi, g, tt, te, rfl, cm, nd', hi, ok, hg, ht, hee, hf, imp⟩ := lc_parts (B := B) (sSrc src) (sO cd) (sE el) c nd e4
                cases e3
                refine ⟨fun pins s σ H D I2 q => ?_⟩
                refine (ps_setLc cm nd' t1 hx (sw_true I2.ok.kind hx h4 h5) hi ok hg ht hee hf).run pins s σ H D I2 ?_
                obtain ⟨env, G, Rl, o⟩ := q
                rw [evS] at o
                refine imp σ H _ ⟨env, G, Rl, OutF.step Rl o fun d v G₁ H₁ _ R₁ x₁ k₁ o₁ => ?_⟩
                obtain ⟨w, e5, q1⟩ := o₁
                cases e5
                obtain ⟨G₂, F, x₂, n, ww⟩ := KdR.keep hk x₁ k₁
                exact q1 _ G₂ H₁ (Rl.setNew x₂ n ww i) (x₂.le Rl.sub)
              | _ => cases h0
            · cases h
          · cases h
        · cases h
      · cases h
    · cases h
  · cases h
/-! ### raise -/
theorem Ext.both {G H : Hp} {p : Addr} {u : HO} (s : Le G H) (hp : H p = none) : Ext G H (upd G p u) (upd H p u) :=
  ⟨fun a w h => by rw [upd_ne (ne_of_none h hp)]; exact h, fun a w h => upd_ne (ne_of_none h hp), fun a w h => by
    by_cases ha : a = p
    · subst ha; rw [upd_same] at h ⊢; exact h
    · rw [upd_ne ha] at h ⊢; exact s a w h⟩
theorem t_rse (cl : Nat) (e : CE) : SSt (.rse cl e) := fun P B I k W X ω lw R c hp hot nd st ω' h => by
  rw [NdS] at nd
  rw [ckS] at h
  split at h
  · rename_i v pos e1
    split at h
    · rename_i x p a q e2
      split at h
      · rename_i hb
        obtain ⟨κ, e3, rfl⟩ := some_of_map h
        simp only [Bool.and_eq_true, beq_iff_eq] at hb
        obtain ⟨⟨⟨h1, h2⟩, h3⟩, h4⟩ := hb
        obtain ⟨⟨j, fI, fd, hj, T, iC, tI, hno, F1, hbd, hmg⟩, nd2⟩ := nd
        obtain ⟨cm, rm, tk, xs0⟩ := c.cold hot
        obtain ⟨g1, g2, g3⟩ := c.gl h2
        refine ⟨?_, fun _ env e' => by rw [evS]; exact fl_nx fun d z => by cases d <;> cases z⟩
        rw [asRse_eq e1, asCall_eq e2]
        refine (ps_raise cm tk (pmk_oex (CX := L2.CX X.prog X.w) (ds := []) (dvs := []) (k := j) (sp := spI P.K) (by rw [c.K]; exact T) (by rw [c.K]; exact iC) (by rw [c.K]; exact tI) (by rw [c.prog, c.w, c.K, c.mg, c.base]; exact F1) (rm.mono hj) (by rw [c.K]; exact hbd) .nil
          (passes_call (E := fun _ _ _ => False) tk fun _ _ _ _ h => h.elim) g1 (by rw [c.mg, h1]; exact hmg) (pa_cons ((sE e P B I k W X ω c nd2).1 _ _ e3) pa_nil (star_plain h3)) g2 (star_plain h3) rfl)).imp fun D σ H ⟨env, G, Rl, o⟩ => ?_
        rw [evS] at o
        refine ⟨env, G, Rl, OutF.step Rl o fun d v G₁ H₁ _ R₁ x₁ k₁ o₁ => ?_⟩
        cases d with
        | int n =>
          have ev := (k₁.rp R₁.sub).int
          subst ev
          refine ⟨by show 1 ≤ 1000; decide, fun ad had => ⟨ad, P.ca cl, .int n, rfl, T, hno, upd_same, fun dx hdx hne => ⟨rfl, dx, _, upd_same, by rw [upd_ne hne, upd_same], by rw [upd_ne hne] at hdx; exact hdx, ?_⟩⟩⟩
          have hdx1 : H₁ dx = none := by rw [upd_ne hne] at hdx; exact hdx
          have eH : upd (del (upd (upd (upd H₁ ad (L2.exo ad (P.ca cl) none)) dx (L2.exd dx [(("at" : Str), .int n)])) ad (L2.exo ad (P.ca cl) (some dx))) ad) dx (.xd [(("at" : Str), .int n)]) = upd H₁ dx (xdN n) := by
            funext b
            by_cases hb : b = dx
            · subst hb; rw [upd_same, upd_same]; rfl
            · rw [upd_ne hb, upd_ne hb]
              by_cases ha : b = ad
              · subst ha; rw [del_same]; exact had.symm
              · rw [del_ne ha, upd_ne ha, upd_ne hb, upd_ne ha]
          rw [eH]
          have x₂ := x₁.trans (Ext.both (u := xdN n) R₁.sub hdx1)
          obtain ⟨G₃, l3, R₃⟩ := (Rl.ext x₂).freeze
          exact o₁ dx σ G₃ _ R₃ ((x₂.le Rl.sub).trans l3) (none_le R₁.ent hdx1) (l3 _ _ upd_same)
        | _ => exact False.elim o₁
      · cases h
    · cases h
  · cases h
end
end SH
end
section
set_option Elab.async false
set_option linter.all false
set_option autoImplicit false
set_option maxRecDepth 10000
/-! .. a thing's item, stored. -/
namespace SH
open PySem L2

section
variable {P : Pm} {B : Bs} {I : Ci} {k : Nat} {W : WX} {X : Cx} {ω : List Own} {ω' lw : Option (List Own)} {R : Own} {D : Ends} {G G₁ H H₁ : Hp} {env : Env} {σ : St}
/-- what lies at an owned path is owned -/
theorem owned_at {v : V} {r : Nat × List SH.D × SH.D} {o₁ : Own} (Rl : Rel P B ω env σ G H) (pr : PathR P env σ H v r) (ho : deepO (ow ω r.1) r.2.1.length = some o₁) : ∃ F₀ : Addr → Prop, Ow P G H o₁ F₀ v r.2.2 := by
  obtain ⟨v₀, d₀, h1, h2, h3, h4, h5⟩ := pr
  obtain ⟨Fs, g1, _, _⟩ := Rl.slots
  obtain ⟨v₁, e1, w⟩ := g1 _ _ h2
  rw [h1] at e1
  cases e1
  obtain ⟨F₀, _, w0, _⟩ := w.at h3 h4 ho
  exact ⟨F₀, w0⟩
theorem PSet.or {t t' : TSet} (h : PSet X t) (h' : PSet X t') : PSet X (fun o i v H Q => t o i v H Q ∨ t' o i v H Q) := fun pins s σ H o i v ov iv u Q I ro ri rv q => by
  rcases q with q | q
  · exact h pins s σ H o i v ov iv u Q I ro ri rv q
  · exact h' pins s σ H o i v ov iv u Q I ro ri rv q
theorem putD_ok {k v x : SH.D} {c : Nat} {n : Int} : putD k v x ≠ .exc c n := fun e => by
  unfold putD at e
  repeat' (first | (cases e; done) | (split at e))
theorem t_put (b k e : CE) : SSt (.put b k e) := fun P B I kk W X ω lw R c hp hot nd st ω' h => by
  rw [NdS] at nd
  have key : ∃ o i pos v ps κb i₀ n κk κ o₁, st = .Assign [.Subscript o i pos] v ps ∧ notComp v = true ∧ notTup v = true ∧ notSl i = true ∧ ck I ω false b o = some κb ∧ pathIN b = some (i₀, n) ∧ ck I ω false k i = some κk ∧ ck I ω false e v = some κ ∧ deepO (ow ω i₀) n = some (.nd o₁) ∧ kOK κ o₁ = true ∧ ω' = some ω := by
    rw [ckS] at h
    split at h
    · rename_i t v ps e1
      split at h
      · rename_i o i pos e2
        split at h
        · rename_i hb
          simp only [Bool.and_eq_true] at hb
          obtain ⟨⟨⟨h1, h2⟩, h3⟩, h4⟩ := hb
          split at h
          · rename_i κb i₀ n κk κ e3 e4 e5 e6
            split at h
            · rename_i o₁ e7
              split at h
              · rename_i hk
                cases h
                exact ⟨o, i, pos, v, ps, κb, i₀, n, κk, κ, o₁, by rw [asAsg_eq e1, asIx_eq e2], h1, h2, h3, e3, e4, e5, e6, e7, hk, rfl⟩
              · cases h
            · cases h
          · cases h
        · cases h
      · cases h
    · cases h
  obtain ⟨o, i, pos, v, ps, κb, i₀, n, κk, κ, o₁, rfl, hcv, htv, hsl, e3, e4, e5, e6, e7, hk, rfl⟩ := key
  refine ⟨?_, fun z => by cases z⟩
  have hb := isP_of e4
  have pp := pe_path (B := B) c hb nd.1 e3
  have pk := (sE k P B I kk W X ω c nd.2.1).1 _ _ e5
  have pv := (sE e P B I kk W X ω c nd.2.2).1 _ _ e6
  have pin : ∀ env r, pathD b env = .ok r → r.1 = i₀ ∧ r.2.1.length = n := by
    obtain ⟨i', n', z1, z2⟩ := pathIN_ok hb
    rw [e4] at z1
    cases z1
    exact z2
  have hu : X.A.units + 1 < cLine := by have := c.un; omega
  have hsw : swappedStores [.Subscript o i pos] v X.env = pure none := by
    unfold swappedStores
    cases v <;> first | (simp [notTup] at htv; done) | rfl
  have ha : ∀ u, assign (.Subscript o i pos) X.env u = (do
      let ov ← holding [u] (eval o X.env)
      let iv ← holding [u, ov] (eval i X.env)
      standAt pos
      holding [u, ov, iv] (setItem ov iv u)
      release [u, ov, iv] []) := fun u => by
    cases i <;> first | rfl | (simp [notSl] at hsl)
  refine (ps_asg pv (pg_sub pp pk (PSet.or set_list (set_dict hu)) ha) (notComp_sole hcv) hsw).imp fun D σ H ⟨env, G, Rl, q⟩ => ?_
  rw [evS] at q
  refine ⟨env, G, Rl, OutF.step2 Rl q fun d v₁ G₁ H₁ ev1 R₁ x₁ k₁ q₁ => ?_⟩
  obtain ⟨Ga, F, xa, nF, wF⟩ := KdR.keep hk x₁ k₁
  have Ra := Rl.ext xa
  refine ⟨env, Ga, Ra, OutF.step2 Ra (OutF.le (xa.le Rl.sub) q₁) fun r v₂ G₂ H₂ er R₂ x₂ pr q₂ => ?_⟩
  refine ⟨env, G₂, R₂, OutF.step2 R₂ (OutF.le (x₂.le Ra.sub) q₂) fun dk v₃ G₃ H₃ ek3 R₃ x₃ k₃ q₃ => ?_⟩
  obtain ⟨hr1, hr2⟩ := pin env r er
  have xx := (xa.trans x₂).trans x₃
  have pr₀ : PathR P env σ H v₂ r := PathR.down Rl (xa.same.trans x₂.same) pr
  have wF3 : Ow P G₃ H₃ o₁ F v₁ d := wF.frame ((x₂.trans x₃).le Ra.sub) fun a fa => by
    obtain ⟨_, _, w, hw⟩ := nF a fa
    rw [hw]; exact x₃.same _ _ (x₂.same _ _ hw)
  have nF3 : New H G₃ H₃ F := (nF.ext x₂).ext x₃
  have dis : ∀ {F₀ : Addr → Prop}, (∀ a, F₀ a → ∃ w, H a = some w) → ∀ a, F₀ a → F a → False := fun old a z1 z2 => by
    obtain ⟨w, hw⟩ := old a z1
    rw [(nF3 a z2).1] at hw; cases hw
  obtain ⟨v₀, d₀, p1, p2, p3, p4, p5⟩ := id pr
  have gv : getV env r.1 = .ok d₀ := by unfold getV; rw [p2]
  have ho₀ : deepO (ow ω r.1) r.2.1.length = some (.nd o₁) := by rw [hr1, hr2]; exact e7
  have rk := k₃.rp R₃.sub
  have p5' := p5.le x₃.same
  -- what is stored there
  have good : ∃ y, putD dk d r.2.2 = .ok y := by
    cases ep : putD dk d r.2.2 with
    | ok y => exact ⟨y, rfl⟩
    | exc cc nn => exact (putD_ok ep).elim
    | bad =>
      exfalso
      rw [gv] at q₃
      have q₃ : OutF P B (some ω) lw R W D G₂ ((updAt (putD dk d) r.2.1 d₀ >>= fun y => .ok (r.1, y)).fl env fun p => .nx (env.set p.1 (some p.2))) := q₃
      rw [updAt_bad ep p4] at q₃
      exact q₃
  have fin : ∀ {du' : SH.D} {p : Addr} {u : HO}, v₂ = .ref p → putD dk d r.2.2 = .ok du' →
      (∀ F₀ : Addr → Prop, (∀ a, F₀ a → ∃ w, H a = some w) → Ow P G₃ H₃ (.nd o₁) F₀ (.ref p) r.2.2 → F₀ p ∧ Ow P G₃ (upd H₃ p u) (.nd o₁) (fun a => F₀ a ∨ F a) (.ref p) du') → D.nx σ (upd H₃ p u) := by
    intro du' p u hv hf leaf
    obtain ⟨ri, rps, rd⟩ := r
    obtain ⟨d₀', d', g1, g2, g3⟩ := leaf_done (f := putD dk d) Rl xx pr₀ ho₀ nF3 hv leaf hf
    rw [p2] at g1
    cases g1
    rw [gv] at q₃
    simp only [Res.ok_bind, g2, fl_ok] at q₃
    obtain ⟨w, e9, q4⟩ := q₃
    cases e9
    exact q4 σ G₃ _ g3 (x₃.le R₂.sub)
  obtain ⟨y, hy⟩ := good
  obtain ⟨F₀, wo⟩ := owned_at Rl pr₀ ho₀
  cases ed : r.2.2 with
  | lst dl =>
    rw [ed] at p5' hy fin
    obtain ⟨p, vs, rfl, hpv, el, _⟩ := p5'.lstI
    simp only [putD] at hy
    cases dk with
    | int i' =>
      simp only at hy
      split at hy
      · rename_i j hj
        cases hy
        have := rk.int
        subst this
        refine .inl ⟨p, vs, i', j, rfl, rfl, hpv, by rw [el]; exact hj, ?_⟩
        refine fin (du' := .lst (dl.set j d)) rfl (by simp [putD, hj]) fun F₀ old w0 => ?_
        have hjl : j < dl.length := by
          unfold place at hj
          split at hj
          · split at hj
            · cases hj; omega
            · cases hj
          · split at hj
            · cases hj; omega
            · cases hj
        exact w0.setL hpv wF3 (dis old) hjl
      · cases hy
    | _ => simp at hy
  | dK es =>
    rw [ed] at wo
    cases wo with
    | sc z => cases z
    | dK Fs hh fp ek nod cc ss jj =>
      rename_i p kvs
      have hpv := xx.same _ _ hh
      rw [ed] at hy fin
      simp only [putD] at hy
      split at hy
      · rename_i k' hk'
        split at hy
        · rename_i hlim
          cases hy
          have ekey := kyOf_val rk hk'
          have ell : kvs.length = es.length := by simpa using congrArg List.length ek
          refine .inr ⟨p, upd H₃ p (.dK (putK kvs (kyK k') v₁)), rfl, ?_, ?_⟩
          · rw [ekey]
            exact DPut.k hpv (by rw [← lim_eq, ell]; exact hlim)
          · refine fin (du' := .dK (SH.put k' d es)) rfl (by simp [putD, hk', hlim]) fun F₀ old w0 => ?_
            exact w0.putD hpv wF3 (dis old)
        · cases hy
      · cases hy
  | dT es =>
    rw [ed] at wo
    cases wo with
    | sc z => cases z
    | dT Fs hh fp ek nod cc ss jj =>
      rename_i p kvs
      have hpv := xx.same _ _ hh
      rw [ed] at hy fin
      cases dk with
      | tup ks =>
        simp only [putD] at hy
        split at hy
        · rename_i k' hk'
          split at hy
          · rename_i hlim
            cases hy
            obtain ⟨pk', kvs', rfl, hpk, elk, ckk⟩ := rk.tupI
            have ekey := kysOf_val elk ckk hk'
            have ell : kvs.length = es.length := by simpa using congrArg List.length ek
            refine .inr ⟨p, upd H₃ p (.dT (putK kvs (k'.map kyK) v₁)), rfl, ?_, ?_⟩
            · exact DPut.t hpv (by rw [hpk, ekey]) (by rw [← lim_eq, ell]; exact hlim)
            · refine fin (du' := .dT (SH.put k' d es)) rfl (by simp [putD, hk', hlim]) fun F₀ old w0 => ?_
              exact w0.putDT hpv wF3 (dis old)
          · cases hy
        · cases hy
      | _ => simp [putD] at hy
  | _ => rw [ed] at hy; simp [putD] at hy
end
end SH
end
section
set_option Elab.async false
set_option linter.all false
set_option autoImplicit false
set_option maxRecDepth 10000
/-! .. walks over dicts, walks that only look, a list begun anew, setdefault. -/
namespace SH
open PySem L2

section
variable {P : Pm} {B : Bs} {I : Ci} {k : Nat} {W : WX} {X : Cx} {ω : List Own} {ω' lw : Option (List Own)} {R : Own} {D : Ends} {G G₁ H H₁ : Hp} {env : Env} {σ : St}
theorem getV_ok {env : Env} {i : Nat} {d : SH.D} (h : getV env i = .ok d) : env[i]? = some (some d) := by
  unfold getV at h
  split at h
  · rename_i d0 e0; cases h; exact e0
  · cases h
theorem getV_exc {env : Env} {i : Nat} {c : Nat} {n : Int} : getV env i ≠ .exc c n := fun h => by
  unfold getV at h
  split at h <;> cases h
/-- what a walk asks behind its source -/
def tForR (J : It) (g : TG) (tb : TS) (D : Ends) (σ : St) (H1 : Hp) : Prop := ∃ W : Nat → Nat → St → Hp → Prop, (∃ m, W 0 m σ H1) ∧ ∀ i m σ H, W i m σ H →
  (J.stop i H ∧ D.nx σ H) ∨ (J.go i H ∧ ∃ N : St → Hp → Prop, (∀ σ' H', N σ' H' → ∃ m', m' < m ∧ W (i + 1) m' σ' H') ∧ ∀ x H', J.yld i H x H' → g x σ H' fun σ2 H2 => tb { D with nx := N, ct := N, bk := D.nx } σ2 H2)
theorem for_turns {K : PySem.W.Frag} {tg : Tg} {b : CSs} {o : Own} {wb : Option (List Own)} (oo : o = .sc ∨ o = .sh) (nb : wb = none → ∀ env e', evSs b env ≠ .nx e') (hw : wb = none ∨ ∃ w, wb = some w ∧ eqO w ω = true) {J : It} {items : List SH.D}
    (R₁ : Rel P B ω env σ G₁ H₁) (sr : SrcR P o true G₁ H₁ J items) (q₁ : OutF P B (some ω) lw R W D G₁ (forLoop tg (evSs b) items env)) :
    tForR J (gT K tg) (tS P B (setO ω o (tgIs tg)) wb (some ω) R W (evSs b)) D σ H₁ := by
  obtain ⟨vs, elv, hvs, itok⟩ := sr
  refine ⟨fun i m σ H => ∃ env G, i + m = items.length ∧ Le G₁ G ∧ Rel P B ω env σ G H ∧ OutF P B (some ω) lw R W D G (forLoop tg (evSs b) (items.drop i) env), ⟨items.length, env, G₁, by simp, .refl _, R₁, q₁⟩, fun i m σ H ⟨env, G, him, lg, Rl, q⟩ => ?_⟩
  have hz : Le (if true = true then G₁ else H₁) H := fun a u hu => Rl.sub _ _ (lg _ _ hu)
  by_cases hi : vs.length ≤ i
  · refine .inl ⟨itok.stop i H hz hi, ?_⟩
    rw [List.drop_eq_nil_of_le (by omega), forLoop] at q
    obtain ⟨w, e4, q2⟩ := q
    cases e4
    exact q2 _ G H Rl (.refl _)
  · have hi : i < vs.length := Nat.lt_of_not_le hi
    have hii : i < items.length := by omega
    refine .inr ⟨itok.go i H hz hi, fun σ' H' => ∃ env G, Le G₁ G ∧ Rel P B ω env σ' G H' ∧ OutF P B (some ω) lw R W D G (forLoop tg (evSs b) (items.drop (i + 1)) env), fun σ' H' ⟨env, G, z1, z2, z3⟩ => ⟨m - 1, by omega, env, G, by omega, z1, z2, z3⟩, fun xv H' hy => ?_⟩
    obtain ⟨rfl, hxv⟩ := itok.yld i H xv H' hz hi hy
    rw [List.drop_eq_getElem_cons hii, forLoop_eq] at q
    have wx : Ow P G H' o (fun _ => False) xv items[i] := (hvs i xv items[i] hxv (List.getElem?_eq_getElem hii)).frame lg fun _ z => z.elim
    cases eb : bindT tg items[i] env with
    | exc cc n => exact (bind_exc eb).elim
    | bad => rw [eb] at q; exact False.elim q
    | ok env' =>
      rw [eb] at q
      refine bind_ok oo Rl wx eb fun σ' R₃ _ => ⟨env', G, R₃, ?_⟩
      refine OutF.body (next := forLoop tg (evSs b) (items.drop (i + 1))) ?_ q fun e2 σ' G' H' r l q' => ⟨e2, G', lg.trans l, r, OutF.le l q'⟩
      rcases hw with rfl | hw
      · exact .inl ⟨rfl, nb rfl env'⟩
      · exact .inr hw
theorem _root_.L2.PS.or {X : Cx} {st : Stmt} {t t' : TS} (h : PS X st t) (h' : PS X st t') : PS X st (fun D σ H => t D σ H ∨ t' D σ H) := ⟨fun pins s σ H D I z => by
  rcases z with z | z
  · exact h.run pins s σ H D I z
  · exact h'.run pins s σ H D I z⟩
/-- the ends under a lock -/
def lkE (D : Ends) (p : Addr) (f u : HO) : Ends := ⟨fun σ' H' => H' p = some f ∧ D.nx σ' (upd H' p u), fun v H' => H' p = some f ∧ D.rt v (upd H' p u), fun σ' H' => H' p = some f ∧ D.bk σ' (upd H' p u), fun σ' H' => H' p = some f ∧ D.ct σ' (upd H' p u)⟩
theorem OutF.lk {p : Addr} {u : HO} {od : Obj} (hu : IsDk u) (hG : G p = some u) (hB : EntAt B p u) {r : Fl} (h : OutF P B ω' lw R W D G (lockF r)) : OutF P (B.lk p (.frz od u)) ω' lw R W (lkE D p (.frz od u) u) (upd G p (.frz od u)) r := by
  have lb : ∀ {G' : Hp}, G' p = some (.frz od u) → Le (upd G p (.frz od u)) G' → Le G (upd G' p u) := fun {G'} e l a o ha => by
    by_cases ea : a = p
    · subst ea; rw [hG] at ha; rw [upd_same]; exact ha
    · rw [upd_ne ea]; exact l a o (by rw [upd_ne ea]; exact ha)
  cases r with
  | nx e =>
    obtain ⟨w, e1, q⟩ := h
    refine ⟨w, e1, fun σ' G' H' Rl l => ?_⟩
    obtain ⟨eH, eG, R'⟩ := Rl.unlock hu hB
    exact ⟨eH, q σ' _ _ R' (lb eG l)⟩
  | bk e =>
    obtain ⟨w, e1, q⟩ := h
    refine ⟨w, e1, fun σ' G' H' Rl l => ?_⟩
    obtain ⟨eH, eG, R'⟩ := Rl.unlock hu hB
    exact ⟨eH, q σ' _ _ R' (lb eG l)⟩
  | rt d =>
    intro v G' H' x kd
    obtain ⟨eH, eG, x'⟩ := x.unlock hu hB
    exact ⟨eH, h v _ _ x' (KdR.unlock hu eG kd fun o z => by cases R <;> cases z)⟩
  | exc c n e => exact h.elim
  | bad => exact h
theorem t_forK (tg : Tg) (i : Nat) {b : CSs} (hb : SSs b) : SSt (.forK tg i b) := fun P B I k W X ω lw R c hp hot nd st ω' h => by
  rw [NdS] at nd
  have key : ∃ t x px bd p wb, asFor st = some (t, .Name x px, bd, p) ∧ slotB I.ck i x = true ∧ ow ω i = .sh ∧ tgB I tg t = true ∧ ckSs I (some ω) R (setO ω .sc (tgIs tg)) b bd = some wb ∧ ω' = some ω ∧ (wb = none ∨ ∃ w, wb = some w ∧ eqO w ω = true) := by
    rw [ckS] at h
    split at h
    · rename_i t it bd p e1
      split at h
      · rename_i x px e2
        split at h
        · rename_i hbb
          simp only [Bool.and_eq_true, beq_iff_eq] at hbb
          rw [asName_eq e2] at e1
          split at h
          · rename_i e3
            cases h
            exact ⟨t, x, px, bd, p, none, e1, hbb.1.1, hbb.1.2, hbb.2, e3, rfl, .inl rfl⟩
          · rename_i w e3
            split at h
            · rename_i he
              cases h
              exact ⟨t, x, px, bd, p, some w, e1, hbb.1.1, hbb.1.2, hbb.2, e3, rfl, .inr ⟨w, rfl, he⟩⟩
            · cases h
          · cases h
        · cases h
      · cases h
    · cases h
  obtain ⟨t, x, px, bd, p, wb, e1, hs, how, ht, e3, rfl, hw⟩ := key
  obtain ⟨cm, _, _, _⟩ := c.cold hot
  obtain ⟨a1, a2, a3, a4⟩ := c.xck hs
  refine ⟨?_, fun z => by cases z⟩
  rw [asFor_eq e1]
  have pk : ∀ B' : Bs, PS X (.For t (.Name x px) bd [] p) (tFor (iKeys fun σ H Q => ∃ v, σ[i]? = some (some v) ∧ Q v H) (gT X.K tg) (tS P B' (setO ω .sc (tgIs tg)) wb (some ω) R W (evSs b))) := fun B' =>
    ps_for hp.1 cm (pi_keys (pe_var (pos := px) a1 a2 a3 a4)) (pg_tg c cm ht) (hb P B' I k W X (setO ω .sc (tgIs tg)) (some ω) R c hp hot nd _ _ e3).1 (notSet_fold rfl)
  have nb := (hb P B I k W X (setO ω .sc (tgIs tg)) (some ω) R c hp hot nd _ _ e3).2
  have pl : PS X (.For t (.Name x px) bd [] p) (fun D σ H => ∃ B', tFor (iKeys fun σ H Q => ∃ v, σ[i]? = some (some v) ∧ Q v H) (gT X.K tg) (tS P B' (setO ω .sc (tgIs tg)) wb (some ω) R W (evSs b)) D σ H) :=
    ⟨fun pins s σ H D I0 ⟨B', z⟩ => (pk B').run pins s σ H D I0 z⟩
  refine (PS.or (ps_lock pl) pl).imp fun D σ H ⟨env, G, Rl, q⟩ => ?_
  rw [evS] at q
  cases eg : getV env i with
  | exc cc n => exact (getV_exc eg).elim
  | bad => rw [eg] at q; exact False.elim q
  | ok d =>
  rw [eg] at q
  have eslot := getV_ok eg
  cases d with
  | dK es =>
    have q : OutF P B (some ω) lw R W D G (lockF (forLoop tg (evSs b) (es.map fun p => kd p.1) env)) := q
    obtain ⟨Fs, h1, h2, h3⟩ := Rl.slots
    obtain ⟨v, hσ, w⟩ := h1 i _ eslot
    rw [how] at w
    have w := w.shr
    cases w with
    | sc z => cases z
    | @dK pp kvs _ hr hk hc =>
    rcases hr with hG | ⟨od, hG⟩
    · refine .inl ⟨pp, .dK kvs, Rl.sub _ _ hG, trivial, fun od => ⟨B.lk pp (.frz od (.dK kvs)), ?_⟩⟩
      have R1 := Rl.lock (od := od) hG trivial
      obtain ⟨l1, l2⟩ := keys_all (P := P) (G := upd G pp (.frz od (.dK kvs))) (H := upd H pp (.frz od (.dK kvs))) hk
      refine ⟨.ref pp, hσ, pp, od, rfl, .inl ⟨kvs, upd_same, ?_⟩⟩
      exact for_turns (K := X.K) (lw := lw) (.inl rfl) nb hw R1 ⟨_, l1, l2, it_keys fun H2 z => z _ _ upd_same⟩ (OutF.lk (u := .dK kvs) trivial hG (Rl.entAt hG) q)
    · refine .inr ⟨B, ?_⟩
      obtain ⟨l1, l2⟩ := keys_all (P := P) (G := G) (H := H) hk
      refine ⟨.ref pp, hσ, pp, od, rfl, .inl ⟨kvs, Rl.sub _ _ hG, ?_⟩⟩
      refine for_turns (K := X.K) (lw := lw) (.inl rfl) nb hw Rl ⟨_, l1, l2, it_keys fun H2 z => z _ _ hG⟩ ?_
      cases er : forLoop tg (evSs b) (es.map fun p => kd p.1) env with
      | exc c n e => rw [er] at q; exact False.elim q
      | _ => rw [er] at q; exact q
  | _ => exact False.elim q
/-- for x in xs: if c: return e -/
theorem t_forC (j i : Nat) (ce e : CE) : SSt (.forC j i ce e) := fun P B I k W X ω lw R c hp hot nd st ω' h => by
  rw [NdS] at nd
  have key : ∃ y py x px tx v pr pf pp κc κ, st = .For (.Name y py) (.Name x px) [.If tx [.Return (some v) pr] [] pf] [] pp ∧ slotB I.ck i x = true ∧ stoB I j y = true ∧ ow ω i = .nd .sc ∧ i ≠ j ∧ I.raw.isNone = true ∧ ck I ω true ce tx = some κc ∧ ck I ω false e v = some κ ∧ kOK κ R = true ∧ ω' = some ω := by
    rw [ckS] at h
    split at h
    · rename_i t it b p e1
      split at h
      · rename_i y py x px tx rs pf e2 e3 e4
        split at h
        · rename_i v pr e5
          split at h
          · rename_i hb
            simp only [Bool.and_eq_true, beq_iff_eq, Bool.not_eq_true', beq_eq_false_iff_ne] at hb
            split at h
            · rename_i κc κ e6 e7
              split at h
              · rename_i hk
                cases h
                exact ⟨y, py, x, px, tx, v, pr, pf, p, κc, κ, by rw [asFor_eq e1, asName_eq e2, asName_eq e3, asIfS_eq e4, asRet_eq e5], hb.1.1.1.1, hb.1.1.1.2, hb.1.1.2, hb.1.2, hb.2, e6, e7, hk, rfl⟩
              · cases h
            · cases h
          · cases h
        · cases h
      · cases h
    · cases h
  obtain ⟨y, py, x, px, tx, v, pr, pf, pp, κc, κ, rfl, hs, hst, how, hij, hraw, e6, e7, hk, rfl⟩ := key
  obtain ⟨cm, _, _, _⟩ := c.cold hot
  obtain ⟨a1, a2, a3, a4⟩ := c.xck hs
  refine ⟨?_, fun z => by cases z⟩
  have pt := (sE ce P B I k W X ω c nd.1).2 _ _ e6
  have pe := (sE e P B I k W X ω c nd.2).1 _ _ e7
  refine (ps_for hp.1 cm (pi_list (pe_var (pos := px) a1 a2 a3 a4)) (pg_tg c cm (tg := .name j) (e := .Name y py) (by unfold tgB; simp only [asName]; exact hst)) (pss_one (ps_if (pos := pf) pt (pss_one (ps_ret (pos := pr) pe)) pss_nil)) (notSet_fold rfl)).imp fun D σ H ⟨env, G, Rl, q⟩ => ?_
  rw [evS] at q
  cases eg : getV env i with
  | exc cc n => exact (getV_exc eg).elim
  | bad => rw [eg] at q; exact False.elim q
  | ok d =>
  rw [eg] at q
  have eslot := getV_ok eg
  cases d with
  | lst items =>
    have q : OutF P B (some ω) lw R W D G (forLoop (.name j) (fun env => (evE ce env >>= asB).fl env fun k => if k then (evE e env).fl env .rt else .nx env) items env) := q
    obtain ⟨Fs, h1, h2, h3⟩ := Rl.slots
    obtain ⟨v0, hσ, w⟩ := h1 i _ eslot
    rw [how] at w
    cases w with
    | sc z => cases z
    | @lst o F a vs ds Fc hH hF el hc hs' hj =>
    refine ⟨.ref a, hσ, a, rfl, ⟨vs, .of hH⟩, ?_⟩
    let f : Env → Fl := fun env => (evE ce env >>= asB).fl env fun k => if k then (evE e env).fl env .rt else .nx env
    let Z : List SH.D → St → Hp → Prop := fun ds σ H => ∃ env G, Rel P B ω env σ G H ∧ σ[i]? = some (some (.ref a)) ∧ H a = some (.lst vs) ∧ OutF P B (some ω) lw R W D G (forLoop (.name j) f ds env)
    refine ⟨fun m n σ H => m + n = items.length ∧ Z (items.drop m) σ H, ⟨items.length, by simp, env, G, Rl, hσ, hH, q⟩, fun m n σ H ⟨him, env, G, Rl, hσ, hH, q⟩ => ?_⟩
    by_cases hi : vs.length ≤ m
    · refine .inl ⟨⟨vs, .of hH, hi⟩, ?_⟩
      rw [List.drop_eq_nil_of_le (by omega), forLoop] at q
      obtain ⟨w, e4, q2⟩ := q
      cases e4
      exact q2 _ G H Rl (.refl _)
    · have hi : m < vs.length := Nat.lt_of_not_le hi
      have hii : m < items.length := by omega
      refine .inr ⟨⟨vs, vs[m], .of hH, List.getElem?_eq_getElem hi⟩, Z (items.drop (m + 1)), fun σ' H' z => ⟨n - 1, by omega, by omega, z⟩, fun xv H' hy => ?_⟩
      obtain ⟨rfl, hxv⟩ := hy
      have hxv := hxv vs (.of hH)
      rw [List.drop_eq_getElem_cons hii, forLoop_eq] at q
      have wx : Ow P G H' .sc (fun _ => False) xv items[m] := .sc (hc m xv items[m] hxv (List.getElem?_eq_getElem hii)).scO
      refine bind_ok (tg := .name j) (env' := env.set j (some items[m])) (.inl rfl) Rl wx rfl fun σ' R₃ hwp => ?_
      have hσ' : σ'[i]? = some (some (.ref a)) := by
        have z := congrArg (fun l => l[i]?) hwp
        have ne : ¬ i ∈ tgIs (.name j) := by simp [tgIs, hij]
        simp only [wipe_get, if_neg ne] at z
        rw [z]; exact hσ
      obtain ⟨G', lG, R₄⟩ := R₃.soften (ω' := ω) fun l d _ => by
        show co (ow (setw ω j .sc) l) (ow ω l) = true
        rw [ow_setw]
        split
        · rfl
        · exact co_self _
      have q : OutF P B (some ω) lw R W D G (loopEnd (f (env.set j (some items[m]))) (forLoop (.name j) f (items.drop (m + 1)))) := q
      have q := OutF.le lG q
      generalize env.set j (some items[m]) = e1 at R₃ R₄ q
      have q' : OutF P B (some ω) lw R W D G' ((evE ce e1 >>= asB).fl e1 fun k => loopEnd (if k then (evE e e1).fl e1 .rt else .nx e1) (forLoop (.name j) f (items.drop (m + 1)))) := by
        show OutF P B (some ω) lw R W D G' ((evE ce e1 >>= asB).fl e1 _)
        cases eb : (evE ce e1 >>= asB) with
        | ok k =>
          have q : OutF P B (some ω) lw R W D G' (loopEnd ((evE ce e1 >>= asB).fl e1 fun k => if k then (evE e e1).fl e1 .rt else .nx e1) (forLoop (.name j) f (items.drop (m + 1)))) := q
          rw [eb] at q; exact q
        | exc cc nn =>
          have q : OutF P B (some ω) lw R W D G' (loopEnd ((evE ce e1 >>= asB).fl e1 fun k => if k then (evE e e1).fl e1 .rt else .nx e1) (forLoop (.name j) f (items.drop (m + 1)))) := q
          rw [eb] at q; exact q
        | bad =>
          have q : OutF P B (some ω) lw R W D G' (loopEnd ((evE ce e1 >>= asB).fl e1 fun k => if k then (evE e e1).fl e1 .rt else .nx e1) (forLoop (.name j) f (items.drop (m + 1)))) := q
          rw [eb] at q; exact q
      refine ⟨e1, G', R₄, OutF.step R₄ q' fun kk v G₁ H₁ _ R₅ x₅ k₅ q₅ => ?_⟩
      subst k₅
      cases v with
      | false =>
        rw [if_neg (by decide)] at q₅ ⊢
        exact ⟨e1, G₁, R₅, hσ', x₅.same _ _ hH, OutF.le (x₅.le R₄.sub) q₅⟩
      | true =>
        rw [if_pos rfl] at q₅ ⊢
        have q₆ : OutF P B (some ω) lw R W D G' ((evE e e1).fl e1 .rt) := by
          cases ee : evE e e1 with
          | ok d => rw [ee] at q₅; exact q₅
          | exc cc nn => rw [ee] at q₅; exact q₅
          | bad => rw [ee] at q₅; exact q₅
        refine ⟨e1, G₁, R₅, OutF.step R₅ (OutF.le (x₅.le R₄.sub) q₆) fun d v G₂ H₂ _ R₆ x₆ k₆ q₇ => ?_⟩
        obtain ⟨G₃, F', x₇, nF, w⟩ := KdR.keep hk x₆ k₆
        refine q₇ v G₃ H₂ (R₅.entry.trans x₇) ?_
        cases R with
        | sc => exact w.scO
        | sh => exact w.shr
        | nd o => exact ⟨F', fun a fa => ⟨none_le R₅.ent (nF a fa).1, (nF a fa).2⟩, w⟩
  | _ => exact False.elim q
/-- x = [e, *x] -/
theorem t_cns (i : Nat) (e : CE) : SSt (.cns i e) := fun P B I k W X ω lw R c hp hot nd st ω' h => by
  rw [NdS] at nd
  have key : ∃ x px a pz ps lp pos κ o, st = .Assign [.Name x px] (.List [a, .Starred (.Name x pz) ps] lp) pos ∧ notStar a = true ∧ stoB I i x = true ∧ I.raw.isNone = true ∧ ck I ω false e a = some κ ∧ ow ω i = .nd o ∧ kOK κ o = true ∧ ω' = some ω := by
    rw [ckS] at h
    split at h
    · rename_i t v pos e1
      split at h
      · rename_i x px a z ps lp e2 e3
        split at h
        · rename_i x' pz e4
          split at h
          · rename_i hb
            simp only [Bool.and_eq_true, beq_iff_eq] at hb
            obtain ⟨⟨⟨h1, h2⟩, h3⟩, h4⟩ := hb
            split at h
            · rename_i κ o e5 e6
              split at h
              · rename_i hk
                cases h
                exact ⟨x, px, a, pz, ps, lp, pos, κ, o, by rw [asAsg_eq e1, asName_eq e2, asLst_eq e3, asName_eq e4, h1], h2, h3, h4, e5, e6, hk, rfl⟩
              · cases h
            · cases h
          · cases h
        · cases h
      · cases h
    · cases h
  obtain ⟨x, px, a, pz, ps, lp, pos, κ, o, rfl, hna, hst, hraw, e5, how, hk, rfl⟩ := key
  refine ⟨?_, fun z => by cases z⟩
  obtain ⟨t1, t2, t3⟩ := c.sto hst
  have hsl : slotB I.ck i x = true := by
    unfold stoB at hst
    rw [Bool.and_eq_true, Bool.and_eq_true] at hst
    exact hst.1.1
  obtain ⟨a1, a2, a3, a4⟩ := c.xck hsl
  refine (ps_set (pos := pos) (by rw [c.N]; exact c.nd) t1 t2 (pe_lst (pos := lp) (pa_cons ((sE e P B I k W X ω c nd).1 _ _ e5) (StX.pa_star (p := ps) (pe_var (pos := pz) a1 a2 a3 a4) pa_nil) (star_plain hna))) (notComp_eq rfl) t3).imp fun D σ H ⟨env, G, Rl, q⟩ => ?_
  rw [evS] at q
  refine ⟨env, G, Rl, OutF.step2 Rl q fun d v G₁ H₁ _ R₁ x₁ k₁ q₁ => ?_⟩
  obtain ⟨G₂, F, x₂, nF, wF⟩ := KdR.keep hk x₁ k₁
  have R₂ := Rl.ext x₂
  cases eg : getV env i with
  | exc cc n => exact (getV_exc eg).elim
  | bad => rw [eg] at q₁; exact False.elim q₁
  | ok d0 =>
  rw [eg] at q₁
  have eslot := getV_ok eg
  cases d0 with
  | lst ds =>
    have q₁ : OutF P B (some ω) lw R W D G ((if ds.length < lim then Res.ok (SH.D.lst (d :: ds)) else .bad).fl env fun d => .nx (env.set i (some d))) := q₁
    by_cases hl : ds.length < lim
    · rw [if_pos hl] at q₁
      obtain ⟨w, e4, q2⟩ := q₁
      cases e4
      obtain ⟨Fs, h1, h2, h3⟩ := Rl.slots
      have fr : ∀ j a, Fs j a → H₁ a = H a := fun j a fa => by
        obtain ⟨_, _, u, hu⟩ := h2 j a fa
        rw [hu]; exact x₂.same _ _ hu
      obtain ⟨v0, hσ, w⟩ := h1 i _ eslot
      have w := w.frame (x₂.le Rl.sub) (fr i)
      rw [how] at w
      generalize hFi : Fs i = Fi at w
      cases w with
      | sc z => cases z
      | @lst o _ p vs ds Fc hH hF el hc hs' hj =>
      refine ⟨.ref p, hσ, p, vs, rfl, .inr (SqL.of hH), ?_⟩
      show _ ∧ _
      refine ⟨by simp only [List.length_cons, List.length_append, List.length_nil]; rw [← lim_eq]; omega, fun qn hq => ?_⟩
      rw [List.append_nil]
      have nq : ∀ {a : Addr}, (∃ u, H₁ a = some u) → a ≠ qn := fun {a} ⟨u, hu⟩ z => by rw [z, hq] at hu; cases hu
      have oldS : ∀ j a, Fs j a → ∃ u, H a = some u := fun j a fa => (h2 j a fa).2.2
      have Fold : ∀ j a, Fs j a → F a → False := fun j a z1 z2 => by
        obtain ⟨u, hu⟩ := oldS j a z1
        rw [(nF a z2).1] at hu; cases hu
      have s1 : ∀ j a, Fs j a → a ≠ qn := fun j a fa => nq (by
        obtain ⟨u, hu⟩ := oldS j a fa
        exact ⟨u, x₂.same _ _ hu⟩)
      have s2 : ∀ a, F a → a ≠ qn := fun a fa => nq (nF a fa).2.2
      have kid : ∀ m a, Fc m a → Fs i a := fun m a z => by rw [hFi]; exact (hs' m a z).1
      refine q2 _ G₂ _ ⟨fun a u hu => ?_, fun a u hu => ?_, R₂.entG, by simp [Rl.len], fun j => if j = i then (fun a => a = qn ∨ F a ∨ ∃ m, Fc m a) else Fs j, fun j dj ej => ?_, fun j a z => ?_, fun j k a z1 z2 => ?_⟩ (x₂.le Rl.sub)
      · have := R₂.sub _ _ hu
        rw [upd_ne (nq ⟨_, this⟩)]; exact this
      · have := R₂.ent _ _ hu
        rw [upd_ne (nq ⟨_, this⟩)]; exact this
      · by_cases e : j = i
        · subst e
          have hlen : j < env.length := (List.getElem?_eq_some_iff.mp eslot).1
          rw [List.getElem?_set_self hlen] at ej
          cases ej
          refine ⟨.ref qn, List.getElem?_set_self (by rw [Rl.len]; exact hlen), ?_⟩
          show Ow P G₂ _ (ow ω j) (if j = j then (fun a => a = qn ∨ F a ∨ ∃ m, Fc m a) else Fs j) _ _
          rw [if_pos rfl, how]
          refine .lst (fun m => match m with | 0 => F | m + 1 => Fc m) upd_same (.inl rfl) (by simp [el]) (fun m v' d' hv hd => ?_) (fun m a z => ?_) fun m m' a z1 z2 => ?_
          · cases m with
            | zero =>
              simp at hv hd
              subst hv; subst hd
              exact wF.frame (.refl _) fun a fa => upd_ne (s2 a fa)
            | succ m =>
              simp at hv hd
              exact (hc m v' d' hv hd).frame (.refl _) fun a fa => upd_ne (s1 j a (kid m a fa))
          · cases m with
            | zero => exact ⟨.inr (.inl z), s2 a z⟩
            | succ m => exact ⟨.inr (.inr ⟨m, z⟩), s1 j a (kid m a z)⟩
          · cases m with
            | zero =>
              cases m' with
              | zero => rfl
              | succ m' => exact (Fold j a (kid m' a z2) z1).elim
            | succ m =>
              cases m' with
              | zero => exact (Fold j a (kid m a z1) z2).elim
              | succ m' => exact congrArg (· + 1) (hj m m' a z1 z2)
        · rw [List.getElem?_set_ne (Ne.symm e)] at ej
          obtain ⟨vj, e1, wj⟩ := h1 j dj ej
          refine ⟨vj, by rw [List.getElem?_set_ne (Ne.symm e)]; exact e1, ?_⟩
          show Ow P G₂ _ (ow ω j) (if j = i then (fun a => a = qn ∨ F a ∨ ∃ m, Fc m a) else Fs j) _ _
          rw [if_neg e]
          exact wj.frame (x₂.le Rl.sub) fun a fa => by rw [upd_ne (s1 j a fa)]; exact fr j a fa
      · have z : (if j = i then (fun a => a = qn ∨ F a ∨ ∃ m, Fc m a) else Fs j) a := z
        have oldN : ∀ j, Fs j a → B.H a = none ∧ G₂ a = none ∧ ∃ o, upd H₁ qn (.lst (v :: vs)) a = some o := fun j z => by
          obtain ⟨n0, ng, u, hu⟩ := h2 j a z
          exact ⟨n0, (x₂.keep a u hu).trans ng, u, by rw [upd_ne (s1 j a z)]; exact x₂.same _ _ hu⟩
        by_cases e : j = i
        · rw [if_pos e] at z
          rcases z with z | z | ⟨m, z⟩
          · subst z
            exact ⟨none_le R₂.ent hq, none_le R₂.sub hq, _, upd_same⟩
          · obtain ⟨n0, ng, u, hu⟩ := nF a z
            exact ⟨none_le Rl.ent n0, ng, u, by rw [upd_ne (s2 a z)]; exact hu⟩
          · exact oldN i (kid m a z)
        · rw [if_neg e] at z
          exact oldN j z
      · have z1 : (if j = i then (fun a => a = qn ∨ F a ∨ ∃ m, Fc m a) else Fs j) a := z1
        have z2 : (if k = i then (fun a => a = qn ∨ F a ∨ ∃ m, Fc m a) else Fs k) a := z2
        have cl : ∀ l, l ≠ i → Fs l a → (a = qn ∨ F a ∨ ∃ m, Fc m a) → False := fun l hl' y1 y2 => by
          rcases y2 with y2 | y2 | ⟨m, y2⟩
          · exact s1 l a y1 y2
          · exact Fold l a y1 y2
          · exact hl' (h3 l i a y1 (kid m a y2))
        by_cases e : j = i
        · by_cases e' : k = i
          · rw [e, e']
          · rw [if_pos e] at z1; rw [if_neg e'] at z2
            exact (cl k e' z2 z1).elim
        · by_cases e' : k = i
          · rw [if_neg e] at z1; rw [if_pos e'] at z2
            exact (cl j e z1 z2).elim
          · rw [if_neg e] at z1; rw [if_neg e'] at z2
            exact h3 j k a z1 z2
    · rw [if_neg hl] at q₁; exact False.elim q₁
  | _ => exact False.elim q₁
theorem look_put0 {κ : Type} [DecidableEq κ] (k : κ) (d : SH.D) : ∀ es : List (κ × SH.D), look k (put k d es) = some d
  | [] => by rw [put, look, if_pos rfl]
  | (j, x) :: es => by
    rw [put]
    by_cases h : j = k
    · rw [if_pos h, look, if_pos h]
    · rw [if_neg h, look, if_neg h]; exact look_put0 k d es
/-- d.setdefault(k, []).append(e) -/
theorem t_sda (i : Nat) (ke e : CE) : SSt (.sda i ke e) := fun P B I k W X ω lw R c hp hot nd st ω' h => by
  rw [NdS] at nd
  have key : ∃ x px kx pl a p2 q2 p q pos κk κ o₁, st = .Expr (.Call (.Attribute (.Call (.Attribute (.Name x px) "setdefault" p2) [kx, .List [] pl] [] q2) "append" p) [a] [] q) pos ∧ slotB I.ck i x = true ∧ notStar a = true ∧ notStar kx = true ∧ (p.endLine == q.line) = true ∧ (p2.endLine == q2.line) = true ∧ I.raw.isNone = true ∧
      ck I ω false ke kx = some κk ∧ ck I ω false e a = some κ ∧ ow ω i = .nd (.nd o₁) ∧ kOK κ o₁ = true ∧ ω' = some ω := by
    rw [ckS] at h
    split at h
    · rename_i v pos e1
      split at h
      · rename_i o nm p a q e2
        split at h
        · rename_i dn nm2 p2 kx l0 q2 e3
          split at h
          · rename_i x px pl e4 e5
            split at h
            · rename_i hb
              simp only [Bool.and_eq_true, beq_iff_eq] at hb
              obtain ⟨⟨⟨⟨⟨⟨⟨h1, h2⟩, h3⟩, h4⟩, h5⟩, h6⟩, h7⟩, h8⟩ := hb
              split at h
              · rename_i κk κ o₁ e6 e7 e8
                split at h
                · rename_i hk
                  cases h
                  exact ⟨x, px, kx, pl, a, p2, q2, p, q, pos, κk, κ, o₁, by rw [asExp_eq e1, asMeth_eq e2, asMeth_eq e3, asName_eq e4, asLst_eq e5, h1, h2], h3, h4, h5, by simp [h6], by simp [h7], h8, e6, e7, e8, hk, rfl⟩
                · cases h
              · cases h
            · cases h
          · cases h
        · cases h
      · cases h
    · cases h
  obtain ⟨x, px, kx, pl, a, p2, q2, p, q, pos, κk, κ, o₁, rfl, hsl, hna, hnk, hl1, hl2, hraw, e6, e7, how, hk, rfl⟩ := key
  refine ⟨?_, fun z => by cases z⟩
  obtain ⟨a1, a2, a3, a4⟩ := c.xck hsl
  have pk := (sE ke P B I k W X ω c nd.1).1 _ _ e6
  have pv := (sE e P B I k W X ω c nd.2).1 _ _ e7
  refine (ps_expr (pe_bm F.plainAttrs_list F.slot_list_append F.type_list_append mt_append (pe_dsetd (pe_var (pos := px) a1 a2 a3 a4) pk (pe_lst (pos := pl) pa_nil) (m2_of rfl hnk rfl hl2)) (pa_cons pv pa_nil (star_plain hna)) (plainB_eq rfl) (few1 hna) hl1 (star_plain hna) rfl) (notComp_eq rfl)).imp fun D σ H ⟨env, G, Rl, qq⟩ => ?_
  rw [evS] at qq
  cases ek : evE ke env with
  | exc cc n => rw [ek] at qq; exact False.elim qq
  | bad => rw [ek] at qq; exact False.elim qq
  | ok kk =>
  rw [ek, noX_ok] at qq
  cases eg : getV env i with
  | exc cc n => exact (getV_exc eg).elim
  | bad => rw [eg] at qq; exact False.elim qq
  | ok d0 =>
  rw [eg] at qq
  have eslot := getV_ok eg
  have hlen : i < env.length := (List.getElem?_eq_some_iff.mp eslot).1
  cases d0 with
  | dK es =>
    simp only [Res.ok_bind, sdfD] at qq
    cases ekk : kyOf kk with
    | none => rw [ekk] at qq; exact False.elim qq
    | some k' =>
    rw [ekk] at qq
    simp only at qq
    by_cases hlim : es.length < lim
    · rw [if_pos hlim] at qq
      obtain ⟨Fs, h1, h2, h3⟩ := Rl.slots
      obtain ⟨v0, hσ, w⟩ := h1 i _ eslot
      have w' := w
      rw [how] at w
      generalize Fs i = Fi at w
      cases w with
      | sc z => cases z
      | @dK _ _ pp kvs _ Fc hH hF ek2 nod hc ss jj =>
      refine ⟨.ref pp, hσ, pp, rfl, .inl ⟨kvs, .inl hH⟩, env, G, Rl, ?_⟩
      rw [ek]
      intro kv G₁ H₁ x₁ k₁
      show _ ∧ _
      refine ⟨Nat.zero_le _, fun l hl => ?_⟩
      have R₁ := Rl.ext x₁
      have hH₁ := x₁.same _ _ hH
      have npl : pp ≠ l := ne_of_none hH₁ hl
      have xp : Ext G₁ H₁ G₁ (upd H₁ l (.lst [])) := .push R₁.sub hl
      have hH₃ : upd H₁ l (.lst []) pp = some (.dK kvs) := by rw [upd_ne npl]; exact hH₁
      have ekv := kyOf_val (k₁.rp R₁.sub) ekk
      have ell : kvs.length = es.length := by simpa using congrArg List.length ek2
      -- the append, wherever the list lies
      have app : ∀ {env1 : Env} {G' H' : Hp} {es' : List (Ky × SH.D)} {xs : List SH.D} {cv : V}, Rel P B ω env1 σ G' H' → Le G G' → env1[i]? = some (some (.dK es')) → look k' es' = some (.lst xs) → StepV H' (.ref pp) kk cv →
          OutF P B (some ω) lw R W D G' ((evE e env1 >>= fun v => sdaD kk v (.dK es')).fl env1 fun z => .nx (env1.set i (some z))) →
          tyV X.K "list" cv H' ∧ tE P B ω κ W (evE e) σ H' (fun yv H2 => rAppend cv [yv] H2 (fun _ H3 => D.nx σ H3)) := by
        intro env1 G' H' es' xs cv R' lG e1 elk sv q
        obtain ⟨Fs', g1, g2, g3⟩ := R'.slots
        obtain ⟨v1, hσ1, w1⟩ := g1 i _ e1
        rw [hσ] at hσ1
        cases hσ1
        have estep : stepD (.dK es') kk = some (.lst xs) := by
          unfold stepD
          simp only [ekk]
          exact elk
        obtain ⟨x1, sv1, r1⟩ := (w1.rp R'.sub).step estep
        have := StepV.uni sv sv1
        subst this
        obtain ⟨cp, vs, rfl, hcp, elv, _⟩ := r1.lstI
        refine ⟨.inl ⟨rfl, vs, .of hcp⟩, env1, G', R', OutF.step2 R' q fun dv yv G₂ H₂ _ R₂ x₂ k₂ q₂ => ?_⟩
        obtain ⟨G₃, F, x₃, nF, wF⟩ := KdR.keep hk x₂ k₂
        have hcp2 := x₃.same _ _ hcp
        simp only [sdaD, ekk, elk] at q₂
        by_cases hxl : xs.length < lim
        · rw [if_pos hxl] at q₂
          obtain ⟨w9, e9, q3⟩ := q₂
          cases e9
          refine ⟨cp, vs, yv, rfl, rfl, hcp2, by rw [← lim_eq, elv]; exact hxl, ?_⟩
          have pr : PathR P env1 σ H' (.ref cp) (i, [kk], .lst xs) := ⟨.ref pp, .dK es', hσ, e1, ⟨_, sv, rfl⟩, by show (stepD _ kk).bind (atD []) = _; rw [estep]; rfl, r1⟩
          obtain ⟨d₀', d', f1, f2, f3⟩ := leaf_done (f := mutD .append [dv]) (u := .lst (vs ++ [yv])) (du' := .lst (xs ++ [dv])) (o₁ := .nd o₁) R' x₃ pr (by show deepO (ow ω i) 1 = _; rw [how]; rfl) nF rfl (fun F₀ old w0 => w0.snoc hcp2 wF fun a z1 z2 => by
            obtain ⟨u, hu⟩ := old a z1
            rw [(nF a z2).1] at hu; cases hu) (by simp only [mutD]; rw [if_pos hxl])
          rw [e1] at f1
          cases f1
          have : d' = .dK (put k' (.lst (xs ++ [dv])) es') := by
            rw [updAt, estep] at f2
            have f2 : (updAt (mutD .append [dv]) [] (.lst xs) >>= fun y => Res.ok (setD (.dK es') kk y)) = .ok d' := f2
            rw [updAt] at f2
            simp only [mutD] at f2
            rw [if_pos hxl] at f2
            simp only [Res.ok_bind, setD, ekk] at f2
            cases f2; rfl
          subst this
          exact q3 σ G₃ _ f3 (x₃.le R'.sub)
        · rw [if_neg hxl] at q₂; exact False.elim q₂
      rcases look_val kyK (fun a b => kyK_inj) (R := fun v d => Ow P G H (.nd o₁) (fun _ => True) v d) (es := es) (kvs := kvs) ek2 (fun i a b z1 z2 => (hc i a b z1 z2).more fun _ _ => trivial) k' with ⟨dl, vl, l1, l2, l3⟩ | ⟨l1, l2⟩
      · refine ⟨kvs, kyK k', hH₃, ekv, by rw [← lim_eq, ell]; exact hlim, fun v hv => ?_, fun hv => by rw [l2] at hv; cases hv⟩
        rw [l2] at hv
        cases hv
        rw [l1] at qq
        cases dl with
        | lst xs =>
          have eset : env.set i (some (.dK es)) = env := by
            refine List.ext_getElem? fun j => ?_
            by_cases e : j = i
            · subst e; rw [List.getElem?_set_self hlen, eslot]
            · rw [List.getElem?_set_ne (Ne.symm e)]
          simp only [Res.ok_bind, fl_ok] at qq
          rw [eset] at qq
          exact app (R₁.ext xp) (x₁.le Rl.sub) eslot l1 (.inr (.inr ⟨pp, kvs, k', rfl, ekk, .inl hH₃, l2⟩)) (OutF.le (x₁.le Rl.sub) qq)
        | _ => exact False.elim qq
      · refine ⟨kvs, kyK k', hH₃, ekv, by rw [← lim_eq, ell]; exact hlim, fun v hv => by (rw [l2] at hv; cases hv), fun _ => ?_⟩
        rw [l1] at qq
        simp only [Res.ok_bind, fl_ok] at qq
        have pr : PathR P env σ H₁ (.ref pp) (i, [], .dK es) := ⟨.ref pp, .dK es, hσ, eslot, rfl, rfl, (w'.rp Rl.sub).le x₁.same⟩
        have hf : sdfD kk (.dK es) = .ok (.dK (put k' (.lst []) es)) := by
          simp only [sdfD, ekk]
          rw [if_pos hlim, l1]
        have wl : Ow P G₁ (upd H₁ l (.lst [])) (.nd o₁) (fun a => a = l) (.ref l) (.lst []) := .lst (fun _ _ => False) upd_same rfl rfl (fun i v d z => by simp at z) (fun _ _ z => z.elim) fun _ _ _ z => z.elim
        obtain ⟨d₀', d', f1, f2, f3⟩ := leaf_done (f := sdfD kk) (u := .dK (putK kvs (kyK k') (.ref l))) (o₁ := .nd (.nd o₁)) R₁ xp pr (by show deepO (ow ω i) 0 = _; rw [how]; rfl) (Fx := fun a => a = l) (fun a z => by subst z; exact ⟨hl, none_le R₁.sub hl, _, upd_same⟩) rfl (fun F₀ old w0 => w0.putD hH₃ wl fun a z1 z2 => by
          subst z2
          obtain ⟨u, hu⟩ := old a z1
          rw [hl] at hu; cases hu) hf
        rw [eslot] at f1
        cases f1
        rw [updAt, hf] at f2
        cases f2
        refine app f3 (x₁.le Rl.sub) (List.getElem?_set_self hlen) (look_put0 k' _ es) (.inr (.inr ⟨pp, _, k', rfl, ekk, .inl upd_same, ?_⟩)) (OutF.le (x₁.le Rl.sub) qq)
        rw [valV_put, if_pos rfl]
    · rw [if_neg hlim] at qq; exact False.elim qq
  | _ => exact False.elim qq
end
end SH
end
section
set_option Elab.async false
set_option linter.all false
set_option autoImplicit false
set_option maxRecDepth 10000
/-! try with several clauses, named or not. -/
namespace SH
open PySem L2 PySem.Spec PyProof.Rows

/-- the ends behind a clause with a name: the name goes -/
def offE (D : Ends) (i : Nat) : Ends := ⟨fun σ H => D.nx (σ.set i none) H, D.rt, fun σ H => D.bk (σ.set i none) H, fun σ H => D.ct (σ.set i none) H⟩
abbrev HdT := Value × Option Nat × (Addr → Value → Option Addr → TS)
def runH (D : Ends) (a : Addr) (cls : Value) (d : Option Addr) (t : HdT) (σ : L2.St) (H : Hp) : Prop := match t.2.1 with
  | none => t.2.2 a cls d D σ H
  | some i => t.2.2 a cls d (offE D i) (σ.set i (some (.ref a))) H
def wishH (K : PySem.W.Frag) (out : WX) (D : Ends) : List HdT → WX
  | [] => out
  | t :: l => fun cls d σ H => ∃ yes, PySem.W.exmOne K cls t.1 = some yes ∧ (if yes = true then ∀ a, H a = none → runH D a cls d t σ H else wishH K out D l cls d σ H)
def NameOk (X : Cx) : Option Str → Option Nat → Prop
  | none, none => True
  | some n, some i => X.N[i]? = some n ∧ X.env.kindOf n = some .local
  | _, _ => False
inductive ClsOk (X : Cx) : List ExceptHandler → List HdT → Prop
  | nil : ClsOk X [] []
  | cons {x : Str} {n : Option Str} {t : HdT} {b : Stmt} {bs : List Stmt} {p q : Pos} {hs : List ExceptHandler} {l : List HdT} (nm : Names X x t.1) (io : NameOk X n t.2.1)
      (run : ∀ (a : Addr) (oe : Obj) (cls : Value) (d : Option Addr) (pn : List (Addr × Obj)), Zc cls d oe → (∃ vs, oe.data = .fields vs) → PSs (X.suite a ((a, oe) :: pn)) (b :: bs) (t.2.2 a cls d)) (r : ClsOk X hs l) :
      ClsOk X (.ExceptHandler (some (.Name x p)) n (b :: bs) q :: hs) (t :: l)
section
variable {X : Cx} {body : List Stmt} {h1 : ExceptHandler} {hs : List ExceptHandler} {l : List HdT} {pos : Pos} {tb : WX → TS} {out : WX}
theorem out_of_try {pins : List (Addr × Obj)} {xe : Value → Shared → Prop} {D : Ends} {f : Flow} {s1 : Shared} (ok : X.Ok) (h : SP (X.tr (X.pn ++ pins) xe) [] D f s1) : SP X pins D f s1 := by
  cases f with
  | next => obtain ⟨σ1, H1, J, q⟩ := h; exact ⟨σ1, H1, J.ofTry ok, q⟩
  | brk => obtain ⟨σ1, H1, J, q⟩ := h; exact ⟨σ1, H1, J.ofTry ok, q⟩
  | cont => obtain ⟨σ1, H1, J, q⟩ := h; exact ⟨σ1, H1, J.ofTry ok, q⟩
  | ret u => obtain ⟨v, σ1, H1, J, r, q⟩ := h; exact ⟨v, σ1, H1, J.ofTry ok, r, q⟩
theorem out_of_suite {pins : List (Addr × Obj)} {a : Addr} {oe : Obj} {D : Ends} {f : Flow} {s1 : Shared} (ok : X.Ok) (h : SP (X.suite a ((a, oe) :: (X.pn ++ pins))) [] D f s1) : SP X pins D f s1 := by
  cases f with
  | next => obtain ⟨σ1, H1, J, q⟩ := h; exact ⟨σ1, H1, J.unsuite ok, q⟩
  | brk => obtain ⟨σ1, H1, J, q⟩ := h; exact ⟨σ1, H1, J.unsuite ok, q⟩
  | cont => obtain ⟨σ1, H1, J, q⟩ := h; exact ⟨σ1, H1, J.unsuite ok, q⟩
  | ret u => obtain ⟨v, σ1, H1, J, r, q⟩ := h; exact ⟨v, σ1, H1, J.unsuite ok, r, q⟩
/-- the clauses, one after another, at a caught exception -/
theorem clauses {pins : List (Addr × Obj)} {D : Ends} {a : Addr} {cls : Value} {d : Option Addr} {B : Heap} {sI st : Shared} {σ : L2.St} {H : Hp} {g : Heap} (ok : X.Ok) (hN : X.N.Nodup) (hst : X.stack = X.env :: X.outer) (hfr : X.env.frame = some X.env.locals) (tk : Takes X out)
    (J : Inv X pins σ H sI) (nb : ∀ b o, sI.heap.get? b = some o → b ∉ frs X.stack → B.get? b = some o) (up : sI.heap.UpToSlots g) (fl : HandSPX.FlyingZ B (X.env :: X.outer) a (Zc cls d) g) (na : H a = none) (os : st.os = sI.os) (ag : AllBare st.gens)
    (nL : a ≠ X.env.locals) (nF : a ∉ X.fs) : ∀ {hs : List ExceptHandler} {l : List HdT}, ClsOk X hs l → wishH X.K out D l cls d σ H →
    wpAny (model X.prog X.w) X.A (handleBy (.ref a) X.env hs) (SP X pins D) X.xe { st with heap := g } := by
  have J3 : Inv X pins σ H { st with heap := g } := J.landed nb fl.1 up os ag
  obtain ⟨oe, vs, he, hz, hd⟩ := fl.there
  have S3 := J3.suite he hd na nL nF
  intro hs l ck
  induction ck with
  | nil =>
    intro w
    refine wpAny_handleBy_nil ?_
    obtain ⟨_, _, _, oe', vs', T, oT, tvs, e1, _, e2, e3, _⟩ := id fl
    unfold PySem.passOn
    refine wpAny_bind (wpAny_field e1 e2 e3 ?_)
    rw [if_neg (show ¬ ((Value.ref T == Value.none) = true) by simp)]
    have last : wpAny (model X.prog X.w) X.A (setFlight (.ref a) X.env.frame) (fun _ s4 => wpAny (model X.prog X.w) X.A (throw (.ref a) : Sem Flow) (SP X pins D) X.xe s4) X.xe { st with heap := g } := by
      rw [hfr]
      exact HandSPX.setFlight_upZ fl fun h4 held up4 => wpAny_throw (tk _ _ ⟨a, B, sI, pins, σ, H, cls, d, rfl, J, nb, up.trans up4, .inr (.inr (by rw [hst]; exact held)), na, os, ag, w⟩)
    first
      | exact wpAny_bind (wpAny_pure (wpAny_bind last))
      | exact wpAny_bind last
  | @cons x n t b bs p q hs l nm io run r ih =>
    intro w
    obtain ⟨yes, ey, w⟩ := w
    refine wpAny_handleBy_cons (codeAny_handlers_test ?_) (by intro z; cases z)
    have LT : PySem.W.Looks (model X.prog X.w) g (typeOf (.ref a)) cls := fun A Q E s kk qq => wpAny_typeOf_ref (kk _ _ he) (by rw [hz.1]; exact qq)
    have LM := PySem.W.exm_one (M := model X.prog X.w) J3.kIn LT ey
    have named : ∀ {Q E : Value → Shared → Prop}, Q t.1 { st with heap := g } → wpAny (model X.prog X.w) (X.A.mark (some (.ref a))) (eval (.Name x p) X.env) Q E { st with heap := g } := fun {Q E} qq => by
      obtain ⟨hg, hdb, hm | ⟨hm, hv, hn⟩⟩ := nm
      · exact ld_glob (X := X.suite a ((a, oe) :: (X.pn ++ pins))) S3 hg hm qq hdb
      · exact ld_blt (X := X.suite a ((a, oe) :: (X.pn ++ pins))) S3 hg hm hv qq hn hdb
    refine named (LM.here ?_)
    cases yes with
    | false =>
      show wpAny _ X.A (handleBy (.ref a) X.env hs) _ _ _
      exact ih (by simpa using w)
    | true =>
      rw [if_pos rfl] at w
      have w := w a na
      obtain ⟨tc, ti, ts⟩ := t
      cases n with
      | none =>
        cases ti with
        | some i => exact False.elim io
        | none =>
          refine codeAny_handlers_suite (HandSPX.lands_againZ fl fun h4 fl4 up4 => ?_)
          obtain ⟨oe4, vs4, he4, hz4, hd4⟩ := fl4.there
          have S4 := (J.landed (s' := { st with heap := h4 }) nb fl4.1 (up.trans up4) os ag).suite he4 hd4 na nL nF
          exact wpAny_mono ((run a oe4 cls d (X.pn ++ pins) hz4 ⟨_, hd4⟩).run [] _ _ H D S4 w) (fun f s6 z => out_of_suite ok z) (fun _ _ z => False.elim z)
      | some n =>
        cases ti with
        | none => exact False.elim io
        | some i =>
          obtain ⟨hi, hl⟩ := io
          refine codeAny_handlers_suite_as (HandSPX.lands_againZ fl fun h4 fl4 up4 => ?_)
          obtain ⟨oe4, vs4, he4, hz4, hd4⟩ := fl4.there
          have S4 := (J.landed (s' := { st with heap := h4 }) nb fl4.1 (up.trans up4) os ag).suite he4 hd4 na nL nF
          refine store_ok (X := X.suite a ((a, oe4) :: (X.pn ++ pins))) (v := .ref a) S4 hN hi (.inl hl) rfl (fun s5 S5 => ?_) (.inr hl)
          refine wpAny_mono ((run a oe4 cls d (X.pn ++ pins) hz4 ⟨_, hd4⟩).run [] s5 _ H (offE D i) S5 w) (fun f s6 z => ?_) (fun _ _ z => False.elim z)
          have bye : ∀ {σ6 : L2.St} {H6 : Hp} {Q : Shared → Prop}, Inv (X.suite a ((a, oe4) :: (X.pn ++ pins))) [] σ6 H6 s6 → (∀ s7, Inv X pins (σ6.set i none) H6 s7 → Q s7) →
              wpAny (model X.prog X.w) X.A (do bindName X.env n .none; unbindBehindTheSuite X.env n q) (fun _ s7 => Q s7) X.xe s6 := fun S6 hq => gone_ok (S6.unsuite ok) hN hi hl hq
          cases f with
          | next => obtain ⟨σ6, H6, S6, q6⟩ := z; exact bye S6 fun s7 J7 => ⟨_, _, J7, q6⟩
          | brk => obtain ⟨σ6, H6, S6, q6⟩ := z; exact bye S6 fun s7 J7 => ⟨_, _, J7, q6⟩
          | cont => obtain ⟨σ6, H6, S6, q6⟩ := z; exact bye S6 fun s7 J7 => ⟨_, _, J7, q6⟩
          | ret u => obtain ⟨v6, σ6, H6, S6, r6, q6⟩ := z; exact bye S6 fun s7 J7 => ⟨_, _, _, J7, r6, q6⟩
theorem ps_tryH (hN : X.N.Nodup) (hst : X.stack = X.env :: X.outer) (hfr : X.env.frame = some X.env.locals) (tk : Takes X out)
    (hb : ∀ (W : WX) (pn : List (Addr × Obj)) (xe : Value → Shared → Prop), Takes (X.tr pn xe) W → PassesOwn (model X.prog X.w) X.A X.env xe → PSs (X.tr pn xe) body (tb W))
    (ck : ClsOk X (h1 :: hs) l) : PS X (.Try body (h1 :: hs) [] [] pos) (fun D σ H => tb (wishH X.K out D l) D σ H) := by
  refine ⟨fun pins s σ H D I h => wpAny_Try_except ?_⟩
  have ok := I.ok
  have hff : X.A.frames = some (X.env :: X.outer) := by rw [ok.frames, hst]
  refine wpAny_mono ((hb (wishH X.K out D l) (X.pn ++ pins) (fun e s1 => wpAny (model X.prog X.w) X.A (noteFrame e X.env) (fun _ s2 => wpAny (model X.prog X.w) X.A (setFlight e none) (fun _ s3 =>
    wpAny (model X.prog X.w) X.A (handleBy e X.env (h1 :: hs)) (SP X pins D) X.xe s3) X.xe s2) X.xe s1) (fun u st xx => ?_) PassesOwn.looking).run [] s σ H D (I.toTry _) h) (fun f s1 z => ?_) (fun e s1 z => z)
  · obtain ⟨a, B, sI, pins2, σ2, H2, cls, d, rfl, J2, nb, up, sky, na, os, ag, w⟩ := xx
    have sk : Sky B (X.env :: X.outer) a (Zc cls d) X.env.locals st.heap := by rw [← hst]; exact sky
    show wpAny (model X.prog X.w) X.A (noteFrame (.ref a) X.env) _ _ _
    refine Sky.land Zc.steady hff hfr sk fun g fl up3 => ?_
    obtain ⟨oe, vs, he, hz, hd⟩ := fl.there
    have nfr : a ∉ frs (X.env :: X.outer) := fun hm => by
      obtain ⟨_, o2, e2, nf⟩ := fl.2.2.1.mem hm
      rw [he] at e2
      cases e2
      exact nf vs hd
    refine clauses ok hN hst hfr tk (J2.ofTry ok) nb (up.trans up3) fl na os ag (fun z => nfr (List.mem_filterMap.mpr ⟨X.env, List.mem_cons_self, by rw [hfr, z]⟩)) (fun hm => ?_) ck w
    obtain ⟨e, m1, m2⟩ := List.mem_filterMap.mp hm
    exact nfr (List.mem_filterMap.mpr ⟨e, List.mem_cons_of_mem _ m1, m2⟩)
  · have z := out_of_try ok z
    cases f with
    | next => exact wpAny_execs_nil z
    | brk => exact z
    | cont => exact z
    | ret u => exact z
end

/-! ### caught exceptions, as data -/
abbrev hotP (P : Pm) (a : Addr) (d : Option Addr) : Pm := { P with xs := fun a' d' => a' = a ∧ d = some d' }
section
variable {P : Pm} {B : Bs} {I : Ci} {k : Nat} {W : WX} {X : Cx} {ω : List Own} {ω' lw : Option (List Own)} {R : Own} {D : Ends} {G H : Hp} {env : SH.Env} {σ : L2.St}
theorem Rp.hot (xs0 : P.xs = noXs) {a : Addr} {d : Option Addr} {v : V} {dd : SH.D} (h : Rp P G v dd) : Rp (hotP P a d) G v dd := by
  induction h with
  | sc h => exact .sc h
  | tup h e _ ih => exact .tup h e ih
  | lst h e _ ih => exact .lst h e ih
  | dK h e _ ih => exact .dK h e ih
  | dT h e _ ih => exact .dT h e ih
  | ro h => exact .ro h
  | exo h e => rw [xs0] at h; exact h.elim
theorem Ow.cool {P' : Pm} {o : Own} {F : Addr → Prop} {v : V} {dd : SH.D} (h : Ow P' G H o F v dd) : noSh o = true → Ow P G H o F v dd := by
  induction h with
  | sc h => exact fun _ => .sc h
  | sh h => exact fun z => by cases z
  | lst Fs h f e _ s j ih => exact fun n => .lst Fs h f e (fun i v d a b => ih i v d a b n) s j
  | tup Fs h f e _ s j ih => exact fun n => .tup Fs h f e (fun i v d a b => ih i v d a b n) s j
  | dK Fs h f e nd _ s j ih => exact fun n => .dK Fs h f e nd (fun i v d a b => ih i v d a b n) s j
  | dT Fs h f e nd _ s j ih => exact fun n => .dT Fs h f e nd (fun i v d a b => ih i v d a b n) s j
theorem Rel.hot (xs0 : P.xs = noXs) {a : Addr} {d : Option Addr} (Rl : Rel P B [] env σ G H) : Rel (hotP P a d) B [] env σ G H := by
  obtain ⟨Fs, h1, h2, h3⟩ := Rl.slots
  refine ⟨Rl.sub, Rl.ent, Rl.entG, Rl.len, fun _ _ => False, fun i dd e => ?_, fun _ _ z => z.elim, fun _ _ _ z => z.elim⟩
  obtain ⟨v, ev, w⟩ := h1 i dd e
  have : ow [] i = .sh := rfl
  rw [this] at w
  refine ⟨v, ev, ?_⟩
  rw [this]
  exact .sh (w.shr.hot xs0)
/-- what a clause's body does -/
def tsH (P : Pm) (B : Bs) (R : Own) (hb : HB) : Addr → Value → Option Addr → TS := fun a cls d D σ H => ∃ (c : Nat) (dx : Addr) (env : SH.Env) (G : Hp), cls = .ref (P.ca c) ∧ d = some dx ∧ XfC P.K (P.ca c) ∧ PySem.W.findIn P.K (.ref (P.ca c)) "at" = some none ∧
  Rel (hotP P a d) B [] env σ G H ∧ (match evHB hb env with
    | .rt v => ∀ w G' H', Ext G H G' H' → KdR P (ofOwn R) H G' H' w v → D.rt w H'
    | .nx _ => ∀ G' H', Ext G H G' H' → D.nx σ H'
    | _ => False)
def W0 : WX := fun _ _ _ _ => False
theorem hot_ct (c : Ct P I k W X) {a C : Addr} {oe : Obj} {d : Option Addr} {pn : List (Addr × Obj)} (T : XfC P.K C) (hno : PySem.W.findIn P.K (.ref C) "at" = some none) (hz : Zc (.ref C) d oe) (hf : ∃ vs, oe.data = .fields vs) :
    Ct (hotP P a d) { I with hot := true } k W0 (X.suite a ((a, oe) :: pn)) := by
  refine ⟨c.K, c.prog, c.w, c.mg, c.base, c.sc, c.N, c.nd, ?_, c.fn, (fun z => by cases z), fun _ e te pos he hb => ?_⟩
  · have := c.un
    exact this
  · have hm : PE (X.suite a ((a, oe) :: pn)) e (fun σ H Q => ∃ Q', te σ H Q' ∧ ∀ v H1, Q' v H1 → Q v H1) := ⟨fun pins s σ H Q I ⟨Q', h, m⟩ => wpAny_mono (he.run pins s σ H Q' I h) (fun u s1 ⟨v, H1, I1, r, q⟩ => ⟨v, H1, I1, r, m _ _ q⟩) fun _ _ z => z⟩
    refine (pe_xf (by rw [c.K]; exact T) (by rw [c.K]; exact hno) hz hf hm hb).imp fun σ H Q q => ⟨_, q, fun v H1 z => ?_⟩
    obtain ⟨a', d', n, e1, ⟨e2, e3⟩, e4, e5⟩ := z
    exact ⟨by rw [e1, e2], rfl, d', _, .int n, e3, e4, by simp [List.lookup], e5⟩
theorem ret_hot {P' : Pm} {κ : Kd} {o : Own} {H₀ G₀ H' G' : Hp} {v : V} {dd : SH.D} (hk : kOK κ (ownOf κ) = true) (hn : noSh (ownOf κ) = true) (hc : co (ownOf κ) R = true) (x : Ext G₀ H₀ G' H') (h : KdR P' κ H₀ G' H' v dd) : ∃ G₂, Ext G₀ H₀ G₂ H' ∧ KdR P (ofOwn R) H₀ G₂ H' v dd := by
  obtain ⟨G₁, F, x₁, n, w⟩ := KdR.keep hk x h
  have w := w.cool (P := P) hn
  have kd : KdR P (ofOwn (ownOf κ)) H₀ G₁ H' v dd := by
    cases e : ownOf κ with
    | sc => rw [e] at w; exact w.scO
    | sh => rw [e] at w; exact w.shr
    | nd o => rw [e] at w; exact ⟨F, n, w⟩
  have ok : kOK (ofOwn (ownOf κ)) R = true := by
    cases e : ownOf κ with
    | sc => rfl
    | sh => rw [e] at hn; cases hn
    | nd o => rw [e] at hc; exact hc
  obtain ⟨G₂, F2, x₂, n2, w2⟩ := KdR.keep ok x₁ kd
  refine ⟨G₂, x₂, ?_⟩
  cases R with
  | sc => exact w2.scO
  | sh => exact w2.shr
  | nd o => exact ⟨F2, n2, w2⟩
theorem ret_part {a : Addr} {oe : Obj} {d : Option Addr} {pn : List (Addr × Obj)} {e : CE} {v : Expr} (c : Ct (hotP P a d) { I with hot := true } k W0 (X.suite a ((a, oe) :: pn))) (nd : NdE (hotP P a d) k e) (h : ckR { I with hot := true } R e v = true) :
    PE (X.suite a ((a, oe) :: pn)) v (fun σ H Q => ∃ env G dd, Rel (hotP P a d) B [] env σ G H ∧ evE e env = .ok dd ∧ ∀ w G' H', Ext G H G' H' → KdR P (ofOwn R) H G' H' w dd → Q w H') := by
  unfold ckR at h
  split at h
  · rename_i κ e1
    rw [Bool.and_eq_true, Bool.and_eq_true] at h
    obtain ⟨⟨h1, h2⟩, h3⟩ := h
    refine ((sE e (hotP P a d) B _ k W0 _ [] c nd).1 _ _ e1).imp fun σ H Q ⟨env, G, dd, Rl, ev, q⟩ => ⟨env, G, Rl, ?_⟩
    rw [ev]
    intro w G' H' x kd
    obtain ⟨G₂, x₂, k₂⟩ := ret_hot (P := P) (o := R) h1 h2 h3 x kd
    exact q w G₂ H' x₂ k₂
  · cases h
theorem ps_hb (c : Ct P I k W X) {hb : HB} {body : List Stmt} {g : Bool} (nd : NdHB P k hb) (h : ckHB { I with hot := true } R hb body = some g) {a : Addr} {oe : Obj} {cls : Value} {d : Option Addr} {pn : List (Addr × Obj)} (hz : Zc cls d oe) (hf : ∃ vs, oe.data = .fields vs) :
    PSs (X.suite a ((a, oe) :: pn)) body (tsH P B R hb a cls d) ∧ ∃ b bs, body = b :: bs := by
  refine ⟨⟨fun pins s σ H D I2 q => ?_⟩, ?_⟩
  · obtain ⟨cc, dx, env, G, rfl, rfl, T, hno, Rl, q⟩ := q
    have ct := hot_ct (a := a) (pn := pn) c T hno hz hf
    cases hb with
    | ret e =>
      match body, h with
      | [st], h =>
        rw [ckHB] at h
        split at h
        · rename_i v p e1
          split at h
          · rename_i hr
            rw [asRet_eq e1]
            refine (pss_one (ps_ret (ret_part (B := B) ct (nd _) hr))).run pins s σ H D I2 ?_
            simp only [evHB] at q
            cases ev : evE e env with
            | ok dd => rw [ev] at q; exact ⟨env, G, dd, Rl, ev, q⟩
            | exc _ _ => rw [ev] at q; exact False.elim q
            | bad => rw [ev] at q; exact False.elim q
          · cases h
        · cases h
      | [], h => simp [ckHB] at h
      | _ :: _ :: _, h => simp [ckHB] at h
    | chk ce e =>
      match body, h with
      | [st], h =>
        rw [ckHB] at h
        split at h
        · rename_i x s' p e1
          split at h
          · rename_i v p2 e2
            split at h
            · rename_i hr
              rw [Bool.and_eq_true] at hr
              obtain ⟨κ, e3⟩ := Option.isSome_iff_exists.mp hr.1
              rw [asIfS_eq e1, asRet_eq e2]
              refine (pss_one (ps_if ((sE ce (hotP P a (some dx)) B _ k W0 _ [] ct (nd _).1).2 _ _ e3) (pss_one (ps_ret (ret_part (B := B) ct (nd _).2 hr.2))) pss_nil)).run pins s σ H D I2 ?_
              simp only [evHB] at q
              refine ⟨env, G, Rl, ?_⟩
              show OutB (hotP P a (some dx)) W0 σ G H (evE ce env >>= asB) _
              cases ev : (evE ce env >>= asB) with
              | exc _ _ => rw [ev] at q; exact False.elim q
              | bad => rw [ev] at q; exact False.elim q
              | ok bb =>
                rw [ev] at q
                intro bv G₁ H₁ x₁ eb
                subst eb
                cases bv with
                | false => exact q G₁ H₁ x₁
                | true =>
                  simp only at q
                  rw [if_pos rfl]
                  cases ev2 : evE e env with
                  | exc _ _ => rw [ev2] at q; exact False.elim q
                  | bad => rw [ev2] at q; exact False.elim q
                  | ok dd =>
                    rw [ev2] at q
                    exact ⟨env, G₁, dd, Rl.ext x₁, ev2, fun w G' H' x kd => q w G' H' (x₁.trans x) (kd.since x₁.same)⟩
            · cases h
          · cases h
        · cases h
      | [], h => simp [ckHB] at h
      | _ :: _ :: _, h => simp [ckHB] at h
  · cases body with
    | nil => cases hb <;> simp [ckHB] at h
    | cons b bs => exact ⟨b, bs, rfl⟩
def evHI (i : Option Nat) (hd : HB) (n : Int) (env : SH.Env) : Fl := match i with
  | none => evHB hd env
  | some i => match evHB hd (env.set i (some (.exo n))) with
    | .nx e => .nx (e.set i none)
    | r => r
theorem evH_cons {k : Nat} {i : Option Nat} {hd : HB} {hs : CHs} {c : Nat} {n : Int} {env : SH.Env} : evH (.cons k i hd hs) c n env = if k = 0 ∨ k = c then evHI i hd n env else evH hs c n env := by
  cases i <;> rw [evH] <;> rfl
def hdT (P : Pm) (B : Bs) (R : Own) : CHs → List HdT
  | .nil => []
  | .cons c i hb hs => (.ref (P.ca c), i, tsH P B R hb) :: hdT P B R hs
theorem cls_ok (c : Ct P I k W X) : ∀ {hs : CHs} {l : List ExceptHandler} {g : Bool}, ckHs I R hs l = some g → NdHs P k hs → ClsOk X l (hdT P B R hs)
  | .nil, [], _, _, _ => .nil
  | .nil, _ :: _, _, h, _ => by simp [ckHs] at h
  | .cons _ _ _ _, [], _, h, _ => by simp [ckHs] at h
  | .cons cc i hb hs, hd :: l, g, h, nd => by
    obtain ⟨ty, n, body, pos⟩ := hd
    rw [NdHs] at nd
    match ty, h with
    | none, h => simp [ckHs] at h
    | some ty, h =>
      cases ty <;> first | (simp [ckHs] at h; done) | skip
      rename_i x p
      rw [ckHs] at h
      split at h
      · rename_i hc
        rw [Bool.and_eq_true, Bool.and_eq_true, beq_iff_eq] at hc
        obtain ⟨⟨h1, h2⟩, h3⟩ := hc
        split at h
        · rename_i g1 g2 e1 e2
          obtain ⟨y1, y2, _⟩ := c.gl h2
          have hne : ∃ b bs, body = b :: bs := by
            cases body with
            | nil => cases hb <;> simp [ckHB] at e1
            | cons b bs => exact ⟨b, bs, rfl⟩
          obtain ⟨b, bs, rfl⟩ := hne
          refine .cons ⟨y1, y2, .inl (by rw [c.mg, h1]; exact nd.1)⟩ ?_ (fun a oe cls d pn hz hf => (ps_hb (B := B) c nd.2.1 e1 hz hf).1) (cls_ok c e2 nd.2.2)
          show NameOk X n i
          cases n with
          | none => cases i with
            | none => trivial
            | some i => simp [ckNm] at h3
          | some n => cases i with
            | none => simp [ckNm] at h3
            | some i =>
              simp only [ckNm, Bool.and_eq_true] at h3
              obtain ⟨z1, z2⟩ := h3
              refine ⟨?_, by unfold Env.kindOf; rw [c.sc]; exact isLoc_ok z2⟩
              split at z1
              · rename_i y ey
                rw [c.N, ey]; exact congrArg some (by simpa using z1)
              · cases z1
        · cases h
      · cases h
theorem wish_ok (xs0 : P.xs = noXs) {cc : Nat} {n : Int} {e' : SH.Env} {G' H' : Hp} {dx : Addr} (T : XfC P.K (P.ca cc)) (hno : PySem.W.findIn P.K (.ref (P.ca cc)) "at" = some none) (Rl : Rel P B [] e' σ G' H') (l : Le G G') (hb : B.H dx = none) (hg : G' dx = some (xdN n)) :
    ∀ {hs : CHs}, (∀ k ∈ hs.cls, PySem.W.exmOne P.K (.ref (P.ca cc)) (.ref (P.ca k)) = some (decide (k = 0 ∨ k = cc))) → (goesH hs = true → ∀ w, ω' = some w → ∀ i, ow w i = .sh) → OutF P B ω' lw R W D G (evH hs cc n e') → wishH P.K W D (hdT P B R hs) (.ref (P.ca cc)) (some dx) σ H'
  | .nil, _, _, q => q dx σ G' H' Rl l hb hg
  | .cons k i hd hs, hx, hj, q => by
    refine ⟨decide (k = 0 ∨ k = cc), hx k (List.mem_cons_self), ?_⟩
    rw [evH_cons] at q
    by_cases hk : k = 0 ∨ k = cc
    · rw [if_pos hk] at q
      rw [if_pos (by simpa using hk)]
      intro a ha
      cases i with
      | none =>
        refine ⟨cc, dx, e', G', rfl, rfl, T, hno, Rl.hot xs0, ?_⟩
        cases hd with
        | ret e =>
          simp only [evHI, evHB] at q ⊢
          cases ev : evE e e' with
          | exc _ _ => rw [ev] at q; exact q
          | bad => rw [ev] at q; exact q
          | ok dd => rw [ev] at q; exact fun w G₂ H₂ x kd => q w G₂ H₂ (Rl.entry.trans x) (kd.since Rl.ent)
        | chk c1 e =>
          simp only [evHI, evHB] at q ⊢
          cases ev : (evE c1 e' >>= asB) with
          | exc _ _ => rw [ev] at q; exact q
          | bad => rw [ev] at q; exact q
          | ok bb =>
            rw [ev] at q
            cases bb with
            | true =>
              simp only at q ⊢
              cases ev2 : evE e e' with
              | exc _ _ => rw [ev2] at q; exact q
              | bad => rw [ev2] at q; exact q
              | ok dd => rw [ev2] at q; exact fun w G₂ H₂ x kd => q w G₂ H₂ (Rl.entry.trans x) (kd.since Rl.ent)
            | false =>
              obtain ⟨w, ew, q⟩ := q
              exact fun G₂ H₂ x => q σ G₂ H₂ ((Rl.ext x).like fun i => (hj rfl w ew i).symm) (l.trans (x.le Rl.sub))
      | some j =>
        have Rh : Rel (hotP P a (some dx)) B [] (e'.set j (some (.exo n))) (σ.set j (some (.ref a))) G' H' := by
          refine ((Rl.hot xs0).setOld (o := .sh) (.sh (.exo ⟨rfl, rfl⟩ hg)) j).like fun i => ?_
          rw [ow_setw]
          split <;> rfl
        refine ⟨cc, dx, e'.set j (some (.exo n)), G', rfl, rfl, T, hno, Rh, ?_⟩
        cases hd with
        | ret e =>
          simp only [evHI, evHB] at q ⊢
          cases ev : evE e (e'.set j (some (.exo n))) with
          | exc _ _ => rw [ev] at q; exact q
          | bad => rw [ev] at q; exact q
          | ok dd => rw [ev] at q; exact fun w G₂ H₂ x kd => q w G₂ H₂ (Rl.entry.trans x) (kd.since Rl.ent)
        | chk c1 e =>
          simp only [evHI, evHB] at q ⊢
          cases ev : (evE c1 (e'.set j (some (.exo n))) >>= asB) with
          | exc _ _ => rw [ev] at q; exact q
          | bad => rw [ev] at q; exact q
          | ok bb =>
            rw [ev] at q
            cases bb with
            | true =>
              simp only at q ⊢
              cases ev2 : evE e (e'.set j (some (.exo n))) with
              | exc _ _ => rw [ev2] at q; exact q
              | bad => rw [ev2] at q; exact q
              | ok dd => rw [ev2] at q; exact fun w G₂ H₂ x kd => q w G₂ H₂ (Rl.entry.trans x) (kd.since Rl.ent)
            | false =>
              obtain ⟨w, ew, q⟩ := q
              refine fun G₂ H₂ x => ?_
              show D.nx ((σ.set j (some (.ref a))).set j none) H₂
              rw [List.set_set] at q ⊢
              exact q _ G₂ H₂ (((Rl.ext x).drop1 j none).like fun i => (hj rfl w ew i).symm) (l.trans (x.le Rl.sub))
    · rw [if_neg hk] at q
      rw [if_neg (by simpa using hk)]
      refine wish_ok xs0 T hno Rl l hb hg (fun k' hk' => hx k' (List.mem_cons_of_mem _ hk')) (fun hgo => hj ?_) q
      cases hd with
      | ret e => exact hgo
      | chk c1 e => rfl
end
theorem t_try (cs : List Nat) (hs : CHs) {b : CSs} (hb : SSs b) : SSt (.tryS cs b hs) := fun P B I k W X ω lw R c hp hot nd st ω' h => by
  rw [NdS] at nd
  rw [ckS] at h
  split at h
  · rename_i x l p e1
    split at h
    · rename_i hbb
      simp only [Bool.and_eq_true, Bool.not_eq_true', List.isEmpty_eq_false_iff] at hbb
      split at h
      · rename_i o g e2 e3
        obtain ⟨cm, rm, tk, xs0⟩ := c.cold hot
        obtain ⟨hpo, hst, hfr⟩ := hp
        have ctr : ∀ (W' : WX) (pn : List (Addr × Obj)) (xe : Value → Shared → Prop), Takes (X.tr pn xe) W' → Ct P I k W' (X.tr pn xe) := fun W' pn xe t' =>
          ⟨c.K, c.prog, c.w, c.mg, c.base, c.sc, c.N, c.nd, c.un, c.fn, fun _ => ⟨cm, rm, t', xs0⟩, fun z => by rw [hot] at z; cases z⟩
        have never : o = none → ∀ env e', evSs b env ≠ .nx e' := fun z => (hb P B I k W X ω lw R c ⟨hpo, hst, hfr⟩ hot nd.1 _ _ e2).2 z
        have ck := cls_ok (B := B) c e3 nd.2.1
        have hj : goesH hs = true → ∀ w, ω' = some w → ∀ i, ow w i = .sh := fun hg w ew i => by
          rw [if_pos hg] at h
          subst ew
          cases o with
          | none => cases h; rfl
          | some o =>
            simp only [joinO] at h
            split at h
            · rename_i he
              cases h
              exact eqO_ok he i
            · cases h
        cases l with
        | nil => exact absurd rfl hbb.2
        | cons h1 l =>
          refine ⟨?_, fun z env e' => ?_⟩
          · rw [asTry_eq e1]
            refine (ps_tryH (tb := fun W' => tS P B ω o lw R W' (evSs b)) (by rw [c.N]; exact c.nd) hst hfr tk (fun W' pn xe t' hpo' => (hb P B I k W' (X.tr pn xe) ω lw R (ctr W' pn xe t') ⟨hpo', hst, hfr⟩ hot nd.1 _ _ e2).1) ck).imp fun D σ H ⟨env, G, Rl, q⟩ => ⟨env, G, Rl, ?_⟩
            rw [evS] at q
            cases e : evSs b env with
            | nx e2 => rw [e] at q; exact OutF.join h q fun z => absurd e (never z env e2)
            | rt d => rw [e] at q; exact q
            | bk e2 => rw [e] at q; exact q
            | bad => rw [e] at q; exact q
            | exc cc n e2 =>
              rw [e] at q
              have q : OutF P B ω' lw R W D G (if cs.contains cc then evH hs cc n e2 else .bad) := q
              split at q
              · rename_i hc
                intro dx σ' G' H' r l hb' hg'
                obtain ⟨T, hno, hx⟩ := nd.2.2 cc (by simpa using hc)
                rw [c.K]
                exact wish_ok xs0 T hno r l hb' hg' hx hj q
              · exact False.elim q
          · subst z
            obtain ⟨z1, z2⟩ := joinO_none h
            rw [evS]
            intro y
            cases e : evSs b env with
            | nx e2 => exact never z1 env e2 e
            | rt d => rw [e] at y; cases y
            | bk e2 => rw [e] at y; cases y
            | bad => rw [e] at y; cases y
            | exc cc n e2 =>
              rw [e] at y
              have y : (if cs.contains cc then evH hs cc n e2 else .bad) = .nx e' := y
              split at y
              · have key : ∀ hs : CHs, goesH hs = false → ∀ e', evH hs cc n e2 ≠ .nx e' := fun hs => by
                  induction hs with
                  | nil => intro _ e' z; cases z
                  | cons k i hd hs ih =>
                    intro hg e' z
                    cases hd with
                    | chk _ _ => cases hg
                    | ret ee =>
                      rw [evH_cons] at z
                      split at z
                      · cases i with
                        | none =>
                          simp only [evHI, evHB] at z
                          cases ev : evE ee e2 <;> rw [ev] at z <;> cases z
                        | some j =>
                          simp only [evHI, evHB] at z
                          cases ev : evE ee (e2.set j (some (.exo n))) <;> rw [ev] at z <;> cases z
                      · exact ih hg e' z
                refine key hs ?_ e' y
                cases hgo : goesH hs with
                | false => rfl
                | true => rw [hgo] at z2; cases z2
              · cases y
      · cases h
    · cases h
  · cases h
end SH
end
section
set_option Elab.async false
set_option linter.all false
set_option autoImplicit false
set_option maxRecDepth 10000
/-! A second name of an owned list's item. -/
namespace SH
open PySem L2

/-- x names the item j of slot i's list -/
def AF (P : Pm) (x i : Nat) (j : Int) (env : Env) (σ : St) (H : Hp) : Prop := ∃ v du, σ[x]? = some (some v) ∧ PathR P env σ H v (i, [.int j], du)
section
variable {P : Pm} {B : Bs} {I : Ci} {k : Nat} {W : WX} {X : Cx} {ω : List Own} {ω' lw : Option (List Own)} {R : Own} {D : Ends} {G G₁ H H₁ : Hp} {env : Env} {σ : St} {x i : Nat} {j : Int}
theorem PathR.le (l : Le H H₁) {v : V} {r : Nat × List SH.D × SH.D} (h : PathR P env σ H v r) : PathR P env σ H₁ v r := by
  obtain ⟨v₀, d₀, p1, p2, p3, p4, p5⟩ := h
  exact ⟨v₀, d₀, p1, p2, p3.le l, p4, p5.le l⟩
theorem AF.le (l : Le H H₁) (h : AF P x i j env σ H) : AF P x i j env σ H₁ := by
  obtain ⟨v, du, h1, h2⟩ := h
  exact ⟨v, du, h1, h2.le l⟩
theorem PathR.at1 {v : V} {du : SH.D} (h : PathR P env σ H v (i, [.int j], du)) : pathD (.ix (.var i) (.int j)) env = .ok (i, [.int j], du) := by
  obtain ⟨v₀, d₀, p1, p2, p3, p4, p5⟩ := h
  have gv : getV env i = .ok d₀ := by unfold getV; rw [p2]
  have p4 : (stepD d₀ (.int j)).bind (atD []) = some du := p4
  cases e : stepD d₀ (.int j) with
  | none => rw [e] at p4; cases p4
  | some y =>
    rw [e] at p4
    have p4 : some y = some du := p4
    cases p4
    simp only [pathD, gv, evE, Res.ok_bind, e]
    try rfl
theorem PathR.ch {v : V} {du : SH.D} (h : PathR P env σ H v (i, [.int j], du)) : chD env i j = .ok du := by
  unfold chD
  rw [h.at1]; rfl
/-- all is made shared, x with it -/
theorem AF.freeze (Rl : Rel P B ω env σ G H) {v : V} {du : SH.D} (hx : σ[x]? = some (some v)) (pr : PathR P env σ H v (i, [.int j], du)) : ∃ G', Rel P B [] (env.set x (some du)) σ G' H := by
  obtain ⟨G', l, R'⟩ := Rl.freeze
  obtain ⟨v₀, d₀, p1, p2, p3, p4, p5⟩ := pr
  obtain ⟨Fs, h1, h2, h3⟩ := R'.slots
  obtain ⟨v₁, e1, w⟩ := h1 i d₀ p2
  have p1 : σ[i]? = some (some v₀) := p1
  rw [p1] at e1
  cases e1
  have w : Ow P G' H .sh (Fs i) v₀ d₀ := w
  obtain ⟨y, q1, q2⟩ := Rp.path w.shr p4
  have := PathV.uni (q1.le R'.sub) p3
  subst this
  have R2 := R'.setOld (o := .sh) (.sh q2) x
  have es : σ.set x (some y) = σ := by
    apply List.ext_getElem?
    intro n
    rw [List.getElem?_set]
    split
    · rename_i hn
      subst hn
      split
      · exact hx.symm
      · rename_i hl; rw [List.getElem?_eq_none (by omega)] at hx; cases hx
    · rfl
  rw [es] at R2
  refine ⟨G', R2.like fun n => ?_⟩
  rw [ow_setw]
  split
  · rfl
  · rfl
theorem Ext.thaw {G' G₃ H₃ : Hp} (Rl : Rel P B ω env σ G H) (x : Ext G' H G₃ H₃) : Ext G H G H₃ := ⟨x.same, fun _ _ _ => rfl, Rl.sub.trans x.same⟩
/-- the reading of what is done with x -/
def tAl (P : Pm) (B : Bs) (ω : List Own) (ω' lw : Option (List Own)) (R : Own) (W : WX) (x i : Nat) (a : AL) : TS := fun D σ H => ∃ env G j, Rel P B ω env σ G H ∧ AF P x i j env σ H ∧ OutF P B ω' lw R W D G (evA x i j a env)
def SAt (a : AL) : Prop := ∀ (P : Pm) (B : Bs) (I : Ci) (k : Nat) (W : WX) (X : Cx) (ω : List Own) (lw : Option (List Own)) (R : Own) (x i : Nat), Ct P I k W X → Hold X → I.hot = false → NdA P k a → x ≠ i →
  ∀ l ω', ckA I lw R ω x i a l = some ω' → PSs X l (tAl P B ω ω' lw R W x i a) ∧ (ω' = none → ∀ j env e', evA x i j a env ≠ .nx e')
theorem ta_oth {ss : CSs} (hs : SSs ss) : SAt (.oth ss) := fun P B I k W X ω lw R x i c hp hot nd ne l ω' h => by
  rw [NdA] at nd
  rw [ckA] at h
  obtain ⟨p1, p2⟩ := hs P B I k W X ω lw R c hp hot nd _ _ h
  refine ⟨p1.imp fun D σ H ⟨env, G, j, Rl, af, q⟩ => ?_, fun z j env e' => ?_⟩
  · rw [evA] at q
    exact ⟨env, G, Rl, q⟩
  · rw [evA]; exact p2 z env e'
theorem ta_ite (e : CE) {a b : AL} (ha : SAt a) (hb : SAt b) : SAt (.ite e a b) := fun P B I k W X ω lw R x i c hp hot nd ne l ω' h => by
  rw [NdA] at nd
  match l, h with
  | [s], h =>
  rw [ckA] at h
  split at h
  · rename_i cx y z p e1
    split at h
    · rename_i κ o o' e2 e3 e4
      obtain ⟨pa, na⟩ := ha P B I k W X ω lw R x i c hp hot nd.2.1 ne _ _ e3
      obtain ⟨pb, nb⟩ := hb P B I k W X ω lw R x i c hp hot nd.2.2 ne _ _ e4
      refine ⟨?_, fun z j env e' => ?_⟩
      · rw [asIfS_eq e1]
        refine pss_one ((ps_if ((sE e P B I k W X [] c nd.1).2 _ _ e2) pa pb).imp fun D σ H ⟨env, G, j, Rl, af, q⟩ => ?_)
        obtain ⟨v, du, hx, pr⟩ := af
        obtain ⟨G', Rf⟩ := AF.freeze Rl hx pr
        rw [evA, pr.ch] at q
        refine ⟨env.set x (some du), G', Rf, ?_⟩
        cases ee : evE e (env.set x (some du)) with
        | exc cc n => rw [Res.ok_bind, ee] at q; exact False.elim q
        | bad => rw [Res.ok_bind, ee] at q; exact False.elim q
        | ok dt =>
        rw [Res.ok_bind, ee] at q
        show OutB P W σ G' H (evE e (env.set x (some du)) >>= asB) _
        rw [ee]
        show OutB P W σ G' H (asB dt) _
        have q : OutF P B ω' lw R W D G ((asB dt).fl env fun t => if t then evA x i j a env else evA x i j b env) := q
        cases ec : asB dt with
        | exc cc n => cases dt <;> simp [asB] at ec
        | bad => rw [ec] at q; exact False.elim q
        | ok t =>
          rw [ec] at q
          intro u G₃ H₃ x₃ hu
          subst hu
          have x₄ := Ext.thaw Rl x₃
          have R₄ := Rl.ext x₄
          have af' : AF P x i j env σ H₃ := ⟨v, du, hx, pr.le x₃.same⟩
          cases u with
          | true => exact ⟨env, G, j, R₄, af', OutF.join h q fun z => na z j env⟩
          | false => exact ⟨env, G, j, R₄, af', OutF.join' h q fun z => nb z j env⟩
      · subst z
        obtain ⟨z1, z2⟩ := joinO_none h
        rw [evA]
        refine fl_nx fun bb => ?_
        cases bb with
        | true => exact na z1 j env e'
        | false => exact nb z2 j env e'
    · cases h
  · cases h
theorem ta_mut (m : Mut) (es : CEs) : SAt (.mut m es) := fun P B I k W X ω lw R x i c hp hot nd ne l ω' h => by
  rw [NdA] at nd
  match l, h with
  | [s], h =>
  rw [ckA] at h
  split at h
  · rename_i v pos e1
    split at h
    · rename_i o nm p l q e2
      split at h
      · rename_i xn px e3
        split at h
        · rename_i hb
          simp only [Bool.and_eq_true, beq_iff_eq] at hb
          obtain ⟨⟨⟨⟨⟨h1, h2⟩, h3⟩, h4⟩, h5⟩, h6⟩ := hb
          split at h
          · rename_i o₁ e5
            split at h
            · rename_i hc
              cases h
              refine ⟨?_, fun z => by cases z⟩
              rw [asExp_eq e1, asMeth_eq e2, h1]
              have pv : PE X o (tVar x) := by
                rw [asName_eq e3]
                obtain ⟨a1, a2, a3, a4⟩ := c.xck h3
                exact pe_var a1 a2 a3 a4
              refine pss_one ⟨fun pins s σ H D I z => ?_⟩
              obtain ⟨env, G, j, Rl, af, q⟩ := z
              have pp : PE X o (tPathA P B ω W (fun env σ H => AF P x i j env σ H) (.ix (.var i) (.int j))) := pv.imp fun σ H Q ⟨env, G, Rl, ⟨v, du, hx, pr⟩, o⟩ => by
                rw [pr.at1] at o
                exact ⟨v, hx, o v G H (.refl Rl.sub) pr⟩
              have pin : ∀ env r, pathD (.ix (.var i) (.int j)) env = .ok r → r.1 = i ∧ r.2.1.length = 1 := by
                obtain ⟨i', n', z1, z2⟩ := pathIN_ok (b := .ix (.var i) (.int j)) (.ix (.var i))
                rw [pathIN, pathIN] at z1
                cases z1
                exact z2
              refine (mut_core (lw := lw) (R := R) (pos := pos) c nd h2 h4 (by simp [h5]) pp pin e5 hc).run pins s σ H D I ⟨env, G, Rl, af, ?_⟩
              rw [evA] at q
              rw [evS]
              exact q
            · cases h
          · cases h
        · cases h
      · cases h
    · cases h
  · cases h
theorem get_list : PGet X (fun x y H Q => ∃ p xs i v, x = .ref p ∧ y = .int i ∧ SqL X.K H p xs ∧ atI xs i = some v ∧ Q v H) := by
  intro pins s σ H x y v u Q I rx ry h
  obtain ⟨p, xs, i, z, rfl, rfl, hq, he, q⟩ := h
  cases rx
  obtain ⟨t, rfl⟩ := ry
  obtain ⟨its, r, pl, hz⟩ := I.list hq
  obtain ⟨j, h1, h2, h3, h4, h5⟩ := atI_get he
  obtain ⟨w, ew, rw'⟩ := r.get h2
  have hl := r.length
  have hn := line63
  have fin : EP X pins σ Q w s := ⟨z, H, I, rw', q⟩
  by_cases h0 : 0 ≤ i
  · have hj : i.toNat = j := by
      rw [seqIndex_of h0 h5] at h1
      exact Option.some.inj h1
    exact wpAny_getItem_list pl.isList h0 (by omega) (by rw [hj]; simpa using ew) fin
  · have hj : (i + (its.toArray.size : Int)).toNat = j := by
      rw [seqIndex_neg (by omega) h4] at h1
      rw [List.size_toArray, ← hl]
      exact Option.some.inj h1
    exact wpAny_getItem_list_neg pl.isList (by omega) (by rw [List.size_toArray] <;> omega) (by omega) (by rw [hj]; simpa using ew) fin
theorem ta_aug (k' v' : CE) : SAt (.aug k' v') := fun P B I k W X ω lw R x i c hp hot nd ne l ω' h => by
  rw [NdA] at nd
  match l, h with
  | [s], h =>
  rw [ckA] at h
  split at h
  · rename_i t op vx p0 e1
    split at h
    · rename_i o kx p1 e2
      split at h
      · rename_i xn px e3
        split at h
        · rename_i hb
          obtain ⟨h1, h2, h3, h4⟩ := hb
          split at h
          · rename_i κk κv o₁ e4 e5 e6
            cases h
            refine ⟨?_, fun z => by cases z⟩
            rw [asAug_eq e1, asIx_eq e2, h1]
            have pv : PE X o (tVar x) := by
              rw [asName_eq e3]
              obtain ⟨a1, a2, a3, a4⟩ := c.xck h2
              exact pe_var a1 a2 a3 a4
            have pk := (sE k' P B I k W X [] c nd.1).1 _ _ e4
            have pz := (sE v' P B I k W X ω c nd.2).1 _ _ e5
            refine pss_one ((ps_augS pv pk (get_list (X := X)) pz ip_add set_list (by
              intro ov iv new
              cases kx <;> first | rfl | (simp [notSl] at h3))).imp fun D σ H ⟨env, G, j, Rl, af, q⟩ => ?_)
            obtain ⟨v, du, hx, pr⟩ := af
            obtain ⟨G', Rf⟩ := AF.freeze Rl hx pr
            rw [evA, pr.ch, Res.ok_bind] at q
            refine ⟨v, hx, env.set x (some du), G', Rf, ?_⟩
            cases ek : evE k' (env.set x (some du)) with
            | exc cc n => rw [ek] at q; exact False.elim q
            | bad => rw [ek] at q; exact False.elim q
            | ok kd =>
            rw [ek, noX_ok, Res.ok_bind] at q
            intro vk G₁ H₁ x₁ kr
            have x₁' := Ext.thaw Rl x₁
            have R₁ := Rl.ext x₁'
            have pr₁ := pr.le x₁.same
            obtain ⟨v₀, d₀, q1, q2, q3, q4, q5⟩ := id pr₁
            cases du with
            | lst ds =>
              cases kd with
              | int n =>
                obtain ⟨pp, vs, rfl, hpp, el, al⟩ := q5.lstI
                simp only [itD] at q
                cases epl : place n ds.length with
                | none => rw [epl] at q; exact False.elim q
                | some m =>
                rw [epl] at q
                simp only at q
                cases ey : ds[m]? with
                | none => rw [ey] at q; exact False.elim q
                | some dy =>
                rw [ey] at q
                cases dy with
                | int y =>
                  have q : OutF P B (some ω) lw R W D G ((noX (evE v' env) >>= fun z => opI .add (.int y) z >>= fun s => getV env i >>= fun d => updAt (putD (.int n) s) [.int j] d).fl env fun d => .nx (env.set i (some d))) := q
                  have hm : m < ds.length := (List.getElem?_eq_some_iff.mp ey).1
                  obtain ⟨u, eu⟩ : ∃ u, vs[m]? = some u := ⟨vs[m]'(by omega), List.getElem?_eq_getElem (by omega)⟩
                  have hu := (al m u _ eu ey).int
                  subst hu
                  have hn := (kr.rp (Rf.ext x₁).sub).int
                  subst hn
                  refine ⟨pp, vs, n, .int y, rfl, rfl, SqL.of hpp, ?_, env, G, R₁, ?_⟩
                  · unfold atI
                    rw [← place_eq, el, epl]; exact eu
                  cases ez : evE v' env with
                  | exc cc n => rw [ez] at q; exact False.elim q
                  | bad => rw [ez] at q; exact False.elim q
                  | ok dz =>
                  rw [ez, noX_ok, Res.ok_bind] at q
                  intro vz G₂ H₂ x₂ kz
                  have R₂ := R₁.ext x₂
                  cases dz with
                  | int zi =>
                    have hz := (kz.rp R₂.sub).int
                    subst hz
                    have hp2 := x₂.same _ _ hpp
                    refine ⟨y, zi, rfl, rfl, pp, vs, n, m, rfl, rfl, hp2, by rw [el]; exact epl, ?_⟩
                    obtain ⟨d₁, d', g1, g2, g3⟩ := leaf_done (f := putD (.int n) (.int (y + zi))) (u := .lst (vs.set m (.int (y + zi)))) (du' := .lst (ds.set m (.int (y + zi)))) (o₁ := .nd o₁) (Fx := fun _ => False) R₁ x₂ pr₁ e6 (fun _ z => z.elim) rfl (fun F₀ old w0 => w0.setL hp2 (.sc (.int _)) (fun _ _ z => z) hm) (by simp [putD, epl])
                    have gv : getV env i = .ok d₁ := by unfold getV; rw [g1]
                    have q : OutF P B (some ω) lw R W D G ((getV env i >>= fun d => updAt (putD (.int n) (.int (y + zi))) [.int j] d).fl env fun d => .nx (env.set i (some d))) := q
                    rw [gv, Res.ok_bind, g2, fl_ok] at q
                    obtain ⟨w, e9, q8⟩ := q
                    cases e9
                    exact q8 σ G₂ _ g3 (x₂.le R₁.sub)
                  | _ => exact False.elim q
                | _ => exact False.elim q
              | _ => exact False.elim q
            | _ => exact False.elim q
          · cases h
        · cases h
      · cases h
    · cases h
  · cases h
theorem ts_ali (x i : Nat) (e : CE) {a : AL} (ha : SAt a) : SSs (.ali x i e a) := fun P B I k W X ω lw R c hp hot nd l ω' h => by
  rw [NdSs] at nd
  match l, h with
  | [], h => simp [ckSs] at h
  | st :: l, h =>
  rw [ckSs] at h
  split at h
  · rename_i t v p e1
    split at h
    · rename_i xn px e2
      split at h
      · rename_i hb
        simp only [Bool.and_eq_true] at hb
        obtain ⟨⟨⟨h1, h2⟩, h3⟩, h4⟩ := hb
        have ne : x ≠ i := by simpa using h4
        split at h
        · rename_i rn κ e3 e4
          obtain ⟨p2, n2⟩ := ha P B I k W X (setw ω x .sh) lw R x i c hp hot nd.2 ne _ _ h
          refine ⟨?_, fun z env e' => ?_⟩
          · rw [asAsg_eq e1, asName_eq e2]
            obtain ⟨t1, t2, t3⟩ := c.sto h2
            have pp := pe_path (B := B) c (b := .ix (.var i) e) (.ix (.var i)) (by simp only [NdE, true_and]; exact nd.1) e4
            refine (pss_cons (ps_set (by rw [c.N]; exact c.nd) t1 t2 pp (notComp_eq h1) t3) p2).imp fun D σ H ⟨env, G, Rl, q⟩ => ?_
            rw [evSs] at q
            unfold aliD at q
            refine ⟨env, G, Rl, OutF.step2 Rl q fun r v₁ G₁ H₁ er R₁ x₁ pr q₁ => ?_⟩
            have pin : r.1 = i ∧ r.2.1.length = 1 := by
              obtain ⟨i', n', z1, z2⟩ := pathIN_ok (b := .ix (.var i) e) (.ix (.var i))
              rw [pathIN, pathIN] at z1
              cases z1
              exact z2 env r er
            obtain ⟨ri, rps, rd⟩ := r
            simp only at pin q₁
            obtain ⟨rfl, hl⟩ := pin
            match rps, hl, pr, q₁ with
            | [.int j], _, pr, q₁ =>
              have q₁ : OutF P B ω' lw R W D G (if x < env.length then evA x ri j a (env.set x none) else .bad) := q₁
              by_cases hx : x < env.length
              · rw [if_pos hx] at q₁
                obtain ⟨v₀, d₀, p1, p2, p3, p4, p5⟩ := pr
                have Rd := R₁.drop1 x (some v₁)
                obtain ⟨Fs, g1, g2, g3⟩ := Rd.slots
                have Rk : Rel P B (setw ω x .sh) (env.set x none) (σ.set x (some v₁)) G₁ H₁ := ⟨Rd.sub, Rd.ent, Rd.entG, Rd.len, Fs, fun n d ee => by
                  by_cases hn : n = x
                  · subst hn
                    rw [List.getElem?_set_self hx] at ee; cases ee
                  · rw [ow_setw, if_neg hn]; exact g1 n d ee, g2, g3⟩
                refine ⟨env.set x none, G₁, j, Rk, ⟨v₁, rd, List.getElem?_set_self (by rw [R₁.len]; exact hx), v₀, d₀, ?_, ?_, p3, p4, p5⟩, OutF.le (x₁.le Rl.sub) q₁⟩
                · show (σ.set x (some v₁))[ri]? = _
                  rw [List.getElem?_set_ne ne]; exact p1
                · show (env.set x none)[ri]? = _
                  rw [List.getElem?_set_ne ne]; exact p2
              · rw [if_neg hx] at q₁; exact False.elim q₁
            | [.str _], _, _, q₁ => exact False.elim q₁
            | [.bl _], _, _, q₁ => exact False.elim q₁
            | [.non], _, _, q₁ => exact False.elim q₁
            | [.tup _], _, _, q₁ => exact False.elim q₁
            | [.lst _], _, _, q₁ => exact False.elim q₁
            | [.ro _], _, _, q₁ => exact False.elim q₁
            | [.dK _], _, _, q₁ => exact False.elim q₁
            | [.dT _], _, _, q₁ => exact False.elim q₁
            | [.exo _], _, _, q₁ => exact False.elim q₁
          · rw [evSs]
            refine fl_nx fun j => ?_
            split
            · exact n2 z j _ e'
            · intro z; cases z
        · cases h
      · cases h
    · cases h
  · cases h
end
end SH
end
section
set_option Elab.async false
set_option linter.all false
set_option autoImplicit false
set_option maxRecDepth 10000
/-! All statements; defs. -/
namespace SH
open PySem L2

theorem t_never {s : CS} (h : ∀ I lw R ω st, ckS I lw R ω s st = none) : SSt s := fun P B I k W X ω lw R c hp hot nd st ω' e => by
  rw [h] at e; cases e
mutual
theorem sS : ∀ s : CS, SSt s
  | .set i e => t_set i e
  | .setC i e => t_setC i e
  | .unp is e => t_unp is e
  | .par _ _ _ _ => t_never fun I lw R ω st => by simp only [ckS]
  | .aug i o e => t_aug i o e
  | .mut b m es => t_mut b m es
  | .put b k e => t_put b k e
  | .sda i k e => t_sda i k e
  | .forK tg i b => t_forK tg i (sSs b)
  | .forC j i c e => t_forC j i c e
  | .cns i e => t_cns i e
  | .drop e => t_drop e
  | .ite c a b => t_ite c (sSs a) (sSs b)
  | .forS tg src b => t_for tg src (sSs b)
  | .whl n c b => t_whl n c (sSs b)
  | .ret e => t_ret e
  | .retN => t_retN
  | .rse c e => t_rse c e
  | .tryS cs b hs => t_try cs hs (sSs b)
  | .pass => t_pass
  | .brk => t_brk
  | .wk _ _ => t_never fun I lw R ω st => by simp only [ckS]
  | .kill _ => t_never fun I lw R ω st => by simp only [ckS]
theorem sSs : ∀ ss : CSs, SSs ss
  | .nil => ts_nil
  | .cons (.wk i o) ss => ts_wk i o (sSs ss)
  | .cons (.kill i) ss => ts_kill i (sSs ss)
  | .cons (.set i e) ss => ts_cons (by simp) (by simp) (sS (.set i e)) (sSs ss)
  | .cons (.setC i e) ss => ts_cons (by simp) (by simp) (sS (.setC i e)) (sSs ss)
  | .cons (.unp is e) ss => ts_cons (by simp) (by simp) (sS (.unp is e)) (sSs ss)
  | .cons (.par i j a b) ss => ts_cons (by simp) (by simp) (sS (.par i j a b)) (sSs ss)
  | .cons (.aug i o e) ss => ts_cons (by simp) (by simp) (sS (.aug i o e)) (sSs ss)
  | .cons (.mut a b c) ss => ts_cons (by simp) (by simp) (sS (.mut a b c)) (sSs ss)
  | .cons (.put a b c) ss => ts_cons (by simp) (by simp) (sS (.put a b c)) (sSs ss)
  | .cons (.sda a b c) ss => ts_cons (by simp) (by simp) (sS (.sda a b c)) (sSs ss)
  | .cons (.drop e) ss => ts_cons (by simp) (by simp) (sS (.drop e)) (sSs ss)
  | .cons (.ite c a b) ss => ts_cons (by simp) (by simp) (sS (.ite c a b)) (sSs ss)
  | .cons (.forS tg src b) ss => ts_cons (by simp) (by simp) (sS (.forS tg src b)) (sSs ss)
  | .cons (.whl n c b) ss => ts_cons (by simp) (by simp) (sS (.whl n c b)) (sSs ss)
  | .cons (.ret e) ss => ts_cons (by simp) (by simp) (sS (.ret e)) (sSs ss)
  | .cons .retN ss => ts_cons (by simp) (by simp) (sS .retN) (sSs ss)
  | .cons (.rse a b) ss => ts_cons (by simp) (by simp) (sS (.rse a b)) (sSs ss)
  | .cons (.tryS a b c) ss => ts_cons (by simp) (by simp) (sS (.tryS a b c)) (sSs ss)
  | .cons (.forK a b c) ss => ts_cons (by simp) (by simp) (sS (.forK a b c)) (sSs ss)
  | .cons (.forC a b c d) ss => ts_cons (by simp) (by simp) (sS (.forC a b c d)) (sSs ss)
  | .cons (.cns a b) ss => ts_cons (by simp) (by simp) (sS (.cns a b)) (sSs ss)
  | .ali x i e a => ts_ali x i e (sA a)
  | .cons .pass ss => ts_cons (by simp) (by simp) (sS .pass) (sSs ss)
  | .cons .brk ss => ts_cons (by simp) (by simp) (sS .brk) (sSs ss)
theorem sA : ∀ a : AL, SAt a
  | .mut m es => ta_mut m es
  | .aug k v => ta_aug k v
  | .oth ss => ta_oth (sSs ss)
  | .ite c a b => ta_ite c (sA a) (sA b)
end

/-! ### a def -/
def Def.N (d : Def) : List Str := d.names.map Str.ofString
def Def.ps (d : Def) : List Str := d.N.take d.npar
def Def.I (d : Def) (sc : Scope) : Ci := ⟨sc, d.N, false, none⟩
/-- does the def stand for the text's body -/
def Def.ck (d : Def) (R : Own) (sc : Scope) (body : List Stmt) : Bool := decide (d.npar ≤ d.names.length) && (ckSs (d.I sc) none R [] d.body body).isSome
theorem fn_def {P : Pm} (xs0 : P.xs = noXs) {d : Def} {x qual : Str} {params : Arguments} {body : List Stmt} {scope : Scope} {f : Addr} {fd : FuncData} {k : Nat} {R : Own}
    (F : FunD P.K x qual params body scope [] [] f fd) (S : FnScope d.N d.ps scope) (hc : d.ck R scope body = true) (nd : NdSs P k d.body) :
    FnOk P.prog P.w P.K P.mg P.base (L2.CX P.prog P.w) (k + 1) f fd d.ps (spOf P d.run R d.npar) := by
  unfold Def.ck at hc
  rw [Bool.and_eq_true, decide_eq_true_eq] at hc
  obtain ⟨hn, hc⟩ := hc
  obtain ⟨ω', hc⟩ := Option.isSome_iff_exists.mp hc
  have hN : d.N.length = d.names.length := by simp [Def.N]
  have hps : d.ps.length = d.npar := by
    unfold Def.ps
    rw [List.length_take, hN]
    omega
  refine F.ok S (fun vs H Q E h => by rw [hps]; exact h.1) fun cdv A outer s H vs Q E hr h => ?_
  obtain ⟨hl, G, ds, le, el, cc, q⟩ := h
  rw [cold_eq xs0] at cc q
  let W : WX := fun c dx _ H => E c dx H
  let X := cxOf (L2.CX P.prog P.w) P.prog P.w P.K P.mg P.base d.N qual scope f cdv A outer s H E
  let B : Bs := ⟨G, H⟩
  have ct : Ct P (d.I scope) k W X := by
    refine ⟨rfl, rfl, rfl, rfl, rfl, rfl, rfl, S.nd, ?_, fun x => ?_, fun _ => ⟨rfl, hr, ?_, xs0⟩, fun z => by cases z⟩
    · have h3 : X.A.units + 16 * k + 200 < cLine := hr.un
      omega
    · intro _; rfl
    · exact takes_of (X := X) rfl rfl rfl (E := E) rfl
  have hp : Hold X := ⟨passes_of (X := X) rfl, rfl, rfl⟩
  obtain ⟨p1, p2⟩ := sSs d.body P B (d.I scope) k W X [] none R ct hp rfl nd body ω' hc
  refine ⟨_, p1, ds.map some ++ List.replicate (d.names.length - d.npar) none, G, ⟨le, fun a o h => h, fun a o _ => rfl, ?_, fun _ _ => False, fun i dd e => ?_, fun _ _ z => z.elim, fun _ _ _ z => z.elim⟩, ?_⟩
  · unfold L2.start
    simp only [List.length_append, List.length_map, List.length_replicate]
    omega
  · have hi : i < ds.length := by
      by_cases hi : i < ds.length
      · exact hi
      · rw [List.getElem?_append_right (by simpa using hi), List.getElem?_replicate] at e
        split at e <;> cases e
    have hv : i < vs.length := by omega
    rw [List.getElem?_append_left (by simpa using hi), List.getElem?_map, List.getElem?_eq_getElem hi] at e
    cases e
    refine ⟨vs[i], ?_, .sh (cc i vs[i] ds[i] (List.getElem?_eq_getElem hv) (List.getElem?_eq_getElem hi))⟩
    unfold L2.start
    rw [List.getElem?_append_left (by simpa using hv), List.getElem?_map, List.getElem?_eq_getElem hv]
    rfl
  · have hd : ds.length = d.npar := by omega
    unfold Def.run at q
    rw [if_pos hd] at q
    cases e : evSs d.body (ds.map some ++ List.replicate (d.names.length - d.npar) none) with
    | nx e2 =>
      rw [e] at q
      cases ω' with
      | none => exact absurd e (p2 rfl _ _)
      | some w =>
        refine ⟨w, rfl, fun σ' G' H' r l => ?_⟩
        exact q .non G' H' r.entry (.ofSc .non)
    | rt dd =>
      rw [e] at q
      exact q
    | bk e2 => rw [e] at q; exact False.elim q
    | exc c n e2 =>
      rw [e] at q
      exact fun dx σ' G' H' r l hb hg => q dx G' H' r.entry hb hg
    | bad => rw [e] at q; exact False.elim q
theorem cal_of {P : Pm} {d : Def} {x qual : Str} {params : Arguments} {body : List Stmt} {scope : Scope} {f : Addr} {fd : FuncData} {j k : Nat} {R : Own} {nm : String}
    (F : FunD P.K x qual params body scope [] [] f fd) (O : FnOk P.prog P.w P.K P.mg P.base (L2.CX P.prog P.w) j f fd d.ps (spOf P d.run R d.npar)) (hj : j ≤ k) (hn : d.npar ≤ d.names.length) (hm : P.mg nm = some (.ref f)) (hb : Binds P.K fd d.ps []) :
    Cal P k nm d.run R d.npar := ⟨j, f, fd, d.ps, hj, by unfold Def.ps; rw [List.length_take]; simp [Def.N]; omega, O, hm, F.kp, hb⟩
end SH
end
section
set_option Elab.async false
set_option linter.all false
set_option autoImplicit false
set_option maxRecDepth 10000
/-! The exceptions' __init__. -/
namespace SH
open PySem L2

def IsInit (body : List Stmt) : Prop := ∃ (p1 p2 p3 p4 p5 p6 p7 p8 p9 p10 : Pos) (k : Nat) (z : Str), (p2.endLine == p5.line) = true ∧
  body = [.Expr (.Call (.Attribute (.Name "ValueError" p1) "__init__" p2) [.Name "self" p3, .Constant (.str z) k p4] [] p5) p6, .Assign [.Attribute (.Name "self" p7) "at" p8] (.Name "at" p9) p10]
theorem ok_init {P : Program} {w : World} {K : PySem.W.Frag} {mg : Str → Option Value} {base : Heap} {f : Addr} {fd : FuncData} {x qual : Str} {params : Arguments} {body : List Stmt} {scope : Scope}
    (F : FunD K x qual params body scope [] [] f fd) (S : FnScope [("self" : Str), ("at" : Str)] [("self" : Str), ("at" : Str)] scope) (hb : IsInit body) (hg : scope.names.lookup ("ValueError" : Str) = some .globalImplicit) (gV : mg "ValueError" = none)
    (vV : PySem.W.findCls K (.type "ValueError") (.type "type") "__init__" = some (.val (.builtin "ValueError.__init__"))) (hs : scope.names.lookup ("self" : Str) = some .local) (ha : scope.names.lookup ("at" : Str) = some .local) :
    FnOk P w K mg base (L2.CX P w) 1 f fd [("self" : Str), ("at" : Str)] (spI K) := by
  obtain ⟨p1, p2, p3, p4, p5, p6, p7, p8, p9, p10, k, z, hp, rfl⟩ := hb
  refine F.ok S (fun vs H Q E ⟨a, C, y, h, _⟩ => by rw [h]; rfl) fun cdv A outer s H vs Q E hr h => ?_
  obtain ⟨a, C, y, rfl, T, hno, ha0, q⟩ := h
  let X := cxOf (L2.CX P w) P w K mg base [("self" : Str), ("at" : Str)] qual scope f cdv A outer s H E
  refine ⟨_, pss_cons (ps_expr (pe_veinit (pl := plainOf (.Name "ValueError" p1) X.env) hg gV vV (pa_cons (pe_var (i := 0) rfl (.inl hs) (by decide) (by decide)) (pa_cons pe_str pa_nil)) ?_)) (pss_one (ps_ost (pe_var (i := 0) rfl (.inl hs) (by decide) (by decide)) (pe_var (i := 1) rfl (.inl ha) (by decide) (by decide)))), ?_⟩
  · rw [arm_eval_Call]
    refine bind_congr fun ov => bind_congr fun _ => ?_
    exact mcall_line rfl hp
  · refine ⟨_, rfl, ?_⟩
    refine ⟨a, C, [.str z], rfl, by show 1 ≤ 1000; decide, T, ha0, ?_⟩
    refine ⟨_, rfl, _, rfl, a, C, rfl, T, hno, .inl ⟨ha0, fun dx h1 h2 => q dx h1 h2⟩⟩
end SH
end
section
set_option Elab.async false
set_option linter.all false
set_option autoImplicit false
set_option maxRecDepth 10000
/-! A law's def over a script. -/
namespace SH
open PySem L2

/-- what a law's def promises, whatever the base -/
def spLaw (P : Heap → Pm) (d : Def) : Sp := fun vs H Q E => ∀ base, spOf (P base) d.run .sc d.npar vs H Q E
theorem law_fn {P : Heap → Pm} {d : Def} {prog : Program} {w : World} {K : PySem.W.Frag} {mg : Str → Option Value} {base : Heap} {k : Nat} {f : Addr} {fd : FuncData} {ps : List Str}
    (h : FnOk prog w K mg base (L2.CX prog w) k f fd ps (spOf (P base) d.run .sc d.npar)) : FnOk prog w K mg base (L2.CX prog w) k f fd ps (spLaw P d) := h.imp fun _ _ _ _ q => q base
theorem law_sp {P : Heap → Pm} {K : PySem.W.Frag} (hK : ∀ b, (P b).K = K) {d : Def} (hn : d.npar = 1) {H : Hp} {a : Addr} {ns : List Int} (hS : SqL K H a (ns.map V.int)) (hr : d.run [.ro ns] = .ok (.bl true)) : spLaw P d [.ref a] H (fun v _ => v = .bl true) fun _ _ _ => False := fun base => by
  refine ⟨by rw [hn]; rfl, H, [.ro ns], .refl _, rfl, fun i v dd h1 h2 => ?_, ?_⟩
  · cases i with
    | zero =>
      cases h1
      cases h2
      exact .ro (by show SqL (P base).K H a _; rw [hK]; exact hS)
    | succ i => simp at h1
  · rw [hr]
    intro v G' H' x kd
    exact (kd.rp x.sub).bl
theorem cx_none {P : Program} {w : World} {H : Hp} {s : Shared} {e : Value} {s' : Shared} (h : L2.CX P w [] H s (fun _ _ _ => False) e s') : False := by
  obtain ⟨_, _, _, _, _, _, _, _, _, _, _, _, z⟩ := h
  exact z
end SH
end
section
set_option Elab.async false
set_option linter.all false
set_option autoImplicit false
set_option maxRecDepth 10000
/-! The head: what the module's names stand for, by one run of the top. -/
namespace SH
open PySem L2

/-! ### tests of the written part -/
def oexB (K : Fg) (C : Addr) : Bool := (match K.lookup C with
  | some ⟨.type t, _, .cls cd, sl⟩ => (match cd.mro, sl.toList with
    | .ref C' :: bm, [_, _, _, _, some (.builtin n), _] => t == "type" && (C' == C && (n == "ValueError.__new__" && (!cd.hasDel && (cd.hasDict && PySem.HandSPX.refsVE bm))))
    | _, _ => false)
  | _ => false) && (He.eqO (PySem.W.findIn K (.ref C) "__setattr__") (some (some (.builtin "object.__setattr__"))) && (decide (PySem.W.subIn K (.ref C) (.type "BaseException") = some true) && (decide (PySem.W.typeIn K (.ref C) = some (.type "type")) && PySem.W.keepIn K (.ref C))))
theorem oexB_ok {K : Fg} {C : Addr} (h : oexB K C = true) : L2.OexC K C := by
  obtain ⟨h0, h⟩ := He.ba h
  obtain ⟨h1, h⟩ := He.ba h
  obtain ⟨h2, h⟩ := He.ba h
  obtain ⟨h3, h4⟩ := He.ba h
  refine ⟨?_, He.eqO_ok h1, of_decide_eq_true h2, of_decide_eq_true h3, h4⟩
  split at h0
  · rename_i t dd cd sl ho
    split at h0
    · rename_i C' bm k0 k1 k2 k3 n k5 hm hs
      obtain ⟨a, h0⟩ := He.ba h0
      obtain ⟨b, h0⟩ := He.ba h0
      obtain ⟨c, h0⟩ := He.ba h0
      obtain ⟨d, h0⟩ := He.ba h0
      obtain ⟨e, f⟩ := He.ba h0
      obtain ⟨nm, bs, mro, ns, q, hd, sn, sub, ab, col, del⟩ := cd
      obtain ⟨sll⟩ := sl
      have a : t = "type" := beq_iff_eq.mp a
      have b : C' = C := beq_iff_eq.mp b
      have c : n = "ValueError.__new__" := beq_iff_eq.mp c
      have d : del = false := by simpa using d
      have e : hd = true := e
      have hm : mro = .ref C' :: bm := hm
      have hs : sll = [k0, k1, k2, k3, some (.builtin n), k5] := hs
      subst a b c d e hm hs
      exact ⟨nm, q, ns, bs, bm, sn, sub, ab, col, dd, k0, k1, k2, k3, k5, ho, f⟩
    · cases h0
  · cases h0
/-- an error's class -/
def clzB (x : Str) (K : Fg) : Bool := He.eqO (PySem.W.nsIn K mainGlobals x) (some (some (.ref (He.ga K x)))) && (oexB K (He.ga K x) && (He.eqO (PySem.W.findIn K (.ref (He.ga K x)) "__init__") (some (some (.ref (He.fAd K ("HouseError", some "__init__"))))) &&
  (He.eqO (PySem.W.findIn K (.ref (He.ga K x)) "at") (some none) && (xfB K (He.ga K x) && decide (PySem.W.typeIn K (.ref (He.fAd K ("HouseError", some "__init__"))) = some (.type "function"))))))
def exmB (x y : Str) (b : Bool) (K : Fg) : Bool := decide (PySem.W.exmOne K (.ref (He.ga K x)) (.ref (He.ga K y)) = some b)
def vlB (K : Fg) : Bool := match PySem.W.findCls K (.type "ValueError") (.type "type") "__init__" with
  | some (.val (.builtin n)) => n == "ValueError.__init__"
  | _ => false
theorem vlB_ok {K : Fg} (h : vlB K = true) : PySem.W.findCls K (.type "ValueError") (.type "type") "__init__" = some (.val (.builtin "ValueError.__init__")) := by
  unfold vlB at h
  split at h
  · rename_i n e
    rw [e, beq_iff_eq.mp h]
  · cases h

/-! ### the Hook -/
def obsS (fb : List (Fg → Bool)) (fa : List He.Fa) (fn : List He.DefD) (K : Fg) : He.AlD := ((fb.all fun f => f K) && (He.obsD fa fn K).1, (He.obsD fa fn K).2)
def SaysS (fb : List (Fg → Bool)) (fa : List He.Fa) (fn : List He.DefD) (K : Fg) : Prop := obsS fb fa fn K = He.valD fn
def obsSG (n : Nat) (fb : List (Fg → Bool)) (fa : List He.Fa) (fn : List He.DefD) (g : Addr → Option Obj) : He.AlD := obsS fb fa fn (He.frG g (He.asD g n))
def hookS (n : Nat) (fb : List (Fg → Bool)) (fa : List He.Fa) (fn : List He.DefD) : PySem.W.Hook where
  α := He.AlD
  obs := fun s => obsSG n fb fa fn s.heap.get?
  val := fun _ => He.valD fn
  says := fun _ h => ∃ K : Fg, K.In h ∧ SaysS fb fa fn K
  of := fun _ _ e => ⟨_, He.frG_in, e⟩
  keeps := fun _ _ _ ⟨K, hK, c⟩ k => ⟨K, PySem.W.Frag.In.keeps hK k, c⟩
theorem obsSG_eq {n : Nat} {fb : List (Fg → Bool)} {fa : List He.Fa} {fn : List He.DefD} {g : Addr → Option Obj} {s : Shared} (h : ∀ a, g a = s.heap.get? a) : obsSG n fb fa fn g = (hookS n fb fa fn).obs s := by
  have e : g = s.heap.get? := funext h
  rw [e] <;> rfl
section
variable {fb : List (Fg → Bool)} {fa : List He.Fa} {fn : List He.DefD} {K : Fg}
theorem SaysS.d (c : SaysS fb fa fn K) : He.SaysD fa fn K := by
  have c1 := (He.ba (show ((fb.all fun f => f K) && (He.obsD fa fn K).1) = true from congrArg (fun z : He.AlD => z.1) c)).2
  have c2 : (He.obsD fa fn K).2 = fn.map He.DefD.val := congrArg (fun z : He.AlD => z.2) c
  show He.obsD fa fn K = He.valD fn
  exact Prod.ext c1 c2
theorem SaysS.test (c : SaysS fb fa fn K) (i : Nat) {f : Fg → Bool} (h : fb[i]? = some f := by rfl) : f K = true := by
  have c1 := (He.ba (show ((fb.all fun f => f K) && (He.obsD fa fn K).1) = true from congrArg (fun z : He.AlD => z.1) c)).1
  exact List.all_eq_true.mp c1 f (List.mem_of_getElem? h)
end

/-! ### a def of the text -/
abbrev FnP (K : Fg) (x : Str) (st : Stmt) (f : Addr) (fd : FuncData) : Prop := FunD K x x (defArgs st) (defBody st) (defScope st) [] [] f fd
def dd (x : Str) (st : Stmt) : He.DefD := ⟨(x, none), x, x, defArgs st, defBody st, defScope st, [], []⟩
/-- the errors' places -/
def caOf (K : Fg) (c : Nat) : Addr := He.ga K (excNm c)
def pmOf (K : Fg) (prog : Program) (w : World) (mg : Str → Option Value) (base : Heap) : Pm := ⟨K, noXs, caOf K, prog, w, mg, base⟩
section
variable {P : Pm} {k k' : Nat}
theorem Cal.mono {x : String} {f : List D → Res D} {R : Own} {n : Nat} (h : Cal P k x f R n) (l : k ≤ k') : Cal P k' x f R n := by
  obtain ⟨j, a, fd, ps, hj, r⟩ := h
  exact ⟨j, a, fd, ps, Nat.le_trans hj l, r⟩
theorem NdX.sub {cs ks ks' : List Nat} (h : NdX P cs ks) (l : ks'.all (ks.contains ·) = true) : NdX P cs ks' := fun c hc => by
  obtain ⟨a, b, d⟩ := h c hc
  exact ⟨a, b, fun k hk => d k (by have := List.all_eq_true.mp l k hk; simpa using this)⟩
theorem Clz.mono {x : String} {c : Nat} (h : Clz P k x c) (l : k ≤ k') : Clz P k' x c := by
  obtain ⟨j, fI, fd, hj, r⟩ := h
  exact ⟨j, fI, fd, Nat.le_trans hj l, r⟩
end
/-- a fact of each of a list's -/
inductive All1 (Q : Nat → Prop) : List Nat → Prop
  | nil : All1 Q []
  | cons {c : Nat} {cs : List Nat} : Q c → All1 Q cs → All1 Q (c :: cs)
theorem All1.to {Q : Nat → Prop} : ∀ {cs : List Nat}, All1 Q cs → ∀ c ∈ cs, Q c
  | _, .nil, c, h => by cases h
  | _, .cons q r, c, h => by
    rcases List.mem_cons.mp h with rfl | h
    · exact q
    · exact r.to c h
section
variable {K : Fg} {h : Heap} {mg : Str → Option Value} {prog : Program} {w : World} {base : Heap} {c : Nat}
theorem clz_mg (X : K.In h) (G : h.Ns mainGlobals mg) (t : clzB (excNm c) K = true) : (pmOf K prog w mg base).mg (excNm c) = some (.ref ((pmOf K prog w mg base).ca c)) := PySem.W.mg_of X G (He.eqO_ok (He.ba t).1)
theorem clz_xf (t : clzB (excNm c) K = true) : XfC (pmOf K prog w mg base).K ((pmOf K prog w mg base).ca c) := xfB_ok (He.ba (He.ba (He.ba (He.ba (He.ba t).2).2).2).2).1
theorem clz_at (t : clzB (excNm c) K = true) : PySem.W.findIn (pmOf K prog w mg base).K (.ref ((pmOf K prog w mg base).ca c)) "at" = some none := He.eqO_ok (He.ba (He.ba (He.ba (He.ba t).2).2).2).1
theorem clz_of (X : K.In h) (G : h.Ns mainGlobals mg) (t : clzB (excNm c) K = true) {fd : FuncData} (o : FnOk prog w K mg base (L2.CX prog w) 1 (He.fAd K ("HouseError", some "__init__")) fd [("self" : Str), ("at" : Str)] (spI K))
    (b : Binds K fd [("self" : Str), ("at" : Str)] []) : Clz (pmOf K prog w mg base) 2 (excNm c) c :=
  ⟨1, He.fAd K ("HouseError", some "__init__"), fd, by decide, oexB_ok (He.ba (He.ba t).2).1, He.eqO_ok (He.ba (He.ba (He.ba t).2).2).1, of_decide_eq_true (He.ba (He.ba (He.ba (He.ba (He.ba t).2).2).2).2).2,
    clz_at (prog := prog) (w := w) (mg := mg) (base := base) t, o, b, clz_mg (prog := prog) (w := w) (base := base) X G t⟩
end
/-- walk_ofE, the errors' context by the world -/
theorem walk_ofW {l : PySem.W.OpenLaw} {n k : Nat} {q : Program} {loose : List Str} {XP : (Str → Option Value) → Heap → Prop} {YP : World → Heap → Prop} {d : DefRec} {CX : World → CXT} {x : Str}
    (hn : l.most = some n) (hn2 : n ≤ sizeLine) (hdf : d.params.defaults = []) (hr : Room k callerA)
    (F : ∀ (w : World) (mg : Str → Option Value) (fa : Addr) (h : Heap), YP w h → h.Ns mainGlobals mg → mg d.name = some (.ref fa) →
      ∃ (K : Fg) (fd : FuncData) (sp : Sp), K.In h ∧ (∀ (s : Shared) (u : Value), BindsTo s fd ⟨[u], []⟩ [(x, u)]) ∧
        (∀ (H : Hp) (a : Addr) (ns : List Int), ns.length ≤ n → Only H → SqL K H a (ns.map V.int) → sp [.ref a] H (fun v _ => v = .bl true) fun _ _ _ => False) ∧
        ∀ base : Heap, K.In base → base.Ns mainGlobals mg → FnOk l.prog w K mg base (CX w) k fa fd [x] sp)
    (hCX : ∀ (w : World) (H : Hp) (s : Shared) (e : Value) (s' : Shared), CX w [] H s (fun _ _ _ => False) e s' → False) :
    PySem.W.WalkO q loose XP YP l.row.toRowW d [] (fun f vs => PySem.call f vs) := by
  refine Att.attach_call hn hdf fun w s₀ s₁ mg mb fa o pm cd doc a vs ns G Y ho hd hcd hmg hobj hints hlen hg => ?_
  obtain ⟨K, fd, sp, KX, hb, hsp, hF⟩ := F w mg fa _ Y G.T.g hmg
  exact law_call KX G.T.g G.T.b G.T.builtins G.T.nolimit hg hobj hints (Nat.le_trans hlen hn2) hr hF hb (fun H hO hS => hsp H a ns hlen hO hS) fun H e s' => hCX w H s₁ e s'
end SH
end
section
set_option Elab.async false
set_option linter.all false
set_option autoImplicit false
set_option maxRecDepth 10000
/-! Core terms of the program and of what laws share. -/
namespace SH.C
open PySem SH
def d_is_text : Def := ⟨"", ["", ""], 1,
 (.cons (.ret (.and (.cmp .le (.blt .len (.cons false (.var 0) .nil)) (.gi "MOST_LETTERS" 40)) (.blt .all (.cons false (.lc (.name 1) (.over (.var 0)) .none (.and (.chain .le .le (.str [' ']) (.var 1) (.str ['~'])) (.cmp .ne (.blt .ord (.cons false (.var 1) .nil)) (.int 37)))) .nil))))
 .nil)⟩
def s_is_text : List D → Res D := d_is_text.run
def b_text_of_1 : CSs :=
 (.cons (.ite (.cmp .eq (.var 2) (.var 1))
 (.cons (.ret (.var 3))
 .nil)
 .nil)
 (.cons (.kill 2)
 (.cons (.kill 3)
 .nil)))
theorem B_text_of_1 {env : Env} : evSs b_text_of_1 env = evSs ((.cons (.ite (.cmp .eq (.var 2) (.var 1))
 (.cons (.ret (.var 3))
 .nil)
 .nil)
 (.cons (.kill 2)
 (.cons (.kill 3)
 .nil)))) env := rfl
def d_text_of : Def := ⟨"", ["", "", "", ""], 2,
 (.cons (.forS (.tup [2, 3]) (.over (.var 0)) b_text_of_1)
 (.cons (.rse 6 (.var 1))
 .nil))⟩
def s_text_of : List D → Res D := d_text_of.run
def d_has_number : Def := ⟨"", ["", "", "", ""], 2,
 (.cons (.ret (.cmp .inn (.var 1) (.lc (.tup [2, 3]) (.over (.var 0)) .none (.var 2))))
 .nil)⟩
def s_has_number : List D → Res D := d_has_number.run
def d_with_text : Def := ⟨"", ["", "", ""], 3,
 (.cons (.ite (.not (.chain .le .le (.int 0) (.var 1) (.gi "MOST_NUMBER" 99)))
 (.cons (.rse 7 (.var 1))
 .nil)
 .nil)
 (.cons (.ite (.call "has_number" s_has_number .sc (.cons false (.var 0) (.cons false (.var 1) .nil)))
 (.cons (.rse 5 (.var 1))
 .nil)
 .nil)
 (.cons (.ite (.not (.call "is_text" s_is_text .sc (.cons false (.var 2) .nil)))
 (.cons (.rse 2 (.var 1))
 .nil)
 .nil)
 (.cons (.ite (.cmp .eq (.blt .len (.cons false (.var 0) .nil)) (.gi "MOST_TEXTS" 8))
 (.cons (.rse 4 (.var 1))
 .nil)
 .nil)
 (.cons (.ret (.blt .sorted (.cons false (.lst (.cons true (.var 0) (.cons false (.tup (.cons false (.var 1) (.cons false (.var 2) .nil))) .nil))) .nil)))
 .nil)))))⟩
def s_with_text : List D → Res D := d_with_text.run
def d_without_text : Def := ⟨"", ["", "", ""], 2,
 (.cons (.drop (.call "text_of" s_text_of .sh (.cons false (.var 0) (.cons false (.var 1) .nil))))
 (.cons (.ret (.lc (.name 2) (.over (.var 0)) (.some (.cmp .ne (.ix (.var 2) (.int 0)) (.var 1))) (.var 2)))
 .nil))⟩
def s_without_text : List D → Res D := d_without_text.run
def b_l_draws_00_1 : CSs :=
 (.cons (.ite (.cmp .gt (.var 3) (.int 0))
 (.cons (.mut (.var 1) .append (.cons false (.bin .mod (.blt .int (.cons false (.var 3) .nil)) (.int 65536)) .nil))
 (.cons (.set 3 (.bin .fdiv (.var 3) (.int 65536)))
 .nil))
 .nil)
 (.cons (.kill 4)
 .nil))
theorem B_l_draws_00_1 {env : Env} : evSs b_l_draws_00_1 env = evSs ((.cons (.ite (.cmp .gt (.var 3) (.int 0))
 (.cons (.mut (.var 1) .append (.cons false (.bin .mod (.blt .int (.cons false (.var 3) .nil)) (.int 65536)) .nil))
 (.cons (.set 3 (.bin .fdiv (.var 3) (.int 65536)))
 .nil))
 .nil)
 (.cons (.kill 4)
 .nil))) env := rfl
def b_l_draws_00_2 : CSs :=
 (.cons (.set 3 (.blt .abs (.cons false (.ix (.var 0) (.var 2)) .nil)))
 (.cons (.ite (.cmp .ge (.var 3) (.bin .pow (.int 10) (.int 18)))
 (.cons (.kill 2)
 (.cons (.forS (.name 4) (.rng1 (.int 60)) b_l_draws_00_1)
 .nil))
 (.cons (.set 5 (.bin .mod (.blt .int (.cons false (.bin .add (.bin .mul (.var 3) (.int 48271)) (.bin .mul (.bin .add (.var 2) (.int 1)) (.int 69621))) .nil)) (.int 2147483647)))
 (.cons (.set 5 (.bin .mod (.blt .int (.cons false (.bin .add (.bin .add (.bin .mul (.var 5) (.int 16807)) (.bin .mul (.int 11) (.var 2))) (.int 5)) .nil)) (.int 2147483629)))
 (.cons (.mut (.var 1) .append (.cons false (.bin .mod (.blt .int (.cons false (.var 5) .nil)) (.int 65536)) .nil))
 (.cons (.mut (.var 1) .append (.cons false (.bin .mod (.blt .int (.cons false (.bin .fdiv (.var 5) (.int 65536)) .nil)) (.int 32768)) .nil))
 (.cons (.kill 2)
 (.cons (.kill 5)
 .nil)))))))
 (.cons (.kill 3)
 .nil)))
theorem B_l_draws_00_2 {env : Env} : evSs b_l_draws_00_2 env = evSs ((.cons (.set 3 (.blt .abs (.cons false (.ix (.var 0) (.var 2)) .nil)))
 (.cons (.ite (.cmp .ge (.var 3) (.bin .pow (.int 10) (.int 18)))
 (.cons (.kill 2)
 (.cons (.forS (.name 4) (.rng1 (.int 60)) b_l_draws_00_1)
 .nil))
 (.cons (.set 5 (.bin .mod (.blt .int (.cons false (.bin .add (.bin .mul (.var 3) (.int 48271)) (.bin .mul (.bin .add (.var 2) (.int 1)) (.int 69621))) .nil)) (.int 2147483647)))
 (.cons (.set 5 (.bin .mod (.blt .int (.cons false (.bin .add (.bin .add (.bin .mul (.var 5) (.int 16807)) (.bin .mul (.int 11) (.var 2))) (.int 5)) .nil)) (.int 2147483629)))
 (.cons (.mut (.var 1) .append (.cons false (.bin .mod (.blt .int (.cons false (.var 5) .nil)) (.int 65536)) .nil))
 (.cons (.mut (.var 1) .append (.cons false (.bin .mod (.blt .int (.cons false (.bin .fdiv (.var 5) (.int 65536)) .nil)) (.int 32768)) .nil))
 (.cons (.kill 2)
 (.cons (.kill 5)
 .nil)))))))
 (.cons (.kill 3)
 .nil)))) env := rfl
def d_l_draws_00 : Def := ⟨"", ["", "", "", "", "", ""], 1,
 (.cons (.set 1 (.lst .nil))
 (.cons (.forS (.name 2) (.rng1 (.blt .min (.cons false (.int 63) (.cons false (.blt .len (.cons false (.var 0) .nil)) .nil)))) b_l_draws_00_2)
 (.cons (.ret (.var 1))
 .nil)))⟩
def s_l_draws_00 : List D → Res D := d_l_draws_00.run
def d_l_at_00 : Def := ⟨"", ["", "", ""], 3,
 (.cons (.ite (.cmp .lt (.var 1) (.blt .len (.cons false (.var 0) .nil)))
 (.cons (.ret (.bin .mod (.blt .int (.cons false (.ix (.var 0) (.var 1)) .nil)) (.var 2)))
 .nil)
 .nil)
 (.cons (.ret (.int 0))
 .nil))⟩
def s_l_at_00 : List D → Res D := d_l_at_00.run
def d_l_is_integer_00 : Def := ⟨"", [""], 1,
 (.cons (.ret (.and (.isi (.var 0) .int) (.not (.isi (.var 0) .bool))))
 .nil)⟩
def s_l_is_integer_00 : List D → Res D := d_l_is_integer_00.run
def d_l_mix_00 : Def := ⟨"", ["", "", "", ""], 3,
 (.cons (.set 3 (.int 0))
 (.cons (.ite (.cmp .gt (.blt .len (.cons false (.var 0) .nil)) (.int 0))
 (.cons (.set 3 (.ix (.var 0) (.bin .mod (.blt .int (.cons false (.var 1) .nil)) (.blt .len (.cons false (.var 0) .nil)))))
 .nil)
 (.cons (.wk 3 .sh)
 .nil))
 (.cons (.ite (.cmp .lt (.var 1) (.blt .len (.cons false (.var 0) .nil)))
 (.cons (.ret (.bin .mod (.blt .int (.cons false (.var 3) .nil)) (.var 2)))
 .nil)
 .nil)
 (.cons (.ret (.bin .mod (.blt .int (.cons false (.bin .fdiv (.blt .int (.cons false (.bin .add (.bin .mul (.var 3) (.int 7919)) (.bin .mul (.var 1) (.int 104729))) .nil)) (.int 3)) .nil)) (.var 2)))
 .nil))))⟩
def s_l_mix_00 : List D → Res D := d_l_mix_00.run
def d_l_letter_00 : Def := ⟨"", ["", ""], 1,
 (.cons (.set 1 (.str [' ', '!', '"', '#', '$', '&', '\'', '(', ')', '*', '+', ',', '-', '.', '/', '0', '1', '2', '3', '4', '5', '6', '7', '8', '9', ':', ';', '<', '=', '>', '?', '@', 'A', 'B', 'C', 'D', 'E', 'F', 'G', 'H', 'I', 'J', 'K', 'L', 'M', 'N', 'O', 'P', 'Q', 'R', 'S', 'T', 'U', 'V', 'W', 'X', 'Y', 'Z', '[', '\\', ']', '^', '_', '`', 'a', 'b', 'c', 'd', 'e', 'f', 'g', 'h', 'i', 'j', 'k', 'l', 'm', 'n', 'o', 'p', 'q', 'r', 's', 't', 'u', 'v', 'w', 'x', 'y', 'z', '{', '|', '}', '~']))
 (.cons (.ret (.ix (.var 1) (.bin .mod (.blt .int (.cons false (.var 0) .nil)) (.int 94))))
 .nil))⟩
def s_l_letter_00 : List D → Res D := d_l_letter_00.run
def b_l_text_00_1 : CSs :=
 (.cons (.set 6 (.call "_law_mix" s_l_mix_00 .sc (.cons false (.var 0) (.cons false (.bin .add (.bin .add (.var 1) (.int 2)) (.var 5)) (.cons false (.int 9000) .nil)))))
 (.cons (.set 7 (.lst (.cons false (.ix (.str ['a', 'b']) (.bin .mod (.blt .int (.cons false (.bin .fdiv (.var 6) (.int 2)) .nil)) (.int 2))) (.cons false (.ix (.str ['a', 'b', 'c']) (.bin .mod (.blt .int (.cons false (.bin .fdiv (.var 6) (.int 2)) .nil)) (.int 3))) (.cons false (.ix (.str ['a', 'b', ':', '\\']) (.bin .band (.blt .int (.cons false (.var 6) .nil)) (.int 3))) (.cons false (.call "_law_letter" s_l_letter_00 .sc (.cons false (.var 6) .nil)) (.cons false (.str ['a']) .nil)))))))
 (.cons (.set 4 (.bin .add (.var 4) (.ix (.var 7) (.var 3))))
 (.cons (.kill 5)
 (.cons (.kill 6)
 (.cons (.kill 7)
 .nil))))))
theorem B_l_text_00_1 {env : Env} : evSs b_l_text_00_1 env = evSs ((.cons (.set 6 (.call "_law_mix" s_l_mix_00 .sc (.cons false (.var 0) (.cons false (.bin .add (.bin .add (.var 1) (.int 2)) (.var 5)) (.cons false (.int 9000) .nil)))))
 (.cons (.set 7 (.lst (.cons false (.ix (.str ['a', 'b']) (.bin .mod (.blt .int (.cons false (.bin .fdiv (.var 6) (.int 2)) .nil)) (.int 2))) (.cons false (.ix (.str ['a', 'b', 'c']) (.bin .mod (.blt .int (.cons false (.bin .fdiv (.var 6) (.int 2)) .nil)) (.int 3))) (.cons false (.ix (.str ['a', 'b', ':', '\\']) (.bin .band (.blt .int (.cons false (.var 6) .nil)) (.int 3))) (.cons false (.call "_law_letter" s_l_letter_00 .sc (.cons false (.var 6) .nil)) (.cons false (.str ['a']) .nil)))))))
 (.cons (.set 4 (.bin .add (.var 4) (.ix (.var 7) (.var 3))))
 (.cons (.kill 5)
 (.cons (.kill 6)
 (.cons (.kill 7)
 .nil))))))) env := rfl
def d_l_text_00 : Def := ⟨"", ["", "", "", "", "", "", "", ""], 3,
 (.cons (.set 3 (.call "_law_mix" s_l_mix_00 .sc (.cons false (.var 0) (.cons false (.bin .add (.var 1) (.int 1)) (.cons false (.int 5) .nil)))))
 (.cons (.set 4 (.str []))
 (.cons (.forS (.name 5) (.rng1 (.call "_law_mix" s_l_mix_00 .sc (.cons false (.var 0) (.cons false (.var 1) (.cons false (.bin .add (.var 2) (.int 1)) .nil))))) b_l_text_00_1)
 (.cons (.ret (.var 4))
 .nil))))⟩
def s_l_text_00 : List D → Res D := d_l_text_00.run
def b_l_house_00_1 : CSs :=
 (.cons (.set 7 (.call "_law_text" s_l_text_00 .sc (.cons false (.var 0) (.cons false (.bin .add (.bin .add (.var 1) (.int 5)) (.bin .mul (.int 11) (.var 6))) (.cons false (.var 3) .nil)))))
 (.cons (.ite (.and (.cmp .gt (.var 6) (.int 0)) (.cmp .eq (.call "_law_mix" s_l_mix_00 .sc (.cons false (.var 0) (.cons false (.bin .add (.bin .add (.var 1) (.int 3)) (.var 6)) (.cons false (.int 5) .nil)))) (.int 0)))
 (.cons (.set 7 (.ix (.ix (.var 4) (.bin .sub (.var 6) (.int 1))) (.int 1)))
 .nil)
 .nil)
 (.cons (.mut (.var 4) .append (.cons false (.tup (.cons false (.var 5) (.cons false (.var 7) .nil))) .nil))
 (.cons (.set 5 (.bin .add (.bin .add (.var 5) (.int 1)) (.call "_law_mix" s_l_mix_00 .sc (.cons false (.var 0) (.cons false (.bin .add (.bin .add (.var 1) (.int 4)) (.var 6)) (.cons false (.int 9) .nil))))))
 (.cons (.kill 6)
 (.cons (.kill 7)
 .nil))))))
theorem B_l_house_00_1 {env : Env} : evSs b_l_house_00_1 env = evSs ((.cons (.set 7 (.call "_law_text" s_l_text_00 .sc (.cons false (.var 0) (.cons false (.bin .add (.bin .add (.var 1) (.int 5)) (.bin .mul (.int 11) (.var 6))) (.cons false (.var 3) .nil)))))
 (.cons (.ite (.and (.cmp .gt (.var 6) (.int 0)) (.cmp .eq (.call "_law_mix" s_l_mix_00 .sc (.cons false (.var 0) (.cons false (.bin .add (.bin .add (.var 1) (.int 3)) (.var 6)) (.cons false (.int 5) .nil)))) (.int 0)))
 (.cons (.set 7 (.ix (.ix (.var 4) (.bin .sub (.var 6) (.int 1))) (.int 1)))
 .nil)
 .nil)
 (.cons (.mut (.var 4) .append (.cons false (.tup (.cons false (.var 5) (.cons false (.var 7) .nil))) .nil))
 (.cons (.set 5 (.bin .add (.bin .add (.var 5) (.int 1)) (.call "_law_mix" s_l_mix_00 .sc (.cons false (.var 0) (.cons false (.bin .add (.bin .add (.var 1) (.int 4)) (.var 6)) (.cons false (.int 9) .nil))))))
 (.cons (.kill 6)
 (.cons (.kill 7)
 .nil))))))) env := rfl
def d_l_house_00 : Def := ⟨"", ["", "", "", "", "", "", "", ""], 4,
 (.cons (.set 4 (.lst .nil))
 (.cons (.set 5 (.call "_law_mix" s_l_mix_00 .sc (.cons false (.var 0) (.cons false (.var 1) (.cons false (.int 4) .nil)))))
 (.cons (.wk 4 (.nd (.nd .sc)))
 (.cons (.forS (.name 6) (.rng1 (.call "_law_mix" s_l_mix_00 .sc (.cons false (.var 0) (.cons false (.bin .add (.var 1) (.int 1)) (.cons false (.bin .add (.var 2) (.int 1)) .nil))))) b_l_house_00_1)
 (.cons (.ret (.var 4))
 .nil)))))⟩
def s_l_house_00 : List D → Res D := d_l_house_00.run
def d_letters_of : Def := ⟨"", ["", ""], 2,
 (.cons (.ret (.sl (.call "text_of" s_text_of .sh (.cons false (.var 0) (.cons false (.ix (.var 1) (.int 0)) .nil))) (.some (.ix (.var 1) (.int 1))) .none))
 .nil)⟩
def s_letters_of : List D → Res D := d_letters_of.run
def b_all_ends_1 : CSs :=
 (.cons (.mut (.var 1) .extend (.cons false (.lc (.name 4) (.rng1 (.bin .add (.blt .len (.cons false (.var 3) .nil)) (.int 1))) .none (.tup (.cons false (.var 2) (.cons false (.var 4) .nil)))) .nil))
 (.cons (.kill 2)
 (.cons (.kill 3)
 .nil)))
theorem B_all_ends_1 {env : Env} : evSs b_all_ends_1 env = evSs ((.cons (.mut (.var 1) .extend (.cons false (.lc (.name 4) (.rng1 (.bin .add (.blt .len (.cons false (.var 3) .nil)) (.int 1))) .none (.tup (.cons false (.var 2) (.cons false (.var 4) .nil)))) .nil))
 (.cons (.kill 2)
 (.cons (.kill 3)
 .nil)))) env := rfl
def d_all_ends : Def := ⟨"", ["", "", "", "", ""], 1,
 (.cons (.set 1 (.lst .nil))
 (.cons (.wk 1 (.nd .sh))
 (.cons (.forS (.tup [2, 3]) (.over (.var 0)) b_all_ends_1)
 (.cons (.ret (.var 1))
 .nil))))⟩
def s_all_ends : List D → Res D := d_all_ends.run
def d_order_of : Def := ⟨"", ["", "", "", ""], 1,
 (.cons (.set 1 (.blt .sorted (.cons false (.shr (.lc (.name 2) (.over (.call "all_ends" s_all_ends (.nd .sh) (.cons false (.var 0) .nil))) .none (.tup (.cons false (.call "letters_of" s_letters_of (.nd .sh) (.cons false (.var 0) (.cons false (.var 2) .nil))) (.cons false (.var 2) .nil))))) .nil)))
 (.cons (.ret (.lc (.tup [3, 2]) (.over (.var 1)) .none (.var 2)))
 .nil))⟩
def s_order_of : List D → Res D := d_order_of.run
def d_is_end : Def := ⟨"", ["", ""], 2,
 (.cons (.ret (.and (.call "has_number" s_has_number .sc (.cons false (.var 0) (.cons false (.ix (.var 1) (.int 0)) .nil))) (.chain .le .le (.int 0) (.ix (.var 1) (.int 1)) (.blt .len (.cons false (.call "text_of" s_text_of .sh (.cons false (.var 0) (.cons false (.ix (.var 1) (.int 0)) .nil))) .nil)))))
 .nil)⟩
def s_is_end : List D → Res D := d_is_end.run
def b_alike_1 : CSs :=
 (.cons (.aug 2 .add (.int 1))
 .nil)
theorem B_alike_1 {env : Env} : evSs b_alike_1 env = evSs ((.cons (.aug 2 .add (.int 1))
 .nil)) env := rfl
def d_alike : Def := ⟨"", ["", "", ""], 2,
 (.cons (.set 2 (.int 0))
 (.cons (.whl 100000 (.and (.cmp .lt (.var 2) (.blt .min (.cons false (.blt .len (.cons false (.var 0) .nil)) (.cons false (.blt .len (.cons false (.var 1) .nil)) .nil)))) (.cmp .eq (.ix (.var 0) (.var 2)) (.ix (.var 1) (.var 2)))) b_alike_1)
 (.cons (.ret (.var 2))
 .nil)))⟩
def s_alike : List D → Res D := d_alike.run
def d_common : Def := ⟨"", ["", "", ""], 3,
 (.cons (.ite (.not (.call "is_end" s_is_end .sc (.cons false (.var 0) (.cons false (.var 1) .nil))))
 (.cons (.rse 6 (.int 0))
 .nil)
 .nil)
 (.cons (.ite (.not (.call "is_end" s_is_end .sc (.cons false (.var 0) (.cons false (.var 2) .nil))))
 (.cons (.rse 6 (.int 1))
 .nil)
 .nil)
 (.cons (.ret (.call "alike" s_alike .sc (.cons false (.call "letters_of" s_letters_of (.nd .sh) (.cons false (.var 0) (.cons false (.var 1) .nil))) (.cons false (.call "letters_of" s_letters_of (.nd .sh) (.cons false (.var 0) (.cons false (.var 2) .nil))) .nil))))
 .nil)))⟩
def s_common : List D → Res D := d_common.run
def d_l_text_12 : Def := ⟨"", ["", "", "", "", "", "", ""], 3,
 (.cons (.set 3 (.ix (.lst (.cons false (.str ['a', 'b']) (.cons false (.str ['a', 'b']) (.cons false (.str ['a']) (.cons false (.str ['a', 'B', ' ', '~']) (.cons false (.str ['a', 'b', 'c']) .nil)))))) (.call "_law_mix" s_l_mix_00 .sc (.cons false (.var 0) (.cons false (.var 1) (.cons false (.int 5) .nil))))))
 (.cons (.set 4 (.call "_law_mix" s_l_mix_00 .sc (.cons false (.var 0) (.cons false (.bin .add (.var 1) (.int 1)) (.cons false (.bin .add (.var 2) (.int 1)) .nil)))))
 (.cons (.set 5 (.mth .join (.str []) (.cons false (.lc (.name 6) (.rng1 (.var 4)) .none (.ix (.var 3) (.call "_law_mix" s_l_mix_00 .sc (.cons false (.var 0) (.cons false (.bin .add (.bin .add (.var 1) (.int 3)) (.var 6)) (.cons false (.blt .len (.cons false (.var 3) .nil)) .nil)))))) .nil)))
 (.cons (.ite (.and (.cmp .eq (.call "_law_mix" s_l_mix_00 .sc (.cons false (.var 0) (.cons false (.bin .add (.var 1) (.int 2)) (.cons false (.int 5) .nil)))) (.int 1)) (.cmp .gt (.blt .len (.cons false (.var 5) .nil)) (.int 1)))
 (.cons (.set 5 (.sl (.bin .add (.bin .add (.bin .add (.sl (.var 5) .none (.some (.int 2))) (.sl (.var 5) .none (.some (.int 2)))) (.sl (.var 5) .none (.some (.int 2)))) (.var 5)) .none (.some (.var 2))))
 .nil)
 .nil)
 (.cons (.ret (.var 5))
 .nil)))))⟩
def s_l_text_12 : List D → Res D := d_l_text_12.run
def b_l_house_12_1 : CSs :=
 (.cons (.set 4 (.bin .add (.bin .add (.var 4) (.call "_law_mix" s_l_mix_00 .sc (.cons false (.var 0) (.cons false (.bin .add (.bin .add (.var 1) (.int 2)) (.var 5)) (.cons false (.int 12) .nil))))) (.blt .int (.cons false (.cmp .gt (.var 5) (.int 0)) .nil))))
 (.cons (.set 6 (.call "_law_text" s_l_text_12 .sc (.cons false (.var 0) (.cons false (.bin .add (.bin .add (.var 1) (.int 12)) (.bin .mul (.int 17) (.var 5))) (.cons false (.var 2) .nil)))))
 (.cons (.ite (.and (.cmp .gt (.var 5) (.int 0)) (.cmp .eq (.call "_law_mix" s_l_mix_00 .sc (.cons false (.var 0) (.cons false (.bin .add (.bin .add (.var 1) (.int 3)) (.var 5)) (.cons false (.int 7) .nil)))) (.int 1)))
 (.cons (.set 6 (.ix (.ix (.var 3) (.bin .sub (.var 5) (.int 1))) (.int 1)))
 .nil)
 .nil)
 (.cons (.mut (.var 3) .append (.cons false (.tup (.cons false (.var 4) (.cons false (.var 6) .nil))) .nil))
 (.cons (.kill 5)
 (.cons (.kill 6)
 .nil))))))
theorem B_l_house_12_1 {env : Env} : evSs b_l_house_12_1 env = evSs ((.cons (.set 4 (.bin .add (.bin .add (.var 4) (.call "_law_mix" s_l_mix_00 .sc (.cons false (.var 0) (.cons false (.bin .add (.bin .add (.var 1) (.int 2)) (.var 5)) (.cons false (.int 12) .nil))))) (.blt .int (.cons false (.cmp .gt (.var 5) (.int 0)) .nil))))
 (.cons (.set 6 (.call "_law_text" s_l_text_12 .sc (.cons false (.var 0) (.cons false (.bin .add (.bin .add (.var 1) (.int 12)) (.bin .mul (.int 17) (.var 5))) (.cons false (.var 2) .nil)))))
 (.cons (.ite (.and (.cmp .gt (.var 5) (.int 0)) (.cmp .eq (.call "_law_mix" s_l_mix_00 .sc (.cons false (.var 0) (.cons false (.bin .add (.bin .add (.var 1) (.int 3)) (.var 5)) (.cons false (.int 7) .nil)))) (.int 1)))
 (.cons (.set 6 (.ix (.ix (.var 3) (.bin .sub (.var 5) (.int 1))) (.int 1)))
 .nil)
 .nil)
 (.cons (.mut (.var 3) .append (.cons false (.tup (.cons false (.var 4) (.cons false (.var 6) .nil))) .nil))
 (.cons (.kill 5)
 (.cons (.kill 6)
 .nil))))))) env := rfl
def d_l_house_12 : Def := ⟨"", ["", "", "", "", "", "", ""], 3,
 (.cons (.set 3 (.lst .nil))
 (.cons (.set 4 (.int 0))
 (.cons (.wk 3 (.nd (.nd .sc)))
 (.cons (.forS (.name 5) (.rng1 (.ix (.lst (.cons false (.call "_law_mix" s_l_mix_00 .sc (.cons false (.var 0) (.cons false (.var 1) (.cons false (.int 4) .nil)))) (.cons false (.call "_law_mix" s_l_mix_00 .sc (.cons false (.var 0) (.cons false (.var 1) (.cons false (.int 9) .nil)))) .nil))) (.blt .int (.cons false (.cmp .eq (.call "_law_mix" s_l_mix_00 .sc (.cons false (.var 0) (.cons false (.bin .add (.var 1) (.int 1)) (.cons false (.int 5) .nil)))) (.int 2)) .nil)))) b_l_house_12_1)
 (.cons (.ret (.var 3))
 .nil)))))⟩
def s_l_house_12 : List D → Res D := d_l_house_12.run
def b_l_ends_12_1 : CSs :=
 (.cons (.mut (.var 1) .append (.cons false (.tup (.cons false (.sl (.var 3) (.some (.var 4)) .none) (.cons false (.tup (.cons false (.var 2) (.cons false (.var 4) .nil))) .nil))) .nil))
 (.cons (.kill 4)
 .nil))
theorem B_l_ends_12_1 {env : Env} : evSs b_l_ends_12_1 env = evSs ((.cons (.mut (.var 1) .append (.cons false (.tup (.cons false (.sl (.var 3) (.some (.var 4)) .none) (.cons false (.tup (.cons false (.var 2) (.cons false (.var 4) .nil))) .nil))) .nil))
 (.cons (.kill 4)
 .nil))) env := rfl
def b_l_ends_12_2 : CSs :=
 (.cons (.forS (.name 4) (.rng1 (.bin .add (.blt .len (.cons false (.var 3) .nil)) (.int 1))) b_l_ends_12_1)
 (.cons (.kill 2)
 (.cons (.kill 3)
 .nil)))
theorem B_l_ends_12_2 {env : Env} : evSs b_l_ends_12_2 env = evSs ((.cons (.forS (.name 4) (.rng1 (.bin .add (.blt .len (.cons false (.var 3) .nil)) (.int 1))) b_l_ends_12_1)
 (.cons (.kill 2)
 (.cons (.kill 3)
 .nil)))) env := rfl
def d_l_ends_12 : Def := ⟨"", ["", "", "", "", ""], 1,
 (.cons (.set 1 (.lst .nil))
 (.cons (.wk 1 (.nd (.nd (.nd .sh))))
 (.cons (.forS (.tup [2, 3]) (.over (.var 0)) b_l_ends_12_2)
 (.cons (.wk 1 (.nd .sh))
 (.cons (.ret (.blt .sorted (.cons false (.var 1) .nil)))
 .nil)))))⟩
def s_l_ends_12 : List D → Res D := d_l_ends_12.run
def d_l_order_12 : Def := ⟨"", ["", "", ""], 1,
 (.cons (.ret (.lc (.tup [1, 2]) (.over (.call "_law_ends" s_l_ends_12 (.nd .sh) (.cons false (.var 0) .nil))) .none (.var 2)))
 .nil)⟩
def s_l_order_12 : List D → Res D := d_l_order_12.run
def b_l_alike_12_1 : CSs :=
 (.cons (.ite (.and (.cmp .eq (.var 2) (.var 3)) (.cmp .eq (.ix (.var 0) (.var 3)) (.ix (.var 1) (.var 3))))
 (.cons (.set 2 (.bin .add (.var 3) (.int 1)))
 .nil)
 .nil)
 (.cons (.kill 3)
 .nil))
theorem B_l_alike_12_1 {env : Env} : evSs b_l_alike_12_1 env = evSs ((.cons (.ite (.and (.cmp .eq (.var 2) (.var 3)) (.cmp .eq (.ix (.var 0) (.var 3)) (.ix (.var 1) (.var 3))))
 (.cons (.set 2 (.bin .add (.var 3) (.int 1)))
 .nil)
 .nil)
 (.cons (.kill 3)
 .nil))) env := rfl
def d_l_alike_12 : Def := ⟨"", ["", "", "", ""], 2,
 (.cons (.set 2 (.int 0))
 (.cons (.forS (.name 3) (.rng1 (.blt .min (.cons false (.blt .len (.cons false (.var 0) .nil)) (.cons false (.blt .len (.cons false (.var 1) .nil)) .nil)))) b_l_alike_12_1)
 (.cons (.ret (.var 2))
 .nil)))⟩
def s_l_alike_12 : List D → Res D := d_l_alike_12.run
def b_first_index_1 : CSs :=
 (.cons (.set 6 (.bin .fdiv (.bin .add (.var 4) (.var 5)) (.int 2)))
 (.cons (.set 7 (.sl (.call "letters_of" s_letters_of (.nd .sh) (.cons false (.var 0) (.cons false (.ix (.var 1) (.var 6)) .nil))) .none (.some (.blt .len (.cons false (.var 2) .nil)))))
 (.cons (.ite (.or (.cmp .lt (.var 7) (.var 2)) (.and (.var 3) (.cmp .eq (.var 7) (.var 2))))
 (.cons (.set 4 (.bin .add (.var 6) (.int 1)))
 .nil)
 (.cons (.set 5 (.var 6))
 .nil))
 (.cons (.kill 6)
 (.cons (.kill 7)
 .nil)))))
theorem B_first_index_1 {env : Env} : evSs b_first_index_1 env = evSs ((.cons (.set 6 (.bin .fdiv (.bin .add (.var 4) (.var 5)) (.int 2)))
 (.cons (.set 7 (.sl (.call "letters_of" s_letters_of (.nd .sh) (.cons false (.var 0) (.cons false (.ix (.var 1) (.var 6)) .nil))) .none (.some (.blt .len (.cons false (.var 2) .nil)))))
 (.cons (.ite (.or (.cmp .lt (.var 7) (.var 2)) (.and (.var 3) (.cmp .eq (.var 7) (.var 2))))
 (.cons (.set 4 (.bin .add (.var 6) (.int 1)))
 .nil)
 (.cons (.set 5 (.var 6))
 .nil))
 (.cons (.kill 6)
 (.cons (.kill 7)
 .nil)))))) env := rfl
def d_first_index : Def := ⟨"", ["", "", "", "", "", "", "", ""], 4,
 (.cons (.set 4 (.int 0))
 (.cons (.set 5 (.blt .len (.cons false (.var 1) .nil)))
 (.cons (.whl 100000 (.cmp .lt (.var 4) (.var 5)) b_first_index_1)
 (.cons (.ret (.var 4))
 .nil))))⟩
def s_first_index : List D → Res D := d_first_index.run
def d_range_of : Def := ⟨"", ["", "", ""], 3,
 (.cons (.ret (.tup (.cons false (.call "first_index" s_first_index .sc (.cons false (.var 0) (.cons false (.var 1) (.cons false (.var 2) (.cons false (.bl false) .nil))))) (.cons false (.call "first_index" s_first_index .sc (.cons false (.var 0) (.cons false (.var 1) (.cons false (.var 2) (.cons false (.bl true) .nil))))) .nil))))
 .nil)⟩
def s_range_of : List D → Res D := d_range_of.run
def d_l_word_15 : Def := ⟨"", ["", "", "", "", "", "", ""], 3,
 (.cons (.set 3 (.mth .join (.str []) (.cons false (.lc (.name 6) (.rng1 (.call "_law_mix" s_l_mix_00 .sc (.cons false (.var 0) (.cons false (.var 1) (.cons false (.int 4) .nil))))) .none (.ix (.str ['a', 'b', ' ', '~', 'B']) (.call "_law_mix" s_l_mix_00 .sc (.cons false (.var 0) (.cons false (.bin .add (.bin .add (.var 1) (.int 4)) (.var 6)) (.cons false (.int 5) .nil)))))) .nil)))
 (.cons (.ite (.and (.cmp .gt (.blt .len (.cons false (.var 2) .nil)) (.int 0)) (.cmp .gt (.call "_law_mix" s_l_mix_00 .sc (.cons false (.var 0) (.cons false (.bin .add (.var 1) (.int 1)) (.cons false (.int 4) .nil)))) (.int 0)))
 (.cons (.set 4 (.ix (.ix (.var 2) (.call "_law_mix" s_l_mix_00 .sc (.cons false (.var 0) (.cons false (.bin .add (.var 1) (.int 2)) (.cons false (.blt .len (.cons false (.var 2) .nil)) .nil))))) (.int 1)))
 (.cons (.set 5 (.call "_law_mix" s_l_mix_00 .sc (.cons false (.var 0) (.cons false (.bin .add (.var 1) (.int 3)) (.cons false (.bin .add (.blt .len (.cons false (.var 4) .nil)) (.int 1)) .nil)))))
 (.cons (.set 3 (.bin .add (.sl (.var 4) (.some (.var 5)) (.some (.bin .add (.var 5) (.call "_law_mix" s_l_mix_00 .sc (.cons false (.var 0) (.cons false (.var 1) (.cons false (.int 6) .nil))))))) (.ix (.lst (.cons false (.str []) (.cons false (.str []) (.cons false (.str ['a']) (.cons false (.str ['~']) .nil))))) (.call "_law_mix" s_l_mix_00 .sc (.cons false (.var 0) (.cons false (.bin .add (.var 1) (.int 1)) (.cons false (.int 4) .nil)))))))
 (.cons (.kill 4)
 (.cons (.kill 5)
 .nil)))))
 (.cons (.wk 3 (.nd .sh))
 .nil))
 (.cons (.ret (.var 3))
 .nil)))⟩
def s_l_word_15 : List D → Res D := d_l_word_15.run
def b_merged_1 : CSs :=
 (.cons (.mut (.var 3) .append (.cons false (.ix (.var 1) (.var 4)) .nil))
 (.cons (.aug 4 .add (.int 1))
 .nil))
theorem B_merged_1 {env : Env} : evSs b_merged_1 env = evSs ((.cons (.mut (.var 3) .append (.cons false (.ix (.var 1) (.var 4)) .nil))
 (.cons (.aug 4 .add (.int 1))
 .nil))) env := rfl
def b_merged_2 : CSs :=
 (.cons (.set 6 (.tup (.cons false (.call "letters_of" s_letters_of (.nd .sh) (.cons false (.var 0) (.cons false (.var 5) .nil))) (.cons false (.ix (.var 5) (.int 0)) .nil))))
 (.cons (.whl 100000 (.and (.cmp .lt (.var 4) (.blt .len (.cons false (.var 1) .nil))) (.cmp .lt (.tup (.cons false (.call "letters_of" s_letters_of (.nd .sh) (.cons false (.var 0) (.cons false (.ix (.var 1) (.var 4)) .nil))) (.cons false (.ix (.ix (.var 1) (.var 4)) (.int 0)) .nil))) (.var 6))) b_merged_1)
 (.cons (.mut (.var 3) .append (.cons false (.var 5) .nil))
 (.cons (.kill 5)
 (.cons (.kill 6)
 .nil)))))
theorem B_merged_2 {env : Env} : evSs b_merged_2 env = evSs ((.cons (.set 6 (.tup (.cons false (.call "letters_of" s_letters_of (.nd .sh) (.cons false (.var 0) (.cons false (.var 5) .nil))) (.cons false (.ix (.var 5) (.int 0)) .nil))))
 (.cons (.whl 100000 (.and (.cmp .lt (.var 4) (.blt .len (.cons false (.var 1) .nil))) (.cmp .lt (.tup (.cons false (.call "letters_of" s_letters_of (.nd .sh) (.cons false (.var 0) (.cons false (.ix (.var 1) (.var 4)) .nil))) (.cons false (.ix (.ix (.var 1) (.var 4)) (.int 0)) .nil))) (.var 6))) b_merged_1)
 (.cons (.mut (.var 3) .append (.cons false (.var 5) .nil))
 (.cons (.kill 5)
 (.cons (.kill 6)
 .nil)))))) env := rfl
def d_merged : Def := ⟨"", ["", "", "", "", "", "", ""], 3,
 (.cons (.set 3 (.lst .nil))
 (.cons (.set 4 (.int 0))
 (.cons (.wk 3 (.nd .sh))
 (.cons (.forS (.name 5) (.over (.var 2)) b_merged_2)
 (.cons (.ret (.bin .add (.var 3) (.sl (.var 1) (.some (.var 4)) .none)))
 .nil)))))⟩
def s_merged : List D → Res D := d_merged.run
def d_order_with : Def := ⟨"", ["", "", "", "", "", "", "", ""], 4,
 (.cons (.set 4 (.call "with_text" s_with_text (.nd .sh) (.cons false (.var 0) (.cons false (.var 2) (.cons false (.var 3) .nil)))))
 (.cons (.set 5 (.blt .sorted (.cons false (.shr (.lc (.name 6) (.rng1 (.bin .add (.blt .len (.cons false (.var 3) .nil)) (.int 1))) .none (.tup (.cons false (.sl (.var 3) (.some (.var 6)) .none) (.cons false (.var 6) .nil))))) .nil)))
 (.cons (.wk 4 .sh)
 (.cons (.ret (.call "merged" s_merged (.nd .sh) (.cons false (.var 4) (.cons false (.var 1) (.cons false (.lc (.tup [7, 6]) (.over (.var 5)) .none (.tup (.cons false (.var 2) (.cons false (.var 6) .nil)))) .nil)))))
 .nil))))⟩
def s_order_with : List D → Res D := d_order_with.run
def d_order_without : Def := ⟨"", ["", "", "", ""], 3,
 (.cons (.drop (.call "without_text" s_without_text (.nd .sh) (.cons false (.var 0) (.cons false (.var 2) .nil))))
 (.cons (.ret (.lc (.name 3) (.over (.var 1)) (.some (.cmp .ne (.ix (.var 3) (.int 0)) (.var 2))) (.var 3)))
 .nil))⟩
def s_order_without : List D → Res D := d_order_without.run
def d_over : Def := ⟨"", ["", "", "", "", "", ""], 3,
 (.cons (.set 3 (.blt .max (.cons false (.int 0) (.cons false (.bin .add (.bin .sub (.var 1) (.var 2)) (.int 1)) .nil))))
 (.cons (.set 4 (.blt .min (.cons false (.var 1) (.cons false (.bin .sub (.blt .len (.cons false (.var 0) .nil)) (.var 2)) .nil))))
 (.cons (.ret (.lc (.name 5) (.rng2 (.var 3) (.bin .add (.var 4) (.int 1))) .none (.tup (.cons false (.var 5) (.cons false (.bin .add (.var 5) (.var 2)) .nil)))))
 .nil)))⟩
def s_over : List D → Res D := d_over.run
def b_distance_table_1 : CSs :=
 (.cons (.set 7 (.bin .add (.ix (.var 4) (.bin .add (.var 6) (.int 1))) (.blt .int (.cons false (.cmp .ne (.ix (.var 0) (.var 3)) (.ix (.var 1) (.var 6))) .nil))))
 (.cons (.set 5 (.lst (.cons false (.blt .min (.cons false (.var 7) (.cons false (.bin .add (.ix (.var 4) (.var 6)) (.int 1)) (.cons false (.bin .add (.ix (.var 5) (.int 0)) (.int 1)) .nil)))) (.cons true (.var 5) .nil))))
 (.cons (.kill 6)
 (.cons (.kill 7)
 .nil))))
theorem B_distance_table_1 {env : Env} : evSs b_distance_table_1 env = evSs ((.cons (.set 7 (.bin .add (.ix (.var 4) (.bin .add (.var 6) (.int 1))) (.blt .int (.cons false (.cmp .ne (.ix (.var 0) (.var 3)) (.ix (.var 1) (.var 6))) .nil))))
 (.cons (.set 5 (.lst (.cons false (.blt .min (.cons false (.var 7) (.cons false (.bin .add (.ix (.var 4) (.var 6)) (.int 1)) (.cons false (.bin .add (.ix (.var 5) (.int 0)) (.int 1)) .nil)))) (.cons true (.var 5) .nil))))
 (.cons (.kill 6)
 (.cons (.kill 7)
 .nil))))) env := rfl
def b_distance_table_2 : CSs :=
 (.cons (.set 4 (.ix (.var 2) (.int 0)))
 (.cons (.set 5 (.lst (.cons false (.bin .sub (.blt .len (.cons false (.var 0) .nil)) (.var 3)) .nil)))
 (.cons (.forS (.name 6) (.down (.bin .sub (.blt .len (.cons false (.var 1) .nil)) (.int 1)) (.neg (.int 1))) b_distance_table_1)
 (.cons (.wk 5 .sh)
 (.cons (.set 2 (.lst (.cons false (.var 5) (.cons true (.var 2) .nil))))
 (.cons (.kill 3)
 (.cons (.kill 4)
 (.cons (.kill 5)
 .nil))))))))
theorem B_distance_table_2 {env : Env} : evSs b_distance_table_2 env = evSs ((.cons (.set 4 (.ix (.var 2) (.int 0)))
 (.cons (.set 5 (.lst (.cons false (.bin .sub (.blt .len (.cons false (.var 0) .nil)) (.var 3)) .nil)))
 (.cons (.forS (.name 6) (.down (.bin .sub (.blt .len (.cons false (.var 1) .nil)) (.int 1)) (.neg (.int 1))) b_distance_table_1)
 (.cons (.wk 5 .sh)
 (.cons (.set 2 (.lst (.cons false (.var 5) (.cons true (.var 2) .nil))))
 (.cons (.kill 3)
 (.cons (.kill 4)
 (.cons (.kill 5)
 .nil))))))))) env := rfl
def d_distance_table : Def := ⟨"", ["", "", "", "", "", "", "", ""], 2,
 (.cons (.set 2 (.lst (.cons false (.lc (.name 6) (.rng1 (.bin .add (.blt .len (.cons false (.var 1) .nil)) (.int 1))) .none (.bin .sub (.blt .len (.cons false (.var 1) .nil)) (.var 6))) .nil)))
 (.cons (.wk 2 (.nd .sh))
 (.cons (.forS (.name 3) (.down (.bin .sub (.blt .len (.cons false (.var 0) .nil)) (.int 1)) (.neg (.int 1))) b_distance_table_2)
 (.cons (.ret (.var 2))
 .nil))))⟩
def s_distance_table : List D → Res D := d_distance_table.run
def d_distance : Def := ⟨"", ["", ""], 2,
 (.cons (.ret (.ix (.ix (.call "distance_table" s_distance_table (.nd .sh) (.cons false (.var 0) (.cons false (.var 1) .nil))) (.int 0)) (.int 0)))
 .nil)⟩
def s_distance : List D → Res D := d_distance.run
def b_l_word_30_1 : CSs :=
 (.cons (.set 4 (.bin .add (.var 4) (.ix (.var 3) (.bin .mod (.blt .int (.cons false (.bin .fdiv (.call "_law_at" s_l_at_00 .sc (.cons false (.var 0) (.cons false (.bin .add (.bin .add (.var 1) (.int 2)) (.bin .mod (.blt .int (.cons false (.var 5) .nil)) (.int 9))) (.cons false (.int 60000) .nil)))) (.bin .add (.int 1) (.bin .fdiv (.var 5) (.int 9)))) .nil)) (.blt .len (.cons false (.var 3) .nil))))))
 (.cons (.kill 5)
 .nil))
theorem B_l_word_30_1 {env : Env} : evSs b_l_word_30_1 env = evSs ((.cons (.set 4 (.bin .add (.var 4) (.ix (.var 3) (.bin .mod (.blt .int (.cons false (.bin .fdiv (.call "_law_at" s_l_at_00 .sc (.cons false (.var 0) (.cons false (.bin .add (.bin .add (.var 1) (.int 2)) (.bin .mod (.blt .int (.cons false (.var 5) .nil)) (.int 9))) (.cons false (.int 60000) .nil)))) (.bin .add (.int 1) (.bin .fdiv (.var 5) (.int 9)))) .nil)) (.blt .len (.cons false (.var 3) .nil))))))
 (.cons (.kill 5)
 .nil))) env := rfl
def d_l_word_30 : Def := ⟨"", ["", "", "", "", "", ""], 3,
 (.cons (.set 3 (.ix (.lst (.cons false (.str ['a', 'b']) (.cons false (.str ['a', 'b', 'c']) (.cons false (.str ['a']) (.cons false (.str ['a', 'b', ' ', '~']) .nil))))) (.call "_law_at" s_l_at_00 .sc (.cons false (.var 0) (.cons false (.bin .add (.var 1) (.int 1)) (.cons false (.int 4) .nil))))))
 (.cons (.set 4 (.str []))
 (.cons (.forS (.name 5) (.rng1 (.call "_law_at" s_l_at_00 .sc (.cons false (.var 0) (.cons false (.var 1) (.cons false (.bin .add (.var 2) (.int 1)) .nil))))) b_l_word_30_1)
 (.cons (.ret (.var 4))
 .nil))))⟩
def s_l_word_30 : List D → Res D := d_l_word_30.run
def b_l_near_30_1 : CSs :=
 (.cons (.set 4 (.call "_law_at" s_l_at_00 .sc (.cons false (.var 0) (.cons false (.bin .add (.bin .add (.var 1) (.int 1)) (.bin .mul (.int 2) (.var 3))) (.cons false (.bin .add (.blt .len (.cons false (.var 2) .nil)) (.int 1)) .nil)))))
 (.cons (.set 5 (.call "_law_at" s_l_at_00 .sc (.cons false (.var 0) (.cons false (.bin .add (.bin .add (.var 1) (.int 2)) (.bin .mul (.int 2) (.var 3))) (.cons false (.int 60000) .nil)))))
 (.cons (.set 6 (.ix (.str ['a', 'b', 'c', '~']) (.bin .mod (.blt .int (.cons false (.bin .fdiv (.var 5) (.int 3)) .nil)) (.int 4))))
 (.cons (.ite (.cmp .eq (.bin .mod (.blt .int (.cons false (.var 5) .nil)) (.int 3)) (.int 0))
 (.cons (.set 2 (.bin .add (.bin .add (.sl (.var 2) .none (.some (.var 4))) (.var 6)) (.sl (.var 2) (.some (.var 4)) .none)))
 .nil)
 (.cons (.ite (.cmp .eq (.bin .mod (.blt .int (.cons false (.var 5) .nil)) (.int 3)) (.int 1))
 (.cons (.set 2 (.bin .add (.sl (.var 2) .none (.some (.var 4))) (.sl (.var 2) (.some (.bin .add (.var 4) (.int 1))) .none)))
 .nil)
 (.cons (.set 2 (.bin .add (.bin .add (.sl (.var 2) .none (.some (.var 4))) (.var 6)) (.sl (.var 2) (.some (.bin .add (.var 4) (.int 1))) .none)))
 .nil))
 .nil))
 (.cons (.wk 2 .sh)
 (.cons (.kill 3)
 (.cons (.kill 4)
 (.cons (.kill 5)
 (.cons (.kill 6)
 .nil)))))))))
theorem B_l_near_30_1 {env : Env} : evSs b_l_near_30_1 env = evSs ((.cons (.set 4 (.call "_law_at" s_l_at_00 .sc (.cons false (.var 0) (.cons false (.bin .add (.bin .add (.var 1) (.int 1)) (.bin .mul (.int 2) (.var 3))) (.cons false (.bin .add (.blt .len (.cons false (.var 2) .nil)) (.int 1)) .nil)))))
 (.cons (.set 5 (.call "_law_at" s_l_at_00 .sc (.cons false (.var 0) (.cons false (.bin .add (.bin .add (.var 1) (.int 2)) (.bin .mul (.int 2) (.var 3))) (.cons false (.int 60000) .nil)))))
 (.cons (.set 6 (.ix (.str ['a', 'b', 'c', '~']) (.bin .mod (.blt .int (.cons false (.bin .fdiv (.var 5) (.int 3)) .nil)) (.int 4))))
 (.cons (.ite (.cmp .eq (.bin .mod (.blt .int (.cons false (.var 5) .nil)) (.int 3)) (.int 0))
 (.cons (.set 2 (.bin .add (.bin .add (.sl (.var 2) .none (.some (.var 4))) (.var 6)) (.sl (.var 2) (.some (.var 4)) .none)))
 .nil)
 (.cons (.ite (.cmp .eq (.bin .mod (.blt .int (.cons false (.var 5) .nil)) (.int 3)) (.int 1))
 (.cons (.set 2 (.bin .add (.sl (.var 2) .none (.some (.var 4))) (.sl (.var 2) (.some (.bin .add (.var 4) (.int 1))) .none)))
 .nil)
 (.cons (.set 2 (.bin .add (.bin .add (.sl (.var 2) .none (.some (.var 4))) (.var 6)) (.sl (.var 2) (.some (.bin .add (.var 4) (.int 1))) .none)))
 .nil))
 .nil))
 (.cons (.wk 2 .sh)
 (.cons (.kill 3)
 (.cons (.kill 4)
 (.cons (.kill 5)
 (.cons (.kill 6)
 .nil)))))))))) env := rfl
def d_l_near_30 : Def := ⟨"", ["", "", "", "", "", "", ""], 3,
 (.cons (.forS (.name 3) (.rng1 (.call "_law_at" s_l_at_00 .sc (.cons false (.var 0) (.cons false (.var 1) (.cons false (.int 4) .nil))))) b_l_near_30_1)
 (.cons (.ret (.var 2))
 .nil))⟩
def s_l_near_30 : List D → Res D := d_l_near_30.run
def b_l_table_30_1 : CSs :=
 (.cons (.set 5 (.lst .nil))
 (.cons (.ite (.cmp .lt (.var 3) (.blt .len (.cons false (.var 0) .nil)))
 (.cons (.mut (.var 5) .append (.cons false (.bin .add (.ix (.ix (.var 2) (.bin .add (.var 3) (.int 1))) (.var 4)) (.int 1)) .nil))
 .nil)
 .nil)
 (.cons (.ite (.cmp .lt (.var 4) (.blt .len (.cons false (.var 1) .nil)))
 (.cons (.mut (.var 5) .append (.cons false (.bin .add (.ix (.ix (.var 2) (.var 3)) (.bin .add (.var 4) (.int 1))) (.int 1)) .nil))
 .nil)
 .nil)
 (.cons (.ite (.and (.cmp .lt (.var 3) (.blt .len (.cons false (.var 0) .nil))) (.cmp .lt (.var 4) (.blt .len (.cons false (.var 1) .nil))))
 (.cons (.mut (.var 5) .append (.cons false (.bin .add (.ix (.ix (.var 2) (.bin .add (.var 3) (.int 1))) (.bin .add (.var 4) (.int 1))) (.blt .int (.cons false (.cmp .ne (.ix (.var 0) (.var 3)) (.ix (.var 1) (.var 4))) .nil))) .nil))
 .nil)
 .nil)
 (.cons (.ite (.cmp .ne (.var 5) (.lst .nil))
 (.cons (.put (.ix (.var 2) (.var 3)) (.var 4) (.blt .min (.cons false (.var 5) .nil)))
 .nil)
 .nil)
 (.cons (.kill 4)
 (.cons (.kill 5)
 .nil)))))))
theorem B_l_table_30_1 {env : Env} : evSs b_l_table_30_1 env = evSs ((.cons (.set 5 (.lst .nil))
 (.cons (.ite (.cmp .lt (.var 3) (.blt .len (.cons false (.var 0) .nil)))
 (.cons (.mut (.var 5) .append (.cons false (.bin .add (.ix (.ix (.var 2) (.bin .add (.var 3) (.int 1))) (.var 4)) (.int 1)) .nil))
 .nil)
 .nil)
 (.cons (.ite (.cmp .lt (.var 4) (.blt .len (.cons false (.var 1) .nil)))
 (.cons (.mut (.var 5) .append (.cons false (.bin .add (.ix (.ix (.var 2) (.var 3)) (.bin .add (.var 4) (.int 1))) (.int 1)) .nil))
 .nil)
 .nil)
 (.cons (.ite (.and (.cmp .lt (.var 3) (.blt .len (.cons false (.var 0) .nil))) (.cmp .lt (.var 4) (.blt .len (.cons false (.var 1) .nil))))
 (.cons (.mut (.var 5) .append (.cons false (.bin .add (.ix (.ix (.var 2) (.bin .add (.var 3) (.int 1))) (.bin .add (.var 4) (.int 1))) (.blt .int (.cons false (.cmp .ne (.ix (.var 0) (.var 3)) (.ix (.var 1) (.var 4))) .nil))) .nil))
 .nil)
 .nil)
 (.cons (.ite (.cmp .ne (.var 5) (.lst .nil))
 (.cons (.put (.ix (.var 2) (.var 3)) (.var 4) (.blt .min (.cons false (.var 5) .nil)))
 .nil)
 .nil)
 (.cons (.kill 4)
 (.cons (.kill 5)
 .nil)))))))) env := rfl
def b_l_table_30_2 : CSs :=
 (.cons (.forS (.name 4) (.down (.blt .len (.cons false (.var 1) .nil)) (.neg (.int 1))) b_l_table_30_1)
 (.cons (.kill 3)
 .nil))
theorem B_l_table_30_2 {env : Env} : evSs b_l_table_30_2 env = evSs ((.cons (.forS (.name 4) (.down (.blt .len (.cons false (.var 1) .nil)) (.neg (.int 1))) b_l_table_30_1)
 (.cons (.kill 3)
 .nil))) env := rfl
def d_l_table_30 : Def := ⟨"", ["", "", "", "", "", ""], 2,
 (.cons (.setC 2 (.lc (.name 3) (.rng1 (.bin .add (.blt .len (.cons false (.var 0) .nil)) (.int 1))) .none (.lc (.name 4) (.rng1 (.bin .add (.blt .len (.cons false (.var 1) .nil)) (.int 1))) .none (.int 0))))
 (.cons (.forS (.name 3) (.down (.blt .len (.cons false (.var 0) .nil)) (.neg (.int 1))) b_l_table_30_2)
 (.cons (.ret (.var 2))
 .nil)))⟩
def s_l_table_30 : List D → Res D := d_l_table_30.run
def d_is_low_element : Def := ⟨"", ["", "", "", "", "", ""], 5,
 (.cons (.set 5 (.ix (.ix (.var 2) (.var 3)) (.var 4)))
 (.cons (.ite (.or (.and (.cmp .lt (.var 3) (.blt .len (.cons false (.var 0) .nil))) (.cmp .gt (.var 5) (.bin .add (.ix (.ix (.var 2) (.bin .add (.var 3) (.int 1))) (.var 4)) (.int 1)))) (.and (.cmp .lt (.var 4) (.blt .len (.cons false (.var 1) .nil))) (.cmp .gt (.var 5) (.bin .add (.ix (.ix (.var 2) (.var 3)) (.bin .add (.var 4) (.int 1))) (.int 1)))))
 (.cons (.ret (.bl false))
 .nil)
 .nil)
 (.cons (.ite (.and (.cmp .lt (.var 3) (.blt .len (.cons false (.var 0) .nil))) (.cmp .lt (.var 4) (.blt .len (.cons false (.var 1) .nil))))
 (.cons (.ret (.cmp .le (.var 5) (.bin .add (.ix (.ix (.var 2) (.bin .add (.var 3) (.int 1))) (.bin .add (.var 4) (.int 1))) (.blt .int (.cons false (.cmp .ne (.ix (.var 0) (.var 3)) (.ix (.var 1) (.var 4))) .nil)))))
 .nil)
 .nil)
 (.cons (.ret (.or (.cmp .lt (.var 3) (.blt .len (.cons false (.var 0) .nil))) (.or (.cmp .lt (.var 4) (.blt .len (.cons false (.var 1) .nil))) (.cmp .le (.var 5) (.int 0)))))
 .nil))))⟩
def s_is_low_element : List D → Res D := d_is_low_element.run
def b_is_low_1 : CSs :=
 (.cons (.ite (.not (.call "is_low_element" s_is_low_element .sc (.cons false (.var 0) (.cons false (.var 1) (.cons false (.var 2) (.cons false (.var 3) (.cons false (.var 4) .nil)))))))
 (.cons (.ret (.bl false))
 .nil)
 .nil)
 (.cons (.kill 4)
 .nil))
theorem B_is_low_1 {env : Env} : evSs b_is_low_1 env = evSs ((.cons (.ite (.not (.call "is_low_element" s_is_low_element .sc (.cons false (.var 0) (.cons false (.var 1) (.cons false (.var 2) (.cons false (.var 3) (.cons false (.var 4) .nil)))))))
 (.cons (.ret (.bl false))
 .nil)
 .nil)
 (.cons (.kill 4)
 .nil))) env := rfl
def b_is_low_2 : CSs :=
 (.cons (.forS (.name 4) (.rng1 (.bin .add (.blt .len (.cons false (.var 1) .nil)) (.int 1))) b_is_low_1)
 (.cons (.kill 3)
 .nil))
theorem B_is_low_2 {env : Env} : evSs b_is_low_2 env = evSs ((.cons (.forS (.name 4) (.rng1 (.bin .add (.blt .len (.cons false (.var 1) .nil)) (.int 1))) b_is_low_1)
 (.cons (.kill 3)
 .nil))) env := rfl
def d_is_low : Def := ⟨"", ["", "", "", "", "", ""], 3,
 (.cons (.ite (.or (.cmp .ne (.blt .len (.cons false (.var 2) .nil)) (.bin .add (.blt .len (.cons false (.var 0) .nil)) (.int 1))) (.not (.blt .all (.cons false (.lc (.name 5) (.over (.var 2)) .none (.cmp .eq (.blt .len (.cons false (.var 5) .nil)) (.bin .add (.blt .len (.cons false (.var 1) .nil)) (.int 1)))) .nil))))
 (.cons (.ret (.bl false))
 .nil)
 .nil)
 (.cons (.forS (.name 3) (.rng1 (.bin .add (.blt .len (.cons false (.var 0) .nil)) (.int 1))) b_is_low_2)
 (.cons (.ret (.bl true))
 .nil)))⟩
def s_is_low : List D → Res D := d_is_low.run
end SH.C
end
section
set_option Elab.async false
set_option linter.all false
set_option autoImplicit false
set_option maxRecDepth 10000
/-! Plain law: the evaluator's steps as equations. -/
namespace SH
open PySem

theorem get0 (x : Option D) (e : Env) : getV (x :: e) 0 = match x with
  | some d => .ok d
  | none => .bad := by cases x <;> rfl
theorem getS (x : Option D) (e : Env) (i : Nat) : getV (x :: e) (i + 1) = getV e i := by
  unfold getV
  rw [List.getElem?_cons_succ]
theorem asB_bl (b : Bool) : asB (.bl b) = .ok b := rfl
theorem blR_ok_p (b : Bool) : blR (.ok b) = .ok (.bl b) := rfl
theorem asSc_int (i : Int) : asSc (.int i) = .ok (.int i) := rfl
theorem asSc_bl (i : Bool) : asSc (.bl i) = .ok (.bl i) := rfl
theorem asSc_str (i : List Char) : asSc (.str i) = .ok (.str i) := rfl
theorem asSc_non : asSc .non = .ok .non := rfl
theorem lim_is : lim = 16777216 := rfl
theorem if_lim {α : Type} {n : Nat} {a b : α} (h : n ≤ lim) : (if n ≤ lim then a else b) = a := if_pos h
/-! ### numbers -/
theorem o_add (a b : Int) : opD .add (.int a) (.int b) = .ok (.int (a + b)) := rfl
theorem o_sub (a b : Int) : opD .sub (.int a) (.int b) = .ok (.int (a - b)) := rfl
theorem o_mul {a b : Int} (h : -(2 ^ 64) < b ∧ b < 2 ^ 64) : opD .mul (.int a) (.int b) = .ok (.int (a * b)) := if_pos (.inr h)
theorem o_mul' {a b : Int} (h : -(2 ^ 64) < a ∧ a < 2 ^ 64) : opD .mul (.int a) (.int b) = .ok (.int (a * b)) := if_pos (.inl h)
theorem o_fdiv {a b : Int} (h : 0 < b ∧ b < 1073741824) : opD .fdiv (.int a) (.int b) = .ok (.int (a / b)) := if_pos h
theorem o_mod {a b : Int} (h : 0 < b) : opD .mod (.int a) (.int b) = .ok (.int (a % b)) := if_pos h
theorem o_pow {a b : Int} (h : 0 ≤ b ∧ b ≤ 1000000 ∧ a.natAbs < 2 ^ 64) : opD .pow (.int a) (.int b) = .ok (.int (a ^ b.toNat)) := if_pos h
theorem o_pow18 : opD .pow (.int 10) (.int 18) = .ok (.int 1000000000000000000) := by
  rw [o_pow (by decide)]
  congr 2
theorem o_cat {a b : List Char} (h : a.length + b.length ≤ lim) : opD .add (.str a) (.str b) = .ok (.str (a ++ b)) := if_pos h
theorem o_app {a b : List D} (h : a.length + b.length ≤ lim) : opD .add (.lst a) (.lst b) = .ok (.lst (a ++ b)) := if_pos ⟨by omega, by omega, h⟩
theorem oI_add (a b : Int) : opI .add (.int a) (.int b) = .ok (.int (a + b)) := rfl
theorem oI_sub (a b : Int) : opI .sub (.int a) (.int b) = .ok (.int (a - b)) := rfl
/-! ### comparisons -/
theorem c_lt (a b : Int) : cmpD .lt (.int a) (.int b) = .ok (decide (a < b)) := rfl
theorem c_le (a b : Int) : cmpD .le (.int a) (.int b) = .ok (decide (a ≤ b)) := rfl
theorem c_gt (a b : Int) : cmpD .gt (.int a) (.int b) = .ok (decide (b < a)) := rfl
theorem c_ge (a b : Int) : cmpD .ge (.int a) (.int b) = .ok (decide (b ≤ a)) := rfl
theorem c_ltS (a b : List Char) : cmpD .lt (.str a) (.str b) = .ok (ltS a b) := rfl
theorem c_leS (a b : List Char) : cmpD .le (.str a) (.str b) = .ok (!ltS b a) := rfl
theorem c_eq (a b : Int) : cmpD .eq (.int a) (.int b) = .ok (decide (a = b)) := cmp_eq (f := D.int) a b
theorem c_eqS (a b : List Char) : cmpD .eq (.str a) (.str b) = .ok (decide (a = b)) := cmp_eq (f := D.str) a b
theorem c_eqB (a b : Bool) : cmpD .eq (.bl a) (.bl b) = .ok (decide (a = b)) := cmp_eq (f := D.bl) a b
theorem c_ne (a b : Int) : cmpD .ne (.int a) (.int b) = .ok (!decide (a = b)) := cmp_ne (f := D.int) a b
theorem c_neS (a b : List Char) : cmpD .ne (.str a) (.str b) = .ok (!decide (a = b)) := cmp_ne (f := D.str) a b
theorem c_neB (a b : Bool) : cmpD .ne (.bl a) (.bl b) = .ok (!decide (a = b)) := cmp_ne (f := D.bl) a b
/-- == of what is written out -/
theorem c_eqX {a b : D} (h1 : dp 8 a = true) (h2 : dp 8 b = true) : cmpD .eq a b = .ok (deq a b) := by
  show eqD a b = _
  unfold eqD
  rw [h1, h2]; rfl
theorem c_neX {a b : D} (h1 : dp 8 a = true) (h2 : dp 8 b = true) : cmpD .ne a b = .ok (!deq a b) := by
  show notR (eqD a b) = _
  unfold eqD
  rw [h1, h2]; rfl
theorem dp_non (n : Nat) : dp n .non = true := by cases n <;> rfl
theorem dp_int (n : Nat) (i : Int) : dp n (.int i) = true := by cases n <;> rfl
theorem dp_str (n : Nat) (i : List Char) : dp n (.str i) = true := by cases n <;> rfl
theorem dp_bl (n : Nat) (i : Bool) : dp n (.bl i) = true := by cases n <;> rfl
theorem c_isN_non : cmpD .isN .non .non = .ok true := rfl
theorem c_isN_int (a : Int) : cmpD .isN (.int a) .non = .ok false := rfl
theorem c_isN_str (a : List Char) : cmpD .isN (.str a) .non = .ok false := rfl
theorem c_isN_tup (a : List D) : cmpD .isN (.tup a) .non = .ok false := rfl
theorem c_isN_lst (a : List D) : cmpD .isN (.lst a) .non = .ok false := rfl
theorem c_notN_non : cmpD .notN .non .non = .ok false := rfl
theorem c_notN_int (a : Int) : cmpD .notN (.int a) .non = .ok true := rfl
theorem c_notN_str (a : List Char) : cmpD .notN (.str a) .non = .ok true := rfl
theorem c_notN_tup (a : List D) : cmpD .notN (.tup a) .non = .ok true := rfl
theorem c_notN_lst (a : List D) : cmpD .notN (.lst a) .non = .ok true := rfl
theorem c_isB (a b : Bool) : cmpD .isB (.bl a) (.bl b) = .ok (a == b) := rfl
theorem c_notB (a b : Bool) : cmpD .notB (.bl a) (.bl b) = .ok (a != b) := rfl
theorem c_inS (a b : List Char) : cmpD .inn (.str a) (.str b) = .ok (subS b a) := rfl
theorem c_ninS (a b : List Char) : cmpD .nin (.str a) (.str b) = .ok (!subS b a) := rfl
/-! ### built-ins -/
theorem b_lenL (ds : List D) : bltD .len [.lst ds] = .ok (.int ds.length) := rfl
theorem b_lenR (ds : List Int) : bltD .len [.ro ds] = .ok (.int ds.length) := rfl
theorem b_lenT (ds : List D) : bltD .len [.tup ds] = .ok (.int ds.length) := rfl
theorem b_lenS {s : List Char} (h : s.length ≤ lim) : bltD .len [.str s] = .ok (.int s.length) := if_pos h
theorem b_lenD (ds : List (Ky × D)) : bltD .len [.dK ds] = .ok (.int ds.length) := rfl
theorem b_abs (i : Int) : bltD .abs [.int i] = .ok (.int i.natAbs) := by
  show Res.ok (D.int (if i < 0 then -i else i)) = _
  congr 2
  split <;> omega
theorem b_int (i : Int) : bltD .int [.int i] = .ok (.int i) := rfl
theorem b_intB (i : Bool) : bltD .int [.bl i] = .ok (.int (if i then 1 else 0)) := rfl
theorem b_min (a b : Int) : bltD .min [.int a, .int b] = .ok (.int (min a b)) := by
  show Res.ok (D.int (if b < a then b else a)) = _
  congr 2
  split <;> omega
theorem b_max (a b : Int) : bltD .max [.int a, .int b] = .ok (.int (max a b)) := by
  show Res.ok (D.int (if a < b then b else a)) = _
  congr 2
  split <;> omega
theorem b_min3 (a b c : Int) : bltD .min [.int a, .int b, .int c] = .ok (.int (min (min a b) c)) := by
  show Res.ok (D.int (leastI a [b, c])) = _
  congr 2
  simp only [leastI]
  split <;> split <;> omega
theorem b_ord (c : Char) : bltD .ord [.str [c]] = .ok (.int c.toNat) := rfl
theorem b_list (ds : List D) : bltD .list [.lst ds] = .ok (.lst ds) := rfl
theorem b_listT (ds : List D) : bltD .list [.tup ds] = .ok (.lst ds) := rfl
theorem b_tuple (ds : List D) : bltD .tuple [.lst ds] = .ok (.tup ds) := rfl
theorem b_sorted {α : Type} {f : α → D} [Oe f] {xs : List α} (hl : xs.length ≤ lim) : bltD .sorted [.lst (xs.map f)] = .ok (.lst ((sortE f xs).map f)) := by
  show (sortD (xs.map f) >>= fun r => Res.ok (D.lst r)) = _
  rw [sortD_f xs hl]; rfl
theorem intsD_map : ∀ xs : List Int, intsD (xs.map D.int) = some xs
  | [] => rfl
  | x :: xs => by rw [List.map_cons, intsD, intsD_map xs]; rfl
theorem blsD_map : ∀ xs : List Bool, blsD (xs.map D.bl) = some xs
  | [] => rfl
  | x :: xs => by rw [List.map_cons, blsD, blsD_map xs]; rfl
theorem strsD_map : ∀ xs : List (List Char), strsD (xs.map D.str) = some xs
  | [] => rfl
  | x :: xs => by rw [List.map_cons, strsD, strsD_map xs]; rfl
theorem b_sum (xs : List Int) : bltD .sum [.lst (xs.map D.int)] = .ok (.int xs.sum) := by
  show (match intsD (xs.map D.int) with
    | some is => Res.ok (D.int is.sum)
    | none => .bad) = _
  rw [intsD_map]
theorem b_all (xs : List Bool) : bltD .all [.lst (xs.map D.bl)] = .ok (.bl (xs.all id)) := by
  show (match blsD (xs.map D.bl) with
    | some is => Res.ok (D.bl (is.all id))
    | none => .bad) = _
  rw [blsD_map]
theorem b_minL (x : Int) (xs : List Int) : bltD .min [.lst ((x :: xs).map D.int)] = .ok (.int (leastI x xs)) := by
  show (match intsD ((x :: xs).map D.int) with
    | some (i :: is) => Res.ok (D.int (leastI i is))
    | _ => .bad) = _
  rw [intsD_map]
theorem b_maxL (x : Int) (xs : List Int) : bltD .max [.lst ((x :: xs).map D.int)] = .ok (.int (mostI x xs)) := by
  show (match intsD ((x :: xs).map D.int) with
    | some (i :: is) => Res.ok (D.int (mostI i is))
    | _ => .bad) = _
  rw [intsD_map]
theorem joinS_nil : ∀ ws : List (List Char), joinS [] ws = ws.flatten
  | [] => rfl
  | [x] => by simp [joinS]
  | x :: y :: r => by rw [joinS, joinS_nil (y :: r)]; simp
theorem m_join {ws : List (List Char)} (h : (ws.map List.length).sum ≤ lim) : mthD .join (.str []) [.lst (ws.map D.str)] = .ok (.str ws.flatten) := by
  show (match strsD (ws.map D.str) with
    | some ws => if (ws.map List.length).sum + ws.length * ([] : List Char).length ≤ lim then Res.ok (D.str (joinS [] ws)) else .bad
    | none => .bad) = _
  rw [strsD_map]
  show (if (ws.map List.length).sum + ws.length * ([] : List Char).length ≤ lim then Res.ok (D.str (joinS [] ws)) else .bad) = _
  rw [if_pos (by simpa using h), joinS_nil]
theorem r_join (s : List Char) : rcvD .join (.str s) = true := rfl
theorem r_getK (s : List (Ky × D)) : rcvD .get (.dK s) = true := rfl
theorem r_getT (s : List (List Ky × D)) : rcvD .get (.dT s) = true := rfl
/-! ### slices, walks -/
theorem intO_n : intO none = .ok none := rfl
theorem intO_i (i : Int) : intO (some (.int i)) = .ok (some i) := rfl
theorem sl_lst (ds : List D) (l h : Option Int) : slD (.lst ds) l h = .ok (.lst (cut ds l h)) := rfl
theorem sl_str {s : List Char} {l h : Option Int} (q : s.length ≤ lim) : slD (.str s) l h = .ok (.str (cut s l h)) := if_pos q
theorem it_lst_p (ds : List D) : itemsD (.lst ds) = .ok ds := rfl
theorem it_tup_p (ds : List D) : itemsD (.tup ds) = .ok ds := rfl
theorem it_str_p (s : List Char) : itemsD (.str s) = .ok (s.map fun c => .str [c]) := rfl
theorem st_lst (ds : List D) : starD (.lst ds) = .ok ds := rfl
theorem cut_len {α : Type} (xs : List α) (l h : Option Int) : (cut xs l h).length ≤ xs.length := by
  unfold cut
  rw [List.length_drop, List.length_take]; omega
/-! ### changes -/
theorem lstOk_l (ds : List D) : lstOk (.lst ds) = .ok () := rfl
theorem upd_nil (f : D → Res D) (d : D) : updAt f [] d = f d := by rw [updAt]
theorem m_append {xs : List D} {d : D} (h : xs.length < lim) : mutD .append [d] (.lst xs) = .ok (.lst (xs ++ [d])) := if_pos h
theorem m_extend {xs ys : List D} (h : xs.length + ys.length ≤ lim) : mutD .extend [.lst ys] (.lst xs) = .ok (.lst (xs ++ ys)) := if_pos h
theorem m_insert {xs : List D} {d : D} {i : Int} (h : xs.length < lim) (h0 : 0 ≤ i ∧ i < 2 ^ 63) : mutD .insert [.int i, d] (.lst xs) = .ok (.lst (xs.take i.toNat ++ [d] ++ xs.drop i.toNat)) := if_pos ⟨h, h0⟩
theorem m_pop {xs : List D} {d : D} : mutD .pop [] (.lst (xs ++ [d])) = .ok (.lst xs) := by
  show (if (xs ++ [d]).isEmpty then _ else _) = _
  rw [if_neg (by simp), List.dropLast_concat]
theorem b_listK (kvs : List (Ky × D)) : bltD .list [.dK kvs] = .ok (.lst (kvs.map fun p => kd p.1)) := rfl
theorem r_index (s : List D) : rcvD .index (.lst s) = true := rfl
theorem rng_ok {i : Int} (h : -(2 ^ 62) ≤ i ∧ i < 2 ^ 62) : okR i = true := decide_eq_true h
theorem bindT_name (i : Nat) (d : D) (e : Env) : bindT (.name i) d e = .ok (e.set i (some d)) := rfl
theorem bindT_tup (is : List Nat) (ds : List D) (e : Env) : bindT (.tup is) (.tup ds) e = bindIs e is ds := rfl
theorem bindIs_nil (e : Env) : bindIs e [] [] = .ok e := rfl
theorem bindIs_cons (e : Env) (i : Nat) (is : List Nat) (d : D) (ds : List D) : bindIs e (i :: is) (d :: ds) = bindIs (e.set i (some d)) is ds := rfl
end SH
namespace SH
open PySem
theorem place_int {v : Int} {n : Nat} (h0 : 0 ≤ v) (h : v < n) : place v n = some v.toNat := by
  unfold place
  rw [if_pos h0, if_pos h]
theorem ixI_lst {ds : List D} {v : Int} (h0 : 0 ≤ v) (h : v < ds.length) : ixD (.lst ds) (.int v) = .ok (ds[v.toNat]'(by omega)) := by
  unfold ixD
  simp only [place_int h0 h, List.getElem?_eq_getElem (show v.toNat < ds.length by omega)]
theorem ixI_map {α : Type} {f : α → D} {xs : List α} {v : Int} (h0 : 0 ≤ v) (h : v < xs.length) : ixD (.lst (xs.map f)) (.int v) = .ok (f (xs[v.toNat]'(by omega))) := by
  rw [ixI_lst h0 (by rw [List.length_map]; exact h)]; simp
theorem ixI_ro {ds : List Int} {v : Int} (h0 : 0 ≤ v) (h : v < ds.length) : ixD (.ro ds) (.int v) = .ok (.int (ds[v.toNat]'(by omega))) := by
  unfold ixD
  simp only [place_int h0 h, List.getElem?_eq_getElem (show v.toNat < ds.length by omega)]
theorem ixI_str {s : List Char} {v : Int} (hl : s.length ≤ lim) (h0 : 0 ≤ v) (h : v < s.length) : ixD (.str s) (.int v) = .ok (.str [s[v.toNat]'(by omega)]) := by
  unfold ixD
  simp only [place_int h0 h, List.getElem?_eq_getElem (show v.toNat < s.length by omega), if_pos hl]
theorem ix_t0 (a : D) (r : List D) : ixD (.tup (a :: r)) (.int 0) = .ok a := by
  unfold ixD place
  simp only [show (0 : Int) ≤ 0 from Int.le_refl 0, ↓reduceIte, if_pos (show (0 : Int) < ((a :: r).length : Int) by simp only [List.length_cons]; omega)]
  rfl
theorem ix_t1 (a b : D) (r : List D) : ixD (.tup (a :: b :: r)) (.int 1) = .ok b := by
  unfold ixD place
  simp only [show (0 : Int) ≤ 1 from by decide, ↓reduceIte, if_pos (show (1 : Int) < ((a :: b :: r).length : Int) by simp only [List.length_cons]; omega)]
  rfl
theorem ix_t2 (a b c : D) (r : List D) : ixD (.tup (a :: b :: c :: r)) (.int 2) = .ok c := by
  unfold ixD place
  simp only [show (0 : Int) ≤ 2 from by decide, ↓reduceIte, if_pos (show (2 : Int) < ((a :: b :: c :: r).length : Int) by simp only [List.length_cons]; omega)]
  rfl
theorem ix_last {ds : List D} {d : D} : ixD (.lst (ds ++ [d])) (.int (-1)) = .ok d := by
  unfold ixD place
  have h1 : ¬ (0 : Int) ≤ -1 := by decide
  have h2 : -((ds ++ [d]).length : Int) ≤ -1 := by simp only [List.length_append, List.length_cons, List.length_nil]; omega
  have h3 : (-1 + ((ds ++ [d]).length : Int)).toNat = ds.length := by simp only [List.length_append, List.length_cons, List.length_nil]; omega
  simp only [h1, ↓reduceIte, if_pos h2, h3, List.getElem?_append_right (Nat.le_refl _), Nat.sub_self, List.getElem?_cons_zero]
end SH
namespace SH
open PySem
theorem lc_rng {f : D → Res (Option D)} {lo : Int} {n : Nat} (g : Nat → D) (h : ∀ i, i < n → f (.int (lo + i)) = .ok (some (g i))) (hn : n ≤ lim) : lcLoop f (rngD lo n) [] = .ok ((List.range n).map g) := by
  unfold rngD
  exact lc_map g (List.range n) (fun i hi => h i (List.mem_range.mp hi)) (by simpa using hn)
theorem lc_rngIf {f : D → Res (Option D)} {lo : Int} {n : Nat} (p : Nat → Bool) (g : Nat → D) (h : ∀ i, i < n → f (.int (lo + i)) = .ok (if p i then some (g i) else none)) (hn : n ≤ lim) : lcLoop f (rngD lo n) [] = .ok (((List.range n).filter p).map g) := by
  unfold rngD
  exact lc_if p g (List.range n) (fun i hi => h i (List.mem_range.mp hi)) (by simpa using hn)
theorem flat1 {α β : Type} (c : α → β) : ∀ xs : List α, (xs.map fun i => [c i]).flatten = xs.map c
  | [] => rfl
  | x :: xs => by simp [flat1 c xs]
theorem m_join1 {α : Type} (c : α → Char) (xs : List α) (h : xs.length ≤ lim) : mthD .join (.str []) [.lst (xs.map fun i => D.str [c i])] = .ok (.str (xs.map c)) := by
  have e : (xs.map fun i => D.str [c i]) = (xs.map fun i => [c i]).map D.str := by simp
  rw [e, m_join, flat1]
  have : ((xs.map fun i => [c i]).map List.length).sum = xs.length := by
    clear e h
    induction xs with
    | nil => rfl
    | cons x xs ih => simp only [List.map_cons, List.sum_cons, ih, List.length_cons, List.length_nil]; omega
  rw [this]; exact h
theorem clip_nat (n k : Nat) : clip n (k : Int) = min k n := by
  unfold clip
  rw [if_pos (by omega), Int.toNat_natCast]
theorem cut_no {α : Type} (xs : List α) (n : Nat) : cut xs none (some (n : Int)) = xs.take n := by
  show List.drop 0 (List.take (clip xs.length n) xs) = _
  rw [clip_nat, List.drop_zero]
  rcases Nat.le_total n xs.length with h | h
  · rw [Nat.min_eq_left h]
  · rw [Nat.min_eq_right h, List.take_of_length_le (Nat.le_refl _), List.take_of_length_le h]
theorem cut_on {α : Type} (xs : List α) (n : Nat) : cut xs (some (n : Int)) none = xs.drop n := by
  show List.drop (clip xs.length n) (List.take xs.length xs) = _
  rw [clip_nat, List.take_length]
  rcases Nat.le_total n xs.length with h | h
  · rw [Nat.min_eq_left h]
  · rw [Nat.min_eq_right h, List.drop_of_length_le (Nat.le_refl _), List.drop_of_length_le h]
theorem cut_nn {α : Type} (xs : List α) (n m : Nat) : cut xs (some (n : Int)) (some (m : Int)) = (xs.take m).drop n := by
  show List.drop (clip xs.length n) (List.take (clip xs.length m) xs) = _
  rw [clip_nat, clip_nat]
  have e : xs.take (min m xs.length) = xs.take m := by
    rcases Nat.le_total m xs.length with h | h
    · rw [Nat.min_eq_left h]
    · rw [Nat.min_eq_right h, List.take_of_length_le (Nat.le_refl _), List.take_of_length_le h]
  rw [e]
  rcases Nat.le_total n xs.length with h | h
  · rw [Nat.min_eq_left h]
  · rw [Nat.min_eq_right h, List.drop_of_length_le (by simp; omega), List.drop_of_length_le (by simp; omega)]
end SH
namespace SH
open PySem
/-! ### try -/
def Fl.tr (r : Fl) (cs : List Nat) (hs : CHs) : Fl := match r with
  | .exc c n env' => if cs.contains c then evH hs c n env' else .bad
  | r => r
theorem S_try {cs : List Nat} {b : CSs} {hs : CHs} {env : Env} : evS (.tryS cs b hs) env = (evSs b env).tr cs hs := by first | rfl | (rw [evS]; rfl)
theorem tr_rt (d : D) (cs : List Nat) (hs : CHs) : (Fl.rt d).tr cs hs = .rt d := rfl
theorem tr_nx (d : Env) (cs : List Nat) (hs : CHs) : (Fl.nx d).tr cs hs = .nx d := rfl
theorem tr_exc {c : Nat} {n : Int} {e : Env} {cs : List Nat} {hs : CHs} (h : cs.contains c = true) : (Fl.exc c n e).tr cs hs = evH hs c n e := if_pos h
theorem evH_nil (c : Nat) (n : Int) (e : Env) : evH .nil c n e = .exc c n e := by rw [evH]
theorem evH_hit {k : Nat} {i : Nat} {b : HB} {hs : CHs} {c : Nat} {n : Int} {e : Env} (h : (k == 0 || k == c) = true) : evH (.cons k (some i) b hs) c n e = (evHB b (e.set i (some (.exo n)))).seq (CSs.cons (.kill i) .nil) := by
  have h : k = 0 ∨ k = c := by simpa using h
  rw [evH, if_pos h]
  show (match evHB b (e.set i (some (.exo n))) with
        | Fl.nx e => Fl.nx (e.set i none)
        | r => r) = _
  cases evHB b (e.set i (some (.exo n))) with
  | nx e => rw [seq_nx, evSs_cons, S_kill, seq_nx, evSs_nil]
  | _ => rfl
theorem evH_hit0 {k : Nat} {b : HB} {hs : CHs} {c : Nat} {n : Int} {e : Env} (h : (k == 0 || k == c) = true) : evH (.cons k none b hs) c n e = evHB b e := by
  have h : k = 0 ∨ k = c := by simpa using h
  rw [evH, if_pos h]
theorem evH_miss {k : Nat} {i : Option Nat} {b : HB} {hs : CHs} {c : Nat} {n : Int} {e : Env} (h : (k == 0 || k == c) = false) : evH (.cons k i b hs) c n e = evH hs c n e := by
  have h : ¬ (k = 0 ∨ k = c) := by simpa using h
  cases i <;> rw [evH, if_neg h]
def Res.hr (r : Res D) : Fl := match r with
  | .ok d => .rt d
  | _ => .bad
theorem hr_ok (d : D) : (Res.ok d).hr = .rt d := rfl
theorem evHB_ret {e : CE} {env : Env} : evHB (.ret e) env = (evE e env).hr := by rw [evHB]; rfl
def Res.hc (r : Res Bool) (e : CE) (env : Env) : Fl := match r with
  | .ok true => (evE e env).hr
  | .ok false => .nx env
  | _ => .bad
theorem hc_t (e : CE) (env : Env) : (Res.ok true).hc e env = (evE e env).hr := rfl
theorem hc_f (e : CE) (env : Env) : (Res.ok false).hc e env = .nx env := rfl
theorem evHB_chk {c e : CE} {env : Env} : evHB (.chk c e) env = (evE c env >>= asB).hc e env := by rw [evHB]; rfl
theorem getV_exo : ∀ (n : Int), (match D.exo n with
    | .exo n => Res.ok (D.int n)
    | _ => .bad) = Res.ok (D.int n) := fun _ => rfl
theorem ty_t (t : Ty) : (t == t) = true := by cases t <;> rfl
theorem ty_int_bool : (Ty.int == Ty.bool) = false := rfl
theorem ty_int_list : (Ty.int == Ty.list) = false := rfl
theorem ty_int_tuple : (Ty.int == Ty.tuple) = false := rfl
theorem ty_int_str : (Ty.int == Ty.str) = false := rfl
theorem ty_int_dict : (Ty.int == Ty.dict) = false := rfl
theorem ty_bool_int : (Ty.bool == Ty.int) = false := rfl
theorem ty_bool_list : (Ty.bool == Ty.list) = false := rfl
theorem ty_bool_tuple : (Ty.bool == Ty.tuple) = false := rfl
theorem ty_bool_str : (Ty.bool == Ty.str) = false := rfl
theorem ty_bool_dict : (Ty.bool == Ty.dict) = false := rfl
theorem ty_list_int : (Ty.list == Ty.int) = false := rfl
theorem ty_list_bool : (Ty.list == Ty.bool) = false := rfl
theorem ty_list_tuple : (Ty.list == Ty.tuple) = false := rfl
theorem ty_list_str : (Ty.list == Ty.str) = false := rfl
theorem ty_list_dict : (Ty.list == Ty.dict) = false := rfl
theorem ty_tuple_int : (Ty.tuple == Ty.int) = false := rfl
theorem ty_tuple_bool : (Ty.tuple == Ty.bool) = false := rfl
theorem ty_tuple_list : (Ty.tuple == Ty.list) = false := rfl
theorem ty_tuple_str : (Ty.tuple == Ty.str) = false := rfl
theorem ty_tuple_dict : (Ty.tuple == Ty.dict) = false := rfl
theorem ty_str_int : (Ty.str == Ty.int) = false := rfl
theorem ty_str_bool : (Ty.str == Ty.bool) = false := rfl
theorem ty_str_list : (Ty.str == Ty.list) = false := rfl
theorem ty_str_tuple : (Ty.str == Ty.tuple) = false := rfl
theorem ty_str_dict : (Ty.str == Ty.dict) = false := rfl
theorem ty_dict_int : (Ty.dict == Ty.int) = false := rfl
theorem ty_dict_bool : (Ty.dict == Ty.bool) = false := rfl
theorem ty_dict_list : (Ty.dict == Ty.list) = false := rfl
theorem ty_dict_tuple : (Ty.dict == Ty.tuple) = false := rfl
theorem ty_dict_str : (Ty.dict == Ty.str) = false := rfl
theorem i_isi (i : Int) : isiD (.int i) .int = some true := rfl
theorem i_isb (i : Int) : isiD (.int i) .bool = some false := rfl
theorem b_isi (i : Bool) : isiD (.bl i) .int = some true := rfl
theorem b_isb (i : Bool) : isiD (.bl i) .bool = some true := rfl
theorem l_isl (i : List D) : isiD (.lst i) .list = some true := rfl
theorem t_ist (i : List D) : isiD (.tup i) .tuple = some true := rfl
theorem s_iss (i : List Char) : isiD (.str i) .str = some true := rfl
theorem d_isd (i : List (Ky × D)) : isiD (.dK i) .dict = some true := rfl
theorem n_is (t : Ty) : isiD .non t = some false := by cases t <;> rfl
end SH
end
open SH PySem
set_option maxRecDepth 100000
local macro_rules | `(tactic| simp_arith [$xs,*]) => `(tactic| simp -implicitDefEqProofs (disch := first | (refine (?_ : @Eq Bool _ _); first | assumption | decide | simp only [dp, List.all_cons, List.all_nil, Bool.and_self, Bool.and_true, dp_int, dp_str, dp_bl, dp_non]) | omega | (simp only [lim_is]; omega) | (simp only [lim_is, List.length_cons, List.length_nil, List.length_append, List.length_map]; omega)) only [↓evSs_cons, ↓evSs_nil, ↓S_try, K_tup_ok, K_tup_x, K_lst_ok, K_lst_x, K_neg_ok, K_neg_x, K_not_ok, K_not_x, K_b2_ok, K_b2_x, K_b1_ok, K_b1_x, K_c2_ok, K_c2_x, K_c1_ok, K_c1_x, K_h3_ok, K_h2_ok, K_h1_ok, K_and_ok, K_and_x, K_or_ok, K_or_x, K_ite_ok, K_ite_x, K_i2_ok, K_i2_x, K_i1_ok, K_i1_x, K_s3_n, K_s3_ok, K_s3_x, K_s2_n, K_s2_ok, K_s2_x, K_s1_ok, K_s1_x, K_call_ok, K_call_x, K_blt_ok, K_blt_x, K_m2_ok, K_m2_x, K_m1_ok, K_m1_x, K_isi_int, K_isi_bl, K_isi_str, K_isi_lst, K_isi_tup, K_isi_non, K_isi_dK, K_isi_x, K_l2_ok, K_l2_x, K_lc_ok, K_lc_x, K_sc_ok, K_sc_x, K_tru_ok, K_tru_x, K_at_ok, K_at_x, K_n4_ok, K_n3_ok, K_n2_ok, K_n0_ok, K_n1_ok, K_lr2_ok, K_lr1_ok, K_lr1_x, K_lset_ok, K_lset_x, K_ks_ok, K_ks_x, ↓E_var, ↓E_int, ↓E_str, ↓E_bl, ↓E_non, ↓E_gi, ↓E_gs, ↓E_tup, ↓E_lst, ↓E_dK, ↓E_dT, ↓E_neg, ↓E_not, ↓E_bin, ↓E_cmp, ↓E_chain, ↓E_and, ↓E_or, ↓E_ite, ↓E_ix, ↓E_sl, ↓E_call, ↓E_blt, ↓E_mth, ↓E_isi, ↓E_lc, ↓E_sc, ↓E_tru, ↓E_at, ↓E_shr, ↓E_lrng, ↓E_lset, ↓E_lck, ↓E_chn, K_e2_ok, K_e2_x, K_e1_ok, K_e1_x, K_t3_ok, K_t3_x, K_t2_ok, K_t2_x, K_t1_ok, K_t1_x, K_o_ok, K_o_x, ↓Es_nil, ↓Es_cf, ↓Es_ct, ↓O_none, ↓O_some, K_it_ok, K_it_x, K_ky_ok, K_ky_x, K_r1_ok, K_r1_x, K_r3_ok, K_r2_ok, K_r2_x, K_d3_ok, K_d2_ok, K_d2_x, ↓Sr_over, ↓Sr_rng1, ↓Sr_rng2, ↓Sr_down, ↓Sr_keys, K_g2_ok, K_g2_x, K_g1_ok, K_g1_x, K_g4_ok, K_g4_x, K_g3_ok, K_g3_x, K_p1_ok, K_p1_x, K_p4_ok, K_p3_ok, K_p3_x, K_p2_ok, K_p2_x, ↓P_var, ↓P_ix, T_set_ok, T_set_x, T_b_ok, T_b_x, T_unp_ok, T_unp_x, T_par2_ok, T_par2_x, T_par_ok, T_par_x, T_aug2_ok, T_aug2_x, T_aug_ok, T_aug_x, T_m4_ok, T_m4_x, T_m3_ok, T_m3_x, T_m2_ok, T_m1_ok, T_m1_x, T_p3_ok, T_p3_x, T_p2_ok, T_p2_x, T_p1_ok, T_p1_x, T_a3_ok, T_a3_x, T_a2_ok, T_a2_x, T_a1_ok, T_a1_x, T_a0_ok, T_cr_t, T_cr_f, T_lk_ok, T_lk_x, T_fc_ok, T_fc_x, T_c2_ok, T_c2_x, T_c1_ok, T_c1_x, T_drop_ok, T_drop_x, T_ite_ok, T_ite_x, T_for_ok, T_for_x, T_ret_ok, T_ret_x, T_rse_ok, ↓S_set, ↓S_setC, ↓S_unp, ↓S_drop, ↓S_ite, ↓S_for, ↓S_whl, ↓S_ret, ↓S_retN, ↓S_rse, ↓S_pass, ↓S_brk, ↓S_wk, ↓S_kill, ↓S_forC, ↓S_par, ↓S_aug, ↓S_mut, ↓S_put, ↓S_forK, ↓S_cns, ↓S_sda, L_f1_ok, L_f2_nx, L_f2_bk, L_f2_rt, L_f2_exc, ty_t, ty_int_bool, ty_int_list, ty_int_tuple, ty_int_str, ty_int_dict, ty_bool_int, ty_bool_list, ty_bool_tuple, ty_bool_str, ty_bool_dict, ty_list_int, ty_list_bool, ty_list_tuple, ty_list_str, ty_list_dict, ty_tuple_int, ty_tuple_bool, ty_tuple_list, ty_tuple_str, ty_tuple_dict, ty_str_int, ty_str_bool, ty_str_list, ty_str_tuple, ty_str_dict, ty_dict_int, ty_dict_bool, ty_dict_list, ty_dict_tuple, ty_dict_str, Bool.or_false, Bool.false_or, Bool.and_true, br_t, br_f, cond_t, cond_f, cond_and, cond_or, cond_int, cond_str, cond_opt, tr_rt, tr_nx, tr_exc, evH_nil, evH_hit, evH_hit0, evH_miss, hr_ok, evHB_ret, evHB_chk, hc_t, hc_f, seq_nx, seq_rt, seq_bk, seq_exc, seq_bad, sat_nx, sat_rt, res_nx, res_rt, res_exc, get0, getS, asB_bl, blR_ok_p, asSc_int, asSc_bl, asSc_str, asSc_non, o_add, o_sub, oI_add, oI_sub, c_lt, c_le, c_gt, c_ge, c_ltS, c_leS, c_eq, c_eqS, c_eqB, c_ne, c_neS, c_neB, c_isN_non, c_isN_int, c_isN_str, c_isN_tup, c_isN_lst, c_notN_non, c_notN_int, c_notN_str, c_notN_tup, c_notN_lst, c_isB, c_notB, c_inS, c_ninS, b_lenL, b_lenR, b_lenT, b_lenD, b_abs, b_int, b_intB, b_min, b_max, b_min3, b_ord, b_list, b_listT, b_listK, b_tuple, b_sum, b_all, b_minL, b_maxL, r_join, r_getK, r_getT, r_index, sl_lst, it_lst_p, it_tup_p, it_str_p, st_lst, lstOk_l, upd_nil, bindT_name, bindT_tup, bindIs_nil, bindIs_cons, List.set_cons_zero, List.set_cons_succ, List.map_cons, List.map_nil, List.replicate_succ, List.replicate_zero, List.cons_append, List.nil_append, List.length_cons, List.length_nil, List.length_map, Nat.reduceAdd, Nat.reduceSub, ↓reduceIte, decide_true, decide_false, Bool.not_true, Bool.not_false, Bool.true_and, Bool.false_and, Bool.false_eq_true, not_true_eq_false, not_false_eq_true, if_lim, rng_ok, o_mul, o_mul', o_fdiv, o_mod, o_pow18, $xs,*])
section
set_option Elab.async false
set_option linter.all false
set_option autoImplicit false
set_option maxRecDepth 10000
/-! Plain law: what the laws draw. -/
namespace SH.C
open PySem SH
def Drawn (ds : List Int) : Prop := ds.length ≤ 4000 ∧ ∀ d ∈ ds, 0 ≤ d ∧ d < 65536
/-- the ints of a list grow by one -/
def Bd (n : Nat) (acc : List Int) : Prop := acc.length ≤ n ∧ ∀ d ∈ acc, 0 ≤ d ∧ d < 65536
theorem Bd.snoc {n m : Nat} {acc : List Int} {v : Int} (h : Bd n acc) (hv : 0 ≤ v ∧ v < 65536) (l : n + 1 ≤ m) : Bd m (acc ++ [v]) := by
  obtain ⟨h1, h2⟩ := h
  refine ⟨by simp; omega, fun d hd => ?_⟩
  rcases List.mem_append.mp hd with h | h
  · exact h2 d h
  · simp at h; rw [h]; exact hv
theorem Bd.le {n m : Nat} {acc : List Int} (h : Bd n acc) (l : n ≤ m) : Bd m acc := ⟨Nat.le_trans h.1 l, h.2⟩
theorem snoc_map {α : Type} (f : α → D) (acc : List α) (v : α) : acc.map f ++ [f v] = (acc ++ [v]).map f := by simp
theorem draws_ex (ns : List Int) (hns : ns.length ≤ 63) : ∃ ds, s_l_draws_00 [.ro ns] = .ok (.lst (ds.map D.int)) ∧ Drawn ds := by
  have key : ∃ r, s_l_draws_00 [.ro ns] = .ok r ∧ ∃ ds : List Int, r = .lst (ds.map D.int) ∧ Bd 3780 ds := by
    unfold s_l_draws_00
    refine run_sat rfl ?_
    simp_arith [ d_l_draws_00]
    refine sat_to (for_rng _ (fun i e => ∃ acc : List Int, e = [some (.ro ns), some (.lst (acc.map D.int)), none, none, none, none] ∧ Bd (60 * i) acc) ⟨[], rfl, by simp [Bd]⟩ (fun i hi e he => ?_) fun e he => he) fun e he => ?_
    · obtain ⟨acc, rfl, hb⟩ := he
      refine ⟨_, rfl, ?_⟩
      have hl := hb.1
      have hn : (i : Int) < ns.length := by omega
      by_cases hr : (1000000000000000000 : Int) ≤ ↑(ns[i]'(by omega)).natAbs
      · simp_arith [ ↓B_l_draws_00_2, ixI_ro, Int.zero_add, Int.toNat_natCast, hr]
        refine sat_seq (sat_seq (sat_imp (for_rng _ (fun j e => ∃ (acc : List Int) (r : Int), e = [some (.ro ns), some (.lst (acc.map D.int)), none, some (.int r), none, none] ∧ Bd (60 * i + j) acc) ⟨acc, _, rfl, hb⟩ (fun j hj e he => ?_) fun e he => he) (fun e he => ?_) fun _ z => z))
        · obtain ⟨acc, r, rfl, hb⟩ := he
          have hl := hb.1
          refine ⟨_, rfl, ?_⟩
          by_cases hr : 0 < r
          · simp_arith [ ↓B_l_draws_00_1, hr, m_append, snoc_map]
            exact ⟨_, _, rfl, hb.snoc (by omega) (by omega)⟩
          · simp_arith [ ↓B_l_draws_00_1, hr, snoc_map]
            exact ⟨_, _, rfl, hb.le (by omega)⟩
        · obtain ⟨acc, r, rfl, hb⟩ := he
          simp_arith []
          exact ⟨_, rfl, hb.le (by omega)⟩
      · simp_arith [ ↓B_l_draws_00_2, ixI_ro, Int.zero_add, Int.toNat_natCast, hr, m_append, snoc_map]
        exact ⟨_, rfl, (hb.snoc (m := 60 * i + 1) (by omega) (by omega)).snoc (by omega) (by omega)⟩
    · obtain ⟨acc, rfl, hb⟩ := he
      simp_arith []
      exact ⟨acc, rfl, hb.le (by omega)⟩
  obtain ⟨r, h1, ds, rfl, h2⟩ := key
  exact ⟨ds, h1, by unfold Drawn; exact ⟨by have := h2.1; omega, h2.2⟩⟩
/-! ### one drawn number -/
def rI (r : Res D) : Int := match r with
  | .ok (.int v) => v
  | _ => 0
def mixV (ds : List Int) (k many : Int) : Int := rI (s_l_mix_00 [.lst (ds.map D.int), .int k, .int many])
def atV (ds : List Int) (k many : Int) : Int := rI (s_l_at_00 [.lst (ds.map D.int), .int k, .int many])
theorem mix_ex {ds : List Int} (hd : Drawn ds) {k many : Int} (hk : 0 ≤ k) (hm : 0 < many) : ∃ v, s_l_mix_00 [.lst (ds.map D.int), .int k, .int many] = .ok (.int v) ∧ 0 ≤ v ∧ v < many := by
  have hl := hd.1
  have key : ∃ r, s_l_mix_00 [.lst (ds.map D.int), .int k, .int many] = .ok r ∧ ∃ v, r = .int v ∧ 0 ≤ v ∧ v < many := by
    unfold s_l_mix_00
    refine run_sat rfl ?_
    by_cases h0 : 0 < (ds.length : Int)
    · have hm0 : 0 ≤ k % (ds.length : Int) := Int.emod_nonneg _ (by omega)
      have hm1 : k % (ds.length : Int) < ds.length := Int.emod_lt_of_pos _ h0
      by_cases h1 : k < ds.length
      · simp_arith [ d_l_mix_00, h0, h1, ixI_map]
        exact ⟨_, rfl, Int.emod_nonneg _ (by omega), Int.emod_lt_of_pos _ hm⟩
      · simp_arith [ d_l_mix_00, h0, h1, ixI_map]
        exact ⟨_, rfl, Int.emod_nonneg _ (by omega), Int.emod_lt_of_pos _ hm⟩
    · by_cases h1 : k < ds.length
      · simp_arith [ d_l_mix_00, h0, h1, ixI_map]
        exact ⟨_, rfl, Int.emod_nonneg _ (by omega), Int.emod_lt_of_pos _ hm⟩
      · simp_arith [ d_l_mix_00, h0, h1, ixI_map]
        exact ⟨_, rfl, Int.emod_nonneg _ (by omega), Int.emod_lt_of_pos _ hm⟩
  obtain ⟨r, h1, v, rfl, h2⟩ := key
  exact ⟨v, h1, h2⟩
theorem mix_r {ds : List Int} (hd : Drawn ds) {k many : Int} (hk : 0 ≤ k) (hm : 0 < many) : s_l_mix_00 [.lst (ds.map D.int), .int k, .int many] = .ok (.int (mixV ds k many)) := by
  obtain ⟨v, h, _⟩ := mix_ex hd hk hm
  rw [mixV, h]; rfl
theorem mix_lo {ds : List Int} (hd : Drawn ds) {k many : Int} (hk : 0 ≤ k) (hm : 0 < many) : 0 ≤ mixV ds k many ∧ mixV ds k many < many := by
  obtain ⟨v, h, h2⟩ := mix_ex hd hk hm
  rw [mixV, h]; exact h2
theorem at_ex {ds : List Int} (hd : Drawn ds) {k many : Int} (hk : 0 ≤ k) (hm : 0 < many) : ∃ v, s_l_at_00 [.lst (ds.map D.int), .int k, .int many] = .ok (.int v) ∧ 0 ≤ v ∧ v < many := by
  have hl := hd.1
  have key : ∃ r, s_l_at_00 [.lst (ds.map D.int), .int k, .int many] = .ok r ∧ ∃ v, r = .int v ∧ 0 ≤ v ∧ v < many := by
    unfold s_l_at_00
    refine run_sat rfl ?_
    by_cases h1 : k < ds.length
    · simp_arith [ d_l_at_00, h1, ixI_map]
      exact ⟨_, rfl, Int.emod_nonneg _ (by omega), Int.emod_lt_of_pos _ hm⟩
    · simp_arith [ d_l_at_00, h1, ixI_map]
      exact ⟨_, rfl, by omega, by omega⟩
  obtain ⟨r, h1, v, rfl, h2⟩ := key
  exact ⟨v, h1, h2⟩
theorem at_r {ds : List Int} (hd : Drawn ds) {k many : Int} (hk : 0 ≤ k) (hm : 0 < many) : s_l_at_00 [.lst (ds.map D.int), .int k, .int many] = .ok (.int (atV ds k many)) := by
  obtain ⟨v, h, _⟩ := at_ex hd hk hm
  rw [atV, h]; rfl
theorem at_lo {ds : List Int} (hd : Drawn ds) {k many : Int} (hk : 0 ≤ k) (hm : 0 < many) : 0 ≤ atV ds k many ∧ atV ds k many < many := by
  obtain ⟨v, h, h2⟩ := at_ex hd hk hm
  rw [atV, h]; exact h2
end SH.C
end
section
set_option Elab.async false
set_option linter.all false
set_option autoImplicit false
set_option maxRecDepth 10000
/-! Plain law: texts and houses that the laws draw (k12 to k21). -/
namespace SH.C
open PySem SH
/-- a letter of a text -/
def Let (c : Char) : Prop := 32 ≤ c.toNat ∧ c.toNat ≤ 126 ∧ c.toNat ≠ 37
instance (c : Char) : Decidable (Let c) := by unfold Let; exact inferInstance
def TextOk (n : Nat) (t : List Char) : Prop := t.length ≤ n ∧ ∀ c ∈ t, Let c
theorem TextOk.le {n m : Nat} {t : List Char} (h : TextOk n t) (l : n ≤ m) : TextOk m t := ⟨Nat.le_trans h.1 l, h.2⟩
theorem TextOk.sub {n m : Nat} {t u : List Char} (h : TextOk n t) (l : u.length ≤ m) (s : ∀ c ∈ u, c ∈ t) : TextOk m u := ⟨l, fun c hc => h.2 c (s c hc)⟩
def menu12 : List (List Char) := [['a', 'b'], ['a', 'b'], ['a'], ['a', 'B', ' ', '~'], ['a', 'b', 'c']]
def MenuOk (w : List Char) : Prop := w.length ≤ 4 ∧ 0 < w.length ∧ ∀ c ∈ w, Let c
instance (w : List Char) : Decidable (MenuOk w) := by unfold MenuOk; exact inferInstance
theorem menu12_ok (i : Nat) (h : i < menu12.length) : MenuOk menu12[i] := by
  have key : ∀ w ∈ menu12, MenuOk w := by decide
  exact key _ (List.getElem_mem h)
theorem getD_mem {L : List Char} (h : 0 < L.length) (i : Nat) (hi : i < L.length) : L.getD i ' ' ∈ L := by
  rw [List.getD_eq_getElem?_getD, List.getElem?_eq_getElem hi]; exact List.getElem_mem hi
theorem text12_ex {ds : List Int} (hd : Drawn ds) {k : Int} (most : Nat) (hk : 0 ≤ k) (hm : most ≤ 1000) : ∃ t, s_l_text_12 [.lst (ds.map D.int), .int k, .int most] = .ok (.str t) ∧ TextOk most t := by
  have key : ∃ r, s_l_text_12 [.lst (ds.map D.int), .int k, .int most] = .ok r ∧ ∃ t, r = .str t ∧ TextOk most t := by
    unfold s_l_text_12
    refine run_sat rfl ?_
    have h1 := mix_lo hd hk (many := 5) (by omega)
    have h2 := mix_lo hd (k := k + 1) (many := most + 1) (by omega) (by omega)
    have hmenu : [D.str ['a', 'b'], D.str ['a', 'b'], D.str ['a'], D.str ['a', 'B', ' ', '~'], D.str ['a', 'b', 'c']] = menu12.map D.str := rfl
    have hml : menu12.length = 5 := rfl
    simp_arith [ d_l_text_12, mix_r hd, hmenu, ixI_map]
    have hL := menu12_ok (mixV ds k 5).toNat (by omega)
    generalize menu12[(mixV ds k 5).toNat]'_ = L at hL
    obtain ⟨hL1, hL2, hL3⟩ := hL
    generalize hn : mixV ds (k + 1) (most + 1) = n at h2
    have hg : ∀ i, i < n.toNat → (mixV ds (k + 3 + i) L.length).toNat < L.length := fun i hi => by
      have := mix_lo hd (k := k + 3 + i) (many := L.length) (by omega) (by omega)
      omega
    rw [lc_rng (fun i => D.str [L.getD (mixV ds (k + 3 + i) L.length).toNat ' ']) (fun i hi => ?_) (by simp only [lim_is]; omega)]
    · simp_arith []
      rw [m_join1 (fun (i : Nat) => L.getD (mixV ds (k + 3 + i) L.length).toNat ' ') _ (by simp only [lim_is, List.length_range]; omega)]
      have ht : TextOk most ((List.range n.toNat).map fun (i : Nat) => L.getD (mixV ds (k + 3 + i) L.length).toNat ' ') := by
        refine ⟨by simp; omega, fun c hc => ?_⟩
        obtain ⟨i, hi, rfl⟩ := List.mem_map.mp hc
        exact hL3 _ (getD_mem hL2 _ (hg i (List.mem_range.mp hi)))
      generalize ((List.range n.toNat).map fun (i : Nat) => L.getD (mixV ds (k + 3 + i) L.length).toNat ' ') = t at ht
      have htl := ht.1
      by_cases h3 : mixV ds (k + 2) 5 = 1
      · by_cases h4 : (1 : Int) < t.length
        · have e2 : ∀ xs : List Char, cut xs none (some 2) = xs.take 2 := fun xs => cut_no xs 2
          have e3 : (t.take 2).length ≤ 2 := by simp; omega
          simp_arith [ mix_r hd, h3, h4, b_lenS, sl_str, o_cat, e2, cut_no, List.length_append]
          refine ⟨_, rfl, ht.sub (by simp; omega) fun c hc => ?_⟩
          have hc := List.mem_of_mem_take hc
          simp only [List.mem_append] at hc
          rcases hc with ((hc | hc) | hc) | hc
          · exact List.mem_of_mem_take hc
          · exact List.mem_of_mem_take hc
          · exact List.mem_of_mem_take hc
          · exact hc
        · simp_arith [ mix_r hd, h3, h4, b_lenS]
          exact ⟨_, rfl, ht⟩
      · simp_arith [ mix_r hd, h3, b_lenS]
        exact ⟨_, rfl, ht⟩
    · have := mix_lo hd (k := k + 3 + i) (many := L.length) (by omega) (by omega)
      have := hg i hi
      simp_arith [ lcG_n, mix_r hd, wipeE, tgIs, b_lenS, ixI_str, Int.zero_add, Int.toNat_natCast]
      rw [List.getD_eq_getElem?_getD, List.getElem?_eq_getElem (hg i hi)]
      rfl
  obtain ⟨r, h1, t, rfl, h2⟩ := key
  exact ⟨t, h1, h2⟩

/-! ### houses -/
abbrev Hs := List (Int × List Char)
abbrev eH : Int × List Char → D := eP D.int D.str
structure HouseOk (m : Nat) (H : Hs) : Prop where
  len : H.length ≤ 8
  asc : H.Pairwise fun p q => p.1 < q.1
  num : ∀ p ∈ H, 0 ≤ p.1 ∧ p.1 ≤ 99
  txt : ∀ p ∈ H, TextOk m p.2
theorem house12_ex {ds : List Int} (hd : Drawn ds) {k : Int} (most : Nat) (hk : 0 ≤ k) (hm : most ≤ 1000) : ∃ H, s_l_house_12 [.lst (ds.map D.int), .int k, .int most] = .ok (.lst (H.map eH)) ∧ HouseOk most H := by
  have key : ∃ r, s_l_house_12 [.lst (ds.map D.int), .int k, .int most] = .ok r ∧ ∃ H, r = .lst (H.map eH) ∧ HouseOk most H := by
    unfold s_l_house_12
    refine run_sat rfl ?_
    have h4 := mix_lo hd hk (many := 4) (by omega)
    have h9 := mix_lo hd hk (many := 9) (by omega)
    have fin : ∀ (n : Int), 0 ≤ n → n ≤ 8 → (Fl.seq (forLoop (.name 5) (evSs b_l_house_12_1) (rngD 0 n.toNat) [some (.lst (ds.map D.int)), some (.int k), some (.int most), some (.lst []), some (.int 0), none, none]) (.cons (.ret (.var 3)) .nil)).sat (fun _ => ∃ H, D.non = .lst (H.map eH) ∧ HouseOk most H) fun r => ∃ H, r = .lst (H.map eH) ∧ HouseOk most H := by
      intro n hn0 hn8
      refine sat_to (for_rng _ (fun i e => ∃ (H : Hs) (num : Int), e = [some (.lst (ds.map D.int)), some (.int k), some (.int most), some (.lst (H.map eH)), some (.int num), none, none] ∧ H.length = i ∧ (i = 0 → num = 0) ∧ (0 < i → 0 ≤ num ∧ num + 1 ≤ 12 * i) ∧
        (H.Pairwise fun p q => p.1 < q.1) ∧ (∀ p ∈ H, 0 ≤ p.1 ∧ p.1 ≤ num) ∧ ∀ p ∈ H, TextOk most p.2) ⟨[], 0, rfl, rfl, by simp⟩ (fun i hi e he => ?_) fun e he => he) fun e he => ?_
      · obtain ⟨H, num, rfl, hl, z1, z2, asc, nm, tx⟩ := he
        refine ⟨_, rfl, ?_⟩
        have hi8 : i < 8 := by omega
        obtain ⟨t, ht, htk⟩ := text12_ex hd (k := k + 12 + 17 * i) most (by omega) hm
        have m12 := mix_lo hd (k := k + 2 + i) (many := 12) (by omega) (by omega)
        have more : ∀ (v : Int) (u : List Char), TextOk most u → 0 ≤ v → v + 1 ≤ 12 * ((i + 1 : Nat) : Int) → (0 < i → num < v) → ∃ (H' : Hs) (num' : Int), [some (D.lst (ds.map D.int)), some (.int k), some (.int most), some (.lst ((H ++ [(v, u)]).map eH)), some (.int v), none, none] = [some (.lst (ds.map D.int)), some (.int k), some (.int most), some (.lst (H'.map eH)), some (.int num'), none, none] ∧ H'.length = i + 1 ∧ (i + 1 = 0 → num' = 0) ∧ (0 < i + 1 → 0 ≤ num' ∧ num' + 1 ≤ 12 * ((i + 1 : Nat) : Int)) ∧
            (H'.Pairwise fun p q => p.1 < q.1) ∧ (∀ p ∈ H', 0 ≤ p.1 ∧ p.1 ≤ num') ∧ ∀ p ∈ H', TextOk most p.2 := by
          intro v u hu hv0 hv hnv
          refine ⟨_, _, rfl, by simp [hl], by omega, fun _ => ⟨hv0, hv⟩, ?_, fun p hp => ?_, fun p hp => ?_⟩
          · rw [List.pairwise_append]
            refine ⟨asc, by simp, fun p hp q hq => ?_⟩
            simp at hq
            subst hq
            have h1 := nm p hp
            have h0 : 0 < i := by rw [← hl]; exact List.length_pos_of_mem hp
            have := hnv h0
            show p.1 < v
            omega
          · rcases List.mem_append.mp hp with hp | hp
            · have := nm p hp
              have h0 : 0 < i := by rw [← hl]; exact List.length_pos_of_mem hp
              have := hnv h0
              omega
            · simp at hp
              subst hp
              exact ⟨hv0, Int.le_refl _⟩
          · rcases List.mem_append.mp hp with hp | hp
            · exact tx p hp
            · simp at hp
              subst hp
              exact hu
        have sn : ∀ (a : Int) (u : List Char), H.map eH ++ [D.tup [.int a, .str u]] = (H ++ [(a, u)]).map eH := fun a u => by simp [eP]
        by_cases h0 : (0 : Int) < i
        · by_cases h1 : mixV ds (k + 3 + i) 7 = 1
          · have hi1 : ((i : Int) - 1).toNat < H.length := by omega
            have e1 := sn (num + mixV ds (k + 2 + i) 12 + 1) (H[((i : Int) - 1).toNat]).2
            simp_arith [ ↓B_l_house_12_1, mix_r hd, Int.zero_add, Int.toNat_natCast, ht, h0, h1, ixI_map, eP, ix_t1, m_append, e1]
            have := z2 (by omega)
            exact more _ _ (tx _ (List.getElem_mem hi1)) (by omega) (by omega) (by omega)
          · have e1 := sn (num + mixV ds (k + 2 + i) 12 + 1) t
            simp_arith [ ↓B_l_house_12_1, mix_r hd, Int.zero_add, Int.toNat_natCast, ht, h0, h1, ixI_map, eP, ix_t1, m_append, e1]
            have := z2 (by omega)
            exact more _ _ htk (by omega) (by omega) (by omega)
        · have e1 := sn (num + mixV ds (k + 2 + i) 12 + 0) t
          simp_arith [ ↓B_l_house_12_1, mix_r hd, Int.zero_add, Int.toNat_natCast, ht, h0, m_append, e1]
          have hi0 : i = 0 := by omega
          have := z1 hi0
          exact more _ _ htk (by omega) (by omega) (by omega)
      · obtain ⟨H, num, rfl, hl, z1, z2, asc, nm, tx⟩ := he
        simp_arith []
        refine ⟨H, rfl, ⟨by omega, asc, fun p hp => ?_, tx⟩⟩
        have := nm p hp
        have h0 : 0 < n.toNat := by rw [← hl]; exact List.length_pos_of_mem hp
        have := z2 h0
        omega
    have e1 : ∀ a b : Int, ixD (.lst [.int a, .int b]) (.int 1) = .ok (.int b) := fun _ _ => rfl
    have e0 : ∀ a b : Int, ixD (.lst [.int a, .int b]) (.int 0) = .ok (.int a) := fun _ _ => rfl
    by_cases h2 : mixV ds (k + 1) 5 = 2
    · simp_arith [ d_l_house_12, mix_r hd, h2, e1]
      exact fin _ (by omega) (by omega)
    · simp_arith [ d_l_house_12, mix_r hd, h2, e0]
      exact fin _ (by omega) (by omega)
  obtain ⟨r, h1, t, rfl, h2⟩ := key
  exact ⟨t, h1, h2⟩
end SH.C
end
section
set_option Elab.async false
set_option linter.all false
set_option autoImplicit false
set_option maxRecDepth 10000
/-! Plain law: houses' texts, ends, commons. -/
namespace SH.C
open PySem SH
/-- the text with a number -/
def tx : Hs → Int → Option (List Char)
  | [], _ => none
  | (m, t) :: r, n => if m = n then some t else tx r n
theorem tx_some {H : Hs} {n : Int} {t : List Char} (h : tx H n = some t) : (n, t) ∈ H := by
  induction H with
  | nil => cases h
  | cons p r ih =>
    obtain ⟨m, u⟩ := p
    rw [tx] at h
    split at h
    · rename_i e; cases h; rw [e]; exact List.mem_cons_self
    · exact List.mem_cons_of_mem _ (ih h)
theorem tx_mem {H : Hs} {n : Int} : (tx H n).isSome = decide (n ∈ H.map (·.1)) := by
  induction H with
  | nil => simp [tx]
  | cons p r ih =>
    obtain ⟨m, u⟩ := p
    rw [tx]
    by_cases e : m = n
    · simp [e]
    · rw [if_neg e, ih]
      simp [Ne.symm e]
theorem tx_of {H : Hs} (asc : H.Pairwise fun p q => p.1 < q.1) {n : Int} {t : List Char} (h : (n, t) ∈ H) : tx H n = some t := by
  induction H with
  | nil => cases h
  | cons p r ih =>
    obtain ⟨m, u⟩ := p
    rw [List.pairwise_cons] at asc
    rw [tx]
    rcases List.mem_cons.mp h with e | h
    · injection e with e1 e2
      rw [if_pos e1.symm, e2]
    · have := asc.1 _ h
      rw [if_neg (by simp only at this; omega), ih asc.2 h]
theorem text_of_r (H : Hs) (n : Int) : s_text_of [.lst (H.map eH), .int n] = match tx H n with
    | some t => .ok (.str t)
    | none => .exc 6 n := by
  unfold s_text_of
  rw [run_eq _ _ rfl]
  simp_arith [ d_text_of]
  have key : ∀ (h : D) (H : Hs), forLoop (.tup [2, 3]) (evSs b_text_of_1) (H.map eH) [some h, some (.int n), none, none] = match tx H n with
      | some t => .rt (.str t)
      | none => .nx [some h, some (.int n), none, none] := by
    intro h H
    induction H with
    | nil => rw [List.map_nil, for_nil, tx]
    | cons p r ih =>
      obtain ⟨m, u⟩ := p
      rw [List.map_cons, for_cons, tx]
      by_cases e : m = n
      · simp_arith [ eP, ↓B_text_of_1, e, if_pos]
      · simp_arith [ eP, ↓B_text_of_1, e, ih]
  rw [key]
  cases tx H n with
  | none => simp_arith []
  | some t => simp_arith []
theorem has_number_r (H : Hs) (n : Int) (hl : H.length ≤ 1000) : s_has_number [.lst (H.map eH), .int n] = .ok (.bl (tx H n).isSome) := by
  unfold s_has_number
  rw [run_eq _ _ rfl]
  simp_arith [ d_has_number]
  rw [lc_map (fun p : Int × List Char => D.int p.1) H (fun p _ => ?_) (by simp only [lim_is]; omega)]
  · have e : (H.map fun p : Int × List Char => D.int p.1) = (H.map (·.1)).map D.int := by simp
    simp_arith [ e, cmp_inL (f := D.int) (by decide)]
    rw [tx_mem]
  · simp_arith [ lcG_n, wipeE, tgIs, eP]
theorem letters_of_r (H : Hs) (n : Int) (s : Nat) {t : List Char} (h : tx H n = some t) (hl : t.length ≤ 1000) : s_letters_of [.lst (H.map eH), .tup [.int n, .int s]] = .ok (.str (t.drop s)) := by
  unfold s_letters_of
  rw [run_eq _ _ rfl]
  simp_arith [ d_letters_of, ix_t0, ix_t1, text_of_r, h, sl_str, cut_on]
/-- is it an end -/
def isEnd (H : Hs) (e : Int × Int) : Bool := match tx H e.1 with
  | some t => decide (0 ≤ e.2) && decide (e.2 ≤ t.length)
  | none => false
theorem is_end_r {m : Nat} {H : Hs} (ok : HouseOk m H) (hm : m ≤ 1000) (n s : Int) : s_is_end [.lst (H.map eH), .tup [.int n, .int s]] = .ok (.bl (isEnd H (n, s))) := by
  have hl := ok.len
  unfold s_is_end
  rw [run_eq _ _ rfl]
  unfold isEnd
  cases h : tx H n with
  | none => simp_arith [ d_is_end, ix_t0, ix_t1, has_number_r, h, Option.isSome]
  | some t =>
    have := (ok.txt _ (tx_some h)).1
    simp only at this
    simp_arith [ d_is_end, ix_t0, ix_t1, has_number_r, text_of_r, h, Option.isSome, b_lenS]
/-! ### how alike two texts begin -/
def cpl : List Char → List Char → Nat
  | x :: a, y :: b => if x = y then cpl a b + 1 else 0
  | _, _ => 0
theorem cpl_le : ∀ a b : List Char, cpl a b ≤ a.length ∧ cpl a b ≤ b.length
  | [], b => by simp [cpl]
  | x :: a, [] => by simp [cpl]
  | x :: a, y :: b => by
    have := cpl_le a b
    rw [cpl]
    split <;> simp <;> omega
theorem cpl_at : ∀ (a b : List Char) (k : Nat), k ≤ cpl a b → ∀ (h1 : k < a.length) (h2 : k < b.length), (a[k] = b[k] ↔ k < cpl a b)
  | [], b, k, h, h1, _ => by simp at h1
  | x :: a, [], k, h, _, h2 => by simp at h2
  | x :: a, y :: b, k, h, h1, h2 => by
    rw [cpl] at h ⊢
    cases k with
    | zero =>
      by_cases e : x = y
      · simp [e]
      · simp [e]
    | succ k =>
      by_cases e : x = y
      · rw [if_pos e] at h ⊢
        have := cpl_at a b k (by omega) (by simpa using h1) (by simpa using h2)
        simp only [List.getElem_cons_succ]
        exact this.trans ⟨fun z => by omega, fun z => by omega⟩
      · rw [if_neg e] at h; omega
theorem alike_r (a b : List Char) (ha : a.length ≤ 1000) (hb : b.length ≤ 1000) : s_alike [.str a, .str b] = .ok (.int (cpl a b)) := by
  have hc := cpl_le a b
  unfold s_alike
  refine run_is rfl ?_
  simp_arith [ d_alike]
  refine sat_to (wh_sat (fun m e => ∃ k : Nat, e = [some (.str a), some (.str b), some (.int k)] ∧ k ≤ cpl a b ∧ m = cpl a b - k) 100000 (cpl a b) _ ⟨0, rfl, by omega, by omega⟩ (by omega) (N := fun e => e = [some (.str a), some (.str b), some (.int (cpl a b))]) fun m e he => ?_) fun e he => ?_
  · obtain ⟨k, rfl, hk, hm⟩ := he
    by_cases h : (k : Int) < min (a.length : Int) (b.length : Int)
    · have h1 : k < a.length := by omega
      have h2 : k < b.length := by omega
      have ca := cpl_at a b k hk h1 h2
      simp_arith [ b_lenS, h, ixI_str, Int.zero_add, Int.toNat_natCast]
      refine ⟨_, rfl, ?_⟩
      by_cases e : k < cpl a b
      · have e' := ca.mpr e
        rw [if_pos (by simp [e'])]
        simp_arith [ ↓B_alike_1]
        exact ⟨_, by omega, k + 1, rfl, by omega, rfl⟩
      · have e' : ¬ a[k] = b[k] := fun z => e (ca.mp z)
        rw [if_neg (by simp [e'])]
        have : k = cpl a b := by omega
        rw [this]
    · refine ⟨false, ?_, ?_⟩
      · simp_arith [ b_lenS, h]
      · rw [if_neg (by decide)]
        have : k = cpl a b := by omega
        rw [this]
  · subst he
    simp_arith []
theorem l_alike_r (a b : List Char) (ha : a.length ≤ 1000) (hb : b.length ≤ 1000) : s_l_alike_12 [.str a, .str b] = .ok (.int (cpl a b)) := by
  have hc := cpl_le a b
  unfold s_l_alike_12
  refine run_is rfl ?_
  simp_arith [ d_l_alike_12, b_lenS]
  refine sat_to (for_rng _ (fun k e => e = [some (.str a), some (.str b), some (.int (min k (cpl a b) : Nat)), none]) (by simp) (fun k hk e he => ?_) fun e he => he) fun e he => ?_
  · subst he
    refine ⟨_, rfl, ?_⟩
    have h1 : k < a.length := by omega
    have h2 : k < b.length := by omega
    by_cases h : k ≤ cpl a b
    · have ca := cpl_at a b k h h1 h2
      have e1 : ((min k (cpl a b) : Nat) : Int) = (k : Int) := by omega
      by_cases e : k < cpl a b
      · have e' := ca.mpr e
        simp_arith [ ↓B_l_alike_12_1, ixI_str, Int.zero_add, Int.toNat_natCast, e1, e']
        have : ((k : Int) + 1) = ((min (k + 1) (cpl a b) : Nat) : Int) := by omega
        rw [this]
      · have e' : ¬ a[k] = b[k] := fun z => e (ca.mp z)
        have e'' : ¬ [a[k]] = [b[k]] := by simpa using e'
        simp_arith [ ↓B_l_alike_12_1, ixI_str, Int.zero_add, Int.toNat_natCast, e1, e'']
        have : (k : Int) = ((min (k + 1) (cpl a b) : Nat) : Int) := by omega
        rw [← this]
    · have e1 : ¬ ((min k (cpl a b) : Nat) : Int) = (k : Int) := by omega
      simp_arith [ ↓B_l_alike_12_1, ixI_str, Int.zero_add, Int.toNat_natCast, e1]
      have : ((min k (cpl a b) : Nat) : Int) = ((min (k + 1) (cpl a b) : Nat) : Int) := by omega
      rw [this]
  · subst he
    simp_arith []
    have : ((min (min (a.length : Int) b.length).toNat (cpl a b) : Nat) : Int) = (cpl a b : Int) := by omega
    rw [this]
/-- common -/
theorem common_r {m : Nat} {H : Hs} (ok : HouseOk m H) (hm : m ≤ 1000) (e f : Int × Int) : s_common [.lst (H.map eH), .tup [.int e.1, .int e.2], .tup [.int f.1, .int f.2]] =
    if isEnd H e = true then (if isEnd H f = true then .ok (.int (cpl (((tx H e.1).getD []).drop e.2.toNat) (((tx H f.1).getD []).drop f.2.toNat))) else .exc 6 1) else .exc 6 0 := by
  obtain ⟨n, s⟩ := e
  obtain ⟨n', s'⟩ := f
  unfold s_common
  rw [run_eq _ _ rfl]
  by_cases h1 : isEnd H (n, s) = true
  · by_cases h2 : isEnd H (n', s') = true
    · have q1 := h1
      have q2 := h2
      unfold isEnd at q1 q2
      cases t1 : tx H n with
      | none => simp [t1] at q1
      | some t =>
        cases t2 : tx H n' with
        | none => simp [t2] at q2
        | some u =>
          simp [t1] at q1
          simp [t2] at q2
          have := (ok.txt _ (tx_some t1)).1
          have := (ok.txt _ (tx_some t2)).1
          have e1 : ((s.toNat : Nat) : Int) = s := by omega
          have e2 : ((s'.toNat : Nat) : Int) = s' := by omega
          have r1 := letters_of_r H n s.toNat t1 (by simp at *; omega)
          have r2 := letters_of_r H n' s'.toNat t2 (by simp at *; omega)
          rw [e1] at r1
          rw [e2] at r2
          have a1 := alike_r (t.drop s.toNat) (u.drop s'.toNat) (by simp at *; omega) (by simp at *; omega)
          simp_arith [ d_common, is_end_r ok hm, h1, h2, r1, r2, a1, Option.getD_some]
    · simp_arith [ d_common, is_end_r ok hm, h1, h2]
  · simp_arith [ d_common, is_end_r ok hm, h1]
end SH.C
end
section
set_option Elab.async false
set_option linter.all false
set_option autoImplicit false
set_option maxRecDepth 10000
/-! Plain law: the ends of a house in order, ranges of words. -/
namespace SH.C
open PySem SH
abbrev eE : Int × Int → D := eP D.int D.int
abbrev eR : List Char × (Int × Int) → D := eP D.str eE
theorem l_is_integer_r (i : Int) : s_l_is_integer_00 [.int i] = .ok (.bl true) := by
  unfold s_l_is_integer_00
  rw [run_eq _ _ rfl]
  simp_arith [ d_l_is_integer_00]
theorem deqL_self {α : Type} {f : α → D} [Ee f] (xs : List α) : deq (.lst (xs.map f)) (.lst (xs.map f)) = true := (deq_L xs xs).mpr rfl
theorem dp7 {α : Type} {f : α → D} [Ee f] (xs : List α) (h : Ee.n f ≤ 6) : dp 7 (.lst (xs.map f)) = true := dp_L (n := 6) xs fun a => dp_le (Ee.dpn a) h
theorem dp2 (xs : Hs) (ys : List (Int × Int)) : dp 8 (.tup [.lst (xs.map eH), .lst (ys.map eE)]) = true := by
  rw [dp]
  simp [dp7 (f := eH) xs (by decide), dp7 (f := eE) ys (by decide)]
/-! ### the order of texts -/
theorem ltS_nn (a : List Char) : ltS a [] = false := by unfold ltS; simp
theorem ltS_nc (y : Char) (b : List Char) : ltS [] (y :: b) = true := by unfold ltS; simp
theorem ltS_cc (x y : Char) (a b : List Char) : ltS (x :: a) (y :: b) = (decide (x.toNat < y.toNat) || (decide (x = y) && ltS a b)) := by
  unfold ltS
  rw [List.map_cons, List.map_cons]
  by_cases h : x.toNat < y.toNat
  · simp [h, List.cons_lt_cons_iff]
  · by_cases e : x = y
    · subst e; simp [List.cons_lt_cons_iff]
    · have : x.toNat ≠ y.toNat := fun z => e (toNat_inj' z)
      simp [List.cons_lt_cons_iff, h, e, this]
theorem ltS_irr (a : List Char) : ltS a a = false := oe_irr (f := D.str) a
theorem ltS_tr {a b c : List Char} (h1 : ltS a b = true) (h2 : ltS b c = true) : ltS a c = true := oe_tr (f := D.str) h1 h2
theorem ltS_tot {a b : List Char} (h1 : ltS a b = false) (h2 : ltS b a = false) : a = b := oe_tot (f := D.str) h1 h2
theorem ltS_take : ∀ (a w : List Char), ltS (a.take w.length) w = ltS a w
  | a, [] => by rw [ltS_nn, ltS_nn]
  | [], y :: w => by simp [ltS_nc]
  | x :: a, y :: w => by
    rw [List.length_cons, List.take_succ_cons, ltS_cc, ltS_cc, ltS_take a w]
theorem leS_take : ∀ (n : Nat) {a b : List Char}, ltS b a = false → ltS (b.take n) (a.take n) = false
  | 0, a, b, _ => by simp [ltS_nn]
  | n + 1, a, [], h => by
    cases a with
    | nil => rfl
    | cons x a => rw [ltS_nc] at h; cases h
  | n + 1, [], y :: b, h => by simp [ltS_nn]
  | n + 1, x :: a, y :: b, h => by
    rw [ltS_cc] at h
    rw [List.take_succ_cons, List.take_succ_cons, ltS_cc]
    by_cases e : y = x
    · subst e
      simp at h
      simp [leS_take n h]
    · simp [e] at h
      simp [e, h]
/-! ### a search by halves -/
theorem countP_split {α : Type} (p : α → Bool) : ∀ (L : List α) (k : Nat), k ≤ L.length → (∀ i (h : i < L.length), i < k → p L[i] = true) → (∀ i (h : i < L.length), k ≤ i → p L[i] = false) → L.countP p = k
  | [], k, hk, _, _ => by simp at hk; simp [hk]
  | a :: L, 0, _, _, h2 => by
    rw [List.countP_eq_zero]
    intro b hb
    obtain ⟨i, hi, rfl⟩ := List.getElem_of_mem hb
    simp [h2 i hi (by omega)]
  | a :: L, k + 1, hk, h1, h2 => by
    have ha := h1 0 (by simp) (by omega)
    simp at ha
    rw [List.countP_cons, if_pos ha, countP_split p L k (by simpa using hk) (fun i h hi => h1 (i + 1) (by simpa using h) (by omega)) (fun i h hi => h2 (i + 1) (by simpa using h) (by omega))]
/-! ### ends -/
def rowsN (p : Int × List Char) (n : Nat) : List (List Char × (Int × Int)) := (List.range n).map fun (s : Nat) => (p.2.drop s, (p.1, (s : Int)))
def rowsT (p : Int × List Char) := rowsN p (p.2.length + 1)
def rows (H : Hs) := H.flatMap rowsT
def srows (H : Hs) := sortE eR (rows H)
def ord (H : Hs) : List (Int × Int) := (srows H).map (·.2)
theorem rowsN_len (p : Int × List Char) (n : Nat) : (rowsN p n).length = n := by simp [rowsN]
theorem rows_len' {m : Nat} : ∀ {H : Hs}, (∀ p ∈ H, p.2.length ≤ m) → (rows H).length ≤ H.length * (m + 1)
  | [], _ => by simp [rows]
  | p :: H, h => by
    have := rows_len' (H := H) fun q hq => h q (List.mem_cons_of_mem _ hq)
    have hp := h p List.mem_cons_self
    unfold rows at *
    rw [List.flatMap_cons, List.length_append, List.length_cons, rowsT, rowsN_len, Nat.add_mul]
    omega
theorem rows_len {m : Nat} {H : Hs} (ok : HouseOk m H) : (rows H).length ≤ 8 * (m + 1) :=
  Nat.le_trans (rows_len' fun p hp => (ok.txt p hp).1) (Nat.mul_le_mul_right _ ok.len)
theorem rows_snoc (H : Hs) (p : Int × List Char) : rows (H ++ [p]) = rows H ++ rowsT p := by simp [rows]
theorem rowsN_succ (p : Int × List Char) (n : Nat) : rowsN p (n + 1) = rowsN p n ++ [(p.2.drop n, (p.1, (n : Int)))] := by simp [rowsN, List.range_succ]
theorem srows_len (H : Hs) : (srows H).length = (rows H).length := sortE_len _
theorem ord_len (H : Hs) : (ord H).length = (rows H).length := by unfold ord; rw [List.length_map, srows_len]
/-- the law's ends -/
theorem l_ends_r {m : Nat} {H : Hs} (ok : HouseOk m H) (hm : m ≤ 1000) : s_l_ends_12 [.lst (H.map eH)] = .ok (.lst ((srows H).map eR)) := by
  have hr := rows_len ok
  unfold s_l_ends_12
  refine run_is rfl ?_
  simp_arith [ d_l_ends_12]
  refine sat_to (for_inv H (fun d e => e = [some (.lst (H.map eH)), some (.lst ((rows d).map eR)), none, none, none]) rfl (fun d a r hd e he => ?_) fun e he => he) fun e he => ?_
  · subst he
    refine ⟨_, rfl, ?_⟩
    obtain ⟨n, t⟩ := a
    have hl := (ok.txt (n, t) (hd ▸ (by simp))).1
    have hlen : (rows d).length + (t.length + 1) ≤ 8 * (m + 1) := by
      refine Nat.le_trans ?_ hr
      rw [hd]
      simp [rows, rowsT, rowsN_len]
    simp only at hl
    simp_arith [ ↓B_l_ends_12_2, b_lenS]
    refine sat_to (for_rng _ (fun i e => e = [some (.lst (H.map eH)), some (.lst ((rows d ++ rowsN (n, t) i).map eR)), some (.int n), some (.str t), none]) (by simp [rowsN]) (fun i hi e he => ?_) fun e he => he) fun e he => ?_
    · subst he
      refine ⟨_, rfl, ?_⟩
      have hi' : i < t.length + 1 := by omega
      have hq : ((rows d ++ rowsN (n, t) i).map eR).length < lim := by simp only [List.length_map, List.length_append, rowsN_len, lim_is]; omega
      simp_arith [ ↓B_l_ends_12_1, Int.zero_add, Int.toNat_natCast, sl_str, cut_on, m_append]
      rw [rowsN_succ]
      simp [eP]
    · subst he
      simp_arith []
      rw [rows_snoc]
      have : ((t.length : Int) + 1).toNat = t.length + 1 := by omega
      rw [this]
      rfl
  · subst he
    have hq : (rows H).length ≤ lim := by simp only [lim_is]; omega
    simp_arith [ b_sorted hq]
    rfl
theorem l_order_r {m : Nat} {H : Hs} (ok : HouseOk m H) (hm : m ≤ 1000) : s_l_order_12 [.lst (H.map eH)] = .ok (.lst ((ord H).map eE)) := by
  have hr := rows_len ok
  unfold s_l_order_12
  rw [run_eq _ _ rfl]
  simp_arith [ d_l_order_12, l_ends_r ok hm]
  rw [lc_map (fun r : List Char × (Int × Int) => eE r.2) (srows H) (fun r _ => ?_) (by rw [srows_len]; simp only [lim_is]; omega)]
  · simp_arith [ List.map_map]
    simp [ord]
  · simp_arith [ lcG_n, wipeE, tgIs, eP]
/-! ### the program's ends -/
def lettersE (H : Hs) (e : Int × Int) : List Char := ((tx H e.1).getD []).drop e.2.toNat
theorem rows_mem {H : Hs} {r : List Char × (Int × Int)} : r ∈ rows H ↔ ∃ p ∈ H, ∃ s : Nat, s ≤ p.2.length ∧ r = (p.2.drop s, (p.1, (s : Int))) := by
  unfold rows rowsT rowsN
  rw [List.mem_flatMap]
  constructor
  · rintro ⟨p, hp, h⟩
    obtain ⟨s, hs, rfl⟩ := List.mem_map.mp h
    exact ⟨p, hp, s, by have := List.mem_range.mp hs; omega, rfl⟩
  · rintro ⟨p, hp, s, hs, rfl⟩
    exact ⟨p, hp, List.mem_map.mpr ⟨s, List.mem_range.mpr (by omega), rfl⟩⟩
theorem rows_let {m : Nat} {H : Hs} (ok : HouseOk m H) {r : List Char × (Int × Int)} (h : r ∈ rows H) : isEnd H r.2 = true ∧ r.1 = lettersE H r.2 ∧ r.1.length ≤ m ∧ 0 ≤ r.2.2 ∧ ∃ t, tx H r.2.1 = some t ∧ t.length ≤ m := by
  obtain ⟨p, hp, s, hs, rfl⟩ := rows_mem.mp h
  have t := tx_of ok.asc (n := p.1) (t := p.2) hp
  have hl := (ok.txt p hp).1
  refine ⟨?_, ?_, ?_, ?_, ?_⟩
  · simp [isEnd, t, hs]
  · simp [lettersE, t]
  · simp; omega
  · simp
  · exact ⟨_, t, hl⟩
theorem rows_snd {m : Nat} {H : Hs} (ok : HouseOk m H) : ((rows H).map (·.2)).map (fun e => (lettersE H e, e)) = rows H := by
  rw [List.map_map]
  conv => rhs; rw [← List.map_id (rows H)]
  exact List.map_congr_left fun r hr => by
    have := (rows_let ok hr).2.1
    show (lettersE H r.2, r.2) = r
    rw [← this]
theorem srows_mem {H : Hs} {r : List Char × (Int × Int)} : r ∈ srows H ↔ r ∈ rows H := sortE_mem _ _
theorem ord_mem {m : Nat} {H : Hs} (ok : HouseOk m H) {e : Int × Int} (h : e ∈ ord H) : isEnd H e = true ∧ (lettersE H e).length ≤ m ∧ 0 ≤ e.2 ∧ (lettersE H e, e) ∈ rows H ∧ ∃ t, tx H e.1 = some t ∧ t.length ≤ m := by
  obtain ⟨r, hr, rfl⟩ := List.mem_map.mp h
  have h1 := srows_mem.mp hr
  obtain ⟨a, b, c, d, t⟩ := rows_let ok h1
  exact ⟨a, b ▸ c, d, by rw [← b]; exact h1, t⟩
theorem letters_of_e {m : Nat} {H : Hs} (ok : HouseOk m H) (hm : m ≤ 1000) {e : Int × Int} (h : e ∈ ord H) : s_letters_of [.lst (H.map eH), .tup [.int e.1, .int e.2]] = .ok (.str (lettersE H e)) := by
  obtain ⟨_, _, h0, _, t, ht, hl⟩ := ord_mem ok h
  have := letters_of_r H e.1 e.2.toNat ht (by omega)
  rw [show ((e.2.toNat : Nat) : Int) = e.2 by omega] at this
  rw [this, lettersE, ht]; rfl
theorem all_ends_r {m : Nat} {H : Hs} (ok : HouseOk m H) (hm : m ≤ 1000) : s_all_ends [.lst (H.map eH)] = .ok (.lst (((rows H).map (·.2)).map eE)) := by
  have hr := rows_len ok
  unfold s_all_ends
  refine run_is rfl ?_
  simp_arith [ d_all_ends]
  refine sat_to (for_inv H (fun d e => e = [some (.lst (H.map eH)), some (.lst (((rows d).map (·.2)).map eE)), none, none, none]) rfl (fun d a r hd e he => ?_) fun e he => he) fun e he => ?_
  · subst he
    refine ⟨_, rfl, ?_⟩
    obtain ⟨n, t⟩ := a
    have hl := (ok.txt (n, t) (hd ▸ (by simp))).1
    have hlen : (rows d).length + (t.length + 1) ≤ 8 * (m + 1) := by
      refine Nat.le_trans ?_ hr
      rw [hd]
      simp [rows, rowsT, rowsN_len]
    simp only at hl
    have hc : ((t.length : Int) + 1).toNat = t.length + 1 := by omega
    simp_arith [ ↓B_all_ends_1, b_lenS, hc]
    rw [lc_rng (fun i => eE (n, (i : Int))) (fun i hi => ?_) (by simp only [lim_is]; omega)]
    · have hq : (((rows d).map (·.2)).map eE).length + ((List.range (t.length + 1)).map fun (i : Nat) => eE (n, (i : Int))).length ≤ lim := by
        simp only [List.length_map, List.length_range, lim_is]; omega
      simp_arith [ m_extend hq]
      rw [rows_snoc]
      simp [rowsT, rowsN]
    · simp_arith [ lcG_n, wipeE, tgIs, eP, Int.zero_add, Int.toNat_natCast]
  · subst he
    simp_arith []
theorem order_of_r {m : Nat} {H : Hs} (ok : HouseOk m H) (hm : m ≤ 1000) : s_order_of [.lst (H.map eH)] = .ok (.lst ((ord H).map eE)) := by
  have hr := rows_len ok
  unfold s_order_of
  rw [run_eq _ _ rfl]
  have hq : (rows H).length ≤ lim := by simp only [lim_is]; omega
  simp_arith [ d_order_of, all_ends_r ok hm]
  rw [lc_map (fun e : Int × Int => eR (lettersE H e, e)) ((rows H).map (·.2)) (fun e he => ?_) (by rw [List.length_map]; exact hq)]
  · have e1 : (((rows H).map (·.2)).map fun e : Int × Int => eR (lettersE H e, e)) = (rows H).map eR := by
      conv => rhs; rw [← rows_snd ok]
      simp
    have e2 : sortE eR (rows H) = srows H := rfl
    simp_arith [ e1, b_sorted hq, e2]
    rw [lc_map (fun r : List Char × (Int × Int) => eE r.2) (srows H) (fun r _ => ?_) (by rw [srows_len]; exact hq)]
    · simp_arith []
      simp [ord]
    · simp_arith [ lcG_n, wipeE, tgIs, eP]
  · obtain ⟨r, h1, rfl⟩ := List.mem_map.mp he
    have h2 : r.2 ∈ ord H := List.mem_map.mpr ⟨r, srows_mem.mpr h1, rfl⟩
    have := letters_of_e ok hm h2
    simp_arith [ lcG_n, wipeE, tgIs, eP, this]
/-! ### ranges -/
theorem leE_P {r q : List Char × (Int × Int)} (h : leE eR r q = true) : ltS q.1 r.1 = false := by
  unfold leE at h
  simp only [Bool.not_eq_true'] at h
  have h : (if q.1 = r.1 then Oe.lt eE q.2 r.2 else ltS q.1 r.1) = false := h
  by_cases e : q.1 = r.1
  · rw [e, ltS_irr]
  · rw [if_neg e] at h; exact h
theorem srows_pw (H : Hs) : (srows H).Pairwise fun a b => ltS b.1 a.1 = false := (sortE_pw (f := eR) (rows H)).imp fun h => leE_P h
/-- the words that begin the ends behind which an index lies -/
def fiP (w : List Char) (b : Bool) (s : List Char) : Bool := ltS (s.take w.length) w || (b && decide (s.take w.length = w))
theorem fiP_mono {w : List Char} {b : Bool} {s t : List Char} (h : ltS t s = false) (ht : fiP w b t = true) : fiP w b s = true := by
  unfold fiP at *
  have h1 := leS_take w.length h
  rw [Bool.or_eq_true] at ht ⊢
  rcases ht with ht | ht
  · left
    cases e : ltS (s.take w.length) (t.take w.length) with
    | true => exact ltS_tr e ht
    | false => rw [ltS_tot e h1]; exact ht
  · rw [Bool.and_eq_true] at ht ⊢
    have e1 := of_decide_eq_true ht.2
    rw [e1] at h1
    cases e : ltS (s.take w.length) w with
    | true => exact .inl rfl
    | false => exact .inr ⟨ht.1, decide_eq_true (ltS_tot e h1)⟩
def fiN (H : Hs) (w : List Char) (b : Bool) : Nat := (srows H).countP fun r => fiP w b r.1
theorem ord_get {H : Hs} {i : Nat} (h : i < (ord H).length) : (ord H)[i] = ((srows H)[i]'(by rw [ord_len] at h; rw [srows_len]; exact h)).2 := by
  simp [ord]
theorem srows_get {m : Nat} {H : Hs} (ok : HouseOk m H) {i : Nat} (h : i < (srows H).length) : (srows H)[i].1 = lettersE H (srows H)[i].2 ∧ (srows H)[i].1.length ≤ m := by
  have h1 := srows_mem.mp (List.getElem_mem h)
  obtain ⟨_, b, c, _⟩ := rows_let ok h1
  exact ⟨b, c⟩
theorem first_index_r {m : Nat} {H : Hs} (ok : HouseOk m H) (hm : m ≤ 1000) (w : List Char) (hw : w.length ≤ 100000) (b : Bool) : s_first_index [.lst (H.map eH), .lst ((ord H).map eE), .str w, .bl b] = .ok (.int (fiN H w b)) := by
  have hr := rows_len ok
  have hol := ord_len H
  have hsl := srows_len H
  unfold s_first_index
  refine run_is rfl ?_
  simp_arith [ d_first_index]
  refine sat_to (wh_sat (fun k e => ∃ lo hi : Nat, e = [some (.lst (H.map eH)), some (.lst ((ord H).map eE)), some (.str w), some (.bl b), some (.int lo), some (.int hi), none, none] ∧ lo ≤ hi ∧ hi ≤ (ord H).length ∧ k = hi - lo ∧
    (∀ i (h : i < (srows H).length), i < lo → fiP w b (srows H)[i].1 = true) ∧ (∀ i (h : i < (srows H).length), hi ≤ i → fiP w b (srows H)[i].1 = false)) 100000 (ord H).length _ ⟨0, (ord H).length, rfl, by omega, by omega, by omega, fun i h h0 => by omega, fun i h h0 => by omega⟩ (by omega)
    (N := fun e => e = [some (.lst (H.map eH)), some (.lst ((ord H).map eE)), some (.str w), some (.bl b), some (.int (fiN H w b)), some (.int (fiN H w b)), none, none]) fun k e he => ?_) fun e he => ?_
  · obtain ⟨lo, hi, rfl, l1, l2, rfl, z1, z2⟩ := he
    by_cases h : (lo : Int) < hi
    · refine ⟨true, ?_, ?_⟩
      · simp_arith [ h]
      · rw [if_pos rfl]
        have em : ((lo : Int) + hi) / 2 = ((lo + hi) / 2 : Nat) := by omega
        generalize hmid : (lo + hi) / 2 = mid at em
        have m1 : mid < (ord H).length := by omega
        have m2 : mid < (srows H).length := by omega
        have lt := letters_of_e ok hm (List.getElem_mem m1)
        have g := srows_get ok m2
        rw [ord_get m1] at lt
        rw [← g.1] at lt
        have ce : ∀ (h : mid < (ord H).length), eE (ord H)[mid] = .tup [.int (srows H)[mid].2.1, .int (srows H)[mid].2.2] := fun h => by rw [ord_get h]; rfl
        have cl : (((srows H)[mid].1).take w.length).length ≤ 100000 := by simp; omega
        have pm := srows_pw H
        rw [List.pairwise_iff_getElem] at pm
        by_cases p : fiP w b (srows H)[mid].1 = true
        · have p0 := p
          unfold fiP at p0
          have ex : ∀ i (h : i < (srows H).length), i < mid + 1 → fiP w b (srows H)[i].1 = true := fun i h hi => by
            by_cases e : i = mid
            · subst e; exact p
            · exact fiP_mono (pm i mid h m2 (by omega)) p
          cases q1 : ltS (((srows H)[mid].1).take w.length) w with
          | true =>
            simp_arith [ ↓B_first_index_1, em, ixI_map, Int.zero_add, Int.toNat_natCast, ce, lt, b_lenS, sl_str, cut_no, q1]
            exact ⟨_, by omega, mid + 1, hi, rfl, by omega, by omega, rfl, ex, z2⟩
          | false =>
            rw [q1] at p0
            simp at p0
            obtain ⟨rfl, p1⟩ := p0
            simp_arith [ ↓B_first_index_1, em, ixI_map, Int.zero_add, Int.toNat_natCast, ce, lt, b_lenS, sl_str, cut_no, q1, p1, ltS_irr]
            exact ⟨_, by omega, mid + 1, hi, rfl, by omega, by omega, rfl, ex, z2⟩
        · have p0 := p
          unfold fiP at p0
          simp only [Bool.or_eq_true, not_or, Bool.not_eq_true] at p0
          obtain ⟨q1, q2⟩ := p0
          have p' : fiP w b (srows H)[mid].1 = false := by simpa using p
          have ex : ∀ i (h : i < (srows H).length), mid ≤ i → fiP w b (srows H)[i].1 = false := fun i h hi => by
            by_cases e : i = mid
            · subst e; exact p'
            · cases z : fiP w b (srows H)[i].1 with
              | false => rfl
              | true => have := fiP_mono (pm mid i m2 h (by omega)) z; rw [p'] at this; cases this
          cases b with
          | false =>
            simp_arith [ ↓B_first_index_1, em, ixI_map, Int.zero_add, Int.toNat_natCast, ce, lt, b_lenS, sl_str, cut_no, q1]
            exact ⟨_, by omega, lo, mid, rfl, by omega, by omega, rfl, z1, ex⟩
          | true =>
            have q2 : ¬ ((srows H)[mid].1).take w.length = w := by simpa using q2
            simp_arith [ ↓B_first_index_1, em, ixI_map, Int.zero_add, Int.toNat_natCast, ce, lt, b_lenS, sl_str, cut_no, q1, q2]
            exact ⟨_, by omega, lo, mid, rfl, by omega, by omega, rfl, z1, ex⟩
    · refine ⟨false, ?_, ?_⟩
      · simp_arith [ h]
      · rw [if_neg (by decide)]
        have e : lo = hi := by omega
        subst e
        have : fiN H w b = lo := countP_split _ _ _ (by omega) z1 z2
        rw [this]
  · subst he
    simp_arith []
theorem range_of_r {m : Nat} {H : Hs} (ok : HouseOk m H) (hm : m ≤ 1000) (w : List Char) (hw : w.length ≤ 100000) : s_range_of [.lst (H.map eH), .lst ((ord H).map eE), .str w] = .ok (.tup [.int (fiN H w false), .int (fiN H w true)]) := by
  unfold s_range_of
  rw [run_eq _ _ rfl]
  simp_arith [ d_range_of, first_index_r ok hm w hw]
end SH.C
end
section
set_option Elab.async false
set_option linter.all false
set_option autoImplicit false
set_option maxRecDepth 10000
/-! Plain law: drawn words (k15, k18). -/
namespace SH.C
open PySem SH
theorem ix4 (a b c d : D) (i : Int) (h : 0 ≤ i ∧ i < 4) : ixD (.lst [a, b, c, d]) (.int i) = .ok ([a, b, c, d].getD i.toNat .non) := by
  obtain ⟨h0, h1⟩ := h
  have : i = 0 ∨ i = 1 ∨ i = 2 ∨ i = 3 := by omega
  rcases this with rfl | rfl | rfl | rfl <;> rfl
def menu15 : List (List Char) := [[], [], ['a'], ['~']]
theorem menu15_ok (i : Nat) (h : i < menu15.length) : menu15[i].length ≤ 1 := by
  simp only [menu15, List.length_cons, List.length_nil] at h
  rcases i with _ | _ | _ | _ | i <;> simp [menu15]
  omega
theorem word15_ex {ds : List Int} (hd : Drawn ds) {m : Nat} {H : Hs} (ok : HouseOk m H) (hm : m ≤ 1000) {k : Int} (hk : 0 ≤ k) : ∃ w, s_l_word_15 [.lst (ds.map D.int), .int k, .lst (H.map eH)] = .ok (.str w) ∧ w.length ≤ m + 4 := by
  have key : ∃ r, s_l_word_15 [.lst (ds.map D.int), .int k, .lst (H.map eH)] = .ok r ∧ ∃ w, r = .str w ∧ w.length ≤ m + 4 := by
    have hl := ok.len
    unfold s_l_word_15
    refine run_sat rfl ?_
    have h1 := mix_lo hd hk (many := 4) (by omega)
    simp_arith [ d_l_word_15, mix_r hd]
    generalize hn : mixV ds k 4 = n at h1
    have hg : ∀ i, i < n.toNat → (mixV ds (k + 4 + i) 5).toNat < 5 := fun i hi => by
      have := mix_lo hd (k := k + 4 + i) (many := 5) (by omega) (by omega)
      omega
    rw [lc_rng (fun i => D.str [['a', 'b', ' ', '~', 'B'].getD (mixV ds (k + 4 + i) 5).toNat ' ']) (fun i hi => ?_) (by simp only [lim_is]; omega)]
    · simp_arith []
      rw [m_join1 (fun (i : Nat) => ['a', 'b', ' ', '~', 'B'].getD (mixV ds (k + 4 + i) 5).toNat ' ') _ (by simp only [lim_is, List.length_range]; omega)]
      have ht : ((List.range n.toNat).map fun (i : Nat) => ['a', 'b', ' ', '~', 'B'].getD (mixV ds (k + 4 + i) 5).toNat ' ').length ≤ 4 := by simp; omega
      generalize ((List.range n.toNat).map fun (i : Nat) => ['a', 'b', ' ', '~', 'B'].getD (mixV ds (k + 4 + i) 5).toNat ' ') = t at ht
      by_cases h0 : (0 : Int) < H.length
      · by_cases h2 : 0 < mixV ds (k + 1) 4
        · have h3 := mix_lo hd (k := k + 2) (many := H.length) (by omega) h0
          have h4 := (ok.txt _ (List.getElem_mem (show (mixV ds (k + 2) H.length).toNat < H.length by omega))).1
          have h5 := mix_lo hd (k := k + 1) (many := 4) (by omega) (by omega)
          have h6 := mix_lo hd (k := k) (many := 6) (by omega) (by omega)
          have hmenu : [D.str [], D.str [], D.str ['a'], D.str ['~']] = menu15.map D.str := rfl
          have hml : menu15.length = 4 := rfl
          have hq := menu15_ok (mixV ds (k + 1) 4).toNat (by omega)
          have h7 := mix_lo hd (k := k + 3) (many := ((H[(mixV ds (k + 2) H.length).toNat]'(by omega)).2.length : Int) + 1) (by omega) (by omega)
          have cl := cut_len (H[(mixV ds (k + 2) H.length).toNat]'(by omega)).2 (some (mixV ds (k + 3) (((H[(mixV ds (k + 2) H.length).toNat]'(by omega)).2.length : Int) + 1))) (some (mixV ds (k + 3) (((H[(mixV ds (k + 2) H.length).toNat]'(by omega)).2.length : Int) + 1) + mixV ds k 6))
          simp_arith [ mix_r hd, h0, h2, ixI_map, eP, ix_t1, b_lenS, hmenu, sl_str, o_cat]
          refine ⟨_, rfl, ?_⟩
          rw [List.length_append]
          omega
        · simp_arith [ mix_r hd, h0, h2]
          exact ⟨_, rfl, by omega⟩
      · simp_arith [ mix_r hd, h0]
        exact ⟨_, rfl, by omega⟩
    · have := mix_lo hd (k := k + 4 + i) (many := 5) (by omega) (by omega)
      have hlen : (['a', 'b', ' ', '~', 'B'] : List Char).length = 5 := rfl
      simp_arith [ lcG_n, mix_r hd, wipeE, tgIs, ixI_str, Int.zero_add, Int.toNat_natCast]
      rw [List.getD_eq_getElem?_getD, List.getElem?_eq_getElem (show (mixV ds (k + 4 + i) 5).toNat < (['a', 'b', ' ', '~', 'B'] : List Char).length from hg i hi)]
      rfl
  obtain ⟨r, h1, t, rfl, h2⟩ := key
  exact ⟨t, h1, h2⟩
end SH.C
end
section
set_option Elab.async false
set_option linter.all false
set_option autoImplicit false
set_option maxRecDepth 10000
/-! Plain law: texts put in and taken out. -/
namespace SH.C
open PySem SH
/-! ### what a text is -/
def letB (c : Char) : Bool := decide (32 ≤ c.toNat) && decide (c.toNat ≤ 126) && decide (c.toNat ≠ 37)
theorem letB_iff {c : Char} : letB c = true ↔ Let c := by
  unfold letB Let
  simp only [Bool.and_eq_true, decide_eq_true_eq]
  exact ⟨fun h => ⟨h.1.1, h.1.2, h.2⟩, fun h => ⟨⟨h.1, h.2.1⟩, h.2.2⟩⟩
def okT (t : List Char) : Bool := decide (t.length ≤ 40) && t.all letB
theorem ltS_11 (a b : Char) : ltS [a] [b] = decide (a.toNat < b.toNat) := by
  rw [ltS_cc, ltS_nn]; simp
theorem is_text_r (t : List Char) (ht : t.length ≤ 100000) : s_is_text [.str t] = .ok (.bl (okT t)) := by
  unfold s_is_text
  rw [run_eq _ _ rfl]
  unfold okT
  by_cases h : (t.length : Int) ≤ 40
  · have h' : t.length ≤ 40 := by omega
    simp_arith [ d_is_text, b_lenS, h]
    rw [lc_map (fun c => D.bl (letB c)) t (fun c _ => ?_) (by simp only [lim_is]; omega)]
    · have e : (t.map fun c => D.bl (letB c)) = (t.map letB).map D.bl := by simp
      simp_arith [ e, b_all]
      simp [h', List.all_map]
    · have c1 : (Char.toNat ' ') = 32 := rfl
      have c2 : (Char.toNat '~') = 126 := rfl
      unfold letB
      by_cases h1 : c.toNat < 32
      · have h1' : ¬ 32 ≤ c.toNat := by omega
        simp_arith [ lcG_n, wipeE, tgIs, ltS_11, c1, c2, h1, h1']
      · have h1' : 32 ≤ c.toNat := by omega
        by_cases h2 : 126 < c.toNat
        · have h2' : ¬ c.toNat ≤ 126 := by omega
          simp_arith [ lcG_n, wipeE, tgIs, ltS_11, c1, c2, h1, h1', h2, h2']
        · have h2' : c.toNat ≤ 126 := by omega
          by_cases h3 : (c.toNat : Int) = 37
          · have h3' : c.toNat = 37 := by omega
            simp_arith [ lcG_n, wipeE, tgIs, ltS_11, c1, c2, h1, h1', h2, h2', h3, h3', ne_eq]
            rfl
          · have h3' : ¬ c.toNat = 37 := by omega
            simp_arith [ lcG_n, wipeE, tgIs, ltS_11, c1, c2, h1, h1', h2, h2', h3, h3', ne_eq]
  · have h' : ¬ t.length ≤ 40 := by omega
    simp_arith [ d_is_text, b_lenS, h]
    simp [h']
/-! ### a text more -/
def putH (H : Hs) (n : Int) (t : List Char) : Hs := sortE eH (H ++ [(n, t)])
theorem putH_mem {H : Hs} {n : Int} {t : List Char} {p : Int × List Char} : p ∈ putH H n t ↔ p ∈ H ∨ p = (n, t) := by
  unfold putH; rw [sortE_mem]; simp
theorem leE_H {p q : Int × List Char} (h : leE eH p q = true) : p.1 < q.1 ∨ p.1 = q.1 := by
  unfold leE at h
  simp only [Bool.not_eq_true'] at h
  have h : (if q.1 = p.1 then ltS q.2 p.2 else decide (q.1 < p.1)) = false := h
  by_cases e : q.1 = p.1
  · exact .inr e.symm
  · rw [if_neg e] at h
    simp at h
    omega
theorem putH_ok {m : Nat} {H : Hs} (ok : HouseOk m H) {n : Int} {t : List Char} (hn : 0 ≤ n ∧ n ≤ 99) (hx : (tx H n).isSome = false) (h8 : H.length ≠ 8) (ht : TextOk m t) : HouseOk m (putH H n t) := by
  have hl := ok.len
  refine ⟨?_, ?_, fun p hp => ?_, fun p hp => ?_⟩
  · unfold putH; rw [sortE_len]; simp; omega
  · have h1 := sortE_pw (f := eH) (H ++ [(n, t)])
    have nd : (H ++ [(n, t)]).Pairwise fun p q => p.1 ≠ q.1 := by
      rw [List.pairwise_append]
      refine ⟨ok.asc.imp fun h => by omega, by simp, fun p hp q hq => ?_⟩
      simp at hq
      subst hq
      intro e
      have : n ∈ H.map (·.1) := List.mem_map.mpr ⟨p, hp, e⟩
      rw [tx_mem, decide_eq_false_iff_not] at hx
      exact hx this
    have nd2 : (putH H n t).Pairwise fun p q => p.1 ≠ q.1 := ((sortE_perm (f := eH) (H ++ [(n, t)])).pairwise_iff (fun h => Ne.symm h)).mpr nd
    have := h1.and nd2
    refine List.Pairwise.imp (fun h => ?_) this
    rcases leE_H h.1 with z | z
    · exact z
    · exact absurd z h.2
  · rcases putH_mem.mp hp with h | rfl
    · exact ok.num p h
    · exact hn
  · rcases putH_mem.mp hp with h | rfl
    · exact ok.txt p h
    · exact ht
theorem with_text_r {m : Nat} {H : Hs} (ok : HouseOk m H) (n : Int) (t : List Char) (ht : t.length ≤ 100000) : s_with_text [.lst (H.map eH), .int n, .str t] =
    if 0 ≤ n ∧ n ≤ 99 then (if (tx H n).isSome = true then .exc 5 n else if okT t = true then (if H.length = 8 then .exc 4 n else .ok (.lst ((putH H n t).map eH))) else .exc 2 n) else .exc 7 n := by
  have hl := ok.len
  unfold s_with_text
  rw [run_eq _ _ rfl]
  by_cases h1 : 0 ≤ n
  · by_cases h2 : n ≤ 99
    · rw [if_pos ⟨h1, h2⟩]
      cases h3 : (tx H n).isSome with
      | true => simp_arith [ d_with_text, h1, h2, has_number_r, h3]
      | false =>
        cases h4 : okT t with
        | false => simp_arith [ d_with_text, h1, h2, has_number_r, h3, is_text_r, h4]
        | true =>
          by_cases h5 : (H.length : Int) = 8
          · have h5' : H.length = 8 := by omega
            simp_arith [ d_with_text, h1, h2, has_number_r, h3, is_text_r, h4, h5]
            simp [h5']
          · have h5' : ¬ H.length = 8 := by omega
            have e : H.map eH ++ [D.tup [.int n, .str t]] = (H ++ [(n, t)]).map eH := by simp [eP]
            have hq : (H ++ [(n, t)]).length ≤ lim := by simp only [List.length_append, List.length_cons, List.length_nil, lim_is]; omega
            simp_arith [ d_with_text, h1, h2, has_number_r, h3, is_text_r, h4, h5, h5', e, b_sorted hq, putH]
    · rw [if_neg (fun h => h2 h.2)]
      simp_arith [ d_with_text, h1, h2]
  · rw [if_neg (fun h => h1 h.1)]
    simp_arith [ d_with_text, h1]
/-! ### two orders made one -/
theorem merge_eq {xs ys : List (List Char × (Int × Int))} (h1 : xs.Pairwise fun a b => leE eR a b = true) (h2 : ys.Pairwise fun a b => leE eR a b = true) : xs.merge ys (leE eR) = sortE eR (xs ++ ys) :=
  (sortE_eq (List.merge_perm_append (leE eR)).symm (List.pairwise_merge (fun a b c => leE_trans a b c) leE_total xs ys h1 h2)).symm
theorem merged_r {m : Nat} {H : Hs} (ok : HouseOk m H) (hm : m ≤ 1000) (A B : List (List Char × (Int × Int))) (hA : ∀ r ∈ A, r ∈ rows H) (hB : ∀ r ∈ B, r ∈ rows H) (ne : ∀ a ∈ A, ∀ b ∈ B, a.2.1 ≠ b.2.1) (la : A.length ≤ 50000) (lb : B.length ≤ 50000) :
    s_merged [.lst (H.map eH), .lst ((A.map (·.2)).map eE), .lst ((B.map (·.2)).map eE)] = .ok (.lst (((A.merge B (leE eR)).map (·.2)).map eE)) := by
  have let_r : ∀ r : List Char × (Int × Int), r ∈ rows H → s_letters_of [.lst (H.map eH), .tup [.int r.2.1, .int r.2.2]] = .ok (.str r.1) := fun r hr => by
    have h2 : r.2 ∈ ord H := List.mem_map.mpr ⟨r, srows_mem.mpr hr, rfl⟩
    rw [letters_of_e ok hm h2, ← (rows_let ok hr).2.1]
  have cmp : ∀ a ∈ A, ∀ b ∈ B, cmpD .lt (.tup [.str a.1, .int a.2.1]) (.tup [.str b.1, .int b.2.1]) = .ok (leE eR a b) := fun a ha b hb => by
    have n := ne a ha b hb
    have := ltD_P (f := D.str) (g := D.int) (a.1, a.2.1) (b.1, b.2.1)
    refine this.trans ?_
    congr 1
    show (if a.1 = b.1 then decide (a.2.1 < b.2.1) else ltS a.1 b.1) = !(if b.1 = a.1 then (if b.2.1 = a.2.1 then decide (b.2.2 < a.2.2) else decide (b.2.1 < a.2.1)) else ltS b.1 a.1)
    by_cases e : a.1 = b.1
    · rw [if_pos e, if_pos e.symm, if_neg n.symm]
      by_cases q : a.2.1 < b.2.1
      · simp [q]; omega
      · simp [q]; omega
    · rw [if_neg e, if_neg (Ne.symm e)]
      cases q : ltS b.1 a.1 with
      | true =>
        cases q2 : ltS a.1 b.1 with
        | true => have := ltS_tr q q2; rw [ltS_irr] at this; cases this
        | false => rfl
      | false =>
        cases q2 : ltS a.1 b.1 with
        | true => rfl
        | false => exact absurd (ltS_tot q2 q) e
  unfold s_merged
  refine run_is rfl ?_
  have eB : (B.map (·.2)).map eE = B.map fun r => eE r.2 := by simp
  rw [eB]
  simp_arith [ d_merged]
  refine sat_to (for_inv B (fun d e => ∃ (F : List (List Char × (Int × Int))) (i : Nat) (r : List (List Char × (Int × Int))), B = d ++ r ∧ i ≤ A.length ∧ F.length = i + d.length ∧ A.merge B (leE eR) = F ++ (A.drop i).merge r (leE eR) ∧
    e = [some (.lst (H.map eH)), some (.lst ((A.map (·.2)).map eE)), some (.lst (B.map fun r => eE r.2)), some (.lst ((F.map (·.2)).map eE)), some (.int i), none, none]) ⟨[], 0, B, rfl, by omega, rfl, by simp, rfl⟩ (fun d b r hd e he => ?_) fun e he => he) fun e he => ?_
  · obtain ⟨F, i, r', hr, hi, hF, hM, rfl⟩ := he
    have : r' = b :: r := by rw [hd] at hr; exact (List.append_cancel_left hr).symm
    subst this
    refine ⟨_, rfl, ?_⟩
    have hb : b ∈ B := by rw [hd]; simp
    have lb' := let_r b (hB b hb)
    have ld : d.length + r.length + 1 = B.length := by rw [hd]; simp; omega
    simp_arith [ ↓B_merged_2, eP, lb', ix_t0]
    refine sat_to (wh_sat (fun k e => ∃ (F : List (List Char × (Int × Int))) (i : Nat), i ≤ A.length ∧ F.length = i + d.length ∧ k = A.length - i ∧ A.merge B (leE eR) = F ++ (A.drop i).merge (b :: r) (leE eR) ∧
      e = [some (.lst (H.map eH)), some (.lst ((A.map (·.2)).map eE)), some (.lst (B.map fun r => eE r.2)), some (.lst ((F.map (·.2)).map eE)), some (.int i), some (.tup [.int b.2.1, .int b.2.2]), some (.tup [.str b.1, .int b.2.1])])
      100000 (A.length - i) _ ⟨F, i, hi, hF, rfl, hM, rfl⟩ (by omega)
      (N := fun e => ∃ (F : List (List Char × (Int × Int))) (i : Nat), i ≤ A.length ∧ F.length = i + d.length ∧ A.merge B (leE eR) = F ++ b :: (A.drop i).merge r (leE eR) ∧
        e = [some (.lst (H.map eH)), some (.lst ((A.map (·.2)).map eE)), some (.lst (B.map fun r => eE r.2)), some (.lst ((F.map (·.2)).map eE)), some (.int i), some (.tup [.int b.2.1, .int b.2.2]), some (.tup [.str b.1, .int b.2.1])]) fun k e he => ?_) fun e he => ?_
    · obtain ⟨F, i, hi, hF, rfl, hM, rfl⟩ := he
      by_cases h : (i : Int) < A.length
      · have hi' : i < A.length := by omega
        have da : A.drop i = A[i] :: A.drop (i + 1) := List.drop_eq_getElem_cons hi'
        have ha : A[i] ∈ A := List.getElem_mem hi'
        have la' := let_r A[i] (hA _ ha)
        have hc := cmp _ ha _ hb
        have ml : ((A.map (·.2)).map eE).length = A.length := by simp
        have gx : ∀ h, ((A.map (·.2)).map eE)[i]'h = D.tup [.int A[i].2.1, .int A[i].2.2] := fun h => by simp [eP]
        rw [da, List.cons_merge_cons] at hM
        cases q : leE eR A[i] b with
        | true =>
          rw [q] at hc
          rw [if_pos q] at hM
          refine ⟨true, ?_, ?_⟩
          · simp_arith [ h, ixI_lst, ml, Int.zero_add, Int.toNat_natCast, gx, la', ix_t0, hc]
          · rw [if_pos rfl]
            have hq : ((F.map (·.2)).map eE).length < lim := by simp only [List.length_map, lim_is]; omega
            have ef : (F.map (·.2)).map eE ++ [D.tup [.int A[i].2.1, .int A[i].2.2]] = ((F ++ [A[i]]).map (·.2)).map eE := by simp [eP]
            simp_arith [ ↓B_merged_1, ixI_lst, ml, Int.zero_add, Int.toNat_natCast, gx, m_append hq, ef]
            refine ⟨_, by omega, F ++ [A[i]], i + 1, by omega, by simp; omega, rfl, by simpa using hM, rfl⟩
        | false =>
          rw [q] at hc
          rw [if_neg (by rw [q]; decide)] at hM
          refine ⟨false, ?_, ?_⟩
          · simp_arith [ h, ixI_lst, ml, Int.zero_add, Int.toNat_natCast, gx, la', ix_t0, hc]
          · rw [if_neg (by decide)]
            exact ⟨F, i, hi, hF, by rw [da]; exact hM, rfl⟩
      · refine ⟨false, ?_, ?_⟩
        · simp_arith [ h]
        · rw [if_neg (by decide)]
          refine ⟨F, i, hi, hF, ?_, rfl⟩
          rw [List.drop_eq_nil_of_le (by omega)] at hM ⊢
          simpa using hM
    · obtain ⟨F, i, hi, hF, hM, rfl⟩ := he
      have hq : ((F.map (·.2)).map eE).length < lim := by simp only [List.length_map, lim_is]; omega
      have ef : (F.map (·.2)).map eE ++ [D.tup [.int b.2.1, .int b.2.2]] = ((F ++ [b]).map (·.2)).map eE := by simp [eP]
      simp_arith [ m_append hq, ef]
      exact ⟨F ++ [b], i, r, by rw [hd]; simp, hi, by simp; omega, by simpa using hM, rfl⟩
  · obtain ⟨F, i, r, hr, hi, hF, hM, rfl⟩ := he
    have : r = [] := by simpa using hr
    subst this
    rw [List.merge_right] at hM
    have hq : ((F.map (·.2)).map eE).length + (((A.map (·.2)).map eE).drop i).length ≤ lim := by simp only [List.length_map, List.length_drop, lim_is]; omega
    simp_arith [ cut_on, o_app hq]
    rw [hM]
    simp
end SH.C
end
section
set_option Elab.async false
set_option linter.all false
set_option autoImplicit false
set_option maxRecDepth 10000
/-! Plain law: orders with and without a text. -/
namespace SH.C
open PySem SH
theorem sortE_filter {α : Type} {f : α → D} [Oe f] (xs : List α) (p : α → Bool) : sortE f (xs.filter p) = (sortE f xs).filter p :=
  sortE_eq ((sortE_perm xs).symm.filter p) ((sortE_pw xs).sublist List.filter_sublist)
def dropH (H : Hs) (n : Int) : Hs := H.filter fun p => !decide (p.1 = n)
theorem dropH_ok {m : Nat} {H : Hs} (ok : HouseOk m H) (n : Int) : HouseOk m (dropH H n) := by
  refine ⟨Nat.le_trans (List.length_filter_le _ _) ok.len, ok.asc.sublist List.filter_sublist, fun p hp => ok.num p (List.mem_filter.mp hp).1, fun p hp => ok.txt p (List.mem_filter.mp hp).1⟩
theorem rows_drop (n : Int) : ∀ H : Hs, rows (dropH H n) = (rows H).filter fun r => !decide (r.2.1 = n)
  | [] => rfl
  | p :: H => by
    have ih := rows_drop n H
    have e : rows (p :: H) = rowsT p ++ rows H := by simp [rows]
    rw [e, List.filter_append, ← ih]
    by_cases h : p.1 = n
    · have d : dropH (p :: H) n = dropH H n := by simp [dropH, h]
      have z : (rowsT p).filter (fun r => !decide (r.2.1 = n)) = [] := by
        rw [List.filter_eq_nil_iff]
        intro r hr
        obtain ⟨s, _, rfl⟩ := List.mem_map.mp hr
        simp [h]
      rw [d, z]; rfl
    · have d : dropH (p :: H) n = p :: dropH H n := by simp [dropH, h]
      have z : (rowsT p).filter (fun r => !decide (r.2.1 = n)) = rowsT p := by
        rw [List.filter_eq_self]
        intro r hr
        obtain ⟨s, _, rfl⟩ := List.mem_map.mp hr
        simp [h]
      rw [d, z]; simp [rows]
theorem ord_drop (H : Hs) (n : Int) : ord (dropH H n) = (ord H).filter fun e => !decide (e.1 = n) := by
  unfold ord srows
  rw [rows_drop, sortE_filter, List.filter_map]
  rfl
theorem without_text_r {m : Nat} {H : Hs} (ok : HouseOk m H) (n : Int) : s_without_text [.lst (H.map eH), .int n] = if (tx H n).isSome = true then .ok (.lst ((dropH H n).map eH)) else .exc 6 n := by
  have hl := ok.len
  unfold s_without_text
  rw [run_eq _ _ rfl]
  cases h : tx H n with
  | none => simp_arith [ d_without_text, text_of_r, h, Option.isSome]
  | some t =>
    simp_arith [ d_without_text, text_of_r, h, Option.isSome]
    rw [lc_if (fun p => !decide (p.1 = n)) eH H (fun p _ => ?_) (by simp only [lim_is]; omega)]
    · simp_arith []
      rfl
    · by_cases e : p.1 = n
      · simp_arith [ lcG_s, wipeE, tgIs, eP, ix_t0, e]
      · simp_arith [ lcG_s, wipeE, tgIs, eP, ix_t0, e]
theorem order_without_r {m : Nat} {H : Hs} (ok : HouseOk m H) (hm : m ≤ 1000) (n : Int) : s_order_without [.lst (H.map eH), .lst ((ord H).map eE), .int n] = if (tx H n).isSome = true then .ok (.lst ((ord (dropH H n)).map eE)) else .exc 6 n := by
  have hr := rows_len ok
  have ho := ord_len H
  unfold s_order_without
  rw [run_eq _ _ rfl]
  cases h : (tx H n).isSome with
  | false => simp_arith [ d_order_without, without_text_r ok, h]
  | true =>
    simp_arith [ d_order_without, without_text_r ok, h]
    rw [lc_if (fun p => !decide (p.1 = n)) eE (ord H) (fun p _ => ?_) (by simp only [lim_is]; omega)]
    · simp_arith [ ord_drop]
    · by_cases e : p.1 = n
      · simp_arith [ lcG_s, wipeE, tgIs, eP, ix_t0, e]
      · simp_arith [ lcG_s, wipeE, tgIs, eP, ix_t0, e]
/-! ### with a text -/
abbrev eSI : List Char × Int → D := eP D.str D.int
theorem rows_perm {H K : Hs} (p : H.Perm K) : (rows H).Perm (rows K) := p.flatMap_right _
theorem putH_perm (H : Hs) (n : Int) (t : List Char) : (putH H n t).Perm (H ++ [(n, t)]) := sortE_perm _
theorem rows_put (H : Hs) (n : Int) (t : List Char) : (rows (putH H n t)).Perm (rows H ++ rowsT (n, t)) := by
  have := rows_perm (putH_perm H n t)
  rwa [rows_snoc] at this
def tRows (n : Int) (t : List Char) : List (List Char × (Int × Int)) := (sortE eSI ((List.range (t.length + 1)).map fun (s : Nat) => (t.drop s, (s : Int)))).map fun r => (r.1, (n, r.2))
theorem tRows_perm (n : Int) (t : List Char) : (tRows n t).Perm (rowsT (n, t)) := by
  unfold tRows rowsT rowsN
  refine ((sortE_perm _).map _).trans ?_
  rw [List.map_map]
  exact List.Perm.refl _
theorem tRows_pw (n : Int) (t : List Char) : (tRows n t).Pairwise fun a b => leE eR a b = true := by
  unfold tRows
  rw [List.pairwise_map]
  refine (sortE_pw (f := eSI) _).imp fun {a b} h => ?_
  unfold leE at *
  simp only [Bool.not_eq_true'] at *
  have h : (if b.1 = a.1 then decide (b.2 < a.2) else ltS b.1 a.1) = false := h
  show (if b.1 = a.1 then (if n = n then decide (b.2 < a.2) else decide (n < n)) else ltS b.1 a.1) = false
  simpa using h
theorem order_with_r {m : Nat} {H : Hs} (ok : HouseOk m H) (hm : m ≤ 1000) (n : Int) (t : List Char) (ht : t.length ≤ 1000) : s_order_with [.lst (H.map eH), .lst ((ord H).map eE), .int n, .str t] =
    if 0 ≤ n ∧ n ≤ 99 then (if (tx H n).isSome = true then .exc 5 n else if okT t = true then (if H.length = 8 then .exc 4 n else .ok (.lst ((ord (putH H n t)).map eE))) else .exc 2 n) else .exc 7 n := by
  have hr := rows_len ok
  have ho := ord_len H
  have hs := srows_len H
  have hw := with_text_r ok n t (by omega)
  unfold s_order_with
  rw [run_eq _ _ rfl]
  by_cases h1 : 0 ≤ n ∧ n ≤ 99
  · rw [if_pos h1] at hw ⊢
    cases h2 : (tx H n).isSome with
    | true =>
      rw [if_pos h2] at hw
      simp_arith [ d_order_with, hw]
    | false =>
      rw [if_neg (by rw [h2]; decide)] at hw
      cases h3 : okT t with
      | false =>
        rw [if_neg (by rw [h3]; decide)] at hw
        simp_arith [ d_order_with, hw]
      | true =>
        rw [if_pos h3] at hw
        by_cases h4 : H.length = 8
        · rw [if_pos h4] at hw
          simp_arith [ d_order_with, hw]
          simp [h4]
        · rw [if_neg h4] at hw
          have hT : TextOk (max m 40) t := by
            unfold okT at h3
            rw [Bool.and_eq_true, decide_eq_true_eq, List.all_eq_true] at h3
            exact ⟨by omega, fun c hc => letB_iff.mp (h3.2 c hc)⟩
          have ok2 : HouseOk (max m 40) H := ⟨ok.len, ok.asc, ok.num, fun p hp => (ok.txt p hp).le (by omega)⟩
          have okP := putH_ok ok2 h1 h2 h4 hT
          have hp := rows_put H n t
          have tp := tRows_perm n t
          have tpl : (tRows n t).length = t.length + 1 := by rw [tp.length_eq]; unfold rowsT; rw [rowsN_len]
          have hmem : n ∉ H.map (·.1) := by
            intro z
            rw [tx_mem] at h2
            simp only [decide_eq_false_iff_not] at h2
            exact h2 z
          have mg := merged_r okP (by omega) (srows H) (tRows n t) (fun r h => hp.mem_iff.mpr (List.mem_append_left _ (srows_mem.mp h))) (fun r h => hp.mem_iff.mpr (List.mem_append_right _ (tp.mem_iff.mp h)))
            (fun a ha b hb e => by
              obtain ⟨p, hp1, s, _, rfl⟩ := rows_mem.mp (srows_mem.mp ha)
              obtain ⟨s2, _, rfl⟩ := List.mem_map.mp (tp.mem_iff.mp hb)
              exact hmem (List.mem_map.mpr ⟨p, hp1, e⟩)) (by omega) (by omega)
          have em : (srows H).merge (tRows n t) (leE eR) = srows (putH H n t) := by
            rw [merge_eq (show (srows H).Pairwise (fun a b => leE eR a b = true) from sortE_pw _) (tRows_pw n t)]
            refine sortE_congr ?_
            exact ((sortE_perm _).append tp).trans hp.symm
          rw [em] at mg
          have mg : s_merged [.lst ((putH H n t).map eH), .lst ((ord H).map eE), .lst (((tRows n t).map (·.2)).map eE)] = .ok (.lst ((ord (putH H n t)).map eE)) := mg
          have ec : ((t.length : Int) + 1).toNat = t.length + 1 := by omega
          simp_arith [ d_order_with, hw, b_lenS, ec]
          rw [lc_rng (fun s => eSI (t.drop s, (s : Int))) (fun i hi => ?_) (by simp only [lim_is]; omega)]
          · have e1 : ((List.range (t.length + 1)).map fun (s : Nat) => eSI (t.drop s, (s : Int))) = ((List.range (t.length + 1)).map fun (s : Nat) => (t.drop s, (s : Int))).map eSI := by simp
            have hq : ((List.range (t.length + 1)).map fun (s : Nat) => (t.drop s, (s : Int))).length ≤ lim := by simp only [List.length_map, List.length_range, lim_is]; omega
            simp_arith [ e1, b_sorted hq]
            rw [lc_map (fun r => eE (n, r.2)) (sortE eSI ((List.range (t.length + 1)).map fun (s : Nat) => (t.drop s, (s : Int)))) (fun r _ => ?_) (by rw [sortE_len]; exact hq)]
            · have e2 : ((sortE eSI ((List.range (t.length + 1)).map fun (s : Nat) => (t.drop s, (s : Int)))).map fun r => eE (n, r.2)) = ((tRows n t).map (·.2)).map eE := by simp [tRows]
              simp_arith [ e2, mg]
              simp [h4]
            · simp_arith [ lcG_n, wipeE, tgIs, eP]
          · simp_arith [ lcG_n, wipeE, tgIs, eP, Int.zero_add, Int.toNat_natCast, sl_str, cut_on]
  · rw [if_neg h1] at hw ⊢
    simp_arith [ d_order_with, hw]
end SH.C
end
section
set_option Elab.async false
set_option linter.all false
set_option autoImplicit false
set_option maxRecDepth 10000
/-! Plain law: parts of a body, paths, small lists. -/
namespace SH
open PySem
def takeC : Nat → CSs → CSs
  | 0, _ => .nil
  | n + 1, .cons s ss => .cons s (takeC n ss)
  | _ + 1, .nil => .nil
  | _ + 1, .ali x i e a => .ali x i e a
def dropC : Nat → CSs → CSs
  | 0, ss => ss
  | n + 1, .cons _ ss => dropC n ss
  | _ + 1, .nil => .nil
  | _ + 1, .ali _ _ _ _ => .nil
theorem seq_nil' (r : Fl) : r.seq .nil = r := by
  cases r with
  | nx e => exact evSs_nil e
  | _ => rfl
theorem evSs_at : ∀ (k : Nat) (b : CSs) (env : Env), evSs b env = (evSs (takeC k b) env).seq (dropC k b)
  | 0, b, env => by rw [takeC, dropC, evSs_nil]; rfl
  | k + 1, .nil, env => by rw [takeC, dropC, evSs_nil]; exact (evSs_nil env).symm
  | k + 1, .ali x i e a, env => by rw [takeC, dropC, seq_nil']
  | k + 1, .cons s ss, env => by
    rw [takeC, dropC, evSs_cons, evSs_cons]
    cases evS s env with
    | nx e => exact evSs_at k ss e
    | _ => rfl
/-- a body in two parts -/
theorem at_split (k : Nat) {b : CSs} {env : Env} {M N : Env → Prop} {T : D → Prop} (h1 : (evSs (takeC k b) env).sat M T) (h2 : ∀ e, M e → (evSs (dropC k b) e).sat N T) : (evSs b env).sat N T := by
  rw [evSs_at k b env]
  exact sat_to h1 h2
theorem ix3i (a b c : Int) {v : Int} (h : 0 ≤ v ∧ v < 3) : ixD (.lst [.int a, .int b, .int c]) (.int v) = .ok (.int ([a, b, c].getD v.toNat 0)) := by
  have : v = 0 ∨ v = 1 ∨ v = 2 := by omega
  rcases this with rfl | rfl | rfl <;> rfl
theorem ix2s (a b : List Char) {v : Int} (h : 0 ≤ v ∧ v < 2) : ixD (.lst [.str a, .str b]) (.int v) = .ok (.str ([a, b].getD v.toNat [])) := by
  have : v = 0 ∨ v = 1 := by omega
  rcases this with rfl | rfl <;> rfl
theorem ix2i (a b : Int) {v : Int} (h : 0 ≤ v ∧ v < 2) : ixD (.lst [.int a, .int b]) (.int v) = .ok (.int ([a, b].getD v.toNat 0)) := by
  have : v = 0 ∨ v = 1 := by omega
  rcases this with rfl | rfl <;> rfl
theorem place0 (n : Nat) (h : 0 < n) : place 0 n = some 0 := by unfold place; rw [if_pos (by omega), if_pos (by omega)]; rfl
theorem step_t0 (a : D) (r : List D) : stepD (.tup (a :: r)) (.int 0) = some a := by
  unfold stepD; simp only; rw [place0 _ (by simp)]; rfl
theorem place1 (n : Nat) (h : 1 < n) : place 1 n = some 1 := by unfold place; rw [if_pos (by omega), if_pos (by omega)]; rfl
theorem step_t1 (a b : D) (r : List D) : stepD (.tup (a :: b :: r)) (.int 1) = some b := by
  unfold stepD; simp only; rw [place1 _ (by simp)]; rfl
theorem set_t1 (a b c : D) (r : List D) : setD (.tup (a :: b :: r)) (.int 1) c = .tup (a :: c :: r) := by
  unfold setD; simp only; rw [place1 _ (by simp)]; rfl
theorem step_l0 (a : D) (r : List D) : stepD (.lst (a :: r)) (.int 0) = some a := by
  unfold stepD; simp only; rw [place0 _ (by simp)]; rfl
theorem set_l0 (a c : D) (r : List D) : setD (.lst (a :: r)) (.int 0) c = .lst (c :: r) := by
  unfold setD; simp only; rw [place0 _ (by simp)]; rfl
/-- a part of a thing made anew -/
def updK (d p : D) (r : Res D) : Res D := r >>= fun y => .ok (setD d p y)
theorem updK_ok {d p y : D} : updK d p (.ok y) = .ok (setD d p y) := rfl
theorem upd_cons {f : D → Res D} {p : D} {ps : List D} {d x : D} (h : stepD d p = some x) : updAt f (p :: ps) d = updK d p (updAt f ps x) := by
  rw [updAt, h]; rfl
theorem sub1 (t : List Char) (c : Char) : subS t [c] = decide (c ∈ t) := rfl
end SH
end
section
set_option Elab.async false
set_option linter.all false
set_option autoImplicit false
set_option maxRecDepth 10000
/-! Plain law: drawn words (k30 ..). -/
namespace SH.C
open PySem SH
def menu30 : List (List Char) := [['a', 'b'], ['a', 'b', 'c'], ['a'], ['a', 'b', ' ', '~']]
theorem menu30_all : ∀ w ∈ menu30, MenuOk w := by
  intro w hw
  simp only [menu30, List.mem_cons, List.not_mem_nil, or_false] at hw
  rcases hw with rfl | rfl | rfl | rfl <;> exact ⟨by decide, by decide, by unfold Let; decide⟩
theorem menu30_ok (i : Nat) (h : i < menu30.length) : MenuOk menu30[i] := menu30_all _ (List.getElem_mem h)
theorem TextOk.snoc {n : Nat} {t : List Char} {c : Char} (h : TextOk n t) (hc : Let c) : TextOk (n + 1) (t ++ [c]) := by
  refine ⟨by have := h.1; simp; omega, fun d hd => ?_⟩
  rcases List.mem_append.mp hd with q | q
  · exact h.2 d q
  · simp at q; rw [q]; exact hc
theorem wordA_ex {ds : List Int} (hd : Drawn ds) {k : Int} (hk : 0 ≤ k) (most : Nat) (hm : most ≤ 1000) : ∃ t, s_l_word_30 [.lst (ds.map D.int), .int k, .int most] = .ok (.str t) ∧ TextOk most t := by
  have key : ∃ r, s_l_word_30 [.lst (ds.map D.int), .int k, .int most] = .ok r ∧ ∃ t, r = .str t ∧ TextOk most t := by
    unfold s_l_word_30
    refine run_sat rfl ?_
    have h1 := at_lo hd (k := k + 1) (many := 4) (by omega) (by omega)
    have h2 := at_lo hd (k := k) (many := most + 1) (by omega) (by omega)
    have hmenu : [D.str ['a', 'b'], D.str ['a', 'b', 'c'], D.str ['a'], D.str ['a', 'b', ' ', '~']] = menu30.map D.str := rfl
    have hml : menu30.length = 4 := rfl
    simp_arith [ d_l_word_30, at_r hd, hmenu, ixI_map]
    have hL := menu30_ok (atV ds (k + 1) 4).toNat (by omega)
    generalize menu30[(atV ds (k + 1) 4).toNat]'_ = L at hL
    obtain ⟨hL1, hL2, hL3⟩ := hL
    refine sat_to (for_rng _ (fun i e => ∃ t, e = [some (.lst (ds.map D.int)), some (.int k), some (.int most), some (.str L), some (.str t), none] ∧ TextOk i t) ⟨[], rfl, by simp [TextOk]⟩ (fun i hi e he => ?_) fun e he => he) fun e he => ?_
    · obtain ⟨t, rfl, ht⟩ := he
      refine ⟨_, rfl, ?_⟩
      have tl := ht.1
      have hi' : i ≤ 1000 := by omega
      have hm9 : 0 ≤ (i : Int) % 9 := by omega
      have h3 := at_lo hd (k := k + 2 + (i : Int) % 9) (many := 60000) (by omega) (by omega)
      have hx : 0 ≤ atV ds (k + 2 + (i : Int) % 9) 60000 / (1 + (i : Int) / 9) % (L.length : Int) ∧ atV ds (k + 2 + (i : Int) % 9) 60000 / (1 + (i : Int) / 9) % (L.length : Int) < L.length := ⟨Int.emod_nonneg _ (by omega), Int.emod_lt_of_pos _ (by omega)⟩
      have hq : (i : Int) / 9 < 1000 := by omega
      have hq0 : 0 ≤ (i : Int) / 9 := by omega
      simp_arith [ ↓B_l_word_30_1, at_r hd, Int.zero_add, Int.toNat_natCast, b_lenS, ixI_str, o_cat]
      exact ⟨_, rfl, ht.snoc (hL3 _ (List.getElem_mem _))⟩
    · obtain ⟨t, rfl, ht⟩ := he
      simp_arith []
      exact ⟨t, rfl, ht.le (by omega)⟩
  obtain ⟨r, h1, t, rfl, h2⟩ := key
  exact ⟨t, h1, h2⟩
theorem abc4_all : ∀ c ∈ (['a', 'b', 'c', '~'] : List Char), Let c := by unfold Let; decide
theorem abc4 {i : Nat} (h : i < (['a', 'b', 'c', '~'] : List Char).length) : Let (['a', 'b', 'c', '~'] : List Char)[i] := abc4_all _ (List.getElem_mem h)
theorem near_ex {ds : List Int} (hd : Drawn ds) {k : Int} (hk : 0 ≤ k) {m : Nat} {w : List Char} (hw : TextOk m w) (hm : m ≤ 1000) : ∃ t, s_l_near_30 [.lst (ds.map D.int), .int k, .str w] = .ok (.str t) ∧ TextOk (m + 3) t := by
  have key : ∃ r, s_l_near_30 [.lst (ds.map D.int), .int k, .str w] = .ok r ∧ ∃ t, r = .str t ∧ TextOk (m + 3) t := by
    unfold s_l_near_30
    refine run_sat rfl ?_
    have h1 := at_lo hd (k := k) (many := 4) (by omega) (by omega)
    simp_arith [ d_l_near_30, at_r hd]
    refine sat_to (for_rng _ (fun i e => ∃ t, e = [some (.lst (ds.map D.int)), some (.int k), some (.str t), none, none, none, none] ∧ TextOk (m + i) t) ⟨w, rfl, hw⟩ (fun i hi e he => ?_) fun e he => he) fun e he => ?_
    · obtain ⟨t, rfl, ht⟩ := he
      refine ⟨_, rfl, ?_⟩
      have tl := ht.1
      have hi' : i ≤ 3 := by omega
      have h2 := at_lo hd (k := k + 1 + 2 * (i : Int)) (many := t.length + 1) (by omega) (by omega)
      have h3 := at_lo hd (k := k + 2 + 2 * (i : Int)) (many := 60000) (by omega) (by omega)
      have sub : ∀ u : List Char, u.length ≤ m + (i + 1) → (∀ c ∈ u, c ∈ t ∨ Let c) → TextOk (m + (i + 1)) u := fun u hl hc => ⟨hl, fun c h => (hc c h).elim (ht.2 c) id⟩
      obtain ⟨p, hp⟩ := Int.eq_ofNat_of_zero_le h2.1
      rw [hp] at h2
      generalize hcell : atV ds (k + 2 + 2 * (i : Int)) 60000 = cell at h3
      have h4 : 0 ≤ cell / 3 % 4 ∧ cell / 3 % 4 < 4 := by omega
      have hs4 : (['a', 'b', 'c', '~'] : List Char).length = 4 := rfl
      have lc := abc4 (i := (cell / 3 % 4).toNat) (by rw [hs4]; omega)
      have e1 : (p : Int) + 1 = ((p + 1 : Nat) : Int) := by omega
      have l1 : (t.take p).length ≤ t.length := by simp; omega
      have l2 : (t.drop p).length ≤ t.length := by simp
      have l3 : (t.drop (p + 1)).length ≤ t.length := by simp
      have l4 : (t.take p).length + (t.drop p).length = t.length := by simp; omega
      have l5 : (t.take p).length + (t.drop (p + 1)).length ≤ t.length := by simp; omega
      have fin : ∀ (u : List Char), TextOk (m + (i + 1)) u → ∃ t', [some (D.lst (ds.map D.int)), some (.int k), some (.str u), none, none, none, none] = [some (.lst (ds.map D.int)), some (.int k), some (.str t'), none, none, none, none] ∧ TextOk (m + (i + 1)) t' := fun u h => ⟨u, rfl, h⟩
      by_cases c0 : cell % 3 = 0
      · simp_arith [ ↓B_l_near_30_1, at_r hd, Int.zero_add, Int.toNat_natCast, b_lenS, hp, hcell, ixI_str, c0, sl_str, cut_no, cut_on, o_cat]
        refine fin _ (sub _ ?_ fun c hc => ?_)
        · simp only [List.length_append, List.length_cons, List.length_nil]; omega
        · simp only [List.mem_append, List.mem_cons, List.not_mem_nil, or_false] at hc
          rcases hc with (h | h) | h
          · exact .inl (List.mem_of_mem_take h)
          · rw [h]; exact .inr lc
          · exact .inl (List.mem_of_mem_drop h)
      · by_cases c1 : cell % 3 = 1
        · simp_arith [ ↓B_l_near_30_1, at_r hd, Int.zero_add, Int.toNat_natCast, b_lenS, hp, hcell, ixI_str, c1, (show decide ((1 : Int) = 0) = false from rfl), sl_str, cut_no, e1, cut_on, o_cat]
          refine fin _ (sub _ ?_ fun c hc => ?_)
          · simp only [List.length_append, List.length_cons, List.length_nil]; omega
          · simp only [List.mem_append, List.mem_cons, List.not_mem_nil, or_false] at hc
            rcases hc with h | h
            · exact .inl (List.mem_of_mem_take h)
            · exact .inl (List.mem_of_mem_drop h)
        · simp_arith [ ↓B_l_near_30_1, at_r hd, Int.zero_add, Int.toNat_natCast, b_lenS, hp, hcell, ixI_str, c0, c1, sl_str, cut_no, e1, cut_on, o_cat]
          refine fin _ (sub _ ?_ fun c hc => ?_)
          · simp only [List.length_append, List.length_cons, List.length_nil]; omega
          · simp only [List.mem_append, List.mem_cons, List.not_mem_nil, or_false] at hc
            rcases hc with (h | h) | h
            · exact .inl (List.mem_of_mem_take h)
            · rw [h]; exact .inr lc
            · exact .inl (List.mem_of_mem_drop h)
    · obtain ⟨t, rfl, ht⟩ := he
      simp_arith []
      exact ⟨t, rfl, ht.le (by omega)⟩
  obtain ⟨r, h1, t, rfl, h2⟩ := key
  exact ⟨t, h1, h2⟩
end SH.C
end
section
set_option Elab.async false
set_option linter.all false
set_option autoImplicit false
set_option maxRecDepth 10000
/-! Plain law: texts and houses of the k00 family; is_house. -/
namespace SH.C
open PySem SH
theorem strIxA {s : List Char} {v : Int} {j : Nat} (hv : v = j) (hl : s.length ≤ 100000) (h : j < s.length) : ixD (.str s) (.int v) = .ok (.str [s[j]]) := by
  subst hv
  rw [ixI_str (by simp only [lim_is]; omega) (by omega) (by omega)]
  simp only [Int.toNat_natCast]
def tab00 : List Char := [' ', '!', '"', '#', '$', '&', '\'', '(', ')', '*', '+', ',', '-', '.', '/', '0', '1', '2', '3', '4', '5', '6', '7', '8', '9', ':', ';', '<', '=', '>', '?', '@', 'A', 'B', 'C', 'D', 'E', 'F', 'G', 'H', 'I', 'J', 'K', 'L', 'M', 'N', 'O', 'P', 'Q', 'R', 'S', 'T', 'U', 'V', 'W', 'X', 'Y', 'Z', '[', '\\', ']', '^', '_', '`', 'a', 'b', 'c', 'd', 'e', 'f', 'g', 'h', 'i', 'j', 'k', 'l', 'm', 'n', 'o', 'p', 'q', 'r', 's', 't', 'u', 'v', 'w', 'x', 'y', 'z', '{', '|', '}', '~']
theorem tab00_all : ∀ c ∈ tab00, Let c := by unfold Let; decide +kernel
theorem tab00_len : tab00.length = 94 := rfl
theorem letter00_r (v : Int) (hv : 0 ≤ v) : ∃ c, s_l_letter_00 [.int v] = .ok (.str [c]) ∧ Let c := by
  have h : 0 ≤ v % 94 ∧ v % 94 < 94 := by omega
  have cx := strIxA (s := tab00) (v := v % 94) (j := (v % 94).toNat) (by omega) (by rw [tab00_len]; omega) (by rw [tab00_len]; omega)
  refine ⟨_, ?_, tab00_all _ (List.getElem_mem (show (v % 94).toNat < tab00.length by rw [tab00_len]; omega))⟩
  unfold s_l_letter_00
  rw [run_eq _ _ rfl]
  have e : d_l_letter_00 = ⟨"", ["", ""], 1, (.cons (.set 1 (.str tab00)) (.cons (.ret (.ix (.var 1) (.bin .mod (.blt .int (.cons false (.var 0) .nil)) (.int 94)))) .nil))⟩ := rfl
  rw [e]
  simp_arith [ cx]
def five (a b c d : Char) (i : Int) : Char := if i = 0 then a else if i = 1 then b else if i = 2 then c else if i = 3 then d else 'a'
theorem ix5 (a b c d : Char) {v : Int} (h : 0 ≤ v ∧ v < 5) : ixD (.lst [.str [a], .str [b], .str [c], .str [d], .str ['a']]) (.int v) = .ok (.str [five a b c d v]) := by
  have : v = 0 ∨ v = 1 ∨ v = 2 ∨ v = 3 ∨ v = 4 := by omega
  rcases this with rfl | rfl | rfl | rfl | rfl <;> rfl
theorem five_let {a b c d : Char} {v : Int} (ha : Let a) (hb : Let b) (hc : Let c) (hd : Let d) : Let (five a b c d v) := by
  unfold five
  repeat' split
  all_goals first | assumption | (unfold Let; decide)
theorem ab2 : ∀ c ∈ (['a', 'b'] : List Char), Let c := by unfold Let; decide
theorem ab3 : ∀ c ∈ (['a', 'b', 'c'] : List Char), Let c := by unfold Let; decide
theorem ab4 : ∀ c ∈ (['a', 'b', ':', '\\'] : List Char), Let c := by unfold Let; decide
theorem o_band {a : Int} (h : 0 ≤ a) : ∃ z : Nat, z < 4 ∧ opD .band (.int a) (.int 3) = .ok (.int z) := by
  refine ⟨a.toNat &&& 3, by have := Nat.and_le_right (n := a.toNat) (m := 3); omega, ?_⟩
  show Res.ok (D.int (Builtin.bitAnd a 3)) = _
  unfold Builtin.bitAnd
  rw [decide_eq_true h]
  rfl
theorem text00_ex {ds : List Int} (hd : Drawn ds) {k : Int} (hk : 0 ≤ k) (most : Nat) (hm : most ≤ 1000) : ∃ t, s_l_text_00 [.lst (ds.map D.int), .int k, .int most] = .ok (.str t) ∧ TextOk most t := by
  have key : ∃ r, s_l_text_00 [.lst (ds.map D.int), .int k, .int most] = .ok r ∧ ∃ t, r = .str t ∧ TextOk most t := by
    unfold s_l_text_00
    refine run_sat rfl ?_
    have h1 := mix_lo hd (k := k + 1) (many := 5) (by omega) (by omega)
    have h2 := mix_lo hd (k := k) (many := most + 1) (by omega) (by omega)
    simp_arith [ d_l_text_00, mix_r hd]
    refine sat_to (for_rng _ (fun i e => ∃ t, e = [some (.lst (ds.map D.int)), some (.int k), some (.int most), some (.int (mixV ds (k + 1) 5)), some (.str t), none, none, none] ∧ TextOk i t) ⟨[], rfl, by simp [TextOk]⟩ (fun i hi e he => ?_) fun e he => he) fun e he => ?_
    · obtain ⟨t, rfl, ht⟩ := he
      refine ⟨_, rfl, ?_⟩
      have tl := ht.1
      have hi' : i ≤ 1000 := by omega
      have h3 := mix_lo hd (k := k + 2 + (i : Int)) (many := 9000) (by omega) (by omega)
      generalize hv : mixV ds (k + 2 + (i : Int)) 9000 = v at h3
      have c1 := strIxA (s := ['a', 'b']) (v := v / 2 % 2) (j := (v / 2 % 2).toNat) (by omega) (by decide) (by simp only [List.length_cons, List.length_nil]; omega)
      have c2 := strIxA (s := ['a', 'b', 'c']) (v := v / 2 % 3) (j := (v / 2 % 3).toNat) (by omega) (by decide) (by simp only [List.length_cons, List.length_nil]; omega)
      obtain ⟨z, hz, bz⟩ := o_band h3.1
      have c3 := strIxA (s := ['a', 'b', ':', '\\']) (v := (z : Int)) (j := z) rfl (by decide) (by simp only [List.length_cons, List.length_nil]; omega)
      obtain ⟨l, lr, ll⟩ := letter00_r v h3.1
      have l1 := ab2 _ (List.getElem_mem (show (v / 2 % 2).toNat < (['a', 'b'] : List Char).length by simp only [List.length_cons, List.length_nil]; omega))
      have l2 := ab3 _ (List.getElem_mem (show (v / 2 % 3).toNat < (['a', 'b', 'c'] : List Char).length by simp only [List.length_cons, List.length_nil]; omega))
      have l3 := ab4 _ (List.getElem_mem (show z < (['a', 'b', ':', '\\'] : List Char).length by simp only [List.length_cons, List.length_nil]; omega))
      generalize (['a', 'b'] : List Char)[(v / 2 % 2).toNat]'_ = x1 at c1 l1
      generalize (['a', 'b', 'c'] : List Char)[(v / 2 % 3).toNat]'_ = x2 at c2 l2
      generalize (['a', 'b', ':', '\\'] : List Char)[z]'_ = x3 at c3 l3
      have i5 := ix5 x1 x2 x3 l (v := mixV ds (k + 1) 5) (by omega)
      have f5 := five_let (v := mixV ds (k + 1) 5) l1 l2 l3 ll
      simp_arith [ ↓B_l_text_00_1, mix_r hd, Int.zero_add, Int.toNat_natCast, hv, c1, c2, bz, c3, lr, i5, o_cat]
      exact ⟨_, rfl, ht.snoc f5⟩
    · obtain ⟨t, rfl, ht⟩ := he
      simp_arith []
      exact ⟨t, rfl, ht.le (by omega)⟩
  obtain ⟨r, h1, t, rfl, h2⟩ := key
  exact ⟨t, h1, h2⟩
theorem house00_ex {ds : List Int} (hd : Drawn ds) {k : Int} (hk : 0 ≤ k) (many most : Nat) (hmany : many ≤ 8) (hm : most ≤ 1000) : ∃ H, s_l_house_00 [.lst (ds.map D.int), .int k, .int many, .int most] = .ok (.lst (H.map eH)) ∧ HouseOk most H ∧ H.length ≤ many := by
  have key : ∃ r, s_l_house_00 [.lst (ds.map D.int), .int k, .int many, .int most] = .ok r ∧ ∃ H, r = .lst (H.map eH) ∧ HouseOk most H ∧ H.length ≤ many := by
    unfold s_l_house_00
    refine run_sat rfl ?_
    have h4 := mix_lo hd hk (many := 4) (by omega)
    have h9 := mix_lo hd (k := k + 1) (many := (many : Int) + 1) (by omega) (by omega)
    simp_arith [ d_l_house_00, mix_r hd]
    refine sat_to (for_rng _ (fun i e => ∃ (H : Hs) (num : Int), e = [some (.lst (ds.map D.int)), some (.int k), some (.int many), some (.int most), some (.lst (H.map eH)), some (.int num), none, none] ∧ H.length = i ∧ 0 ≤ num ∧ num ≤ 3 + 9 * i ∧
      (H.Pairwise fun p q => p.1 < q.1) ∧ (∀ p ∈ H, 0 ≤ p.1 ∧ p.1 < num) ∧ ∀ p ∈ H, TextOk most p.2) ⟨[], _, rfl, rfl, by omega, by omega, by simp, by simp, by simp⟩ (fun i hi e he => ?_) fun e he => he) fun e he => ?_
    · obtain ⟨H, num, rfl, hl, n1, n2, asc, nm, tx⟩ := he
      refine ⟨_, rfl, ?_⟩
      have hi8 : i < 8 := by omega
      obtain ⟨t, ht, tk⟩ := text00_ex hd (k := k + 5 + 11 * i) (by omega) most hm
      have m9 := mix_lo hd (k := k + 4 + i) (many := 9) (by omega) (by omega)
      have hq : (H.map eH).length < lim := by simp only [List.length_map, lim_is]; omega
      have more : ∀ u : List Char, TextOk most u → ∃ (H' : Hs) (num' : Int), [some (D.lst (ds.map D.int)), some (.int k), some (.int many), some (.int most), some (.lst ((H ++ [(num, u)]).map eH)), some (.int (num + 1 + mixV ds (k + 4 + i) 9)), none, none] = [some (.lst (ds.map D.int)), some (.int k), some (.int many), some (.int most), some (.lst (H'.map eH)), some (.int num'), none, none] ∧ H'.length = i + 1 ∧ 0 ≤ num' ∧ num' ≤ 3 + 9 * ((i + 1 : Nat) : Int) ∧
          (H'.Pairwise fun p q => p.1 < q.1) ∧ (∀ p ∈ H', 0 ≤ p.1 ∧ p.1 < num') ∧ ∀ p ∈ H', TextOk most p.2 := by
        intro u hu
        refine ⟨_, _, rfl, by simp [hl], by omega, by omega, ?_, fun p hp => ?_, fun p hp => ?_⟩
        · rw [List.pairwise_append]
          refine ⟨asc, by simp, fun p hp q hq => ?_⟩
          simp at hq
          subst hq
          exact (nm p hp).2
        · rcases List.mem_append.mp hp with hp | hp
          · have := nm p hp; omega
          · simp at hp
            subst hp
            show 0 ≤ num ∧ num < num + 1 + mixV ds (k + 4 + i) 9
            omega
        · rcases List.mem_append.mp hp with hp | hp
          · exact tx p hp
          · simp at hp
            subst hp
            exact hu
      have sn : ∀ (a : Int) (u : List Char), H.map eH ++ [D.tup [.int a, .str u]] = (H ++ [(a, u)]).map eH := fun a u => by simp [eP]
      by_cases h0 : (0 : Int) < i
      · by_cases h1 : mixV ds (k + 3 + i) 5 = 0
        · have hi1 : ((i : Int) - 1).toNat < H.length := by omega
          simp_arith [ ↓B_l_house_00_1, mix_r hd, Int.zero_add, Int.toNat_natCast, ht, h0, h1, ixI_map, eP, ix_t1, m_append hq, sn]
          exact more _ (tx _ (List.getElem_mem hi1))
        · simp_arith [ ↓B_l_house_00_1, mix_r hd, Int.zero_add, Int.toNat_natCast, ht, h0, h1, m_append hq, sn]
          exact more _ tk
      · simp_arith [ ↓B_l_house_00_1, mix_r hd, Int.zero_add, Int.toNat_natCast, ht, h0, m_append hq, sn]
        exact more _ tk
    · obtain ⟨H, num, rfl, hl, n1, n2, asc, nm, tx⟩ := he
      simp_arith []
      refine ⟨H, rfl, ⟨by omega, asc, fun p hp => ?_, tx⟩, by omega⟩
      have h1 := nm p hp
      -- the last number lies below 67
      omega
  obtain ⟨r, h1, t, rfl, h2⟩ := key
  exact ⟨t, h1, h2⟩
end SH.C
end
section
set_option Elab.async false
set_option linter.all false
set_option autoImplicit false
set_option maxRecDepth 10000
/-! Plain law: loops that raise; texts of houses. -/
namespace SH
def Fl.satX (r : Fl) (N : Env → Prop) (T : D → Prop) (X : Nat → Int → Prop) : Prop := match r with
  | .nx e => N e
  | .rt d => T d
  | .exc c n _ => X c n
  | _ => False
@[simp] theorem satX_nx (e : Env) (N : Env → Prop) (T : D → Prop) (X : Nat → Int → Prop) : (Fl.nx e).satX N T X = N e := rfl
@[simp] theorem satX_rt (d : D) (N : Env → Prop) (T : D → Prop) (X : Nat → Int → Prop) : (Fl.rt d).satX N T X = T d := rfl
@[simp] theorem satX_exc (c : Nat) (n : Int) (e : Env) (N : Env → Prop) (T : D → Prop) (X : Nat → Int → Prop) : (Fl.exc c n e).satX N T X = X c n := rfl
theorem satX_to {r : Fl} {ss : CSs} {M N : Env → Prop} {T : D → Prop} {X : Nat → Int → Prop} (h : r.satX M T X) (k : ∀ e, M e → (evSs ss e).satX N T X) : (r.seq ss).satX N T X := by
  cases r <;> first | exact k _ h | exact h
theorem run_isX {d : Def} {ds : List D} {v : Res D} (h : ds.length = d.npar) (s : (evSs d.body (ds.map some ++ List.replicate (d.names.length - d.npar) none)).satX (fun _ => v = .ok .non) (fun r => v = .ok r) (fun c n => v = .exc c n)) : d.run ds = v := by
  rw [run_eq d ds h]
  cases e : evSs d.body (ds.map some ++ List.replicate (d.names.length - d.npar) none) with
  | nx e' => rw [e] at s; exact Eq.symm s
  | rt d' => rw [e] at s; exact Eq.symm s
  | exc c n e' => rw [e] at s; exact Eq.symm s
  | _ => rw [e] at s; exact s.elim
theorem for_satX {α : Type} {enc : α → D} {tg : Tg} {f : Env → Fl} {N : Env → Prop} {T : D → Prop} {X : Nat → Int → Prop} (I : List α → Env → Prop) : ∀ (as dn : List α) (env : Env),
    I dn env → (∀ (d : List α) (a : α) (r : List α), dn ++ as = d ++ a :: r → ∀ e, I d e → ∃ e1, bindT tg (enc a) e = .ok e1 ∧ (f e1).satX (I (d ++ [a])) T X) → (∀ e, I (dn ++ as) e → N e) → (forLoop tg f (as.map enc) env).satX N T X
  | [], dn, env, h, _, n => by
    rw [List.map_nil, for_nil]
    exact n env (by simpa using h)
  | a :: as, dn, env, h, st, n => by
    rw [List.map_cons, forLoop]
    obtain ⟨e1, b, s⟩ := st dn a as rfl env h
    rw [b, fl_ok]
    cases e : f e1 with
    | nx e2 =>
      rw [e] at s
      exact for_satX I as (dn ++ [a]) e2 s (fun d a' r hh => st d a' r (by simpa using hh)) fun e => by simpa using n e
    | rt d => rw [e] at s; exact s
    | exc c n e' => rw [e] at s; exact s
    | _ => rw [e] at s; exact s.elim
theorem for_rngX {tg : Tg} {f : Env → Fl} {env : Env} {N : Env → Prop} {T : D → Prop} {X : Nat → Int → Prop} {lo : Int} (n : Nat) (I : Nat → Env → Prop) (h0 : I 0 env)
    (st : ∀ i, i < n → ∀ e, I i e → ∃ e1, bindT tg (.int (lo + i)) e = .ok e1 ∧ (f e1).satX (I (i + 1)) T X) (nn : ∀ e, I n e → N e) : (forLoop tg f (rngD lo n) env).satX N T X := by
  unfold rngD
  refine for_satX (fun d e => I d.length e) (List.range n) [] env h0 (fun d a r h e he => ?_) fun e he => nn e (by simpa using he)
  obtain ⟨hd, ha⟩ := range_split (by simpa using h)
  have hl : d.length = a := by rw [hd]; simp
  obtain ⟨e1, b, s⟩ := st a ha e (by rw [← hl]; exact he)
  refine ⟨e1, b, ?_⟩
  have el : (fun e => I (d ++ [a]).length e) = I (a + 1) := by funext e; rw [List.length_append, hl]; rfl
  rw [el]; exact s
end SH
namespace SH.C
open PySem SH
/-! ### cutting at a sign -/
def msr (ws : List (List Char)) : Nat := (ws.map fun w => w.length + 1).sum
theorem msr_app (a b : List (List Char)) : msr (a ++ b) = msr a + msr b := by simp [msr]
theorem msr_cons (w : List Char) (b : List (List Char)) : msr (w :: b) = w.length + 1 + msr b := by simp [msr]
theorem splC_msr (c : Char) : ∀ (s acc : List Char), msr (splC c acc s) = acc.length + s.length + 1
  | [], acc => by simp [splC, msr]
  | x :: s, acc => by
    rw [splC]
    split
    · rw [msr_cons, splC_msr c s []]; simp; omega
    · rw [splC_msr c s]; simp; omega
theorem splC_ne (c : Char) : ∀ (s acc : List Char), splC c acc s ≠ []
  | [], acc => by simp [splC]
  | x :: s, acc => by
    rw [splC]
    split
    · simp
    · exact splC_ne c s _
theorem msr_sum (ws : List (List Char)) : (ws.map List.length).sum + ws.length = msr ws := by
  induction ws with
  | nil => rfl
  | cons w ws ih => rw [msr_cons, ← ih]; simp; omega
theorem msr_take (ws : List (List Char)) (n : Nat) : msr (ws.take n) ≤ msr ws := by
  have := msr_app (ws.take n) (ws.drop n)
  rw [List.take_append_drop] at this; omega
theorem msr_drop (ws : List (List Char)) (n : Nat) : msr (ws.drop n) ≤ msr ws := by
  have := msr_app (ws.take n) (ws.drop n)
  rw [List.take_append_drop] at this; omega
theorem msr_mem {ws : List (List Char)} {w : List Char} (h : w ∈ ws) : w.length + 1 ≤ msr ws := by
  induction ws with
  | nil => cases h
  | cons x ws ih =>
    rw [msr_cons]
    rcases List.mem_cons.mp h with rfl | h
    · omega
    · have := ih h; omega
theorem msr_cut (ws : List (List Char)) (lo hi : Option Int) : msr (cut ws lo hi) ≤ msr ws := by
  unfold cut
  exact Nat.le_trans (msr_drop _ _) (msr_take _ _)
theorem msr_len (ws : List (List Char)) : ws.length ≤ msr ws := by rw [← msr_sum]; omega
theorem joinS_len (sep : List Char) (h : sep.length = 1) : ∀ ws : List (List Char), (joinS sep ws).length ≤ msr ws
  | [] => by simp [joinS]
  | [x] => by simp [joinS, msr]
  | x :: y :: r => by
    have := joinS_len sep h (y :: r)
    rw [joinS, msr_cons]
    simp only [List.length_append]; omega
theorem m_joinN {ws : List (List Char)} (h : msr ws ≤ lim) : mthD .join (.str ['\n']) [.lst (ws.map D.str)] = .ok (.str (joinS ['\n'] ws)) := by
  have hs : strsD (ws.map D.str) = some ws := by
    clear h
    induction ws with
    | nil => rfl
    | cons w ws ih => simp only [List.map_cons, strsD, ih, Option.map]
  have hm := msr_sum ws
  show (match strsD (ws.map D.str) with
    | some ws => if (ws.map List.length).sum + ws.length * (['\n'] : List Char).length ≤ lim then Res.ok (D.str (joinS ['\n'] ws)) else .bad
    | none => .bad) = _
  rw [hs]
  show (if (ws.map List.length).sum + ws.length * (['\n'] : List Char).length ≤ lim then Res.ok (D.str (joinS ['\n'] ws)) else .bad) = _
  rw [if_pos (by simp only [List.length_cons, List.length_nil]; omega)]
theorem splC_clean (c : Char) : ∀ (w acc s : List Char), (∀ x ∈ w, x ≠ c) → splC c acc (w ++ c :: s) = (acc ++ w) :: splC c [] s
  | [], acc, s, _ => by simp [splC]
  | x :: w, acc, s, h => by
    rw [List.cons_append, splC, if_neg (h x List.mem_cons_self), splC_clean c w _ s fun y hy => h y (List.mem_cons_of_mem _ hy)]
    simp
theorem splC_lines (c : Char) (ws : List (List Char)) (h : ∀ w ∈ ws, ∀ x ∈ w, x ≠ c) : splC c [] ((ws.map (· ++ [c])).flatten) = ws ++ [[]] := by
  induction ws with
  | nil => rfl
  | cons w ws ih =>
    have e : ((w :: ws).map (· ++ [c])).flatten = w ++ c :: (ws.map (· ++ [c])).flatten := by simp
    rw [e, splC_clean c w [] _ (h w List.mem_cons_self), ih fun v hv => h v (List.mem_cons_of_mem _ hv)]
    rfl
theorem fndC_clean (c : Char) (w s : List Char) (h : ∀ x ∈ w, x ≠ c) : fndC c (w ++ c :: s) = w.length := by
  have : (w ++ c :: s).findIdx? (fun x => decide (x = c)) = some w.length := by
    rw [List.findIdx?_append]
    have : w.findIdx? (fun x => decide (x = c)) = none := by
      rw [List.findIdx?_eq_none_iff]
      intro x hx; simpa using h x hx
    rw [this]
    simp [List.findIdx?_cons]
  unfold fndC
  rw [this]
theorem fndC_lo (c : Char) (s : List Char) : -1 ≤ fndC c s ∧ fndC c s < s.length ∨ fndC c s = -1 := by
  unfold fndC
  split
  · rename_i k e
    have := (List.findIdx?_eq_some_iff_findIdx_eq.mp e).1
    left; omega
  · right; rfl
theorem m_find {s : List Char} {c : Char} (h : c.toNat < 256) : mthD .find (.str s) [.str [c]] = .ok (.int (fndC c s)) := if_pos h
theorem m_split {s : List Char} {c : Char} (h : c.toNat < 256 ∧ s.length + 2 ≤ lim) : mthD .split (.str s) [.str [c]] = .ok (.lst ((splC c [] s).map .str)) := if_pos h
theorem r_find (s : List Char) : rcvD .find (.str s) = true := rfl
theorem r_split (s : List Char) : rcvD .split (.str s) = true := rfl
/-! ### numbers' texts -/
def digs : List Char := ['0', '1', '2', '3', '4', '5', '6', '7', '8', '9']
def decS (n : Nat) : List Char := if n < 10 then [digs.getD n '0'] else [digs.getD (n / 10) '0', digs.getD (n % 10) '0']
theorem decS_all : ∀ n : Nat, n < 100 → (toString (n : Int)).toList = decS n := by decide +kernel
theorem b_str {n : Int} (h : 0 ≤ n ∧ n ≤ 99) : bltD .str [.int n] = .ok (.str (decS n.toNat)) := by
  have e : n = ((n.toNat : Nat) : Int) := by omega
  have l : n.natAbs.log2 < 1920 := by
    have := Nat.log2_le_self n.natAbs
    omega
  show (if n.natAbs.log2 < 1920 then Res.ok (D.str (toString n).toList) else .bad) = _
  rw [if_pos l, ← decS_all n.toNat (by omega), ← e]
def digV (w : List Char) : Int := w.foldl (fun a c => a * 10 + ((c.toNat : Int) - 48)) 0
theorem digV1 : ∀ c ∈ digs, PySem.intText? (mkS [c]) = some (digV [c]) := by decide +kernel
theorem digV2 : ∀ c ∈ digs, ∀ d ∈ digs, PySem.intText? (mkS [c, d]) = some (digV [c, d]) := by decide +kernel
/-- is it the text of a number -/
def numB (w : List Char) : Bool := decide (1 ≤ w.length ∧ w.length ≤ 2 ∧ ∀ c ∈ w, c ∈ digs) && (decide (w.length = 1) || !decide (w.head? = some '0'))
theorem b_intS {w : List Char} (h : numB w = true) : bltD .int [.str w] = .ok (.int (digV w)) := by
  have h2 : 1 ≤ w.length ∧ w.length ≤ 2 ∧ ∀ c ∈ w, c ∈ digs := of_decide_eq_true (Bool.and_eq_true_iff.mp h).1
  obtain ⟨h1, h2, h3⟩ := h2
  have e : PySem.intText? (mkS w) = some (digV w) := by
    match w, h1, h2, h3 with
    | [c], _, _, h3 => exact digV1 c (h3 c (by simp))
    | [c, d], _, _, h3 => exact digV2 c (h3 c (by simp)) d (h3 d (by simp))
  show (match PySem.intText? (mkS w) with
    | some n => if w.length ≤ 640 then Res.ok (D.int n) else .bad
    | none => .bad) = _
  rw [e]
  exact if_pos (by omega)
theorem decS_num : ∀ n : Nat, n < 100 → numB (decS n) = true ∧ digV (decS n) = n ∧ (decS n).length ≤ 2 ∧ (∀ c ∈ decS n, c ≠ ':' ∧ c ≠ '\n') := by decide +kernel
end SH.C
end
section
set_option Elab.async false
set_option linter.all false
set_option autoImplicit false
set_option maxRecDepth 10000
/-! Plain law: distances of words. -/
namespace SH.C
open PySem SH
def nec (x y : Char) : Nat := if x = y then 0 else 1
def ed : List Char → List Char → Nat
  | [], b => b.length
  | x :: a, [] => a.length + 1
  | x :: a, y :: b => min (min (ed a b + nec x y) (ed a (y :: b) + 1)) (ed (x :: a) b + 1)
termination_by a b => a.length + b.length
theorem ed_nil (b : List Char) : ed [] b = b.length := by rw [ed]
theorem ed_nil' (a : List Char) : ed a [] = a.length := by
  cases a with
  | nil => rw [ed]
  | cons x a => rw [ed]; simp
theorem ed_cc (x y : Char) (a b : List Char) : ed (x :: a) (y :: b) = min (min (ed a b + nec x y) (ed a (y :: b) + 1)) (ed (x :: a) b + 1) := by rw [ed]
theorem ed_le : ∀ (a b : List Char), ed a b ≤ a.length + b.length
  | [], b => by rw [ed_nil]; simp
  | x :: a, [] => by rw [ed_nil']; simp
  | x :: a, y :: b => by
    rw [ed_cc]
    have := ed_le a (y :: b)
    simp at this ⊢
    omega
termination_by a b => a.length + b.length
theorem nec_comm (x y : Char) : nec x y = nec y x := by
  unfold nec
  by_cases h : x = y
  · rw [if_pos h, if_pos h.symm]
  · rw [if_neg h, if_neg (Ne.symm h)]
theorem ed_comm : ∀ (a b : List Char), ed a b = ed b a
  | [], b => by rw [ed_nil, ed_nil']
  | x :: a, [] => by rw [ed_nil, ed_nil']
  | x :: a, y :: b => by
    rw [ed_cc, ed_cc, ed_comm a b, ed_comm a (y :: b), ed_comm (x :: a) b, nec_comm x y]
    omega
termination_by a b => a.length + b.length
theorem ed_self : ∀ a : List Char, ed a a = 0
  | [] => by rw [ed_nil]; rfl
  | x :: a => by
    rw [ed_cc, ed_self a]
    simp [nec]
def sufs : List Char → List (List Char)
  | [] => [[]]
  | y :: b => (y :: b) :: sufs b
theorem sufs_head (b : List Char) : ∃ r, sufs b = b :: r := by cases b <;> exact ⟨_, rfl⟩
theorem sufs_len : ∀ b : List Char, (sufs b).length = b.length + 1
  | [] => rfl
  | y :: b => by rw [sufs, List.length_cons, sufs_len b]; rfl
theorem sufs_at : ∀ (b : List Char) (j : Nat) (h : j < (sufs b).length), (sufs b)[j] = b.drop j
  | [], 0, _ => rfl
  | [], j + 1, h => by simp [sufs] at h
  | y :: b, 0, _ => rfl
  | y :: b, j + 1, h => by
    simp only [sufs, List.getElem_cons_succ, List.drop_succ_cons]
    exact sufs_at b j (by simp [sufs] at h; exact h)
theorem sufs_eq (b : List Char) : sufs b = (List.range (b.length + 1)).map fun j => b.drop j := by
  refine List.ext_getElem (by rw [sufs_len]; simp) fun j h1 h2 => ?_
  rw [sufs_at]
  simp
def rowD (a b : List Char) : List D := (sufs b).map fun c => .int (ed a c)
def tblD (a b : List Char) : List D := (sufs a).map fun c => .lst (rowD c b)
theorem rowD_len (a b : List Char) : (rowD a b).length = b.length + 1 := by unfold rowD; rw [List.length_map, sufs_len]
theorem tblD_len (a b : List Char) : (tblD a b).length = a.length + 1 := by unfold tblD; rw [List.length_map, sufs_len]
theorem rowD_at (a b : List Char) {j : Nat} (h : j < (rowD a b).length) : (rowD a b)[j] = .int (ed a (b.drop j)) := by
  simp [rowD, sufs_at]
theorem tblD_at (a b : List Char) {j : Nat} (h : j < (tblD a b).length) : (tblD a b)[j] = .lst (rowD (a.drop j) b) := by
  simp [tblD, sufs_at]
theorem rowD_cons (a : List Char) (y : Char) (b : List Char) : rowD a (y :: b) = .int (ed a (y :: b)) :: rowD a b := rfl
theorem tblD_cons (x : Char) (a b : List Char) : tblD (x :: a) b = .lst (rowD (x :: a) b) :: tblD a b := rfl
theorem ix_l0 (d : D) (r : List D) : ixD (.lst (d :: r)) (.int 0) = .ok d := by
  unfold ixD; simp only; rw [place0 _ (by simp)]; rfl
theorem row0 (a b : List Char) : ixD (.lst (rowD a b)) (.int 0) = .ok (.int (ed a b)) := by
  obtain ⟨r, h⟩ := sufs_head b
  unfold rowD
  rw [h, List.map_cons, ix_l0]
theorem tbl0 (a b : List Char) : ixD (.lst (tblD a b)) (.int 0) = .ok (.lst (rowD a b)) := by
  obtain ⟨r, h⟩ := sufs_head a
  unfold tblD
  rw [h, List.map_cons, ix_l0]
theorem rowIx (a b : List Char) {v : Int} {j : Nat} (hv : v = j) (h : j ≤ b.length) : ixD (.lst (rowD a b)) (.int v) = .ok (.int (ed a (b.drop j))) := by
  subst hv
  have hl := rowD_len a b
  rw [ixI_lst (by omega) (by omega)]
  simp only [Int.toNat_natCast]
  rw [rowD_at]
theorem tblIx (a b : List Char) {v : Int} {j : Nat} (hv : v = j) (h : j ≤ a.length) : ixD (.lst (tblD a b)) (.int v) = .ok (.lst (rowD (a.drop j) b)) := by
  subst hv
  have hl := tblD_len a b
  rw [ixI_lst (by omega) (by omega)]
  simp only [Int.toNat_natCast]
  rw [tblD_at]
theorem strIx {s : List Char} {v : Int} {j : Nat} (hv : v = j) (hl : s.length ≤ 100000) (h : j < s.length) : ixD (.str s) (.int v) = .ok (.str [s[j]]) := by
  subst hv
  rw [ixI_str (by simp only [lim_is]; omega) (by omega) (by omega)]
  simp only [Int.toNat_natCast]
theorem necI (x y : Char) : (if (!decide ([x] = [y])) = true then (1 : Int) else 0) = ((nec x y : Nat) : Int) := by
  unfold nec
  by_cases h : x = y
  · subst h; simp
  · have : ¬ [x] = [y] := by simpa using h
    simp [h]
theorem distance_table_r (a b : List Char) (ha : a.length ≤ 1000) (hb : b.length ≤ 1000) : s_distance_table [.str a, .str b] = .ok (.lst (tblD a b)) := by
  unfold s_distance_table
  refine run_is rfl ?_
  have hc : ((b.length : Int) + 1).toNat = b.length + 1 := by omega
  simp_arith [ d_distance_table, b_lenS, hc]
  rw [lc_rng (fun j => .int (ed [] (b.drop j))) (fun i hi => ?_) (by simp only [lim_is]; omega)]
  · have e0 : ((List.range (b.length + 1)).map fun j => D.int (ed [] (b.drop j))) = rowD [] b := by unfold rowD; rw [sufs_eq]; simp
    have e1 : [D.lst (rowD [] b)] = tblD [] b := rfl
    have q1 : (tblD [] b).length ≤ lim := by rw [tblD_len]; simp only [lim_is, List.length_nil]; omega
    simp_arith [ e0, e1, if_lim q1, b_lenS]
    refine sat_to (for_down _ (fun t e => e = [some (.str a), some (.str b), some (.lst (tblD (a.drop (a.length - t)) b)), none, none, none, none, none]) (by simp) (fun t ht e he => ?_) fun e he => he) fun e he => ?_
    · subst he
      refine ⟨_, rfl, ?_⟩
      have ht' : t < a.length := by omega
      have hd : a.drop (a.length - (t + 1)) = a[a.length - 1 - t] :: a.drop (a.length - t) := by
        rw [List.drop_eq_getElem_cons (by omega)]
        congr 1
        · congr 1; omega
        · congr 1; omega
      generalize hx : a[a.length - 1 - t] = x at hd
      generalize ha' : a.drop (a.length - t) = a' at hd
      have hal : a'.length = t := by rw [← ha']; simp; omega
      have e2 : (a.length : Int) - ((a.length : Int) - 1 - t) = ed (x :: a') [] := by rw [ed_nil']; simp; omega
      have e3 : [D.int (ed (x :: a') [])] = rowD (x :: a') [] := rfl
      have hix := strIx (s := a) (v := (a.length : Int) - 1 - t) (j := a.length - 1 - t) (by omega) (by omega) (by omega)
      rw [hx] at hix
      have q2 : (rowD (x :: a') []).length ≤ lim := by rw [rowD_len]; simp only [lim_is, List.length_nil]; omega
      simp_arith [ ↓B_distance_table_2, ha', tbl0, b_lenS, e2, e3, if_lim q2]
      refine sat_to (for_down _ (fun u e => e = [some (.str a), some (.str b), some (.lst (tblD a' b)), some (.int ((a.length : Int) - 1 - t)), some (.lst (rowD a' b)), some (.lst (rowD (x :: a') (b.drop (b.length - u)))), none, none]) (by simp) (fun u hu e he => ?_) fun e he => he) fun e he => ?_
      · subst he
        refine ⟨_, rfl, ?_⟩
        have hu' : u < b.length := by omega
        have hd2 : b.drop (b.length - (u + 1)) = b[b.length - 1 - u] :: b.drop (b.length - u) := by
          rw [List.drop_eq_getElem_cons (by omega)]
          congr 1
          · congr 1; omega
          · congr 1; omega
        have i1 := rowIx a' b (v := (b.length : Int) - 1 - u + 1) (j := b.length - u) (by omega) (by omega)
        have i2 := rowIx a' b (v := (b.length : Int) - 1 - u) (j := b.length - (u + 1)) (by omega) (by omega)
        have i3 := strIx (s := b) (v := (b.length : Int) - 1 - u) (j := b.length - 1 - u) (by omega) (by omega) (by omega)
        generalize hy : b[b.length - 1 - u] = y at hd2 i3
        generalize hb' : b.drop (b.length - u) = b' at hd2 i1
        have hbl : b'.length = u := by rw [← hb']; simp; omega
        have e4 : min (min ((ed a' b' : Int) + (nec x y : Nat)) ((ed a' (y :: b') : Int) + 1)) ((ed (x :: a') b' : Int) + 1) = (ed (x :: a') (y :: b') : Nat) := by rw [ed_cc]; omega
        rw [hd2] at i2
        have hq : (D.int (ed (x :: a') (y :: b')) :: (rowD (x :: a') b' ++ [])).length ≤ lim := by rw [List.length_cons, List.length_append, rowD_len]; simp only [lim_is, List.length_nil]; omega
        simp_arith [ ↓B_distance_table_1, i1, i2, i3, hix, necI, hb', row0, e4, if_lim hq]
        rw [hd2, List.append_nil]; rfl
      · subst he
        have e5 : b.length - ((b.length : Int) - 1 - -1).toNat = 0 := by omega
        rw [e5, List.drop_zero]
        have hq : (D.lst (rowD (x :: a') b) :: (tblD a' b ++ [])).length ≤ lim := by rw [List.length_cons, List.length_append, tblD_len]; simp only [lim_is, List.length_nil]; omega
        simp_arith [ if_lim hq]
        rw [hd, List.append_nil]; rfl
    · subst he
      have e5 : a.length - ((a.length : Int) - 1 - -1).toNat = 0 := by omega
      rw [e5, List.drop_zero]
      simp_arith []
  · have e1 : (b.length : Int) - i = ed [] (b.drop i) := by rw [ed_nil]; simp; omega
    simp_arith [ lcG_n, wipeE, tgIs, Int.zero_add, Int.toNat_natCast, b_lenS, e1]
theorem distance_r (a b : List Char) (ha : a.length ≤ 1000) (hb : b.length ≤ 1000) : s_distance [.str a, .str b] = .ok (.int (ed a b)) := by
  unfold s_distance
  rw [run_eq _ _ rfl]
  simp_arith [ d_distance, distance_table_r a b ha hb, tbl0, row0]
end SH.C
end
section
set_option Elab.async false
set_option linter.all false
set_option autoImplicit false
set_option maxRecDepth 10000
/-! Plain law: the laws' table of distances. -/
namespace SH.C
open PySem SH
def rngF (n : Nat) (g : Nat → D) : List D := (List.range n).map g
theorem rngF_len (n : Nat) (g : Nat → D) : (rngF n g).length = n := by simp [rngF]
theorem rngF_at (n : Nat) (g : Nat → D) (j : Nat) (h : j < (rngF n g).length) : (rngF n g)[j] = g j := by simp [rngF]
theorem rngF_ix (n : Nat) (g : Nat → D) {v : Int} {j : Nat} (hv : v = j) (h : j < n) : ixD (.lst (rngF n g)) (.int v) = .ok (g j) := by
  subst hv
  have hl := rngF_len n g
  rw [ixI_lst (by omega) (by omega)]
  simp only [Int.toNat_natCast]
  rw [rngF_at]
theorem rngF_step (n : Nat) (g : Nat → D) {v : Int} {j : Nat} (hv : v = j) (h : j < n) : stepD (.lst (rngF n g)) (.int v) = some (g j) := by
  subst hv
  have hl := rngF_len n g
  unfold stepD
  simp only
  rw [place_int (by omega) (by omega)]
  simp only [Int.toNat_natCast]
  rw [List.getElem?_eq_getElem (by omega), rngF_at]
theorem rngF_set (n : Nat) (g : Nat → D) (k : Nat) (v : D) : (rngF n g).set k v = rngF n fun i => if i = k then v else g i := by
  refine List.ext_getElem (by simp [rngF]) fun i h1 h2 => ?_
  rw [List.getElem_set, rngF_at n (fun i => if i = k then v else g i)]
  by_cases e : k = i
  · rw [if_pos e, if_pos e.symm]
  · rw [if_neg e, if_neg (Ne.symm e), rngF_at]
theorem rngF_setD (n : Nat) (g : Nat → D) {v : Int} {j : Nat} (hv : v = j) (h : j < n) (c : D) : setD (.lst (rngF n g)) (.int v) c = .lst (rngF n fun i => if i = j then c else g i) := by
  subst hv
  have hl := rngF_len n g
  unfold setD
  simp only
  rw [place_int (by omega) (by omega)]
  simp only [Int.toNat_natCast]
  rw [rngF_set]
theorem rngF_put (n : Nat) (g : Nat → D) {v : Int} {j : Nat} (hv : v = j) (h : j < n) (c : D) : putD (.int v) c (.lst (rngF n g)) = .ok (.lst (rngF n fun i => if i = j then c else g i)) := by
  subst hv
  have hl := rngF_len n g
  unfold putD
  simp only
  rw [place_int (by omega) (by omega)]
  simp only [Int.toNat_natCast]
  rw [rngF_set]
/-- a table -/
def tabD (n m : Nat) (f : Nat → Nat → Int) : List D := rngF (n + 1) fun i => .lst (rngF (m + 1) fun j => .int (f i j))
theorem tabD_len (n m : Nat) (f : Nat → Nat → Int) : (tabD n m f).length = n + 1 := rngF_len _ _
theorem tabD_ix (n m : Nat) (f : Nat → Nat → Int) {v : Int} {i : Nat} (hv : v = i) (h : i ≤ n) : ixD (.lst (tabD n m f)) (.int v) = .ok (.lst (rngF (m + 1) fun j => .int (f i j))) := rngF_ix _ _ hv (by omega)
theorem tabD_step (n m : Nat) (f : Nat → Nat → Int) {v : Int} {i : Nat} (hv : v = i) (h : i ≤ n) : stepD (.lst (tabD n m f)) (.int v) = some (.lst (rngF (m + 1) fun j => .int (f i j))) := rngF_step _ _ hv (by omega)
theorem tabD_congr {n m : Nat} {f g : Nat → Nat → Int} (h : ∀ i j, i ≤ n → j ≤ m → f i j = g i j) : tabD n m f = tabD n m g := by
  unfold tabD rngF
  refine List.map_congr_left fun i hi => ?_
  congr 1
  refine List.map_congr_left fun j hj => ?_
  congr 1
  exact h i j (by have := List.mem_range.mp hi; omega) (by have := List.mem_range.mp hj; omega)
theorem tabD_setD (n m : Nat) (f : Nat → Nat → Int) {v : Int} {i : Nat} (hv : v = i) (h : i ≤ n) (j : Nat) (c : Int) :
    setD (.lst (tabD n m f)) (.int v) (.lst (rngF (m + 1) fun k => if k = j then .int c else .int (f i k))) = .lst (tabD n m fun i' j' => if i' = i ∧ j' = j then c else f i' j') := by
  unfold tabD
  rw [rngF_setD _ _ hv (by omega)]
  congr 2
  funext i'
  by_cases e : i' = i
  · subst e
    rw [if_pos rfl]
    congr 2
    funext k
    by_cases q : k = j
    · simp [q]
    · simp [q]
  · simp [e]
theorem tblD_tab (a b : List Char) : tblD a b = tabD a.length b.length fun i j => (ed (a.drop i) (b.drop j) : Int) := by
  unfold tblD rowD tabD rngF
  rw [sufs_eq a, sufs_eq b]
  simp
theorem b_min1L (a : Int) : bltD .min [.lst [.int a]] = .ok (.int a) := rfl
theorem b_min3L (a b c : Int) : bltD .min [.lst [.int a, .int b, .int c]] = .ok (.int (min (min a b) c)) := by
  show Res.ok (D.int (leastI a [b, c])) = _
  congr 2
  simp only [leastI]
  split <;> split <;> omega
def edF (a b : List Char) (t u i j : Nat) : Int := if a.length < i + t ∨ (i + t = a.length ∧ b.length < j + u) then (ed (a.drop i) (b.drop j) : Int) else 0
theorem l_table_r (a b : List Char) (ha : a.length ≤ 1000) (hb : b.length ≤ 1000) : s_l_table_30 [.str a, .str b] = .ok (.lst (tblD a b)) := by
  unfold s_l_table_30
  refine run_is rfl ?_
  have hca : ((a.length : Int) + 1).toNat = a.length + 1 := by omega
  have hcb : ((b.length : Int) + 1).toNat = b.length + 1 := by omega
  simp_arith [ d_l_table_30, b_lenS, hca]
  rw [lc_rng (fun _ => .lst (rngF (b.length + 1) fun _ => .int 0)) (fun i hi => ?_) (by simp only [lim_is]; omega)]
  · have e0 : ((List.range (a.length + 1)).map fun _ => D.lst (rngF (b.length + 1) fun _ => .int 0)) = tabD a.length b.length (edF a b 0 0) := by
      have : tabD a.length b.length (edF a b 0 0) = tabD a.length b.length fun _ _ => 0 := tabD_congr fun i j hi hj => by
        unfold edF
        rw [if_neg (by omega)]
      rw [this]; rfl
    simp_arith [ e0, b_lenS]
    refine sat_to (for_down _ (fun t e => e = [some (.str a), some (.str b), some (.lst (tabD a.length b.length (edF a b t 0))), none, none, none]) rfl (fun t ht e he => ?_) fun e he => he) fun e he => ?_
    · subst he
      refine ⟨_, rfl, ?_⟩
      have ht' : t ≤ a.length := by omega
      obtain ⟨i, hi⟩ : ∃ i, i + t = a.length := ⟨a.length - t, by omega⟩
      have ei : (a.length : Int) - t = (i : Int) := by omega
      simp_arith [ ↓B_l_table_30_2, b_lenS, ei]
      refine sat_to (for_down _ (fun u e => e = [some (.str a), some (.str b), some (.lst (tabD a.length b.length (edF a b t u))), some (.int i), none, none]) rfl (fun u hu e he => ?_) fun e he => he) fun e he => ?_
      · subst he
        refine ⟨_, rfl, ?_⟩
        have hu' : u ≤ b.length := by omega
        obtain ⟨j, hj⟩ : ∃ j, j + u = b.length := ⟨b.length - u, by omega⟩
        have ej : (b.length : Int) - u = (j : Int) := by omega
        have fin : ∀ c : Int, c = (ed (a.drop i) (b.drop j) : Int) → tabD a.length b.length (fun i' j' => if i' = i ∧ j' = j then c else edF a b t u i' j') = tabD a.length b.length (edF a b t (u + 1)) := fun c hc => tabD_congr fun i' j' _ _ => by
          by_cases e : i' = i ∧ j' = j
          · rw [if_pos e, hc, e.1, e.2]
            unfold edF
            rw [if_pos (by omega)]
          · rw [if_neg e]
            unfold edF
            by_cases q : a.length < i' + t ∨ i' + t = a.length ∧ b.length < j' + u
            · rw [if_pos q, if_pos (by omega)]
            · rw [if_neg q, if_neg (by omega)]
        have p0 := tabD_ix a.length b.length (edF a b t u) (v := i) (i := i) rfl (by omega)
        have s0 := tabD_step a.length b.length (edF a b t u) (v := i) (i := i) rfl (by omega)
        by_cases h1 : (i : Int) < a.length
        · have p1 := tabD_ix a.length b.length (edF a b t u) (v := (i : Int) + 1) (i := i + 1) (by omega) (by omega)
          have q1 := rngF_ix (b.length + 1) (fun k => D.int (edF a b t u (i + 1) k)) (v := j) (j := j) rfl (by omega)
          have da : a.drop i = a[i] :: a.drop (i + 1) := List.drop_eq_getElem_cons (by omega)
          have f1 : edF a b t u (i + 1) j = (ed (a.drop (i + 1)) (b.drop j) : Int) := by unfold edF; rw [if_pos (by omega)]
          have cx := strIx (s := a) (v := (i : Int)) (j := i) rfl (by omega) (by omega)
          by_cases h2 : (j : Int) < b.length
          · have q0 := rngF_ix (b.length + 1) (fun k => D.int (edF a b t u i k)) (v := (j : Int) + 1) (j := j + 1) (by omega) (by omega)
            have q2 := rngF_ix (b.length + 1) (fun k => D.int (edF a b t u (i + 1) k)) (v := (j : Int) + 1) (j := j + 1) (by omega) (by omega)
            have db : b.drop j = b[j] :: b.drop (j + 1) := List.drop_eq_getElem_cons (by omega)
            have f0 : edF a b t u i (j + 1) = (ed (a.drop i) (b.drop (j + 1)) : Int) := by unfold edF; rw [if_pos (by omega)]
            have f2 : edF a b t u (i + 1) (j + 1) = (ed (a.drop (i + 1)) (b.drop (j + 1)) : Int) := by unfold edF; rw [if_pos (by omega)]
            have cy := strIx (s := b) (v := (j : Int)) (j := j) rfl (by omega) (by omega)
            have fn := fin (min (min ((ed (a.drop (i + 1)) (b.drop j) : Int) + 1) ((ed (a.drop i) (b.drop (j + 1)) : Int) + 1)) ((ed (a.drop (i + 1)) (b.drop (j + 1)) : Int) + (nec a[i] b[j] : Nat))) (by rw [da, db, ed_cc]; omega)
            have pt := rngF_put (b.length + 1) (fun k => D.int (edF a b t u i k)) (v := j) (j := j) rfl (by omega)
            have st := tabD_setD a.length b.length (edF a b t u) (v := i) (i := i) rfl (by omega) j
            simp_arith [ ↓B_l_table_30_1, ej, h1, h2, b_lenS, p0, p1, q0, q1, q2, f0, f1, f2, cx, cy, necI, m_append, c_neX, deq_ll, deqs, b_min3L, s0, upd_cons s0, upd_nil, pt, updK_ok, st, fn]
          · have db : b.drop j = [] := List.drop_of_length_le (by omega)
            have fn := fin ((ed (a.drop (i + 1)) (b.drop j) : Int) + 1) (by rw [da, db, ed_nil', ed_nil']; simp; omega)
            have pt := rngF_put (b.length + 1) (fun k => D.int (edF a b t u i k)) (v := j) (j := j) rfl (by omega)
            have st := tabD_setD a.length b.length (edF a b t u) (v := i) (i := i) rfl (by omega) j
            simp_arith [ ↓B_l_table_30_1, ej, h1, h2, b_lenS, p0, p1, q1, f1, m_append, c_neX, deq_ll, deqs, b_min1L, s0, upd_cons s0, upd_nil, pt, updK_ok, st, fn]
        · have da : a.drop i = [] := List.drop_of_length_le (by omega)
          by_cases h2 : (j : Int) < b.length
          · have q0 := rngF_ix (b.length + 1) (fun k => D.int (edF a b t u i k)) (v := (j : Int) + 1) (j := j + 1) (by omega) (by omega)
            have db : b.drop j = b[j] :: b.drop (j + 1) := List.drop_eq_getElem_cons (by omega)
            have f0 : edF a b t u i (j + 1) = (ed (a.drop i) (b.drop (j + 1)) : Int) := by unfold edF; rw [if_pos (by omega)]
            have fn := fin ((ed (a.drop i) (b.drop (j + 1)) : Int) + 1) (by rw [da, db, ed_nil, ed_nil]; simp; omega)
            have pt := rngF_put (b.length + 1) (fun k => D.int (edF a b t u i k)) (v := j) (j := j) rfl (by omega)
            have st := tabD_setD a.length b.length (edF a b t u) (v := i) (i := i) rfl (by omega) j
            simp_arith [ ↓B_l_table_30_1, ej, h1, h2, b_lenS, p0, q0, f0, m_append, c_neX, deq_ll, deqs, b_min1L, s0, upd_cons s0, upd_nil, pt, updK_ok, st, fn]
          · have db : b.drop j = [] := List.drop_of_length_le (by omega)
            have fn : tabD a.length b.length (edF a b t u) = tabD a.length b.length (edF a b t (u + 1)) := by
              rw [← fin 0 (by rw [da, db, ed_nil]; rfl)]
              refine tabD_congr fun i' j' _ _ => ?_
              by_cases e : i' = i ∧ j' = j
              · rw [if_pos e, e.1, e.2]
                unfold edF
                rw [if_neg (by omega)]
              · rw [if_neg e]
            simp_arith [ ↓B_l_table_30_1, ej, h1, h2, b_lenS, c_neX, deq_ll, deqs, fn]
      · subst he
        simp_arith []
        have : tabD a.length b.length (edF a b t ((b.length : Int) - -1).toNat) = tabD a.length b.length (edF a b (t + 1) 0) := tabD_congr fun i' j' _ _ => by
          unfold edF
          by_cases q : a.length < i' + t ∨ i' + t = a.length ∧ b.length < j' + ((b.length : Int) - -1).toNat
          · rw [if_pos q, if_pos (by omega)]
          · rw [if_neg q, if_neg (by omega)]
        rw [this]
    · subst he
      simp_arith []
      rw [tblD_tab]
      congr 1
      refine tabD_congr fun i' j' _ _ => ?_
      unfold edF
      rw [if_pos (by omega)]
  · simp_arith [ lcG_n, wipeE, tgIs, Int.zero_add, Int.toNat_natCast, b_lenS, hcb]
    rw [lc_rng (fun _ => .int 0) (fun i hi => ?_) (by simp only [lim_is]; omega)]
    · simp_arith []
      rfl
    · simp_arith [ lcG_n, wipeE, tgIs]
end SH.C
end
section
set_option Elab.async false
set_option linter.all false
set_option autoImplicit false
set_option maxRecDepth 100000
set_option maxHeartbeats 2000000
namespace L33
open PySem SH
def d_is_low_element : Def := ⟨"is_low_element", ["one", "two", "table", "i", "j", "here"], 5,
 (.cons (.set 5 (.ix (.ix (.var 2) (.var 3)) (.var 4)))
 (.cons (.ite (.or (.and (.cmp .lt (.var 3) (.blt .len (.cons false (.var 0) .nil))) (.cmp .gt (.var 5) (.bin .add (.ix (.ix (.var 2) (.bin .add (.var 3) (.int 1))) (.var 4)) (.int 1)))) (.and (.cmp .lt (.var 4) (.blt .len (.cons false (.var 1) .nil))) (.cmp .gt (.var 5) (.bin .add (.ix (.ix (.var 2) (.var 3)) (.bin .add (.var 4) (.int 1))) (.int 1)))))
 (.cons (.ret (.bl false))
 .nil)
 .nil)
 (.cons (.ite (.and (.cmp .lt (.var 3) (.blt .len (.cons false (.var 0) .nil))) (.cmp .lt (.var 4) (.blt .len (.cons false (.var 1) .nil))))
 (.cons (.ret (.cmp .le (.var 5) (.bin .add (.ix (.ix (.var 2) (.bin .add (.var 3) (.int 1))) (.bin .add (.var 4) (.int 1))) (.blt .int (.cons false (.cmp .ne (.ix (.var 0) (.var 3)) (.ix (.var 1) (.var 4))) .nil)))))
 .nil)
 .nil)
 (.cons (.ret (.or (.cmp .lt (.var 3) (.blt .len (.cons false (.var 0) .nil))) (.or (.cmp .lt (.var 4) (.blt .len (.cons false (.var 1) .nil))) (.cmp .le (.var 5) (.int 0)))))
 .nil))))⟩
def s_is_low_element : List D → Res D := d_is_low_element.run
def b_is_low_1 : CSs :=
 (.cons (.ite (.not (.call "is_low_element" s_is_low_element .sc (.cons false (.var 0) (.cons false (.var 1) (.cons false (.var 2) (.cons false (.var 3) (.cons false (.var 4) .nil)))))))
 (.cons (.ret (.bl false))
 .nil)
 .nil)
 (.cons (.kill 4)
 .nil))
theorem B_is_low_1 {env : SH.Env} : evSs b_is_low_1 env = evSs ((.cons (.ite (.not (.call "is_low_element" s_is_low_element .sc (.cons false (.var 0) (.cons false (.var 1) (.cons false (.var 2) (.cons false (.var 3) (.cons false (.var 4) .nil)))))))
 (.cons (.ret (.bl false))
 .nil)
 .nil)
 (.cons (.kill 4)
 .nil))) env := rfl
def b_is_low_2 : CSs :=
 (.cons (.forS (.name 4) (.rng1 (.bin .add (.blt .len (.cons false (.var 1) .nil)) (.int 1))) b_is_low_1)
 (.cons (.kill 3)
 .nil))
theorem B_is_low_2 {env : SH.Env} : evSs b_is_low_2 env = evSs ((.cons (.forS (.name 4) (.rng1 (.bin .add (.blt .len (.cons false (.var 1) .nil)) (.int 1))) b_is_low_1)
 (.cons (.kill 3)
 .nil))) env := rfl
def d_is_low : Def := ⟨"is_low", ["one", "two", "table", "i", "j", "row"], 3,
 (.cons (.ite (.or (.cmp .ne (.blt .len (.cons false (.var 2) .nil)) (.bin .add (.blt .len (.cons false (.var 0) .nil)) (.int 1))) (.not (.blt .all (.cons false (.lc (.name 5) (.over (.var 2)) .none (.cmp .eq (.blt .len (.cons false (.var 5) .nil)) (.bin .add (.blt .len (.cons false (.var 1) .nil)) (.int 1)))) .nil))))
 (.cons (.ret (.bl false))
 .nil)
 .nil)
 (.cons (.forS (.name 3) (.rng1 (.bin .add (.blt .len (.cons false (.var 0) .nil)) (.int 1))) b_is_low_2)
 (.cons (.ret (.bl true))
 .nil)))⟩
def s_is_low : List D → Res D := d_is_low.run
def b__law_draws_1 : CSs :=
 (.cons (.ite (.cmp .gt (.var 3) (.int 0))
 (.cons (.mut (.var 1) .append (.cons false (.bin .mod (.blt .int (.cons false (.var 3) .nil)) (.int 65536)) .nil))
 (.cons (.set 3 (.bin .fdiv (.var 3) (.int 65536)))
 .nil))
 .nil)
 (.cons (.kill 4)
 .nil))
def b__law_draws_2 : CSs :=
 (.cons (.set 3 (.blt .abs (.cons false (.ix (.var 0) (.var 2)) .nil)))
 (.cons (.ite (.cmp .ge (.var 3) (.bin .pow (.int 10) (.int 18)))
 (.cons (.kill 2)
 (.cons (.forS (.name 4) (.rng1 (.int 60)) b__law_draws_1)
 .nil))
 (.cons (.set 5 (.bin .mod (.blt .int (.cons false (.bin .add (.bin .mul (.var 3) (.int 48271)) (.bin .mul (.bin .add (.var 2) (.int 1)) (.int 69621))) .nil)) (.int 2147483647)))
 (.cons (.set 5 (.bin .mod (.blt .int (.cons false (.bin .add (.bin .add (.bin .mul (.var 5) (.int 16807)) (.bin .mul (.int 11) (.var 2))) (.int 5)) .nil)) (.int 2147483629)))
 (.cons (.mut (.var 1) .append (.cons false (.bin .mod (.blt .int (.cons false (.var 5) .nil)) (.int 65536)) .nil))
 (.cons (.mut (.var 1) .append (.cons false (.bin .mod (.blt .int (.cons false (.bin .fdiv (.var 5) (.int 65536)) .nil)) (.int 32768)) .nil))
 (.cons (.kill 2)
 (.cons (.kill 5)
 .nil)))))))
 (.cons (.kill 3)
 .nil)))
def d__law_draws : Def := ⟨"_law_draws", ["_law_script", "_law_draws_here", "_law_k", "_law_rest", "_law_turn", "_law_mixed"], 1,
 (.cons (.set 1 (.lst .nil))
 (.cons (.forS (.name 2) (.rng1 (.blt .min (.cons false (.int 63) (.cons false (.blt .len (.cons false (.var 0) .nil)) .nil)))) b__law_draws_2)
 (.cons (.ret (.var 1))
 .nil)))⟩
def s__law_draws : List D → Res D := d__law_draws.run
def d__law_at : Def := ⟨"_law_at", ["_law_draws_here", "_law_k", "_law_many"], 3,
 (.cons (.ite (.cmp .lt (.var 1) (.blt .len (.cons false (.var 0) .nil)))
 (.cons (.ret (.bin .mod (.blt .int (.cons false (.ix (.var 0) (.var 1)) .nil)) (.var 2)))
 .nil)
 .nil)
 (.cons (.ret (.int 0))
 .nil))⟩
def s__law_at : List D → Res D := d__law_at.run
def b__law_word_1 : CSs :=
 (.cons (.set 4 (.bin .add (.var 4) (.ix (.var 3) (.bin .mod (.blt .int (.cons false (.bin .fdiv (.call "_law_at" s__law_at .sc (.cons false (.var 0) (.cons false (.bin .add (.bin .add (.var 1) (.int 2)) (.bin .mod (.blt .int (.cons false (.var 5) .nil)) (.int 9))) (.cons false (.int 60000) .nil)))) (.bin .add (.int 1) (.bin .fdiv (.var 5) (.int 9)))) .nil)) (.blt .len (.cons false (.var 3) .nil))))))
 (.cons (.kill 5)
 .nil))
def d__law_word : Def := ⟨"_law_word", ["_law_draws_here", "_law_first", "_law_most", "_law_menu", "_law_out", "_law_k"], 3,
 (.cons (.set 3 (.ix (.lst (.cons false (.str ['a', 'b']) (.cons false (.str ['a', 'b', 'c']) (.cons false (.str ['a']) (.cons false (.str ['a', 'b', ' ', '~']) .nil))))) (.call "_law_at" s__law_at .sc (.cons false (.var 0) (.cons false (.bin .add (.var 1) (.int 1)) (.cons false (.int 4) .nil))))))
 (.cons (.set 4 (.str []))
 (.cons (.forS (.name 5) (.rng1 (.call "_law_at" s__law_at .sc (.cons false (.var 0) (.cons false (.var 1) (.cons false (.bin .add (.var 2) (.int 1)) .nil))))) b__law_word_1)
 (.cons (.ret (.var 4))
 .nil))))⟩
def s__law_word : List D → Res D := d__law_word.run
def b__law_near_1 : CSs :=
 (.cons (.set 4 (.call "_law_at" s__law_at .sc (.cons false (.var 0) (.cons false (.bin .add (.bin .add (.var 1) (.int 1)) (.bin .mul (.int 2) (.var 3))) (.cons false (.bin .add (.blt .len (.cons false (.var 2) .nil)) (.int 1)) .nil)))))
 (.cons (.set 5 (.call "_law_at" s__law_at .sc (.cons false (.var 0) (.cons false (.bin .add (.bin .add (.var 1) (.int 2)) (.bin .mul (.int 2) (.var 3))) (.cons false (.int 60000) .nil)))))
 (.cons (.set 6 (.ix (.str ['a', 'b', 'c', '~']) (.bin .mod (.blt .int (.cons false (.bin .fdiv (.var 5) (.int 3)) .nil)) (.int 4))))
 (.cons (.ite (.cmp .eq (.bin .mod (.blt .int (.cons false (.var 5) .nil)) (.int 3)) (.int 0))
 (.cons (.set 2 (.bin .add (.bin .add (.sl (.var 2) .none (.some (.var 4))) (.var 6)) (.sl (.var 2) (.some (.var 4)) .none)))
 .nil)
 (.cons (.ite (.cmp .eq (.bin .mod (.blt .int (.cons false (.var 5) .nil)) (.int 3)) (.int 1))
 (.cons (.set 2 (.bin .add (.sl (.var 2) .none (.some (.var 4))) (.sl (.var 2) (.some (.bin .add (.var 4) (.int 1))) .none)))
 .nil)
 (.cons (.set 2 (.bin .add (.bin .add (.sl (.var 2) .none (.some (.var 4))) (.var 6)) (.sl (.var 2) (.some (.bin .add (.var 4) (.int 1))) .none)))
 .nil))
 .nil))
 (.cons (.wk 2 .sh)
 (.cons (.kill 3)
 (.cons (.kill 4)
 (.cons (.kill 5)
 (.cons (.kill 6)
 .nil)))))))))
def d__law_near : Def := ⟨"_law_near", ["_law_draws_here", "_law_first", "_law_word_here", "_law_turn", "_law_place", "_law_cell", "_law_letter"], 3,
 (.cons (.forS (.name 3) (.rng1 (.call "_law_at" s__law_at .sc (.cons false (.var 0) (.cons false (.var 1) (.cons false (.int 4) .nil))))) b__law_near_1)
 (.cons (.ret (.var 2))
 .nil))⟩
def s__law_near : List D → Res D := d__law_near.run
def b__law_table_1 : CSs :=
 (.cons (.set 5 (.lst .nil))
 (.cons (.ite (.cmp .lt (.var 3) (.blt .len (.cons false (.var 0) .nil)))
 (.cons (.mut (.var 5) .append (.cons false (.bin .add (.ix (.ix (.var 2) (.bin .add (.var 3) (.int 1))) (.var 4)) (.int 1)) .nil))
 .nil)
 .nil)
 (.cons (.ite (.cmp .lt (.var 4) (.blt .len (.cons false (.var 1) .nil)))
 (.cons (.mut (.var 5) .append (.cons false (.bin .add (.ix (.ix (.var 2) (.var 3)) (.bin .add (.var 4) (.int 1))) (.int 1)) .nil))
 .nil)
 .nil)
 (.cons (.ite (.and (.cmp .lt (.var 3) (.blt .len (.cons false (.var 0) .nil))) (.cmp .lt (.var 4) (.blt .len (.cons false (.var 1) .nil))))
 (.cons (.mut (.var 5) .append (.cons false (.bin .add (.ix (.ix (.var 2) (.bin .add (.var 3) (.int 1))) (.bin .add (.var 4) (.int 1))) (.blt .int (.cons false (.cmp .ne (.ix (.var 0) (.var 3)) (.ix (.var 1) (.var 4))) .nil))) .nil))
 .nil)
 .nil)
 (.cons (.ite (.cmp .ne (.var 5) (.lst .nil))
 (.cons (.put (.ix (.var 2) (.var 3)) (.var 4) (.blt .min (.cons false (.var 5) .nil)))
 .nil)
 .nil)
 (.cons (.kill 4)
 (.cons (.kill 5)
 .nil)))))))
def b__law_table_2 : CSs :=
 (.cons (.forS (.name 4) (.down (.blt .len (.cons false (.var 1) .nil)) (.neg (.int 1))) b__law_table_1)
 (.cons (.kill 3)
 .nil))
def d__law_table : Def := ⟨"_law_table", ["_law_one", "_law_two", "_law_table_here", "_law_i", "_law_j", "_law_found"], 2,
 (.cons (.setC 2 (.lc (.name 3) (.rng1 (.bin .add (.blt .len (.cons false (.var 0) .nil)) (.int 1))) .none (.lc (.name 4) (.rng1 (.bin .add (.blt .len (.cons false (.var 1) .nil)) (.int 1))) .none (.int 0))))
 (.cons (.forS (.name 3) (.down (.blt .len (.cons false (.var 0) .nil)) (.neg (.int 1))) b__law_table_2)
 (.cons (.ret (.var 2))
 .nil)))⟩
def s__law_table : List D → Res D := d__law_table.run
def b__law_due_1 : CSs :=
 (.cons (.ite (.and (.cmp .lt (.var 3) (.blt .len (.cons false (.var 0) .nil))) (.cmp .gt (.ix (.ix (.var 2) (.var 3)) (.var 4)) (.bin .add (.ix (.ix (.var 2) (.bin .add (.var 3) (.int 1))) (.var 4)) (.int 1))))
 (.cons (.ret (.bl false))
 .nil)
 .nil)
 (.cons (.ite (.and (.cmp .lt (.var 4) (.blt .len (.cons false (.var 1) .nil))) (.cmp .gt (.ix (.ix (.var 2) (.var 3)) (.var 4)) (.bin .add (.ix (.ix (.var 2) (.var 3)) (.bin .add (.var 4) (.int 1))) (.int 1))))
 (.cons (.ret (.bl false))
 .nil)
 .nil)
 (.cons (.ite (.and (.cmp .lt (.var 3) (.blt .len (.cons false (.var 0) .nil))) (.and (.cmp .lt (.var 4) (.blt .len (.cons false (.var 1) .nil))) (.cmp .gt (.ix (.ix (.var 2) (.var 3)) (.var 4)) (.bin .add (.ix (.ix (.var 2) (.bin .add (.var 3) (.int 1))) (.bin .add (.var 4) (.int 1))) (.blt .int (.cons false (.cmp .ne (.ix (.var 0) (.var 3)) (.ix (.var 1) (.var 4))) .nil))))))
 (.cons (.ret (.bl false))
 .nil)
 .nil)
 (.cons (.kill 4)
 .nil))))
theorem B__law_due_1 {env : SH.Env} : evSs b__law_due_1 env = evSs ((.cons (.ite (.and (.cmp .lt (.var 3) (.blt .len (.cons false (.var 0) .nil))) (.cmp .gt (.ix (.ix (.var 2) (.var 3)) (.var 4)) (.bin .add (.ix (.ix (.var 2) (.bin .add (.var 3) (.int 1))) (.var 4)) (.int 1))))
 (.cons (.ret (.bl false))
 .nil)
 .nil)
 (.cons (.ite (.and (.cmp .lt (.var 4) (.blt .len (.cons false (.var 1) .nil))) (.cmp .gt (.ix (.ix (.var 2) (.var 3)) (.var 4)) (.bin .add (.ix (.ix (.var 2) (.var 3)) (.bin .add (.var 4) (.int 1))) (.int 1))))
 (.cons (.ret (.bl false))
 .nil)
 .nil)
 (.cons (.ite (.and (.cmp .lt (.var 3) (.blt .len (.cons false (.var 0) .nil))) (.and (.cmp .lt (.var 4) (.blt .len (.cons false (.var 1) .nil))) (.cmp .gt (.ix (.ix (.var 2) (.var 3)) (.var 4)) (.bin .add (.ix (.ix (.var 2) (.bin .add (.var 3) (.int 1))) (.bin .add (.var 4) (.int 1))) (.blt .int (.cons false (.cmp .ne (.ix (.var 0) (.var 3)) (.ix (.var 1) (.var 4))) .nil))))))
 (.cons (.ret (.bl false))
 .nil)
 .nil)
 (.cons (.kill 4)
 .nil))))) env := rfl
def b__law_due_2 : CSs :=
 (.cons (.forS (.name 4) (.rng1 (.bin .add (.blt .len (.cons false (.var 1) .nil)) (.int 1))) b__law_due_1)
 (.cons (.kill 3)
 .nil))
theorem B__law_due_2 {env : SH.Env} : evSs b__law_due_2 env = evSs ((.cons (.forS (.name 4) (.rng1 (.bin .add (.blt .len (.cons false (.var 1) .nil)) (.int 1))) b__law_due_1)
 (.cons (.kill 3)
 .nil))) env := rfl
def d__law_due : Def := ⟨"_law_due", ["_law_one", "_law_two", "_law_table_here", "_law_i", "_law_j", "_law_row"], 3,
 (.cons (.ite (.or (.cmp .ne (.blt .len (.cons false (.var 2) .nil)) (.bin .add (.blt .len (.cons false (.var 0) .nil)) (.int 1))) (.cmp .ne (.lc (.name 5) (.over (.var 2)) (.some (.cmp .ne (.blt .len (.cons false (.var 5) .nil)) (.bin .add (.blt .len (.cons false (.var 1) .nil)) (.int 1)))) (.var 5)) (.lst .nil)))
 (.cons (.ret (.bl false))
 .nil)
 .nil)
 (.cons (.ite (.cmp .gt (.ix (.ix (.var 2) (.blt .len (.cons false (.var 0) .nil))) (.blt .len (.cons false (.var 1) .nil))) (.int 0))
 (.cons (.ret (.bl false))
 .nil)
 .nil)
 (.cons (.forS (.name 3) (.rng1 (.bin .add (.blt .len (.cons false (.var 0) .nil)) (.int 1))) b__law_due_2)
 (.cons (.ret (.bl true))
 .nil))))⟩
def s__law_due : List D → Res D := d__law_due.run
def b__law_spoilt_1 : CSs :=
 (.cons (.set 4 (.call "_law_at" s__law_at .sc (.cons false (.var 0) (.cons false (.bin .add (.bin .add (.var 1) (.int 1)) (.var 3)) (.cons false (.int 60000) .nil)))))
 (.cons (.set 5 (.bin .mod (.blt .int (.cons false (.var 4) .nil)) (.int 9)))
 (.cons (.ite (.cmp .ne (.var 2) (.lst .nil))
 (.ali 6 2 (.bin .mod (.blt .int (.cons false (.bin .fdiv (.var 4) (.int 9)) .nil)) (.blt .len (.cons false (.var 2) .nil)))
 (.ite (.and (.cmp .lt (.var 5) (.int 6)) (.cmp .ne (.var 6) (.lst .nil)))
 (.aug (.bin .mod (.blt .int (.cons false (.bin .fdiv (.var 4) (.int 63)) .nil)) (.blt .len (.cons false (.var 6) .nil))) (.ix (.lst (.cons false (.neg (.int 1)) (.cons false (.int 1) (.cons false (.neg (.int 2)) (.cons false (.int 2) (.cons false (.neg (.int 9)) (.cons false (.int 1) .nil))))))) (.var 5)))
 (.ite (.cmp .eq (.var 5) (.int 6))
 (.mut .append (.cons false (.int 0) .nil))
 (.ite (.cmp .eq (.var 5) (.int 7))
 (.oth (.cons (.mut (.var 2) .pop .nil)
 .nil))
 (.mut .insert (.cons false (.int 0) (.cons false (.int 0) .nil)))))))
 .nil)
 (.cons (.kill 3)
 (.cons (.kill 4)
 (.cons (.kill 5)
 .nil))))))
theorem B__law_spoilt_1 {env : SH.Env} : evSs b__law_spoilt_1 env = evSs ((.cons (.set 4 (.call "_law_at" s__law_at .sc (.cons false (.var 0) (.cons false (.bin .add (.bin .add (.var 1) (.int 1)) (.var 3)) (.cons false (.int 60000) .nil)))))
 (.cons (.set 5 (.bin .mod (.blt .int (.cons false (.var 4) .nil)) (.int 9)))
 (.cons (.ite (.cmp .ne (.var 2) (.lst .nil))
 (.ali 6 2 (.bin .mod (.blt .int (.cons false (.bin .fdiv (.var 4) (.int 9)) .nil)) (.blt .len (.cons false (.var 2) .nil)))
 (.ite (.and (.cmp .lt (.var 5) (.int 6)) (.cmp .ne (.var 6) (.lst .nil)))
 (.aug (.bin .mod (.blt .int (.cons false (.bin .fdiv (.var 4) (.int 63)) .nil)) (.blt .len (.cons false (.var 6) .nil))) (.ix (.lst (.cons false (.neg (.int 1)) (.cons false (.int 1) (.cons false (.neg (.int 2)) (.cons false (.int 2) (.cons false (.neg (.int 9)) (.cons false (.int 1) .nil))))))) (.var 5)))
 (.ite (.cmp .eq (.var 5) (.int 6))
 (.mut .append (.cons false (.int 0) .nil))
 (.ite (.cmp .eq (.var 5) (.int 7))
 (.oth (.cons (.mut (.var 2) .pop .nil)
 .nil))
 (.mut .insert (.cons false (.int 0) (.cons false (.int 0) .nil)))))))
 .nil)
 (.cons (.kill 3)
 (.cons (.kill 4)
 (.cons (.kill 5)
 .nil))))))) env := rfl
def d__law_spoilt : Def := ⟨"_law_spoilt", ["_law_draws_here", "_law_first", "_law_table_here", "_law_turn", "_law_cell", "_law_kind", "_law_row"], 3,
 (.cons (.setC 2 (.lc (.name 6) (.over (.var 2)) .none (.blt .list (.cons false (.var 6) .nil))))
 (.cons (.forS (.name 3) (.rng1 (.call "_law_at" s__law_at .sc (.cons false (.var 0) (.cons false (.var 1) (.cons false (.int 4) .nil))))) b__law_spoilt_1)
 (.cons (.ret (.var 2))
 .nil)))⟩
def s__law_spoilt : List D → Res D := d__law_spoilt.run
def b_law_1 : CSs :=
 (.cons (.ite (.cmp .ne (.lc (.name 11) (.rng1 (.bin .add (.blt .len (.cons false (.var 3) .nil)) (.int 1))) (.some (.cmp .gt (.ix (.ix (.var 6) (.var 9)) (.var 11)) (.ix (.ix (.var 4) (.var 9)) (.var 11)))) (.var 11)) (.lst .nil))
 (.cons (.ret (.bl false))
 .nil)
 .nil)
 (.cons (.kill 9)
 .nil))
theorem B_law_1 {env : SH.Env} : evSs b_law_1 env = evSs ((.cons (.ite (.cmp .ne (.lc (.name 11) (.rng1 (.bin .add (.blt .len (.cons false (.var 3) .nil)) (.int 1))) (.some (.cmp .gt (.ix (.ix (.var 6) (.var 9)) (.var 11)) (.ix (.ix (.var 4) (.var 9)) (.var 11)))) (.var 11)) (.lst .nil))
 (.cons (.ret (.bl false))
 .nil)
 .nil)
 (.cons (.kill 9)
 .nil))) env := rfl
def b_law_2 : CSs :=
 (.cons (.set 6 (.call "_law_spoilt" s__law_spoilt (.nd (.nd .sh)) (.cons false (.var 1) (.cons false (.bin .add (.int 36) (.bin .mul (.int 4) (.var 5))) (.cons false (.var 4) .nil)))))
 (.cons (.ite (.cmp .eq (.call "_law_at" s__law_at .sc (.cons false (.var 1) (.cons false (.bin .add (.int 52) (.var 5)) (.cons false (.int 4) .nil)))) (.int 1))
 (.cons (.set 6 (.lc (.name 9) (.rng1 (.bin .add (.blt .len (.cons false (.var 2) .nil)) (.int 1))) .none (.lc (.name 11) (.rng1 (.bin .add (.blt .len (.cons false (.var 3) .nil)) (.int 1))) .none (.call "_law_at" s__law_at .sc (.cons false (.var 1) (.cons false (.bin .add (.bin .add (.int 30) (.var 9)) (.var 11)) (.cons false (.int 3) .nil)))))))
 (.cons (.wk 6 (.nd (.nd .sh)))
 .nil))
 .nil)
 (.cons (.wk 6 (.nd .sh))
 (.cons (.setC 7 (.lc (.name 10) (.over (.var 6)) .none (.blt .list (.cons false (.var 10) .nil))))
 (.cons (.set 8 (.call "is_low" s_is_low .sc (.cons false (.var 2) (.cons false (.var 3) (.cons false (.var 6) .nil)))))
 (.cons (.ite (.or (.not (.isi (.var 8) .bool)) (.or (.cmp .ne (.var 8) (.call "_law_due" s__law_due .sc (.cons false (.var 2) (.cons false (.var 3) (.cons false (.var 7) .nil))))) (.cmp .ne (.var 6) (.var 7))))
 (.cons (.ret (.bl false))
 .nil)
 .nil)
 (.cons (.ite (.var 8)
 (.cons (.kill 5)
 (.cons (.kill 7)
 (.cons (.kill 8)
 (.cons (.forS (.name 9) (.rng1 (.bin .add (.blt .len (.cons false (.var 2) .nil)) (.int 1))) b_law_1)
 .nil))))
 (.cons (.kill 5)
 (.cons (.kill 7)
 (.cons (.kill 8)
 .nil))))
 (.cons (.kill 6)
 .nil))))))))
def d_law : Def := ⟨"law", ["_law_script", "_law_draws_here", "_law_one", "_law_two", "_law_due_here", "_law_turn", "_law_table_here", "_law_kept", "_law_told", "_law_i", "_law_row", "_law_j"], 1,
 (.cons (.set 1 (.call "_law_draws" s__law_draws (.nd .sc) (.cons false (.var 0) .nil)))
 (.cons (.set 2 (.call "_law_word" s__law_word .sc (.cons false (.var 1) (.cons false (.int 1) (.cons false (.int 6) .nil)))))
 (.cons (.wk 1 .sh)
 (.cons (.set 3 (.call "_law_near" s__law_near .sh (.cons false (.var 1) (.cons false (.int 14) (.cons false (.var 2) .nil)))))
 (.cons (.ite (.cmp .eq (.call "_law_at" s__law_at .sc (.cons false (.var 1) (.cons false (.int 0) (.cons false (.int 3) .nil)))) (.int 1))
 (.cons (.set 3 (.call "_law_word" s__law_word .sc (.cons false (.var 1) (.cons false (.int 24) (.cons false (.int 6) .nil)))))
 (.cons (.wk 3 .sh)
 .nil))
 .nil)
 (.cons (.set 4 (.call "_law_table" s__law_table (.nd (.nd .sc)) (.cons false (.var 2) (.cons false (.var 3) .nil))))
 (.cons (.wk 4 (.nd .sh))
 (.cons (.ite (.or (.cmp .notB (.call "is_low" s_is_low .sc (.cons false (.var 2) (.cons false (.var 3) (.cons false (.lc (.name 10) (.over (.var 4)) .none (.blt .list (.cons false (.var 10) .nil))) .nil)))) (.bl true)) (.cmp .notB (.call "is_low" s_is_low .sc (.cons false (.var 2) (.cons false (.var 3) (.cons false (.lst .nil) .nil)))) (.bl false)))
 (.cons (.ret (.bl false))
 .nil)
 .nil)
 (.cons (.kill 0)
 (.cons (.wk 4 .sh)
 (.cons (.forS (.name 5) (.rng1 (.int 4)) b_law_2)
 (.cons (.ret (.bl true))
 .nil))))))))))))⟩
def s_law : List D → Res D := d_law.run
/-! ### what laws share -/
theorem e_is_low_element : s_is_low_element = C.s_is_low_element := run_same (by simp only [d_is_low_element, C.d_is_low_element]) rfl rfl
theorem e_is_low : s_is_low = C.s_is_low := run_same (by simp only [d_is_low, b_is_low_1, b_is_low_2, C.d_is_low, C.b_is_low_1, C.b_is_low_2, e_is_low_element]) rfl rfl
theorem e__law_draws : s__law_draws = C.s_l_draws_00 := run_same (by simp only [d__law_draws, b__law_draws_1, b__law_draws_2, C.d_l_draws_00, C.b_l_draws_00_1, C.b_l_draws_00_2]) rfl rfl
theorem e__law_at : s__law_at = C.s_l_at_00 := run_same (by simp only [d__law_at, C.d_l_at_00]) rfl rfl
theorem e__law_word : s__law_word = C.s_l_word_30 := run_same (by simp only [d__law_word, b__law_word_1, C.d_l_word_30, C.b_l_word_30_1, e__law_at]) rfl rfl
theorem e__law_near : s__law_near = C.s_l_near_30 := run_same (by simp only [d__law_near, b__law_near_1, C.d_l_near_30, C.b_l_near_30_1, e__law_at]) rfl rfl
theorem e__law_table : s__law_table = C.s_l_table_30 := run_same (by simp only [d__law_table, b__law_table_1, b__law_table_2, C.d_l_table_30, C.b_l_table_30_1, C.b_l_table_30_2]) rfl rfl
end L33
end
section
set_option Elab.async false
set_option linter.all false
set_option autoImplicit false
set_option maxRecDepth 100000
set_option maxHeartbeats 2000000
namespace L33
open PySem L2 SH
abbrev top (i : Nat) : Stmt := PySem.Challenge.pw_suffixhouse_k33_tables_from_below.main.body.getD i (.Pass ⟨0, 0, 0, 0⟩)
/-! ### the checks -/
theorem sc_is_low_element : FnScope d_is_low_element.N d_is_low_element.ps (defScope (top 1)) := ⟨rfl, rfl, rfl, by decide +kernel, rfl, by decide +kernel, by decide +kernel⟩
theorem ck_is_low_element : d_is_low_element.ck .sc (defScope (top 1)) (defBody (top 1)) = true := by decide +kernel
theorem sc_is_low : FnScope d_is_low.N d_is_low.ps (defScope (top 2)) := ⟨rfl, rfl, rfl, by decide +kernel, rfl, by decide +kernel, by decide +kernel⟩
theorem ck_is_low : d_is_low.ck .sc (defScope (top 2)) (defBody (top 2)) = true := by decide +kernel
theorem sc__law_draws : FnScope d__law_draws.N d__law_draws.ps (defScope (top 4)) := ⟨rfl, rfl, rfl, by decide +kernel, rfl, by decide +kernel, by decide +kernel⟩
theorem ck__law_draws : d__law_draws.ck (.nd .sc) (defScope (top 4)) (defBody (top 4)) = true := by decide +kernel
theorem sc__law_at : FnScope d__law_at.N d__law_at.ps (defScope (top 5)) := ⟨rfl, rfl, rfl, by decide +kernel, rfl, by decide +kernel, by decide +kernel⟩
theorem ck__law_at : d__law_at.ck .sc (defScope (top 5)) (defBody (top 5)) = true := by decide +kernel
theorem sc__law_word : FnScope d__law_word.N d__law_word.ps (defScope (top 7)) := ⟨rfl, rfl, rfl, by decide +kernel, rfl, by decide +kernel, by decide +kernel⟩
theorem ck__law_word : d__law_word.ck .sc (defScope (top 7)) (defBody (top 7)) = true := by decide +kernel
theorem sc__law_near : FnScope d__law_near.N d__law_near.ps (defScope (top 8)) := ⟨rfl, rfl, rfl, by decide +kernel, rfl, by decide +kernel, by decide +kernel⟩
theorem ck__law_near : d__law_near.ck .sh (defScope (top 8)) (defBody (top 8)) = true := by decide +kernel
theorem sc__law_table : FnScope d__law_table.N d__law_table.ps (defScope (top 9)) := ⟨rfl, rfl, rfl, by decide +kernel, rfl, by decide +kernel, by decide +kernel⟩
theorem ck__law_table : d__law_table.ck (.nd (.nd .sc)) (defScope (top 9)) (defBody (top 9)) = true := by decide +kernel
theorem sc__law_due : FnScope d__law_due.N d__law_due.ps (defScope (top 10)) := ⟨rfl, rfl, rfl, by decide +kernel, rfl, by decide +kernel, by decide +kernel⟩
theorem ck__law_due : d__law_due.ck .sc (defScope (top 10)) (defBody (top 10)) = true := by decide +kernel
theorem sc__law_spoilt : FnScope d__law_spoilt.N d__law_spoilt.ps (defScope (top 11)) := ⟨rfl, rfl, rfl, by decide +kernel, rfl, by decide +kernel, by decide +kernel⟩
theorem ck__law_spoilt : d__law_spoilt.ck (.nd (.nd .sh)) (defScope (top 11)) (defBody (top 11)) = true := by decide +kernel
theorem sc_law : FnScope d_law.N d_law.ps (defScope (top 12)) := ⟨rfl, rfl, rfl, by decide +kernel, rfl, by decide +kernel, by decide +kernel⟩
theorem ck_law : d_law.ck .sc (defScope (top 12)) (defBody (top 12)) = true := by decide +kernel
/-! ### what the head tells -/
structure Tx (P : Pm) : Prop where
  xs : P.xs = noXs
  f_is_low_element : ∃ f fd, FnP P.K "is_low_element" (top 1) f fd ∧ P.mg "is_low_element" = some (.ref f)
  f_is_low : ∃ f fd, FnP P.K "is_low" (top 2) f fd ∧ P.mg "is_low" = some (.ref f)
  f__law_draws : ∃ f fd, FnP P.K "_law_draws" (top 4) f fd ∧ P.mg "_law_draws" = some (.ref f)
  f__law_at : ∃ f fd, FnP P.K "_law_at" (top 5) f fd ∧ P.mg "_law_at" = some (.ref f)
  f__law_word : ∃ f fd, FnP P.K "_law_word" (top 7) f fd ∧ P.mg "_law_word" = some (.ref f)
  f__law_near : ∃ f fd, FnP P.K "_law_near" (top 8) f fd ∧ P.mg "_law_near" = some (.ref f)
  f__law_table : ∃ f fd, FnP P.K "_law_table" (top 9) f fd ∧ P.mg "_law_table" = some (.ref f)
  f__law_due : ∃ f fd, FnP P.K "_law_due" (top 10) f fd ∧ P.mg "_law_due" = some (.ref f)
  f__law_spoilt : ∃ f fd, FnP P.K "_law_spoilt" (top 11) f fd ∧ P.mg "_law_spoilt" = some (.ref f)
  f_law : ∃ f fd, FnP P.K "law" (top 12) f fd ∧ P.mg "law" = some (.ref f)
  m_abs : P.mg "abs" = none
  m_all : P.mg "all" = none
  m_bool : P.mg "bool" = none
  m_int : P.mg "int" = none
  m_isinstance : P.mg "isinstance" = none
  m_len : P.mg "len" = none
  m_list : P.mg "list" = none
  m_min : P.mg "min" = none
  m_range : P.mg "range" = none
/-! ### each def -/
theorem n_is_low_element {P : Pm} (T : Tx P) : NdSs P 0 d_is_low_element.body := by
  simp only [NdSs, NdS, NdA, NdE, NdEs, NdO, NdSrc, NdHs, NdHB, d_is_low_element, CEs.len, bltNm, tyNm, and_true, true_and, and_self, implies_true, Nat.zero_add, Nat.reduceAdd, T.m_int, T.m_len]
theorem o_is_low_element {P : Pm} (T : Tx P) {f : Addr} {fd : FuncData} (F : FnP P.K "is_low_element" (top 1) f fd) : FnOk P.prog P.w P.K P.mg P.base (L2.CX P.prog P.w) 1 f fd d_is_low_element.ps (spOf P d_is_low_element.run .sc d_is_low_element.npar) := fn_def T.xs F sc_is_low_element ck_is_low_element (n_is_low_element T)
theorem c_is_low_element {P : Pm} (T : Tx P) : Cal P 1 "is_low_element" s_is_low_element .sc 5 := by
  obtain ⟨f, fd, F, g⟩ := T.f_is_low_element
  exact cal_of F (o_is_low_element T F) (Nat.le_refl _) (by decide) g (FunD.bindsN F fun _ _ _ _ _ _ us hl => match us, hl with | [_, _, _, _, _], _ => rfl)
theorem n_is_low {P : Pm} (T : Tx P) : NdSs P 1 d_is_low.body := by
  simp only [NdSs, NdS, NdA, NdE, NdEs, NdO, NdSrc, NdHs, NdHB, d_is_low, b_is_low_1, b_is_low_2, CEs.len, bltNm, tyNm, and_true, true_and, and_self, implies_true, Nat.zero_add, Nat.reduceAdd, T.m_all, T.m_len, T.m_range, (c_is_low_element T).mono (k' := 1) (by decide)]
theorem o_is_low {P : Pm} (T : Tx P) {f : Addr} {fd : FuncData} (F : FnP P.K "is_low" (top 2) f fd) : FnOk P.prog P.w P.K P.mg P.base (L2.CX P.prog P.w) 2 f fd d_is_low.ps (spOf P d_is_low.run .sc d_is_low.npar) := fn_def T.xs F sc_is_low ck_is_low (n_is_low T)
theorem c_is_low {P : Pm} (T : Tx P) : Cal P 2 "is_low" s_is_low .sc 3 := by
  obtain ⟨f, fd, F, g⟩ := T.f_is_low
  exact cal_of F (o_is_low T F) (Nat.le_refl _) (by decide) g (FunD.bindsN F fun _ _ _ _ _ _ us hl => match us, hl with | [_, _, _], _ => rfl)
theorem n__law_draws {P : Pm} (T : Tx P) : NdSs P 0 d__law_draws.body := by
  simp only [NdSs, NdS, NdA, NdE, NdEs, NdO, NdSrc, NdHs, NdHB, d__law_draws, b__law_draws_1, b__law_draws_2, CEs.len, bltNm, tyNm, and_true, true_and, and_self, implies_true, Nat.zero_add, Nat.reduceAdd, T.m_abs, T.m_int, T.m_len, T.m_min, T.m_range]
theorem o__law_draws {P : Pm} (T : Tx P) {f : Addr} {fd : FuncData} (F : FnP P.K "_law_draws" (top 4) f fd) : FnOk P.prog P.w P.K P.mg P.base (L2.CX P.prog P.w) 1 f fd d__law_draws.ps (spOf P d__law_draws.run (.nd .sc) d__law_draws.npar) := fn_def T.xs F sc__law_draws ck__law_draws (n__law_draws T)
theorem c__law_draws {P : Pm} (T : Tx P) : Cal P 1 "_law_draws" s__law_draws (.nd .sc) 1 := by
  obtain ⟨f, fd, F, g⟩ := T.f__law_draws
  exact cal_of F (o__law_draws T F) (Nat.le_refl _) (by decide) g (FunD.bindsN F fun _ _ _ _ _ _ us hl => match us, hl with | [_], _ => rfl)
theorem n__law_at {P : Pm} (T : Tx P) : NdSs P 0 d__law_at.body := by
  simp only [NdSs, NdS, NdA, NdE, NdEs, NdO, NdSrc, NdHs, NdHB, d__law_at, CEs.len, bltNm, tyNm, and_true, true_and, and_self, implies_true, Nat.zero_add, Nat.reduceAdd, T.m_int, T.m_len]
theorem o__law_at {P : Pm} (T : Tx P) {f : Addr} {fd : FuncData} (F : FnP P.K "_law_at" (top 5) f fd) : FnOk P.prog P.w P.K P.mg P.base (L2.CX P.prog P.w) 1 f fd d__law_at.ps (spOf P d__law_at.run .sc d__law_at.npar) := fn_def T.xs F sc__law_at ck__law_at (n__law_at T)
theorem c__law_at {P : Pm} (T : Tx P) : Cal P 1 "_law_at" s__law_at .sc 3 := by
  obtain ⟨f, fd, F, g⟩ := T.f__law_at
  exact cal_of F (o__law_at T F) (Nat.le_refl _) (by decide) g (FunD.bindsN F fun _ _ _ _ _ _ us hl => match us, hl with | [_, _, _], _ => rfl)
theorem n__law_word {P : Pm} (T : Tx P) : NdSs P 1 d__law_word.body := by
  simp only [NdSs, NdS, NdA, NdE, NdEs, NdO, NdSrc, NdHs, NdHB, d__law_word, b__law_word_1, CEs.len, bltNm, tyNm, and_true, true_and, and_self, implies_true, Nat.zero_add, Nat.reduceAdd, T.m_int, T.m_len, T.m_range, (c__law_at T).mono (k' := 1) (by decide)]
theorem o__law_word {P : Pm} (T : Tx P) {f : Addr} {fd : FuncData} (F : FnP P.K "_law_word" (top 7) f fd) : FnOk P.prog P.w P.K P.mg P.base (L2.CX P.prog P.w) 2 f fd d__law_word.ps (spOf P d__law_word.run .sc d__law_word.npar) := fn_def T.xs F sc__law_word ck__law_word (n__law_word T)
theorem c__law_word {P : Pm} (T : Tx P) : Cal P 2 "_law_word" s__law_word .sc 3 := by
  obtain ⟨f, fd, F, g⟩ := T.f__law_word
  exact cal_of F (o__law_word T F) (Nat.le_refl _) (by decide) g (FunD.bindsN F fun _ _ _ _ _ _ us hl => match us, hl with | [_, _, _], _ => rfl)
theorem n__law_near {P : Pm} (T : Tx P) : NdSs P 1 d__law_near.body := by
  simp only [NdSs, NdS, NdA, NdE, NdEs, NdO, NdSrc, NdHs, NdHB, d__law_near, b__law_near_1, CEs.len, bltNm, tyNm, and_true, true_and, and_self, implies_true, Nat.zero_add, Nat.reduceAdd, T.m_int, T.m_len, T.m_range, (c__law_at T).mono (k' := 1) (by decide)]
theorem o__law_near {P : Pm} (T : Tx P) {f : Addr} {fd : FuncData} (F : FnP P.K "_law_near" (top 8) f fd) : FnOk P.prog P.w P.K P.mg P.base (L2.CX P.prog P.w) 2 f fd d__law_near.ps (spOf P d__law_near.run .sh d__law_near.npar) := fn_def T.xs F sc__law_near ck__law_near (n__law_near T)
theorem c__law_near {P : Pm} (T : Tx P) : Cal P 2 "_law_near" s__law_near .sh 3 := by
  obtain ⟨f, fd, F, g⟩ := T.f__law_near
  exact cal_of F (o__law_near T F) (Nat.le_refl _) (by decide) g (FunD.bindsN F fun _ _ _ _ _ _ us hl => match us, hl with | [_, _, _], _ => rfl)
theorem n__law_table {P : Pm} (T : Tx P) : NdSs P 0 d__law_table.body := by
  simp only [NdSs, NdS, NdA, NdE, NdEs, NdO, NdSrc, NdHs, NdHB, d__law_table, b__law_table_1, b__law_table_2, CEs.len, bltNm, tyNm, and_true, true_and, and_self, implies_true, Nat.zero_add, Nat.reduceAdd, T.m_int, T.m_len, T.m_min, T.m_range]
theorem o__law_table {P : Pm} (T : Tx P) {f : Addr} {fd : FuncData} (F : FnP P.K "_law_table" (top 9) f fd) : FnOk P.prog P.w P.K P.mg P.base (L2.CX P.prog P.w) 1 f fd d__law_table.ps (spOf P d__law_table.run (.nd (.nd .sc)) d__law_table.npar) := fn_def T.xs F sc__law_table ck__law_table (n__law_table T)
theorem c__law_table {P : Pm} (T : Tx P) : Cal P 1 "_law_table" s__law_table (.nd (.nd .sc)) 2 := by
  obtain ⟨f, fd, F, g⟩ := T.f__law_table
  exact cal_of F (o__law_table T F) (Nat.le_refl _) (by decide) g (FunD.bindsN F fun _ _ _ _ _ _ us hl => match us, hl with | [_, _], _ => rfl)
theorem n__law_due {P : Pm} (T : Tx P) : NdSs P 0 d__law_due.body := by
  simp only [NdSs, NdS, NdA, NdE, NdEs, NdO, NdSrc, NdHs, NdHB, d__law_due, b__law_due_1, b__law_due_2, CEs.len, bltNm, tyNm, and_true, true_and, and_self, implies_true, Nat.zero_add, Nat.reduceAdd, T.m_int, T.m_len, T.m_range]
theorem o__law_due {P : Pm} (T : Tx P) {f : Addr} {fd : FuncData} (F : FnP P.K "_law_due" (top 10) f fd) : FnOk P.prog P.w P.K P.mg P.base (L2.CX P.prog P.w) 1 f fd d__law_due.ps (spOf P d__law_due.run .sc d__law_due.npar) := fn_def T.xs F sc__law_due ck__law_due (n__law_due T)
theorem c__law_due {P : Pm} (T : Tx P) : Cal P 1 "_law_due" s__law_due .sc 3 := by
  obtain ⟨f, fd, F, g⟩ := T.f__law_due
  exact cal_of F (o__law_due T F) (Nat.le_refl _) (by decide) g (FunD.bindsN F fun _ _ _ _ _ _ us hl => match us, hl with | [_, _, _], _ => rfl)
theorem n__law_spoilt {P : Pm} (T : Tx P) : NdSs P 1 d__law_spoilt.body := by
  simp only [NdSs, NdS, NdA, NdE, NdEs, NdO, NdSrc, NdHs, NdHB, d__law_spoilt, b__law_spoilt_1, CEs.len, bltNm, tyNm, and_true, true_and, and_self, implies_true, Nat.zero_add, Nat.reduceAdd, T.m_int, T.m_len, T.m_list, T.m_range, (c__law_at T).mono (k' := 1) (by decide)]
theorem o__law_spoilt {P : Pm} (T : Tx P) {f : Addr} {fd : FuncData} (F : FnP P.K "_law_spoilt" (top 11) f fd) : FnOk P.prog P.w P.K P.mg P.base (L2.CX P.prog P.w) 2 f fd d__law_spoilt.ps (spOf P d__law_spoilt.run (.nd (.nd .sh)) d__law_spoilt.npar) := fn_def T.xs F sc__law_spoilt ck__law_spoilt (n__law_spoilt T)
theorem c__law_spoilt {P : Pm} (T : Tx P) : Cal P 2 "_law_spoilt" s__law_spoilt (.nd (.nd .sh)) 3 := by
  obtain ⟨f, fd, F, g⟩ := T.f__law_spoilt
  exact cal_of F (o__law_spoilt T F) (Nat.le_refl _) (by decide) g (FunD.bindsN F fun _ _ _ _ _ _ us hl => match us, hl with | [_, _, _], _ => rfl)
theorem n_law {P : Pm} (T : Tx P) : NdSs P 2 d_law.body := by
  simp only [NdSs, NdS, NdA, NdE, NdEs, NdO, NdSrc, NdHs, NdHB, d_law, b_law_1, b_law_2, CEs.len, bltNm, tyNm, and_true, true_and, and_self, implies_true, Nat.zero_add, Nat.reduceAdd, T.m_bool, T.m_isinstance, T.m_len, T.m_list, T.m_range, (c__law_at T).mono (k' := 2) (by decide), (c__law_draws T).mono (k' := 2) (by decide), (c__law_due T).mono (k' := 2) (by decide), (c__law_near T).mono (k' := 2) (by decide), (c__law_spoilt T).mono (k' := 2) (by decide), (c__law_table T).mono (k' := 2) (by decide), (c__law_word T).mono (k' := 2) (by decide), (c_is_low T).mono (k' := 2) (by decide)]
theorem o_law {P : Pm} (T : Tx P) {f : Addr} {fd : FuncData} (F : FnP P.K "law" (top 12) f fd) : FnOk P.prog P.w P.K P.mg P.base (L2.CX P.prog P.w) 3 f fd d_law.ps (spOf P d_law.run .sc d_law.npar) := fn_def T.xs F sc_law ck_law (n_law T)
/-! ### the head -/
def fn : List He.DefD := [dd "is_low_element" (top 1), dd "is_low" (top 2), dd "_law_draws" (top 4), dd "_law_at" (top 5), dd "_law_word" (top 7), dd "_law_near" (top 8), dd "_law_table" (top 9), dd "_law_due" (top 10), dd "_law_spoilt" (top 11), dd "law" (top 12)]
def fa : List He.Fa := [.glo "is_low_element", .glo "is_low", .glo "_law_draws", .glo "_law_at", .glo "_law_word", .glo "_law_near", .glo "_law_table", .glo "_law_due", .glo "_law_spoilt", .glo "law", .free "abs", .free "all", .free "bool", .free "int", .free "isinstance", .free "len", .free "list", .free "min", .free "range"]
def fb : List (Fg → Bool) := []
abbrev R : PySem.W.OpenRow := PySem.W.OpenLaw.row PySem.Challenge.rw_suffixhouse_k33_tables_from_below
abbrev hk : PySem.W.Hook := hookS 5 fb fa fn
def ob (s : PySem.W.SharedT) : He.AlD := obsSG 5 fb fa fn (HandSHeadRun.getT s)
theorem ob_eq (s : PySem.W.SharedT) : ob s = hk.obs s.abs := obsSG_eq (HandSHeadRun.getT_eq s)
def loose : List PySem.Str := (["is_low_element", "is_low", "_law_draws", "_law_at", "_law_is_integer", "_law_word", "_law_near", "_law_table", "_law_due", "_law_spoilt"] : List PySem.Str)
set_option maxRecDepth 100000 in
set_option maxHeartbeats 0 in
theorem run (w : World) : HandSHeadRun.RunEq R (PySem.W.view R.prog [12]) hk ob 4000 loose w := by
  intro os
  kernel_rfl
theorem w_tx_of {prog : Program} {w : World} {K : Fg} {h : Heap} {mg : Str → Option Value} {base : Heap} (X : K.In h) (G : h.Ns mainGlobals mg) (c : SaysS fb fa fn K) : Tx (pmOf K prog w mg base) := by
  have h_is_low_element : ∃ f fd, FnP K "is_low_element" (top 1) f fd ∧ mg "is_low_element" = some (.ref f) := by
    obtain ⟨fd, F⟩ := c.d.def_ 0 rfl
    exact ⟨_, fd, F, He.glo_ok X G (c.d.fact 0 rfl)⟩
  have h_is_low : ∃ f fd, FnP K "is_low" (top 2) f fd ∧ mg "is_low" = some (.ref f) := by
    obtain ⟨fd, F⟩ := c.d.def_ 1 rfl
    exact ⟨_, fd, F, He.glo_ok X G (c.d.fact 1 rfl)⟩
  have h__law_draws : ∃ f fd, FnP K "_law_draws" (top 4) f fd ∧ mg "_law_draws" = some (.ref f) := by
    obtain ⟨fd, F⟩ := c.d.def_ 2 rfl
    exact ⟨_, fd, F, He.glo_ok X G (c.d.fact 2 rfl)⟩
  have h__law_at : ∃ f fd, FnP K "_law_at" (top 5) f fd ∧ mg "_law_at" = some (.ref f) := by
    obtain ⟨fd, F⟩ := c.d.def_ 3 rfl
    exact ⟨_, fd, F, He.glo_ok X G (c.d.fact 3 rfl)⟩
  have h__law_word : ∃ f fd, FnP K "_law_word" (top 7) f fd ∧ mg "_law_word" = some (.ref f) := by
    obtain ⟨fd, F⟩ := c.d.def_ 4 rfl
    exact ⟨_, fd, F, He.glo_ok X G (c.d.fact 4 rfl)⟩
  have h__law_near : ∃ f fd, FnP K "_law_near" (top 8) f fd ∧ mg "_law_near" = some (.ref f) := by
    obtain ⟨fd, F⟩ := c.d.def_ 5 rfl
    exact ⟨_, fd, F, He.glo_ok X G (c.d.fact 5 rfl)⟩
  have h__law_table : ∃ f fd, FnP K "_law_table" (top 9) f fd ∧ mg "_law_table" = some (.ref f) := by
    obtain ⟨fd, F⟩ := c.d.def_ 6 rfl
    exact ⟨_, fd, F, He.glo_ok X G (c.d.fact 6 rfl)⟩
  have h__law_due : ∃ f fd, FnP K "_law_due" (top 10) f fd ∧ mg "_law_due" = some (.ref f) := by
    obtain ⟨fd, F⟩ := c.d.def_ 7 rfl
    exact ⟨_, fd, F, He.glo_ok X G (c.d.fact 7 rfl)⟩
  have h__law_spoilt : ∃ f fd, FnP K "_law_spoilt" (top 11) f fd ∧ mg "_law_spoilt" = some (.ref f) := by
    obtain ⟨fd, F⟩ := c.d.def_ 8 rfl
    exact ⟨_, fd, F, He.glo_ok X G (c.d.fact 8 rfl)⟩
  have h_law : ∃ f fd, FnP K "law" (top 12) f fd ∧ mg "law" = some (.ref f) := by
    obtain ⟨fd, F⟩ := c.d.def_ 9 rfl
    exact ⟨_, fd, F, He.glo_ok X G (c.d.fact 9 rfl)⟩
  exact ⟨rfl, h_is_low_element, h_is_low, h__law_draws, h__law_at, h__law_word, h__law_near, h__law_table, h__law_due, h__law_spoilt, h_law, He.free_ok X G (c.d.fact 10 rfl), He.free_ok X G (c.d.fact 11 rfl), He.free_ok X G (c.d.fact 12 rfl), He.free_ok X G (c.d.fact 13 rfl), He.free_ok X G (c.d.fact 14 rfl), He.free_ok X G (c.d.fact 15 rfl), He.free_ok X G (c.d.fact 16 rfl), He.free_ok X G (c.d.fact 17 rfl), He.free_ok X G (c.d.fact 18 rfl)⟩
/-! ### the end -/
theorem holds (law_runs : ∀ ns : List Int, ns.length ≤ 63 → d_law.run [.ro ns] = .ok (.bl true)) : PySem.Challenge.rw_suffixhouse_k33_tables_from_below.Holds := by
  open PySem.W PySem.Calls PyProof.Rows in
  w_on; o_law
  refine HandSHeadRun.head_any (r := PySem.W.OpenLaw.row PySem.Challenge.rw_suffixhouse_k33_tables_from_below) (q := PySem.W.view R.prog [12]) (H := hk) (ob := ob) (M := 4000) (loose := loose) (d := HandSHeadRun.topDef R.prog 12) (kwd := []) ob_eq
    (by kernel_rfl) (fun s => by kernel_rfl) run (by kernel_rfl) (by kernel_rfl) (by kernel_rfl) (by rfl) (by first | assumption | decide +kernel) (by decide +kernel) ⟨rfl, rfl, rfl, rfl, rfl, by decide +kernel⟩ ?hw ?hc
  case hw => w_witness2
  case hc =>
    refine walk_ofW (l := PySem.Challenge.rw_suffixhouse_k33_tables_from_below) (n := 63) (k := 3) (x := "_law_script") rfl (by decide) (by kernel_rfl) ⟨rfl, by decide, by decide⟩ (CX := fun w => L2.CX R.prog w) ?F (fun _ _ _ _ _ z => cx_none z)
    intro w mg fa h Y G hmg0
    obtain ⟨K, KX, c⟩ := Y
    have hmg : mg ("law" : PySem.Str) = some (.ref fa) := by
      have e : (HandSHeadRun.topDef R.prog 12).name = ("law" : PySem.Str) := by kernel_rfl
      rw [← e]
      exact hmg0
    obtain ⟨fd, F⟩ := c.d.def_ 9 rfl
    have e := hmg.symm.trans (He.glo_ok KX G (c.d.fact 9 rfl))
    cases e
    have b := FunD.bindsA (ps := ["_law_script"]) F fun _ _ _ _ _ _ us hl => match us, hl with | [_], _ => rfl
    exact ⟨K, fd, spLaw (fun base => pmOf K R.prog w mg base) d_law, KX, fun s v => b s [v] rfl, fun H a ns hl _ hS => law_sp (P := fun base => pmOf K R.prog w mg base) (fun _ => rfl) rfl hS (law_runs ns hl), fun base _ _ => law_fn (P := fun base => pmOf K R.prog w mg base) (o_law (w_tx_of KX G c) F)⟩
end L33
end
section
set_option Elab.async false
set_option linter.all false
set_option autoImplicit false
set_option maxRecDepth 10000
namespace L33
open PySem SH SH.C
abbrev eR : List Int → D := eL D.int
def gv (T : List (List Int)) (i j : Nat) : Int := (T.getD i []).getD j 0
def elB (a b : List Char) (g : Nat → Nat → Int) (i j : Nat) : Bool :=
  !(decide (i < a.length ∧ g (i + 1) j + 1 < g i j) || decide (j < b.length ∧ g i (j + 1) + 1 < g i j)) &&
  (if i < a.length ∧ j < b.length then decide (g i j ≤ g (i + 1) (j + 1) + (nec (a.getD i ' ') (b.getD j ' ') : Nat)) else decide (i < a.length ∨ j < b.length ∨ g i j ≤ 0))
def Form (a b : List Char) (T : List (List Int)) : Prop := T.length = a.length + 1 ∧ ∀ r ∈ T, r.length = b.length + 1
instance (a b : List Char) (T : List (List Int)) : Decidable (Form a b T) := by unfold Form; exact inferInstance
def lowB (a b : List Char) (T : List (List Int)) : Bool := decide (Form a b T) && decide (∀ i, i < a.length + 1 → ∀ j, j < b.length + 1 → elB a b (gv T) i j = true)
theorem row_ix {a b : List Char} {T : List (List Int)} (F : Form a b T) {v : Int} {i : Nat} (hv : v = i) (h : i ≤ a.length) : ixD (.lst (T.map eR)) (.int v) = .ok (.lst ((T.getD i []).map D.int)) := by
  have := F.1
  rw [ixI_map (by omega) (by omega)]
  have e : T.getD i [] = T[v.toNat]'(by omega) := by
    have ei : v.toNat = i := by omega
    simp only [ei]
    rw [List.getD_eq_getElem?_getD, List.getElem?_eq_getElem (by omega)]; rfl
  rw [e]; rfl
theorem cell_ix {a b : List Char} {T : List (List Int)} (F : Form a b T) {v : Int} {i j : Nat} (hv : v = j) (h : i ≤ a.length) (hj : j ≤ b.length) : ixD (.lst ((T.getD i []).map D.int)) (.int v) = .ok (.int (gv T i j)) := by
  have h1 := F.1
  have hi : i < T.length := by omega
  have e : T.getD i [] = T[i] := by rw [List.getD_eq_getElem?_getD, List.getElem?_eq_getElem hi]; rfl
  have hr := F.2 _ (List.getElem_mem hi)
  unfold gv
  rw [e]
  rw [ixI_map (by omega) (by omega)]
  have ej : v.toNat = j := by omega
  simp only [ej]
  rw [List.getD_eq_getElem?_getD, List.getElem?_eq_getElem (by omega)]; rfl
theorem getD_c {s : List Char} {j : Nat} (h : j < s.length) : s.getD j ' ' = s[j] := by rw [List.getD_eq_getElem?_getD, List.getElem?_eq_getElem h]; rfl
theorem elem_r (a b : List Char) (T : List (List Int)) (F : Form a b T) (ha : a.length ≤ 100) (hb : b.length ≤ 100) {i j : Nat} (hi : i ≤ a.length) (hj : j ≤ b.length) : C.s_is_low_element [.str a, .str b, .lst (T.map eR), .int i, .int j] = .ok (.bl (elB a b (gv T) i j)) := by
  unfold C.s_is_low_element
  refine run_is rfl ?_
  have r0 := row_ix F (v := i) (i := i) rfl hi
  have c0 := cell_ix F (v := j) (i := i) (j := j) rfl hi hj
  have r1 : i < a.length → ixD (.lst (T.map eR)) (.int ((i : Int) + 1)) = .ok (.lst ((T.getD (i + 1) []).map D.int)) := fun h => row_ix F (by omega) (by omega)
  have c1 : i < a.length → ixD (.lst ((T.getD (i + 1) []).map D.int)) (.int j) = .ok (.int (gv T (i + 1) j)) := fun h => cell_ix F (by omega) (by omega) hj
  have c2 : j < b.length → ixD (.lst ((T.getD i []).map D.int)) (.int ((j : Int) + 1)) = .ok (.int (gv T i (j + 1))) := fun h => cell_ix F (by omega) hi (by omega)
  have c3 : i < a.length → j < b.length → ixD (.lst ((T.getD (i + 1) []).map D.int)) (.int ((j : Int) + 1)) = .ok (.int (gv T (i + 1) (j + 1))) := fun h h' => cell_ix F (by omega) (by omega) (by omega)
  by_cases h1 : i < a.length
  · have h1' : (i : Int) < a.length := by omega
    have cx := strIx (s := a) (v := (i : Int)) (j := i) rfl (by omega) h1
    have r1 := r1 h1
    have c1 := c1 h1
    by_cases h2 : j < b.length
    · have h2' : (j : Int) < b.length := by omega
      have cy := strIx (s := b) (v := (j : Int)) (j := j) rfl (by omega) h2
      have c2 := c2 h2
      have c3 := c3 h1 h2
      unfold elB
      rw [getD_c h1, getD_c h2]
      generalize a[i] = x at *
      generalize b[j] = y at *
      by_cases g1 : gv T (i + 1) j + 1 < gv T i j
      · simp_arith [ C.d_is_low_element, r0, c0, b_lenS, h1, h1', r1, c1, g1]
        simp
      · by_cases g2 : gv T i (j + 1) + 1 < gv T i j
        · simp_arith [ C.d_is_low_element, r0, c0, b_lenS, h1, h1', r1, c1, g1, h2, h2', c2, g2]
          simp
        · simp_arith [ C.d_is_low_element, r0, c0, b_lenS, h1, h1', r1, c1, g1, h2, h2', c2, g2, c3, cx, cy, necI]
          simp
    · have h2' : ¬ (j : Int) < b.length := by omega
      unfold elB
      by_cases g1 : gv T (i + 1) j + 1 < gv T i j
      · simp_arith [ C.d_is_low_element, r0, c0, b_lenS, h1, h1', r1, c1, g1]
        simp
      · simp_arith [ C.d_is_low_element, r0, c0, b_lenS, h1, h1', r1, c1, g1, h2, h2']
        simp
  · have h1' : ¬ (i : Int) < a.length := by omega
    unfold elB
    by_cases h2 : j < b.length
    · have h2' : (j : Int) < b.length := by omega
      have c2 := c2 h2
      by_cases g2 : gv T i (j + 1) + 1 < gv T i j
      · simp_arith [ C.d_is_low_element, r0, c0, b_lenS, h1, h1', h2, h2', c2, g2]
        simp
      · simp_arith [ C.d_is_low_element, r0, c0, b_lenS, h1, h1', h2, h2', c2, g2]
        simp
    · have h2' : ¬ (j : Int) < b.length := by omega
      simp_arith [ C.d_is_low_element, r0, c0, b_lenS, h1, h1', h2, h2']
      simp

theorem all_form (b : List Char) (T : List (List Int)) : (T.map fun r => decide ((r.length : Int) = (b.length : Int) + 1)).all id = decide (∀ r ∈ T, r.length = b.length + 1) := by
  rw [Bool.eq_iff_iff, List.all_eq_true, decide_eq_true_eq]
  constructor
  · intro h r hr
    have := h _ (List.mem_map.mpr ⟨r, hr, rfl⟩)
    simp at this; omega
  · intro h x hx
    obtain ⟨r, hr, rfl⟩ := List.mem_map.mp hx
    have := h r hr
    simp; omega
theorem low_no {a b : List Char} {T : List (List Int)} {i j : Nat} (hi : i < a.length + 1) (hj : j < b.length + 1) (h : elB a b (gv T) i j = false) : lowB a b T = false := by
  unfold lowB
  rw [Bool.and_eq_false_iff]
  right
  rw [decide_eq_false_iff_not]
  intro z
  rw [z i hi j hj] at h
  cases h
theorem low_yes {a b : List Char} {T : List (List Int)} (F : Form a b T) (h : ∀ i, i < a.length + 1 → ∀ j, j < b.length + 1 → elB a b (gv T) i j = true) : lowB a b T = true := by
  unfold lowB
  rw [decide_eq_true F, decide_eq_true h]; rfl
theorem is_low_r (a b : List Char) (T : List (List Int)) (ha : a.length ≤ 100) (hb : b.length ≤ 100) (hT : T.length ≤ 1000) : C.s_is_low [.str a, .str b, .lst (T.map eR)] = .ok (.bl (lowB a b T)) := by
  unfold C.s_is_low
  refine run_is rfl ?_
  have ha1 : ((a.length : Int) + 1).toNat = a.length + 1 := by omega
  have hb1 : ((b.length : Int) + 1).toNat = b.length + 1 := by omega
  by_cases h1 : T.length = a.length + 1
  · have h1' : (T.length : Int) = (a.length : Int) + 1 := by omega
    simp_arith [ C.d_is_low, b_lenS, h1']
    rw [lc_map (fun r : List Int => D.bl (decide ((r.length : Int) = (b.length : Int) + 1))) T (fun r hr => ?_) (by simp only [lim_is]; omega)]
    · have e : (T.map fun r => D.bl (decide ((r.length : Int) = (b.length : Int) + 1))) = (T.map fun r => decide ((r.length : Int) = (b.length : Int) + 1)).map D.bl := by simp
      rw [e]
      simp_arith [ b_all, all_form]
      by_cases h2 : ∀ r ∈ T, r.length = b.length + 1
      · have F : Form a b T := ⟨h1, h2⟩
        rw [decide_eq_true h2]
        simp_arith [ b_lenS, ha1]
        refine sat_to (for_rng _ (fun i e => e = [some (.str a), some (.str b), some (.lst (T.map eR)), none, none, none] ∧ ∀ i', i' < i → ∀ j, j < b.length + 1 → elB a b (gv T) i' j = true) ⟨by rfl, fun i' hi => by omega⟩ (fun i hi e he => ?_) fun e he => he) fun e he => ?_
        · obtain ⟨rfl, hE⟩ := he
          refine ⟨_, rfl, ?_⟩
          simp_arith [ ↓C.B_is_low_2, Int.zero_add, Int.toNat_natCast, b_lenS, hb1]
          refine sat_to (for_rng _ (fun j e => e = [some (.str a), some (.str b), some (.lst (T.map eR)), some (.int i), none, none] ∧ ∀ j', j' < j → elB a b (gv T) i j' = true) ⟨by rfl, fun j' hj => by omega⟩ (fun j hj e he => ?_) fun e he => he) fun e he => ?_
          · obtain ⟨rfl, hJ⟩ := he
            refine ⟨_, rfl, ?_⟩
            have el := elem_r a b T F ha hb (i := i) (j := j) (by omega) (by omega)
            cases ev : elB a b (gv T) i j with
            | true =>
              rw [ev] at el
              simp_arith [ ↓C.B_is_low_1, Int.zero_add, Int.toNat_natCast, el]
              refine ⟨trivial, fun j' hj' => ?_⟩
              by_cases hh : j' = j
              · rw [hh]; exact ev
              · exact hJ j' (by omega)
            | false =>
              rw [ev] at el
              have := low_no (by omega) (by omega) ev
              simp_arith [ ↓C.B_is_low_1, Int.zero_add, Int.toNat_natCast, el, this]
          · obtain ⟨rfl, hJ⟩ := he
            simp_arith []
            refine ⟨trivial, fun i' hi' => ?_⟩
            by_cases hh : i' = i
            · rw [hh]; exact hJ
            · exact hE i' (by omega)
        · obtain ⟨rfl, hE⟩ := he
          have := low_yes F hE
          simp_arith [ this]
      · have : lowB a b T = false := by
          unfold lowB
          rw [decide_eq_false (fun F : Form a b T => h2 F.2)]; rfl
        rw [decide_eq_false h2]
        simp_arith [ this]
    · have er : eR r = .lst (r.map D.int) := rfl
      simp_arith [ lcG_n, wipeE, tgIs, b_lenS, er]
  · have : lowB a b T = false := by
      unfold lowB
      rw [decide_eq_false (fun F : Form a b T => h1 F.1)]; rfl
    have h1' : ¬ (T.length : Int) = (a.length : Int) + 1 := by omega
    simp_arith [ C.d_is_low, b_lenS, h1', this]

def dueB (a b : List Char) (g : Nat → Nat → Int) (i j : Nat) : Bool :=
  !(decide (i < a.length ∧ g (i + 1) j + 1 < g i j) || decide (j < b.length ∧ g i (j + 1) + 1 < g i j) || decide (i < a.length ∧ j < b.length ∧ g (i + 1) (j + 1) + (nec (a.getD i ' ') (b.getD j ' ') : Nat) < g i j))
theorem el_due (a b : List Char) (g : Nat → Nat → Int) (i j : Nat) (hi : i < a.length + 1) (hj : j < b.length + 1) (hc : g a.length b.length ≤ 0) : elB a b g i j = dueB a b g i j := by
  unfold elB dueB
  by_cases h1 : i < a.length
  · by_cases h2 : j < b.length
    · simp only [h1, h2, true_and, and_true, if_true]
      generalize g (i + 1) (j + 1) + ((nec (a.getD i ' ') (b.getD j ' ') : Nat) : Int) = Z
      generalize g i j = Y
      have e : decide (Y ≤ Z) = !decide (Z < Y) := by
        by_cases h : Y ≤ Z
        · have : ¬ Z < Y := by omega
          simp [h, this]
        · have : Z < Y := by omega
          simp [h, this]
      rw [e, Bool.not_or (x := decide _ || decide _)]
    · simp [h1, h2]
  · by_cases h2 : j < b.length
    · simp [h1, h2]
    · have e1 : i = a.length := by omega
      have e2 : j = b.length := by omega
      subst e1 e2
      simp [hc]
theorem due_elem (a b : List Char) (T : List (List Int)) (F : Form a b T) (ha : a.length ≤ 100) (hb : b.length ≤ 100) {i j : Nat} (hi : i ≤ a.length) (hj : j ≤ b.length) (x : Option D) :
    (evSs b__law_due_1 [some (.str a), some (.str b), some (.lst (T.map eR)), some (.int i), some (.int j), x]).sat (fun e => dueB a b (gv T) i j = true ∧ e = [some (.str a), some (.str b), some (.lst (T.map eR)), some (.int i), none, x]) (fun r => dueB a b (gv T) i j = false ∧ r = .bl false) := by
  have r0 := row_ix F (v := i) (i := i) rfl hi
  have c0 := cell_ix F (v := j) (i := i) (j := j) rfl hi hj
  have r1 : i < a.length → ixD (.lst (T.map eR)) (.int ((i : Int) + 1)) = .ok (.lst ((T.getD (i + 1) []).map D.int)) := fun h => row_ix F (by omega) (by omega)
  have c1 : i < a.length → ixD (.lst ((T.getD (i + 1) []).map D.int)) (.int j) = .ok (.int (gv T (i + 1) j)) := fun h => cell_ix F (by omega) (by omega) hj
  have c2 : j < b.length → ixD (.lst ((T.getD i []).map D.int)) (.int ((j : Int) + 1)) = .ok (.int (gv T i (j + 1))) := fun h => cell_ix F (by omega) hi (by omega)
  have c3 : i < a.length → j < b.length → ixD (.lst ((T.getD (i + 1) []).map D.int)) (.int ((j : Int) + 1)) = .ok (.int (gv T (i + 1) (j + 1))) := fun h h' => cell_ix F (by omega) (by omega) (by omega)
  unfold dueB
  by_cases h1 : i < a.length
  · have h1' : (i : Int) < a.length := by omega
    have cx := strIx (s := a) (v := (i : Int)) (j := i) rfl (by omega) h1
    have r1 := r1 h1
    have c1 := c1 h1
    by_cases g1 : gv T (i + 1) j + 1 < gv T i j
    · simp_arith [ ↓B__law_due_1, r0, c0, b_lenS, h1', r1, c1, g1]
      simp [h1, g1]
    · by_cases h2 : j < b.length
      · have h2' : (j : Int) < b.length := by omega
        have cy := strIx (s := b) (v := (j : Int)) (j := j) rfl (by omega) h2
        have c2 := c2 h2
        have c3 := c3 h1 h2
        rw [getD_c h1, getD_c h2]
        generalize a[i] = x at *
        generalize b[j] = y at *
        by_cases g2 : gv T i (j + 1) + 1 < gv T i j
        · simp_arith [ ↓B__law_due_1, r0, c0, b_lenS, h1', r1, c1, g1, h2', c2, g2]
          simp [h2, g2]
        · by_cases g3 : gv T (i + 1) (j + 1) + ((nec x y : Nat) : Int) < gv T i j
          · simp_arith [ ↓B__law_due_1, r0, c0, b_lenS, h1', r1, c1, g1, h2', c2, g2, c3, cx, cy, necI, g3]
            simp [h1, h2, g3]
          · simp_arith [ ↓B__law_due_1, r0, c0, b_lenS, h1', r1, c1, g1, h2', c2, g2, c3, cx, cy, necI, g3]
            simp [g1, g2]
      · have h2' : ¬ (j : Int) < b.length := by omega
        simp_arith [ ↓B__law_due_1, r0, c0, b_lenS, h1', r1, c1, g1, h2']
        simp [h2, g1]
  · have h1' : ¬ (i : Int) < a.length := by omega
    by_cases h2 : j < b.length
    · have h2' : (j : Int) < b.length := by omega
      have c2 := c2 h2
      by_cases g2 : gv T i (j + 1) + 1 < gv T i j
      · simp_arith [ ↓B__law_due_1, r0, c0, b_lenS, h1', h2', c2, g2]
        simp [h2, g2]
      · simp_arith [ ↓B__law_due_1, r0, c0, b_lenS, h1', h2', c2, g2]
        simp [h1, g2]
    · have h2' : ¬ (j : Int) < b.length := by omega
      simp_arith [ ↓B__law_due_1, r0, c0, b_lenS, h1', h2']
      simp [h1, h2]
theorem due_r (a b : List Char) (T : List (List Int)) (ha : a.length ≤ 100) (hb : b.length ≤ 100) (hT : T.length ≤ 1000) : s__law_due [.str a, .str b, .lst (T.map eR)] = .ok (.bl (lowB a b T)) := by
  unfold s__law_due
  refine run_is rfl ?_
  have ha1 : ((a.length : Int) + 1).toNat = a.length + 1 := by omega
  have hb1 : ((b.length : Int) + 1).toNat = b.length + 1 := by omega
  by_cases h1 : T.length = a.length + 1
  · have h1' : (T.length : Int) = (a.length : Int) + 1 := by omega
    simp_arith [ d__law_due, b_lenS, h1']
    rw [lc_if (fun r : List Int => !decide (r.length = b.length + 1)) eR T (fun r hr => ?_) (by simp only [lim_is]; omega)]
    · have cn := cmp_neL (f := eR) (by decide) (T.filter fun r : List Int => !decide (r.length = b.length + 1)) []
      simp only [List.map_nil] at cn
      by_cases h2 : ∀ r ∈ T, r.length = b.length + 1
      · have F : Form a b T := ⟨h1, h2⟩
        have en : T.filter (fun r : List Int => !decide (r.length = b.length + 1)) = [] := by
          rw [List.filter_eq_nil_iff]; intro r hr; simp [h2 r hr]
        rw [en] at cn ⊢
        simp only [List.map_nil, decide_true, Bool.not_true] at cn ⊢
        have rc := row_ix F (v := (a.length : Int)) (i := a.length) rfl (by omega)
        have cc := cell_ix F (v := (b.length : Int)) (i := a.length) (j := b.length) rfl (by omega) (by omega)
        by_cases hc : 0 < gv T a.length b.length
        · have : lowB a b T = false := low_no (i := a.length) (j := b.length) (by omega) (by omega) (by
            unfold elB
            simp; omega)
          simp_arith [ cn, b_lenS, rc, cc, hc, this]
        · simp_arith [ cn, b_lenS, rc, cc, hc, ha1]
          refine sat_to (for_rng _ (fun i e => e = [some (.str a), some (.str b), some (.lst (T.map eR)), none, none, none] ∧ ∀ i', i' < i → ∀ j, j < b.length + 1 → elB a b (gv T) i' j = true) ⟨by rfl, fun i' hi => by omega⟩ (fun i hi e he => ?_) fun e he => he) fun e he => ?_
          · obtain ⟨rfl, hE⟩ := he
            refine ⟨_, rfl, ?_⟩
            simp_arith [ ↓B__law_due_2, Int.zero_add, Int.toNat_natCast, b_lenS, hb1]
            refine sat_to (for_rng _ (fun j e => e = [some (.str a), some (.str b), some (.lst (T.map eR)), some (.int i), none, none] ∧ ∀ j', j' < j → elB a b (gv T) i j' = true) ⟨by rfl, fun j' hj => by omega⟩ (fun j hj e he => ?_) fun e he => he) fun e he => ?_
            · obtain ⟨rfl, hJ⟩ := he
              refine ⟨_, rfl, ?_⟩
              have de := due_elem a b T F ha hb (i := i) (j := j) (by omega) (by omega) none
              have ee := el_due a b (gv T) i j (by omega) (by omega) (by omega)
              have ej : (0 : Int) + (j : Int) = j := by omega
              rw [ej]
              refine sat_imp de (fun e ⟨he1, he2⟩ => ⟨he2, fun j' hj' => ?_⟩) fun d ⟨hd1, hd2⟩ => ?_
              · by_cases hh : j' = j
                · rw [hh, ee]; exact he1
                · exact hJ j' (by omega)
              · rw [hd2, low_no (a := a) (b := b) (T := T) (i := i) (j := j) (by omega) (by omega) (by rw [ee]; exact hd1)]
            · obtain ⟨rfl, hJ⟩ := he
              simp_arith []
              refine ⟨trivial, fun i' hi' => ?_⟩
              by_cases hh : i' = i
              · rw [hh]; exact hJ
              · exact hE i' (by omega)
          · obtain ⟨rfl, hE⟩ := he
            have := low_yes F hE
            simp_arith [ this]
      · have : lowB a b T = false := by
          unfold lowB
          rw [decide_eq_false (fun F : Form a b T => h2 F.2)]; rfl
        have ne : ¬ T.filter (fun r : List Int => !decide (r.length = b.length + 1)) = [] := fun z => h2 fun r hr => by
          have := List.filter_eq_nil_iff.mp z r hr
          simpa using this
        rw [decide_eq_false ne] at cn
        simp_arith [ cn, this]
    · have er : eR r = .lst (r.map D.int) := rfl
      by_cases hr2 : r.length = b.length + 1
      · have hr2' : (r.length : Int) = (b.length : Int) + 1 := by omega
        simp_arith [ lcG_s, wipeE, tgIs, b_lenS, er, hr2']
        simp [hr2]
      · have hr2' : ¬ (r.length : Int) = (b.length : Int) + 1 := by omega
        simp_arith [ lcG_s, wipeE, tgIs, b_lenS, er, hr2']
        simp [hr2]
  · have : lowB a b T = false := by
      unfold lowB
      rw [decide_eq_false (fun F : Form a b T => h1 F.1)]; rfl
    have h1' : ¬ (T.length : Int) = (a.length : Int) + 1 := by omega
    simp_arith [ d__law_due, b_lenS, h1', this]

theorem elB_out {a b : List Char} {g : Nat → Nat → Int} {i j : Nat} (h : elB a b g i j = true) : (i < a.length → g i j ≤ g (i + 1) j + 1) ∧ (j < b.length → g i j ≤ g i (j + 1) + 1) ∧ (i < a.length → j < b.length → g i j ≤ g (i + 1) (j + 1) + (nec (a.getD i ' ') (b.getD j ' ') : Nat)) ∧ (¬ i < a.length → ¬ j < b.length → g i j ≤ 0) := by
  unfold elB at h
  rw [Bool.and_eq_true] at h
  obtain ⟨h1, h2⟩ := h
  simp only [Bool.not_eq_true', Bool.or_eq_false_iff, decide_eq_false_iff_not] at h1
  refine ⟨fun c => ?_, fun c => ?_, fun c d => ?_, fun c d => ?_⟩
  · have := h1.1; omega
  · have := h1.2; omega
  · rw [if_pos ⟨c, d⟩, decide_eq_true_eq] at h2; exact h2
  · rw [if_neg (fun z => c z.1), decide_eq_true_eq] at h2; omega
theorem elB_in {a b : List Char} {g : Nat → Nat → Int} {i j : Nat} (h1 : i < a.length → g i j ≤ g (i + 1) j + 1) (h2 : j < b.length → g i j ≤ g i (j + 1) + 1) (h3 : i < a.length → j < b.length → g i j ≤ g (i + 1) (j + 1) + (nec (a.getD i ' ') (b.getD j ' ') : Nat)) (h4 : ¬ i < a.length → ¬ j < b.length → g i j ≤ 0) : elB a b g i j = true := by
  unfold elB
  rw [Bool.and_eq_true]
  refine ⟨?_, ?_⟩
  · simp only [Bool.not_eq_true', Bool.or_eq_false_iff, decide_eq_false_iff_not]
    exact ⟨fun z => by have := h1 z.1; omega, fun z => by have := h2 z.1; omega⟩
  · split
    · rename_i c; rw [decide_eq_true_eq]; exact h3 c.1 c.2
    · rename_i c
      rw [decide_eq_true_eq]
      by_cases c1 : i < a.length
      · exact .inl c1
      · by_cases c2 : j < b.length
        · exact .inr (.inl c2)
        · exact .inr (.inr (h4 c1 c2))
theorem low_ed {a b : List Char} {g : Nat → Nat → Int} (L : ∀ i, i < a.length + 1 → ∀ j, j < b.length + 1 → elB a b g i j = true) : ∀ (n i j : Nat), (a.length - i) + (b.length - j) = n → i ≤ a.length → j ≤ b.length → g i j ≤ (ed (a.drop i) (b.drop j) : Int) := by
  intro n
  induction n using Nat.strongRecOn with
  | ind n ih =>
    intro i j hn hi hj
    obtain ⟨e1, e2, e3, e4⟩ := elB_out (L i (by omega) j (by omega))
    by_cases h1 : i < a.length
    · have da : a.drop i = a[i] :: a.drop (i + 1) := List.drop_eq_getElem_cons h1
      have i1 := ih _ (by omega) (i + 1) j rfl (by omega) hj
      have e1 := e1 h1
      by_cases h2 : j < b.length
      · have db : b.drop j = b[j] :: b.drop (j + 1) := List.drop_eq_getElem_cons h2
        have i2 := ih _ (by omega) i (j + 1) rfl hi (by omega)
        have i3 := ih _ (by omega) (i + 1) (j + 1) rfl (by omega) (by omega)
        have e2 := e2 h2
        have e3 := e3 h1 h2
        rw [getD_c h1, getD_c h2] at e3
        rw [da] at i2
        rw [db] at i1
        rw [da, db, ed_cc]
        omega
      · have jb : b.drop j = [] := List.drop_eq_nil_of_le (by omega)
        rw [jb, ed_nil'] at i1 ⊢
        rw [da]
        simp only [List.length_cons]
        omega
    · have ja : a.drop i = [] := List.drop_eq_nil_of_le (by omega)
      by_cases h2 : j < b.length
      · have db : b.drop j = b[j] :: b.drop (j + 1) := List.drop_eq_getElem_cons h2
        have i2 := ih _ (by omega) i (j + 1) rfl hi (by omega)
        have e2 := e2 h2
        rw [ja, ed_nil] at i2 ⊢
        rw [db]
        simp only [List.length_cons]
        omega
      · have := e4 h1 h2
        omega
def tblI (a b : List Char) : List (List Int) := (sufs a).map fun c => (sufs b).map fun e => (ed c e : Int)
theorem tblI_D (a b : List Char) : tblD a b = (tblI a b).map eR := by
  unfold tblD tblI
  rw [List.map_map]
  refine List.map_congr_left fun c _ => ?_
  unfold rowD
  simp [eL, Function.comp_def]
theorem tblI_gv (a b : List Char) {i j : Nat} (hi : i ≤ a.length) (hj : j ≤ b.length) : gv (tblI a b) i j = (ed (a.drop i) (b.drop j) : Int) := by
  have la := sufs_len a
  have lb := sufs_len b
  have hA : (sufs a)[i]? = some (a.drop i) := by rw [List.getElem?_eq_getElem (by omega), sufs_at]
  have hB : (sufs b)[j]? = some (b.drop j) := by rw [List.getElem?_eq_getElem (by omega), sufs_at]
  unfold gv tblI
  simp only [List.getD_eq_getElem?_getD, List.getElem?_map, hA, hB, Option.map_some, Option.getD_some]
theorem tblI_form (a b : List Char) : Form a b (tblI a b) := by
  refine ⟨by simp [tblI, sufs_len], fun r hr => ?_⟩
  obtain ⟨c, _, rfl⟩ := List.mem_map.mp hr
  simp [sufs_len]
theorem tblI_low (a b : List Char) : lowB a b (tblI a b) = true := by
  refine low_yes (tblI_form a b) fun i hi j hj => elB_in (fun h1 => ?_) (fun h2 => ?_) (fun h1 h2 => ?_) fun h1 h2 => ?_
  · rw [tblI_gv a b (by omega) (by omega), tblI_gv a b (by omega) (by omega)]
    have da : a.drop i = a[i] :: a.drop (i + 1) := List.drop_eq_getElem_cons h1
    rw [da]
    cases e : b.drop j with
    | nil => rw [ed_nil', ed_nil']; simp; omega
    | cons y r => rw [ed_cc]; omega
  · rw [tblI_gv a b (by omega) (by omega), tblI_gv a b (by omega) (by omega)]
    have db : b.drop j = b[j] :: b.drop (j + 1) := List.drop_eq_getElem_cons h2
    rw [db]
    cases e : a.drop i with
    | nil => rw [ed_nil, ed_nil]; simp; omega
    | cons y r => rw [ed_cc]; omega
  · rw [tblI_gv a b (by omega) (by omega), tblI_gv a b (by omega) (by omega), getD_c h1, getD_c h2]
    have da : a.drop i = a[i] :: a.drop (i + 1) := List.drop_eq_getElem_cons h1
    have db : b.drop j = b[j] :: b.drop (j + 1) := List.drop_eq_getElem_cons h2
    rw [da, db, ed_cc]
    omega
  · rw [tblI_gv a b (by omega) (by omega)]
    have ja : a.drop i = [] := List.drop_eq_nil_of_le (by omega)
    have jb : b.drop j = [] := List.drop_eq_nil_of_le (by omega)
    rw [ja, jb, ed_nil]; simp

theorem ali_r (x i : Nat) (e : CE) (a : AL) (env : SH.Env) : evSs (.ali x i e a) env = (aliD e i env).fl env fun j => if x < env.length then evA x i j a (env.set x none) else .bad := by rw [evSs]
/-- what the second name's statements do with one row -/
def Row (T : List (List Int)) (T' : List (List Int)) : Prop := T'.length ≤ T.length ∧ ∀ r ∈ T', r.length ≤ 100
theorem set_len {T : List (List Int)} {m : Nat} (h : ∀ r ∈ T, r.length ≤ m) (k : Nat) (r : List Int) (hr : r.length ≤ m + 1) : ∀ s ∈ T.set k r, s.length ≤ m + 1 := by
  intro s hs
  rcases List.mem_or_eq_of_mem_set hs with h' | rfl
  · have := h s h'; omega
  · exact hr
theorem step_map (T : List (List Int)) {k : Nat} (h : k < T.length) : stepD (.lst (T.map eR)) (.int k) = some (.lst (T[k].map D.int)) := by
  unfold stepD
  have : place (k : Int) (T.map eR).length = some k := by
    rw [List.length_map]
    unfold place
    rw [if_pos (by omega), if_pos (by omega)]; rfl
  simp only [this]
  rw [List.getElem?_map, List.getElem?_eq_getElem h]
  rfl
theorem set_map (T : List (List Int)) {k : Nat} (h : k < T.length) (r : List Int) : setD (.lst (T.map eR)) (.int k) (.lst (r.map D.int)) = .lst ((T.set k r).map eR) := by
  unfold setD
  have : place (k : Int) (T.map eR).length = some k := by
    rw [List.length_map]
    unfold place
    rw [if_pos (by omega), if_pos (by omega)]; rfl
  simp only [this]
  rw [List.map_set]
  rfl
theorem aliD_ok {e : CE} {i : Nat} {env : SH.Env} {d y : D} {j : Int} (h1 : getV env i = .ok d) (h2 : evE e env = .ok (.int j)) (h3 : stepD d (.int j) = some y) : aliD e i env = .ok j := by
  simp only [aliD, pathD, h1, h2, h3, Res.ok_bind]
  rfl
theorem chD_ok {i : Nat} {env : SH.Env} {d y : D} {j : Int} (h1 : getV env i = .ok d) (h3 : stepD d (.int j) = some y) : chD env i j = .ok y := by
  simp only [chD, pathD, evE, h1, h3, Res.ok_bind]
theorem a_ite {x i : Nat} {j : Int} {c : CE} {a b : AL} {env : SH.Env} {ch : D} {t : Bool} (h1 : chD env i j = .ok ch) (h2 : evE c (env.set x (some ch)) = .ok (.bl t)) : evA x i j (.ite c a b) env = if t then evA x i j a env else evA x i j b env := by
  rw [evA, h1, Res.ok_bind, h2]; rfl
theorem a_mut (x i : Nat) (j : Int) (m : Mut) (es : CEs) (env : SH.Env) : evA x i j (.mut m es) env = evS (.mut (.ix (.var i) (.int j)) m es) env := by rw [evA, evS]
theorem a_oth (x i : Nat) (j : Int) (ss : CSs) (env : SH.Env) : evA x i j (.oth ss) env = evSs ss env := by rw [evA]
theorem a_aug {x i : Nat} {j : Int} {k v : CE} {env : SH.Env} {ch kd d d' : D} {y z : Int} (h1 : chD env i j = .ok ch) (h2 : evE k (env.set x (some ch)) = .ok kd) (h3 : itD ch kd = .ok (.int y)) (h4 : evE v env = .ok (.int z)) (h5 : getV env i = .ok d) (h6 : updAt (putD kd (.int (y + z))) [.int j] d = .ok d') : evA x i j (.aug k v) env = .nx (env.set i (some d')) := by
  rw [evA, h1, Res.ok_bind, h2, noX_ok, Res.ok_bind, h3, Res.ok_bind, h4, noX_ok, Res.ok_bind]
  show (getV env i >>= fun d => updAt (putD kd (.int (y + z))) [.int j] d).fl env _ = _
  rw [h5, Res.ok_bind, h6]; rfl
theorem ix6 {v : Int} (h : 0 ≤ v ∧ v < 6) (a b c d e f : Int) : ∃ n, ixD (.lst [.int a, .int b, .int c, .int d, .int e, .int f]) (.int v) = .ok (.int n) := by
  have : v = 0 ∨ v = 1 ∨ v = 2 ∨ v = 3 ∨ v = 4 ∨ v = 5 := by omega
  rcases this with rfl | rfl | rfl | rfl | rfl | rfl <;> exact ⟨_, rfl⟩
theorem spoilt_r {ds : List Int} (hd : Drawn ds) {first : Int} (hf : 0 ≤ first) (T : List (List Int)) (hT : T.length ≤ 50) (hr : ∀ r ∈ T, r.length ≤ 50) : ∃ T' : List (List Int), s__law_spoilt [.lst (ds.map D.int), .int first, .lst (T.map eR)] = .ok (.lst (T'.map eR)) ∧ T'.length ≤ 50 ∧ ∀ r ∈ T', r.length ≤ 60 := by
  have key : ∃ r, s__law_spoilt [.lst (ds.map D.int), .int first, .lst (T.map eR)] = .ok r ∧ ∃ T' : List (List Int), r = .lst (T'.map eR) ∧ T'.length ≤ 50 ∧ ∀ r ∈ T', r.length ≤ 60 := by
    unfold s__law_spoilt
    refine run_sat rfl ?_
    have v0 := at_lo hd (k := first) (many := 4) (by omega) (by omega)
    simp_arith [ d__law_spoilt]
    rw [lc_map eR T (fun r hr => ?_) (by simp only [lim_is]; omega)]
    · simp_arith [ e__law_at, at_r hd]
      refine sat_to (for_rng _ (fun i e => ∃ T' : List (List Int), e = [some (.lst (ds.map D.int)), some (.int first), some (.lst (T'.map eR)), none, none, none, none] ∧ T'.length ≤ 50 ∧ ∀ r ∈ T', r.length ≤ 50 + i) ⟨T, rfl, hT, by simpa using hr⟩ (fun i hi e he => ?_) fun e he => he) fun e he => ?_
      · obtain ⟨T', rfl, hl, hr'⟩ := he
        refine ⟨_, rfl, ?_⟩
        have v1 := at_lo hd (k := first + 1 + (i : Int)) (many := 60000) (by omega) (by omega)
        have hm9 : 0 ≤ atV ds (first + 1 + (i : Int)) 60000 % 9 ∧ atV ds (first + 1 + (i : Int)) 60000 % 9 < 9 := by omega
        have cn := cmp_neL (f := eR) (by decide) T' []
        simp only [List.map_nil] at cn
        by_cases hT' : T' = []
        · have cn : cmpD .ne (.lst (T'.map eR)) (.lst []) = .ok false := by rw [cn]; simp [hT']
          simp_arith [ ↓B__law_spoilt_1, Int.zero_add, Int.toNat_natCast, e__law_at, at_r hd, cn]
          exact ⟨T', rfl, hl, fun r hr => by have := hr' r hr; omega⟩
        · have cn : cmpD .ne (.lst (T'.map eR)) (.lst []) = .ok true := by rw [cn]; simp [hT']
          have lp : 0 < T'.length := List.length_pos_iff.mpr hT'
          generalize hcell : atV ds (first + 1 + (i : Int)) 60000 = cell at *
          obtain ⟨k, hk, hkl⟩ : ∃ k : Nat, cell / 9 % (T'.length : Int) = k ∧ k < T'.length := ⟨(cell / 9 % (T'.length : Int)).toNat, by
            have := Int.emod_nonneg (cell / 9) (b := (T'.length : Int)) (by omega)
            omega, by
            have h1 := Int.emod_nonneg (cell / 9) (b := (T'.length : Int)) (by omega)
            have h2 := Int.emod_lt_of_pos (cell / 9) (b := (T'.length : Int)) (by omega)
            omega⟩
          have st := step_map T' hkl
          simp_arith [ ↓B__law_spoilt_1, Int.zero_add, Int.toNat_natCast, e__law_at, at_r hd, hcell, cn, ali_r]
          generalize hkd : cell % 9 = kind at *
          have al := aliD_ok (e := .bin .mod (.blt .int (.cons false (.bin .fdiv (.var 4) (.int 9)) .nil)) (.blt .len (.cons false (.var 2) .nil))) (i := 2) (env := [some (.lst (ds.map D.int)), some (.int first), some (.lst (T'.map eR)), some (.int i), some (.int cell), some (.int kind), none]) (d := .lst (T'.map eR)) (j := k) rfl (by simp_arith [ hk]) st
          have ch := chD_ok (i := 2) (env := [some (.lst (ds.map D.int)), some (.int first), some (.lst (T'.map eR)), some (.int i), some (.int cell), some (.int kind), none]) (d := .lst (T'.map eR)) (j := k) rfl st
          have hrow := hr' _ (List.getElem_mem hkl)
          have sm := fun r => set_map T' hkl r
          generalize T'[k] = row at *
          rw [al, fl_ok, if_pos (by decide)]
          have cr := cmp_neL (f := D.int) (by decide) row []
          simp only [List.map_nil] at cr
          have fin : ∀ r : List Int, r.length ≤ 50 + i + 1 → ∃ T'' : List (List Int), [some (D.lst (ds.map D.int)), some (D.int first), some (D.lst ((T'.set k r).map eR)), none, none, none, none] = [some (D.lst (ds.map D.int)), some (D.int first), some (D.lst (T''.map eR)), none, none, none, none] ∧ T''.length ≤ 50 ∧ ∀ r ∈ T'', r.length ≤ 50 + (i + 1) := fun r h => ⟨T'.set k r, rfl, by rw [List.length_set]; exact hl, set_len hr' k r h⟩
          have qa : (row.map D.int).length < lim := by simp only [List.length_map, lim_is]; omega
          have app : (row.map D.int) ++ [D.int 0] = (row ++ [0]).map D.int := by simp
          have ins : List.take (0 : Int).toNat (row.map D.int) ++ [D.int 0] ++ List.drop (0 : Int).toNat (row.map D.int) = (0 :: row).map D.int := by simp
          have mi := m_insert (xs := row.map D.int) (d := .int 0) (i := 0) qa (by decide)
          rw [ins] at mi
          by_cases h6 : kind < 6 ∧ row ≠ []
          · obtain ⟨h6, hrn⟩ := h6
            rw [decide_eq_false hrn] at cr
            have rp : 0 < row.length := List.length_pos_iff.mpr hrn
            obtain ⟨m, hm, hml⟩ : ∃ m : Nat, cell / 63 % (row.length : Int) = m ∧ m < row.length := ⟨(cell / 63 % (row.length : Int)).toNat, by
              have := Int.emod_nonneg (cell / 63) (b := (row.length : Int)) (by omega)
              omega, by
              have h1 := Int.emod_nonneg (cell / 63) (b := (row.length : Int)) (by omega)
              have h2 := Int.emod_lt_of_pos (cell / 63) (b := (row.length : Int)) (by omega)
              omega⟩
            have pl : place (m : Int) (row.map D.int).length = some m := by
              rw [List.length_map]
              unfold place
              rw [if_pos (by omega), if_pos (by omega)]; rfl
            have it : itD (.lst (row.map D.int)) (.int m) = .ok (.int row[m]) := by
              unfold itD
              simp only [pl]
              rw [List.getElem?_map, List.getElem?_eq_getElem hml]; rfl
            obtain ⟨n, hn⟩ := ix6 (v := kind) (by omega) (-1) 1 (-2) 2 (-9) 1
            have pt : putD (.int m) (.int (row[m] + n)) (.lst (row.map D.int)) = .ok (.lst ((row.set m (row[m] + n)).map D.int)) := by
              unfold putD
              simp only [pl]
              rw [List.map_set]
            have up : updAt (putD (.int m) (.int (row[m] + n))) [.int k] (.lst (T'.map eR)) = .ok (.lst ((T'.set k (row.set m (row[m] + n))).map eR)) := by
              rw [upd_cons st, upd_nil, pt, updK_ok, sm]
            rw [a_ite ch (t := true) (by simp_arith [ h6, cr]), if_pos rfl, a_aug ch (kd := .int m) (by simp_arith [ hm]) it (z := n) (by simp_arith [ hn]) rfl up]
            simp_arith []
            refine fin _ ?_
            rw [List.length_set]; omega
          · have tst : evE (.and (.cmp .lt (.var 5) (.int 6)) (.cmp .ne (.var 6) (.lst .nil))) ([some (.lst (ds.map D.int)), some (.int first), some (.lst (T'.map eR)), some (.int i), some (.int cell), some (.int kind), some (D.lst (row.map D.int))] : SH.Env) = .ok (.bl false) := by
              by_cases c6 : kind < 6
              · have hrn : row = [] := by
                  by_cases z : row = []
                  · exact z
                  · exact absurd ⟨c6, z⟩ h6
                have cr : cmpD .ne (.lst (row.map D.int)) (.lst []) = .ok false := by rw [cr]; simp [hrn]
                simp_arith [ c6, cr]
              · simp_arith [ c6]
            rw [a_ite ch (t := false) tst, if_neg (by decide)]
            by_cases k6 : kind = 6
            · rw [a_ite ch (t := true) (by simp_arith [ k6]), if_pos rfl, a_mut]
              simp_arith [ st, m_append qa, app, upd_cons st, updK_ok, sm]
              refine fin _ ?_
              simp; omega
            · rw [a_ite ch (t := false) (by simp_arith [ k6]), if_neg (by decide)]
              by_cases k7 : kind = 7
              · rw [a_ite ch (t := true) (by simp_arith [ k7]), if_pos rfl, a_oth]
                obtain ⟨T0, q, eT⟩ : ∃ T0 q, T' = T0 ++ [q] := ⟨T'.dropLast, T'.getLast hT', (List.dropLast_concat_getLast hT').symm⟩
                have mp := m_pop (xs := T0.map eR) (d := eR q)
                have em : T'.map eR = T0.map eR ++ [eR q] := by rw [eT]; simp
                rw [em]
                simp_arith [ mp]
                exact ⟨T0, rfl, by rw [eT] at hl; simp at hl; omega, fun r hr => by have := hr' r (by rw [eT]; simp [hr]); omega⟩
              · rw [a_ite ch (t := false) (by simp_arith [ k7]), if_neg (by decide), a_mut]
                have smi : setD (D.lst (T'.map eR)) (D.int k) (D.lst (D.int 0 :: row.map D.int)) = .lst ((T'.set k (0 :: row)).map eR) := sm (0 :: row)
                simp_arith [ st, mi, upd_cons st, updK_ok, smi]
                refine fin _ ?_
                simp; omega
      · obtain ⟨T', rfl, hl, hr'⟩ := he
        simp_arith []
        exact ⟨T', rfl, hl, fun r hr => by have := hr' r hr; omega⟩
    · have er : eR r = .lst (r.map D.int) := rfl
      simp_arith [ lcG_n, wipeE, tgIs, er]
  obtain ⟨r, h1, T', rfl, h2⟩ := key
  exact ⟨T', h1, h2⟩

theorem lowB_form {a b : List Char} {T : List (List Int)} (h : lowB a b T = true) : Form a b T ∧ ∀ i, i < a.length + 1 → ∀ j, j < b.length + 1 → elB a b (gv T) i j = true := by
  unfold lowB at h
  rw [Bool.and_eq_true, decide_eq_true_eq, decide_eq_true_eq] at h
  exact h
theorem law_runs (ns : List Int) (hns : ns.length ≤ 63) : d_law.run [.ro ns] = .ok (.bl true) := by
  obtain ⟨ds, hds, hd⟩ := draws_ex ns hns
  obtain ⟨a, ha, ta⟩ := wordA_ex hd (k := 1) (by omega) 6 (by omega)
  have ha : s_l_word_30 [.lst (ds.map D.int), .int 1, .int 6] = .ok (.str a) := ha
  obtain ⟨b1, hb1, tb1⟩ := near_ex hd (k := 14) (by omega) ta (by omega)
  obtain ⟨b2, hb2, tb2⟩ := wordA_ex hd (k := 24) (by omega) 6 (by omega)
  have hb2 : s_l_word_30 [.lst (ds.map D.int), .int 24, .int 6] = .ok (.str b2) := hb2
  have la := ta.1
  have lb1 := tb1.1
  have lb2 := tb2.1
  refine run_is rfl ?_
  show (evSs d_law.body [some (.ro ns), none, none, none, none, none, none, none, none, none, none, none]).sat _ _
  refine at_split 5 (M := fun e => ∃ b : List Char, b.length ≤ 9 ∧ e = [some (.ro ns), some (.lst (ds.map D.int)), some (.str a), some (.str b), none, none, none, none, none, none, none, none]) ?_ fun e he => ?_
  · unfold d_law
    simp only [takeC]
    by_cases h : atV ds 0 3 = 1
    · simp_arith [ e__law_draws, hds, e__law_word, ha, e__law_near, hb1, e__law_at, at_r hd, h, hb2]
      exact ⟨b2, by omega, rfl⟩
    · simp_arith [ e__law_draws, hds, e__law_word, ha, e__law_near, hb1, e__law_at, at_r hd, h]
      exact ⟨b1, by omega, rfl⟩
  · obtain ⟨b, hb, rfl⟩ := he
    unfold d_law
    simp only [dropC]
    have t1 := l_table_r a b (by omega) (by omega)
    rw [tblI_D] at t1
    have F0 := tblI_form a b
    have l0 := F0.1
    have lw := is_low_r a b (tblI a b) (by omega) (by omega) (by omega)
    rw [tblI_low] at lw
    have ln := is_low_r a b [] (by omega) (by omega) (by simp)
    have ln0 : lowB a b [] = false := by
      unfold lowB
      rw [decide_eq_false (fun F : Form a b [] => by have := F.1; simp at this)]; rfl
    rw [ln0] at ln
    simp only [List.map_nil] at ln
    have er : ∀ r : List Int, eR r = .lst (r.map D.int) := fun _ => rfl
    have ha1 : ((a.length : Int) + 1).toNat = a.length + 1 := by omega
    have hb1 : ((b.length : Int) + 1).toNat = b.length + 1 := by omega
    simp_arith [ e__law_table, t1]
    rw [lc_map eR (tblI a b) (fun r hr => ?_) (by simp only [lim_is]; omega)]
    · simp_arith [ e_is_low, lw, ln, (show (4 : Int).toNat = 4 from rfl), Bool.bne_false, bne_self_eq_false]
      refine sat_to (for_rng _ (fun i e => e = [none, some (.lst (ds.map D.int)), some (.str a), some (.str b), some (.lst ((tblI a b).map eR)), none, none, none, none, none, none, none]) rfl (fun i hi e he => ?_) fun e he => he) fun e he => ?_
      · subst he
        refine ⟨_, rfl, ?_⟩
        rw [show (0 : Int) + (i : Int) = i by omega]
        refine at_split 2 (M := fun e => ∃ T : List (List Int), T.length ≤ 50 ∧ (∀ r ∈ T, r.length ≤ 60) ∧ e = [none, some (.lst (ds.map D.int)), some (.str a), some (.str b), some (.lst ((tblI a b).map eR)), some (.int i), some (.lst (T.map eR)), none, none, none, none, none]) ?_ fun e he => ?_
        · unfold b_law_2
          simp only [takeC]
          obtain ⟨T, hT, hTl, hTr⟩ := spoilt_r hd (first := 36 + 4 * (i : Int)) (by omega) (tblI a b) (by omega) (fun r hr => by have := F0.2 r hr; omega)
          by_cases h1 : atV ds (52 + (i : Int)) 4 = 1
          · simp_arith [ hT, e__law_at, at_r hd, h1, b_lenS, ha1]
            rw [lc_rng (n := a.length + 1) (fun (p : Nat) => eR ((List.range (b.length + 1)).map fun (q : Nat) => atV ds (30 + (p : Int) + (q : Int)) 3)) (fun p hp => ?_) (by simp only [lim_is]; omega)]
            · have e : ((List.range (a.length + 1)).map fun (p : Nat) => eR ((List.range (b.length + 1)).map fun (q : Nat) => atV ds (30 + (p : Int) + (q : Int)) 3)) = ((List.range (a.length + 1)).map fun (p : Nat) => (List.range (b.length + 1)).map fun (q : Nat) => atV ds (30 + (p : Int) + (q : Int)) 3).map eR := by simp
              simp_arith [ e]
              refine ⟨_, ?_, ?_, rfl⟩
              · simp; omega
              · intro r hr
                obtain ⟨p, _, rfl⟩ := List.mem_map.mp hr
                simp; omega
            · simp_arith [ lcG_n, wipeE, tgIs, b_lenS, hb1, Int.zero_add, Int.toNat_natCast]
              rw [lc_rng (n := b.length + 1) (fun (q : Nat) => D.int (atV ds (30 + (p : Int) + (q : Int)) 3)) (fun q hq => ?_) (by simp only [lim_is]; omega)]
              · have e : ((List.range (b.length + 1)).map fun (q : Nat) => D.int (atV ds (30 + (p : Int) + (q : Int)) 3)) = ((List.range (b.length + 1)).map fun (q : Nat) => atV ds (30 + (p : Int) + (q : Int)) 3).map D.int := by simp
                simp_arith [ e, er]
              · simp_arith [ lcG_n, wipeE, tgIs, e__law_at, at_r hd, Int.zero_add, Int.toNat_natCast]
          · simp_arith [ hT, e__law_at, at_r hd, h1]
            exact ⟨T, hTl, hTr, rfl⟩
        · obtain ⟨T, hTl, hTr, rfl⟩ := he
          unfold b_law_2
          simp only [dropC]
          have il := is_low_r a b T (by omega) (by omega) (by omega)
          have du := due_r a b T (by omega) (by omega) (by omega)
          have bb : ∀ x : Bool, isiD (.bl x) .bool = some true := fun _ => rfl
          simp_arith []
          rw [lc_map eR T (fun r hr => ?_) (by simp only [lim_is]; omega)]
          · cases hv : lowB a b T with
            | false =>
              rw [hv] at il du
              simp_arith [ e_is_low, il, du, bb, cmp_neL (f := eR) (by decide)]
            | true =>
              rw [hv] at il du
              obtain ⟨F, hE⟩ := lowB_form hv
              simp_arith [ e_is_low, il, du, bb, cmp_neL (f := eR) (by decide), b_lenS, ha1]
              rw [seq_nil']
              refine sat_to (for_rng _ (fun p e => e = [none, some (.lst (ds.map D.int)), some (.str a), some (.str b), some (.lst ((tblI a b).map eR)), none, some (.lst (T.map eR)), none, none, none, none, none]) rfl (fun p hp e he => ?_) fun e he => he) fun e he => ?_
              · subst he
                refine ⟨_, rfl, ?_⟩
                simp_arith [ ↓B_law_1, Int.zero_add, Int.toNat_natCast, b_lenS, hb1]
                rw [lc_rngIf (n := b.length + 1) (fun _ => false) (fun (q : Nat) => D.int q) (fun q hq => ?_) (by simp only [lim_is]; omega)]
                · have e : (((List.range (b.length + 1)).filter fun _ => false).map fun (q : Nat) => D.int (q : Int)) = [] := by simp
                  have c0 := cmp_neL (f := D.int) (by decide) [] []
                  simp only [List.map_nil, decide_true, Bool.not_true] at c0
                  rw [e]
                  simp_arith [ c0]
                · have r1 := row_ix F (v := (p : Int)) (i := p) rfl (by omega)
                  have r2 := row_ix F0 (v := (p : Int)) (i := p) rfl (by omega)
                  have c1 := cell_ix F (v := (q : Int)) (i := p) (j := q) rfl (by omega) (by omega)
                  have c2 := cell_ix F0 (v := (q : Int)) (i := p) (j := q) rfl (by omega) (by omega)
                  have le := low_ed hE _ p q rfl (by omega) (by omega)
                  rw [← tblI_gv a b (by omega) (by omega)] at le
                  have nl : ¬ gv (tblI a b) p q < gv T p q := by omega
                  simp_arith [ lcG_s, wipeE, tgIs, Int.zero_add, Int.toNat_natCast, r1, r2, c1, c2, nl]
              · subst he
                simp_arith []
          · simp_arith [ lcG_n, wipeE, tgIs, er]
      · subst he
        simp_arith []
    · simp_arith [ lcG_n, wipeE, tgIs, er]
end L33
end
theorem PySem.Challenge.cw_suffixhouse_k33_tables_from_below_holds : PySem.Challenge.rw_suffixhouse_k33_tables_from_below.Holds := by
  exact L33.holds L33.law_runs
