import PyProof.Rows.All
import Wide.All
import OpenK.AllK
import Wide.FinOn
import HandS.ForMost
import HandS.Exc
import HandS.ExcInit
import HandS.ExcOwn
import HandS.ExcField
import HandS.TryMany
import HandS.CallSlots
import HandS.Defaults
import HandS.IsInst
import HandS.Flow
import HandS.HeadHook4
import HandS.HeadEnd
import PyProof.CollectStr
import PyProof.ListNew
import HandS.Text
import HandS.Conv
import HandS.Codes
import HandS.More
import HandS.RaiseMore
import PyProof.StrLawsIn
import HandS.StrMore
import HandS.FStr
import HandS.Iter
import KE.GoesMore
import KE.GoesEnum
import KE.KUnpack
import HandS.MakeKw
import HandS.Style
import HandS.ClsMeth
import HandS.Ends
import KE.KStateDown
import Wide.Once
import Lean
import HandS.Base
import HandS.Call
import HandS.Words
import HandS.WordsExc
import HandS.Head0
import HandS.Head1
import HandS.Head2
import HandS.HeadHook1
import HandS.HeadHook2
import HandS.HeadHook3
import PySem.Challenge.RW_bidiplan_k12_items_of_blocks
import PyProof.StrLawsRepr
set_option Elab.async false
set_option linter.all false
set_option maxRecDepth 10000
set_option maxHeartbeats 4000000
/-! PvCore: a clean evaluator: pureD data D, a store of changeable things, expressions E, statements S. -/
namespace PV

/-- data: texts as their codes; frz: a list that nobody changes; scr: the script; frd: a dict that nobody changes; ref: the n-th thing of the store -/
inductive D where
  | non | bl (b : Bool) | int (i : Int) | str (s : List Nat)
  | tup (xs : List D) | frz (xs : List D) | scr (ns : List Int) | frd (kvs : List (D × D)) | ref (n : Nat)
  deriving Inhabited, Repr
mutual
def deqD : D → D → Bool
  | .non, .non => true
  | .bl a, .bl b => a == b
  | .int a, .int b => a == b
  | .str a, .str b => a == b
  | .tup a, .tup b => deqDs a b
  | .frz a, .frz b => deqDs a b
  | .scr a, .scr b => a == b
  | .frd a, .frd b => deqKs a b
  | .ref a, .ref b => a == b
  | _, _ => false
def deqDs : List D → List D → Bool
  | [], [] => true
  | a :: as, b :: bs => deqD a b && deqDs as bs
  | _, _ => false
def deqKs : List (D × D) → List (D × D) → Bool
  | [], [] => true
  | (a, x) :: as, (b, y) :: bs => deqD a b && (deqD x y && deqKs as bs)
  | _, _ => false
end
mutual
theorem deqD_eq : ∀ a b : D, deqD a b = true → a = b
  | .non, b, h => by cases b <;> simp_all [deqD]
  | .bl _, b, h => by cases b <;> simp_all [deqD]
  | .int _, b, h => by cases b <;> simp_all [deqD]
  | .str _, b, h => by cases b <;> simp_all [deqD]
  | .tup xs, b, h => by
    cases b <;> simp only [deqD, Bool.false_eq_true] at h
    exact congrArg D.tup (deqDs_eq xs _ h)
  | .frz xs, b, h => by
    cases b <;> simp only [deqD, Bool.false_eq_true] at h
    exact congrArg D.frz (deqDs_eq xs _ h)
  | .scr _, b, h => by cases b <;> simp_all [deqD]
  | .frd xs, b, h => by
    cases b <;> simp only [deqD, Bool.false_eq_true] at h
    exact congrArg D.frd (deqKs_eq xs _ h)
  | .ref _, b, h => by cases b <;> simp_all [deqD]
theorem deqDs_eq : ∀ a b : List D, deqDs a b = true → a = b
  | [], b, h => by cases b <;> simp_all [deqDs]
  | x :: xs, b, h => by
    cases b with
    | nil => simp [deqDs] at h
    | cons y ys =>
      simp only [deqDs, Bool.and_eq_true] at h
      rw [deqD_eq x y h.1, deqDs_eq xs ys h.2]
theorem deqKs_eq : ∀ a b : List (D × D), deqKs a b = true → a = b
  | [], b, h => by cases b <;> simp_all [deqKs]
  | (x, z) :: xs, b, h => by
    cases b with
    | nil => simp [deqKs] at h
    | cons y ys =>
      obtain ⟨y, w⟩ := y
      simp only [deqKs, Bool.and_eq_true] at h
      rw [deqD_eq x y h.1, deqD_eq z w h.2.1, deqKs_eq xs ys h.2.2]
end
mutual
theorem deqD_refl : ∀ a : D, deqD a a = true
  | .non => rfl
  | .bl _ => by simp [deqD]
  | .int _ => by simp [deqD]
  | .str _ => by simp [deqD]
  | .tup xs => by simp only [deqD]; exact deqDs_refl xs
  | .frz xs => by simp only [deqD]; exact deqDs_refl xs
  | .scr _ => by simp [deqD]
  | .frd xs => by simp only [deqD]; exact deqKs_refl xs
  | .ref _ => by simp [deqD]
theorem deqDs_refl : ∀ a : List D, deqDs a a = true
  | [] => rfl
  | x :: xs => by simp only [deqDs, Bool.and_eq_true]; exact ⟨deqD_refl x, deqDs_refl xs⟩
theorem deqKs_refl : ∀ a : List (D × D), deqKs a a = true
  | [] => rfl
  | (x, y) :: xs => by simp only [deqKs, Bool.and_eq_true]; exact ⟨deqD_refl x, deqD_refl y, deqKs_refl xs⟩
end
instance : DecidableEq D := fun a b => if h : deqD a b = true then .isTrue (deqD_eq a b h) else .isFalse fun e => h (e ▸ deqD_refl a)

/-- a thing that may change -/
inductive SO where
  | lst (xs : List D)
  | dic (kvs : List (D × D))
  | ins (c : String) (fs : List (String × D))
  deriving Inhabited, Repr, DecidableEq

abbrev Store := List SO
abbrev Env := List (Option D)

/-- what is raised: the class, its field -/
structure Exn where
  cls : String
  fld : String
  val : D
  deriving Inhabited, Repr

inductive Res (α : Type) where
  | ok (a : α) (s : Store)
  | exn (x : Exn) (s : Store)
  | stuck
  deriving Inhabited, Repr

def Res.bind {α β : Type} (r : Res α) (f : α → Store → Res β) : Res β := match r with
  | .ok a s => f a s
  | .exn x s => .exn x s
  | .stuck => .stuck
@[simp] theorem Res.bind_ok {α β : Type} (a : α) (s : Store) (f : α → Store → Res β) : (Res.ok a s).bind f = f a s := rfl
@[simp] theorem Res.bind_exn {α β : Type} (x : Exn) (s : Store) (f : α → Store → Res β) : (Res.exn x s : Res α).bind f = .exn x s := rfl
@[simp] theorem Res.bind_stuck {α β : Type} (f : α → Store → Res β) : (Res.stuck : Res α).bind f = .stuck := rfl

/-- where nothing may be raised -/
def Res.noex {α : Type} (r : Res α) : Res α := match r with
  | .exn _ _ => .stuck
  | r => r
@[simp] theorem Res.noex_ok {α : Type} (a : α) (s : Store) : (Res.ok a s).noex = .ok a s := rfl
@[simp] theorem Res.noex_exn {α : Type} (x : Exn) (s : Store) : (Res.exn x s : Res α).noex = .stuck := rfl
@[simp] theorem Res.noex_stuck {α : Type} : (Res.stuck : Res α).noex = .stuck := rfl

/-- the longest text, list -/
def LIM : Nat := 16777216

inductive Bop where
  | add | sub | mul | fdiv | mod | pow
  deriving DecidableEq, Repr, Inhabited
inductive Cop where
  | eq | ne | lt | le | gt | ge | is | isnot | inn | notin
  deriving DecidableEq, Repr, Inhabited
/-- types for isinstance -/
inductive Ty where
  | b (n : String) | own (c : String)
  deriving DecidableEq, Repr, Inhabited
/-- built-in functions -/
inductive Bf where
  | len | ord | chr | int | str | repr | bool | abs | max | min | sum | list | tuple | sorted | all | any
  deriving DecidableEq, Repr, Inhabited

/-- methods of built-in types -/
inductive Bm where
  | join | append | insert | reverse | pop | extend | clear | get | count | upper | lower | islower | isupper
  deriving DecidableEq, Repr, Inhabited

mutual
inductive E where
  | c (d : D)
  | v (i : Nat)
  | g (x : String)
  | bin (m : Bool) (o : Bop) (a b : E)
  | neg (a : E)
  | cmp (o : Cop) (a b : E)
  | cmp2 (o o' : Cop) (a b c : E)
  | cmp3 (o o' o'' : Cop) (a b c d : E)
  | and (a b : E) | or (a b : E) | not (a : B)
  | ite (c : B) (a b : E)
  | call (f : String) (as : List E) (kws : List (String × E))
  | new (cl : String) (as : List E) (kws : List (String × E))
  | meth (o : E) (m : String) (as : List E) (kws : List (String × E))
  | bm (mt : Bm) (o : E) (as : List E)
  | fn (m : Bool) (f : Bf) (as : List E)
  | isi (a : E) (ts : List Ty)
  | fld (o : E) (f : String)
  | ix (o i : E)
  | sl (m : Bool) (o : E) (lo hi : Option E)
  | rev (m : Bool) (o : E)
  | tup (as : List E)
  | lst (m : Bool) (as : List E)
  | dct (m : Bool) (ps : List (E × E))
  | comp (m : Bool) (elt : E) (tg : T) (it : I) (ifs : List B) (own : List Nat)
  | comp2 (m : Bool) (elt : E) (tg : T) (it : I) (ifs : List B) (tg2 : T) (it2 : I) (ifs2 : List B) (own own2 : List Nat)
  | lof (m : Bool) (it : I)
  | fs (ps : List E)
  | xf (f : String)
/-- a test -/
inductive B where
  | t (e : E)
  | not (a : B)
  | and (a b : B)
  | or (a b : B)
/-- what is walked -/
inductive I where
  | e (a : E)
  | range (as : List E)
  | zip (as : List E)
  | enum (a : E)
  | rev (a : E)
inductive T where
  | n (i : Nat)
  | tup (ts : List T)
  | at (o : E) (f : String)
  | ix (o i : E)
end
instance : Inhabited E := ⟨.c .non⟩
instance : Inhabited B := ⟨.t default⟩
instance : Inhabited I := ⟨.e default⟩
instance : Inhabited T := ⟨.n 0⟩

mutual
inductive S where
  | asg (t : T) (e : E)
  | aug (t : T) (o : Bop) (e : E)
  | ex (e : E)
  | ret (e : E)
  | ife (c : B) (a b : List S)
  | whl (c : B) (b : List S)
  | forr (t : T) (it : I) (b : List S)
  | brk | cont | pass
  | raise (c : String) (as : List E)
  | tryc (b : List S) (hs : List H)
inductive H where
  | h (cs : List String) (nm : Option Nat) (b : List S)
  | v (c : String) (i : Nat) (m : Bool) (k : Nat) (s : List Nat) (f : String)
end
instance : Inhabited S := ⟨.pass⟩

/-! ### values -/
def mk (m : Bool) (xs : List D) (st : Store) : Res D := if m then .ok (.ref st.length) (st ++ [.lst xs]) else .ok (.frz xs) st
/-- the items of a list -/
def asL (st : Store) : D → Option (List D)
  | .frz xs => some xs
  | .ref n => match st[n]? with
    | some (.lst xs) => some xs
    | _ => none
  | _ => none
/-- the items of a list or tuple -/
def asQ (st : Store) : D → Option (List D)
  | .tup xs => some xs
  | d => asL st d
def truth (st : Store) : D → Option Bool
  | .non => some false
  | .bl b => some b
  | .int i => some (i != 0)
  | .str s => if s.length ≤ LIM then some (!s.isEmpty) else none
  | .tup xs => some (!xs.isEmpty)
  | .frz xs => some (!xs.isEmpty)
  | .scr ns => some (!ns.isEmpty)
  | .frd _ => none
  | .ref n => match st[n]? with
    | some (.lst xs) => some (!xs.isEmpty)
    | some (.dic kvs) => some (!kvs.isEmpty)
    | _ => none
/-- none, bools, ints, texts -/
def flat : D → Bool
  | .non | .bl _ | .int _ | .str _ => true
  | _ => false
/-- == of flat values -/
def eqF : D → D → Bool
  | .non, .non => true
  | .bl a, .bl b => a == b
  | .bl a, .int b => (if a then 1 else 0) == b
  | .int a, .bl b => a == (if b then 1 else 0)
  | .int a, .int b => a == b
  | .str a, .str b => a == b
  | _, _ => false
mutual
/-- == of data: tuples, lists within -/
def eqD : D → D → Bool
  | .tup xs, .tup ys => eqDs xs ys
  | .frz xs, .frz ys => eqDs xs ys
  | .scr _, _ => false
  | a, b => eqF a b
def eqDs : List D → List D → Bool
  | [], [] => true
  | x :: xs, y :: ys => eqD x y && eqDs xs ys
  | _, _ => false
end
mutual
/-- data without refs (scripts, dicts) -/
def pureD : D → Bool
  | .non | .bl _ | .int _ => true
  | .str s => s.all (fun c => decide (c < 1114112))
  | .tup xs | .frz xs => puresD xs
  | _ => false
def puresD : List D → Bool
  | [] => true
  | x :: xs => pureD x && puresD xs
end
/-- a ref to a list, a dict of data is read -/
def look (st : Store) : D → D
  | .ref n => match st[n]? with
    | some (.lst xs) => .frz xs
    | some (.dic kvs) => .frd kvs
    | _ => .ref n
  | d => d
mutual
/-- refs are read -/
def gD (g : Nat → D) : D → D
  | .ref n => g n
  | .tup xs => .tup (gDs g xs)
  | .frz xs => .frz (gDs g xs)
  | .frd kvs => .frd (gKs g kvs)
  | d => d
def gDs (g : Nat → D) : List D → List D
  | [] => []
  | x :: xs => gD g x :: gDs g xs
def gKs (g : Nat → D) : List (D × D) → List (D × D)
  | [] => []
  | (q, x) :: r => (q, gD g x) :: gKs g r
end
/-- refs to lists, dicts are read, as deep as the fuel goes -/
def lookF (st : Store) : Nat → D → D
  | 0, d => d
  | f + 1, d => gD (fun n => match st[n]? with
    | some (.lst xs) => .frz (xs.map (lookF st f))
    | some (.dic kvs) => .frd (kvs.map fun p => (p.1, lookF st f p.2))
    | _ => .ref n) d
def deep (st : Store) (d : D) : D := lookF st 4 d
mutual
def depD : D → Nat
  | .tup xs | .frz xs => depDs xs + 1
  | .frd kvs => depKs kvs + 1
  | _ => 0
def depDs : List D → Nat
  | [] => 0
  | x :: xs => max (depD x) (depDs xs)
def depKs : List (D × D) → Nat
  | [] => 0
  | (q, x) :: xs => max (depD x) (depKs xs)
end
def keyOk : D → Bool
  | .int _ => true
  | .str s => s.all (fun c => decide (c < 1114112))
  | _ => false
mutual
/-- data without refs, scripts -/
def datD : D → Bool
  | .non | .bl _ | .int _ => true
  | .str s => s.all (fun c => decide (c < 1114112))
  | .tup xs | .frz xs => datDs xs
  | .frd kvs => datKs kvs
  | _ => false
def datDs : List D → Bool
  | [] => true
  | x :: xs => datD x && datDs xs
def datKs : List (D × D) → Bool
  | [] => true
  | (q, x) :: xs => keyOk q && datD x && datKs xs
end
/-- two of a kind, or none and another -/
def scalD : D → D → Bool
  | .non, .non => true | .non, .int _ => true | .int _, .non => true | .non, .bl _ => true | .bl _, .non => true | .non, .str _ => true | .str _, .non => true
  | .int _, .int _ => true | .bl _, .bl _ => true | .str _, .str _ => true
  | .int _, .str _ => true | .str _, .int _ => true | .bl _, .str _ => true | .str _, .bl _ => true
  | _, _ => false
/-- two lists of other lengths -/
def lenNe : D → D → Option Bool
  | .frz xs, .frz ys => if xs.length = ys.length then none else some false
  | _, _ => none
def eqS (st : Store) (a b : D) : Option Bool := if scalD a b then some (eqF a b) else
  let a' := look st a
  let b' := look st b
  if pureD a' && pureD b' && decide (depD a' ≤ 64) && decide (depD b' ≤ 64) then some (eqD a' b') else (lenNe a' b').or (
    let a'' := deep st a
    let b'' := deep st b
    if pureD a'' && pureD b'' && decide (depD a'' ≤ 64) && decide (depD b'' ≤ 64) then some (eqD a'' b'') else none)

@[irreducible] def small (i : Int) : Bool := Nat.ble i.natAbs 9223372036854775807
theorem small_iff {i : Int} : small i = true ↔ i.natAbs ≤ 9223372036854775807 := by unfold small; rw [Nat.ble_eq]
/-- an index, any sign -/
def ixN (n : Nat) (i : Int) : Option Nat :=
  if 0 ≤ i then (if i < n then some i.toNat else none) else if 0 ≤ i + n then some (i + n).toNat else none
/-- a slice's bound -/
def sIx (n d : Nat) : Option Int → Nat
  | none => d
  | some v => if v < 0 then (v + (n : Int)).toNat else min v.toNat n
def cut {α : Type} (xs : List α) (lo hi : Option Int) : List α := (xs.drop (sIx xs.length 0 lo)).take (sIx xs.length xs.length hi - sIx xs.length 0 lo)
/-- a text within a text -/
def subText : List Nat → List Nat → Bool
  | a, [] => a.isEmpty
  | a, b :: bs => a.isPrefixOf (b :: bs) || subText a bs
def ltText : List Nat → List Nat → Bool
  | [], [] => false
  | [], _ :: _ => true
  | _ :: _, [] => false
  | a :: as, b :: bs => if a < b then true else if b < a then false else ltText as bs

@[irreducible] def bmul (i j : Int) : Bool := Nat.ble i.natAbs 18446744073709551615 || Nat.ble j.natAbs 18446744073709551615
theorem bmul_iff {i j : Int} : bmul i j = true ↔ (-(2 ^ 64) < i ∧ i < 2 ^ 64) ∨ (-(2 ^ 64) < j ∧ j < 2 ^ 64) := by
  unfold bmul
  rw [Bool.or_eq_true, Nat.ble_eq, Nat.ble_eq]
  constructor <;> (intro h; omega)
def addD (m : Bool) (a b : D) (st : Store) : Res D := match a, b with
  | .int i, .int j => .ok (.int (i + j)) st
  | .str x, .str y => if x.length + y.length ≤ LIM then .ok (.str (x ++ y)) st else .stuck
  | a, b => match asL st a, asL st b with
    | some xs, some ys => if xs.length + ys.length ≤ LIM then mk m (xs ++ ys) st else .stuck
    | _, _ => .stuck
def subD (a b : D) (st : Store) : Res D := match a, b with
  | .int i, .int j => .ok (.int (i - j)) st
  | _, _ => .stuck
def mulD (m : Bool) (a b : D) (st : Store) : Res D := match a, b with
  | .int i, .int j => if bmul i j then .ok (.int (i * j)) st else .stuck
  | a, .int k => match asL st a with
    | some xs => if small k && decide (xs.length * k.toNat ≤ LIM) then mk m (List.replicate k.toNat xs).flatten st else .stuck
    | none => .stuck
  | _, _ => .stuck
def fdivD (a b : D) (st : Store) : Res D := match a, b with
  | .int i, .int j => if j != 0 && decide (j.natAbs < 1073741824) then .ok (.int (i.fdiv j)) st else .stuck
  | _, _ => .stuck
def modD (a b : D) (st : Store) : Res D := match a, b with
  | .int i, .int j => if j != 0 then .ok (.int (i.fmod j)) st else .stuck
  | _, _ => .stuck
def powD (a b : D) (st : Store) : Res D := match a, b with
  | .int i, .int j => if decide (0 ≤ j) && decide (j ≤ 1000000) && decide (i.natAbs < 2 ^ 64) then .ok (.int (i ^ j.toNat)) st else .stuck
  | _, _ => .stuck
def binop (m : Bool) (o : Bop) (a b : D) (st : Store) : Res D := match o with
  | .add => addD m a b st
  | .sub => subD a b st
  | .mul => mulD m a b st
  | .fdiv => fdivD a b st
  | .mod => modD a b st
  | .pow => powD a b st

/-- d[k] of a list of pairs -/
def dget (kvs : List (D × D)) (k : D) : Option D := match kvs with
  | [] => none
  | (a, v) :: r => if eqF a k then some v else dget r k
def dput (kvs : List (D × D)) (k v : D) : List (D × D) := if kvs.any (fun p => eqF p.1 k) then kvs.map (fun p => if eqF p.1 k then (p.1, v) else p) else kvs ++ [(k, v)]
def isKey : D → Bool
  | .int _ | .str _ => true
  | _ => false
def asD (st : Store) : D → Option (List (D × D))
  | .frd kvs => some kvs
  | .ref n => match st[n]? with
    | some (.dic kvs) => some kvs
    | _ => none
  | _ => none

/-- a dict, asked by a key -/
def dictOf (st : Store) (d q : D) : Option (List (D × D)) := match d, q with
  | .frd kvs, .str _ => some kvs
  | .ref n, q => if isKey q then (match st[n]? with
    | some (.dic kvs) => some kvs
    | _ => none) else none
  | _, _ => none
def inOp (st : Store) (a b : D) : Option Bool := match a, b with
  | .str [c], .str y => some (decide (c ∈ y))
  | a, b => match dictOf st b a with
    | some kvs => some (dget kvs a).isSome
    | none => match asQ st b with
      | some xs => if flat a && xs.all flat then some (xs.any fun y => eqF y a) else none
      | none => none
/-- the two are the same thing: None, the store's things -/
def objAt (st : Store) (n : Nat) : Bool := match st[n]? with
  | some (.lst _) => true
  | some (.ins _ _) => true
  | _ => false
def isOp (st : Store) : D → D → Option Bool
  | .non, .non => some true
  | _, .non => some false
  | .ref m, .ref n => if objAt st m && objAt st n then some (m == n) else none
  | _, _ => none
def cmpI (p : Int → Int → Bool) (q : List Nat → List Nat → Bool) (a b : D) : Option Bool := match a, b with
  | .int i, .int j => some (p i j)
  | .str i, .str j => some (q i j)
  | _, _ => none
def cmpop (o : Cop) (a b : D) (st : Store) : Option Bool := match o with
  | .eq => eqS st a b
  | .ne => (eqS st a b).map (!·)
  | .lt => cmpI (fun i j => decide (i < j)) (fun i j => ltText i j) a b
  | .le => cmpI (fun i j => decide (i ≤ j)) (fun i j => !ltText j i) a b
  | .gt => cmpI (fun i j => decide (j < i)) (fun i j => ltText j i) a b
  | .ge => cmpI (fun i j => decide (j ≤ i)) (fun i j => !ltText i j) a b
  | .is => isOp st a b
  | .isnot => (isOp st a b).map (!·)
  | .inn => inOp st a b
  | .notin => (inOp st a b).map (!·)
/-- x op= y of ints, texts -/
def augop (o : Bop) (x y : D) (st : Store) : Res D := match o, x, y with
  | .add, .int i, .int j => .ok (.int (i + j)) st
  | .add, .str i, .str j => if i.length + j.length ≤ LIM then .ok (.str (i ++ j)) st else .stuck
  | .sub, .int i, .int j => .ok (.int (i - j)) st
  | .mul, .int i, .int j => if bmul i j then .ok (.int (i * j)) st else .stuck
  | _, _, _ => .stuck
def cmpR (o : Cop) (a b : D) (st : Store) : Res D := match cmpop o a b st with
  | some r => .ok (.bl r) st
  | none => .stuck

/-- the type's name, an own class's -/
def tyOf (st : Store) : D → Ty
  | .non => .b "NoneType"
  | .bl _ => .b "bool"
  | .int _ => .b "int"
  | .str _ => .b "str"
  | .tup _ => .b "tuple"
  | .frz _ | .scr _ => .b "list"
  | .frd _ => .b "dict"
  | .ref n => match st[n]? with
    | some (.lst _) => .b "list"
    | some (.dic _) => .b "dict"
    | some (.ins c _) => .own c
    | none => .b "?"
/-- the types that are known -/
def tyIn (cls : List String) : Ty → Bool
  | .b n => ["NoneType", "bool", "int", "str", "tuple", "list", "dict"].contains n
  | .own c => cls.contains c
def isTy (t u : Ty) : Bool := t == u || (t == .b "bool" && u == .b "int")

def join (sep : List Nat) : List (List Nat) → List Nat
  | [] => []
  | [x] => x
  | x :: r => x ++ sep ++ join sep r
def asS : List D → Option (List (List Nat))
  | [] => some []
  | .str x :: r => (asS r).map (x :: ·)
  | _ => none
def asB : List D → Option (List Bool)
  | [] => some []
  | .bl x :: r => (asB r).map (x :: ·)
  | _ => none
def asI : List D → Option (List Int)
  | [] => some []
  | .int x :: r => (asI r).map (x :: ·)
  | _ => none
def rangeL (lo hi : Int) : List D := (List.range (hi - lo).toNat).map fun (k : Nat) => D.int (lo + (k : Int))
/-- hi, hi - 1, .. down to lo + 1 -/
def rangeC (hi lo : Int) : List D := (List.range (hi - lo).toNat).map fun (k : Nat) => D.int (hi + (k : Int) * (-1))
@[irreducible] def inR (i : Int) : Bool := Nat.ble i.natAbs 4611686018427387903
theorem inR_iff {i : Int} : inR i = true ↔ i.natAbs ≤ 4611686018427387903 := by unfold inR; rw [Nat.ble_eq]
def digits : Nat → Nat → List Nat
  | 0, _ => []
  | f + 1, n => if n < 10 then [48 + n] else digits f (n / 10) ++ [48 + n % 10]
def strInt (i : Int) : List Nat := if i < 0 then 45 :: digits 700 i.natAbs else digits 700 i.natAbs

/-! ### the program -/
/-- what the evaluator asks of the program: a def's (class's method's) call, a constant, an exception's ancestors -/
structure Prog where
  call : String → String → List D → List (String × D) → Store → Res D
  glob : String → Option D
  exc : String → String → Bool
  fldOf : String → String
  rep : D → Option (List Nat)
  cls : List String
  noat : String → String → Bool
  has : String → String → Bool
  xc : List String

/-! ### builtin functions -/
def lenB (st : Store) (as : List D) : Res D := match as with
  | [.str x] => if x.length ≤ LIM then .ok (.int x.length) st else .stuck
  | [.scr ns] => .ok (.int ns.length) st
  | [a] => match asQ st a with
    | some xs => .ok (.int xs.length) st
    | none => .stuck
  | _ => .stuck
def ordB (st : Store) (as : List D) : Res D := match as with
  | [.str [x]] => .ok (.int x) st
  | _ => .stuck
def intB (st : Store) (as : List D) : Res D := match as with
  | [.int i] => .ok (.int i) st
  | [.bl b] => .ok (.int (if b then 1 else 0)) st
  | _ => .stuck
def absB (st : Store) (as : List D) : Res D := match as with
  | [.int i] => .ok (.int (if i < 0 then -i else i)) st
  | _ => .stuck
def maxB (st : Store) (as : List D) : Res D := match as with
  | [.int i, .int j] => .ok (.int (if j > i then j else i)) st
  | [a] => match (asL st a).bind asI with
    | some (x :: xs) => .ok (.int (xs.foldl (fun b y => if y > b then y else b) x)) st
    | _ => .stuck
  | _ => .stuck
def minB (st : Store) (as : List D) : Res D := match as with
  | [.int i, .int j] => .ok (.int (if j < i then j else i)) st
  | [a] => match (asL st a).bind asI with
    | some (x :: xs) => .ok (.int (xs.foldl (fun b y => if y < b then y else b) x)) st
    | _ => .stuck
  | _ => .stuck
def sumB (st : Store) (as : List D) : Res D := match as with
  | [a] => match (asL st a).bind asI with
    | some xs => .ok (.int xs.sum) st
    | _ => .stuck
  | _ => .stuck
def listB (m : Bool) (st : Store) (as : List D) : Res D := match as with
  | [.str x] => if x.length ≤ LIM then mk m (x.map fun c => .str [c]) st else .stuck
  | [a] => match asQ st a with
    | some xs => mk m xs st
    | none => .stuck
  | _ => .stuck
def tupleB (st : Store) (as : List D) : Res D := match as with
  | [a] => match asQ st a with
    | some xs => .ok (.tup xs) st
    | none => .stuck
  | _ => .stuck
def allB (st : Store) (as : List D) : Res D := match as with
  | [a] => match (asL st a).bind asB with
    | some bs => .ok (.bl (bs.all id)) st
    | none => .stuck
  | _ => .stuck
def anyB (st : Store) (as : List D) : Res D := match as with
  | [a] => match (asL st a).bind asB with
    | some bs => .ok (.bl (bs.any id)) st
    | none => .stuck
  | _ => .stuck
def reprB (rep : D → Option (List Nat)) (st : Store) (as : List D) : Res D := match as with
  | [a] => match (rep (look st a)).or (rep (deep st a)) with
    | some x => .ok (.str x) st
    | none => .stuck
  | _ => .stuck
def strB (st : Store) (as : List D) : Res D := match as with
  | [.str x] => .ok (.str x) st
  | [.int i] => if i.natAbs < 2 ^ 1000 then .ok (.str (strInt i)) st else .stuck
  | _ => .stuck
def bltin (Φ : Prog) (m : Bool) (f : Bf) (as : List D) (st : Store) : Res D := match f with
  | .len => lenB st as
  | .ord => ordB st as
  | .int => intB st as
  | .abs => absB st as
  | .max => maxB st as
  | .min => minB st as
  | .sum => sumB st as
  | .list => listB m st as
  | .tuple => tupleB st as
  | .all => allB st as
  | .any => anyB st as
  | .repr => reprB Φ.rep st as
  | .str => strB st as
  | _ => .stuck

/-! ### methods of built-in types -/
def joinB (st : Store) (o : D) (as : List D) : Res D := match o, as with
  | .str x, [a] => match (asQ st a).bind asS with
    | some xs => if (xs.map (·.length)).sum + xs.length * x.length ≤ LIM then .ok (.str (join x xs)) st else .stuck
    | none => .stuck
  | _, _ => .stuck
/-- a list of the store -/
def lstAt (st : Store) : D → Option (Nat × List D)
  | .ref n => match st[n]? with
    | some (.lst xs) => some (n, xs)
    | _ => none
  | _ => none
def appendB (st : Store) (o : D) (as : List D) : Res D := match lstAt st o, as with
  | some (n, xs), [a] => if xs.length < LIM then .ok .non (st.set n (.lst (xs ++ [a]))) else .stuck
  | _, _ => .stuck
def insertB (st : Store) (o : D) (as : List D) : Res D := match lstAt st o, as with
  | some (n, xs), [.int i, a] => if xs.length < LIM && decide (0 ≤ i) && small i then .ok .non (st.set n (.lst (xs.take i.toNat ++ [a] ++ xs.drop i.toNat))) else .stuck
  | _, _ => .stuck
def reverseB (st : Store) (o : D) (as : List D) : Res D := match lstAt st o, as with
  | some (n, xs), [] => .ok .non (st.set n (.lst xs.reverse))
  | _, _ => .stuck
def popB (st : Store) (o : D) (as : List D) : Res D := match lstAt st o, as with
  | some (n, xs), [] => match xs[xs.length - 1]? with
    | some y => .ok y (st.set n (.lst xs.dropLast))
    | none => .stuck
  | _, _ => .stuck
def extendB (st : Store) (o : D) (as : List D) : Res D := match lstAt st o, as with
  | some (n, xs), [a] => match asL st a with
    | some ys => if xs.length + ys.length ≤ LIM then .ok .non (st.set n (.lst (xs ++ ys))) else .stuck
    | none => .stuck
  | _, _ => .stuck
def clearB (st : Store) (o : D) (as : List D) : Res D := match lstAt st o, as with
  | some (n, _), [] => .ok .non (st.set n (.lst []))
  | _, _ => .stuck
def getB (st : Store) (o : D) (as : List D) : Res D := match as with
  | [k, dflt] => match dictOf st o k with
    | some kvs => .ok ((dget kvs k).getD dflt) st
    | none => .stuck
  | _ => .stuck
def countB (st : Store) (o : D) (as : List D) : Res D := match o, as with
  | .str x, [.str [c]] => if x.length ≤ LIM then .ok (.int (x.count c)) st else .stuck
  | _, _ => .stuck
def upC (c : Nat) : Nat := if 97 ≤ c ∧ c ≤ 122 then c - 32 else c
def loC (c : Nat) : Nat := if 65 ≤ c ∧ c ≤ 90 then c + 32 else c
def upperB (st : Store) (o : D) (as : List D) : Res D := match o, as with
  | .str x, [] => if x.all (fun c => decide (c < 128)) && decide (x.length ≤ 5592405) then .ok (.str (x.map upC)) st else .stuck
  | _, _ => .stuck
def lowerB (st : Store) (o : D) (as : List D) : Res D := match o, as with
  | .str x, [] => if x.all (fun c => decide (c < 128)) && decide (x.length ≤ 5592405) then .ok (.str (x.map loC)) st else .stuck
  | _, _ => .stuck
def islowerB (st : Store) (o : D) (as : List D) : Res D := match o, as with
  | .str [c], [] => if c < 128 then .ok (.bl (decide (97 ≤ c) && decide (c ≤ 122))) st else .stuck
  | _, _ => .stuck
def isupperB (st : Store) (o : D) (as : List D) : Res D := match o, as with
  | .str [c], [] => if c < 128 then .ok (.bl (decide (65 ≤ c) && decide (c ≤ 90))) st else .stuck
  | _, _ => .stuck
/-- the receiver's type -/
def recvOk (mt : Bm) (o : D) (st : Store) : Bool := match mt with
  | .join | .count | .upper | .lower | .islower | .isupper => (match o with
    | .str _ => true
    | _ => false)
  | .get => (match o with
    | .frd _ => true
    | .ref n => (match st[n]? with
      | some (.dic _) => true
      | _ => false)
    | _ => false)
  | _ => (lstAt st o).isSome
def methB (mt : Bm) (o : D) (as : List D) (st : Store) : Res D := match mt with
  | .join => joinB st o as
  | .append => appendB st o as
  | .insert => insertB st o as
  | .reverse => reverseB st o as
  | .pop => popB st o as
  | .extend => extendB st o as
  | .clear => clearB st o as
  | .get => getB st o as
  | .count => countB st o as
  | .upper => upperB st o as
  | .lower => lowerB st o as
  | .islower => islowerB st o as
  | .isupper => isupperB st o as
/-- names of built-in types' methods, where no own class stands -/
def isIns (has : String → String → Bool) (st : Store) (m : String) : D → Option String
  | .ref n => match st[n]? with
    | some (.ins c fs) => if (fs.lookup m).isNone && has c m then some c else none
    | _ => none
  | _ => none

/-! ### expressions -/
def fieldOf (noat : String → String → Bool) (st : Store) (f : String) : D → Option D
  | .ref n => match st[n]? with
    | some (.ins c fs) => if noat c f then fs.lookup f else none
    | _ => none
  | _ => none
def putF (f : String) (v : D) : List (String × D) → List (String × D)
  | [] => [(f, v)]
  | (g, x) :: r => if g = f then (g, v) :: r else (g, x) :: putF f v r
def indexQ (st : Store) (a b : D) : Res D := match dictOf st a b with
  | some kvs => match dget kvs b with
    | some v => .ok v st
    | none => .stuck
  | none => match asQ st a, b with
    | some xs, .int i => match (ixN xs.length i).bind (xs[·]?) with
      | some v => .ok v st
      | none => .stuck
    | _, _ => .stuck
def index (a b : D) (st : Store) : Res D := match a, b with
  | .str x, .int i => if x.length ≤ LIM then (match (ixN x.length i).bind (x[·]?) with
      | some c => .ok (.str [c]) st
      | none => .stuck) else .stuck
  | .scr ns, .int i => match (ixN ns.length i).bind (ns[·]?) with
    | some n => .ok (.int n) st
    | none => .stuck
  | a, b => indexQ st a b
def slice (m : Bool) (a : D) (lo hi : Option Int) (st : Store) : Res D := match a with
  | .str x => if x.length ≤ LIM then .ok (.str (cut x lo hi)) st else .stuck
  | a => match asL st a with
    | some xs => mk m (cut xs lo hi) st
    | none => .stuck
def dicAt (st : Store) : D → Option (Nat × List (D × D))
  | .ref n => match st[n]? with
    | some (.dic kvs) => some (n, kvs)
    | _ => none
  | _ => none
def setIx (o i v : D) (st : Store) : Res Unit := match lstAt st o with
  | some (n, xs) => match i with
    | .int k => match ixN xs.length k with
      | some j => .ok () (st.set n (.lst (xs.set j v)))
      | none => .stuck
    | _ => .stuck
  | none => match dicAt st o with
    | some (n, kvs) => if isKey i && decide (kvs.length < LIM) then .ok () (st.set n (.dic (dput kvs i v))) else .stuck
    | none => .stuck
def setFld (noat : String → String → Bool) (o : D) (f : String) (v : D) (st : Store) : Res Unit := match o with
  | .ref n => match st[n]? with
    | some (.ins c fs) => if fs.length < 1000 && noat c f then .ok () (st.set n (.ins c (putF f v fs))) else .stuck
    | _ => .stuck
  | _ => .stuck
def wipe (σ : Env) : List Nat → Env
  | [] => σ
  | i :: r => (wipe σ r).set i none

/-- the refs that a walk reads -/
def srcs : D → List Nat
  | .ref n => [n]
  | _ => []
def zipD (xs ys : List D) : List D := (xs.zip ys).map fun p => .tup [p.1, p.2]
def zipD3 (xs ys zs : List D) : List D := ((xs.zip ys).zip zs).map fun p => .tup [p.1.1, p.1.2, p.2]
def enumD (xs : List D) : List D := xs.zipIdx.map fun p => .tup [.int (p.2 : Nat), p.1]

/-- a comprehension's loop -/
def compL (src : List Nat) (f : D → Store → List D → Res (List D)) : List D → List D → Store → Res (List D)
  | [], acc, st => .ok acc st
  | d :: ds, acc, st => (f d st acc).noex.bind fun acc' st' => if src.all (fun n => st'[n]? == st[n]?) then compL src f ds acc' st' else .stuck

section
variable (Φ : Prog) (cur : Option Exn)
mutual
def evalE (σ : Env) : E → Store → Res D
  | .c d, st => .ok d st
  | .v i, st => match σ[i]? with
    | some (some d) => .ok d st
    | _ => .stuck
  | .g x, st => match Φ.glob x with
    | some d => .ok d st
    | none => .stuck
  | .bin m o a b, st => (evalE σ a st).bind fun x st => (evalE σ b st).bind fun y st => binop m o x y st
  | .neg a, st => (evalE σ a st).bind fun x st => match x with
    | .int i => .ok (.int (-i)) st
    | _ => .stuck
  | .cmp o a b, st => (evalE σ a st).bind fun x st => (evalE σ b st).bind fun y st => cmpR o x y st
  | .cmp2 o o' a b c, st => (evalE σ a st).bind fun x st => (evalE σ b st).bind fun y st => (cmpR o x y st).bind fun r st => match r with
    | .bl true => (evalE σ c st).bind fun z st => cmpR o' y z st
    | .bl false => .ok (.bl false) st
    | _ => .stuck
  | .cmp3 o o' o'' a b c d, st => (evalE σ a st).bind fun x st => (evalE σ b st).bind fun y st => (cmpR o x y st).bind fun r st => match r with
    | .bl true => (evalE σ c st).bind fun z st => (cmpR o' y z st).bind fun r st => match r with
      | .bl true => (evalE σ d st).bind fun w st => cmpR o'' z w st
      | .bl false => .ok (.bl false) st
      | _ => .stuck
    | .bl false => .ok (.bl false) st
    | _ => .stuck
  | .and a b, st => (evalE σ a st).bind fun x st => match x with
    | .bl true => evalE σ b st
    | .bl false => .ok (.bl false) st
    | _ => .stuck
  | .or a b, st => (evalE σ a st).bind fun x st => match truth st x with
    | some true => .ok x st
    | some false => evalE σ b st
    | none => .stuck
  | .not a, st => (evalT σ a st).bind fun b st => .ok (.bl (!b)) st
  | .ite c a b, st => (evalT σ c st).bind fun t st => if t then evalE σ a st else evalE σ b st
  | .call f as kws, st => (evalEs σ as st).bind fun xs st => (evalKs σ kws st).bind fun ks st => Φ.call "" f xs ks st
  | .new cl as kws, st => (evalEs σ as st).bind fun xs st => (evalKs σ kws st).bind fun ks st =>
      (Φ.call cl "__init__" (.ref st.length :: xs) ks (st ++ [.ins cl []])).bind fun d st' => match d with
        | .non => .ok (.ref st.length) st'
        | _ => .stuck
  | .meth o m as kws, st => (evalE σ o st).bind fun x st => match isIns Φ.has st m x with
    | some c => (evalEs σ as st).bind fun xs st => (evalKs σ kws st).bind fun ks st => Φ.call c m (x :: xs) ks st
    | none => .stuck
  | .bm mt o as, st => (evalE σ o st).bind fun x st => if recvOk mt x st then (evalEs σ as st).bind fun xs st => methB mt x xs st else .stuck
  | .fn m f as, st => (evalEs σ as st).bind fun xs st => bltin Φ m f xs st
  | .isi a ts, st => (evalE σ a st).bind fun x st => if tyIn Φ.cls (tyOf st x) && ts.all (tyIn Φ.cls) then .ok (.bl (ts.any (isTy (tyOf st x)))) st else .stuck
  | .fld o f, st => (evalE σ o st).bind fun x st => match fieldOf Φ.noat st f x with
    | some d => .ok d st
    | none => .stuck
  | .ix o i, st => (evalE σ o st).bind fun x st => (evalE σ i st).bind fun y st => index x y st
  | .sl m o lo hi, st => (evalE σ o st).bind fun x st => (evalO σ lo st).bind fun l st => (evalO σ hi st).bind fun h st => slice m x l h st
  | .rev m o, st => (evalE σ o st).bind fun x st => match asL st x with
    | some xs => mk m xs.reverse st
    | none => .stuck
  | .tup as, st => (evalEs σ as st).bind fun xs st => .ok (.tup xs) st
  | .lst m as, st => (evalEs σ as st).bind fun xs st => mk m xs st
  | .dct m ps, st => (evalPs σ ps st).bind fun xs st =>
      if xs.all (fun p => isKey p.1) && decide (xs.length ≤ 15) then (let kvs := xs.foldl (fun acc p => dput acc p.1 p.2) []
        if m then .ok (.ref st.length) (st ++ [.dic kvs]) else .ok (.frd kvs) st) else .stuck
  | .comp m elt tg it ifs own, st => (evalI σ it st).bind fun p st =>
      (compL p.2 (fun d st acc => (assign (wipe σ own) tg d st).bind fun σ' st => (evalTs σ' ifs st).bind fun t st =>
        if t then (evalE σ' elt st).bind fun y st => .ok (acc ++ [y]) st else .ok acc st) p.1 [] st).bind fun ys st => if ys.length ≤ LIM then mk m ys st else .stuck
  | .comp2 m elt tg it ifs tg2 it2 ifs2 own own2, st => (evalI σ it st).bind fun p st =>
      (compL p.2 (fun d st acc => (assign (wipe σ own) tg d st).bind fun σ' st => (evalTs σ' ifs st).bind fun t st =>
        if t then (evalI σ' it2 st).bind fun p2 st =>
          compL p2.2 (fun d st acc => (assign (wipe σ' own2) tg2 d st).bind fun σ'' st => (evalTs σ'' ifs2 st).bind fun t st =>
            if t then (evalE σ'' elt st).bind fun y st => .ok (acc ++ [y]) st else .ok acc st) p2.1 acc st
        else .ok acc st) p.1 [] st).bind fun ys st => if ys.length ≤ LIM then mk m ys st else .stuck
  | .lof m it, st => (evalI σ it st).bind fun p st => if p.1.length ≤ LIM then mk m p.1 st else .stuck
  | .fs ps, st => (evalEs σ ps st).bind fun xs st => match asS xs with
    | some zs => if zs.flatten.length ≤ LIM then .ok (.str zs.flatten) st else .stuck
    | none => .stuck
  | .xf f, st => match cur with
    | some x => if x.fld = f then .ok x.val st else .stuck
    | none => .stuck
/-- a test -/
def evalT (σ : Env) : B → Store → Res Bool
  | .not a, st => (evalT σ a st).bind fun b st => .ok (!b) st
  | .and a b, st => (evalT σ a st).bind fun x st => if x then evalT σ b st else .ok false st
  | .or a b, st => (evalT σ a st).bind fun x st => if x then .ok true st else evalT σ b st
  | .t e, st => (evalE σ e st).bind fun x st => match truth st x with
    | some b => .ok b st
    | none => .stuck
termination_by structural b => b
def evalEs (σ : Env) : List E → Store → Res (List D)
  | [], st => .ok [] st
  | a :: r, st => (evalE σ a st).bind fun x st => (evalEs σ r st).bind fun xs st => .ok (x :: xs) st
def evalPs (σ : Env) : List (E × E) → Store → Res (List (D × D))
  | [], st => .ok [] st
  | (a, b) :: r, st => (evalE σ a st).bind fun x st => (evalE σ b st).bind fun y st => (evalPs σ r st).bind fun xs st => .ok ((x, y) :: xs) st
def evalKs (σ : Env) : List (String × E) → Store → Res (List (String × D))
  | [], st => .ok [] st
  | (k, a) :: r, st => (evalE σ a st).bind fun x st => (evalKs σ r st).bind fun xs st => .ok ((k, x) :: xs) st
def evalO (σ : Env) : Option E → Store → Res (Option Int)
  | none, st => .ok none st
  | some a, st => (evalE σ a st).bind fun x st => match x with
    | .int i => .ok (some i) st
    | _ => .stuck
def evalTs (σ : Env) : List B → Store → Res Bool
  | [], st => .ok true st
  | a :: r, st => (evalT σ a st).bind fun b st => if b then evalTs σ r st else .ok false st
/-- what is walked: its items, the refs that are read meanwhile -/
def evalI (σ : Env) : I → Store → Res (List D × List Nat)
  | .e a, st => (evalE σ a st).bind fun x st => match x with
    | .scr ns => .ok (ns.map .int, []) st
    | .str s => .ok (s.map (fun c => .str [c]), []) st
    | x => match asQ st x with
      | some xs => .ok (xs, srcs x) st
      | none => .stuck
  | .range as, st => (evalEs σ as st).bind fun xs st => match xs with
    | [.int j] => if inR j then .ok (rangeL 0 j, []) st else .stuck
    | [.int i, .int j] => if inR i && inR j then .ok (rangeL i j, []) st else .stuck
    | [.int i, .int j, .int c] => if inR i && inR j && c == -1 then .ok (rangeC i j, []) st else .stuck
    | _ => .stuck
  | .zip as, st => (evalEs σ as st).bind fun xs st => match xs with
    | [x, y] => match asL st x, asL st y with
      | some as, some bs => .ok (zipD as bs, srcs x ++ srcs y) st
      | _, _ => .stuck
    | [x, y, z] => match asL st x, asL st y, asL st z with
      | some as, some bs, some cs => .ok (zipD3 as bs cs, srcs x ++ (srcs y ++ srcs z)) st
      | _, _, _ => .stuck
    | _ => .stuck
  | .enum a, st => (evalE σ a st).bind fun x st => match asL st x with
    | some xs => .ok (enumD xs, srcs x) st
    | none => .stuck
  | .rev a, st => (evalE σ a st).bind fun x st => match asL st x with
    | some xs => .ok (xs.reverse, srcs x) st
    | none => .stuck
/-- a target takes a value -/
def assign (σ : Env) : T → D → Store → Res Env
  | .n i, d, st => if i < σ.length then .ok (σ.set i (some d)) st else .stuck
  | .tup ts, d, st => match d with
    | .tup xs | .frz xs => (assigns σ ts xs st).noex
    | _ => .stuck
  | .at o f, d, st => (evalE σ o st).bind fun x st => (setFld Φ.noat x f d st).bind fun _ st => .ok σ st
  | .ix o i, d, st => (evalE σ o st).bind fun x st => (evalE σ i st).bind fun y st => (setIx x y d st).bind fun _ st => .ok σ st
def assigns (σ : Env) : List T → List D → Store → Res Env
  | [], [], st => .ok σ st
  | t :: ts, d :: ds, st => (assign σ t d st).bind fun σ st => assigns σ ts ds st
  | _, _, _ => .stuck
end
end

/-! ### statements -/
inductive Out where
  | nx (σ : Env) (s : Store)
  | rt (d : D) (s : Store)
  | bk (σ : Env) (s : Store)
  | ct (σ : Env) (s : Store)
  | ex (x : Exn) (σ : Env) (s : Store)
  | stuck
  deriving Inhabited, Repr
/-- an expression's end within a statement -/
def Res.out {α : Type} (r : Res α) (σ : Env) (f : α → Store → Out) : Out := match r with
  | .ok a s => f a s
  | .exn x s => .ex x σ s
  | .stuck => .stuck
@[simp] theorem Res.out_ok {α : Type} (a : α) (s : Store) (σ : Env) (f : α → Store → Out) : (Res.ok a s).out σ f = f a s := rfl
@[simp] theorem Res.out_exn {α : Type} (x : Exn) (s : Store) (σ : Env) (f : α → Store → Out) : (Res.exn x s : Res α).out σ f = .ex x σ s := rfl
@[simp] theorem Res.out_stuck {α : Type} (σ : Env) (f : α → Store → Out) : (Res.stuck : Res α).out σ f = .stuck := rfl
def Out.seq (o : Out) (f : Env → Store → Out) : Out := match o with
  | .nx σ s => f σ s
  | o => o
@[simp] theorem Out.seq_nx (σ : Env) (s : Store) (f : Env → Store → Out) : (Out.nx σ s).seq f = f σ s := rfl
@[simp] theorem Out.seq_rt (d : D) (s : Store) (f : Env → Store → Out) : (Out.rt d s).seq f = .rt d s := rfl
@[simp] theorem Out.seq_bk (σ : Env) (s : Store) (f : Env → Store → Out) : (Out.bk σ s).seq f = .bk σ s := rfl
@[simp] theorem Out.seq_ct (σ : Env) (s : Store) (f : Env → Store → Out) : (Out.ct σ s).seq f = .ct σ s := rfl
@[simp] theorem Out.seq_ex (x : Exn) (σ : Env) (s : Store) (f : Env → Store → Out) : (Out.ex x σ s).seq f = .ex x σ s := rfl
@[simp] theorem Out.seq_stuck (f : Env → Store → Out) : Out.stuck.seq f = .stuck := rfl
/-- nothing may be raised -/
def Out.noex (o : Out) : Out := match o with
  | .ex _ _ _ => .stuck
  | o => o
/-- a clause's name goes -/
def Out.gone (o : Out) (i : Nat) : Out := match o with
  | .nx σ st => .nx (σ.set i none) st
  | .bk σ st => .bk (σ.set i none) st
  | .ct σ st => .ct (σ.set i none) st
  | o => o

/-- a clause that gives out the error's field -/
def xret (m : Bool) (k : Nat) (s : List Nat) (d : D) (σ : Env) (st : Store) : Out := if k = 0 then (mk m [.str s, d] st).out σ fun y st => .rt y st else if k = 1 then .rt (.tup [.str s, d]) st else .rt d st
def forL (src : List Nat) (f : D → Env → Store → Out) : List D → Env → Store → Out
  | [], σ, st => .nx σ st
  | d :: ds, σ, st => match f d σ st with
    | .nx σ' st' => if src.all (fun n => st'[n]? == st[n]?) then forL src f ds σ' st' else .stuck
    | .ct σ' st' => if src.all (fun n => st'[n]? == st[n]?) then forL src f ds σ' st' else .stuck
    | .bk σ' st' => .nx σ' st'
    | o => o
def whileF (t : Env → Store → Res Bool) (f : Env → Store → Out) : Nat → Env → Store → Out
  | 0, _, _ => .stuck
  | n + 1, σ, st => (t σ st).out σ fun b st => if b then (match f σ st with
    | .nx σ' st' => whileF t f n σ' st'
    | .ct σ' st' => whileF t f n σ' st'
    | .bk σ' st' => .nx σ' st'
    | o => o) else .nx σ st
section
variable (Φ : Prog) (W : Nat)
mutual
def exec (cur : Option Exn) : S → Env → Store → Out
  | .asg t e, σ, st => (evalE Φ cur σ e st).out σ fun d st => (assign Φ cur σ t d st).out σ fun σ st => .nx σ st
  | .aug (.n i) o e, σ, st => match σ[i]? with
    | some (some x) => (evalE Φ cur σ e st).out σ fun y st => (augop o x y st).out σ fun d st => .nx (σ.set i (some d)) st
    | _ => .stuck
  | .aug (.at p f) o e, σ, st => (evalE Φ cur σ p st).out σ fun x st => match fieldOf Φ.noat st f x with
    | some a => (evalE Φ cur σ e st).out σ fun y st => (augop o a y st).out σ fun d st => (setFld Φ.noat x f d st).out σ fun _ st => .nx σ st
    | none => .stuck
  | .aug (.ix p i) o e, σ, st => (evalE Φ cur σ p st).out σ fun x st => (evalE Φ cur σ i st).out σ fun k st => (index x k st).out σ fun a st =>
      (evalE Φ cur σ e st).out σ fun y st => (augop o a y st).out σ fun d st => (setIx x k d st).out σ fun _ st => .nx σ st
  | .aug (.tup _) _ _, _, _ => .stuck
  | .ex e, σ, st => (evalE Φ cur σ e st).out σ fun _ st => .nx σ st
  | .ret e, σ, st => (evalE Φ cur σ e st).out σ fun d st => .rt d st
  | .ife c a b, σ, st => (evalT Φ cur σ c st).out σ fun t st => if t then execs cur a σ st else execs cur b σ st
  | .whl c b, σ, st => whileF (fun σ st => evalT Φ cur σ c st) (fun σ st => execs cur b σ st) W σ st
  | .forr t it b, σ, st => (evalI Φ cur σ it st).out σ fun p st => forL p.2 (fun d σ st => (assign Φ cur σ t d st).out σ fun σ st => execs cur b σ st) p.1 σ st
  | .brk, σ, st => .bk σ st
  | .cont, σ, st => .ct σ st
  | .pass, σ, st => .nx σ st
  | .raise c as, σ, st => (evalEs Φ cur σ as st).out σ fun xs st => match xs with
    | [] => .ex ⟨c, "", .non⟩ σ st
    | [x] => .ex ⟨c, Φ.fldOf c, x⟩ σ st
    | _ => .stuck
  | .tryc b hs, σ, st => match execs cur b σ st with
    | .ex x σ st => handle hs x σ st
    | o => o
def execs (cur : Option Exn) : List S → Env → Store → Out
  | [], σ, st => .nx σ st
  | s :: r, σ, st => (exec cur s σ st).seq fun σ st => execs cur r σ st
def handle : List H → Exn → Env → Store → Out
  | [], x, σ, st => .ex x σ st
  | .v c i m k s f :: r, x, σ, st => if Φ.xc.contains x.cls && Φ.xc.contains c then (if Φ.exc x.cls c then (if x.fld = f && Φ.fldOf x.cls = f && f != "" && decide (i < σ.length) then xret m k s x.val (σ.set i none) st else .stuck) else handle r x σ st) else .stuck
  | .h [c] none b :: r, x, σ, st => if Φ.xc.contains x.cls && Φ.xc.contains c then (if Φ.exc x.cls c then (execs (some x) b σ st).noex else handle r x σ st) else .stuck
  | .h _ _ _ :: _, _, _, _ => .stuck
end
end

/-! ### defs -/
mutual
def refsD (k : Nat) : D → Bool
  | .ref n => decide (n < k)
  | .tup xs | .frz xs => refsL k xs
  | .frd kvs => refsK k kvs
  | _ => true
def refsL (k : Nat) : List D → Bool
  | [] => true
  | x :: xs => refsD k x && refsL k xs
def refsK (k : Nat) : List (D × D) → Bool
  | [] => true
  | (_, y) :: xs => refsD k y && refsK k xs
end
def refsO (k : Nat) : SO → Bool
  | .lst xs => refsL k xs
  | .dic kvs => refsK k kvs
  | .ins _ fs => fs.all fun p => refsD k p.2
/-- what a def has left of the things that stood before it names none of its own -/
def oldOK (k : Nat) : Store → Store → Bool
  | [], _ => true
  | o :: r, o' :: r' => (decide (o' = o) || refsO k o') && oldOK k r r'
  | _, _ => false
mutual
def fzD (g : Nat → D) : D → D
  | .ref n => g n
  | .tup xs => .tup (fzDs g xs)
  | .frz xs => .frz (fzDs g xs)
  | d => d
def fzDs (g : Nat → D) : List D → List D
  | [] => []
  | x :: xs => fzD g x :: fzDs g xs
end
def fzKs (g : Nat → D) : List (D × D) → List (D × D)
  | [] => []
  | (q, x) :: r => (q, fzD g x) :: fzKs g r
/-- its own lists, dicts are given out as data -/
def fz (k : Nat) (st : Store) : Nat → D → D
  | 0, d => d
  | f + 1, d => fzD (fun n => if k ≤ n then (match st[n]? with
    | some (.lst xs) => .frz (fzDs (fun n => fz k st f (.ref n)) xs)
    | some (.dic kvs) => .frd (fzKs (fun n => fz k st f (.ref n)) kvs)
    | _ => .ref n) else .ref n) d
def gc (frz : Bool) (st₀ st : Store) (d : D) : D × Store :=
  let d' := if frz then fz st₀.length st 4 d else d
  if refsD st₀.length d' && oldOK st₀.length st₀ st then (d', st.take st₀.length) else (d, st)
def finish (frz : Bool) (st₀ : Store) : Out → Res D
  | .rt d st => let p := gc frz st₀ st d; .ok p.1 p.2
  | .nx _ st => let p := gc frz st₀ st .non; .ok p.1 p.2
  | .ex x _ st => let p := gc frz st₀ st (if x.fld = "" then .non else x.val); .exn ⟨x.cls, x.fld, p.1⟩ p.2
  | _ => .stuck
structure Fn where
  params : List String
  slots : Nat
  dfl : List (String × D) := []
  frz : Bool := true
  body : List S
  deriving Inhabited
/-- positional values, then keywords, then defaults -/
def bindP {α : Type} : List String → List α → List (String × α) → List (String × α) → Option (List α)
  | [], [], _, _ => some []
  | [], _ :: _, _, _ => none
  | _ :: ps, x :: xs, ks, df => (bindP ps xs ks df).map (x :: ·)
  | p :: ps, [], ks, df => match (ks.lookup p).or (df.lookup p) with
    | some v => (bindP ps [] ks df).map (v :: ·)
    | none => none
structure Tab where
  fns : List ((String × String) × Fn)
  globs : List (String × D)
  excs : List (String × List String)
  flds : List (String × String)
  rep : D → Option (List Nat)
  cls : List String
  noats : List (String × String)
def Tab.prog (P : Tab) (call : String → String → List D → List (String × D) → Store → Res D) : Prog :=
  ⟨call, fun x => P.globs.lookup x, fun a b => a == b || ((P.excs.lookup a).getD []).contains b, fun c => (P.flds.lookup c).getD "", P.rep, P.cls, fun c f => P.noats.contains (c, f), fun c m => c != "" && (P.fns.lookup (c, m)).isSome, P.excs.map (·.1)⟩
def startE (n : Nat) (vs : List D) : Env := vs.map some ++ List.replicate (n - vs.length) none
/-- a def's body, at its parameters' values -/
def bodyR (Φ : Prog) (W : Nat) (fn : Fn) (vs : List D) (st : Store) : Res D := finish fn.frz st (execs Φ W none fn.body (startE fn.slots vs) st)
def callN (P : Tab) (W : Nat) : Nat → String → String → List D → List (String × D) → Store → Res D
  | 0, _, _, _, _, _ => .stuck
  | n + 1, c, f, xs, ks, st => match P.fns.lookup (c, f) with
    | none => .stuck
    | some fn => match bindP fn.params xs ks fn.dfl with
      | none => .stuck
      | some vs => bodyR (P.prog (callN P W n)) W fn vs st
end PV
set_option Elab.async false
set_option linter.all false
set_option maxRecDepth 100000
set_option maxHeartbeats 4000000
/-! PvRel: how the evaluator's data and store stand in the layer's abstract heap. -/
namespace PV
open PySem L2

/-- a text -/
abbrev tx (s : List Nat) : Str := ⟨s.toArray⟩
/-- where the live things stand; what is in the making -/
structure Lc where
  at_ : Nat → Option Addr
  hid : Addr → Prop
instance : CoeFun Lc fun _ => Nat → Option Addr := ⟨Lc.at_⟩
/-- no live thing of the store stands there; nothing in the making -/
def NotL (ρ : Lc) (k : Nat) (a : Addr) : Prop := ∀ n, n < k → ρ n ≠ some a
def Off (ρ : Lc) (k : Nat) (a : Addr) : Prop := ¬ ρ.hid a ∧ NotL ρ k a
/-- a key -/
def keyD : D → Option Key
  | .int i => some (.inl i)
  | .str s => some (.inr (tx s))
  | _ => none

section
variable (K : PySem.W.Frag) (w : World)
/-- a dict's entries -/
def EsR : List DictEntry → List (Key × V) → Prop
  | [], kv => kv = []
  | e :: es, kv => ∃ κ v r, kv = (κ, v) :: r ∧ keyIs κ e.key = true ∧ RelV v e.val ∧ EsR es r
/-- a written dict's answer -/
def WGet (a : Addr) (kvs : List (D × V)) : Prop := (∃ es n, KDict K w a es n ∧ ∃ kv, EsR es.toList kv ∧ kv.map (fun p => (some p.1, p.2)) = kvs.map (fun p => (keyD p.1, p.2))) ∧ ∀ z : List Nat, ∃ r, PySem.W.nsIn K a (tx z) = some r ∧
  match (kvs.find? fun p => eqF p.1 (.str z)).map (·.2) with
  | none => r = none
  | some v => ∃ u, r = some u ∧ RelV v u
/-- a written tuple -/
def KTup (a : Addr) (ys : List V) : Prop := ∃ (o : Obj) (its : Array Value) (n : Nat), K.lookup a = some o ∧ o.cls = .type "tuple" ∧ o.data = .seq its n ∧ its.size ≤ sizeLine ∧ Vals ys its.toList
/-- the script, where it is one of the module's own lists -/
def KScr (a : Addr) (ns : List Int) : Prop := ∃ (o : Obj) (its : Array Value) (n : Nat), K.lookup a = some o ∧ o.cls = .type "list" ∧ o.dict = none ∧ o.data = .seq its n ∧ its.size ≤ sizeLine ∧ Vals (ns.map V.int) its.toList
mutual
def RV (ρ : Lc) (k : Nat) (H : Hp) : D → V → Prop
  | .non, v => v = .non
  | .bl b, v => v = .bl b
  | .int i, v => v = .int i
  | .str s, v => v = .str (tx s)
  | .tup xs, v => ∃ a ys, v = .ref a ∧ ((H a = some (.tup ys) ∧ Off ρ k a) ∨ KTup K a ys) ∧ RVs ρ k H xs ys
  | .frz xs, v => ∃ a ys, v = .ref a ∧ H a = some (.lst ys) ∧ Off ρ k a ∧ RVs ρ k H xs ys
  | .scr ns, v => ∃ a, v = .ref a ∧ ((∃ o, H a = some (.frz o (.lst (ns.map V.int))) ∧ Off ρ k a) ∨ KScr K a ns)
  | .frd kvs, v => ∃ a ws, v = .ref a ∧ ((∃ kv, H a = some (.dK kv) ∧ Off ρ k a ∧ kv.map (fun p => (some p.1, p.2)) = ws.map (fun p => (keyD p.1, p.2))) ∨ WGet K w a ws) ∧ RKs ρ k H kvs ws
  | .ref n, v => ∃ a, v = .ref a ∧ n < k ∧ ρ n = some a
def RVs (ρ : Lc) (k : Nat) (H : Hp) : List D → List V → Prop
  | [], vs => vs = []
  | d :: ds, vs => ∃ v r, vs = v :: r ∧ RV ρ k H d v ∧ RVs ρ k H ds r
def RKs (ρ : Lc) (k : Nat) (H : Hp) : List (D × D) → List (D × V) → Prop
  | [], vs => vs = []
  | (q, d) :: ds, vs => ∃ v r, vs = (q, v) :: r ∧ RV ρ k H d v ∧ RKs ρ k H ds r
end
/-- what a step may do: the store's own things change, new ones come, all else stands -/
structure Ext (ρ : Lc) (k : Nat) (H : Hp) (ρ' : Lc) (k' : Nat) (H' : Hp) : Prop where
  hid : ρ'.hid = ρ.hid
  le : k ≤ k'
  same : ∀ n, n < k → ρ' n = ρ n
  keep : ∀ a o, H a = some o → NotL ρ k a → H' a = some o
  new : ∀ n a, k ≤ n → n < k' → ρ' n = some a → H a = none
  there : ∀ a o, H a = some o → ∃ o', H' a = some o'
variable {K w}
variable {ρ ρ' ρ'' : Lc} {k k' k'' : Nat} {H H' H'' : Hp}
theorem Ext.refl : Ext ρ k H ρ k H := ⟨rfl, Nat.le_refl _, fun _ _ => rfl, fun _ _ h _ => h, fun _ _ h1 h2 _ => absurd h2 (Nat.not_lt.mpr h1), fun _ o h => ⟨o, h⟩⟩
theorem Ext.nl (e : Ext ρ k H ρ' k' H') {a : Addr} {o : HO} (h : H a = some o) (f : NotL ρ k a) : NotL ρ' k' a := fun n hn z => by
  by_cases hk : n < k
  · rw [e.same n hk] at z
    exact f n hk z
  · rw [e.new n a (Nat.not_lt.mp hk) hn z] at h
    cases h
theorem Ext.off (e : Ext ρ k H ρ' k' H') {a : Addr} {o : HO} (h : H a = some o) (f : Off ρ k a) : Off ρ' k' a := ⟨fun z => f.1 (by rw [← e.hid]; exact z), fun n hn z => by
  by_cases hk : n < k
  · rw [e.same n hk] at z
    exact f.2 n hk z
  · rw [e.new n a (Nat.not_lt.mp hk) hn z] at h
    cases h⟩
theorem Ext.trans (a : Ext ρ k H ρ' k' H') (b : Ext ρ' k' H' ρ'' k'' H'') : Ext ρ k H ρ'' k'' H'' where
  hid := b.hid.trans a.hid
  le := Nat.le_trans a.le b.le
  same := fun n hn => (b.same n (Nat.lt_of_lt_of_le hn a.le)).trans (a.same n hn)
  keep := fun c o h f => b.keep c o (a.keep c o h f) (a.nl h f)
  new := fun n c h1 h2 z => by
    by_cases hk : n < k'
    · rw [b.same n hk] at z
      exact a.new n c h1 hk z
    · have q := b.new n c (Nat.not_lt.mp hk) h2 z
      cases e : H c with
      | none => rfl
      | some o =>
        obtain ⟨o', e'⟩ := a.there c o e
        rw [q] at e'
        cases e'
  there := fun c o h => by
    obtain ⟨o', h'⟩ := a.there c o h
    exact b.there c o' h'
mutual
theorem RV.mono (e : Ext ρ k H ρ' k' H') : ∀ {d : D} {v : V}, RV K w ρ k H d v → RV K w ρ' k' H' d v
  | .non, _, h => by simpa only [RV] using h
  | .bl _, _, h => by simpa only [RV] using h
  | .int _, _, h => by simpa only [RV] using h
  | .str _, _, h => by simpa only [RV] using h
  | .tup xs, _, h => by
    simp only [RV] at h ⊢
    obtain ⟨a, ys, rfl, h1, h2⟩ := h
    refine ⟨a, ys, rfl, ?_, RVs.mono e h2⟩
    rcases h1 with ⟨h1, f⟩ | h1
    · exact .inl ⟨e.keep a _ h1 f.2, e.off h1 f⟩
    · exact .inr h1
  | .frz xs, _, h => by
    simp only [RV] at h ⊢
    obtain ⟨a, ys, rfl, h1, f, h2⟩ := h
    exact ⟨a, ys, rfl, e.keep a _ h1 f.2, e.off h1 f, RVs.mono e h2⟩
  | .scr ns, _, h => by
    simp only [RV] at h ⊢
    obtain ⟨a, rfl, ⟨o, h1, f⟩ | h1⟩ := h
    · exact ⟨a, rfl, .inl ⟨o, e.keep a _ h1 f.2, e.off h1 f⟩⟩
    · exact ⟨a, rfl, .inr h1⟩
  | .frd kvs, _, h => by
    simp only [RV] at h ⊢
    obtain ⟨a, ws, rfl, h1, h2⟩ := h
    refine ⟨a, ws, rfl, ?_, RKs.mono e h2⟩
    rcases h1 with ⟨kv, h1, f, h3⟩ | h1
    · exact .inl ⟨kv, e.keep a _ h1 f.2, e.off h1 f, h3⟩
    · exact .inr h1
  | .ref n, _, h => by
    simp only [RV] at h ⊢
    obtain ⟨a, rfl, h1, h2⟩ := h
    exact ⟨a, rfl, Nat.lt_of_lt_of_le h1 e.le, (e.same n h1).trans h2⟩
theorem RVs.mono (e : Ext ρ k H ρ' k' H') : ∀ {ds : List D} {vs : List V}, RVs K w ρ k H ds vs → RVs K w ρ' k' H' ds vs
  | [], _, h => by simpa only [RVs] using h
  | d :: ds, _, h => by
    simp only [RVs] at h ⊢
    obtain ⟨v, r, rfl, h1, h2⟩ := h
    exact ⟨v, r, rfl, RV.mono e h1, RVs.mono e h2⟩
theorem RKs.mono (e : Ext ρ k H ρ' k' H') : ∀ {ds : List (D × D)} {vs : List (D × V)}, RKs K w ρ k H ds vs → RKs K w ρ' k' H' ds vs
  | [], _, h => by simpa only [RKs] using h
  | (q, d) :: ds, _, h => by
    simp only [RKs] at h ⊢
    obtain ⟨v, r, rfl, h1, h2⟩ := h
    exact ⟨v, r, rfl, RV.mono e h1, RKs.mono e h2⟩
end
mutual
/-- the same data elsewhere -/
theorem RV.map (hk : ∀ n, n < k → n < k' ∧ ρ' n = ρ n) (hf : ∀ a o, H a = some o → Off ρ k a → H' a = some o ∧ Off ρ' k' a) : ∀ {d : D} {v : V}, RV K w ρ k H d v → RV K w ρ' k' H' d v
  | .non, _, h => by simpa only [RV] using h
  | .bl _, _, h => by simpa only [RV] using h
  | .int _, _, h => by simpa only [RV] using h
  | .str _, _, h => by simpa only [RV] using h
  | .tup xs, _, h => by
    simp only [RV] at h ⊢
    obtain ⟨a, ys, rfl, h1, h2⟩ := h
    refine ⟨a, ys, rfl, ?_, RVs.map hk hf h2⟩
    rcases h1 with ⟨h1, f⟩ | h1
    · exact .inl (hf a _ h1 f)
    · exact .inr h1
  | .frz xs, _, h => by
    simp only [RV] at h ⊢
    obtain ⟨a, ys, rfl, h1, f, h2⟩ := h
    exact ⟨a, ys, rfl, (hf a _ h1 f).1, (hf a _ h1 f).2, RVs.map hk hf h2⟩
  | .scr ns, _, h => by
    simp only [RV] at h ⊢
    obtain ⟨a, rfl, ⟨o, h1, f⟩ | h1⟩ := h
    · exact ⟨a, rfl, .inl ⟨o, (hf a _ h1 f).1, (hf a _ h1 f).2⟩⟩
    · exact ⟨a, rfl, .inr h1⟩
  | .frd kvs, _, h => by
    simp only [RV] at h ⊢
    obtain ⟨a, ws, rfl, h1, h2⟩ := h
    refine ⟨a, ws, rfl, ?_, RKs.map hk hf h2⟩
    rcases h1 with ⟨kv, h1, f, h3⟩ | h1
    · exact .inl ⟨kv, (hf a _ h1 f).1, (hf a _ h1 f).2, h3⟩
    · exact .inr h1
  | .ref n, _, h => by
    simp only [RV] at h ⊢
    obtain ⟨a, rfl, h1, h2⟩ := h
    exact ⟨a, rfl, (hk n h1).1, (hk n h1).2.trans h2⟩
theorem RVs.map (hk : ∀ n, n < k → n < k' ∧ ρ' n = ρ n) (hf : ∀ a o, H a = some o → Off ρ k a → H' a = some o ∧ Off ρ' k' a) : ∀ {ds : List D} {vs : List V}, RVs K w ρ k H ds vs → RVs K w ρ' k' H' ds vs
  | [], _, h => by simpa only [RVs] using h
  | d :: ds, _, h => by
    simp only [RVs] at h ⊢
    obtain ⟨v, r, rfl, h1, h2⟩ := h
    exact ⟨v, r, rfl, RV.map hk hf h1, RVs.map hk hf h2⟩
theorem RKs.map (hk : ∀ n, n < k → n < k' ∧ ρ' n = ρ n) (hf : ∀ a o, H a = some o → Off ρ k a → H' a = some o ∧ Off ρ' k' a) : ∀ {ds : List (D × D)} {vs : List (D × V)}, RKs K w ρ k H ds vs → RKs K w ρ' k' H' ds vs
  | [], _, h => by simpa only [RKs] using h
  | (q, d) :: ds, _, h => by
    simp only [RKs] at h ⊢
    obtain ⟨v, r, rfl, h1, h2⟩ := h
    exact ⟨v, r, rfl, RV.map hk hf h1, RKs.map hk hf h2⟩
end
mutual
/-- fewer live things -/
theorem RV.shrink (hk : ∀ n, n < k → n < k' ∧ ρ' n = ρ n) (hh : ρ'.hid = ρ.hid) : ∀ {d : D} {v : V}, refsD k d = true → RV K w ρ' k' H d v → RV K w ρ k H d v
  | .non, _, _, h => by simpa only [RV] using h
  | .bl _, _, _, h => by simpa only [RV] using h
  | .int _, _, _, h => by simpa only [RV] using h
  | .str _, _, _, h => by simpa only [RV] using h
  | .tup xs, _, r, h => by
    simp only [RV] at h ⊢
    simp only [refsD] at r
    obtain ⟨a, ys, rfl, h1, h2⟩ := h
    refine ⟨a, ys, rfl, ?_, RVs.shrink hk hh r h2⟩
    rcases h1 with ⟨h1, f⟩ | h1
    · exact .inl ⟨h1, fun z => f.1 (by rw [hh]; exact z), fun n hn z => f.2 n (hk n hn).1 ((hk n hn).2.trans z)⟩
    · exact .inr h1
  | .frz xs, _, r, h => by
    simp only [RV] at h ⊢
    simp only [refsD] at r
    obtain ⟨a, ys, rfl, h1, f, h2⟩ := h
    exact ⟨a, ys, rfl, h1, ⟨fun z => f.1 (by rw [hh]; exact z), fun n hn z => f.2 n (hk n hn).1 ((hk n hn).2.trans z)⟩, RVs.shrink hk hh r h2⟩
  | .scr ns, _, _, h => by
    simp only [RV] at h ⊢
    obtain ⟨a, rfl, ⟨o, h1, f⟩ | h1⟩ := h
    · exact ⟨a, rfl, .inl ⟨o, h1, fun z => f.1 (by rw [hh]; exact z), fun n hn z => f.2 n (hk n hn).1 ((hk n hn).2.trans z)⟩⟩
    · exact ⟨a, rfl, .inr h1⟩
  | .frd kvs, _, r, h => by
    simp only [RV] at h ⊢
    simp only [refsD] at r
    obtain ⟨a, ws, rfl, h1, h2⟩ := h
    refine ⟨a, ws, rfl, ?_, RKs.shrink hk hh r h2⟩
    rcases h1 with ⟨kv, h1, f, h3⟩ | h1
    · exact .inl ⟨kv, h1, ⟨fun z => f.1 (by rw [hh]; exact z), fun n hn z => f.2 n (hk n hn).1 ((hk n hn).2.trans z)⟩, h3⟩
    · exact .inr h1
  | .ref n, _, r, h => by
    simp only [RV] at h ⊢
    simp only [refsD, decide_eq_true_eq] at r
    obtain ⟨a, rfl, h1, h2⟩ := h
    exact ⟨a, rfl, r, (hk n r).2.symm.trans h2⟩
theorem RVs.shrink (hk : ∀ n, n < k → n < k' ∧ ρ' n = ρ n) (hh : ρ'.hid = ρ.hid) : ∀ {ds : List D} {vs : List V}, refsL k ds = true → RVs K w ρ' k' H ds vs → RVs K w ρ k H ds vs
  | [], _, _, h => by simpa only [RVs] using h
  | d :: ds, _, r, h => by
    simp only [RVs] at h ⊢
    simp only [refsL, Bool.and_eq_true] at r
    obtain ⟨v, q, rfl, h1, h2⟩ := h
    exact ⟨v, q, rfl, RV.shrink hk hh r.1 h1, RVs.shrink hk hh r.2 h2⟩
theorem RKs.shrink (hk : ∀ n, n < k → n < k' ∧ ρ' n = ρ n) (hh : ρ'.hid = ρ.hid) : ∀ {ds : List (D × D)} {vs : List (D × V)}, refsK k ds = true → RKs K w ρ' k' H ds vs → RKs K w ρ k H ds vs
  | [], _, _, h => by simpa only [RKs] using h
  | (q, d) :: ds, _, r, h => by
    simp only [RKs] at h ⊢
    simp only [refsK, Bool.and_eq_true] at r
    obtain ⟨v, q, rfl, h1, h2⟩ := h
    exact ⟨v, q, rfl, RV.shrink hk hh r.1 h1, RKs.shrink hk hh r.2 h2⟩
end
mutual
/-- what stands among k live things names none behind them (keys apart) -/
theorem RV.refs : ∀ {d : D} {v : V}, RV K w ρ k H d v → refsD k d = true
  | .non, _, _ => by simp [refsD]
  | .bl _, _, _ => by simp [refsD]
  | .int _, _, _ => by simp [refsD]
  | .str _, _, _ => by simp [refsD]
  | .scr _, _, _ => by simp [refsD]
  | .tup xs, _, h => by
    simp only [RV] at h
    simp only [refsD]
    obtain ⟨_, _, _, _, h2⟩ := h
    exact RVs.refs h2
  | .frz xs, _, h => by
    simp only [RV] at h
    simp only [refsD]
    obtain ⟨_, _, _, _, _, h2⟩ := h
    exact RVs.refs h2
  | .frd kvs, _, h => by
    simp only [RV] at h
    simp only [refsD]
    obtain ⟨_, _, _, _, h2⟩ := h
    exact RKs.refs h2
  | .ref n, _, h => by
    simp only [RV] at h
    obtain ⟨_, _, h1, _⟩ := h
    simpa [refsD] using h1
theorem RVs.refs : ∀ {ds : List D} {vs : List V}, RVs K w ρ k H ds vs → refsL k ds = true
  | [], _, _ => by simp [refsL]
  | d :: ds, _, h => by
    simp only [RVs] at h
    obtain ⟨_, _, _, h1, h2⟩ := h
    simp only [refsL, Bool.and_eq_true]
    exact ⟨RV.refs h1, RVs.refs h2⟩
theorem RKs.refs : ∀ {ds : List (D × D)} {vs : List (D × V)}, RKs K w ρ k H ds vs → refsK k ds = true
  | [], _, _ => by simp [refsK]
  | (q, d) :: ds, _, h => by
    simp only [RKs] at h
    obtain ⟨_, _, _, h1, h2⟩ := h
    simp only [refsK, Bool.and_eq_true]
    exact ⟨RV.refs h1, RKs.refs h2⟩
end
end
theorem RV.script {K : PySem.W.Frag} {w : World} {ρ : Lc} {k : Nat} {H : Hp} {ns : List Int} {v : V} (h : RV K w ρ k H (.scr ns) v) : ∃ a, v = .ref a ∧ SqL K H a (ns.map V.int) := by
  simp only [RV] at h
  obtain ⟨a, rfl, ⟨o, h1, _⟩ | h1⟩ := h
  · exact ⟨a, rfl, .inl (.inr ⟨o, h1⟩)⟩
  · exact ⟨a, rfl, .inr h1⟩
end PV
set_option Elab.async false
set_option linter.all false
set_option maxRecDepth 100000
set_option maxHeartbeats 4000000
/-! PvSim: the store stands in the abstract heap; steps. -/
namespace PV
open PySem L2

/-! ### names -/
theorem nm_inj {a b : String} (h : Str.ofString a = Str.ofString b) : a = b := by
  rw [Str.ofString_eq_toList, Str.ofString_eq_toList] at h
  have h1 : a.toList.map Char.toNat = b.toList.map Char.toNat := by simpa using h
  have h2 : a.toList = b.toList := (List.map_inj_right fun x y e => Char.ext (UInt32.toNat_inj.mp e)).mp h1
  exact String.toList_inj.mp h2
theorem nm_beq (a b : String) : (Str.ofString a == Str.ofString b) = (a == b) := by
  by_cases h : a = b
  · subst h; simp
  · rw [beq_eq_false_iff_ne.mpr h, beq_eq_false_iff_ne.mpr fun e => h (nm_inj e)]

section
variable (K : PySem.W.Frag) (w : World)
def RFs (ρ : Lc) (k : Nat) (H : Hp) : List (String × D) → List (Str × V) → Prop
  | [], vs => vs = []
  | (f, d) :: ds, vs => ∃ v r, vs = (Str.ofString f, v) :: r ∧ RV K w ρ k H d v ∧ RFs ρ k H ds r
/-- a changeable dict's pairs -/
def RDs (ρ : Lc) (k : Nat) (H : Hp) : List (D × D) → List (Key × V) → Prop
  | [], vs => vs = []
  | (q, d) :: ds, vs => ∃ key v r, vs = (key, v) :: r ∧ keyD q = some key ∧ RV K w ρ k H d v ∧ RDs ρ k H ds r
def RO (ρ : Lc) (k : Nat) (H : Hp) (a : Addr) : SO → Prop
  | .lst xs => ∃ ys, H a = some (.lst ys) ∧ RVs K w ρ k H xs ys
  | .dic kvs => ∃ ws, H a = some (.dK ws) ∧ RDs K w ρ k H kvs ws
  | .ins c fs => ∃ dx fv, H a = some (.ins (He.ga K (Str.ofString c)) dx fv) ∧ RFs K w ρ k H fs fv
structure Sim (ρ : Lc) (k : Nat) (H : Hp) (st : Store) : Prop where
  len : st.length = k
  at_ : ∀ n o, st[n]? = some o → ∃ a, ρ n = some a ∧ RO K w ρ k H a o
  inj : ∀ m n a, m < k → n < k → ρ m = some a → ρ n = some a → m = n
  hidS : ∀ a, ρ.hid a → ∃ o, H a = some o
/-- the frame's slots -/
def EnvR (ρ : Lc) (k : Nat) (H : Hp) (σ : Env) (τ : St) : Prop :=
  σ.length = τ.length ∧ ∀ (i : Nat) d, σ[i]? = some (some d) → ∃ v, τ[i]? = some (some v) ∧ RV K w ρ k H d v
end
section
variable {K : PySem.W.Frag} {w : World} {ρ ρ' : Lc} {k k' : Nat} {H H' : Hp} {st : Store} {σ : Env} {τ : St}
theorem RFs.mono (e : Ext ρ k H ρ' k' H') : ∀ {fs : List (String × D)} {fv : List (Str × V)}, RFs K w ρ k H fs fv → RFs K w ρ' k' H' fs fv
  | [], _, h => h
  | (f, d) :: fs, _, h => by
    obtain ⟨v, r, rfl, h1, h2⟩ := h
    exact ⟨v, r, rfl, h1.mono e, RFs.mono e h2⟩
theorem RDs.mono (e : Ext ρ k H ρ' k' H') : ∀ {fs : List (D × D)} {fv : List (Key × V)}, RDs K w ρ k H fs fv → RDs K w ρ' k' H' fs fv
  | [], _, h => h
  | (f, d) :: fs, _, h => by
    obtain ⟨key, v, r, rfl, h0, h1, h2⟩ := h
    exact ⟨key, v, r, rfl, h0, h1.mono e, RDs.mono e h2⟩
theorem EnvR.mono (h : EnvR K w ρ k H σ τ) (e : Ext ρ k H ρ' k' H') : EnvR K w ρ' k' H' σ τ :=
  ⟨h.1, fun i d q => let ⟨v, h1, h2⟩ := h.2 i d q; ⟨v, h1, h2.mono e⟩⟩
theorem RFs.map (hk : ∀ n, n < k → n < k' ∧ ρ' n = ρ n) (hf : ∀ a o, H a = some o → Off ρ k a → H' a = some o ∧ Off ρ' k' a) : ∀ {fs : List (String × D)} {fv : List (Str × V)}, RFs K w ρ k H fs fv → RFs K w ρ' k' H' fs fv
  | [], _, h => h
  | (f, d) :: fs, _, h => by
    obtain ⟨v, r, rfl, h1, h2⟩ := h
    exact ⟨v, r, rfl, RV.map hk hf h1, RFs.map hk hf h2⟩
theorem RDs.map (hk : ∀ n, n < k → n < k' ∧ ρ' n = ρ n) (hf : ∀ a o, H a = some o → Off ρ k a → H' a = some o ∧ Off ρ' k' a) : ∀ {fs : List (D × D)} {fv : List (Key × V)}, RDs K w ρ k H fs fv → RDs K w ρ' k' H' fs fv
  | [], _, h => h
  | (f, d) :: fs, _, h => by
    obtain ⟨key, v, r, rfl, h0, h1, h2⟩ := h
    exact ⟨key, v, r, rfl, h0, RV.map hk hf h1, RDs.map hk hf h2⟩
theorem RO.map (hk : ∀ n, n < k → n < k' ∧ ρ' n = ρ n) (hf : ∀ a o, H a = some o → Off ρ k a → H' a = some o ∧ Off ρ' k' a) {a : Addr} {o : SO} (h : RO K w ρ k H a o) (hs : H' a = H a) : RO K w ρ' k' H' a o := by
  cases o with
  | lst xs => obtain ⟨ys, h1, h2⟩ := h; exact ⟨ys, hs.trans h1, RVs.map hk hf h2⟩
  | dic kvs => obtain ⟨ys, h1, h2⟩ := h; exact ⟨ys, hs.trans h1, RDs.map hk hf h2⟩
  | ins c fs => obtain ⟨dx, ys, h1, h2⟩ := h; exact ⟨dx, ys, hs.trans h1, RFs.map hk hf h2⟩
theorem EnvR.map (hk : ∀ n, n < k → n < k' ∧ ρ' n = ρ n) (hf : ∀ a o, H a = some o → Off ρ k a → H' a = some o ∧ Off ρ' k' a) (h : EnvR K w ρ k H σ τ) : EnvR K w ρ' k' H' σ τ :=
  ⟨h.1, fun i d q => let ⟨v, h1, h2⟩ := h.2 i d q; ⟨v, h1, RV.map hk hf h2⟩⟩
theorem RO.there {a : Addr} {o : SO} (h : RO K w ρ k H a o) : ∃ u, H a = some u ∧ ∀ xs, u ≠ .tup xs := by
  cases o with
  | lst xs => obtain ⟨ys, h1, _⟩ := h; exact ⟨_, h1, fun _ => by intro z; cases z⟩
  | dic kvs => obtain ⟨ys, h1, _⟩ := h; exact ⟨_, h1, fun _ => by intro z; cases z⟩
  | ins c fs => obtain ⟨dx, ys, h1, _⟩ := h; exact ⟨_, h1, fun _ => by intro z; cases z⟩
theorem RO.shrink (hk : ∀ n, n < k → n < k' ∧ ρ' n = ρ n) (hh : ρ'.hid = ρ.hid) {a : Addr} {o : SO} (r : refsO k o = true) (h : RO K w ρ' k' H a o) : RO K w ρ k H a o := by
  cases o with
  | lst xs =>
    obtain ⟨ys, h1, h2⟩ := h
    exact ⟨ys, h1, RVs.shrink hk hh r h2⟩
  | dic kvs =>
    obtain ⟨ys, h1, h2⟩ := h
    refine ⟨ys, h1, ?_⟩
    have r' : refsK k kvs = true := r
    clear r h1
    induction kvs generalizing ys with
    | nil => exact h2
    | cons p r ih =>
      obtain ⟨q, d⟩ := p
      obtain ⟨key, v, rr, rfl, h0, h1, h3⟩ := h2
      simp only [refsK, Bool.and_eq_true] at r'
      exact ⟨key, v, rr, rfl, h0, RV.shrink hk hh r'.1 h1, ih _ h3 r'.2⟩
  | ins c fs =>
    obtain ⟨dx, ys, h1, h2⟩ := h
    refine ⟨dx, ys, h1, ?_⟩
    have r' : fs.all (fun p => refsD k p.2) = true := r
    clear r h1
    induction fs generalizing ys with
    | nil => exact h2
    | cons p r ih =>
      obtain ⟨q, d⟩ := p
      obtain ⟨v, rr, rfl, h1, h3⟩ := h2
      simp only [List.all_cons, Bool.and_eq_true] at r'
      exact ⟨v, rr, rfl, RV.shrink hk hh r'.1 h1, ih _ h3 r'.2⟩
theorem RO.refs {a : Addr} {o : SO} (h : RO K w ρ k H a o) : refsO k o = true := by
  cases o with
  | lst xs => obtain ⟨ys, _, h2⟩ := h; exact RVs.refs h2
  | dic kvs =>
    obtain ⟨ys, hh, h2⟩ := h
    clear hh
    show refsK k kvs = true
    induction kvs generalizing ys with
    | nil => rfl
    | cons p r ih =>
      obtain ⟨q, d⟩ := p
      obtain ⟨key, v, rr, rfl, h0, h1, h3⟩ := h2
      simp only [refsK, Bool.and_eq_true]
      exact ⟨h1.refs, ih _ h3⟩
  | ins c fs =>
    obtain ⟨dx, ys, hh, h2⟩ := h
    clear hh
    show fs.all (fun p => refsD k p.2) = true
    induction fs generalizing ys with
    | nil => rfl
    | cons p r ih =>
      obtain ⟨q, d⟩ := p
      obtain ⟨v, rr, rfl, h1, h3⟩ := h2
      simp only [List.all_cons, Bool.and_eq_true]
      exact ⟨h1.refs, ih _ h3⟩
theorem Sim.lt (s : Sim K w ρ k H st) {n : Nat} {o : SO} (h : st[n]? = some o) : n < k := by
  rw [← s.len]
  exact (List.getElem?_eq_some_iff.mp h).1
/-- an address where nothing stands is no live thing's -/
theorem Sim.off (s : Sim K w ρ k H st) {p : Addr} (hp : H p = none) : Off ρ k p := ⟨fun z => let ⟨o, e⟩ := s.hidS p z; (nomatch (hp.symm.trans e : none = some o)), fun n hn z => by
  have hn' : n < st.length := by rw [s.len]; exact hn
  obtain ⟨a, h1, h2⟩ := s.at_ n _ (List.getElem?_eq_getElem hn')
  rw [z] at h1
  cases h1
  obtain ⟨u, hu, _⟩ := h2.there
  rw [hp] at hu
  cases hu⟩
/-- a new thing that nobody changes -/
theorem Ext.alloc {p : Addr} {o : HO} (hp : H p = none) : Ext ρ k H ρ k (upd H p o) where
  hid := rfl
  le := Nat.le_refl _
  same := fun _ _ => rfl
  keep := fun a u h _ => by rw [upd_ne (ne_of_none h hp)]; exact h
  new := fun _ _ h1 h2 _ => absurd h2 (Nat.not_lt.mpr h1)
  there := fun a u h => ⟨u, by rw [upd_ne (ne_of_none h hp)]; exact h⟩
theorem Sim.there (s : Sim K w ρ k H st) {n : Nat} {a : Addr} (hn : n < k) (h : ρ n = some a) : ∃ u, H a = some u := by
  have hn' : n < st.length := by rw [s.len]; exact hn
  obtain ⟨b, h1, h2⟩ := s.at_ n _ (List.getElem?_eq_getElem hn')
  rw [h] at h1
  cases h1
  obtain ⟨u, hu, _⟩ := h2.there
  exact ⟨u, hu⟩
/-- things at their places, otherwise as a step has it -/
theorem RO.step (e : Ext ρ k H ρ' k' H') {a : Addr} {o : SO} (h : RO K w ρ k H a o) (hs : H' a = H a) : RO K w ρ' k' H' a o := by
  cases o with
  | lst xs => obtain ⟨ys, h1, h2⟩ := h; exact ⟨ys, hs.trans h1, h2.mono e⟩
  | dic kvs => obtain ⟨ys, h1, h2⟩ := h; exact ⟨ys, hs.trans h1, h2.mono e⟩
  | ins c fs => obtain ⟨dx, ys, h1, h2⟩ := h; exact ⟨dx, ys, hs.trans h1, h2.mono e⟩
theorem Sim.alloc (s : Sim K w ρ k H st) {p : Addr} {o : HO} (hp : H p = none) : Sim K w ρ k (upd H p o) st where
  len := s.len
  at_ := fun n u h => by
    obtain ⟨a, h1, h2⟩ := s.at_ n u h
    obtain ⟨x, hx, _⟩ := h2.there
    exact ⟨a, h1, h2.step (Ext.alloc hp) (upd_ne (ne_of_none hx hp))⟩
  inj := s.inj
  hidS := fun c z => (Ext.alloc (ρ := ρ) (k := k) hp).there c _ (s.hidS c z).choose_spec
/-- the n-th thing of the store is at p -/
def push (ρ : Lc) (k : Nat) (p : Addr) : Lc := ⟨fun n => if n = k then some p else ρ n, ρ.hid⟩
theorem push_new {p : Addr} : push ρ k p k = some p := if_pos rfl
theorem push_old {p : Addr} {n : Nat} (h : n < k) : push ρ k p n = ρ n := if_neg (Nat.ne_of_lt h)
theorem Ext.push {p : Addr} {o : HO} (hp : H p = none) : Ext ρ k H (push ρ k p) (k + 1) (upd H p o) where
  hid := rfl
  le := Nat.le_succ _
  same := fun n h => push_old h
  keep := fun a u h _ => by rw [upd_ne (ne_of_none h hp)]; exact h
  new := fun n a h1 h2 z => by
    have : n = k := by omega
    subst this
    rw [push_new] at z
    cases z
    exact hp
  there := fun a u h => ⟨u, by rw [upd_ne (ne_of_none h hp)]; exact h⟩
theorem Sim.push (s : Sim K w ρ k H st) {p : Addr} {o : HO} {u : SO} (hp : H p = none) (new : RO K w (push ρ k p) (k + 1) (upd H p o) p u) : Sim K w (push ρ k p) (k + 1) (upd H p o) (st ++ [u]) where
  len := by rw [List.length_append, s.len]; rfl
  at_ := fun n x h => by
    by_cases hn : n < st.length
    · rw [List.getElem?_append_left hn] at h
      obtain ⟨a, h1, h2⟩ := s.at_ n x h
      obtain ⟨y, hy, _⟩ := h2.there
      exact ⟨a, by rw [push_old (s.lt h)]; exact h1, h2.step (Ext.push hp) (upd_ne (ne_of_none hy hp))⟩
    · have hl := (List.getElem?_eq_some_iff.mp h).1
      rw [List.length_append] at hl
      have e : n = st.length := by simp at hl; omega
      subst e
      rw [List.getElem?_append_right (Nat.le_refl _), Nat.sub_self] at h
      cases h
      refine ⟨p, ?_, new⟩
      rw [s.len]
      exact push_new
  inj := fun m n a h1 h2 e1 e2 => by
    have no : ∀ j, j < k → ρ j = some p → False := fun j hj z => (s.off hp).2 j hj z
    by_cases hm : m < k
    · rw [push_old hm] at e1
      by_cases hn : n < k
      · rw [push_old hn] at e2
        exact s.inj m n a hm hn e1 e2
      · have : n = k := by omega
        subst this
        rw [push_new] at e2
        cases e2
        exact (no m hm e1).elim
    · have : m = k := by omega
      subst this
      rw [push_new] at e1
      cases e1
      by_cases hn : n < m
      · rw [push_old hn] at e2
        exact (no n hn e2).elim
      · omega
  hidS := fun c z => (Ext.push (ρ := ρ) (k := k) hp).there c _ (s.hidS c z).choose_spec
/-- the n-th thing is written -/
theorem Ext.write (s : Sim K w ρ k H st) {n : Nat} {a : Addr} {o : HO} (hn : n < k) (ha : ρ n = some a) : Ext ρ k H ρ k (upd H a o) where
  hid := rfl
  le := Nat.le_refl _
  same := fun _ _ => rfl
  keep := fun b u h f => by
    rw [upd_ne]
    · exact h
    · rintro rfl
      exact f n hn ha
  new := fun _ _ h1 h2 _ => absurd h2 (Nat.not_lt.mpr h1)
  there := fun b u h => by
    by_cases hb : b = a
    · exact ⟨o, by rw [hb, upd_same]⟩
    · exact ⟨u, by rw [upd_ne hb]; exact h⟩
theorem Sim.write (s : Sim K w ρ k H st) {n : Nat} {a : Addr} {o : HO} {u : SO} (hn : n < k) (ha : ρ n = some a) (new : RO K w ρ k (upd H a o) a u) : Sim K w ρ k (upd H a o) (st.set n u) where
  len := by rw [List.length_set]; exact s.len
  at_ := fun m x h => by
    by_cases hm : m = n
    · subst hm
      rw [List.getElem?_set_self (by rw [s.len]; exact hn)] at h
      cases h
      exact ⟨a, ha, new⟩
    · rw [List.getElem?_set_ne (Ne.symm hm)] at h
      obtain ⟨b, h1, h2⟩ := s.at_ m x h
      refine ⟨b, h1, h2.step (Ext.write s hn ha) (upd_ne ?_)⟩
      rintro rfl
      exact hm (s.inj m n b (s.lt h) hn h1 ha)
  inj := s.inj
  hidS := fun c z => (Ext.write s hn ha).there c _ (s.hidS c z).choose_spec
/-! ### a thing in the making -/
/-- D is in the making -/
def hide (ρ : Lc) (d : Addr) : Lc := ⟨ρ.at_, fun a => ρ.hid a ∨ a = d⟩
/-- it is made -/
def shown (ρ ρ0 : Lc) : Lc := ⟨ρ.at_, ρ0.hid⟩
theorem hide_map {d : Addr} {o : HO} (hd : H d = none) : ∀ a u, H a = some u → Off ρ k a → upd H d o a = some u ∧ Off (hide ρ d) k a := fun a u h f => by
  have ne := ne_of_none h hd
  exact ⟨by rw [upd_ne ne]; exact h, fun z => z.elim f.1 ne, f.2⟩
theorem Sim.hide (s : Sim K w ρ k H st) {d : Addr} {o : HO} (hd : H d = none) : Sim K w (hide ρ d) k (upd H d o) st where
  len := s.len
  at_ := fun n u h => by
    obtain ⟨a, h1, h2⟩ := s.at_ n u h
    obtain ⟨x, hx, _⟩ := h2.there
    exact ⟨a, h1, RO.map (ρ := ρ) (ρ' := PV.hide ρ d) (H' := upd H d o) (fun _ h => ⟨h, rfl⟩) (hide_map hd) h2 (upd_ne (ne_of_none hx hd))⟩
  inj := s.inj
  hidS := fun a z => by
    rcases z with z | z
    · obtain ⟨u, hu⟩ := s.hidS a z
      exact ⟨u, by rw [upd_ne (ne_of_none hu hd)]; exact hu⟩
    · exact ⟨o, by rw [z, upd_same]⟩
theorem shown_map {ρ0 : Lc} {d : Addr} (hh : ρ.hid = (PV.hide ρ0 d).hid) : ∀ a u, H a = some u → Off ρ k a → H a = some u ∧ Off (shown ρ ρ0) k a := fun a u h f =>
  ⟨h, fun z => f.1 (by rw [hh]; exact .inl z), f.2⟩
theorem Sim.shown (s : Sim K w ρ k H st) {ρ0 : Lc} {d : Addr} (hh : ρ.hid = (PV.hide ρ0 d).hid) : Sim K w (shown ρ ρ0) k H st where
  len := s.len
  at_ := fun n u h => by
    obtain ⟨a, h1, h2⟩ := s.at_ n u h
    exact ⟨a, h1, RO.map (ρ := ρ) (ρ' := PV.shown ρ ρ0) (H' := H) (fun _ h => ⟨h, rfl⟩) (shown_map hh) h2 rfl⟩
  inj := s.inj
  hidS := fun a z => s.hidS a (by rw [hh]; exact .inl z)
/-- a step while something is in the making -/
theorem Ext.under {ρ0 ρ'' : Lc} {k0 k'' : Nat} {H0 H'' : Hp} (e : Ext ρ0 k0 H0 (shown ρ ρ0) k H) (e' : Ext ρ k H ρ'' k'' H'') : Ext ρ0 k0 H0 (shown ρ'' ρ0) k'' H'' :=
  e.trans ⟨rfl, e'.le, e'.same, e'.keep, e'.new, e'.there⟩
/-- what is in the making is written -/
theorem Ext.make {ρ0 : Lc} {k0 : Nat} {H0 : Hp} {d : Addr} {o : HO} (e : Ext ρ0 k0 H0 ρ k H) (hd : H0 d = none) : Ext ρ0 k0 H0 ρ k (upd H d o) where
  hid := e.hid
  le := e.le
  same := e.same
  keep := fun a u h f => by rw [upd_ne (ne_of_none h hd)]; exact e.keep a u h f
  new := e.new
  there := fun a u h => by
    obtain ⟨x, hx⟩ := e.there a u h
    exact ⟨x, by rw [upd_ne (ne_of_none h hd)]; exact hx⟩
theorem make_map {d : Addr} {o : HO} (hd : ρ.hid d) : ∀ a u, H a = some u → Off ρ k a → upd H d o a = some u ∧ Off ρ k a := fun a u h f => by
  refine ⟨?_, f⟩
  rw [upd_ne]
  · exact h
  · rintro rfl
    exact f.1 hd
theorem Sim.make (s : Sim K w ρ k H st) {d : Addr} {o : HO} (hd : ρ.hid d) (nl : NotL ρ k d) : Sim K w ρ k (upd H d o) st where
  len := s.len
  at_ := fun n u h => by
    obtain ⟨a, h1, h2⟩ := s.at_ n u h
    refine ⟨a, h1, h2.map (fun _ h => ⟨h, rfl⟩) (make_map hd) (upd_ne ?_)⟩
    rintro rfl
    exact nl n (s.lt h) h1
  inj := s.inj
  hidS := fun a z => by
    by_cases e : a = d
    · exact ⟨o, by rw [e, upd_same]⟩
    · obtain ⟨u, hu⟩ := s.hidS a z
      exact ⟨u, by rw [upd_ne e]; exact hu⟩
end

/-! ### lists of data -/
section
variable {K : PySem.W.Frag} {w : World} {ρ : Lc} {k : Nat} {H : Hp}
theorem RVs.length : ∀ {ds : List D} {vs : List V}, RVs K w ρ k H ds vs → ds.length = vs.length
  | [], _, h => by simp only [RVs] at h; rw [h]; rfl
  | d :: ds, _, h => by
    simp only [RVs] at h
    obtain ⟨v, r, rfl, _, h2⟩ := h
    rw [List.length_cons, List.length_cons, RVs.length h2]
theorem RVs.nil : RVs K w ρ k H [] [] := by simp only [RVs]
theorem RVs.cons {d : D} {v : V} {ds : List D} {vs : List V} (h : RV K w ρ k H d v) (r : RVs K w ρ k H ds vs) : RVs K w ρ k H (d :: ds) (v :: vs) := by
  simp only [RVs]
  exact ⟨v, vs, rfl, h, r⟩
theorem RVs.uncons {d : D} {v : V} {ds : List D} {vs : List V} (h : RVs K w ρ k H (d :: ds) (v :: vs)) : RV K w ρ k H d v ∧ RVs K w ρ k H ds vs := by
  simp only [RVs] at h
  obtain ⟨v', r, e, h1, h2⟩ := h
  injection e with e1 e2
  subst e1 e2
  exact ⟨h1, h2⟩
theorem RVs.append : ∀ {ds es : List D} {vs us : List V}, RVs K w ρ k H ds vs → RVs K w ρ k H es us → RVs K w ρ k H (ds ++ es) (vs ++ us)
  | [], _, _, _, h, g => by simp only [RVs] at h; subst h; exact g
  | d :: ds, _, _, _, h, g => by
    simp only [RVs] at h
    obtain ⟨v, r, rfl, h1, h2⟩ := h
    exact .cons h1 (RVs.append h2 g)
theorem RVs.get : ∀ {ds : List D} {vs : List V} {i : Nat} {d : D}, RVs K w ρ k H ds vs → ds[i]? = some d → ∃ v, vs[i]? = some v ∧ RV K w ρ k H d v
  | [], _, _, _, _, e => by simp at e
  | d :: ds, _, i, x, h, e => by
    simp only [RVs] at h
    obtain ⟨v, r, rfl, h1, h2⟩ := h
    cases i with
    | zero => simp at e; subst e; exact ⟨v, rfl, h1⟩
    | succ i =>
      obtain ⟨u, hu, q⟩ := RVs.get (i := i) h2 (by simpa using e)
      exact ⟨u, by simpa using hu, q⟩
theorem RVs.getV : ∀ {ds : List D} {vs : List V} {i : Nat} {v : V}, RVs K w ρ k H ds vs → vs[i]? = some v → ∃ d, ds[i]? = some d ∧ RV K w ρ k H d v
  | [], _, _, _, h, e => by simp only [RVs] at h; subst h; simp at e
  | d :: ds, _, i, x, h, e => by
    simp only [RVs] at h
    obtain ⟨v, r, rfl, h1, h2⟩ := h
    cases i with
    | zero => simp at e; subst e; exact ⟨d, rfl, h1⟩
    | succ i =>
      obtain ⟨u, hu, q⟩ := RVs.getV (i := i) h2 (by simpa using e)
      exact ⟨u, by simpa using hu, q⟩
theorem RVs.drop : ∀ {ds : List D} {vs : List V} (n : Nat), RVs K w ρ k H ds vs → RVs K w ρ k H (ds.drop n) (vs.drop n)
  | _, _, 0, h => h
  | [], _, n + 1, h => by simp only [RVs] at h; subst h; exact .nil
  | d :: ds, _, n + 1, h => by
    simp only [RVs] at h
    obtain ⟨v, r, rfl, h1, h2⟩ := h
    exact RVs.drop n h2
theorem RVs.take : ∀ {ds : List D} {vs : List V} (n : Nat), RVs K w ρ k H ds vs → RVs K w ρ k H (ds.take n) (vs.take n)
  | _, _, 0, h => by simpa using RVs.nil
  | [], _, n + 1, h => by simp only [RVs] at h; subst h; simpa using RVs.nil
  | d :: ds, _, n + 1, h => by
    simp only [RVs] at h
    obtain ⟨v, r, rfl, h1, h2⟩ := h
    exact .cons h1 (RVs.take n h2)
theorem RVs.reverse : ∀ {ds : List D} {vs : List V}, RVs K w ρ k H ds vs → RVs K w ρ k H ds.reverse vs.reverse
  | [], _, h => by simp only [RVs] at h; subst h; simpa using RVs.nil
  | d :: ds, _, h => by
    simp only [RVs] at h
    obtain ⟨v, r, rfl, h1, h2⟩ := h
    simp only [List.reverse_cons]
    exact .append (RVs.reverse h2) (.cons h1 .nil)
theorem RVs.set : ∀ {ds : List D} {vs : List V} {d : D} {v : V} (i : Nat), RVs K w ρ k H ds vs → RV K w ρ k H d v → RVs K w ρ k H (ds.set i d) (vs.set i v)
  | [], _, _, _, _, h, _ => by simp only [RVs] at h; subst h; simpa using RVs.nil
  | x :: ds, _, d, v, i, h, g => by
    simp only [RVs] at h
    obtain ⟨u, r, rfl, h1, h2⟩ := h
    cases i with
    | zero => exact .cons g h2
    | succ i => exact .cons h1 (RVs.set i h2 g)
theorem RVs.dropLast {ds : List D} {vs : List V} (h : RVs K w ρ k H ds vs) : RVs K w ρ k H ds.dropLast vs.dropLast := by
  rw [List.dropLast_eq_take, List.dropLast_eq_take, h.length]
  exact h.take _
theorem RVs.flat : ∀ {n : Nat} {ds : List D} {vs : List V}, RVs K w ρ k H ds vs → RVs K w ρ k H (List.replicate n ds).flatten (List.replicate n vs).flatten
  | 0, _, _, _ => by simpa using RVs.nil
  | n + 1, _, _, h => by
    simp only [List.replicate_succ, List.flatten_cons]
    exact .append h (RVs.flat h)
theorem RVs.insertIdx : ∀ {ds : List D} {vs : List V} {d : D} {v : V} (i : Nat), RVs K w ρ k H ds vs → RV K w ρ k H d v → RVs K w ρ k H (ds.insertIdx i d) (vs.insertIdx i v)
  | ds, vs, d, v, 0, h, g => by simpa using RVs.cons g h
  | [], _, _, _, i + 1, h, _ => by simp only [RVs] at h; subst h; simpa using RVs.nil
  | x :: ds, _, d, v, i + 1, h, g => by
    simp only [RVs] at h
    obtain ⟨u, r, rfl, h1, h2⟩ := h
    simp only [List.insertIdx_succ_cons]
    exact .cons h1 (RVs.insertIdx i h2 g)
theorem RVs.ints : ∀ {ns : List Int} , RVs K w ρ k H (ns.map D.int) (ns.map V.int)
  | [] => .nil
  | n :: ns => .cons (by simp only [RV]) RVs.ints
theorem RVs.strs : ∀ {ds : List D} {vs : List V} {zs : List (List Nat)}, asS ds = some zs → RVs K w ρ k H ds vs → vs = zs.map fun z => V.str (tx z)
  | [], _, zs, e, h => by simp only [RVs] at h; simp only [asS, Option.some.injEq] at e; subst h e; rfl
  | .str x :: ds, _, zs, e, h => by
    simp only [asS, Option.map_eq_some_iff] at e
    obtain ⟨ys, e1, rfl⟩ := e
    simp only [RVs] at h
    obtain ⟨v, r, rfl, h1, h2⟩ := h
    simp only [RV] at h1
    rw [h1, RVs.strs e1 h2]; rfl
  | .non :: _, _, _, e, _ => by simp [asS] at e
  | .bl _ :: _, _, _, e, _ => by simp [asS] at e
  | .int _ :: _, _, _, e, _ => by simp [asS] at e
  | .tup _ :: _, _, _, e, _ => by simp [asS] at e
  | .frz _ :: _, _, _, e, _ => by simp [asS] at e
  | .scr _ :: _, _, _, e, _ => by simp [asS] at e
  | .frd _ :: _, _, _, e, _ => by simp [asS] at e
  | .ref _ :: _, _, _, e, _ => by simp [asS] at e
theorem RVs.bools : ∀ {ds : List D} {vs : List V} {zs : List Bool}, asB ds = some zs → RVs K w ρ k H ds vs → vs = zs.map V.bl
  | [], _, zs, e, h => by simp only [RVs] at h; simp only [asB, Option.some.injEq] at e; subst h e; rfl
  | .bl x :: ds, _, zs, e, h => by
    simp only [asB, Option.map_eq_some_iff] at e
    obtain ⟨ys, e1, rfl⟩ := e
    simp only [RVs] at h
    obtain ⟨v, r, rfl, h1, h2⟩ := h
    simp only [RV] at h1
    rw [h1, RVs.bools e1 h2]; rfl
  | .non :: _, _, _, e, _ => by simp [asB] at e
  | .str _ :: _, _, _, e, _ => by simp [asB] at e
  | .int _ :: _, _, _, e, _ => by simp [asB] at e
  | .tup _ :: _, _, _, e, _ => by simp [asB] at e
  | .frz _ :: _, _, _, e, _ => by simp [asB] at e
  | .scr _ :: _, _, _, e, _ => by simp [asB] at e
  | .frd _ :: _, _, _, e, _ => by simp [asB] at e
  | .ref _ :: _, _, _, e, _ => by simp [asB] at e
theorem RVs.intsOf : ∀ {ds : List D} {vs : List V} {zs : List Int}, asI ds = some zs → RVs K w ρ k H ds vs → vs = zs.map V.int
  | [], _, zs, e, h => by simp only [RVs] at h; simp only [asI, Option.some.injEq] at e; subst h e; rfl
  | .int x :: ds, _, zs, e, h => by
    simp only [asI, Option.map_eq_some_iff] at e
    obtain ⟨ys, e1, rfl⟩ := e
    simp only [RVs] at h
    obtain ⟨v, r, rfl, h1, h2⟩ := h
    simp only [RV] at h1
    rw [h1, RVs.intsOf e1 h2]; rfl
  | .non :: _, _, _, e, _ => by simp [asI] at e
  | .str _ :: _, _, _, e, _ => by simp [asI] at e
  | .bl _ :: _, _, _, e, _ => by simp [asI] at e
  | .tup _ :: _, _, _, e, _ => by simp [asI] at e
  | .frz _ :: _, _, _, e, _ => by simp [asI] at e
  | .scr _ :: _, _, _, e, _ => by simp [asI] at e
  | .frd _ :: _, _, _, e, _ => by simp [asI] at e
  | .ref _ :: _, _, _, e, _ => by simp [asI] at e
end
end PV
set_option Elab.async false
set_option linter.all false
set_option maxRecDepth 100000
set_option maxHeartbeats 4000000
/-! PvRun: what the evaluator finds, as a reading of the layer. -/
namespace PV
open PySem L2
section
variable (K : PySem.W.Frag) (w : World)
/-- a raised x: its class, its dict -/
def XnR (ρ : Lc) (k : Nat) (H : Hp) (x : Exn) (c : Value) (d : Option Addr) : Prop :=
  c = .ref (He.ga K (Str.ofString x.cls)) ∧ (x.fld = "" ∨ ∃ dd fs v, d = some dd ∧ H dd = some (.xd fs) ∧ Off ρ k dd ∧ fs.lookup (Str.ofString x.fld) = some v ∧ RV K w ρ k H x.val v)
/-- wherever a step has led, its end has R; what it raises is wished by W -/
def Run {α : Type} (ρ : Lc) (k : Nat) (H : Hp) (r : Res α) (R : α → Lc → Nat → Hp → Store → Prop) (W : XK) : Prop := match r with
  | .ok a st => ∀ ρ' k' H', Ext ρ k H ρ' k' H' → Sim K w ρ' k' H' st → R a ρ' k' H' st
  | .exn x st => ∀ ρ' k' H' c d, Ext ρ k H ρ' k' H' → Sim K w ρ' k' H' st → XnR K w ρ' k' H' x c d → W c d H'
  | .stuck => False
/-- the store and the frame as they stand -/
structure At (ρ : Lc) (k : Nat) (H : Hp) (st : Store) (σ : Env) (τ : St) : Prop where
  sim : Sim K w ρ k H st
  env : EnvR K w ρ k H σ τ
/-- the reading of a part of the text -/
def tR {α β : Type} (Rel : Lc → Nat → Hp → α → β → Prop) (W : WX) (ev : Env → Store → Res α) (τ : St) (H : Hp) (Q : β → Hp → Prop) : Prop :=
  ∃ ρ k st σ, At K w ρ k H st σ τ ∧ Run K w ρ k H (ev σ st) (fun a ρ' k' H' _ => ∀ b, Rel ρ' k' H' a b → Q b H') (fun c d H' => W c d τ H')
end
section
variable {K : PySem.W.Frag} {w : World} {ρ ρ' : Lc} {k k' : Nat} {H H' : Hp} {st st' : Store} {σ : Env} {τ : St} {α β : Type} {W : XK}
theorem At.step (a : At K w ρ k H st σ τ) (e : Ext ρ k H ρ' k' H') (s : Sim K w ρ' k' H' st') : At K w ρ' k' H' st' σ τ := ⟨s, a.env.mono e⟩
theorem Run.imp {r : Res α} {R R' : α → Lc → Nat → Hp → Store → Prop} (h : Run K w ρ k H r R W)
    (f : ∀ a ρ' k' H' st', Ext ρ k H ρ' k' H' → Sim K w ρ' k' H' st' → R a ρ' k' H' st' → R' a ρ' k' H' st') : Run K w ρ k H r R' W := by
  cases r with
  | ok a st => exact fun ρ' k' H' e s => f a ρ' k' H' st e s (h ρ' k' H' e s)
  | exn x st => exact h
  | stuck => exact h
theorem Run.impW {r : Res α} {W' : XK} {R : α → Lc → Nat → Hp → Store → Prop} (h : Run K w ρ k H r R W) (f : ∀ c d H', W c d H' → W' c d H') : Run K w ρ k H r R W' := by
  cases r with
  | ok a st => exact h
  | exn x st => exact fun ρ' k' H' c d e s q => f _ _ _ (h ρ' k' H' c d e s q)
  | stuck => exact h
theorem Run.ext {r : Res α} {R : α → Lc → Nat → Hp → Store → Prop} (h : Run K w ρ k H r R W) (e : Ext ρ k H ρ' k' H') : Run K w ρ' k' H' r R W := by
  cases r with
  | ok a st => exact fun ρ2 k2 H2 e2 s => h ρ2 k2 H2 (e.trans e2) s
  | exn x st => exact fun ρ2 k2 H2 c d e2 s q => h ρ2 k2 H2 c d (e.trans e2) s q
  | stuck => exact h
theorem Run.bind {r : Res α} {f : α → Store → Res β} {R : β → Lc → Nat → Hp → Store → Prop} (h : Run K w ρ k H (r.bind f) R W) :
    Run K w ρ k H r (fun a ρ' k' H' st' => Run K w ρ' k' H' (f a st') R W) W := by
  cases r with
  | ok a st => exact fun ρ' k' H' e s => Run.ext (r := f a st) h e
  | exn x st => exact h
  | stuck => exact h
/-- one step, then the rest -/
theorem Run.seq {r : Res α} {f : α → Store → Res β} {R : β → Lc → Nat → Hp → Store → Prop} {R' : α → Lc → Nat → Hp → Store → Prop} (h : Run K w ρ k H (r.bind f) R W) (a : At K w ρ k H st σ τ)
    (hR : ∀ x ρ' k' H' st', Ext ρ k H ρ' k' H' → At K w ρ' k' H' st' σ τ → Run K w ρ' k' H' (f x st') R W → R' x ρ' k' H' st') : Run K w ρ k H r R' W :=
  h.bind.imp fun x ρ' k' H' st' e s q => hR x ρ' k' H' st' e (a.step e s) q
theorem Run.seqE {r : Res α} {f : α → Store → Res β} {R : β → Lc → Nat → Hp → Store → Prop} {R' : α → Lc → Nat → Hp → Store → Prop} (h : Run K w ρ k H (r.bind f) R W) (a : At K w ρ k H st σ τ)
    (hR : ∀ x ρ' k' H' st', r = .ok x st' → Ext ρ k H ρ' k' H' → At K w ρ' k' H' st' σ τ → Run K w ρ' k' H' (f x st') R W → R' x ρ' k' H' st') : Run K w ρ k H r R' W := by
  cases r with
  | ok x st' => exact fun ρ' k' H' e s => hR x ρ' k' H' st' rfl e (a.step e s) (Run.ext (r := f x st') h e)
  | exn x st => exact h
  | stuck => exact h
theorem Run.now {a : α} {R : α → Lc → Nat → Hp → Store → Prop} (h : Run K w ρ k H (.ok a st) R W) (s : Sim K w ρ k H st) : R a ρ k H st := h ρ k H Ext.refl s
end
theorem pe_w {X : Cx} {e : Expr} {t t' : TE} (h : PE X e t) (f : ∀ τ H Q, t' τ H Q → t τ H Q) : PE X e t' := ⟨fun pins s τ H Q I q => h.run pins s τ H Q I (f _ _ _ q)⟩
theorem pt_w {X : Cx} {e : Expr} {t t' : TT} (h : PT X e t) (f : ∀ τ H Q, t' τ H Q → t τ H Q) : PT X e t' := ⟨fun pins s τ H Q I q => h.run pins s τ H Q I (f _ _ _ q)⟩
theorem pa_w {X : Cx} {e : List Expr} {t t' : TA} (h : PA X e t) (f : ∀ τ H Q, t' τ H Q → t τ H Q) : PA X e t' := ⟨fun pos pins s τ H Q I q => h.run pos pins s τ H Q I (f _ _ _ q)⟩
theorem pk_w {X : Cx} {e : List Keyword} {t t' : TA} (h : PK X e t) (f : ∀ τ H Q, t' τ H Q → t τ H Q) : PK X e t' := ⟨fun pos pins s τ H Q I q => h.run pos pins s τ H Q I (f _ _ _ q)⟩
theorem po_w {X : Cx} {e : Option Expr} {t t' : TO} (h : PO X e t) (f : ∀ τ H Q, t' τ H Q → t τ H Q) : PO X e t' := ⟨fun pins s τ H Q I q => h.run pins s τ H Q I (f _ _ _ q)⟩

/-! ### readings by kind -/
section
variable (K : PySem.W.Frag) (w : World) (Φ : Prog) (cur : Option Exn) (W : WX)
abbrev tE (e : E) : TE := tR K w (RV K w) W fun σ st => evalE Φ cur σ e st
abbrev tB (b : B) : TT := tR K w (fun _ _ _ (x y : Bool) => x = y) W fun σ st => evalT Φ cur σ b st
abbrev tAs (es : List E) : TA := tR K w (RVs K w) W fun σ st => evalEs Φ cur σ es st
abbrev tKs (es : List (String × E)) : TA := tR K w (fun ρ k H (x : List (String × D)) y => RVs K w ρ k H (x.map (·.2)) y) W fun σ st => evalKs Φ cur σ es st
abbrev tOs (e : Option E) : TO := tR K w (fun _ _ _ (x y : Option Int) => x = y) W fun σ st => evalO Φ cur σ e st
abbrev tTs (bs : List B) : TT := tR K w (fun _ _ _ (x y : Bool) => x = y) W fun σ st => evalTs Φ cur σ bs st
end

/-! ### rules by values -/
section
variable (K : PySem.W.Frag) (w : World)
/-- a step of two values -/
def r2D (f : D → D → Store → Res D) : R2 := fun v u H Q => ∃ ρ k st x y W, Sim K w ρ k H st ∧ RV K w ρ k H x v ∧ RV K w ρ k H y u ∧ Run K w ρ k H (f x y st) (fun d ρ' k' H' _ => ∀ v, RV K w ρ' k' H' d v → Q v H') W
def r1D (f : D → Store → Res D) : V → Hp → VK → Prop := fun v H Q => ∃ ρ k st x W, Sim K w ρ k H st ∧ RV K w ρ k H x v ∧ Run K w ρ k H (f x st) (fun d ρ' k' H' _ => ∀ v, RV K w ρ' k' H' d v → Q v H') W
def rnD (f : List D → Store → Res D) : List V → Hp → VK → Prop := fun vs H Q => ∃ ρ k st xs W, Sim K w ρ k H st ∧ RVs K w ρ k H xs vs ∧ Run K w ρ k H (f xs st) (fun d ρ' k' H' _ => ∀ v, RV K w ρ' k' H' d v → Q v H') W
def rmD (f : D → List D → Store → Res D) : V → List V → Hp → VK → Prop := fun v vs H Q => ∃ ρ k st x xs W, Sim K w ρ k H st ∧ RV K w ρ k H x v ∧ RVs K w ρ k H xs vs ∧ Run K w ρ k H (f x xs st) (fun d ρ' k' H' _ => ∀ v, RV K w ρ' k' H' d v → Q v H') W
end

/-! ### reading values -/
section
variable {K : PySem.W.Frag} {w : World} {ρ : Lc} {k : Nat} {H : Hp} {st : Store} {v : V} {d : D}
theorem line_eq : (sizeLine : Nat) = LIM := by rw [sizeLine_eq]; rfl
theorem RV.asL (s : Sim K w ρ k H st) (h : RV K w ρ k H d v) {xs : List D} (e : asL st d = some xs) : ∃ a ys, v = .ref a ∧ H a = some (.lst ys) ∧ RVs K w ρ k H xs ys := by
  cases d with
  | frz zs =>
    simp only [PV.asL, Option.some.injEq] at e
    subst e
    simp only [RV] at h
    obtain ⟨a, ys, rfl, h1, _, h2⟩ := h
    exact ⟨a, ys, rfl, h1, h2⟩
  | ref n =>
    simp only [PV.asL] at e
    simp only [RV] at h
    obtain ⟨a, rfl, hn, ha⟩ := h
    cases q : st[n]? with
    | none => rw [q] at e; cases e
    | some o =>
      rw [q] at e
      cases o with
      | lst zs =>
        cases e
        obtain ⟨b, h1, h2⟩ := s.at_ n _ q
        rw [ha] at h1
        cases h1
        obtain ⟨ys, h3, h4⟩ := h2
        exact ⟨a, ys, rfl, h3, h4⟩
      | _ => cases e
  | _ => cases e
theorem RV.asQ (s : Sim K w ρ k H st) (h : RV K w ρ k H d v) {xs : List D} (e : asQ st d = some xs) : ∃ a ys, v = .ref a ∧ (SqL K H a ys ∨ SqT K H a ys) ∧ RVs K w ρ k H xs ys := by
  have go : PV.asL st d = some xs → ∃ a ys, v = .ref a ∧ (SqL K H a ys ∨ SqT K H a ys) ∧ RVs K w ρ k H xs ys := fun e => by
    obtain ⟨a, ys, h1, h2, h3⟩ := h.asL s e
    exact ⟨a, ys, h1, .inl (.of h2), h3⟩
  cases d with
  | tup zs =>
    simp only [PV.asQ, Option.some.injEq] at e
    subst e
    simp only [RV] at h
    obtain ⟨a, ys, rfl, h1, h2⟩ := h
    refine ⟨a, ys, rfl, .inr ?_, h2⟩
    rcases h1 with ⟨h1, _⟩ | ⟨o, its, n, h3, h4, h5, h6, h7⟩
    · exact .of h1
    · exact .inr ⟨o, its, n, h3, h4, h5, h6, h7⟩
  | _ => exact go e
/-- a new list -/
theorem Run.mk {m : Bool} {xs : List D} {ys : List V} {Q : VK} {W : XK} {p : Addr} (s : Sim K w ρ k H st) (h : Run K w ρ k H (mk m xs st) (fun d ρ' k' H' _ => ∀ v, RV K w ρ' k' H' d v → Q v H') W) (r : RVs K w ρ k H xs ys) (hp : H p = none) :
    Q (.ref p) (upd H p (.lst ys)) := by
  cases m with
  | false =>
    simp only [PV.mk, Bool.false_eq_true, if_false] at h
    refine h ρ k _ (Ext.alloc hp) (s.alloc hp) _ ?_
    simp only [RV]
    exact ⟨p, ys, rfl, upd_same, s.off hp, r.mono (Ext.alloc hp)⟩
  | true =>
    simp only [PV.mk, if_true] at h
    have e := Ext.push (ρ := ρ) (k := k) (o := .lst ys) hp
    refine h (push ρ k p) (k + 1) _ e (s.push hp ⟨ys, upd_same, r.mono e⟩) _ ?_
    simp only [RV]
    exact ⟨p, rfl, by rw [s.len]; omega, by rw [s.len]; exact push_new⟩
/-- a new tuple -/
theorem Run.tup {xs : List D} {ys : List V} {Q : VK} {W : XK} {p : Addr} (s : Sim K w ρ k H st) (h : Run K w ρ k H (.ok (.tup xs) st) (fun d ρ' k' H' _ => ∀ v, RV K w ρ' k' H' d v → Q v H') W) (r : RVs K w ρ k H xs ys) (hp : H p = none) :
    Q (.ref p) (upd H p (.tup ys)) := by
  refine h ρ k _ (Ext.alloc hp) (s.alloc hp) _ ?_
  simp only [RV]
  exact ⟨p, ys, rfl, .inl ⟨upd_same, s.off hp⟩, r.mono (Ext.alloc hp)⟩
end
end PV
set_option Elab.async false
set_option linter.all false
set_option maxRecDepth 100000
set_option maxHeartbeats 4000000
/-! PvOps: operators by values. -/
namespace PV
open PySem L2
/-! ### texts -/
theorem tx_len (s : List Nat) : (tx s).length = s.length := by simp [tx, Str.length]
theorem tx_app (s t : List Nat) : tx s ++ tx t = tx (s ++ t) := by
  show Str.mk (s.toArray ++ t.toArray) = Str.mk (s ++ t).toArray
  rw [List.append_toArray]
theorem tx_list (s : List Nat) : (tx s).cps.toList = s := by simp [tx]
theorem tx_inj {s t : List Nat} (h : tx s = tx t) : s = t := by
  have := congrArg (fun z : Str => z.cps.toList) h
  simpa [tx] using this
theorem ltText_eq : ∀ a b : List Nat, ltText a b = decide (a < b)
  | [], [] => by simp [ltText]
  | [], b :: bs => by simp [ltText]
  | a :: as, [] => by simp [ltText]
  | a :: as, b :: bs => by
    rw [ltText, ltText_eq as bs]
    by_cases h : a < b
    · simp [h, List.cons_lt_cons_iff]
    · by_cases h2 : b < a
      · have h3 : ¬ a = b := by omega
        simp [h, h2, h3, List.cons_lt_cons_iff]
      · have h3 : a = b := by omega
        subst h3
        simp [List.cons_lt_cons_iff]

section
variable {X : Cx}
/-! ### arithmetic -/
theorem ob_add {m : Bool} : OpR X (binaryOp .Add) (r2D X.K X.w (binop m .add)) := by
  intro pins s τ H v u V U Q I rv ru h
  obtain ⟨ρ, k, st, x, y, W, sm, rx, ry, run⟩ := h
  have go : Run X.K X.w ρ k H (match PV.asL st x, PV.asL st y with
      | some xs, some ys => if xs.length + ys.length ≤ LIM then PV.mk m (xs ++ ys) st else .stuck
      | _, _ => .stuck) (fun d ρ' k' H' _ => ∀ v, RV X.K X.w ρ' k' H' d v → Q v H') W → wpAny (model X.prog X.w) X.A (binaryOp .Add V U) (EP X pins τ Q) X.xe s := fun run => by
    cases ex : PV.asL st x with
    | none => rw [ex] at run; exact run.elim
    | some xs =>
      cases ey : PV.asL st y with
      | none => rw [ex, ey] at run; exact run.elim
      | some ys =>
        rw [ex, ey] at run
        dsimp only at run
        by_cases hl : xs.length + ys.length ≤ LIM
        · rw [if_pos hl] at run
          obtain ⟨a, as, rfl, ha, ra⟩ := rx.asL sm ex
          obtain ⟨b, bs, rfl, hb, rb⟩ := ry.asL sm ey
          refine op_cat pins s τ H _ _ V U Q I rv ru ⟨a, b, as, bs, rfl, rfl, ha, hb, ?_, fun p hp => Run.mk sm run (ra.append rb) hp⟩
          rw [line_eq, ← ra.length, ← rb.length]
          exact hl
        · rw [if_neg hl] at run
          exact run.elim
  cases x with
  | int i =>
    cases y with
    | int j =>
      simp only [RV] at rx ry
      subst rx ry
      exact op_add pins s τ H _ _ V U Q I rv ru ⟨i, j, rfl, rfl, run.now sm _ (by simp only [RV])⟩
    | _ => exact go run
  | str a =>
    cases y with
    | str b =>
      simp only [RV] at rx ry
      subst rx ry
      simp only [binop, addD] at run
      by_cases hl : a.length + b.length ≤ LIM
      · rw [if_pos hl] at run
        exact op_add_str pins s τ H _ _ V U Q I rv ru ⟨tx a, tx b, rfl, rfl, by rw [tx_len, tx_len, line_eq]; exact hl, run.now sm _ (by simp only [RV, tx_app])⟩
      · rw [if_neg hl] at run
        exact run.elim
    | _ => exact go run
  | _ => exact go run
theorem ob_sub {m : Bool} : OpR X (binaryOp .Sub) (r2D X.K X.w (binop m .sub)) := by
  intro pins s τ H v u V U Q I rv ru h
  obtain ⟨ρ, k, st, x, y, W, sm, rx, ry, run⟩ := h
  cases x with
  | int i =>
    cases y with
    | int j =>
      simp only [RV] at rx ry
      subst rx ry
      exact op_sub pins s τ H _ _ V U Q I rv ru ⟨i, j, rfl, rfl, run.now sm _ (by simp only [RV])⟩
    | _ => exact run.elim
  | _ => exact run.elim
theorem small_ok {k : Int} (h : small k = true) : -(2 ^ 63) ≤ k ∧ k < 2 ^ 63 := by
  have := small_iff.mp h
  omega
theorem bmul_ok {i j : Int} (h : bmul i j = true) : CMul i j := by
  exact bmul_iff.mp h
theorem ob_mul {m : Bool} : OpR X (binaryOp .Mult) (r2D X.K X.w (binop m .mul)) := by
  intro pins s τ H v u V U Q I rv ru h
  obtain ⟨ρ, k, st, x, y, W, sm, rx, ry, run⟩ := h
  have go : ∀ c : Int, y = .int c → Run X.K X.w ρ k H (match PV.asL st x with
      | some xs => if small c && decide (xs.length * c.toNat ≤ LIM) then PV.mk m (List.replicate c.toNat xs).flatten st else .stuck
      | none => .stuck) (fun d ρ' k' H' _ => ∀ v, RV X.K X.w ρ' k' H' d v → Q v H') W → wpAny (model X.prog X.w) X.A (binaryOp .Mult V U) (EP X pins τ Q) X.xe s := fun c ec q => by
    subst ec
    cases ex : PV.asL st x with
    | none => rw [ex] at q; exact q.elim
    | some xs =>
      rw [ex] at q
      dsimp only at q
      split at q
      · rename_i hc
        simp only [Bool.and_eq_true, decide_eq_true_eq] at hc
        obtain ⟨a, as, rfl, ha, ra⟩ := rx.asL sm ex
        simp only [RV] at ry
        subst ry
        refine op_rep pins s τ H _ _ V U Q I rv ru ⟨a, c, as, rfl, rfl, ha, (small_ok hc.1).1, (small_ok hc.1).2, ?_, fun p hp => Run.mk sm q ra.flat hp⟩
        rw [line_eq, ← ra.length]
        exact hc.2
      · exact q.elim
  cases y with
  | int j =>
    cases x with
    | int i =>
      simp only [RV] at rx ry
      subst rx ry
      simp only [binop, mulD] at run
      split at run
      · rename_i hc
        exact op_mul pins s τ H _ _ V U Q I rv ru ⟨i, j, rfl, rfl, bmul_ok hc, run.now sm _ (by simp only [RV])⟩
      · exact run.elim
    | _ => exact go j rfl run
  | _ => cases x <;> exact run.elim
theorem ob_fdiv {m : Bool} : OpR X (binaryOp .FloorDiv) (r2D X.K X.w (binop m .fdiv)) := by
  intro pins s τ H v u V U Q I rv ru h
  obtain ⟨ρ, k, st, x, y, W, sm, rx, ry, run⟩ := h
  cases x with
  | int i =>
    cases y with
    | int j =>
      simp only [RV] at rx ry
      subst rx ry
      simp only [binop, fdivD] at run
      split at run
      · rename_i hc
        simp only [Bool.and_eq_true, decide_eq_true_eq, bne_iff_ne] at hc
        exact op_fdivN pins s τ H _ _ V U Q I rv ru ⟨i, j, rfl, rfl, hc, run.now sm _ (by simp only [RV])⟩
      · exact run.elim
    | _ => exact run.elim
  | _ => exact run.elim
theorem ob_mod {m : Bool} : OpR X (binaryOp .Mod) (r2D X.K X.w (binop m .mod)) := by
  intro pins s τ H v u V U Q I rv ru h
  obtain ⟨ρ, k, st, x, y, W, sm, rx, ry, run⟩ := h
  cases x with
  | int i =>
    cases y with
    | int j =>
      simp only [RV] at rx ry
      subst rx ry
      simp only [binop, modD] at run
      split at run
      · rename_i hc
        exact op_modN pins s τ H _ _ V U Q I rv ru ⟨i, j, rfl, rfl, by simpa using hc, run.now sm _ (by simp only [RV])⟩
      · exact run.elim
    | _ => exact run.elim
  | _ => exact run.elim
theorem ob_pow {m : Bool} : OpR X (binaryOp .Pow) (r2D X.K X.w (binop m .pow)) := by
  intro pins s τ H v u V U Q I rv ru h
  obtain ⟨ρ, k, st, x, y, W, sm, rx, ry, run⟩ := h
  cases x with
  | int i =>
    cases y with
    | int j =>
      simp only [RV] at rx ry
      subst rx ry
      simp only [binop, powD] at run
      split at run
      · rename_i hc
        simp only [Bool.and_eq_true, decide_eq_true_eq] at hc
        exact op_pow pins s τ H _ _ V U Q I rv ru ⟨i, j, rfl, rfl, ⟨hc.1.1, hc.1.2, hc.2⟩, run.now sm _ (by simp only [RV])⟩
      · exact run.elim
    | _ => exact run.elim
  | _ => exact run.elim
def Bop.py : Bop → Operator
  | .add => .Add | .sub => .Sub | .mul => .Mult | .fdiv => .FloorDiv | .mod => .Mod | .pow => .Pow
theorem ob_all {m : Bool} : ∀ o : Bop, OpR X (binaryOp o.py) (r2D X.K X.w (binop m o))
  | .add => ob_add | .sub => ob_sub | .mul => ob_mul | .fdiv => ob_fdiv | .mod => ob_mod | .pow => ob_pow
end
end PV
set_option Elab.async false
set_option linter.all false
set_option maxRecDepth 100000
set_option maxHeartbeats 4000000
/-! PvCmp: comparisons by values. -/
namespace PV
open PySem L2
/-! ### flat values -/
def flatW : D → V
  | .non => .non
  | .bl b => .bl b
  | .int i => .int i
  | .str s => .str (tx s)
  | _ => .non
section
variable {K : PySem.W.Frag} {w : World} {ρ : Lc} {k : Nat} {H : Hp} {st : Store}
theorem RV.flatW {d : D} {v : V} (h : RV K w ρ k H d v) (f : flat d = true) : v = flatW d := by
  cases d <;> first | (simp [flat] at f; done) | (simp only [RV] at h; exact h)
theorem tx_dec (s t : List Nat) : decide (tx s = tx t) = (s == t) := by
  by_cases e : s = t
  · subst e; simp
  · rw [decide_eq_false fun h => e (tx_inj h)]; simp [e]
theorem tx_beq (s t : List Nat) : (tx s == tx t) = (s == t) := by
  by_cases e : s = t
  · subst e; simp
  · rw [beq_eq_false_iff_ne.mpr fun h => e (tx_inj h)]; simp [e]
theorem scal_of {a b : D} (h : scalD a b = true) : flat a = true ∧ flat b = true ∧ scal (flatW a) (flatW b) = true ∧ decide (flatW a = flatW b) = eqF a b := by
  cases a <;> cases b <;> first | (simp [scalD] at h; done) | (simp [flat, flatW, scal, eqF]; done) | skip
  · simp [flat, flatW, scal, eqF, Bool.beq_eq_decide_eq]
  · refine ⟨rfl, rfl, rfl, ?_⟩
    simp only [flatW, V.int.injEq]
    rfl
  · refine ⟨rfl, rfl, rfl, ?_⟩
    rw [show eqF (.str _) (.str _) = (_ == _) from rfl, ← tx_dec]
    simp [flatW]
theorem flatV_of {d : D} (f : flat d = true) : flatV (flatW d) = true := by
  cases d <;> first | rfl | (simp [flat] at f; done)
theorem eqV_of {a b : D} (fa : flat a = true) (fb : flat b = true) : eqV (flatW a) (flatW b) = eqF a b := by
  cases a <;> first | (simp [flat] at fa; done) | (cases b <;> first | (simp [flat] at fb; done) | simp [flatW, eqV, eqF, tx_beq])
theorem RVs.flats : ∀ {ds : List D} {vs : List V}, RVs K w ρ k H ds vs → ds.all PV.flat = true → vs = ds.map PV.flatW
  | [], _, h, _ => by simp only [RVs] at h; rw [h]; rfl
  | d :: ds, _, h, f => by
    simp only [RVs] at h
    obtain ⟨v, r, rfl, h1, h2⟩ := h
    simp only [List.all_cons, Bool.and_eq_true] at f
    rw [h1.flatW f.1, RVs.flats h2 f.2]
    rfl
/-! ### data -/
def keyPyD : D → PyData
  | .int i => .int i
  | .str s => .str (tx s)
  | _ => .none
mutual
def pyD : D → PyData
  | .non => .none
  | .bl b => .bool b
  | .int i => .int i
  | .str s => .str (tx s)
  | .tup xs => .tuple (pyDs xs)
  | .frz xs => .list (pyDs xs)
  | .frd kvs => .dict (pyKs kvs)
  | _ => .none
def pyDs : List D → List PyData
  | [] => []
  | x :: xs => pyD x :: pyDs xs
def pyKs : List (D × D) → List (PyData × PyData)
  | [] => []
  | (q, x) :: xs => (keyPyD q, pyD x) :: pyKs xs
end
mutual
theorem pyD_lay : ∀ {d : D}, pureD d = true → (pyD d).canLay0 = true
  | .non, _ => by simp [pyD, PyData.canLay0]
  | .bl _, _ => by simp [pyD, PyData.canLay0]
  | .int _, _ => by simp [pyD, PyData.canLay0]
  | .str s, h => by
    simp only [pureD, List.all_eq_true, decide_eq_true_eq] at h
    simp only [pyD, PyData.canLay0, PyData.strOk, tx]
    simpa using h
  | .tup xs, h => by
    simp only [pyD, PyData.canLay0]
    exact pyDs_lay (by simpa only [pureD] using h)
  | .frz xs, h => by
    simp only [pyD, PyData.canLay0]
    exact pyDs_lay (by simpa only [pureD] using h)
  | .scr _, h => by simp [pureD] at h
  | .frd _, h => by simp [pureD] at h
  | .ref _, h => by simp [pureD] at h
theorem pyDs_lay : ∀ {ds : List D}, puresD ds = true → PyData.canLayAll0 (pyDs ds) = true
  | [], _ => by simp [pyDs, PyData.canLayAll0]
  | d :: ds, h => by
    simp only [puresD, Bool.and_eq_true] at h
    simp only [pyDs, PyData.canLayAll0, Bool.and_eq_true]
    exact ⟨pyD_lay h.1, pyDs_lay h.2⟩
end
mutual
theorem pyD_dep : ∀ d : D, (pyD d).depth = depD d
  | .non => by simp [pyD, PyData.depth, depD]
  | .bl _ => by simp [pyD, PyData.depth, depD]
  | .int _ => by simp [pyD, PyData.depth, depD]
  | .str _ => by simp [pyD, PyData.depth, depD]
  | .tup xs => by simp only [pyD, PyData.depth, depD, pyDs_dep xs]
  | .frz xs => by simp only [pyD, PyData.depth, depD, pyDs_dep xs]
  | .scr _ => by simp [pyD, PyData.depth, depD]
  | .frd kvs => by simp only [pyD, PyData.depth, depD, pyKs_dep kvs]
  | .ref _ => by simp [pyD, PyData.depth, depD]
theorem pyDs_dep : ∀ ds : List D, PyData.depthAll (pyDs ds) = depDs ds
  | [] => by simp [pyDs, PyData.depthAll, depDs]
  | d :: ds => by simp only [pyDs, PyData.depthAll, depDs, pyD_dep d, pyDs_dep ds]
theorem pyKs_dep : ∀ ds : List (D × D), PyData.depthKv (pyKs ds) = depKs ds
  | [] => by simp [pyKs, PyData.depthKv, depKs]
  | (q, d) :: ds => by
    have e : ∀ q : D, PyData.depth (keyPyD q) = 0 := fun q => by cases q <;> simp [keyPyD, PyData.depth]
    simp only [pyKs, PyData.depthKv, depKs, pyD_dep d, pyKs_dep ds, e, Nat.zero_max]
end
theorem pyD_shaped {d : D} (h : pureD d = true) (z : depD d ≤ 64) : SeqAt.shaped (pyD d) = true := by
  unfold SeqAt.shaped
  rw [pyD_lay h, pyD_dep]
  simpa using z
mutual
theorem pyD_eqv : ∀ {a b : D}, pureD a = true → pureD b = true → PyData.eqv (pyD a) (pyD b) = eqD a b
  | .tup xs, b, h, g => by
    cases b with
    | tup ys =>
      simp only [pyD, PyData.eqv, eqD]
      exact pyDs_eqv (by simpa only [pureD] using h) (by simpa only [pureD] using g)
    | _ => first | (simp [pyD, PyData.eqv, eqD, eqF]; done) | (simp [pureD] at g)
  | .frz xs, b, h, g => by
    cases b with
    | frz ys =>
      simp only [pyD, PyData.eqv, eqD]
      exact pyDs_eqv (by simpa only [pureD] using h) (by simpa only [pureD] using g)
    | _ => first | (simp [pyD, PyData.eqv, eqD, eqF]; done) | (simp [pureD] at g)
  | .non, b, h, g => by cases b <;> first | (simp [pyD, PyData.eqv, eqD, eqF]; done) | (simp [pureD] at g)
  | .bl _, b, h, g => by cases b <;> first | (simp [pyD, PyData.eqv, eqD, eqF]; done) | (simp [pureD] at g)
  | .int _, b, h, g => by cases b <;> first | (simp [pyD, PyData.eqv, eqD, eqF]; done) | (simp [pureD] at g)
  | .str _, b, h, g => by cases b <;> first | (simp [pyD, PyData.eqv, eqD, eqF]; done) | (simp only [pyD, PyData.eqv, eqD, eqF]; exact tx_beq _ _) | (simp [pureD] at g)
  | .scr _, _, h, _ => by simp [pureD] at h
  | .frd _, _, h, _ => by simp [pureD] at h
  | .ref _, _, h, _ => by simp [pureD] at h
theorem pyDs_eqv : ∀ {as bs : List D}, puresD as = true → puresD bs = true → PyData.eqvAll (pyDs as) (pyDs bs) = eqDs as bs
  | [], [], _, _ => by simp [pyDs, PyData.eqvAll, eqDs]
  | [], _ :: _, _, _ => by simp [pyDs, PyData.eqvAll, eqDs]
  | _ :: _, [], _, _ => by simp [pyDs, PyData.eqvAll, eqDs]
  | a :: as, b :: bs, h, g => by
    simp only [puresD, Bool.and_eq_true] at h g
    simp only [pyDs, PyData.eqvAll, eqDs, pyD_eqv h.1 g.1, pyDs_eqv h.2 g.2]
end
theorem KTup.sq {a : Addr} {ys : List V} (h : KTup K a ys) : SqT K H a ys := let ⟨o, its, n, h3, h4, h5, h6, h7⟩ := h; .inr ⟨o, its, n, h3, h4, h5, h6, h7⟩
mutual
theorem RV.dp : ∀ {d : D} {v : V}, pureD d = true → RV K w ρ k H d v → Dp K H v (pyD d)
  | .non, _, _, h => by simp only [RV] at h; subst h; simpa only [pyD] using Dp.non
  | .bl _, _, _, h => by simp only [RV] at h; subst h; simpa only [pyD] using Dp.bl _
  | .int _, _, _, h => by simp only [RV] at h; subst h; simpa only [pyD] using Dp.int _
  | .str _, _, _, h => by simp only [RV] at h; subst h; simpa only [pyD] using Dp.str _
  | .tup xs, _, p, h => by
    simp only [RV] at h
    obtain ⟨a, ys, rfl, h1, h2⟩ := h
    simp only [pyD]
    refine Dp.tup (xs := ys) ?_ (RVs.dp (by simpa only [pureD] using p) h2)
    rcases h1 with ⟨h1, _⟩ | h1
    · exact .of h1
    · exact h1.sq
  | .frz xs, _, p, h => by
    simp only [RV] at h
    obtain ⟨a, ys, rfl, h1, _, h2⟩ := h
    simp only [pyD]
    exact Dp.lst (.of h1) (RVs.dp (by simpa only [pureD] using p) h2)
  | .scr _, _, p, _ => by simp [pureD] at p
  | .frd _, _, p, _ => by simp [pureD] at p
  | .ref _, _, p, _ => by simp [pureD] at p
theorem RVs.dp : ∀ {ds : List D} {vs : List V}, puresD ds = true → RVs K w ρ k H ds vs → DpAll K H vs (pyDs ds)
  | [], _, _, h => by simp only [RVs] at h; subst h; simpa only [pyDs] using DpAll.nil
  | d :: ds, _, p, h => by
    simp only [RVs] at h
    obtain ⟨v, r, rfl, h1, h2⟩ := h
    simp only [puresD, Bool.and_eq_true] at p
    simp only [pyDs]
    exact .cons (RV.dp p.1 h1) (RVs.dp p.2 h2)
end
theorem RV.dpL {d : D} {v : V} (s : Sim K w ρ k H st) (h : RV K w ρ k H d v) (p : pureD (look st d) = true) : Dp K H v (pyD (look st d)) := by
  cases d with
  | ref n =>
    cases q : st[n]? with
    | none => simp only [look, q, pureD] at p; cases p
    | some o =>
      cases o with
      | lst xs =>
        obtain ⟨a, ys, rfl, h1, h2⟩ := h.asL s (xs := xs) (by simp [PV.asL, q])
        simp only [look, q] at p ⊢
        simp only [pyD]
        exact Dp.lst (.of h1) (RVs.dp (by simpa only [pureD] using p) h2)
      | _ => simp only [look, q, pureD] at p; cases p
  | _ => exact RV.dp p h
mutual
theorem RV.dpG {g : Nat → D} (hg : ∀ n v, pureD (g n) = true → RV K w ρ k H (.ref n) v → Dp K H v (pyD (g n))) : ∀ {d : D} {v : V}, pureD (gD g d) = true → RV K w ρ k H d v → Dp K H v (pyD (gD g d))
  | .ref n, v, p, h => by simp only [gD] at p ⊢; exact hg n v p h
  | .non, _, p, h => RV.dp p h
  | .bl _, _, p, h => RV.dp p h
  | .int _, _, p, h => RV.dp p h
  | .str _, _, p, h => RV.dp p h
  | .tup xs, _, p, h => by
    simp only [RV] at h
    obtain ⟨a, ys, rfl, h1, h2⟩ := h
    simp only [gD, pureD] at p
    simp only [gD, pyD]
    refine Dp.tup (xs := ys) ?_ (RVs.dpG hg p h2)
    rcases h1 with ⟨h1, _⟩ | h1
    · exact .of h1
    · exact h1.sq
  | .frz xs, _, p, h => by
    simp only [RV] at h
    obtain ⟨a, ys, rfl, h1, _, h2⟩ := h
    simp only [gD, pureD] at p
    simp only [gD, pyD]
    exact Dp.lst (.of h1) (RVs.dpG hg p h2)
  | .scr _, _, p, _ => by simp [gD, pureD] at p
  | .frd _, _, p, _ => by simp [gD, pureD] at p
theorem RVs.dpG {g : Nat → D} (hg : ∀ n v, pureD (g n) = true → RV K w ρ k H (.ref n) v → Dp K H v (pyD (g n))) : ∀ {ds : List D} {vs : List V}, puresD (gDs g ds) = true → RVs K w ρ k H ds vs → DpAll K H vs (pyDs (gDs g ds))
  | [], _, _, h => by simp only [RVs] at h; subst h; simpa only [gDs, pyDs] using DpAll.nil
  | d :: ds, _, p, h => by
    simp only [RVs] at h
    obtain ⟨v, r, rfl, h1, h2⟩ := h
    simp only [gDs, puresD, Bool.and_eq_true] at p
    simp only [gDs, pyDs]
    exact .cons (RV.dpG hg p.1 h1) (RVs.dpG hg p.2 h2)
end
theorem RVs.dpM {f : D → D} (hf : ∀ d v, pureD (f d) = true → RV K w ρ k H d v → Dp K H v (pyD (f d))) : ∀ {ds : List D} {vs : List V}, puresD (ds.map f) = true → RVs K w ρ k H ds vs → DpAll K H vs (pyDs (ds.map f))
  | [], _, _, h => by simp only [RVs] at h; subst h; simpa only [List.map_nil, pyDs] using DpAll.nil
  | d :: ds, _, p, h => by
    simp only [RVs] at h
    obtain ⟨v, r, rfl, h1, h2⟩ := h
    simp only [List.map_cons, puresD, Bool.and_eq_true] at p
    simp only [List.map_cons, pyDs]
    exact .cons (hf _ _ p.1 h1) (RVs.dpM hf p.2 h2)
theorem RV.dpF (s : Sim K w ρ k H st) : ∀ (f : Nat) (d : D) (v : V), pureD (lookF st f d) = true → RV K w ρ k H d v → Dp K H v (pyD (lookF st f d))
  | 0, d, v, p, h => RV.dp p h
  | f + 1, d, v, p, h => by
    rw [lookF] at p ⊢
    refine RV.dpG (fun n v p h => ?_) p h
    try dsimp only at p ⊢
    cases q : st[n]? with
    | none => simp only [q, pureD] at p; cases p
    | some o =>
      cases o with
      | lst xs =>
        obtain ⟨a, ys, rfl, h1, h2⟩ := h.asL s (xs := xs) (by simp [PV.asL, q])
        simp only [q] at p ⊢
        simp only [pyD]
        exact Dp.lst (.of h1) (RVs.dpM (fun d v => RV.dpF s f d v) (by simpa only [pureD] using p) h2)
      | _ => simp only [q, pureD] at p; cases p
/-! ### dicts -/
theorem key_eq {a q : D} {α κ : Key} (ha : keyD a = some α) (hq : keyD q = some κ) : eqF a q = decide (α = κ) := by
  cases a with
  | int i =>
    cases ha
    cases q with
    | int j => cases hq; rw [key_ll]; rfl
    | str t => cases hq; rw [key_lr]; rfl
    | _ => cases hq
  | str s =>
    cases ha
    cases q with
    | int j => cases hq; rw [key_rl]; rfl
    | str t => cases hq; rw [key_rr, tx_dec]; rfl
    | _ => cases hq
  | _ => cases ha
theorem isKey_of {q : D} (h : isKey q = true) : ∃ κ, keyD q = some κ ∧ kV κ = flatW q := by
  cases q <;> first | (simp [isKey] at h; done) | exact ⟨_, rfl, rfl⟩
/-- what a heap's dict answers -/
def Ans (K : PySem.W.Frag) (w : World) (ρ : Lc) (k : Nat) (H : Hp) (o : Option D) (r : Option V) : Prop := match o with
  | none => r = none
  | some d => ∃ v, r = some v ∧ RV K w ρ k H d v
theorem RKs.ans : ∀ {kvs : List (D × D)} {ws : List (D × V)} {kv : List (Key × V)} {q : D} {κ : Key}, RKs K w ρ k H kvs ws → kv.map (fun p => (some p.1, p.2)) = ws.map (fun p => (keyD p.1, p.2)) → keyD q = some κ → Ans K w ρ k H (dget kvs q) (valV kv κ)
  | [], _, kv, _, _, h, e, _ => by
    simp only [RKs] at h
    subst h
    have : kv = [] := by simpa using e
    subst this
    rfl
  | (a, d) :: kvs, _, kv, q, κ, h, e, hq => by
    simp only [RKs] at h
    obtain ⟨v, r, rfl, h1, h2⟩ := h
    cases kv with
    | nil => simp at e
    | cons p kv =>
      obtain ⟨α, u⟩ := p
      simp only [List.map_cons, List.cons.injEq, Prod.mk.injEq] at e
      obtain ⟨⟨e1, rfl⟩, e3⟩ := e
      rw [dget, key_eq e1.symm hq]
      by_cases c : α = κ
      · subst c
        rw [valV_pos rfl]
        simp only [decide_true, if_true]
        exact ⟨u, rfl, h1⟩
      · rw [valV_neg c]
        simp only [c, decide_false, Bool.false_eq_true, if_false]
        exact RKs.ans h2 e3 hq
theorem RDs.ans : ∀ {kvs : List (D × D)} {ws : List (Key × V)} {q : D} {κ : Key}, RDs K w ρ k H kvs ws → keyD q = some κ → Ans K w ρ k H (dget kvs q) (valV ws κ)
  | [], _, _, _, h, _ => by
    have h' : _ = [] := h
    subst h'
    rfl
  | (a, d) :: kvs, _, q, κ, h, hq => by
    obtain ⟨α, v, r, rfl, h0, h1, h2⟩ := h
    rw [dget, key_eq h0 hq]
    by_cases c : α = κ
    · subst c
      rw [valV_pos rfl]
      simp only [decide_true, if_true]
      exact ⟨v, rfl, h1⟩
    · rw [valV_neg c]
      simp only [c, decide_false, Bool.false_eq_true, if_false]
      exact RDs.ans h2 hq
theorem RKs.find : ∀ {kvs : List (D × D)} {ws : List (D × V)} {q : D}, RKs K w ρ k H kvs ws → Ans K w ρ k H (dget kvs q) ((ws.find? fun p => eqF p.1 q).map (·.2))
  | [], _, _, h => by
    simp only [RKs] at h
    subst h
    rfl
  | (a, d) :: kvs, _, q, h => by
    simp only [RKs] at h
    obtain ⟨v, r, rfl, h1, h2⟩ := h
    rw [dget, List.find?_cons]
    cases c : eqF a q with
    | true => exact ⟨v, rfl, h1⟩
    | false => exact RKs.find h2
/-- a dict that is asked: tracked, or written -/
theorem dictR {d q : D} {v : V} {kvs : List (D × D)} (s : Sim K w ρ k H st) (h : RV K w ρ k H d v) (e : dictOf st d q = some kvs) :
    ∃ a, v = .ref a ∧ ((∃ o, DGet H a (PV.flatW q) o ∧ Ans K w ρ k H (dget kvs q) o) ∨ (∃ z es n r, q = .str z ∧ KDict K w a es n ∧ PySem.W.nsIn K a (tx z) = some r ∧
      match dget kvs q with
      | none => r = none
      | some d => ∃ u x, r = some u ∧ RelV x u ∧ RV K w ρ k H d x)) ∧ flat q = true := by
  cases d with
  | frd zs =>
    cases q with
    | str z =>
      simp only [dictOf, Option.some.injEq] at e
      subst e
      simp only [RV] at h
      obtain ⟨a, ws, rfl, h1, h2⟩ := h
      refine ⟨a, rfl, ?_, rfl⟩
      rcases h1 with ⟨kv, h1, _, h3⟩ | ⟨⟨es, n, D, _⟩, h1⟩
      · exact .inl ⟨_, DGet.k (k := Sum.inr (tx z)) h1, RKs.ans h2 h3 rfl⟩
      · obtain ⟨r, e1, e2⟩ := h1 z
        refine .inr ⟨z, es, n, r, rfl, D, e1, ?_⟩
        have A := RKs.find (q := .str z) h2
        cases c : dget zs (.str z) with
        | none =>
          rw [c] at A
          rw [show (ws.find? fun p => eqF p.1 (.str z)).map (·.2) = none from A] at e2
          exact e2
        | some d =>
          rw [c] at A
          obtain ⟨x, A1, A2⟩ := A
          rw [A1] at e2
          obtain ⟨u, e3, e4⟩ := e2
          exact ⟨u, x, e3, e4, A2⟩
    | _ => cases e
  | ref n =>
    simp only [dictOf] at e
    split at e
    · rename_i hk
      obtain ⟨κ, k1, k2⟩ := isKey_of hk
      simp only [RV] at h
      obtain ⟨a, rfl, hn, ha⟩ := h
      split at e
      · rename_i zs hz
        cases e
        obtain ⟨b, h1, h2⟩ := s.at_ n _ hz
        rw [ha] at h1
        cases h1
        obtain ⟨ws, h3, h4⟩ := h2
        have fq : PV.flat q = true := by cases q <;> first | rfl | (simp [isKey] at hk; done)
        refine ⟨a, rfl, .inl ⟨valV ws κ, ?_, RDs.ans h4 k1⟩, fq⟩
        rw [← k2]
        exact DGet.k h3
      · cases e
    · cases e
  | _ => cases q <;> cases e
end
end PV
set_option Elab.async false
set_option linter.all false
set_option maxRecDepth 100000
set_option maxHeartbeats 4000000
/-! PvDat: data with dicts, read off the heap. -/
namespace PV
open PySem L2
def keyPy : Key → PyData
  | .inl i => .int i
  | .inr x => .str x
section
variable (K : PySem.W.Frag) (w : World) (H : Hp)
/-- a dict and its pairs, own or written -/
def Dk (a : Addr) (kv : List (Key × V)) : Prop := H a = some (.dK kv) ∨ ∃ es n, KDict K w a es n ∧ EsR es.toList kv
mutual
inductive Dq : V → PyData → Prop
  | non : Dq .non .none
  | bl (b : Bool) : Dq (.bl b) (.bool b)
  | int (i : Int) : Dq (.int i) (.int i)
  | str (x : Str) : Dq (.str x) (.str x)
  | lst {a : Addr} {xs : List V} {ds : List PyData} : SqL K H a xs → DqAll xs ds → Dq (.ref a) (.list ds)
  | tup {a : Addr} {xs : List V} {ds : List PyData} : SqT K H a xs → DqAll xs ds → Dq (.ref a) (.tuple ds)
  | dic {a : Addr} {kv : List (Key × V)} {ds : List (PyData × PyData)} : Dk K w H a kv → DqKv kv ds → Dq (.ref a) (.dict ds)
inductive DqAll : List V → List PyData → Prop
  | nil : DqAll [] []
  | cons {v : V} {vs : List V} {d : PyData} {ds : List PyData} : Dq v d → DqAll vs ds → DqAll (v :: vs) (d :: ds)
inductive DqKv : List (Key × V) → List (PyData × PyData) → Prop
  | nil : DqKv [] []
  | cons {κ : Key} {v : V} {vs : List (Key × V)} {d : PyData} {ds : List (PyData × PyData)} : Dq v d → DqKv vs ds → DqKv ((κ, v) :: vs) ((keyPy κ, d) :: ds)
end
/-- the interpreter's table of modules is a dict -/
def SysD : Prop := ∃ o : Obj, K.lookup sysModules = some o ∧ o.cls = .type "dict"
end
section
variable {K : PySem.W.Frag} {w : World} {ρ : Lc} {k : Nat} {H : Hp} {st : Store}
theorem key_py {q : D} {κ : Key} (h : keyD q = some κ) : keyPyD q = keyPy κ := by
  cases q <;> first | (cases h; done) | (cases h; rfl)
mutual
theorem RV.dq : ∀ {d : D} {v : V}, datD d = true → RV K w ρ k H d v → Dq K w H v (pyD d)
  | .non, _, _, h => by simp only [RV] at h; subst h; simpa only [pyD] using Dq.non
  | .bl _, _, _, h => by simp only [RV] at h; subst h; simpa only [pyD] using Dq.bl _
  | .int _, _, _, h => by simp only [RV] at h; subst h; simpa only [pyD] using Dq.int _
  | .str _, _, _, h => by simp only [RV] at h; subst h; simpa only [pyD] using Dq.str _
  | .tup xs, _, p, h => by
    simp only [RV] at h
    obtain ⟨a, ys, rfl, h1, h2⟩ := h
    simp only [pyD]
    refine Dq.tup (xs := ys) ?_ (RVs.dq (by simpa only [datD] using p) h2)
    rcases h1 with ⟨h1, _⟩ | h1
    · exact .of h1
    · exact h1.sq
  | .frz xs, _, p, h => by
    simp only [RV] at h
    obtain ⟨a, ys, rfl, h1, _, h2⟩ := h
    simp only [pyD]
    exact Dq.lst (.of h1) (RVs.dq (by simpa only [datD] using p) h2)
  | .scr _, _, p, _ => by simp [datD] at p
  | .frd kvs, _, p, h => by
    simp only [RV] at h
    obtain ⟨a, ws, rfl, h1, h2⟩ := h
    simp only [datD] at p
    simp only [pyD]
    rcases h1 with ⟨kv, e1, _, e2⟩ | ⟨⟨es, n, kd, kv, e1, e2⟩, _⟩
    · exact Dq.dic (.inl e1) (RKs.dq p h2 e2)
    · exact Dq.dic (.inr ⟨es, n, kd, e1⟩) (RKs.dq p h2 e2)
  | .ref _, _, p, _ => by simp [datD] at p
theorem RVs.dq : ∀ {ds : List D} {vs : List V}, datDs ds = true → RVs K w ρ k H ds vs → DqAll K w H vs (pyDs ds)
  | [], _, _, h => by simp only [RVs] at h; subst h; simpa only [pyDs] using DqAll.nil
  | d :: ds, _, p, h => by
    simp only [RVs] at h
    obtain ⟨v, r, rfl, h1, h2⟩ := h
    simp only [datDs, Bool.and_eq_true] at p
    simp only [pyDs]
    exact .cons (RV.dq p.1 h1) (RVs.dq p.2 h2)
theorem RKs.dq : ∀ {kvs : List (D × D)} {ws : List (D × V)} {kv : List (Key × V)}, datKs kvs = true → RKs K w ρ k H kvs ws → kv.map (fun p => (some p.1, p.2)) = ws.map (fun p => (keyD p.1, p.2)) → DqKv K w H kv (pyKs kvs)
  | [], _, kv, _, h, e => by
    simp only [RKs] at h
    subst h
    cases kv with
    | nil => simpa only [pyKs] using DqKv.nil
    | cons p kv => simp at e
  | (q, d) :: r, _, kv, p, h, e => by
    simp only [RKs] at h
    obtain ⟨v, ws, rfl, h1, h2⟩ := h
    simp only [datKs, Bool.and_eq_true] at p
    cases kv with
    | nil => simp at e
    | cons x kv =>
      obtain ⟨κ, v'⟩ := x
      simp only [List.map_cons, List.cons.injEq, Prod.mk.injEq] at e
      obtain ⟨⟨e1, rfl⟩, e2⟩ := e
      simp only [pyKs, key_py e1.symm]
      exact .cons (RV.dq p.1.2 h1) (RKs.dq p.2 h2 e2)
end
theorem RDs.dq : ∀ {kvs : List (D × D)} {ws : List (Key × V)}, datKs kvs = true → RDs K w ρ k H kvs ws → DqKv K w H ws (pyKs kvs)
  | [], _, _, h => by
    simp only [RDs] at h
    subst h
    simpa only [pyKs] using DqKv.nil
  | (q, d) :: r, _, p, h => by
    simp only [RDs] at h
    obtain ⟨κ, v, ws, rfl, e1, h1, h2⟩ := h
    simp only [datKs, Bool.and_eq_true] at p
    simp only [pyKs, key_py e1]
    exact .cons (RV.dq p.1.2 h1) (RDs.dq p.2 h2)
theorem RV.dqL {d : D} {v : V} (s : Sim K w ρ k H st) (h : RV K w ρ k H d v) (p : datD (look st d) = true) : Dq K w H v (pyD (look st d)) := by
  cases d with
  | ref n =>
    simp only [RV] at h
    obtain ⟨a, rfl, _, hn⟩ := h
    cases q : st[n]? with
    | none => simp only [look, q, datD] at p; cases p
    | some o =>
      obtain ⟨b, e, ro⟩ := s.at_ n o q
      rw [hn] at e
      cases e
      cases o with
      | lst xs =>
        obtain ⟨ys, h1, h2⟩ := ro
        simp only [look, q] at p ⊢
        simp only [pyD]
        exact Dq.lst (.of h1) (RVs.dq (by simpa only [datD] using p) h2)
      | dic kvs =>
        obtain ⟨ws, h1, h2⟩ := ro
        simp only [look, q] at p ⊢
        simp only [pyD]
        exact Dq.dic (.inl h1) (RDs.dq (by simpa only [datD] using p) h2)
      | _ => simp only [look, q, datD] at p; cases p
  | _ => exact RV.dq p h
mutual
theorem RV.dqG {g : Nat → D} (hg : ∀ n v, datD (g n) = true → RV K w ρ k H (.ref n) v → Dq K w H v (pyD (g n))) : ∀ {d : D} {v : V}, datD (gD g d) = true → RV K w ρ k H d v → Dq K w H v (pyD (gD g d))
  | .ref n, v, p, h => by simp only [gD] at p ⊢; exact hg n v p h
  | .non, _, p, h => RV.dq p h
  | .bl _, _, p, h => RV.dq p h
  | .int _, _, p, h => RV.dq p h
  | .str _, _, p, h => RV.dq p h
  | .tup xs, _, p, h => by
    simp only [RV] at h
    obtain ⟨a, ys, rfl, h1, h2⟩ := h
    simp only [gD, datD] at p
    simp only [gD, pyD]
    refine Dq.tup (xs := ys) ?_ (RVs.dqG hg p h2)
    rcases h1 with ⟨h1, _⟩ | h1
    · exact .of h1
    · exact h1.sq
  | .frz xs, _, p, h => by
    simp only [RV] at h
    obtain ⟨a, ys, rfl, h1, _, h2⟩ := h
    simp only [gD, datD] at p
    simp only [gD, pyD]
    exact Dq.lst (.of h1) (RVs.dqG hg p h2)
  | .scr _, _, p, _ => by simp [gD, datD] at p
  | .frd kvs, _, p, h => by
    simp only [RV] at h
    obtain ⟨a, ws, rfl, h1, h2⟩ := h
    simp only [gD, datD] at p
    simp only [gD, pyD]
    rcases h1 with ⟨kv, e1, _, e2⟩ | ⟨⟨es, n, kd, kv, e1, e2⟩, _⟩
    · exact Dq.dic (.inl e1) (RKs.dqG hg p h2 e2)
    · exact Dq.dic (.inr ⟨es, n, kd, e1⟩) (RKs.dqG hg p h2 e2)
theorem RVs.dqG {g : Nat → D} (hg : ∀ n v, datD (g n) = true → RV K w ρ k H (.ref n) v → Dq K w H v (pyD (g n))) : ∀ {ds : List D} {vs : List V}, datDs (gDs g ds) = true → RVs K w ρ k H ds vs → DqAll K w H vs (pyDs (gDs g ds))
  | [], _, _, h => by simp only [RVs] at h; subst h; simpa only [gDs, pyDs] using DqAll.nil
  | d :: ds, _, p, h => by
    simp only [RVs] at h
    obtain ⟨v, r, rfl, h1, h2⟩ := h
    simp only [gDs, datDs, Bool.and_eq_true] at p
    simp only [gDs, pyDs]
    exact .cons (RV.dqG hg p.1 h1) (RVs.dqG hg p.2 h2)
theorem RKs.dqG {g : Nat → D} (hg : ∀ n v, datD (g n) = true → RV K w ρ k H (.ref n) v → Dq K w H v (pyD (g n))) : ∀ {kvs : List (D × D)} {ws : List (D × V)} {kv : List (Key × V)}, datKs (gKs g kvs) = true → RKs K w ρ k H kvs ws → kv.map (fun p => (some p.1, p.2)) = ws.map (fun p => (keyD p.1, p.2)) → DqKv K w H kv (pyKs (gKs g kvs))
  | [], _, kv, _, h, e => by
    simp only [RKs] at h
    subst h
    cases kv with
    | nil => simpa only [gKs, pyKs] using DqKv.nil
    | cons p kv => simp at e
  | (q, d) :: r, _, kv, p, h, e => by
    simp only [RKs] at h
    obtain ⟨v, ws, rfl, h1, h2⟩ := h
    simp only [gKs, datKs, Bool.and_eq_true] at p
    cases kv with
    | nil => simp at e
    | cons x kv =>
      obtain ⟨κ, v'⟩ := x
      simp only [List.map_cons, List.cons.injEq, Prod.mk.injEq] at e
      obtain ⟨⟨e1, rfl⟩, e2⟩ := e
      simp only [gKs, pyKs, key_py e1.symm]
      exact .cons (RV.dqG hg p.1.2 h1) (RKs.dqG hg p.2 h2 e2)
end
theorem RVs.dqM {f : D → D} (hf : ∀ d v, datD (f d) = true → RV K w ρ k H d v → Dq K w H v (pyD (f d))) : ∀ {ds : List D} {vs : List V}, datDs (ds.map f) = true → RVs K w ρ k H ds vs → DqAll K w H vs (pyDs (ds.map f))
  | [], _, _, h => by simp only [RVs] at h; subst h; simpa only [List.map_nil, pyDs] using DqAll.nil
  | d :: ds, _, p, h => by
    simp only [RVs] at h
    obtain ⟨v, r, rfl, h1, h2⟩ := h
    simp only [List.map_cons, datDs, Bool.and_eq_true] at p
    simp only [List.map_cons, pyDs]
    exact .cons (hf _ _ p.1 h1) (RVs.dqM hf p.2 h2)
theorem RDs.dqM {f : D → D} (hf : ∀ d v, datD (f d) = true → RV K w ρ k H d v → Dq K w H v (pyD (f d))) : ∀ {kvs : List (D × D)} {ws : List (Key × V)}, datKs (kvs.map fun p => (p.1, f p.2)) = true → RDs K w ρ k H kvs ws → DqKv K w H ws (pyKs (kvs.map fun p => (p.1, f p.2)))
  | [], _, _, h => by
    simp only [RDs] at h
    subst h
    simpa only [List.map_nil, pyKs] using DqKv.nil
  | (q, d) :: r, _, p, h => by
    simp only [RDs] at h
    obtain ⟨κ, v, ws, rfl, e1, h1, h2⟩ := h
    simp only [List.map_cons, datKs, Bool.and_eq_true] at p
    simp only [List.map_cons, pyKs, key_py e1]
    exact .cons (hf _ _ p.1.2 h1) (RDs.dqM hf p.2 h2)
theorem RV.dqF (s : Sim K w ρ k H st) : ∀ (f : Nat) (d : D) (v : V), datD (lookF st f d) = true → RV K w ρ k H d v → Dq K w H v (pyD (lookF st f d))
  | 0, d, v, p, h => RV.dq p h
  | f + 1, d, v, p, h => by
    rw [lookF] at p ⊢
    refine RV.dqG (fun n v p h => ?_) p h
    try dsimp only at p ⊢
    simp only [RV] at h
    obtain ⟨a, rfl, _, hn⟩ := h
    cases q : st[n]? with
    | none => simp only [q, datD] at p; cases p
    | some o =>
      obtain ⟨b, e, ro⟩ := s.at_ n o q
      rw [hn] at e
      cases e
      cases o with
      | lst xs =>
        obtain ⟨ys, h1, h2⟩ := ro
        simp only [q] at p ⊢
        simp only [pyD]
        exact Dq.lst (.of h1) (RVs.dqM (fun d v => RV.dqF s f d v) (by simpa only [datD] using p) h2)
      | dic kvs =>
        obtain ⟨ws, h1, h2⟩ := ro
        simp only [q] at p ⊢
        simp only [pyD]
        exact Dq.dic (.inl h1) (RDs.dqM (fun d v => RV.dqF s f d v) (by simpa only [datD] using p) h2)
      | _ => simp only [q, datD] at p; cases p
end
section
variable {X : Cx} {pins : List (Addr × Obj)} {τ : St} {H : Hp} {s : Shared}
theorem EsR.of {P : Program} {w : World} : ∀ {es : List DictEntry} {vs : List (Key × Value)} {kv : List (Key × V)}, Pairs (mixKind P w) es vs → KV kv vs → EsR es kv
  | [], _, kv, h, g => by
    cases h
    cases g
    rfl
  | e :: es, _, kv, h, g => by
    cases h with
    | @cons _ q _ qs h1 h2 h3 =>
      cases g with
      | @cons p _ ps _ g1 g2 =>
        obtain ⟨κ, v⟩ := p
        obtain ⟨g3, g4⟩ := g1
        refine ⟨κ, v, ps, rfl, ?_, ?_, EsR.of h3 g2⟩
        · rw [show κ = q.1 from g3]; exact h1
        · rw [h2]; exact g4
theorem Dk.at_ (I : Inv X pins τ H s) {a : Addr} {kv : List (Key × V)} (h : Dk X.K X.w H a kv) : ∃ (o : Obj) (es : Array DictEntry) (n : Nat), s.heap.get? a = some o ∧ o.cls = .type "dict" ∧ o.data = .dict es n ∧ EsR es.toList kv ∧ a ≠ sysModules := by
  rcases h with h | ⟨es, n, D, r⟩
  · obtain ⟨_, hs, vs, r, o, es, ep, ho, hx, hd, _, hp, _⟩ := dk_of I.hok h
    exact ⟨o, es, ep, ho, hx.1, hd, EsR.of hp r, by simpa using hs⟩
  · exact ⟨_, es, n, I.kIn _ _ D.at_, rfl, rfl, r, by simpa using D.low⟩
theorem SqL.apart (I : Inv X pins τ H s) (y : SysD X.K) {a : Addr} {o : Obj} (e : s.heap.get? a = some o) (c : o.cls = .type "list") : a ≠ sysModules := fun z => by
  obtain ⟨o', h1, h2⟩ := y
  have h3 := I.kIn _ _ h1
  rw [z, h3] at e
  have e1 := Option.some.inj e
  rw [← e1, h2] at c
  exact absurd c (by decide)
theorem keys_read {h : Heap} : ∀ {es : List DictEntry} {kv : List (Key × V)} {ds : List (PyData × PyData)} {w : World} {K : PySem.W.Frag}, EsR es kv → DqKv K w H kv ds → ∃ as, ReadsAll h (es.map (·.key)) (ds.map (·.1)) as ∧ sysModules ∉ as
  | [], _, _, _, _, e, q => by
    simp only [EsR] at e
    subst e
    cases q
    exact ⟨[], .nil, by simp⟩
  | e :: es, _, _, _, _, r, q => by
    simp only [EsR] at r
    obtain ⟨κ, v, kv, rfl, h1, h2, h3⟩ := r
    cases q with
    | cons q1 q2 =>
      obtain ⟨as, g1, g2⟩ := keys_read (h := h) h3 q2
      rcases keyIs_shape h1 with ⟨i, t, rfl, e2⟩ | ⟨x, t, rfl, e2⟩
      · refine ⟨[] ++ as, ?_, by simpa using g2⟩
        simp only [List.map_cons]
        refine .cons ?_ g1
        rw [e2]
        exact .int i t
      · refine ⟨[] ++ as, ?_, by simpa using g2⟩
        simp only [List.map_cons]
        refine .cons ?_ g1
        rw [e2]
        exact .str x t
mutual
theorem Dq.reads (I : Inv X pins τ H s) (y : SysD X.K) : ∀ (d : PyData) (v : V) (u : Value), Dq X.K X.w H v d → RelV v u → ∃ as, Reads s.heap u d as ∧ sysModules ∉ as
  | .none, _, _, h, r => by
    cases h
    cases r
    exact ⟨_, Reads.none, by simp⟩
  | .bool b, _, _, h, r => by
    cases h
    cases r
    exact ⟨_, Reads.bool b, by simp⟩
  | .int i, _, _, h, r => by
    cases h
    obtain ⟨t, rfl⟩ := r
    exact ⟨_, Reads.int i t, by simp⟩
  | .str x, _, _, h, r => by
    cases h
    obtain ⟨t, rfl⟩ := r
    exact ⟨_, Reads.str x t, by simp⟩
  | .list ds, _, _, h, r => by
    cases h with
    | lst h1 h2 =>
      cases r
      obtain ⟨its, e4, ⟨o, n, e1, e2, _, e3⟩, _⟩ := I.list h1
      obtain ⟨as, g1, g2⟩ := DqAll.reads I y ds _ _ h2 e4
      exact ⟨_, Reads.list e1 e2 e3 g1, by
        simp only [List.mem_cons, not_or]
        exact ⟨fun z => SqL.apart I y e1 e2 z.symm, g2⟩⟩
  | .tuple ds, _, _, h, r => by
    cases h with
    | tup h1 h2 =>
      cases r
      obtain ⟨its, e4, ⟨o, e1, e2, n, e3⟩, _⟩ := I.tuple h1
      obtain ⟨as, g1, g2⟩ := DqAll.reads I y ds _ _ h2 e4
      exact ⟨_, Reads.tuple e1 e2 e3 g1, g2⟩
  | .dict ds, _, _, h, r => by
    cases h with
    | dic h1 h2 =>
      cases r
      obtain ⟨o, es, n, e1, e2, e3, e4, e5⟩ := h1.at_ I
      obtain ⟨as, g1, g2⟩ := keys_read (h := s.heap) e4 h2
      obtain ⟨bs, g3, g4⟩ := DqKv.reads I y ds _ _ h2 e4
      exact ⟨_, Reads.dict e1 e2 e3 g1 g3, by
        simp only [List.cons_append, List.mem_cons, List.mem_append, not_or]
        exact ⟨fun z => e5 z.symm, g2, g4⟩⟩
theorem DqAll.reads (I : Inv X pins τ H s) (y : SysD X.K) : ∀ (ds : List PyData) (vs : List V) (us : List Value), DqAll X.K X.w H vs ds → Vals vs us → ∃ as, ReadsAll s.heap us ds as ∧ sysModules ∉ as
  | [], _, _, h, r => by
    cases h
    cases r
    exact ⟨_, .nil, by simp⟩
  | d :: ds, _, _, h, r => by
    cases h with
    | cons h1 h2 =>
      cases r with
      | cons r1 r2 =>
        obtain ⟨as, g1, g2⟩ := Dq.reads I y d _ _ h1 r1
        obtain ⟨bs, g3, g4⟩ := DqAll.reads I y ds _ _ h2 r2
        exact ⟨_, .cons g1 g3, by simp only [List.mem_append, not_or]; exact ⟨g2, g4⟩⟩
theorem DqKv.reads (I : Inv X pins τ H s) (y : SysD X.K) : ∀ (ds : List (PyData × PyData)) (kv : List (Key × V)) (es : List DictEntry), DqKv X.K X.w H kv ds → EsR es kv → ∃ as, ReadsAll s.heap (es.map (·.val)) (ds.map (·.2)) as ∧ sysModules ∉ as
  | [], _, es, h, r => by
    cases h
    cases es with
    | nil => exact ⟨_, .nil, by simp⟩
    | cons e es => simp [EsR] at r
  | (pk, d) :: ds, _, es, h, r => by
    cases h with
    | cons h1 h2 =>
      cases es with
      | nil => simp [EsR] at r
      | cons e es =>
        simp only [EsR] at r
        obtain ⟨κ', v', kv', e0, _, r1, r2⟩ := r
        simp only [List.cons.injEq, Prod.mk.injEq] at e0
        obtain ⟨⟨rfl, rfl⟩, rfl⟩ := e0
        obtain ⟨as, g1, g2⟩ := Dq.reads I y d _ _ h1 r1
        obtain ⟨bs, g3, g4⟩ := DqKv.reads I y ds _ _ h2 r2
        simp only [List.map_cons]
        exact ⟨_, .cons g1 g3, by simp only [List.mem_append, not_or]; exact ⟨g2, g4⟩⟩
end
end
end PV
set_option Elab.async false
set_option linter.all false
set_option maxRecDepth 100000
set_option maxHeartbeats 4000000
/-! PvFun: comparisons, built-in functions, methods, subscripts, by values. -/
namespace PV
open PySem L2
def Cop.py : Cop → CmpOp
  | .eq => .Eq | .ne => .NotEq | .lt => .Lt | .le => .LtE | .gt => .Gt | .ge => .GtE | .is => .Is | .isnot => .IsNot | .inn => .In | .notin => .NotIn
section
variable {X : Cx}
/-- a comparison's reading: its answer is a bool -/
def rC (K : PySem.W.Frag) (w : World) (f : D → D → Store → Option Bool) : R2 := fun v u H Q => ∃ ρ k st x y b, Sim K w ρ k H st ∧ RV K w ρ k H x v ∧ RV K w ρ k H y u ∧ f x y st = some b ∧ Q (.bl b) H
theorem lenNe_of {a b : D} {c : Bool} (h : lenNe a b = some c) : ∃ xs ys, a = .frz xs ∧ b = .frz ys ∧ xs.length ≠ ys.length ∧ c = false := by
  unfold lenNe at h
  split at h
  · split at h
    · cases h
    · rename_i ne
      exact ⟨_, _, rfl, rfl, ne, (Option.some.inj h).symm⟩
  · cases h
theorem RV.sqL {K : PySem.W.Frag} {w : World} {ρ : Lc} {k : Nat} {H : Hp} {st : Store} {d : D} {v : V} {xs : List D} (h : RV K w ρ k H d v) (s : Sim K w ρ k H st) (e : look st d = .frz xs) : ∃ a ys, v = .ref a ∧ SqL K H a ys ∧ ys.length = xs.length := by
  cases d with
  | frz zs =>
    simp only [look, D.frz.injEq] at e
    subst e
    simp only [RV] at h
    obtain ⟨a, ys, rfl, h1, _, h2⟩ := h
    exact ⟨a, ys, rfl, .of h1, h2.length.symm⟩
  | ref n =>
    cases q : st[n]? with
    | none => simp only [look, q] at e; cases e
    | some o =>
      cases o with
      | lst zs =>
        simp only [look, q, D.frz.injEq] at e
        subst e
        obtain ⟨a, ys, rfl, h1, h2⟩ := h.asL s (xs := zs) (by simp [PV.asL, q])
        exact ⟨a, ys, rfl, .of h1, h2.length.symm⟩
      | _ => simp only [look, q] at e; cases e
  | _ => simp only [look] at e; cases e
theorem oc_eq (hu : X.A.units + 64 < cLine) : OpR X (compareOp .Eq) (rC X.K X.w fun x y st => eqS st x y) := by
  intro pins s τ H v u V U Q I rv ru ⟨ρ, k, st, x, y, b, sm, rx, ry, e, q⟩
  simp only [eqS] at e
  split at e
  · rename_i hs
    cases e
    obtain ⟨f1, f2, f3, f4⟩ := scal_of hs
    have e1 := rx.flatW f1
    have e2 := ry.flatW f2
    subst e1 e2
    exact op_eq pins s τ H _ _ V U Q I rv ru ⟨f3, by rw [f4]; exact q⟩
  · split at e
    · rename_i hp
      simp only [Bool.and_eq_true, decide_eq_true_eq] at hp
      cases e
      obtain ⟨⟨⟨h1, h2⟩, h3⟩, h4⟩ := hp
      refine op_eqD hu pins s τ H _ _ V U Q I rv ru ⟨_, _, rx.dpL sm h1, ry.dpL sm h2, pyD_shaped h1 h3, pyD_shaped h2 h4, ?_⟩
      rw [pyD_eqv h1 h2]
      exact q
    · rcases Option.or_eq_some_iff.mp e with e | ⟨_, e⟩
      case inr =>
        split at e
        · rename_i hp
          simp only [Bool.and_eq_true, decide_eq_true_eq] at hp
          cases e
          obtain ⟨⟨⟨h1, h2⟩, h3⟩, h4⟩ := hp
          refine op_eqD hu pins s τ H _ _ V U Q I rv ru ⟨_, _, rx.dpF sm 4 _ _ h1, ry.dpF sm 4 _ _ h2, pyD_shaped h1 h3, pyD_shaped h2 h4, ?_⟩
          rw [pyD_eqv (a := lookF st 4 x) (b := lookF st 4 y) h1 h2]
          exact q
        · cases e
      obtain ⟨xs, ys, e1, e2, ne, rfl⟩ := lenNe_of  e
      obtain ⟨a, us, rfl, g1, g2⟩ := rx.sqL sm e1
      obtain ⟨a', us', rfl, g3, g4⟩ := ry.sqL sm e2
      cases rv
      cases ru
      obtain ⟨its, r1, ⟨o, n, ho, hc, _, hd⟩, _⟩ := I.list g1
      obtain ⟨its', r2, ⟨o', n', ho', hc', _, hd'⟩, _⟩ := I.list g3
      have l1 := Vals.length r1
      have l2 := Vals.length r2
      exact SeqAt.RcAt.lists_lengths ⟨_, ho, hc, _, hd⟩ ⟨_, ho', hc', _, hd'⟩ (by simp only [bne_iff_ne, ne_eq, List.size_toArray]; omega) (by omega) X.prog X.w _ _ ⟨.bl false, H, I, rfl, q⟩
theorem oc_ne (hu : X.A.units + 64 < cLine) : OpR X (compareOp .NotEq) (rC X.K X.w fun x y st => (eqS st x y).map (!·)) := by
  intro pins s τ H v u V U Q I rv ru ⟨ρ, k, st, x, y, b, sm, rx, ry, e, q⟩
  obtain ⟨b', e2, rfl⟩ := Option.map_eq_some_iff.mp (show Option.map (fun x => !x) (eqS st x y) = some b from e)
  clear e
  have e := e2
  clear e2
  simp only [eqS] at e
  split at e
  · rename_i hs
    cases e
    obtain ⟨f1, f2, f3, f4⟩ := scal_of hs
    have e1 := rx.flatW f1
    have e2 := ry.flatW f2
    subst e1 e2
    exact op_ne pins s τ H _ _ V U Q I rv ru ⟨f3, by rw [f4]; exact q⟩
  · split at e
    · rename_i hp
      simp only [Bool.and_eq_true, decide_eq_true_eq] at hp
      cases e
      obtain ⟨⟨⟨h1, h2⟩, h3⟩, h4⟩ := hp
      refine op_neD hu pins s τ H _ _ V U Q I rv ru ⟨_, _, rx.dpL sm h1, ry.dpL sm h2, pyD_shaped h1 h3, pyD_shaped h2 h4, ?_⟩
      rw [pyD_eqv h1 h2]
      exact q
    · rcases Option.or_eq_some_iff.mp e with e | ⟨_, e⟩
      case inr =>
        split at e
        · rename_i hp
          simp only [Bool.and_eq_true, decide_eq_true_eq] at hp
          cases e
          obtain ⟨⟨⟨h1, h2⟩, h3⟩, h4⟩ := hp
          refine op_neD hu pins s τ H _ _ V U Q I rv ru ⟨_, _, rx.dpF sm 4 _ _ h1, ry.dpF sm 4 _ _ h2, pyD_shaped h1 h3, pyD_shaped h2 h4, ?_⟩
          rw [pyD_eqv (a := lookF st 4 x) (b := lookF st 4 y) h1 h2]
          exact q
        · cases e
      obtain ⟨xs, ys, e1, e2, ne, rfl⟩ := lenNe_of  e
      obtain ⟨a, us, rfl, g1, g2⟩ := rx.sqL sm e1
      obtain ⟨a', us', rfl, g3, g4⟩ := ry.sqL sm e2
      cases rv
      cases ru
      obtain ⟨its, r1, ⟨o, n, ho, hc, _, hd⟩, _⟩ := I.list g1
      obtain ⟨its', r2, ⟨o', n', ho', hc', _, hd'⟩, _⟩ := I.list g3
      have l1 := Vals.length r1
      have l2 := Vals.length r2
      exact SeqAt.RcNeAt.lists_lengths ⟨_, ho, hc, _, hd⟩ ⟨_, ho', hc', _, hd'⟩ (by simp only [bne_iff_ne, ne_eq, List.size_toArray]; omega) (by omega) X.prog X.w _ _ ⟨.bl true, H, I, rfl, q⟩
theorem cmpI_cases {p : Int → Int → Bool} {q : List Nat → List Nat → Bool} {x y : D} {b : Bool} (h : cmpI p q x y = some b) : (∃ i j, x = .int i ∧ y = .int j ∧ b = p i j) ∨ ∃ i j, x = .str i ∧ y = .str j ∧ b = q i j := by
  cases x with
  | int i => cases y with
    | int j => exact .inl ⟨i, j, rfl, rfl, (Option.some.inj h).symm⟩
    | _ => cases h
  | str i => cases y with
    | str j => exact .inr ⟨i, j, rfl, rfl, (Option.some.inj h).symm⟩
    | _ => cases h
  | _ => cases h
theorem oc_lt : OpR X (compareOp .Lt) (rC X.K X.w fun x y st => cmpI (fun i j => decide (i < j)) (fun i j => ltText i j) x y) := by
  intro pins s τ H v u V U Q I rv ru ⟨ρ, k, st, x, y, b, sm, rx, ry, e, q⟩
  rcases cmpI_cases e with ⟨i, j, rfl, rfl, rfl⟩ | ⟨i, j, rfl, rfl, rfl⟩ <;> (simp only [RV] at rx ry; subst rx ry)
  · exact op_lt pins s τ H _ _ V U Q I rv ru ⟨i, j, rfl, rfl, q⟩
  · exact op_lt_str pins s τ H _ _ V U Q I rv ru ⟨_, _, rfl, rfl, by rw [tx_list, tx_list, ← ltText_eq]; exact q⟩
theorem oc_le : OpR X (compareOp .LtE) (rC X.K X.w fun x y st => cmpI (fun i j => decide (i ≤ j)) (fun i j => !ltText j i) x y) := by
  intro pins s τ H v u V U Q I rv ru ⟨ρ, k, st, x, y, b, sm, rx, ry, e, q⟩
  rcases cmpI_cases e with ⟨i, j, rfl, rfl, rfl⟩ | ⟨i, j, rfl, rfl, rfl⟩ <;> (simp only [RV] at rx ry; subst rx ry)
  · exact op_le pins s τ H _ _ V U Q I rv ru ⟨i, j, rfl, rfl, q⟩
  · exact op_le_str pins s τ H _ _ V U Q I rv ru ⟨_, _, rfl, rfl, by rw [tx_list, tx_list, ← ltText_eq]; exact q⟩
theorem oc_gt : OpR X (compareOp .Gt) (rC X.K X.w fun x y st => cmpI (fun i j => decide (j < i)) (fun i j => ltText j i) x y) := by
  intro pins s τ H v u V U Q I rv ru ⟨ρ, k, st, x, y, b, sm, rx, ry, e, q⟩
  rcases cmpI_cases e with ⟨i, j, rfl, rfl, rfl⟩ | ⟨i, j, rfl, rfl, rfl⟩ <;> (simp only [RV] at rx ry; subst rx ry)
  · exact op_gt pins s τ H _ _ V U Q I rv ru ⟨i, j, rfl, rfl, q⟩
  · exact op_gt_str pins s τ H _ _ V U Q I rv ru ⟨_, _, rfl, rfl, by rw [tx_list, tx_list, ← ltText_eq]; exact q⟩
theorem oc_ge : OpR X (compareOp .GtE) (rC X.K X.w fun x y st => cmpI (fun i j => decide (j ≤ i)) (fun i j => !ltText i j) x y) := by
  intro pins s τ H v u V U Q I rv ru ⟨ρ, k, st, x, y, b, sm, rx, ry, e, q⟩
  rcases cmpI_cases e with ⟨i, j, rfl, rfl, rfl⟩ | ⟨i, j, rfl, rfl, rfl⟩ <;> (simp only [RV] at rx ry; subst rx ry)
  · exact op_ge pins s τ H _ _ V U Q I rv ru ⟨i, j, rfl, rfl, q⟩
  · exact op_ge_str pins s τ H _ _ V U Q I rv ru ⟨_, _, rfl, rfl, by rw [tx_list, tx_list, ← ltText_eq]; exact q⟩
/-- who is None -/
theorem RV.non_iff {K : PySem.W.Frag} {w : World} {ρ : Lc} {k : Nat} {H : Hp} {d : D} {v : V} (h : RV K w ρ k H d v) : decide (v = .non) = decide (d = .non) := by
  cases d <;> simp only [RV] at h
  · subst h; rfl
  · subst h; rfl
  · subst h; rfl
  · subst h; rfl
  · obtain ⟨a, _, rfl, _⟩ := h; rfl
  · obtain ⟨a, _, rfl, _⟩ := h; rfl
  · obtain ⟨a, rfl, _⟩ := h; rfl
  · obtain ⟨a, _, rfl, _⟩ := h; rfl
  · obtain ⟨a, rfl, _⟩ := h; rfl
theorem isOp_cases {st : Store} {x y : D} {b : Bool} (h : isOp st x y = some b) : (y = .non ∧ b = decide (x = .non)) ∨ ∃ m n, x = .ref m ∧ y = .ref n ∧ objAt st m = true ∧ objAt st n = true ∧ b = (m == n) := by
  cases y with
  | non => cases x <;> (cases h; exact .inl ⟨rfl, rfl⟩)
  | ref n => cases x with
    | ref m =>
      simp only [isOp] at h
      split at h
      · rename_i hc
        simp only [Bool.and_eq_true] at hc
        cases h
        exact .inr ⟨m, n, rfl, rfl, hc.1, hc.2, rfl⟩
      · cases h
    | _ => cases h
  | _ => cases x <;> cases h
theorem ref_obj {K : PySem.W.Frag} {w : World} {ρ : Lc} {k : Nat} {H : Hp} {st : Store} {n : Nat} {v : V} (s : Sim K w ρ k H st) (h : RV K w ρ k H (.ref n) v) (ho : objAt st n = true) : ∃ a o, v = .ref a ∧ n < k ∧ ρ n = some a ∧ H a = some o ∧ isObj o = true := by
  simp only [RV] at h
  obtain ⟨a, rfl, hn, ha⟩ := h
  unfold objAt at ho
  split at ho
  · rename_i xs hx
    obtain ⟨b, h1, h2⟩ := s.at_ n _ hx
    rw [ha] at h1
    cases h1
    obtain ⟨ys, h3, _⟩ := h2
    exact ⟨a, _, rfl, hn, ha, h3, rfl⟩
  · rename_i c xs hx
    obtain ⟨b, h1, h2⟩ := s.at_ n _ hx
    rw [ha] at h1
    cases h1
    obtain ⟨dx, ys, h3, _⟩ := h2
    exact ⟨a, _, rfl, hn, ha, h3, rfl⟩
  · cases ho
theorem ref_dec {K : PySem.W.Frag} {w : World} {ρ : Lc} {k : Nat} {H : Hp} {st : Store} {m n : Nat} {a b : Addr} (s : Sim K w ρ k H st) (hm : m < k) (hn : n < k) (ha : ρ m = some a) (hb : ρ n = some b) : decide (a = b) = (m == n) := by
  by_cases e : m = n
  · subst e
    rw [ha] at hb
    cases hb
    simp
  · have : a ≠ b := by
      rintro rfl
      exact e (s.inj m n a hm hn ha hb)
    simp [this, e]
theorem oc_is : OpR X (compareOp .Is) (rC X.K X.w fun x y st => isOp st x y) := by
  intro pins s τ H v u V U Q I rv ru ⟨ρ, k, st, x, y, b, sm, rx, ry, e, q⟩
  rcases isOp_cases e with ⟨rfl, rfl⟩ | ⟨m, n, rfl, rfl, om, on, rfl⟩
  · refine op_isN pins s τ H _ _ V U Q I rv ru ⟨by simpa only [RV] using ry, ?_⟩
    rw [rx.non_iff]
    exact q
  · obtain ⟨a, oa, rfl, hm, ea, ha, ja⟩ := ref_obj sm rx om
    obtain ⟨c, oc, rfl, hn, ec, hc, jc⟩ := ref_obj sm ry on
    refine op_is_ref pins s τ H _ _ V U Q I rv ru ⟨a, c, oa, oc, rfl, rfl, ha, ja, hc, jc, ?_⟩
    rw [ref_dec sm hm hn ea ec]
    exact q
theorem oc_isnot : OpR X (compareOp .IsNot) (rC X.K X.w fun x y st => (isOp st x y).map (!·)) := by
  intro pins s τ H v u V U Q I rv ru ⟨ρ, k, st, x, y, b, sm, rx, ry, e, q⟩
  obtain ⟨b', e2, rfl⟩ := Option.map_eq_some_iff.mp (show Option.map (fun x => !x) (isOp st x y) = some b from e)
  rcases isOp_cases e2 with ⟨rfl, rfl⟩ | ⟨m, n, rfl, rfl, om, on, rfl⟩
  · refine op_notN pins s τ H _ _ V U Q I rv ru ⟨by simpa only [RV] using ry, ?_⟩
    rw [rx.non_iff]
    exact q
  · obtain ⟨a, oa, rfl, hm, ea, ha, ja⟩ := ref_obj sm rx om
    obtain ⟨c, oc, rfl, hn, ec, hc, jc⟩ := ref_obj sm ry on
    refine op_isnot_ref pins s τ H _ _ V U Q I rv ru ⟨a, c, oa, oc, rfl, rfl, ha, ja, hc, jc, ?_⟩
    rw [ref_dec sm hm hn ea ec]
    exact q
theorem inV_of {K : PySem.W.Frag} {w : World} {ρ : Lc} {k : Nat} {H : Hp} {x : D} (fx : PV.flat x = true) : ∀ {ds : List D}, ds.all PV.flat = true → inV (flatW x) (ds.map flatW) = ds.any fun y => eqF y x
  | [], _ => rfl
  | d :: ds, f => by
    simp only [List.all_cons, Bool.and_eq_true] at f
    have ih := inV_of (K := K) (w := w) (ρ := ρ) (k := k) (H := H) fx f.2
    unfold inV at ih ⊢
    rw [List.map_cons, List.any_cons, List.any_cons, eqV_of f.1 fx, ih]
theorem flats_of : ∀ {ds : List D}, ds.all PV.flat = true → (ds.map flatW).all flatV = true
  | [], _ => rfl
  | d :: ds, f => by
    simp only [List.all_cons, Bool.and_eq_true] at f
    rw [List.map_cons, List.all_cons, flatV_of f.1, flats_of f.2]
    rfl
theorem in_cases {K : PySem.W.Frag} {w : World} {ρ : Lc} {k : Nat} {H : Hp} {st : Store} {x y : D} {v u : V} {b : Bool} (sm : Sim K w ρ k H st) (rx : RV K w ρ k H x v) (ry : RV K w ρ k H y u) (e : inOp st x y = some b) :
    (∃ c t, v = .str ⟨#[c]⟩ ∧ u = .str (tx t) ∧ b = decide (c ∈ t)) ∨ (∃ a o, u = .ref a ∧ DGet H a v o ∧ b = o.isSome) ∨ (∃ a es n z r, u = .ref a ∧ KDict K w a es n ∧ v = .str (tx z) ∧ PySem.W.nsIn K a (tx z) = some r ∧ b = r.isSome) ∨
      ∃ a ys, u = .ref a ∧ (SqL K H a ys ∨ SqT K H a ys) ∧ flatV v = true ∧ ys.all flatV = true ∧ b = inV v ys := by
  have go : (match dictOf st y x with
      | some kvs => some (dget kvs x).isSome
      | none => match asQ st y with
        | some xs => if PV.flat x && xs.all PV.flat then some (xs.any fun y => eqF y x) else none
        | none => none) = some b → (∃ a o, u = .ref a ∧ DGet H a v o ∧ b = o.isSome) ∨ (∃ a es n z r, u = .ref a ∧ KDict K w a es n ∧ v = .str (tx z) ∧ PySem.W.nsIn K a (tx z) = some r ∧ b = r.isSome) ∨
      ∃ a ys, u = .ref a ∧ (SqL K H a ys ∨ SqT K H a ys) ∧ flatV v = true ∧ ys.all flatV = true ∧ b = inV v ys := fun e => by
    cases ed : dictOf st y x with
    | some kvs =>
      rw [ed] at e
      obtain ⟨a, rfl, h, fx⟩ := dictR sm ry ed
      cases e
      rw [rx.flatW fx]
      rcases h with ⟨o, h1, h2⟩ | ⟨z, es, n, r, rfl, h1, h2, h3⟩
      · refine .inl ⟨a, o, rfl, h1, ?_⟩
        cases c : dget kvs x with
        | none => rw [c] at h2; rw [show o = none from h2]; rfl
        | some d => rw [c] at h2; obtain ⟨_, h3, _⟩ := h2; rw [h3] <;> rfl
      · refine .inr (.inl ⟨a, es, n, z, r, rfl, h1, rfl, h2, ?_⟩)
        cases c : dget kvs (.str z) with
        | none => rw [c] at h3; rw [show r = none from h3]; rfl
        | some d => rw [c] at h3; obtain ⟨_, _, h3, _⟩ := h3; rw [h3] <;> rfl
    | none =>
      rw [ed] at e
      dsimp only at e
      cases eq : asQ st y with
      | none => rw [eq] at e; cases e
      | some xs =>
        rw [eq] at e
        dsimp only at e
        split at e
        · rename_i hf
          cases e
          simp only [Bool.and_eq_true] at hf
          obtain ⟨a, ys, rfl, h1, h2⟩ := ry.asQ sm eq
          have e1 := rx.flatW hf.1
          have e2 := h2.flats hf.2
          subst e1 e2
          exact .inr (.inr ⟨a, _, rfl, h1, flatV_of hf.1, flats_of hf.2, (inV_of (K := K) (w := w) (ρ := ρ) (k := k) (H := H) hf.1 hf.2).symm⟩)
        · cases e
  unfold inOp at e
  split at e
  · rename_i c t
    cases e
    simp only [RV] at rx ry
    exact .inl ⟨c, t, rx, ry, rfl⟩
  · exact .inr (go e)
theorem oc_in (hu : X.A.units + 64 < cLine) : OpR X (compareOp .In) (rC X.K X.w fun x y st => inOp st x y) := by
  intro pins s τ H v u V U Q I rv ru ⟨ρ, k, st, x, y, b, sm, rx, ry, e, q⟩
  rcases in_cases sm rx ry e with ⟨c, t, rfl, rfl, rfl⟩ | ⟨a, o, rfl, h1, rfl⟩ | ⟨a, es, n, z, r, rfl, D, rfl, h2, rfl⟩ | ⟨a, ys, rfl, h1, h2, h3, rfl⟩
  · exact op_in_sign pins s τ H _ _ V U Q I rv ru ⟨c, _, rfl, rfl, by rw [tx_list]; exact q⟩
  · cases ru
    exact d_in (by omega) I h1 rv fun s' I' => ⟨.bl _, H, I', rfl, q⟩
  · exact op_in_kd D pins s τ H _ _ V U Q I rv ru ⟨_, _, rfl, rfl, h2, q⟩
  · exact op_in_seq pins s τ H _ _ V U Q I rv ru ⟨a, ys, rfl, h1, h2, h3, q⟩
theorem oc_notin (hu : X.A.units + 64 < cLine) : OpR X (compareOp .NotIn) (rC X.K X.w fun x y st => (inOp st x y).map (!·)) := by
  intro pins s τ H v u V U Q I rv ru ⟨ρ, k, st, x, y, b, sm, rx, ry, e, q⟩
  obtain ⟨b', e2, rfl⟩ := Option.map_eq_some_iff.mp e
  rcases in_cases sm rx ry e2 with ⟨c, t, rfl, rfl, rfl⟩ | ⟨a, o, rfl, h1, rfl⟩ | ⟨a, es, n, z, r, rfl, D, rfl, h2, rfl⟩ | ⟨a, ys, rfl, h1, h2, h3, rfl⟩
  · exact op_notIn_sign pins s τ H _ _ V U Q I rv ru ⟨c, _, rfl, rfl, by rw [tx_list]; exact q⟩
  · cases ru
    exact d_notIn (by omega) I h1 rv fun s' I' => ⟨.bl _, H, I', rfl, q⟩
  · exact op_notIn_kd D pins s τ H _ _ V U Q I rv ru ⟨_, _, rfl, rfl, h2, q⟩
  · exact op_notIn_seq pins s τ H _ _ V U Q I rv ru ⟨a, ys, rfl, h1, h2, h3, q⟩
theorem oc_all (hu : X.A.units + 64 < cLine) : ∀ o : Cop, OpR X (compareOp o.py) (rC X.K X.w (cmpop o))
  | .eq => oc_eq hu | .ne => oc_ne hu | .lt => oc_lt | .le => oc_le | .gt => oc_gt | .ge => oc_ge | .is => oc_is | .isnot => oc_isnot | .inn => oc_in hu | .notin => oc_notin hu
/-- as a step -/
theorem rC_of {K : PySem.W.Frag} {w : World} {o : Cop} {v u : V} {H : Hp} {Q : VK} (h : r2D K w (cmpR o) v u H Q) : rC K w (cmpop o) v u H Q := by
  obtain ⟨ρ, k, st, x, y, W, sm, rx, ry, run⟩ := h
  unfold cmpR at run
  cases e : cmpop o x y st with
  | none => rw [e] at run; exact run.elim
  | some b => rw [e] at run; exact ⟨ρ, k, st, x, y, b, sm, rx, ry, e, run.now sm _ (by simp only [RV])⟩
/-! ### truth -/
theorem truV {K : PySem.W.Frag} {w : World} {ρ : Lc} {k : Nat} {H : Hp} {st : Store} {d : D} {v : V} {b : Bool} (sm : Sim K w ρ k H st) (r : RV K w ρ k H d v) (e : truth st d = some b) : TruV K v H b := by
  cases d with
  | non => simp only [RV] at r; subst r; cases e; rfl
  | bl c => simp only [RV] at r; subst r; cases e; rfl
  | int i => simp only [RV] at r; subst r; cases e; rfl
  | str s =>
    simp only [RV] at r
    subst r
    simp only [truth] at e
    split at e
    · rename_i hl
      cases e
      refine ⟨by rw [tx_len, line_eq]; exact hl, ?_⟩
      rw [tx_len]
      cases s <;> simp
      omega
    · cases e
  | tup xs =>
    cases e
    obtain ⟨a, ys, rfl, h1, h2⟩ := r.asQ sm (xs := xs) rfl
    have : ys.isEmpty = xs.isEmpty := by
      have := h2.length
      cases xs <;> cases ys <;> simp_all
    rw [← this]
    rcases h1 with h1 | h1
    · exact .inl ⟨ys, h1, rfl⟩
    · exact .inr (.inl ⟨ys, h1, rfl⟩)
  | frz xs =>
    cases e
    obtain ⟨a, ys, rfl, h1, h2⟩ := r.asQ sm (xs := xs) rfl
    have : ys.isEmpty = xs.isEmpty := by
      have := h2.length
      cases xs <;> cases ys <;> simp_all
    rw [← this]
    rcases h1 with h1 | h1
    · exact .inl ⟨ys, h1, rfl⟩
    · exact .inr (.inl ⟨ys, h1, rfl⟩)
  | scr ns =>
    cases e
    obtain ⟨a, rfl, sq⟩ := r.script
    refine .inl ⟨_, sq, ?_⟩
    cases ns <;> rfl
  | frd kvs => cases e
  | ref n =>
    simp only [truth] at e
    split at e
    · rename_i xs hx
      cases e
      obtain ⟨a, ys, rfl, h1, h2⟩ := r.asL sm (xs := xs) (by simp [PV.asL, hx])
      refine .inl ⟨ys, .of h1, ?_⟩
      have := h2.length
      cases xs <;> cases ys <;> simp_all
    · rename_i kvs hx
      cases e
      simp only [RV] at r
      obtain ⟨a, rfl, hn, ha⟩ := r
      obtain ⟨c, h1, h2⟩ := sm.at_ n _ hx
      rw [ha] at h1
      cases h1
      obtain ⟨ws, h3, h4⟩ := h2
      refine .inr (.inr ⟨ws, h3, ?_⟩)
      cases kvs with
      | nil => rw [show ws = [] from h4]; rfl
      | cons p r =>
        obtain ⟨q, d⟩ := p
        obtain ⟨_, _, _, rfl, _⟩ := h4
        rfl
    · cases e
end
end PV
set_option Elab.async false
set_option linter.all false
set_option maxRecDepth 100000
set_option maxHeartbeats 4000000
/-! PvTxt: list(text). -/
namespace PV
open PySem L2
section
variable {pr : Program} {ww : World} {AA : Around} {s0 : Shared}
theorem txt_ext {RR : Result → Shared → Prop} (nh : AA.handled = none) (z : Str) (tz : Tok) (q : Addr) (cq : Nat) (hq : s0.heap.get? q = some { cls := .type "list", data := .seq #[] cq }) (fit : z.cps.size ≤ sizeLine)
    (fin : ∀ s' acc' c', (∀ b o, b ≠ q → s0.heap.get? b = some o → s'.heap.get? b = some o) → s'.gens = s0.gens → s'.os = s0.os → s'.heap.get? q = some { cls := .type "list", dict := none, data := .seq acc' c', slots := #[] } →
      ItemsOf (SignAt z) acc' z.cps.size → RR (.ok (.ret .none)) s') :
    wpAny (model pr ww) AA.in1 (Builtin.List.listExtendWith (.ref q) (.str z tz) .none)
      (fun f s' => match f with | .done v => RR (.ok v) s' | .again c' => c'.quiet = true ∧ codeAny (model pr ww) AA c' RR s') (fun x s' => RR (.error x) s') s0 := by
  unfold Builtin.List.listExtendWith
  refine wpAny_bind (wpAny_typeOf (T := "str") (v := .str z tz) rfl ?_)
  simp only [show Builtin.List.listSameRef (.ref q) (.str z tz) = false from rfl, show (Value.type "str" == Value.type "list") = false by decide, show (Value.type "str" == Value.type "tuple") = false by decide, Bool.or_false,
    Bool.false_eq_true, if_false]
  refine wpAny_bind (wpAny_pyIter_str fun ob St W st0 => ?_)
  have qlt := Heap.lt_size hq
  have q1 := Heap.get?_push_of_some ob hq
  have qno : q ∉ [s0.heap.objs.size] := fun m => by
    rw [List.mem_singleton.mp m] at qlt
    exact Nat.lt_irrefl _ qlt
  have core : ∀ (hh : Heap) (cc : Nat), St 0 hh → (∀ b o, b ≠ q → s0.heap.get? b = some o → hh.get? b = some o) → hh.get? q = some { cls := .type "list", data := .seq #[] cc } →
      codeAny (model pr ww) AA (.builtin "list.extend.loop" ⟨[.ref q, .ref s0.heap.objs.size, .none], []⟩) RR { s0 with heap := hh } := by
    intro hh cc st keep at_
    refine codeAny_extend_loopS (W AA.in1 nh).toS fit q qno .none z.cps.size 0 _ #[] cc rfl (Nat.zero_le _) st at_ (ItemsOf.nil _) fun s' acc' c' mv hs ha => ?_
    refine fin s' acc' c' (fun b o hb e => mv.heap b o (fun m => ?_) (keep b o hb e)) mv.gens mv.os hs ha
    rcases List.mem_cons.mp m with m | m
    · exact hb m
    · have l := Heap.lt_size e
      rw [List.mem_singleton.mp m] at l
      exact Nat.lt_irrefl _ l
  refine wpAny_bind (wpAny_holding ?_)
  unfold Builtin.List.listLengthHint
  refine wpAny_bind (wpAny_specialOf (T := "str") (v := .str z tz) rfl F.str_len ?_)
  wp_delta
  refine wpAny_bind (wpAny_isInstance (T := "str") (v := .str z tz) (b := true) rfl (by rw [isSubtype_type]; kernel_rfl) ?_)
  show wpAny _ AA.in1 (typeOf (Value.str z tz) >>= _) _ _ _
  refine wpAny_bind (wpAny_typeOf (T := "str") (v := .str z tz) rfl ?_)
  refine wpAny_pure ?_
  refine wpAny_ite_split (fun _ => ?_) (fun _ => wpAny_pure ⟨plainId_quiet F.plain_extend_loop _, core _ cq st0 (fun b o _ e => Heap.get?_push_of_some _ e) q1⟩)
  refine wpAny_bind (wpAny_rule ?_)
  refine wpAny_bind ?_
  show wpAny _ _ (updateSeq q (·.push .none) >>= fun _ => updateSeq q (·.pop)) _ _ _
  refine wpAny_bind (wpAny_updateSeq q1 rfl ?_)
  have q2 := Heap.get?_update_self (Obj.mapSeq (·.push Value.none)) q1 rfl
  refine wpAny_updateSeq (hz := by seq_fits) q2 rfl ?_
  have q3 := Heap.get?_update_self (Obj.mapSeq (·.pop)) q2 rfl
  refine wpAny_pure ⟨plainId_quiet F.plain_extend_loop _, core _ _ ((W AA.in1 nh).frame 0 _ _ st0 fun b hb o e => ?_) (fun b o hb e => ?_) q3⟩
  · have ne : b ≠ q := fun x => qno (x ▸ hb)
    exact (Heap.get?_update_other _ _ ne.symm).trans ((Heap.get?_update_other _ _ ne.symm).trans e)
  · exact (Heap.get?_update_other _ _ (Ne.symm hb)).trans ((Heap.get?_update_other _ _ (Ne.symm hb)).trans (Heap.get?_push_of_some ob e))
theorem txt_list {EE : Value → Shared → Prop} {QQ : Value → Shared → Prop} (nh : AA.handled = none) (z : Str) (tz : Tok) (fit : z.cps.size ≤ sizeLine)
    (fin : ∀ s' acc' c', (∀ b o, s0.heap.get? b = some o → s'.heap.get? b = some o) → s'.gens = s0.gens → s'.os = s0.os → s'.heap.get? s0.heap.objs.size = some { cls := .type "list", dict := none, data := .seq acc' c', slots := #[] } →
      ItemsOf (SignAt z) acc' z.cps.size → QQ (.ref s0.heap.objs.size) s') : wpAny (model pr ww) AA (call (.type "list") [.str z tz]) QQ EE s0 := by
  refine callType_codes (Q₁ := fun v s₁ => v = .ref s0.heap.objs.size ∧ s₁ = { s0 with heap := s0.heap.push { cls := .type "list", data := .seq #[] } }) F.called_list (F.typeCall_list_1 _) F.entry_list_init
    (code_list_new _ ⟨rfl, rfl⟩) fun v s₁ h₁ => ?_
  obtain ⟨rfl, rfl⟩ := h₁
  have at0 : (s0.heap.push { cls := .type "list", data := .seq #[] }).get? s0.heap.objs.size = some { cls := .type "list", data := .seq #[] } := Heap.get?_push_size _ rfl
  refine ⟨⟨_, at0, rfl⟩, F.args_list_init_2 _ _, ?_⟩
  show wpAny _ _ (Builtin.List.listItems (.ref s0.heap.objs.size) >>= fun old => Builtin.List.listUpdate (.ref s0.heap.objs.size) (fun _ => #[]) >>= fun _ => letGo old.toList.reverse >>= fun _ =>
    Builtin.List.listExtendWith (.ref s0.heap.objs.size) (.str z tz) .none) _ _ _
  refine wpAny_bind ?_
  unfold Builtin.List.listItems
  refine wpAny_bind (wpAny_seqItems at0 rfl (wpAny_pure ?_))
  show wpAny _ _ (updateSeq s0.heap.objs.size (fun _ => #[]) >>= fun _ => letGo (#[] : Array Value).toList.reverse >>= fun _ => Builtin.List.listExtendWith (.ref s0.heap.objs.size) (.str z tz) .none) _ _ _
  refine wpAny_bind (wpAny_updateSeq at0 rfl ?_)
  have at1 := Heap.get?_update_self (Obj.mapSeq (fun _ => (#[] : Array Value))) at0 rfl
  refine wpAny_bind (wpAny_letGo ?_)
  refine txt_ext (AA := AA.in1) nh z tz s0.heap.objs.size _ at1 fit fun s' acc' c' k g o hs ha => ⟨rfl, fin s' acc' c' (fun b ob e => k b ob (Nat.ne_of_lt (Heap.lt_size e)) ?_) g o hs ha⟩
  exact (Heap.get?_update_other _ _ (Nat.ne_of_gt (Heap.lt_size e))).trans (Heap.get?_push_of_some _ e)
end
end PV
set_option Elab.async false
set_option linter.all false
set_option maxRecDepth 100000
set_option maxHeartbeats 4000000
/-! PvMeth: built-in functions, methods, subscripts, by values. -/
namespace PV
open PySem L2
section
variable {X : Cx}
abbrev rF (X : Cx) (f : Store → List D → Res D) : List V → Hp → VK → Prop := rnD X.K X.w fun xs st => f st xs
theorem RVs.one {K : PySem.W.Frag} {w : World} {ρ : Lc} {k : Nat} {H : Hp} {d : D} {vs : List V} (h : RVs K w ρ k H [d] vs) : ∃ v, vs = [v] ∧ RV K w ρ k H d v := by
  simp only [RVs] at h
  obtain ⟨v, r, rfl, h1, rfl⟩ := h
  exact ⟨v, rfl, h1⟩
theorem RVs.two {K : PySem.W.Frag} {w : World} {ρ : Lc} {k : Nat} {H : Hp} {d e : D} {vs : List V} (h : RVs K w ρ k H [d, e] vs) : ∃ v u, vs = [v, u] ∧ RV K w ρ k H d v ∧ RV K w ρ k H e u := by
  simp only [RVs] at h
  obtain ⟨v, r, rfl, h1, u, r', rfl, h2, rfl⟩ := h
  exact ⟨v, u, rfl, h1, h2⟩
theorem RVs.zero {K : PySem.W.Frag} {w : World} {ρ : Lc} {k : Nat} {H : Hp} {vs : List V} (h : RVs K w ρ k H [] vs) : vs = [] := by simpa only [RVs] using h
theorem cb_len : CallR X (.builtin "len") (rF X lenB) := by
  intro pins s τ H vs us Q I r h
  obtain ⟨ρ, k, st, xs, W, sm, rx, run⟩ := h
  have go : ∀ a, xs = [a] → Run X.K X.w ρ k H (match asQ st a with
      | some xs => .ok (.int xs.length) st
      | none => .stuck) (fun d ρ' k' H' _ => ∀ v, RV X.K X.w ρ' k' H' d v → Q v H') W → wpAny (model X.prog X.w) X.A (call (.builtin "len") us) (EP X pins τ Q) X.xe s := fun a ea q => by
    subst ea
    obtain ⟨v, rfl, rv⟩ := rx.one
    cases ex : asQ st a with
    | none => rw [ex] at q; exact q.elim
    | some ys =>
      rw [ex] at q
      obtain ⟨p, zs, rfl, h1, h2⟩ := rv.asQ sm ex
      refine call_len_seq pins s τ H _ us Q I r ⟨p, zs, rfl, h1, ?_⟩
      rw [← h2.length]
      exact q.now sm _ (by simp only [RV])
  cases xs with
  | nil => exact run.elim
  | cons a l =>
    cases l with
    | cons b l => cases a <;> exact run.elim
    | nil =>
      cases a with
      | str x =>
        simp only [lenB] at run
        split at run
        · rename_i hl
          obtain ⟨v, rfl, rv⟩ := rx.one
          simp only [RV] at rv
          subst rv
          refine call_len pins s τ H _ us Q I r ⟨_, x.length, rfl, ⟨by rw [tx_len, line_eq]; exact hl, by rw [tx_len]⟩, run.now sm _ (by simp only [RV])⟩
        · exact run.elim
      | scr ns =>
        obtain ⟨v, rfl, rv⟩ := rx.one
        obtain ⟨p, rfl, sq⟩ := rv.script
        refine call_len_seq pins s τ H _ us Q I r ⟨p, _, rfl, .inl sq, ?_⟩
        rw [List.length_map]
        exact run.now sm _ (by simp only [RV])
      | _ => exact go _ rfl run
theorem cb_ord : CallR X (.builtin "ord") (rF X ordB) := by
  intro pins s τ H vs us Q I r h
  obtain ⟨ρ, k, st, xs, W, sm, rx, run⟩ := h
  have run' : Run X.K X.w ρ k H (ordB st xs) (fun d ρ' k' H' _ => ∀ v, RV X.K X.w ρ' k' H' d v → Q v H') W := run
  unfold ordB at run'
  split at run'
  · rename_i x
    obtain ⟨v, rfl, rv⟩ := rx.one
    simp only [RV] at rv
    subst rv
    exact call_ord pins s τ H _ us Q I r ⟨_, rfl, by rw [tx_len]; rfl, run'.now sm _ (by simp [RV, tx])⟩
  · exact run'.elim
theorem cb_int : CallR X (.type "int") (rF X intB) := by
  intro pins s τ H vs us Q I r h
  obtain ⟨ρ, k, st, xs, W, sm, rx, run⟩ := h
  have run' : Run X.K X.w ρ k H (intB st xs) (fun d ρ' k' H' _ => ∀ v, RV X.K X.w ρ' k' H' d v → Q v H') W := run
  unfold intB at run'
  split at run'
  · obtain ⟨v, rfl, rv⟩ := rx.one
    simp only [RV] at rv
    subst rv
    exact call_int1 pins s τ H _ us Q I r (.inl ⟨_, rfl, run'.now sm _ (by simp only [RV])⟩)
  · obtain ⟨v, rfl, rv⟩ := rx.one
    simp only [RV] at rv
    subst rv
    exact call_int1 pins s τ H _ us Q I r (.inr ⟨_, rfl, run'.now sm _ (by simp only [RV])⟩)
  · exact run'.elim
theorem cb_abs : CallR X (.builtin "abs") (rF X absB) := by
  intro pins s τ H vs us Q I r h
  obtain ⟨ρ, k, st, xs, W, sm, rx, run⟩ := h
  have run' : Run X.K X.w ρ k H (absB st xs) (fun d ρ' k' H' _ => ∀ v, RV X.K X.w ρ' k' H' d v → Q v H') W := run
  unfold absB at run'
  split at run'
  · obtain ⟨v, rfl, rv⟩ := rx.one
    simp only [RV] at rv
    subst rv
    exact call_abs pins s τ H _ us Q I r ⟨_, rfl, run'.now sm _ (by simp only [RV])⟩
  · exact run'.elim
theorem asI_list {K : PySem.W.Frag} {w : World} {ρ : Lc} {k : Nat} {H : Hp} {st : Store} {a : D} {v : V} {ns : List Int} (sm : Sim K w ρ k H st) (r : RV K w ρ k H a v) (e : (PV.asL st a).bind asI = some ns) :
    ∃ p, v = .ref p ∧ SqL K H p (ns.map V.int) := by
  obtain ⟨xs, e1, e2⟩ := Option.bind_eq_some_iff.mp e
  obtain ⟨p, ys, rfl, h1, h2⟩ := r.asL sm e1
  rw [h2.intsOf e2] at h1
  exact ⟨p, rfl, .of h1⟩
theorem fold_max : ∀ (xs : List Int) (x m : Int), m ∈ x :: xs → (∀ y, y ∈ x :: xs → y ≤ m) → xs.foldl (fun b y => if y > b then y else b) x = m
  | [], x, m, h, _ => by rw [List.mem_singleton.mp h]; rfl
  | y :: ys, x, m, h, g => by
    rw [List.foldl_cons]
    have hx := g x (by simp)
    have hy := g y (by simp)
    refine fold_max ys _ m ?_ fun z hz => ?_
    · split
      · rename_i c
        rcases List.mem_cons.mp h with e | e
        · omega
        · exact e
      · rename_i c
        rcases List.mem_cons.mp h with e | e
        · rw [e]; simp
        · rcases List.mem_cons.mp e with e | e
          · have : m = x := by omega
            rw [this]; simp
          · exact List.mem_cons_of_mem _ e
    · rcases List.mem_cons.mp hz with e | e
      · split at e <;> omega
      · exact g z (by simp [e])
theorem fold_min : ∀ (xs : List Int) (x m : Int), m ∈ x :: xs → (∀ y, y ∈ x :: xs → m ≤ y) → xs.foldl (fun b y => if y < b then y else b) x = m
  | [], x, m, h, _ => by rw [List.mem_singleton.mp h]; rfl
  | y :: ys, x, m, h, g => by
    rw [List.foldl_cons]
    have hx := g x (by simp)
    have hy := g y (by simp)
    refine fold_min ys _ m ?_ fun z hz => ?_
    · split
      · rename_i c
        rcases List.mem_cons.mp h with e | e
        · omega
        · exact e
      · rename_i c
        rcases List.mem_cons.mp h with e | e
        · rw [e]; simp
        · rcases List.mem_cons.mp e with e | e
          · have : m = x := by omega
            rw [this]; simp
          · exact List.mem_cons_of_mem _ e
    · rcases List.mem_cons.mp hz with e | e
      · split at e <;> omega
      · exact g z (by simp [e])
theorem cb_max (hc : X.calm = true) : CallR X (.builtin "max") (rF X maxB) := by
  intro pins s τ H vs us Q I r h
  obtain ⟨ρ, k, st, xs, W, sm, rx, run⟩ := h
  have run' : Run X.K X.w ρ k H (maxB st xs) (fun d ρ' k' H' _ => ∀ v, RV X.K X.w ρ' k' H' d v → Q v H') W := run
  unfold maxB at run'
  split at run'
  · obtain ⟨v, u, rfl, rv, ru⟩ := rx.two
    simp only [RV] at rv ru
    subst rv ru
    exact call_max2 hc pins s τ H _ us Q I r ⟨_, _, rfl, run'.now sm _ (by simp only [RV])⟩
  · rename_i a
    obtain ⟨v, rfl, rv⟩ := rx.one
    cases e : (PV.asL st a).bind asI with
    | none => rw [e] at run'; exact run'.elim
    | some ns =>
      rw [e] at run'
      cases ns with
      | nil => exact run'.elim
      | cons n ns =>
        obtain ⟨p, rfl, h1⟩ := asI_list sm rv e
        refine cr_max hc pins s τ H _ us Q I r ⟨p, n :: ns, rfl, h1, by simp, fun m h2 h3 => ?_⟩
        rw [← fold_max ns n m h2 h3]
        exact run'.now sm _ (by simp only [RV])
  · exact run'.elim
theorem cb_min (hc : X.calm = true) : CallR X (.builtin "min") (rF X minB) := by
  intro pins s τ H vs us Q I r h
  obtain ⟨ρ, k, st, xs, W, sm, rx, run⟩ := h
  have run' : Run X.K X.w ρ k H (minB st xs) (fun d ρ' k' H' _ => ∀ v, RV X.K X.w ρ' k' H' d v → Q v H') W := run
  unfold minB at run'
  split at run'
  · obtain ⟨v, u, rfl, rv, ru⟩ := rx.two
    simp only [RV] at rv ru
    subst rv ru
    exact call_min2 hc pins s τ H _ us Q I r ⟨_, _, rfl, run'.now sm _ (by simp only [RV])⟩
  · rename_i a
    obtain ⟨v, rfl, rv⟩ := rx.one
    cases e : (PV.asL st a).bind asI with
    | none => rw [e] at run'; exact run'.elim
    | some ns =>
      rw [e] at run'
      cases ns with
      | nil => exact run'.elim
      | cons n ns =>
        obtain ⟨p, rfl, h1⟩ := asI_list sm rv e
        refine cr_min hc pins s τ H _ us Q I r ⟨p, n :: ns, rfl, h1, by simp, fun m h2 h3 => ?_⟩
        rw [← fold_min ns n m h2 h3]
        exact run'.now sm _ (by simp only [RV])
  · exact run'.elim
theorem cb_sum (hc : X.calm = true) : CallR X (.builtin "sum") (rF X sumB) := by
  intro pins s τ H vs us Q I r h
  obtain ⟨ρ, k, st, xs, W, sm, rx, run⟩ := h
  have run' : Run X.K X.w ρ k H (sumB st xs) (fun d ρ' k' H' _ => ∀ v, RV X.K X.w ρ' k' H' d v → Q v H') W := run
  unfold sumB at run'
  split at run'
  · rename_i a
    obtain ⟨v, rfl, rv⟩ := rx.one
    cases e : (PV.asL st a).bind asI with
    | none => rw [e] at run'; exact run'.elim
    | some ns =>
      rw [e] at run'
      obtain ⟨p, rfl, h1⟩ := asI_list sm rv e
      exact cr_sum hc pins s τ H _ us Q I r ⟨p, ns, rfl, h1, run'.now sm _ (by simp only [RV])⟩
  · exact run'.elim
theorem asB_list {K : PySem.W.Frag} {w : World} {ρ : Lc} {k : Nat} {H : Hp} {st : Store} {a : D} {v : V} {ns : List Bool} (sm : Sim K w ρ k H st) (r : RV K w ρ k H a v) (e : (PV.asL st a).bind asB = some ns) :
    ∃ p, v = .ref p ∧ SqL K H p (ns.map V.bl) := by
  obtain ⟨xs, e1, e2⟩ := Option.bind_eq_some_iff.mp e
  obtain ⟨p, ys, rfl, h1, h2⟩ := r.asL sm e1
  rw [h2.bools e2] at h1
  exact ⟨p, rfl, .of h1⟩
theorem cb_all (hc : X.calm = true) : CallR X (.builtin "all") (rF X allB) := by
  intro pins s τ H vs us Q I r h
  obtain ⟨ρ, k, st, xs, W, sm, rx, run⟩ := h
  have run' : Run X.K X.w ρ k H (allB st xs) (fun d ρ' k' H' _ => ∀ v, RV X.K X.w ρ' k' H' d v → Q v H') W := run
  unfold allB at run'
  split at run'
  · rename_i a
    obtain ⟨v, rfl, rv⟩ := rx.one
    cases e : (PV.asL st a).bind asB with
    | none => rw [e] at run'; exact run'.elim
    | some ns =>
      rw [e] at run'
      obtain ⟨p, rfl, h1⟩ := asB_list sm rv e
      exact cr_all hc pins s τ H _ us Q I r ⟨p, ns, rfl, h1, run'.now sm _ (by simp only [RV])⟩
  · exact run'.elim
theorem cb_any (hc : X.calm = true) : CallR X (.builtin "any") (rF X anyB) := by
  intro pins s τ H vs us Q I r h
  obtain ⟨ρ, k, st, xs, W, sm, rx, run⟩ := h
  have run' : Run X.K X.w ρ k H (anyB st xs) (fun d ρ' k' H' _ => ∀ v, RV X.K X.w ρ' k' H' d v → Q v H') W := run
  unfold anyB at run'
  split at run'
  · rename_i a
    obtain ⟨v, rfl, rv⟩ := rx.one
    cases e : (PV.asL st a).bind asB with
    | none => rw [e] at run'; exact run'.elim
    | some ns =>
      rw [e] at run'
      obtain ⟨p, rfl, h1⟩ := asB_list sm rv e
      exact cr_any hc pins s τ H _ us Q I r ⟨p, ns, rfl, h1, run'.now sm _ (by simp only [RV])⟩
  · exact run'.elim
theorem RVs.signs {K : PySem.W.Frag} {w : World} {ρ : Lc} {k : Nat} {H : Hp} : ∀ x : List Nat, RVs K w ρ k H (x.map fun c => .str [c]) (x.map fun c => .str ⟨#[c]⟩)
  | [] => .nil
  | c :: x => .cons (by simp [RV, tx]) (RVs.signs x)
theorem vals_signs {z : List Nat} {acc : Array Value} (h : ItemsOf (SignAt (tx z)) acc z.length) : Vals (z.map fun c => V.str ⟨#[c]⟩) acc.toList := by
  refine vals_of_at (by simp [h.1]) fun j x u h1 h2 => ?_
  obtain ⟨c, t, h3, rfl⟩ := h.2 j u (by rw [← Array.getElem?_toList]; exact h2)
  rw [List.getElem?_map] at h1
  have e : z[j]? = some c := by simpa [tx] using h3
  rw [e] at h1
  cases h1
  exact ⟨t, rfl⟩
theorem cb_list {m : Bool} (hc : X.calm = true) : CallR X (.type "list") (rF X (listB m)) := by
  intro pins s τ H vs us Q I r h
  obtain ⟨ρ, k, st, xs, W, sm, rx, run⟩ := h
  have run' : Run X.K X.w ρ k H (listB m st xs) (fun d ρ' k' H' _ => ∀ v, RV X.K X.w ρ' k' H' d v → Q v H') W := run
  unfold listB at run'
  split at run'
  · rename_i x
    split at run'
    · rename_i hl
      obtain ⟨v, rfl, rv⟩ := rx.one
      simp only [RV] at rv
      subst rv
      obtain ⟨u, rfl, ru⟩ := vals1 r
      obtain ⟨t, rfl⟩ := ru
      have hz : (tx x).cps.size ≤ sizeLine := by rw [line_eq]; simpa [tx] using hl
      refine txt_list (I.ok.hd hc) _ t hz fun s' acc c kp hg ho hs hi => ?_
      have e : (tx x).cps.size = x.length := by simp [tx]
      rw [e] at hi
      obtain ⟨hp, g', d', tk', o'⟩ := s'
      have eg : g' = s.gens := hg
      have eo : o' = s.os := ho
      subst eg eo
      have J := I.laid (t' := tk') (a := s.heap.objs.size) (o := .lst (x.map fun c => V.str ⟨#[c]⟩)) kp (Nat.le_refl _) ⟨by rw [List.length_map, line_eq]; exact hl, acc.toList, c, vals_signs hi, by rw [Array.toArray_toList]; exact hs⟩
      refine ⟨.ref s.heap.objs.size, _, ?_, rfl, Run.mk sm run' (RVs.signs x) (I.hok.fresh (Nat.le_refl _))⟩
      exact J.call' (ch := []) rfl Un.refl J.hok J.bare (fun _ z => nomatch z)
    · exact run'.elim
  · rename_i a hn
    obtain ⟨v, rfl, rv⟩ := rx.one
    cases e : asQ st a with
    | none => rw [e] at run'; exact run'.elim
    | some ys =>
      rw [e] at run'
      obtain ⟨p, zs, rfl, h1, h2⟩ := rv.asQ sm e
      exact call_list_of pins s τ H _ us Q I r ⟨p, zs, rfl, h1, fun l hl => Run.mk sm run' h2 hl⟩
  · exact run'.elim
theorem cb_tuple : CallR X (.type "tuple") (rF X tupleB) := by
  intro pins s τ H vs us Q I r h
  obtain ⟨ρ, k, st, xs, W, sm, rx, run⟩ := h
  have run' : Run X.K X.w ρ k H (tupleB st xs) (fun d ρ' k' H' _ => ∀ v, RV X.K X.w ρ' k' H' d v → Q v H') W := run
  unfold tupleB at run'
  split at run'
  · rename_i a
    obtain ⟨v, rfl, rv⟩ := rx.one
    have go : ∀ ys, PV.asL st a = some ys → Run X.K X.w ρ k H (.ok (.tup ys) st) (fun d ρ' k' H' _ => ∀ v, RV X.K X.w ρ' k' H' d v → Q v H') W → wpAny (model X.prog X.w) X.A (call (.type "tuple") us) (EP X pins τ Q) X.xe s := fun ys e q => by
      obtain ⟨p, zs, rfl, h1, h2⟩ := rv.asL sm e
      exact call_tuple_of pins s τ H _ us Q I r ⟨p, zs, rfl, .inl ⟨.of h1, fun l hl => Run.tup sm q h2 hl⟩⟩
    cases a with
    | tup ys =>
      have rv' := rv
      simp only [RV] at rv
      obtain ⟨p, zs, rfl, h1, h2⟩ := rv
      refine call_tuple_of pins s τ H _ us Q I r ⟨p, zs, rfl, .inr ⟨?_, run'.now sm _ rv'⟩⟩
      rcases h1 with ⟨h1, _⟩ | h1
      · exact .of h1
      · exact h1.sq
    | frz ys => exact go ys rfl run'
    | ref n =>
      cases e : PV.asL st (.ref n) with
      | none => simp only [asQ, e] at run'; exact run'.elim
      | some ys => simp only [asQ, e] at run'; exact go ys e run'
    | _ => exact run'.elim
  · exact run'.elim

/-! ### repr -/
def repD (d : D) : Option (List Nat) := if datD d && (pyD d).showable && decide ((pyD d).shown.length ≤ LIM) && decide (depD d ≤ 64) then some (pyD d).shown.cps.toList else none
theorem Dp.ref_reads {pins : List (Addr × Obj)} {s : Shared} {τ : St} {H : Hp} (I : Inv X pins τ H s) {a : Addr} {d : PyData} (h : Dp X.K H (.ref a) d) : ∃ as, Reads s.heap (.ref a) d as := Dp.reads I d (.ref a) (.ref a) h rfl
theorem cb_repr (hy : SysD X.K) (hg : X.A.guards = some []) (hu : X.A.units + 80 < cLine) : CallR X (.builtin "repr") (rF X (reprB repD)) := by
  intro pins s τ H vs us Q I r h
  obtain ⟨ρ, k, st, xs, W, sm, rx, run⟩ := h
  have run' : Run X.K X.w ρ k H (reprB repD st xs) (fun d ρ' k' H' _ => ∀ v, RV X.K X.w ρ' k' H' d v → Q v H') W := run
  unfold reprB at run'
  split at run'
  · rename_i a
    obtain ⟨v, rfl, rv⟩ := rx.one
    obtain ⟨u, rfl, ru⟩ := vals1 r
    cases e0 : (repD (look st a)).or (repD (deep st a)) with
    | none => rw [e0] at run'; exact run'.elim
    | some x =>
      rw [e0] at run'
      obtain ⟨l, hl, e⟩ : ∃ l, (datD l = true → Dq X.K X.w H v (pyD l)) ∧ repD l = some x := by
        rcases Option.or_eq_some_iff.mp e0 with e | ⟨_, e⟩
        · exact ⟨_, fun p => rv.dqL sm p, e⟩
        · exact ⟨_, fun p => rv.dqF sm 4 _ _ p, e⟩
      unfold repD at e
      split at e
      · rename_i hp
        simp only [Bool.and_eq_true, decide_eq_true_eq] at hp
        obtain ⟨⟨⟨h1, h2⟩, h3⟩, h4⟩ := hp
        cases e
        have D0 := hl h1
        have q : Q (.str (pyD l).shown) H := run'.now sm _ (by simp only [RV, tx, Array.toArray_toList])
        have z : (pyD l).shown.length ≤ sizeLine := by rw [line_eq]; exact h3
        generalize hd : pyD l = pd at *
        cases D0 with
        | non => cases ru; exact P.repr_of_none ⟨.str _, H, I.tok _, ⟨_, rfl⟩, by simpa only [PyData.shown] using q⟩
        | bl b =>
          cases ru
          refine P.repr_of_bool ⟨.str _, H, I.tok _, ⟨_, rfl⟩, ?_⟩
          simp only [PyData.shown] at q
          exact q
        | int i =>
          obtain ⟨t, rfl⟩ := ru
          refine P.repr_of_int (by simpa [PyData.showable] using h2) ⟨.str _, H, I.tok _, ⟨_, rfl⟩, by simpa only [PyData.shown] using q⟩
        | str y =>
          obtain ⟨t, rfl⟩ := ru
          exact P.repr_of_str ⟨.str _, H, I.tok _, ⟨_, rfl⟩, by simpa only [PyData.shown] using q⟩ (by simpa only [PyData.shown] using z)
        | @lst p ys ds g1 g2 =>
          cases ru
          obtain ⟨as, rd, no⟩ := Dq.reads I hy (.list ds) (.ref p) (.ref p) (.lst g1 g2) rfl
          have dz : (PyData.list ds).depth ≤ 64 := by rw [← hd, pyD_dep]; exact h4
          refine repr_of_reads' rd h2 (fun _ => no) hg (by omega) (fun _ _ e => e) (fun h' t tk kp => ⟨.str _, H, I.kept kp, ⟨_, rfl⟩, q⟩) z
        | @tup p ys ds g1 g2 =>
          cases ru
          obtain ⟨as, rd, no⟩ := Dq.reads I hy (.tuple ds) (.ref p) (.ref p) (.tup g1 g2) rfl
          have dz : (PyData.tuple ds).depth ≤ 64 := by rw [← hd, pyD_dep]; exact h4
          refine repr_of_reads' rd h2 (fun _ => no) hg (by omega) (fun _ _ e => e) (fun h' t tk kp => ⟨.str _, H, I.kept kp, ⟨_, rfl⟩, q⟩) z
        | @dic p kv ds g1 g2 =>
          cases ru
          obtain ⟨as, rd, no⟩ := Dq.reads I hy (.dict ds) (.ref p) (.ref p) (.dic g1 g2) rfl
          have dz : (PyData.dict ds).depth ≤ 64 := by rw [← hd, pyD_dep]; exact h4
          refine repr_of_reads' rd h2 (fun _ => no) hg (by omega) (fun _ _ e => e) (fun h' t tk kp => ⟨.str _, H, I.kept kp, ⟨_, rfl⟩, q⟩) z
      · cases e
  · exact run'.elim
end
end PV
set_option Elab.async false
set_option linter.all false
set_option maxRecDepth 10000
set_option maxHeartbeats 4000000
/-! PvCnt: how often a sign stands in a text. -/
namespace PV
open PySem PySem.StrLaws PySem.Builtin PySem.Builtin.Str
theorem cnt_walk (s : List Nat) (c : Nat) : ∀ (n i : Nat) (acc : Array Nat) (free : Nat), i + n = s.length + 1 → free ≤ i → acc.size ≤ i →
    (forIn (List.range' i n) (acc, free) (occBody (tx s) (tx [c]) s.length (s.length + 1))).run.fst.size = acc.size + (s.drop i).count c
  | 0, i, acc, free, h, _, _ => by
    rw [List.range'_zero, List.drop_of_length_le (by omega)]
    rfl
  | n + 1, i, acc, free, h, hf, ha => by
    rw [List.range'_succ, List.forIn_cons]
    have q := subAt_one (tx s) c i
    have ql : (tx s).length = s.length := by simp [Str.length]
    rw [ql] at q
    have q2 : (tx s).cps.toList[i]? = s[i]? := by simp
    rw [q2] at q
    unfold occBody
    have l1 : (tx [c]).length = 1 := rfl
    by_cases hc : s[i]? = some c
    · obtain ⟨z1, z2⟩ := q.mpr hc
      rw [if_pos ⟨⟨⟨by simp only; omega, hf⟩, z1⟩, z2⟩]
      have ih := cnt_walk s c n (i + 1) (acc.push i) (i + (tx [c]).length) (by omega) (by rw [l1]; omega) (by simp; omega)
      have hl : i < s.length := (List.getElem?_eq_some_iff.mp hc).1
      have e : s.drop i = c :: s.drop (i + 1) := by
        rw [List.drop_eq_getElem_cons hl]
        congr 1
        exact (List.getElem?_eq_some_iff.mp hc).2
      rw [e, List.count_cons_self]
      refine ih.trans ?_
      simp
      omega
    · rw [if_neg fun z => hc (q.mp ⟨z.1.2, z.2⟩)]
      have ih := cnt_walk s c n (i + 1) acc free (by omega) (by omega) (by omega)
      refine ih.trans ?_
      by_cases hl : i < s.length
      · have e : s.drop i = s[i] :: s.drop (i + 1) := List.drop_eq_getElem_cons hl
        have ne : s[i] ≠ c := fun z => hc (by rw [List.getElem?_eq_getElem hl, z])
        rw [e, List.count_cons_of_ne ne]
      · rw [List.drop_of_length_le (by omega), List.drop_of_length_le (by omega)]
theorem count1 (s : List Nat) (c : Nat) : (occurrences (tx s) (tx [c]) 0 (tx s).length ((tx s).length + 1)).length = s.count c := by
  have ql : (tx s).length = s.length := by simp [Str.length]
  rw [ql, occ_eq]
  have := cnt_walk s c (s.length + 1) 0 #[] 0 (by omega) (Nat.le_refl _) (by simp)
  simpa using this
end PV
set_option Elab.async false
set_option linter.all false
set_option maxRecDepth 100000
set_option maxHeartbeats 4000000
/-! PvMth: methods of lists, texts, dicts; subscripts, slices, stores, by values. -/
namespace PV
open PySem L2 PyProof.Rows
section
variable {K : PySem.W.Frag} {w : World} {ρ : Lc} {k : Nat} {H : Hp} {st : Store}
theorem lst_at {d : D} {v : V} {n : Nat} {xs : List D} (sm : Sim K w ρ k H st) (r : RV K w ρ k H d v) (e : lstAt st d = some (n, xs)) :
    ∃ a ys, v = .ref a ∧ H a = some (.lst ys) ∧ RVs K w ρ k H xs ys ∧ n < k ∧ ρ n = some a := by
  cases d with
  | ref i =>
    simp only [lstAt] at e
    split at e
    · rename_i zs hz
      cases e
      simp only [RV] at r
      obtain ⟨a, rfl, h1, h2⟩ := r
      obtain ⟨b, h3, h4⟩ := sm.at_ _ _ hz
      rw [h2] at h3
      cases h3
      obtain ⟨ys, h5, h6⟩ := h4
      exact ⟨a, ys, rfl, h5, h6, h1, h2⟩
    · cases e
  | _ => cases e
/-- a list of the store is written, r is the answer -/
theorem Run.wr {n : Nat} {a : Addr} {ys : List V} {zs : List D} {d : D} {v : V} {Q : VK} {W : XK} (sm : Sim K w ρ k H st) (hn : n < k) (ha : ρ n = some a)
    (run : Run K w ρ k H (.ok d (st.set n (.lst zs))) (fun d ρ' k' H' _ => ∀ v, RV K w ρ' k' H' d v → Q v H') W) (rz : RVs K w ρ k H zs ys) (rv : RV K w ρ k H d v) : Q v (upd H a (.lst ys)) := by
  have e := Ext.write (o := .lst ys) sm hn ha
  exact run ρ k _ e (sm.write hn ha ⟨ys, upd_same, rz.mono e⟩) _ (rv.mono e)
end
section
variable {X : Cx}
abbrev rM (X : Cx) (f : Store → D → List D → Res D) : V → List V → Hp → VK → Prop := rmD X.K X.w fun x xs st => f st x xs
theorem mb_append : MtR X "list.append" (rM X appendB) := by
  intro pins s τ H v vs V us Q I rv rvs h
  obtain ⟨ρ, k, st, x, xs, W, sm, rx, rxs, run⟩ := h
  have run' : Run X.K X.w ρ k H (appendB st x xs) (fun d ρ' k' H' _ => ∀ v, RV X.K X.w ρ' k' H' d v → Q v H') W := run
  unfold appendB at run'
  split at run'
  · rename_i n zs y e
    obtain ⟨a, ys, rfl, h1, h2, h3, h4⟩ := lst_at sm rx e
    obtain ⟨u, rfl, ru⟩ := rxs.one
    split at run'
    · rename_i hl
      exact mt_append pins s τ H _ _ V us Q I rv rvs ⟨a, ys, u, rfl, rfl, h1, by rw [← h2.length, line_eq]; exact hl, Run.wr sm h3 h4 run' (h2.append (.cons ru .nil)) (by simp only [RV])⟩
    · exact run'.elim
  · exact run'.elim
theorem mb_insert : MtR X "list.insert" (rM X insertB) := by
  intro pins s τ H v vs V us Q I rv rvs h
  obtain ⟨ρ, k, st, x, xs, W, sm, rx, rxs, run⟩ := h
  have run' : Run X.K X.w ρ k H (insertB st x xs) (fun d ρ' k' H' _ => ∀ v, RV X.K X.w ρ' k' H' d v → Q v H') W := run
  unfold insertB at run'
  split at run'
  · rename_i n zs i y e
    obtain ⟨a, ys, rfl, h1, h2, h3, h4⟩ := lst_at sm rx e
    obtain ⟨j, u, rfl, rj, ru⟩ := rxs.two
    simp only [RV] at rj
    subst rj
    split at run'
    · rename_i hl
      simp only [Bool.and_eq_true, decide_eq_true_eq] at hl
      obtain ⟨⟨l1, l2⟩, l3⟩ := hl
      exact mt_insert pins s τ H _ _ V us Q I rv rvs ⟨a, ys, i, u, rfl, rfl, h1, by rw [← h2.length, line_eq]; exact l1, l2, (by have := small_iff.mp l3; omega), Run.wr sm h3 h4 run' (((h2.take _).append (.cons ru .nil)).append (h2.drop _)) (by simp only [RV])⟩
    · exact run'.elim
  · exact run'.elim
theorem mb_reverse : MtR X "list.reverse" (rM X reverseB) := by
  intro pins s τ H v vs V us Q I rv rvs h
  obtain ⟨ρ, k, st, x, xs, W, sm, rx, rxs, run⟩ := h
  have run' : Run X.K X.w ρ k H (reverseB st x xs) (fun d ρ' k' H' _ => ∀ v, RV X.K X.w ρ' k' H' d v → Q v H') W := run
  unfold reverseB at run'
  split at run'
  · rename_i n zs e
    obtain ⟨a, ys, rfl, h1, h2, h3, h4⟩ := lst_at sm rx e
    have e0 := rxs.zero
    subst e0
    exact mt_reverse pins s τ H _ _ V us Q I rv rvs ⟨a, ys, rfl, rfl, h1, Run.wr sm h3 h4 run' h2.reverse (by simp only [RV])⟩
  · exact run'.elim
theorem mb_pop : MtR X "list.pop" (rM X popB) := by
  intro pins s τ H v vs V us Q I rv rvs h
  obtain ⟨ρ, k, st, x, xs, W, sm, rx, rxs, run⟩ := h
  have run' : Run X.K X.w ρ k H (popB st x xs) (fun d ρ' k' H' _ => ∀ v, RV X.K X.w ρ' k' H' d v → Q v H') W := run
  unfold popB at run'
  split at run'
  · rename_i n zs e
    obtain ⟨a, ys, rfl, h1, h2, h3, h4⟩ := lst_at sm rx e
    have e0 := rxs.zero
    subst e0
    split at run'
    · rename_i y ey
      obtain ⟨u, hu, ru⟩ := h2.get ey
      rw [h2.length] at hu
      exact mt_pop pins s τ H _ _ V us Q I rv rvs ⟨a, ys, u, rfl, rfl, h1, hu, Run.wr sm h3 h4 run' h2.dropLast ru⟩
    · exact run'.elim
  · exact run'.elim
theorem mb_extend : MtR X "list.extend" (rM X extendB) := by
  intro pins s τ H v vs V us Q I rv rvs h
  obtain ⟨ρ, k, st, x, xs, W, sm, rx, rxs, run⟩ := h
  have run' : Run X.K X.w ρ k H (extendB st x xs) (fun d ρ' k' H' _ => ∀ v, RV X.K X.w ρ' k' H' d v → Q v H') W := run
  unfold extendB at run'
  split at run'
  · rename_i n zs y e
    obtain ⟨a, ys, rfl, h1, h2, h3, h4⟩ := lst_at sm rx e
    obtain ⟨u, rfl, ru⟩ := rxs.one
    split at run'
    · rename_i ws ew
      obtain ⟨b, bs, rfl, g1, g2⟩ := ru.asL sm ew
      split at run'
      · rename_i hl
        exact mt_extend pins s τ H _ _ V us Q I rv rvs ⟨a, b, ys, bs, rfl, rfl, h1, g1, by rw [← h2.length, ← g2.length, line_eq]; exact hl, Run.wr sm h3 h4 run' (h2.append g2) (by simp only [RV])⟩
      · exact run'.elim
    · exact run'.elim
  · exact run'.elim
theorem mb_clear : MtR X "list.clear" (rM X clearB) := by
  intro pins s τ H v vs V us Q I rv rvs h
  obtain ⟨ρ, k, st, x, xs, W, sm, rx, rxs, run⟩ := h
  have run' : Run X.K X.w ρ k H (clearB st x xs) (fun d ρ' k' H' _ => ∀ v, RV X.K X.w ρ' k' H' d v → Q v H') W := run
  unfold clearB at run'
  split at run'
  · rename_i n zs e
    obtain ⟨a, ys, rfl, h1, h2, h3, h4⟩ := lst_at sm rx e
    have e0 := rxs.zero
    subst e0
    exact mt_clear pins s τ H _ _ V us Q I rv rvs ⟨a, ys, rfl, rfl, h1, Run.wr sm h3 h4 run' .nil (by simp only [RV])⟩
  · exact run'.elim
/-! ### join -/
theorem glue_eq (z : List Nat) : ∀ (ys : List (List Nat)) (acc : List Nat), (ys.map tx).foldl (fun acc p => acc ++ (tx z).cps ++ p.cps) acc.toArray = (acc ++ ys.flatMap fun y => z ++ y).toArray
  | [], acc => by simp
  | y :: ys, acc => by
    have e : acc.toArray ++ (tx z).cps ++ (tx y).cps = (acc ++ z ++ y).toArray := by simp [tx]
    rw [List.map_cons, List.foldl_cons, e, glue_eq z ys]
    simp [List.append_assoc]
theorem join_flat (z : List Nat) : ∀ (y : List Nat) (ys : List (List Nat)), join z (y :: ys) = y ++ ys.flatMap fun y => z ++ y
  | y, [] => by simp [join]
  | y, y' :: ys => by
    show y ++ z ++ join z (y' :: ys) = _
    rw [join_flat z y' ys]
    simp [List.append_assoc]
theorem join_eq (z : List Nat) (ys : List (List Nat)) : Txt.join (tx z) (ys.map tx) = tx (join z ys) := by
  show Builtin.Str.glued (tx z) (ys.map tx) = _
  unfold Builtin.Str.glued
  cases ys with
  | nil => rfl
  | cons y ys =>
    have e : ((y :: ys).map tx).headD Str.empty = tx y := rfl
    have e2 : ((y :: ys).map tx).drop 1 = ys.map tx := rfl
    rw [e, e2, join_flat]
    exact congrArg Str.mk (glue_eq z ys y)
theorem mb_join : MtR X "str.join" (rM X joinB) := by
  intro pins s τ H v vs V us Q I rv rvs h
  obtain ⟨ρ, k, st, x, xs, W, sm, rx, rxs, run⟩ := h
  have run' : Run X.K X.w ρ k H (joinB st x xs) (fun d ρ' k' H' _ => ∀ v, RV X.K X.w ρ' k' H' d v → Q v H') W := run
  unfold joinB at run'
  split at run'
  · rename_i z a
    simp only [RV] at rx
    subst rx
    obtain ⟨u, rfl, ru⟩ := rxs.one
    split at run'
    · rename_i ys e
      obtain ⟨zs, e1, e2⟩ := Option.bind_eq_some_iff.mp e
      obtain ⟨p, bs, rfl, h1, h2⟩ := ru.asQ sm e1
      have e3 := h2.strs e2
      have e4 : bs = (ys.map tx).map L2.V.str := by rw [e3, List.map_map]; rfl
      rw [e4] at h1
      split at run'
      · rename_i hl
        refine mt_join pins s τ H _ _ V us Q I rv rvs ⟨tx z, p, ys.map tx, rfl, rfl, h1, ?_, ?_⟩
        · rw [List.length_map, tx_len, List.map_map]
          have e5 : ((fun x : Str => x.length) ∘ tx) = fun x : List Nat => x.length := by funext y; exact tx_len y
          rw [e5]
          exact hl
        · rw [join_eq]
          exact run'.now sm _ (by simp only [RV])
      · exact run'.elim
    · exact run'.elim
  · exact run'.elim
theorem mb_count : MtR X "str.count" (rM X countB) := by
  intro pins s τ H v vs V us Q I rv rvs h
  obtain ⟨ρ, k, st, x, xs, W, sm, rx, rxs, run⟩ := h
  have run' : Run X.K X.w ρ k H (countB st x xs) (fun d ρ' k' H' _ => ∀ v, RV X.K X.w ρ' k' H' d v → Q v H') W := run
  unfold countB at run'
  split at run'
  · rename_i z c
    simp only [RV] at rx
    subst rx
    obtain ⟨u, rfl, ru⟩ := rxs.one
    simp only [RV] at ru
    subst ru
    split at run'
    · refine mt_count pins s τ H _ _ V us Q I rv rvs ⟨tx z, tx [c], rfl, rfl, ?_⟩
      have e : Txt.count (tx z) (tx [c]) = ((z.count c : Nat) : Int) := congrArg Nat.cast (count1 z c)
      rw [e]
      exact run'.now sm _ (by simp only [RV])
    · exact run'.elim
  · exact run'.elim
theorem mb_upper : MtR X "str.upper" (rM X upperB) := by
  intro pins s τ H v vs V us Q I rv rvs h
  obtain ⟨ρ, k, st, x, xs, W, sm, rx, rxs, run⟩ := h
  have run' : Run X.K X.w ρ k H (upperB st x xs) (fun d ρ' k' H' _ => ∀ v, RV X.K X.w ρ' k' H' d v → Q v H') W := run
  unfold upperB at run'
  split at run'
  · rename_i z
    simp only [RV] at rx
    subst rx
    have e0 : vs = [] := rxs.zero
    subst e0
    split at run'
    · rename_i hp
      simp only [Bool.and_eq_true, decide_eq_true_eq, List.all_eq_true] at hp
      refine mt_upper pins s τ H _ _ V us Q I rv rvs ⟨tx z, rfl, rfl, by rw [tx_len]; exact hp.2, ?_⟩
      rw [PyProof.Rows.upper_ascii (x := tx z) (fun c hc => hp.1 c (by simpa [tx] using hc))]
      have e : (⟨(tx z).cps.map PyProof.Rows.up1⟩ : Str) = tx (z.map upC) := by
        simp only [tx, Str.mk.injEq, List.map_toArray]
        congr 1
      rw [e]
      exact run'.now sm _ (by simp only [RV])
    · exact run'.elim
  · exact run'.elim
theorem mb_lower : MtR X "str.lower" (rM X lowerB) := by
  intro pins s τ H v vs V us Q I rv rvs h
  obtain ⟨ρ, k, st, x, xs, W, sm, rx, rxs, run⟩ := h
  have run' : Run X.K X.w ρ k H (lowerB st x xs) (fun d ρ' k' H' _ => ∀ v, RV X.K X.w ρ' k' H' d v → Q v H') W := run
  unfold lowerB at run'
  split at run'
  · rename_i z
    simp only [RV] at rx
    subst rx
    have e0 : vs = [] := rxs.zero
    subst e0
    split at run'
    · rename_i hp
      simp only [Bool.and_eq_true, decide_eq_true_eq, List.all_eq_true] at hp
      refine mt_lower pins s τ H _ _ V us Q I rv rvs ⟨tx z, rfl, rfl, by rw [tx_len]; exact hp.2, ?_⟩
      rw [PyProof.Rows.lower_ascii (x := tx z) (fun c hc => hp.1 c (by simpa [tx] using hc))]
      have e : (⟨(tx z).cps.map PyProof.Rows.lo1⟩ : Str) = tx (z.map loC) := by
        simp only [tx, Str.mk.injEq, List.map_toArray]
        congr 1
      rw [e]
      exact run'.now sm _ (by simp only [RV])
    · exact run'.elim
  · exact run'.elim
theorem mb_islower : MtR X "str.islower" (rM X islowerB) := by
  intro pins s τ H v vs V us Q I rv rvs h
  obtain ⟨ρ, k, st, x, xs, W, sm, rx, rxs, run⟩ := h
  have run' : Run X.K X.w ρ k H (islowerB st x xs) (fun d ρ' k' H' _ => ∀ v, RV X.K X.w ρ' k' H' d v → Q v H') W := run
  unfold islowerB at run'
  split at run'
  · rename_i c
    simp only [RV] at rx
    subst rx
    have e0 : vs = [] := rxs.zero
    subst e0
    split at run'
    · rename_i hp
      refine mt_islower pins s τ H _ _ V us Q I rv rvs ⟨tx [c], rfl, rfl, trivial, ?_⟩
      have e : Txt.islower (tx [c]) = (decide (97 ≤ c) && decide (c ≤ 122)) := by
        have q : ∀ c : Fin 128, Txt.islower (tx [c.val]) = (decide (97 ≤ c.val) && decide (c.val ≤ 122)) := by decide +kernel
        exact q ⟨c, hp⟩
      rw [e]
      exact run'.now sm _ (by simp only [RV])
    · exact run'.elim
  · exact run'.elim
theorem mb_isupper : MtR X "str.isupper" (rM X isupperB) := by
  intro pins s τ H v vs V us Q I rv rvs h
  obtain ⟨ρ, k, st, x, xs, W, sm, rx, rxs, run⟩ := h
  have run' : Run X.K X.w ρ k H (isupperB st x xs) (fun d ρ' k' H' _ => ∀ v, RV X.K X.w ρ' k' H' d v → Q v H') W := run
  unfold isupperB at run'
  split at run'
  · rename_i c
    simp only [RV] at rx
    subst rx
    have e0 : vs = [] := rxs.zero
    subst e0
    split at run'
    · rename_i hp
      refine mt_isupper pins s τ H _ _ V us Q I rv rvs ⟨tx [c], rfl, rfl, trivial, ?_⟩
      have e : Txt.isupper (tx [c]) = (decide (65 ≤ c) && decide (c ≤ 90)) := by
        have q : ∀ c : Fin 128, Txt.isupper (tx [c.val]) = (decide (65 ≤ c.val) && decide (c.val ≤ 90)) := by decide +kernel
        exact q ⟨c, hp⟩
      rw [e]
      exact run'.now sm _ (by simp only [RV])
    · exact run'.elim
  · exact run'.elim
/-! ### subscripts -/
theorem ixN_eq (n : Nat) (i : Int) : PV.ixN n i = L2.ixN n i := by
  unfold PV.ixN L2.ixN
  by_cases h : 0 ≤ i
  · rw [if_pos h, if_pos h]
  · rw [if_neg h, if_neg h]
    by_cases c : -(n : Int) ≤ i
    · rw [if_pos c, if_pos (by omega)]
    · rw [if_neg c, if_neg (by omega)]
theorem ix_rule (hu : X.A.units + 64 < cLine) : IxR X (r2D X.K X.w index) := by
  intro value slice pins s τ H v u V U Q I rv ru h hs
  obtain ⟨ρ, k, st, x, y, W, sm, rx, ry, run⟩ := h
  have go : Run X.K X.w ρ k H (indexQ st x y) (fun d ρ' k' H' _ => ∀ v, RV X.K X.w ρ' k' H' d v → Q v H') W → wpAny (model X.prog X.w) X.A (subscriptTail value slice V U) (EP X pins τ Q) X.xe s := fun q => by
    unfold indexQ at q
    cases ed : dictOf st x y with
    | some kvs =>
      rw [ed] at q
      dsimp only at q
      obtain ⟨a, rfl, h1, fy⟩ := dictR sm rx ed
      have e0 := ry.flatW fy
      subst e0
      cases c : dget kvs y with
      | none => rw [c] at q; exact q.elim
      | some d =>
        rw [c] at q
        rcases h1 with ⟨o, g, A⟩ | ⟨z, es, n, r, rfl, D, e1, e2⟩
        · rw [c] at A
          obtain ⟨x', rfl, rx'⟩ := A
          cases rv
          exact tail_any (dict_typeIs I g) F.slot_dict_getitem.lookup (d_getItem (by omega) I g ru fun w' s' I' r' => ⟨x', H, I', r', q.now sm _ rx'⟩) hs
        · rw [c] at e2
          obtain ⟨u', x', rfl, r1, r2⟩ := e2
          exact ix_kdict value slice pins s τ H _ _ V U Q I rv ru ⟨a, _, x', rfl, rfl, ⟨es, n, u', D.at_, D.lit, e1, r1⟩, q.now sm _ r2⟩ hs
    | none =>
      rw [ed] at q
      dsimp only at q
      cases eq : asQ st x with
      | none => rw [eq] at q; exact q.elim
      | some xs =>
        rw [eq] at q
        cases y with
        | int i =>
          dsimp only at q
          cases c : (PV.ixN xs.length i).bind (xs[·]?) with
          | none => rw [c] at q; exact q.elim
          | some d =>
            rw [c] at q
            obtain ⟨a, ys, rfl, h1, h2⟩ := rx.asQ sm eq
            simp only [RV] at ry
            subst ry
            obtain ⟨j, c1, c2⟩ := Option.bind_eq_some_iff.mp c
            obtain ⟨v', e1, e2⟩ := h2.get c2
            have e3 : atI ys i = some v' := by
              unfold atI
              rw [← ixN_eq, ← h2.length, c1]
              exact e1
            rcases h1 with h1 | h1
            · exact ix_list value slice pins s τ H _ _ V U Q I rv ru ⟨a, ys, i, v', rfl, rfl, h1, e3, q.now sm _ e2⟩ hs
            · exact ix_tup value slice pins s τ H _ _ V U Q I rv ru ⟨a, ys, i, v', rfl, rfl, h1, e3, q.now sm _ e2⟩ hs
        | _ => exact q.elim
  cases x with
  | str t =>
    cases y with
    | int i =>
      simp only [index] at run
      split at run
      · rename_i hl
        split at run
        · rename_i c hc
          simp only [RV] at rx ry
          subst rx ry
          obtain ⟨j, c1, c2⟩ := Option.bind_eq_some_iff.mp hc
          refine ix_str value slice pins s τ H _ _ V U Q I rv ru ⟨tx t, i, c, rfl, rfl, by rw [tx_len, line_eq]; exact hl, ?_, run.now sm _ (by simp [RV, tx])⟩ hs
          rw [tx_list]
          unfold atI
          rw [← ixN_eq, c1]
          exact c2
        · exact run.elim
      · exact run.elim
    | _ => exact go run
  | scr ns =>
    cases y with
    | int i =>
      simp only [index] at run
      split at run
      · rename_i n hc
        simp only [RV] at ry
        subst ry
        obtain ⟨a, rfl, sq⟩ := rx.script
        obtain ⟨j, c1, c2⟩ := Option.bind_eq_some_iff.mp hc
        refine ix_list value slice pins s τ H _ _ V U Q I rv ru ⟨a, _, i, .int n, rfl, rfl, sq, ?_, run.now sm _ (by simp only [RV])⟩ hs
        unfold atI
        rw [← ixN_eq, List.length_map, c1, Option.bind_some, List.getElem?_map, c2]
        rfl
      · exact run.elim
    | _ => exact go run
  | _ => exact go run
/-! ### slices -/
theorem sIx_eq (n d : Nat) (o : Option Int) : PV.sIx n d o = HT.sIx n d o := by cases o <;> rfl
theorem RVs.cut {K : PySem.W.Frag} {w : World} {ρ : Lc} {k : Nat} {H : Hp} {xs : List D} {ys : List V} (h : RVs K w ρ k H xs ys) (lo hi : Option Int) : RVs K w ρ k H (PV.cut xs lo hi) (cutV ys lo hi) := by
  unfold PV.cut cutV
  rw [sIx_eq, sIx_eq, h.length]
  exact (h.drop _).take _
theorem cutS_tx (t : List Nat) (lo hi : Option Int) : cutS (tx t) lo hi = tx (PV.cut t lo hi) := by
  unfold PV.cut
  rw [sIx_eq, sIx_eq]
  show Str.mk _ = Str.mk _
  rw [tx_list, tx_len]
def rS (K : PySem.W.Frag) (w : World) (f : D → Option Int → Option Int → Store → Res D) : V → Option Int → Option Int → Hp → VK → Prop := fun v lo hi H Q => ∃ ρ k st x W, Sim K w ρ k H st ∧ RV K w ρ k H x v ∧ Run K w ρ k H (f x lo hi st) (fun d ρ' k' H' _ => ∀ v, RV K w ρ' k' H' d v → Q v H') W
theorem sl_rule {m : Bool} : SlR X (rS X.K X.w (PV.slice m)) := by
  intro pins s τ H v V vl vu lo hi sl Q I rv hs pl pu h
  obtain ⟨ρ, k, st, x, W, sm, rx, run⟩ := h
  have go : Run X.K X.w ρ k H (match PV.asL st x with
    | some xs => PV.mk m (PV.cut xs lo hi) st
    | none => .stuck) (fun d ρ' k' H' _ => ∀ v, RV X.K X.w ρ' k' H' d v → Q v H') W → ∃ T id, typeLookup (.type T) "__getitem__" = pure (some (.builtin id)) ∧ s.TypeIs V T ∧ wpAny (model X.prog X.w) X.A (getItem V (.ref sl)) (EP X pins τ Q) X.xe s := fun q => by
    cases e : PV.asL st x with
    | none => rw [e] at q; exact q.elim
    | some xs =>
      rw [e] at q
      obtain ⟨a, ys, rfl, h1, h2⟩ := rx.asL sm e
      exact sl_list pins s τ H _ V vl vu lo hi sl Q I rv hs pl pu ⟨a, ys, rfl, .of h1, fun p hp => Run.mk sm q (h2.cut lo hi) hp⟩
  cases x with
  | str t =>
    simp only [PV.slice] at run
    split at run
    · rename_i hl
      simp only [RV] at rx
      subst rx
      exact sl_str pins s τ H _ V vl vu lo hi sl Q I rv hs pl pu ⟨tx t, rfl, by rw [tx_len, line_eq]; exact hl, by rw [cutS_tx]; exact run.now sm _ (by simp only [RV])⟩
    · exact run.elim
  | _ => exact go run
end
end PV
set_option Elab.async false
set_option linter.all false
set_option maxRecDepth 100000
set_option maxHeartbeats 4000000
/-! PvSnd1: each expression's reading, from its parts'. -/
namespace PV
open PySem L2
section
variable {X : Cx} {Φ : Prog} {cur : Option Exn} {W : WX} {pos : Pos} {pa pb pc : Expr} {a b c : E}
abbrev SE (X : Cx) (Φ : Prog) (cur : Option Exn) (W : WX) (p : Expr) (e : E) : Prop := PE X p (tE X.K X.w Φ cur W e)
abbrev SB (X : Cx) (Φ : Prog) (cur : Option Exn) (W : WX) (p : Expr) (e : B) : Prop := PT X p (tB X.K X.w Φ cur W e)
abbrev SEs (X : Cx) (Φ : Prog) (cur : Option Exn) (W : WX) (p : List Expr) (e : List E) : Prop := PA X p (tAs X.K X.w Φ cur W e)
theorem se_v {i : Nat} {x : Str} (hN : X.N[i]? = some x) (hv : Vis X.env.scope x) (hd : (x == ("__debug__" : Str)) = false) (hcd : (x == ("__classdict__" : Str)) = false) : SE X Φ cur W (.Name x pos) (.v i) :=
  pe_w (pe_var hN hv hd hcd) fun τ H Q ⟨ρ, k, st, σ, at_, run⟩ => by
    simp only [evalE] at run
    split at run
    · rename_i d e
      obtain ⟨v, e1, r⟩ := at_.env.2 i d e
      exact ⟨v, e1, run.now at_.sim v r⟩
    · exact run.elim
theorem se_int {i : Int} {j} : SE X Φ cur W (.Constant (.int i) j pos) (.c (.int i)) :=
  pe_w pe_int fun τ H Q ⟨ρ, k, st, σ, at_, run⟩ => by
    simp only [evalE] at run
    exact run.now at_.sim _ (by simp only [RV])
theorem se_bl {i : Bool} {j} : SE X Φ cur W (.Constant (.bool i) j pos) (.c (.bl i)) :=
  pe_w pe_bl fun τ H Q ⟨ρ, k, st, σ, at_, run⟩ => by
    simp only [evalE] at run
    exact run.now at_.sim _ (by simp only [RV])
theorem se_non {j} : SE X Φ cur W (.Constant .none j pos) (.c .non) :=
  pe_w pe_non fun τ H Q ⟨ρ, k, st, σ, at_, run⟩ => by
    simp only [evalE] at run
    exact run.now at_.sim _ (by simp only [RV])
theorem se_str {z : Str} {s : List Nat} {j} (e : z = tx s) : SE X Φ cur W (.Constant (.str z) j pos) (.c (.str s)) :=
  pe_w pe_str fun τ H Q ⟨ρ, k, st, σ, at_, run⟩ => by
    simp only [evalE] at run
    exact run.now at_.sim _ (by simp only [RV]; rw [e])
/-- a constant of the module -/
def GlobOk (K : PySem.W.Frag) (w : World) (mg : Str → Option Value) (x : Str) (d : D) : Prop := ∃ u v, mg x = some u ∧ RelV v u ∧ ∀ ρ k H, RV K w ρ k H d v
theorem se_g {x : String} {z : Str} (ez : z = Str.ofString x) (hg : Gl X z) (hd : (z == ("__debug__" : Str)) = false) (h : ∀ d, Φ.glob x = some d → GlobOk X.K X.w X.mg z d) : SE X Φ cur W (.Name z pos) (.g x) := by
  cases e : Φ.glob x with
  | none =>
    refine ⟨fun pins s τ H Q I ⟨ρ, k, st, σ, at_, run⟩ => ?_⟩
    simp only [evalE, e] at run
    exact run.elim
  | some d =>
    obtain ⟨u, v, h1, h2, h3⟩ := h d e
    refine pe_w (pe_glob hg h1 h2 hd) fun τ H Q ⟨ρ, k, st, σ, at_, run⟩ => ?_
    simp only [evalE, e] at run
    exact run.now at_.sim v (h3 ρ k H)
theorem se_bin {m : Bool} (o : Bop) (ha : SE X Φ cur W pa a) (hb : SE X Φ cur W pb b) : SE X Φ cur W (.BinOp pa o.py pb pos) (.bin m o a b) :=
  pe_w (pe_op (ob_all (m := m) o) ha hb) fun τ H Q ⟨ρ, k, st, σ, at_, run⟩ => by
    simp only [evalE] at run
    refine ⟨ρ, k, st, σ, at_, run.seq at_ fun x ρ1 k1 H1 st1 e1 a1 run1 v rv => ?_⟩
    refine ⟨ρ1, k1, st1, σ, a1, run1.seq a1 fun y ρ2 k2 H2 st2 e2 a2 run2 u ru => ?_⟩
    exact ⟨ρ2, k2, st2, x, y, _, a2.sim, rv.mono e2, ru, run2⟩
theorem se_neg (ha : SE X Φ cur W pa a) : SE X Φ cur W (.UnaryOp .USub pa pos) (.neg a) :=
  pe_w (pe_un un_neg ha) fun τ H Q ⟨ρ, k, st, σ, at_, run⟩ => by
    simp only [evalE] at run
    refine ⟨ρ, k, st, σ, at_, run.seq at_ fun x ρ1 k1 H1 st1 e1 a1 run1 v rv => ?_⟩
    split at run1
    · simp only [RV] at rv
      subst rv
      exact ⟨_, rfl, run1.now a1.sim _ (by simp only [RV])⟩
    · exact run1.elim
theorem tc_cmp {o : Cop} {τ : St} {H : Hp} {Q : VK} (h : tE X.K X.w Φ cur W (.cmp o a b) τ H Q) : tOp (rC X.K X.w (cmpop o)) (tE X.K X.w Φ cur W a) (tE X.K X.w Φ cur W b) τ H Q := by
  obtain ⟨ρ, k, st, σ, at_, run⟩ := h
  simp only [evalE] at run
  refine ⟨ρ, k, st, σ, at_, run.seq at_ fun x ρ1 k1 H1 st1 e1 a1 run1 v rv => ?_⟩
  refine ⟨ρ1, k1, st1, σ, a1, run1.seq a1 fun y ρ2 k2 H2 st2 e2 a2 run2 u ru => ?_⟩
  exact rC_of ⟨ρ2, k2, st2, x, y, _, a2.sim, rv.mono e2, ru, run2⟩
theorem tc_cmp2 {o o' : Cop} {τ : St} {H : Hp} {Q : VK} (h : tE X.K X.w Φ cur W (.cmp2 o o' a b c) τ H Q) :
    tChain (rC X.K X.w (cmpop o)) (rC X.K X.w (cmpop o')) (tE X.K X.w Φ cur W a) (tE X.K X.w Φ cur W b) (tE X.K X.w Φ cur W c) τ H Q := by
  obtain ⟨ρ, k, st, σ, at_, run⟩ := h
  simp only [evalE] at run
  refine ⟨ρ, k, st, σ, at_, run.seq at_ fun x ρ1 k1 H1 st1 e1 a1 run1 v rv => ?_⟩
  refine ⟨ρ1, k1, st1, σ, a1, run1.seq a1 fun y ρ2 k2 H2 st2 e2 a2 run2 u ru => ?_⟩
  unfold cmpR at run2
  cases e : cmpop o x y st2 with
  | none => rw [e] at run2; exact run2.elim
  | some d =>
    rw [e] at run2
    refine ⟨ρ2, k2, st2, x, y, d, a2.sim, rv.mono e2, ru, e, d, rfl, ?_⟩
    simp only [Res.bind_ok] at run2
    cases d with
    | false => exact run2.now a2.sim _ (by simp only [RV])
    | true =>
      refine ⟨ρ2, k2, st2, σ, a2, run2.seq a2 fun z ρ3 k3 H3 st3 e3 a3 run3 t rt => ?_⟩
      exact rC_of ⟨ρ3, k3, st3, y, z, _, a3.sim, ru.mono e3, rt, run3⟩
theorem se_cmp (hu : X.A.units + 64 < cLine) (o : Cop) (ha : SE X Φ cur W pa a) (hb : SE X Φ cur W pb b) (hm : behindInMarks o.py pb = false) : SE X Φ cur W (.Compare pa [o.py] [pb] pos) (.cmp o a b) :=
  pe_w (pe_cmpR (oc_all hu o) ha hb hm) fun _ _ _ h => tc_cmp h
theorem se_cmp2 (hu : X.A.units + 64 < cLine) (o o' : Cop) (ha : SE X Φ cur W pa a) (hb : SE X Φ cur W pb b) (hc : SE X Φ cur W pc c) (hm : lastMarks [o.py, o'.py] [pb, pc] = false) :
    SE X Φ cur W (.Compare pa [o.py, o'.py] [pb, pc] pos) (.cmp2 o o' a b c) :=
  pe_w (pe_chain (oc_all hu o) (oc_all hu o') ha hb hc hm) fun _ _ _ h => tc_cmp2 h
theorem se_and {r : List Expr} (ha : SE X Φ cur W pa a) (hb : SE X Φ cur W (.BoolOp .And (pb :: r) pos) b) : SE X Φ cur W (.BoolOp .And (pa :: pb :: r) pos) (.and a b) :=
  pe_w (pe_and ha hb) fun τ H Q ⟨ρ, k, st, σ, at_, run⟩ => by
    simp only [evalE] at run
    refine ⟨ρ, k, st, σ, at_, run.seq at_ fun x ρ1 k1 H1 st1 e1 a1 run1 v rv => ?_⟩
    split at run1
    · simp only [RV] at rv
      subst rv
      exact ⟨true, rfl, ρ1, k1, st1, σ, a1, run1⟩
    · simp only [RV] at rv
      subst rv
      exact ⟨false, rfl, run1.now a1.sim _ (by simp only [RV])⟩
    · exact run1.elim
theorem se_or {r : List Expr} (ha : SE X Φ cur W pa a) (hb : SE X Φ cur W (.BoolOp .Or (pb :: r) pos) b) : SE X Φ cur W (.BoolOp .Or (pa :: pb :: r) pos) (.or a b) :=
  pe_w (pe_orT ha hb) fun τ H Q ⟨ρ, k, st, σ, at_, run⟩ => by
    simp only [evalE] at run
    refine ⟨ρ, k, st, σ, at_, run.seq at_ fun x ρ1 k1 H1 st1 e1 a1 run1 v rv => ?_⟩
    cases e : truth st1 x with
    | none => rw [e] at run1; exact run1.elim
    | some d =>
      rw [e] at run1
      refine ⟨d, truV a1.sim rv e, ?_⟩
      cases d with
      | true => exact run1.now a1.sim _ rv
      | false => exact ⟨ρ1, k1, st1, σ, a1, run1⟩
theorem se_one {o} (ha : SE X Φ cur W pa a) : SE X Φ cur W (.BoolOp o [pa] pos) a := pe_one ha
theorem se_ite {t : B} {pt : Expr} (hc : SB X Φ cur W pt t) (ha : SE X Φ cur W pa a) (hb : SE X Φ cur W pb b) : SE X Φ cur W (.IfExp pt pa pb pos) (.ite t a b) :=
  pe_w (pe_ifExp hc ha hb) fun τ H Q ⟨ρ, k, st, σ, at_, run⟩ => by
    simp only [evalE] at run
    refine ⟨ρ, k, st, σ, at_, run.seq at_ fun x ρ1 k1 H1 st1 e1 a1 run1 d ed => ?_⟩
    subst ed
    cases x with
    | true => exact ⟨ρ1, k1, st1, σ, a1, run1⟩
    | false => exact ⟨ρ1, k1, st1, σ, a1, run1⟩
theorem se_ix {i : E} {pi : Expr} (hu : X.A.units + 64 < cLine) (ha : SE X Φ cur W pa a) (hb : SE X Φ cur W pi i) (hs : PlainIx pi) : SE X Φ cur W (.Subscript pa pi pos) (.ix a i) :=
  pe_w (pe_ix (ix_rule hu) ha hb hs) fun τ H Q ⟨ρ, k, st, σ, at_, run⟩ => by
    simp only [evalE] at run
    refine ⟨ρ, k, st, σ, at_, run.seq at_ fun x ρ1 k1 H1 st1 e1 a1 run1 v rv => ?_⟩
    refine ⟨ρ1, k1, st1, σ, a1, run1.seq a1 fun y ρ2 k2 H2 st2 e2 a2 run2 u ru => ?_⟩
    exact ⟨ρ2, k2, st2, x, y, _, a2.sim, rv.mono e2, ru, run2⟩
theorem so_none : PO X none (tOs X.K X.w Φ cur W none) := po_w po_none fun τ H Q ⟨ρ, k, st, σ, at_, run⟩ => by
  simp only [evalO] at run
  exact run.now at_.sim _ rfl
theorem so_some (ha : SE X Φ cur W pa a) : PO X (some pa) (tOs X.K X.w Φ cur W (some a)) := po_w (po_some ha) fun τ H Q ⟨ρ, k, st, σ, at_, run⟩ => by
  simp only [evalO] at run
  refine ⟨ρ, k, st, σ, at_, run.seq at_ fun x ρ1 k1 H1 st1 e1 a1 run1 v rv => ?_⟩
  split at run1
  · simp only [RV] at rv
    subst rv
    exact ⟨_, rfl, run1.now a1.sim _ rfl⟩
  · exact run1.elim
theorem se_sl {m : Bool} {lo hi : Option E} {pl ph : Option Expr} {p2 : Pos} (ha : SE X Φ cur W pa a) (hl : PO X pl (tOs X.K X.w Φ cur W lo)) (hh : PO X ph (tOs X.K X.w Φ cur W hi)) : SE X Φ cur W (.Subscript pa (.Slice pl ph none p2) pos) (.sl m a lo hi) :=
  pe_w (pe_slice (sl_rule (m := m)) ha hl hh) fun τ H Q ⟨ρ, k, st, σ, at_, run⟩ => by
    simp only [evalE] at run
    refine ⟨ρ, k, st, σ, at_, run.seq at_ fun x ρ1 k1 H1 st1 e1 a1 run1 v rv => ?_⟩
    refine ⟨ρ1, k1, st1, σ, a1, run1.seq a1 fun l ρ2 k2 H2 st2 e2 a2 run2 l' el => ?_⟩
    subst el
    refine ⟨ρ2, k2, st2, σ, a2, run2.seq a2 fun h ρ3 k3 H3 st3 e3 a3 run3 h' eh => ?_⟩
    subst eh
    exact ⟨ρ3, k3, st3, x, _, a3.sim, rv.mono (e2.trans e3), run3⟩
/-! ### lists of expressions -/
theorem ss_nil : SEs X Φ cur W [] [] := pa_w pa_nil fun τ H Q ⟨ρ, k, st, σ, at_, run⟩ => by
  simp only [evalEs] at run
  exact run.now at_.sim _ .nil
theorem ss_cons {pr : List Expr} {r : List E} (ha : SE X Φ cur W pa a) (hr : SEs X Φ cur W pr r) (hs : starEach (pa :: pr) X.env = (false, eval pa X.env) :: starEach pr X.env) : SEs X Φ cur W (pa :: pr) (a :: r) :=
  pa_w (pa_cons ha hr hs) fun τ H Q ⟨ρ, k, st, σ, at_, run⟩ => by
    simp only [evalEs] at run
    refine ⟨ρ, k, st, σ, at_, run.seq at_ fun x ρ1 k1 H1 st1 e1 a1 run1 v rv => ?_⟩
    refine ⟨ρ1, k1, st1, σ, a1, run1.seq a1 fun xs ρ2 k2 H2 st2 e2 a2 run2 vs rvs => ?_⟩
    exact run2.now a2.sim _ (.cons (rv.mono e2) rvs)
theorem evalEs_len : ∀ {r : List E} {σ : Env} {st : Store} {xs : List D} {st' : Store}, evalEs Φ cur σ r st = .ok xs st' → xs.length = r.length
  | [], σ, st, xs, st', e => by simp only [evalEs] at e; cases e; rfl
  | a :: r, σ, st, xs, st', e => by
    simp only [evalEs] at e
    cases h1 : evalE Φ cur σ a st with
    | ok x st1 =>
      rw [h1] at e
      simp only [Res.bind_ok] at e
      cases h2 : evalEs Φ cur σ r st1 with
      | ok ys st2 =>
        rw [h2] at e
        simp only [Res.bind_ok] at e
        cases e
        rw [List.length_cons, List.length_cons, evalEs_len h2]
      | _ => rw [h2] at e; cases e
    | _ => rw [h1] at e; cases e
theorem se_tup {pr : List Expr} {r : List E} {j} (h : SEs X Φ cur W pr r) (hl : r.length ≤ LIM) : SE X Φ cur W (.Tuple pr j pos) (.tup r) :=
  pe_w (pe_tup h) fun τ H Q ⟨ρ, k, st, σ, at_, run⟩ => by
    simp only [evalE] at run
    refine ⟨ρ, k, st, σ, at_, run.seqE at_ fun xs ρ1 k1 H1 st1 ex e1 a1 run1 vs rvs => ⟨?_, fun p hp => Run.tup a1.sim run1 rvs hp⟩⟩
    rw [← rvs.length, evalEs_len ex, line_eq]
    exact hl
theorem se_lst {m : Bool} {pr : List Expr} {r : List E} (h : SEs X Φ cur W pr r) (hl : r.length ≤ LIM) : SE X Φ cur W (.List pr pos) (.lst m r) :=
  pe_w (pe_lst h) fun τ H Q ⟨ρ, k, st, σ, at_, run⟩ => by
    simp only [evalE] at run
    refine ⟨ρ, k, st, σ, at_, run.seqE at_ fun xs ρ1 k1 H1 st1 ex e1 a1 run1 vs rvs => ⟨?_, fun p hp => Run.mk a1.sim run1 rvs hp⟩⟩
    rw [← rvs.length, evalEs_len ex, line_eq]
    exact hl
/-! ### tests -/
theorem sb_t (ha : SE X Φ cur W pa a) (he : ∀ whole, isTrue pa X.env whole = (do let v ← whole; standAt pa.pos; holding [v] (truthy v))) : SB X Φ cur W pa (.t a) :=
  pt_w (pt_truth ha he) fun τ H Q ⟨ρ, k, st, σ, at_, run⟩ => by
    simp only [evalT] at run
    refine ⟨ρ, k, st, σ, at_, run.seq at_ fun x ρ1 k1 H1 st1 e1 a1 run1 v rv => ?_⟩
    cases e : truth st1 x with
    | none => rw [e] at run1; exact run1.elim
    | some d => rw [e] at run1; exact ⟨d, truV a1.sim rv e, run1.now a1.sim _ rfl⟩
/-- an expression that gives bools alone, as a test -/
theorem tb_bl {e : E} (hb : ∀ σ st d st', evalE Φ cur σ e st = .ok d st' → ∃ c, d = .bl c) {τ : St} {H : Hp} {Q : Bool → Hp → Prop} (h : tB X.K X.w Φ cur W (.t e) τ H Q) : tE X.K X.w Φ cur W e τ H fun x H' => ∃ k, x = .bl k ∧ Q k H' := by
  obtain ⟨ρ, k, st, σ, at_, run⟩ := h
  simp only [evalT] at run
  refine ⟨ρ, k, st, σ, at_, run.seqE at_ fun x ρ1 k1 H1 st1 ex e1 a1 run1 v rv => ?_⟩
  obtain ⟨c, rfl⟩ := hb _ _ _ _ ex
  simp only [RV] at rv
  exact ⟨c, rv, run1.now a1.sim _ rfl⟩
theorem cmpR_bl {o : Cop} {x y d : D} {st st' : Store} (h : cmpR o x y st = .ok d st') : ∃ c, d = .bl c := by
  unfold cmpR at h
  split at h
  · cases h; exact ⟨_, rfl⟩
  · cases h
theorem bind_ok {α β : Type} {r : Res α} {f : α → Store → Res β} {d : β} {st' : Store} (h : r.bind f = .ok d st') : ∃ x st, r = .ok x st ∧ f x st = .ok d st' := by
  cases r with
  | ok x st => exact ⟨x, st, rfl, h⟩
  | _ => cases h
theorem cmp_bl {o : Cop} {σ : Env} {st : Store} {d : D} {st' : Store} (h : evalE Φ cur σ (.cmp o a b) st = .ok d st') : ∃ c, d = .bl c := by
  simp only [evalE] at h
  obtain ⟨x, st1, _, h⟩ := bind_ok h
  obtain ⟨y, st2, _, h⟩ := bind_ok h
  exact cmpR_bl h
theorem cmp2_bl {o o' : Cop} {σ : Env} {st : Store} {d : D} {st' : Store} (h : evalE Φ cur σ (.cmp2 o o' a b c) st = .ok d st') : ∃ c, d = .bl c := by
  simp only [evalE] at h
  obtain ⟨x, st1, _, h⟩ := bind_ok h
  obtain ⟨y, st2, _, h⟩ := bind_ok h
  obtain ⟨z, st3, _, h⟩ := bind_ok h
  split at h
  · obtain ⟨z, st4, _, h⟩ := bind_ok h
    exact cmpR_bl h
  · cases h; exact ⟨_, rfl⟩
  · cases h
theorem sb_cmp (hu : X.A.units + 64 < cLine) (o : Cop) (ha : SE X Φ cur W pa a) (hb : SE X Φ cur W pb b) (hm : behindInMarks o.py pb = false) : SB X Φ cur W (.Compare pa [o.py] [pb] pos) (.t (.cmp o a b)) :=
  pt_w (pt_cmpR (oc_all hu o) ha hb hm) fun _ _ _ h => tc_cmp (tb_bl (fun _ _ _ _ => cmp_bl) h)
theorem sb_cmp2 (hu : X.A.units + 64 < cLine) (o o' : Cop) (ha : SE X Φ cur W pa a) (hb : SE X Φ cur W pb b) (hc : SE X Φ cur W pc c) (hm : lastMarks [o.py, o'.py] [pb, pc] = false) :
    SB X Φ cur W (.Compare pa [o.py, o'.py] [pb, pc] pos) (.t (.cmp2 o o' a b c)) :=
  pt_w (pt_chain (oc_all hu o) (oc_all hu o') ha hb hc hm) fun _ _ _ h => tc_cmp2 (tb_bl (fun _ _ _ _ => cmp2_bl) h)
variable {s t : B}
theorem sb_not (ha : SB X Φ cur W pa s) : SB X Φ cur W (.UnaryOp .Not pa pos) (.not s) :=
  pt_w (pt_not ha) fun τ H Q ⟨ρ, k, st, σ, at_, run⟩ => by
    simp only [evalT] at run
    refine ⟨ρ, k, st, σ, at_, run.seq at_ fun x ρ1 k1 H1 st1 e1 a1 run1 d ed => ?_⟩
    subst ed
    exact run1.now a1.sim _ rfl
theorem pw_of {o} {ps : List Expr} {tt : TT} (h : PT X (.BoolOp o ps pos) tt) : PW X (.BoolOp o ps pos) tt := ⟨fun wh pins s σ H Q I q => h.run pins s σ H Q I q⟩
theorem sb_and {r : List Expr} (ha : SB X Φ cur W pa s) (hb : SB X Φ cur W (.BoolOp .And (pb :: r) pos) t) : SB X Φ cur W (.BoolOp .And (pa :: pb :: r) pos) (.and s t) :=
  pt_w (pw_and ha (pw_of hb)).pt fun τ H Q ⟨ρ, k, st, σ, at_, run⟩ => by
    simp only [evalT] at run
    refine ⟨ρ, k, st, σ, at_, run.seq at_ fun x ρ1 k1 H1 st1 e1 a1 run1 d ed => ?_⟩
    subst ed
    cases x with
    | true => exact ⟨ρ1, k1, st1, σ, a1, run1⟩
    | false => exact run1.now a1.sim _ rfl
theorem sb_or {r : List Expr} (ha : SB X Φ cur W pa s) (hb : SB X Φ cur W (.BoolOp .Or (pb :: r) pos) t) : SB X Φ cur W (.BoolOp .Or (pa :: pb :: r) pos) (.or s t) :=
  pt_w (pw_or ha (pw_of hb)).pt fun τ H Q ⟨ρ, k, st, σ, at_, run⟩ => by
    simp only [evalT] at run
    refine ⟨ρ, k, st, σ, at_, run.seq at_ fun x ρ1 k1 H1 st1 e1 a1 run1 d ed => ?_⟩
    subst ed
    cases x with
    | true => exact run1.now a1.sim _ rfl
    | false => exact ⟨ρ1, k1, st1, σ, a1, run1⟩
theorem sb_and1 (ha : SB X Φ cur W pa s) : SB X Φ cur W (.BoolOp .And [pa] pos) s := (pw_and1 ha).pt
theorem sb_or1 (ha : SB X Φ cur W pa s) : SB X Φ cur W (.BoolOp .Or [pa] pos) s := (pw_or1 ha).pt
end
end PV
set_option Elab.async false
set_option linter.all false
set_option maxRecDepth 100000
set_option maxHeartbeats 4000000
/-! PvSnd2: calls of built-in functions and methods, fields, displays. -/
namespace PV
open PySem L2 PyProof.Rows
/-! ### plain expressions -/
def notStar : Expr → Bool
  | .Starred .. => false
  | _ => true
theorem star_one {p : Expr} {r : List Expr} {env : PySem.Env} (h : notStar p = true) : starEach (p :: r) env = (false, eval p env) :: starEach r env := by
  cases p <;> first | rfl | cases h
theorem star_all : ∀ {r : List Expr} {env : PySem.Env} {pos : Pos}, r.all notStar = true → (backTo pos (starEach r env)).any (·.1) = false
  | [], _, _, _ => rfl
  | p :: r, env, pos, h => by
    simp only [List.all_cons, Bool.and_eq_true] at h
    rw [star_one h.1]
    show (false || (backTo pos (starEach r env)).any (·.1)) = false
    rw [star_all h.2]
    rfl
theorem star_all2 : ∀ {r : List Expr} {env : PySem.Env} {pos : Pos}, r.all notStar = true → (backTo pos (starEach r env)).all (fun x => !x.1) = true
  | [], _, _, _ => rfl
  | p :: r, env, pos, h => by
    simp only [List.all_cons, Bool.and_eq_true] at h
    rw [star_one h.1]
    show (true && (backTo pos (starEach r env)).all (fun x => !x.1)) = true
    rw [star_all2 h.2]
    rfl
/-- no super() -/
def notSup : Expr → Bool
  | .Call (.Name _ _) [] [] _ => false
  | _ => true
theorem sup_one {p : Expr} {f : Str} {env : PySem.Env} (h : notSup p = true) (w : Sem Value) : attributeBase p f env w = w := by
  unfold attributeBase
  split
  · cases h
  · rfl
/-- a test by its value's truth -/
def byTruth : Expr → Bool
  | .UnaryOp .Not _ _ => false
  | .BoolOp .. => false
  | .IfExp .. => false
  | .Compare .. => false
  | _ => true
theorem truth_one {p : Expr} {env : PySem.Env} (h : byTruth p = true) (whole : Sem Value) : isTrue p env whole = (do let v ← whole; standAt p.pos; holding [v] (truthy v)) := by
  cases p <;> first | rfl | cases h | skip
  rename_i op x pos
  cases op <;> first | rfl | cases h
def notSlice : Expr → Bool
  | .Slice .. => false
  | _ => true
theorem plain_ix {p : Expr} (h : notSlice p = true) : PlainIx p := fun o i => by
  cases p <;> first | rfl | cases h
def notSet : Expr → Bool
  | .Set .. => false
  | _ => true
theorem no_mark {p : Expr} {op : CmpOp} (h : notSet p = true) : behindInMarks op p = false := by
  cases p <;> first | rfl | cases h
theorem no_marks {p q : Expr} {o o' : CmpOp} (h : notSet q = true) : lastMarks [o, o'] [p, q] = false := by
  show behindInMarks o' q = false
  exact no_mark h
theorem no_fold {p : Expr} {env : PySem.Env} (h : notSet p = true) (x : Value) : foldedSetIterable p env x = pure x := by
  unfold foldedSetIterable
  cases p <;> first | rfl | cases h

section
variable {X : Cx} {Φ : Prog} {cur : Option Exn} {W : WX} {pos ppos : Pos} {pa pb pc : Expr} {a b c : E} {pr : List Expr} {r : List E}
theorem se_not (ha : SE X Φ cur W pa a) : SE X Φ cur W (.UnaryOp .Not pa pos) (.not (.t a)) :=
  pe_w (pe_notT ha) fun τ H Q ⟨ρ, k, st, σ, at_, run⟩ => by
    have e : ∀ {α β γ : Type} (r : Res α) (f : α → Store → Res β) (g : β → Store → Res γ), (r.bind f).bind g = r.bind fun a s => (f a s).bind g := fun r f g => by cases r <;> rfl
    simp only [evalE, evalT, e] at run
    refine ⟨ρ, k, st, σ, at_, run.seq at_ fun x ρ1 k1 H1 st1 e1 a1 run1 v rv => ?_⟩
    cases e : truth st1 x with
    | none => rw [e] at run1; exact run1.elim
    | some d =>
      rw [e] at run1
      exact ⟨d, truV a1.sim rv e, run1.now a1.sim _ (by simp only [RV])⟩
/-! ### built-in functions -/
theorem se_fnB {id : String} {x : String} {m : Bool} {f : Bf} (cr : CallR X (.builtin id) (rnD X.K X.w fun xs st => bltin Φ m f xs st)) (hg : Gl X (Str.ofString x)) (hm : X.mg (Str.ofString x) = none) (hv : bootBuiltins (Str.ofString x) = some (.builtin id))
    (hn : Str.ofString x ≠ "__name__") (hd : (Str.ofString x == ("__debug__" : Str)) = false) (ha : SEs X Φ cur W (pa :: pr) r) (h1 : notStar pa = true) (h2 : pr.all notStar = true) :
    SE X Φ cur W (.Call (.Name (Str.ofString x) ppos) (pa :: pr) [] pos) (.fn m f r) :=
  pe_w (pe_callB cr hg hm hv ha hn hd (star_one h1) (star_all h2)) fun τ H Q ⟨ρ, k, st, σ, at_, run⟩ => by
    simp only [evalE] at run
    refine ⟨ρ, k, st, σ, at_, run.seq at_ fun xs ρ1 k1 H1 st1 e1 a1 run1 vs rvs => ?_⟩
    exact ⟨ρ1, k1, st1, xs, _, a1.sim, rvs, run1⟩
theorem se_fnT {id : String} {x : String} {m : Bool} {f : Bf} (cr : CallR X (.type id) (rnD X.K X.w fun xs st => bltin Φ m f xs st)) (hg : Gl X (Str.ofString x)) (hm : X.mg (Str.ofString x) = none) (hv : bootBuiltins (Str.ofString x) = some (.type id))
    (hn : Str.ofString x ≠ "__name__") (hd : (Str.ofString x == ("__debug__" : Str)) = false) (ha : SEs X Φ cur W (pa :: pr) r) (h1 : notStar pa = true) (h2 : pr.all notStar = true) :
    SE X Φ cur W (.Call (.Name (Str.ofString x) ppos) (pa :: pr) [] pos) (.fn m f r) :=
  pe_w (pe_callTy cr hg hm hv ha hn hd (star_one h1) (star_all h2)) fun τ H Q ⟨ρ, k, st, σ, at_, run⟩ => by
    simp only [evalE] at run
    refine ⟨ρ, k, st, σ, at_, run.seq at_ fun xs ρ1 k1 H1 st1 e1 a1 run1 vs rvs => ?_⟩
    exact ⟨ρ1, k1, st1, xs, _, a1.sim, rvs, run1⟩
def Bf.nm : Bf → String
  | .len => "len" | .ord => "ord" | .chr => "chr" | .int => "int" | .str => "str" | .repr => "repr" | .bool => "bool" | .abs => "abs" | .max => "max" | .min => "min" | .sum => "sum" | .list => "list" | .tuple => "tuple" | .sorted => "sorted"
  | .all => "all" | .any => "any"
/-- those that are served; the second needs calm -/
def Bf.ok (calm : Bool) : Bf → Bool
  | .len | .ord | .int | .abs | .tuple | .repr => true
  | .max | .min | .sum | .list | .all | .any => calm
  | _ => false
theorem se_fn {m : Bool} {f : Bf} {calm : Bool} (hf : f.ok calm = true) (hy : SysD X.K) (hc : calm = true → X.calm = true) (hr : X.A.guards = some []) (hu : X.A.units + 80 < cLine) (hp : Φ.rep = repD) (hg : Gl X (Str.ofString f.nm)) (hm : X.mg (Str.ofString f.nm) = none)
    (ha : SEs X Φ cur W (pa :: pr) r) (h1 : notStar pa = true) (h2 : pr.all notStar = true) : SE X Φ cur W (.Call (.Name (Str.ofString f.nm) ppos) (pa :: pr) [] pos) (.fn m f r) := by
  cases f with
  | len => exact se_fnB cb_len hg hm boot_len (by decide) (by decide) ha h1 h2
  | ord => exact se_fnB cb_ord hg hm boot_ord (by decide) (by decide) ha h1 h2
  | int => exact se_fnT cb_int hg hm boot_int (by decide) (by decide) ha h1 h2
  | abs => exact se_fnB cb_abs hg hm boot_abs (by decide) (by decide) ha h1 h2
  | tuple => exact se_fnT cb_tuple hg hm boot_tuple (by decide) (by decide) ha h1 h2
  | repr => exact se_fnB (by show CallR X _ (rnD X.K X.w fun xs st => reprB Φ.rep st xs); rw [hp]; exact cb_repr hy hr hu) hg hm boot_repr (by decide) (by decide) ha h1 h2
  | max => exact se_fnB (cb_max (hc hf)) hg hm boot_max (by decide) (by decide) ha h1 h2
  | min => exact se_fnB (cb_min (hc hf)) hg hm boot_min (by decide) (by decide) ha h1 h2
  | sum => exact se_fnB (cb_sum (hc hf)) hg hm boot_sum (by decide) (by decide) ha h1 h2
  | list => exact se_fnT (cb_list (hc hf)) hg hm boot_list (by decide) (by decide) ha h1 h2
  | all => exact se_fnB (cb_all (hc hf)) hg hm boot_all (by decide) (by decide) ha h1 h2
  | any => exact se_fnB (cb_any (hc hf)) hg hm boot_any (by decide) (by decide) ha h1 h2
  | _ => cases hf
/-! ### methods of built-in types -/
/-- the receiver: of that type -/
def Rcv (K : PySem.W.Frag) (w : World) (T : String) (x : V) (H : Hp) : Prop := tyV K T x H ∨ (T = "dict" ∧ ∃ d es n, x = .ref d ∧ KDict K w d es n)
theorem rcv_is {pins : List (Addr × Obj)} {σ : L2.St} {H : Hp} {s : Shared} {T : String} {x : V} {v : Value} (I : Inv X pins σ H s) (r : RelV x v) (ty : Rcv X.K X.w T x H) :
    s.TypeIs v T ∧ ∀ a, v = .ref a → ∃ ob, s.heap.get? a = some ob ∧ ob.dict = none := by
  rcases ty with ty | ⟨rfl, d, es, n, rfl, D⟩
  · exact tyV_is I r ty
  · cases r
    refine ⟨kd_type D I, fun a e => ?_⟩
    cases e
    exact ⟨_, I.kIn _ _ D.at_, rfl⟩
variable {T id : String} {name : Str} {apos cpos : Pos} {o e : Expr} {es : List Expr} {to : TE} {t : TA} {rm : V → List V → Hp → VK → Prop}
theorem bm_few {env : PySem.Env} (h : es.all notStar = true) (hl : es.length < 29) : ((backTo cpos (starEach es env)).all (fun x => !x.1) && (backToKw cpos (keywordEach [] env)).all (fun x => x.1.isSome) &&
    decide (es.length + ([] : List Keyword).length + (if ([] : List Keyword).isEmpty then 0 else 1) < 30)) = true := by
  rw [star_all2 h]
  simp [keywordEach, backToKw]
  omega
theorem pe_bmG (hPA : PlainAttrs T) (hSl : Slot T name id) (hTy : typeOf (.builtin id) = pure (.type "method_descriptor")) (hM : MtR X id rm) (hO : PE X o to) (hA : PA X es t) (hB : notSup o = true) (hS : es.all notStar = true) (hF : es.length < 29)
    (hL : (apos.endLine == cpos.line) = true) (hN : es = [] → ∀ σ H Q, t σ H Q → Q [] H) : PE X (.Call (.Attribute o name apos) es [] cpos) (fun σ H Q => to σ H fun x H1 => Rcv X.K X.w T x H1 ∧ t σ H1 fun xs H2 => rm x xs H2 Q) := by
  cases es with
  | nil =>
    refine ⟨fun pins s σ H Q I h => ?_⟩
    refine wpAny_Call_method0_late (sup_one hB _) hL (thn (hO.run pins s σ H _ I h) fun v s1 ⟨x, H1, I1, r1, ty, q1⟩ => ?_)
    obtain ⟨h1, h2⟩ := rcv_is I1 r1 ty
    exact ⟨T, id, hPA, hSl, hTy, h1, h2, Calls.callWith_builtin rfl (PySem.evalArgs_none (hM pins s1 σ H1 x [] v [] Q I1 r1 .nil (hN rfl _ _ _ q1)))⟩
  | cons e es =>
    simp only [List.all_cons, Bool.and_eq_true] at hS
    refine ⟨fun pins s σ H Q I h => ?_⟩
    refine wpAny_Call_method_late (sup_one hB _) (bm_few (by simp [hS.1, hS.2]) hF) hL rfl (thn (hO.run pins s σ H _ I h) fun v s1 ⟨x, H1, I1, r1, ty, q1⟩ => ?_)
    obtain ⟨h1, h2⟩ := rcv_is I1 r1 ty
    refine ⟨T, id, hPA, hSl, hTy, h1, h2, ?_⟩
    have z := hA.run cpos pins s1 σ H1 _ I1 q1
    rw [star_one hS.1] at z ⊢
    refine Calls.callWith_builtin (by show (false || (backTo cpos (starEach es X.env)).any (·.1)) = false; rw [star_all hS.2] <;> rfl) (Calls.evalArgs_plain ?_)
    exact thn z fun us s2 ⟨vs, H2, I2, r2, q2⟩ => hM pins s2 σ H2 x vs v us Q I2 r1 r2 q2
theorem mb_get (hu : X.A.units + 64 < cLine) : MtR X "dict.get" (rM X getB) := by
  intro pins s τ H v vs V us Q I rv rvs h
  obtain ⟨ρ, k, st, x, xs, W, sm, rx, rxs, run⟩ := h
  have run' : Run X.K X.w ρ k H (getB st x xs) (fun d ρ' k' H' _ => ∀ v, RV X.K X.w ρ' k' H' d v → Q v H') W := run
  unfold getB at run'
  split at run'
  · rename_i q dv
    obtain ⟨u, z, rfl, ru, rz⟩ := rxs.two
    obtain ⟨u', z', rfl, ru', rz'⟩ := rvs.two
    split at run'
    · rename_i kvs ed
      obtain ⟨d, rfl, h1, fq⟩ := dictR sm rx ed
      have e0 := ru.flatW fq
      subst e0
      cases rv
      rcases h1 with ⟨o, g, A⟩ | ⟨zz, es, n, r, rfl, D, e1, e2⟩
      · refine d_get2 (by omega) I g ru' rz' fun w' s' I' rw' => ⟨o.getD z, H, I', rw', run'.now sm _ ?_⟩
        cases c : dget kvs q with
        | none => rw [c] at A; rw [show o = none from A]; exact rz
        | some y => rw [c] at A; obtain ⟨y', rfl, ry⟩ := A; exact ry
      · obtain ⟨tk, rfl⟩ := ru'
        have hm := PySem.W.mapOf_K (prog := X.prog) (w := X.w) I.kIn D.at_ D.lit
        refine call_meetsIn F.slot_dict_get (kd_type D I) F.entry_dict_get (F.args_dict_get_3 _ _ _) (meets_dict_get_default (PySem.strKind X.prog X.w) d (PySem.strKind_is X.prog X.w (tx zz) tk) D.low z') ⟨_, hm, ?_⟩
        rw [PySem.W.find_K D.at_ e1]
        cases c : dget kvs (.str zz) with
        | none =>
          rw [c] at e2 run'
          rw [show r = none from e2]
          exact ⟨z, H, I.tok _, rz', run'.now sm _ rz⟩
        | some y =>
          rw [c] at e2 run'
          obtain ⟨uu, xx, rfl, r1, r2⟩ := e2
          exact ⟨xx, H, I.tok _, r1, run'.now sm _ r2⟩
    · exact run'.elim
  · exact run'.elim
def Bm.nm : Bm → String
  | .join => "join" | .append => "append" | .insert => "insert" | .reverse => "reverse" | .pop => "pop" | .extend => "extend" | .clear => "clear" | .get => "get" | .count => "count" | .upper => "upper" | .lower => "lower" | .islower => "islower" | .isupper => "isupper"
theorem recv_list {st : Store} {H : Hp} {K : PySem.W.Frag} {w : World} {ρ : Lc} {k : Nat} {x : D} {v : V} (sm : Sim K w ρ k H st) (rx : RV K w ρ k H x v) (h : (lstAt st x).isSome = true) : Rcv K w "list" v H := by
  obtain ⟨p, e⟩ := Option.isSome_iff_exists.mp h
  obtain ⟨n, xs⟩ := p
  obtain ⟨a, ys, rfl, h1, _⟩ := lst_at sm rx e
  exact .inl (.inl ⟨rfl, ys, .of h1⟩)
theorem recv_get {st : Store} {H : Hp} {K : PySem.W.Frag} {w : World} {ρ : Lc} {k : Nat} {x : D} {v : V} (sm : Sim K w ρ k H st) (rx : RV K w ρ k H x v) (h : recvOk .get x st = true) : Rcv K w "dict" v H := by
  cases x with
  | frd kvs =>
    simp only [RV] at rx
    obtain ⟨a, ws, rfl, h1, h2⟩ := rx
    rcases h1 with ⟨kv, h1, _⟩ | ⟨⟨es, n, D, _⟩, _⟩
    · exact .inl (.inr (.inr (.inl ⟨rfl, .inl ⟨kv, h1⟩⟩)))
    · exact .inr ⟨rfl, a, es, n, rfl, D⟩
  | ref n =>
    simp only [recvOk] at h
    split at h
    · rename_i kvs hk
      simp only [RV] at rx
      obtain ⟨a, rfl, hn, ha⟩ := rx
      obtain ⟨b, h1, h2⟩ := sm.at_ _ _ hk
      rw [ha] at h1
      cases h1
      obtain ⟨ws, h3, _⟩ := h2
      exact .inl (.inr (.inr (.inl ⟨rfl, .inl ⟨ws, h3⟩⟩)))
    · cases h
  | _ => cases h
theorem as_nil (hE : pr.length = r.length) (h : pr = []) (τ : L2.St) (H : Hp) (Q : List V → Hp → Prop) (q : tAs X.K X.w Φ cur W r τ H Q) : Q [] H := by
  subst h
  cases r with
  | cons _ _ => cases hE
  | nil =>
    obtain ⟨ρ, k, st, σ, at_, run⟩ := q
    simp only [evalEs] at run
    exact run.now at_.sim _ .nil
theorem se_bmL {mt : Bm} {id : String} {f : Store → D → List D → Res D} (ef : ∀ x xs st, methB mt x xs st = f st x xs) (er : ∀ x st, recvOk mt x st = (lstAt st x).isSome) (hM : MtR X id (rM X f)) (hSl : Slot "list" (Str.ofString mt.nm) id)
    (hTy : typeOf (.builtin id) = pure (.type "method_descriptor")) (hO : SE X Φ cur W pa a) (hA : SEs X Φ cur W pr r) (hB : notSup pa = true) (hS : pr.all notStar = true) (hF : pr.length < 29) (hL : (apos.endLine == cpos.line) = true) (hE : pr.length = r.length) :
    SE X Φ cur W (.Call (.Attribute pa (Str.ofString mt.nm) apos) pr [] cpos) (.bm mt a r) :=
  pe_w (pe_bmG F.plainAttrs_list hSl hTy hM hO hA hB hS hF hL (as_nil hE)) fun τ H Q ⟨ρ, k, st, σ, at_, run⟩ => by
    simp only [evalE] at run
    refine ⟨ρ, k, st, σ, at_, run.seq at_ fun x ρ1 k1 H1 st1 e1 a1 run1 v rv => ?_⟩
    split at run1
    · rename_i hr
      rw [er] at hr
      refine ⟨recv_list a1.sim rv hr, ρ1, k1, st1, σ, a1, run1.seq a1 fun xs ρ2 k2 H2 st2 e2 a2 run2 vs rvs => ?_⟩
      rw [ef] at run2
      exact ⟨ρ2, k2, st2, x, xs, _, a2.sim, rv.mono e2, rvs, run2⟩
    · exact run1.elim
theorem se_bm {mt : Bm} (hu : X.A.units + 64 < cLine) (hO : SE X Φ cur W pa a) (hA : SEs X Φ cur W pr r) (hB : notSup pa = true) (hS : pr.all notStar = true) (hF : pr.length < 29) (hL : (apos.endLine == cpos.line) = true) (hE : pr.length = r.length) :
    SE X Φ cur W (.Call (.Attribute pa (Str.ofString mt.nm) apos) pr [] cpos) (.bm mt a r) := by
  cases mt with
  | append => exact se_bmL (fun _ _ _ => rfl) (fun _ _ => rfl) mb_append F.slot_list_append F.type_list_append hO hA hB hS hF hL hE
  | insert => exact se_bmL (fun _ _ _ => rfl) (fun _ _ => rfl) mb_insert F.slot_list_insert F.type_list_insert hO hA hB hS hF hL hE
  | reverse => exact se_bmL (fun _ _ _ => rfl) (fun _ _ => rfl) mb_reverse F.slot_list_reverse F.type_list_reverse hO hA hB hS hF hL hE
  | pop => exact se_bmL (fun _ _ _ => rfl) (fun _ _ => rfl) mb_pop F.slot_list_pop F.type_list_pop hO hA hB hS hF hL hE
  | extend => exact se_bmL (fun _ _ _ => rfl) (fun _ _ => rfl) mb_extend F.slot_list_extend F.type_list_extend hO hA hB hS hF hL hE
  | clear => exact se_bmL (fun _ _ _ => rfl) (fun _ _ => rfl) mb_clear F.slot_list_clear F.type_list_clear hO hA hB hS hF hL hE
  | join =>
    refine pe_w (pe_bmG F.plainAttrs_str F.slot_str_join F.type_str_join mb_join hO hA hB hS hF hL (as_nil hE)) fun τ H Q ⟨ρ, k, st, σ, at_, run⟩ => ?_
    simp only [evalE] at run
    refine ⟨ρ, k, st, σ, at_, run.seq at_ fun x ρ1 k1 H1 st1 e1 a1 run1 v rv => ?_⟩
    split at run1
    · rename_i hr
      refine ⟨?_, ρ1, k1, st1, σ, a1, run1.seq a1 fun xs ρ2 k2 H2 st2 e2 a2 run2 vs rvs => ⟨ρ2, k2, st2, x, xs, _, a2.sim, rv.mono e2, rvs, run2⟩⟩
      cases x with
      | str z =>
        simp only [RV] at rv
        subst rv
        exact .inl rfl
      | _ => cases hr
    · exact run1.elim
  | count =>
    refine pe_w (pe_bmG F.plainAttrs_str F.slot_str_count F.type_str_count mb_count hO hA hB hS hF hL (as_nil hE)) fun τ H Q ⟨ρ, k, st, σ, at_, run⟩ => ?_
    simp only [evalE] at run
    refine ⟨ρ, k, st, σ, at_, run.seq at_ fun x ρ1 k1 H1 st1 e1 a1 run1 v rv => ?_⟩
    split at run1
    · rename_i hr
      refine ⟨?_, ρ1, k1, st1, σ, a1, run1.seq a1 fun xs ρ2 k2 H2 st2 e2 a2 run2 vs rvs => ⟨ρ2, k2, st2, x, xs, _, a2.sim, rv.mono e2, rvs, run2⟩⟩
      cases x with
      | str z =>
        simp only [RV] at rv
        subst rv
        exact .inl rfl
      | _ => cases hr
    · exact run1.elim
  | upper =>
    refine pe_w (pe_bmG F.plainAttrs_str F.slot_str_upper F.type_str_upper mb_upper hO hA hB hS hF hL (as_nil hE)) fun τ H Q ⟨ρ, k, st, σ, at_, run⟩ => ?_
    simp only [evalE] at run
    refine ⟨ρ, k, st, σ, at_, run.seq at_ fun x ρ1 k1 H1 st1 e1 a1 run1 v rv => ?_⟩
    split at run1
    · rename_i hr
      refine ⟨?_, ρ1, k1, st1, σ, a1, run1.seq a1 fun xs ρ2 k2 H2 st2 e2 a2 run2 vs rvs => ⟨ρ2, k2, st2, x, xs, _, a2.sim, rv.mono e2, rvs, run2⟩⟩
      cases x with
      | str z =>
        simp only [RV] at rv
        subst rv
        exact .inl rfl
      | _ => cases hr
    · exact run1.elim
  | lower =>
    refine pe_w (pe_bmG F.plainAttrs_str F.slot_str_lower F.type_str_lower mb_lower hO hA hB hS hF hL (as_nil hE)) fun τ H Q ⟨ρ, k, st, σ, at_, run⟩ => ?_
    simp only [evalE] at run
    refine ⟨ρ, k, st, σ, at_, run.seq at_ fun x ρ1 k1 H1 st1 e1 a1 run1 v rv => ?_⟩
    split at run1
    · rename_i hr
      refine ⟨?_, ρ1, k1, st1, σ, a1, run1.seq a1 fun xs ρ2 k2 H2 st2 e2 a2 run2 vs rvs => ⟨ρ2, k2, st2, x, xs, _, a2.sim, rv.mono e2, rvs, run2⟩⟩
      cases x with
      | str z =>
        simp only [RV] at rv
        subst rv
        exact .inl rfl
      | _ => cases hr
    · exact run1.elim
  | islower =>
    refine pe_w (pe_bmG F.plainAttrs_str F.slot_str_islower F.type_str_islower mb_islower hO hA hB hS hF hL (as_nil hE)) fun τ H Q ⟨ρ, k, st, σ, at_, run⟩ => ?_
    simp only [evalE] at run
    refine ⟨ρ, k, st, σ, at_, run.seq at_ fun x ρ1 k1 H1 st1 e1 a1 run1 v rv => ?_⟩
    split at run1
    · rename_i hr
      refine ⟨?_, ρ1, k1, st1, σ, a1, run1.seq a1 fun xs ρ2 k2 H2 st2 e2 a2 run2 vs rvs => ⟨ρ2, k2, st2, x, xs, _, a2.sim, rv.mono e2, rvs, run2⟩⟩
      cases x with
      | str z =>
        simp only [RV] at rv
        subst rv
        exact .inl rfl
      | _ => cases hr
    · exact run1.elim
  | isupper =>
    refine pe_w (pe_bmG F.plainAttrs_str F.slot_str_isupper F.type_str_isupper mb_isupper hO hA hB hS hF hL (as_nil hE)) fun τ H Q ⟨ρ, k, st, σ, at_, run⟩ => ?_
    simp only [evalE] at run
    refine ⟨ρ, k, st, σ, at_, run.seq at_ fun x ρ1 k1 H1 st1 e1 a1 run1 v rv => ?_⟩
    split at run1
    · rename_i hr
      refine ⟨?_, ρ1, k1, st1, σ, a1, run1.seq a1 fun xs ρ2 k2 H2 st2 e2 a2 run2 vs rvs => ⟨ρ2, k2, st2, x, xs, _, a2.sim, rv.mono e2, rvs, run2⟩⟩
      cases x with
      | str z =>
        simp only [RV] at rv
        subst rv
        exact .inl rfl
      | _ => cases hr
    · exact run1.elim
  | get =>
    refine pe_w (pe_bmG F.plainAttrs_dict F.slot_dict_get F.type_dict_get (mb_get hu) hO hA hB hS hF hL (as_nil hE)) fun τ H Q ⟨ρ, k, st, σ, at_, run⟩ => ?_
    simp only [evalE] at run
    refine ⟨ρ, k, st, σ, at_, run.seq at_ fun x ρ1 k1 H1 st1 e1 a1 run1 v rv => ?_⟩
    split at run1
    · rename_i hr
      exact ⟨recv_get a1.sim rv hr, ρ1, k1, st1, σ, a1, run1.seq a1 fun xs ρ2 k2 H2 st2 e2 a2 run2 vs rvs => ⟨ρ2, k2, st2, x, xs, _, a2.sim, rv.mono e2, rvs, run2⟩⟩
    · exact run1.elim
end
end PV
set_option Elab.async false
set_option linter.all false
set_option maxRecDepth 100000
set_option maxHeartbeats 4000000
/-! PvZip3: zip of three lists. -/
namespace PV
open PySem PySem.Spec PyProof.Rows L2
/-- the lists at a, b, c as they stand at each turn (N turns), the items in new triples -/
def Itz3 (K : PySem.W.Frag) (a b c : Addr) (N : Nat) : It :=
  ⟨fun i H => i < N ∧ ∃ (xs ys zs : List V) (x y z : V), SqL K H a xs ∧ SqL K H b ys ∧ SqL K H c zs ∧ xs[i]? = some x ∧ ys[i]? = some y ∧ zs[i]? = some z,
    fun i H v H' => ∃ T x y z, v = .ref T ∧ H T = none ∧ H' = upd H T (.tup [x, y, z]) ∧ (∀ xs, SqL K H a xs → xs[i]? = some x) ∧ (∀ ys, SqL K H b ys → ys[i]? = some y) ∧ ∀ zs, SqL K H c zs → zs[i]? = some z,
    fun i H => N ≤ i ∧ ∃ xs ys zs : List V, SqL K H a xs ∧ SqL K H b ys ∧ SqL K H c zs ∧ N ≤ xs.length ∧ N ≤ ys.length ∧ N ≤ zs.length ∧ (xs.length = N ∨ ys.length = N ∨ zs.length = N)⟩
theorem turn_zip3 {P : Program} {w : World} {K : PySem.W.Frag} {elts : List Expr} {kk : Nat} {tpos : Pos} {a b c z TI TO i1 i2 i3 : Addr} {N : Nat} (D : ZipSep3 z TI TO i1 i2 i3 [i1, a] [i2, b] [i3, c]) (n1 : a ≠ i1) (n2 : b ≠ i2) (n3 : c ≠ i3) :
    Turn P w K (.Tuple elts kk tpos) (Itz3 K a b c N) [z, TI, TO, i1, i2, i3] z (fun i h => i ≤ N ∧ IsZip h z TI TO .none ∧ IsTupOf3 h TI (.ref i1) (.ref i2) (.ref i3) ∧ (∃ x y z, IsTupOf3 h TO x y z) ∧ h.IsListIter i1 a i ∧ h.IsListIter i2 b i ∧ h.IsListIter i3 c i) where
  mem := by simp
  obj := fun i h st d hd => by
    obtain ⟨_, hz, hTI, ⟨x, y, u, hTO⟩, ⟨o1, e1, _, d1⟩, ⟨o2, e2, _, d2⟩, ⟨o3, e3, _, d3⟩⟩ := st
    have e' : d = z ∨ d = TI ∨ d = TO ∨ d = i1 ∨ d = i2 ∨ d = i3 := by simpa using hd
    rcases e' with q | q | q | q | q | q
    · rw [q]; exact ⟨_, hz, fun v q => nomatch q⟩
    · rw [q]; exact ⟨_, hTI, fun v q => nomatch q⟩
    · rw [q]; exact ⟨_, hTO, fun v q => nomatch q⟩
    · rw [q]; exact ⟨o1, e1, fun v q => by rw [d1] at q; cases q⟩
    · rw [q]; exact ⟨o2, e2, fun v q => by rw [d2] at q; cases q⟩
    · rw [q]; exact ⟨o3, e3, fun v q => by rw [d3] at q; cases q⟩
  keep := fun i h h' st k => by
    obtain ⟨hN, hz, hTI, ⟨x, y, u, hTO⟩, h1, h2, h3⟩ := st
    exact ⟨hN, k z (by simp) _ hz, k TI (by simp) _ hTI, ⟨x, y, u, k TO (by simp) _ hTO⟩, h1.at fun o q => k i1 (by simp) o q, h2.at fun o q => k i2 (by simp) o q, h3.at fun o q => k i3 (by simp) o q⟩
  item := by
    intro X hP hw hK hc i pins s σ H E I hf st hg
    subst hP hw hK
    obtain ⟨hN, hz, hTI, ⟨x0, y0, z0, hTO⟩, h1, h2, h3⟩ := st
    obtain ⟨hlt, xs, ys, zs, x, y, zz, hqx, hqy, hqz, hx, hy, hzz⟩ := hg
    obtain ⟨its, rv, p, _⟩ := I.list hqx
    obtain ⟨its2, rv2, p2, _⟩ := I.list hqy
    obtain ⟨its3, rv3, p3, _⟩ := I.list hqz
    obtain ⟨u, hu, ru⟩ := rv.get hx
    obtain ⟨u2, hu2, ru2⟩ := rv2.get hy
    obtain ⟨u3, hu3, ru3⟩ := rv3.get hzz
    have l1 : i < its.length := (List.getElem?_eq_some_iff.mp hu).1
    have l2 : i < its2.length := (List.getElem?_eq_some_iff.mp hu2).1
    have l3 : i < its3.length := (List.getElem?_eq_some_iff.mp hu3).1
    have hzl : z < s.heap.objs.size := Heap.lt_size hz
    have hh : X.A.in1.handled = none := I.ok.hd hc
    refine wpAny_pyNext_zipD3_item D (Draws.list hh i1 a n1 its.toArray) (Draws.list hh i2 b n2 its2.toArray) (Draws.list hh i3 c n3 its3.toArray) hz hTI hTO ⟨h1, p.isList⟩ ⟨h2, p2.isList⟩ ⟨h3, p3.isList⟩ (by simpa using l1) (by simpa using l2) (by simpa using l3) fun v1 v2 v3 h' tk e1 e2 e3 z' TO' q1 q2 q3 hT hsz hk => ?_
    have f1 : v1 = u := by
      have : its[i]? = some v1 := by simpa using e1
      rw [hu] at this; exact (Option.some.inj this).symm
    have f2 : v2 = u2 := by
      have : its2[i]? = some v2 := by simpa using e2
      rw [hu2] at this; exact (Option.some.inj this).symm
    have f3 : v3 = u3 := by
      have : its3[i]? = some v3 := by simpa using e3
      rw [hu3] at this; exact (Option.some.inj this).symm
    subst f1 f2 f3
    refine ⟨_, rfl, wpAny_letOwnedTupleGo_zip (s := { s with heap := h', toks := tk }) z' fun h'' z'' sb => ?_⟩
    have hT2 : h''.get? s.heap.objs.size = some { cls := .type "tuple", data := .seq #[v1, v2, v3] } := (sb.2 _ (Nat.ne_of_gt hzl)).trans hT
    have new : ObjOk X.prog X.w (upd H s.heap.objs.size (.tup [x, y, zz])) h'' s.heap.objs.size (.tup [x, y, zz]) :=
      ⟨by show 3 ≤ sizeLine; decide, [v1, v2, v3], .cons ru (.cons ru2 (.cons ru3 .nil)), ⟨_, hT2, rfl, _, rfl⟩⟩
    have I1 : Inv X pins σ (upd H s.heap.objs.size (.tup [x, y, zz])) { s with heap := h'', toks := tk } :=
      I.turnedNew (t' := tk) (ch := [z, TI, TO, i1, i2, i3]) (fun c o hb q => (sb.2 c (fun q' => hb (by simp [q']))).trans (hk c o (fun q' => hb (by simp [q'])) (fun q' => hb (by simp [q'])) (fun q' => hb (by simp [q'])) (fun q' => hb (by simp [q'])) (fun q' => hb (by simp [q'])) q)) hf (Nat.le_refl _) new
    refine ⟨.ref s.heap.objs.size, _, I1, rfl, ⟨_, x, y, zz, rfl, I.hok.fresh (Nat.le_refl _), rfl, fun l hl => by rw [I.list_inj hl hqx]; exact hx, fun l hl => by rw [I.list_inj hl hqy]; exact hy, fun l hl => by rw [I.list_inj hl hqz]; exact hzz⟩, ⟨hlt, z'', ?_, ⟨v1, v2, v3, ?_⟩, ?_, ?_, ?_⟩, fun d hcm => ?_⟩
    · exact (sb.2 _ D.TIz).trans (hk _ _ D.TIz D.TITO D.TIi1 D.TIi2 D.TIi3 hTI)
    · exact (sb.2 _ D.TOz).trans TO'
    · exact q1.1.at fun o q => (sb.2 _ (Ne.symm D.zi1)).trans q
    · exact q2.1.at fun o q => (sb.2 _ (Ne.symm D.zi2)).trans q
    · exact q3.1.at fun o q => (sb.2 _ (Ne.symm D.zi3)).trans q
    · have hlt : d < s.heap.objs.size := by
        have e' : d = z ∨ d = TI ∨ d = TO ∨ d = i1 ∨ d = i2 ∨ d = i3 := by simpa using hcm
        rcases e' with q | q | q | q | q | q
        · rw [q]; exact hzl
        · rw [q]; exact Heap.lt_size hTI
        · rw [q]; exact Heap.lt_size hTO
        · rw [q]; obtain ⟨_, e1, _⟩ := h1; exact Heap.lt_size e1
        · rw [q]; obtain ⟨_, e2, _⟩ := h2; exact Heap.lt_size e2
        · rw [q]; obtain ⟨_, e3, _⟩ := h3; exact Heap.lt_size e3
      rw [upd_ne (Nat.ne_of_lt hlt)]
      exact (hf d hcm).1
  done := by
    intro X hP hw hK hc i pins s σ H E I hf st hg
    subst hP hw hK
    obtain ⟨hN, hz, hTI, ⟨x0, y0, z0, hTO⟩, h1, h2, h3⟩ := st
    obtain ⟨hle, xs, ys, zs, hqx, hqy, hqz, g1, g2, g3, hend⟩ := hg
    obtain ⟨its, rv, p, _⟩ := I.list hqx
    obtain ⟨its2, rv2, p2, _⟩ := I.list hqy
    obtain ⟨its3, rv3, p3, _⟩ := I.list hqz
    have l1 := rv.length
    have l2 := rv2.length
    have l3 := rv3.length
    have hh : X.A.in1.handled = none := I.ok.hd hc
    refine wpAny_pyNext_zipD3_end D (Draws.list hh i1 a n1 its.toArray) (Draws.list hh i2 b n2 its2.toArray) (Draws.list hh i3 c n3 its3.toArray) hz hTI hTO ⟨h1, p.isList⟩ ⟨h2, p2.isList⟩ ⟨h3, p3.isList⟩ (by simp; omega) (by simp; omega) (by simp; omega) (by simp; omega)
      fun h' tk hk => ⟨rfl, I.turnedL (t' := tk) (ch := [z, TI, TO, i1, i2, i3]) (fun c o hb q =>
      hk c o (fun q' => hb (by simp [q'])) (fun q' => hb (by simp [q'])) (fun q' => hb (by simp [q'])) (fun q' => hb (by simp [q'])) (fun q' => hb (by simp [q'])) q) hf⟩
  self := fun A i s Q E st h => wpAny_pyIter_zip st.2.1 h
def iZip3 (K : PySem.W.Frag) (ta : TA) : TI := fun σ H R => ta σ H fun vs H1 => ∃ a b c xs ys zs, vs = [.ref a, .ref b, .ref c] ∧ SqL K H1 a xs ∧ SqL K H1 b ys ∧ SqL K H1 c zs ∧ R (Itz3 K a b c (min (min xs.length ys.length) zs.length)) H1
theorem pi_zip3 {X : Cx} {e e2 e3 : Expr} {ta : TA} {p pos tpos : Pos} {elts : List Expr} {kk : Nat} (hg : Gl X (Str.ofString "zip")) (hm : X.mg (Str.ofString "zip") = none) (ha : PA X [e, e2, e3] ta)
    (hs : starEach [e, e2, e3] X.env = (false, eval e X.env) :: starEach [e2, e3] X.env := by rfl) (hpl : (backTo pos (starEach [e2, e3] X.env)).any (·.1) = false := by rfl) :
    PI X (.Tuple elts kk tpos) (.Call (.Name (Str.ofString "zip") p) [e, e2, e3] [] pos) (iZip3 X.K ta) := by
  refine ⟨fun pins s σ H R I h => ?_⟩
  refine Call_ (ld_blt I hg hm PyProof.Rows.boot_zip (PyProof.Rows.callWith_type1 (thn (ha.run pos pins s σ H _ I h) fun us s1 ⟨vs, H1, I1, r1, q1⟩ => ?_) hs hpl))
  obtain ⟨a, b, c, xs, ys, zs, ex, hqx, hqy, hqz, q⟩ := q1
  subst ex
  cases r1 with
  | cons r rr =>
    cases rr with
    | cons r' rr =>
      cases rr with
      | cons r'' rr =>
        cases rr
        cases r
        cases r'
        cases r''
        obtain ⟨its, rv, p1, _⟩ := I1.list hqx
        obtain ⟨its2, rv2, p2, _⟩ := I1.list hqy
        obtain ⟨its3, rv3, p3, _⟩ := I1.list hqz
        have la : a < s1.heap.objs.size := p1.lt
        have lb : b < s1.heap.objs.size := p2.lt
        have lc : c < s1.heap.objs.size := p3.lt
        refine zip_begins3 (begins_list a its.toArray) (begins_list b its2.toArray) (begins_list c its3.toArray) p1.isList p2.isList p3.isList fun h' hz hTI hTO h1 h2 h3 hsz hk => wpAny_pyIter_zip hz ?_
        have I2 : Inv X pins σ H1 { s1 with heap := h' } := I1.kept (t' := s1.toks) hk
        have D := zip_sep3 (N := s1.heap.objs.size) (fp1 := [a]) (fp2 := [b]) (fp3 := [c]) (by simpa using la) (by simpa using lb) (by simpa using lc)
        refine ⟨s1.heap.objs.size + 5, [s1.heap.objs.size + 5, s1.heap.objs.size + 3, s1.heap.objs.size + 4, s1.heap.objs.size, s1.heap.objs.size + 1, s1.heap.objs.size + 2], _, _, H1, rfl, I2, turn_zip3 D (Nat.ne_of_lt la) (Nat.ne_of_lt (Nat.lt_succ_of_lt lb)) (Nat.ne_of_lt (Nat.lt_of_lt_of_le lc (Nat.le_add_right _ 2))), ⟨Nat.zero_le _, hz, hTI, ⟨_, _, _, hTO⟩, ⟨_, h1, rfl, rfl⟩, ⟨_, h2, rfl, rfl⟩, ⟨_, h3, rfl, rfl⟩⟩, fun d hcm => ?_, q⟩
        have e' : d = s1.heap.objs.size + 5 ∨ d = s1.heap.objs.size + 3 ∨ d = s1.heap.objs.size + 4 ∨ d = s1.heap.objs.size ∨ d = s1.heap.objs.size + 1 ∨ d = s1.heap.objs.size + 2 := by simpa using hcm
        have hle : s1.heap.objs.size ≤ d := by
          rcases e' with z | z | z | z | z | z
          · rw [z]; exact Nat.le_add_right _ _
          · rw [z]; exact Nat.le_add_right _ _
          · rw [z]; exact Nat.le_add_right _ _
          · rw [z]; exact Nat.le_refl _
          · rw [z]; exact Nat.le_add_right _ _
          · rw [z]; exact Nat.le_add_right _ _
        exact I1.fpOk hle (I1.hok.fresh hle)
end PV
set_option Elab.async false
set_option linter.all false
set_option maxRecDepth 100000
set_option maxHeartbeats 4000000
/-! PvIt: what is walked. -/
namespace PV
open PySem L2
/-- a step, where more may be in the making -/
structure ExtW (ρ : Lc) (k : Nat) (H : Hp) (ρ' : Lc) (k' : Nat) (H' : Hp) : Prop where
  hid : ∀ a, ρ'.hid a → ρ.hid a ∨ H a = none
  le : k ≤ k'
  same : ∀ n, n < k → ρ' n = ρ n
  keep : ∀ a o, H a = some o → NotL ρ k a → H' a = some o
  new : ∀ n a, k ≤ n → n < k' → ρ' n = some a → H a = none
theorem Ext.w {ρ ρ' : Lc} {k k' : Nat} {H H' : Hp} (e : Ext ρ k H ρ' k' H') : ExtW ρ k H ρ' k' H' := ⟨fun a h => .inl (by rw [← e.hid]; exact h), e.le, e.same, e.keep, e.new⟩
theorem ExtW.map {ρ ρ' : Lc} {k k' : Nat} {H H' : Hp} (e : ExtW ρ k H ρ' k' H') : ∀ a o, H a = some o → Off ρ k a → H' a = some o ∧ Off ρ' k' a := fun a o h f => by
  refine ⟨e.keep a o h f.2, fun z => ?_, fun n hn z => ?_⟩
  · rcases e.hid a z with q | q
    · exact f.1 q
    · rw [h] at q; cases q
  · by_cases hk : n < k
    · rw [e.same n hk] at z
      exact f.2 n hk z
    · rw [e.new n a (Nat.not_lt.mp hk) hn z] at h
      cases h
theorem ExtW.slot {ρ ρ' : Lc} {k k' : Nat} {H H' : Hp} (e : ExtW ρ k H ρ' k' H') : ∀ n, n < k → n < k' ∧ ρ' n = ρ n := fun n h => ⟨Nat.lt_of_lt_of_le h e.le, e.same n h⟩
theorem RV.monoW {K : PySem.W.Frag} {w : World} {ρ ρ' : Lc} {k k' : Nat} {H H' : Hp} {d : D} {v : V} (h : RV K w ρ k H d v) (e : ExtW ρ k H ρ' k' H') : RV K w ρ' k' H' d v := RV.map e.slot e.map h
theorem Ext.weak {ρ0 ρ : Lc} {k0 k : Nat} {H0 H : Hp} {d : Addr} (e : Ext ρ0 k0 H0 (shown ρ ρ0) k H) (hh : ρ.hid = (hide ρ0 d).hid) (hd : H0 d = none) : ExtW ρ0 k0 H0 ρ k H :=
  ⟨fun a h => by
    rw [hh] at h
    rcases h with h | h
    · exact .inl h
    · exact .inr (by rw [h]; exact hd), e.le, e.same, e.keep, e.new⟩
/-- J gives these items, as long as the lists at src stand -/
def ItR (K : PySem.W.Frag) (w : World) (J : It) (ds : List D) (src : List Nat) (ρ : Lc) (k : Nat) (H : Hp) (st : Store) : Prop :=
  ∀ i ρ1 k1 H1 st1, ExtW ρ k H ρ1 k1 H1 → Sim K w ρ1 k1 H1 st1 → (∀ n ∈ src, st1[n]? = st[n]?) →
    (∀ d, ds[i]? = some d → J.go i H1 ∧ ∀ x H2, J.yld i H1 x H2 → Ext ρ1 k1 H1 ρ1 k1 H2 ∧ Sim K w ρ1 k1 H2 st1 ∧ RV K w ρ1 k1 H2 d x) ∧ (ds.length ≤ i → J.stop i H1)
def tI (K : PySem.W.Frag) (w : World) (Φ : Prog) (cur : Option Exn) (W : WX) (it : I) : TI := fun τ H R => ∃ ρ k st σ, At K w ρ k H st σ τ ∧
  Run K w ρ k H (evalI Φ cur σ it st) (fun p ρ' k' H' st' => ∀ J, ItR K w J p.1 p.2 ρ' k' H' st' → R J H') (fun c d H' => W c d τ H')
abbrev SI (X : Cx) (Φ : Prog) (cur : Option Exn) (W : WX) (tg p : Expr) (it : I) : Prop := PI X tg p (tI X.K X.w Φ cur W it)
theorem pi_w {X : Cx} {tg e : Expr} {t t' : TI} (h : PI X tg e t) (f : ∀ τ H R, t' τ H R → t τ H R) : PI X tg e t' := ⟨fun pins s τ H R I q => h.run pins s τ H R I (f _ _ _ q)⟩
section
variable {K : PySem.W.Frag} {w : World} {ρ : Lc} {k : Nat} {H : Hp} {st : Store}
theorem RVs.mono' {ρ' : Lc} {k' : Nat} {H' : Hp} {ds : List D} {vs : List V} (h : RVs K w ρ k H ds vs) (e : Ext ρ k H ρ' k' H') : RVs K w ρ' k' H' ds vs := RVs.mono e h
/-- a list: as it is found again -/
theorem asL_again {d : D} {v : V} {xs : List D} (sm : Sim K w ρ k H st) (r : RV K w ρ k H d v) (e : asL st d = some xs) :
    ∃ a, v = .ref a ∧ ∀ ρ1 k1 H1 st1, ExtW ρ k H ρ1 k1 H1 → Sim K w ρ1 k1 H1 st1 → (∀ n ∈ srcs d, st1[n]? = st[n]?) → ∃ ys, H1 a = some (.lst ys) ∧ RVs K w ρ1 k1 H1 xs ys := by
  obtain ⟨a, ys, rfl, _⟩ := r.asL sm e
  refine ⟨a, rfl, fun ρ1 k1 H1 st1 ex s1 hs => ?_⟩
  have e1 : asL st1 d = some xs := by
    cases d with
    | frz zs => exact e
    | ref n =>
      have := hs n (by simp [srcs])
      simp only [asL] at e ⊢
      rw [this]
      exact e
    | _ => exact e
  obtain ⟨b, zs, h1, h2, h3⟩ := (r.monoW ex).asL s1 e1
  cases h1
  exact ⟨zs, h2, h3⟩
theorem itr_list {d : D} {a : Addr} {xs : List D} (sm : Sim K w ρ k H st) (r : RV K w ρ k H d (.ref a)) (e : asL st d = some xs) : ItR K w (Itl K a) xs (srcs d) ρ k H st := by
  obtain ⟨b, eb, again⟩ := asL_again sm r e
  cases eb
  intro i ρ1 k1 H1 st1 ex s1 hs
  obtain ⟨ys, h1, h2⟩ := again ρ1 k1 H1 st1 ex s1 hs
  refine ⟨fun x hx => ?_, fun hl => ⟨ys, .of h1, by rw [← h2.length]; exact hl⟩⟩
  obtain ⟨v, hv, rv⟩ := h2.get hx
  refine ⟨⟨ys, v, .of h1, hv⟩, fun x' H2 ⟨e1, e2⟩ => ?_⟩
  subst e1
  have e3 := e2 ys (.of h1)
  rw [hv] at e3
  cases e3
  exact ⟨Ext.refl, s1, rv⟩
theorem itr_scr {ns : List Int} {a : Addr} (r : RV K w ρ k H (.scr ns) (.ref a)) : ItR K w (Itl K a) (ns.map .int) [] ρ k H st := by
  intro i ρ1 k1 H1 st1 ex s1 hs
  have r1 := r.monoW ex
  obtain ⟨b, eb, sq⟩ := r1.script
  cases eb
  refine ⟨fun x hx => ?_, fun hl => ⟨_, sq, by simpa using hl⟩⟩
  rw [List.getElem?_map] at hx
  obtain ⟨n, hn, rfl⟩ := Option.map_eq_some_iff.mp hx
  refine ⟨⟨_, .int n, sq, by rw [List.getElem?_map, hn]; rfl⟩, fun x' H2 ⟨e1, e2⟩ => ?_⟩
  subst e1
  have e3 := e2 _ sq
  rw [List.getElem?_map, hn] at e3
  cases e3
  exact ⟨Ext.refl, s1, by simp only [RV]⟩
theorem itr_tup {xs : List D} {a : Addr} (r : RV K w ρ k H (.tup xs) (.ref a)) : ItR K w (Itt K a) xs [] ρ k H st := by
  intro i ρ1 k1 H1 st1 ex s1 hs
  have r1 := r.monoW ex
  simp only [RV] at r1
  obtain ⟨b, ys, eb, h1, h2⟩ := r1
  cases eb
  have sq : SqT K H1 a ys := by
    rcases h1 with ⟨h1, _⟩ | h1
    · exact .of h1
    · exact h1.sq
  refine ⟨fun x hx => ?_, fun hl => ⟨ys, sq, by rw [← h2.length]; exact hl⟩⟩
  obtain ⟨v, hv, rv⟩ := h2.get hx
  refine ⟨⟨ys, v, sq, hv⟩, fun x' H2 ⟨e1, e2⟩ => ?_⟩
  subst e1
  have e3 := e2 ys sq
  rw [hv] at e3
  cases e3
  exact ⟨Ext.refl, s1, rv⟩
theorem itr_str {s : List Nat} : ItR K w (Its (tx s)) (s.map fun c => .str [c]) [] ρ k H st := by
  intro i ρ1 k1 H1 st1 ex s1 hs
  refine ⟨fun x hx => ?_, fun hl => by show (tx s).cps.size ≤ i; simpa [tx] using hl⟩
  rw [List.getElem?_map] at hx
  obtain ⟨c, hc, rfl⟩ := Option.map_eq_some_iff.mp hx
  have hi : i < s.length := (List.getElem?_eq_some_iff.mp hc).1
  refine ⟨by show i < (tx s).cps.size; simpa [tx] using hi, fun x' H2 ⟨e1, c', e2, e3⟩ => ?_⟩
  subst e1 e3
  have e4 : c' = c := by
    have : s[i]? = some c' := by simpa [tx] using e2
    rw [hc] at this
    exact (Option.some.inj this).symm
  subst e4
  exact ⟨Ext.refl, s1, by simp [RV, tx]⟩
theorem itr_range {lo : Int} {n : Nat} : ItR K w (Itr lo n) ((List.range n).map fun (i : Nat) => D.int (lo + (i : Int))) [] ρ k H st := by
  intro i ρ1 k1 H1 st1 ex s1 hs
  refine ⟨fun x hx => ?_, fun hl => by show n ≤ i; simpa using hl⟩
  rw [List.getElem?_map] at hx
  obtain ⟨c, hc, rfl⟩ := Option.map_eq_some_iff.mp hx
  obtain ⟨hi, hc⟩ := List.getElem?_eq_some_iff.mp hc
  rw [List.getElem_range] at hc
  subst hc
  have hi' : i < n := by simpa using hi
  refine ⟨hi', fun x' H2 ⟨e1, e2⟩ => ?_⟩
  subst e1 e2
  exact ⟨Ext.refl, s1, by simp only [RV]⟩
theorem itr_rangeC {lo c : Int} {n : Nat} : ItR K w (Itc lo c n) ((List.range n).map fun (i : Nat) => D.int (lo + (i : Int) * c)) [] ρ k H st := by
  intro i ρ1 k1 H1 st1 ex s1 hs
  refine ⟨fun x hx => ?_, fun hl => by show n ≤ i; simpa using hl⟩
  rw [List.getElem?_map] at hx
  obtain ⟨c', hc, rfl⟩ := Option.map_eq_some_iff.mp hx
  obtain ⟨hi, hc⟩ := List.getElem?_eq_some_iff.mp hc
  rw [List.getElem_range] at hc
  subst hc
  have hi' : i < n := by simpa using hi
  refine ⟨hi', fun x' H2 ⟨e1, e2⟩ => ?_⟩
  subst e1 e2
  exact ⟨Ext.refl, s1, by simp only [RV]⟩
theorem itr_enum {d : D} {a : Addr} {xs : List D} (sm : Sim K w ρ k H st) (r : RV K w ρ k H d (.ref a)) (e : asL st d = some xs) : ItR K w (Ite K a) (enumD xs) (srcs d) ρ k H st := by
  obtain ⟨b, eb, again⟩ := asL_again sm r e
  cases eb
  intro i ρ1 k1 H1 st1 ex s1 hs
  obtain ⟨ys, h1, h2⟩ := again ρ1 k1 H1 st1 ex s1 hs
  refine ⟨fun x hx => ?_, fun hl => ⟨ys, .of h1, by rw [← h2.length]; simpa [enumD] using hl⟩⟩
  obtain ⟨y, hy, rfl⟩ : ∃ y, xs[i]? = some y ∧ x = .tup [.int (i : Nat), y] := by
    unfold enumD at hx
    rw [List.getElem?_map, List.getElem?_zipIdx] at hx
    cases q : xs[i]? with
    | none => rw [q] at hx; simp at hx
    | some y => rw [q] at hx; simp at hx; exact ⟨y, rfl, hx.symm⟩
  obtain ⟨v, hv, rv⟩ := h2.get hy
  refine ⟨⟨ys, v, .of h1, hv⟩, fun x' H2 ⟨T, z, e1, hT, e2, e3⟩ => ?_⟩
  subst e1 e2
  have e4 := e3 ys (.of h1)
  rw [hv] at e4
  cases e4
  have xx := Ext.alloc (ρ := ρ1) (k := k1) (o := .tup [.int (i : Nat), v]) hT
  refine ⟨xx, s1.alloc hT, ?_⟩
  simp only [RV]
  exact ⟨T, [.int (i : Nat), v], rfl, .inl ⟨upd_same, s1.off hT⟩, by simp only [RVs]; exact ⟨_, _, rfl, rfl, _, _, rfl, rv.mono xx, rfl⟩⟩
theorem itr_zip {d d' : D} {a a' : Addr} {xs ys : List D} (sm : Sim K w ρ k H st) (r : RV K w ρ k H d (.ref a)) (r' : RV K w ρ k H d' (.ref a')) (e : asL st d = some xs) (e' : asL st d' = some ys) : ItR K w (Itz K a a') (zipD xs ys) (srcs d ++ srcs d') ρ k H st := by
  obtain ⟨b, eb, again⟩ := asL_again sm r e
  cases eb
  obtain ⟨b', eb', again'⟩ := asL_again sm r' e'
  cases eb'
  intro i ρ1 k1 H1 st1 ex s1 hs
  obtain ⟨us, h1, h2⟩ := again ρ1 k1 H1 st1 ex s1 (fun n hn => hs n (List.mem_append_left _ hn))
  obtain ⟨us', h1', h2'⟩ := again' ρ1 k1 H1 st1 ex s1 (fun n hn => hs n (List.mem_append_right _ hn))
  refine ⟨fun x hx => ?_, fun hl => ⟨us, us', .of h1, .of h1', by rw [← h2.length, ← h2'.length]; simp [zipD] at hl; omega⟩⟩
  obtain ⟨y, z, hy, hz, rfl⟩ : ∃ y z, xs[i]? = some y ∧ ys[i]? = some z ∧ x = .tup [y, z] := by
    unfold zipD at hx
    rw [List.getElem?_map] at hx
    obtain ⟨p, hp, rfl⟩ := Option.map_eq_some_iff.mp hx
    rw [List.getElem?_zip_eq_some] at hp
    exact ⟨p.1, p.2, hp.1, hp.2, rfl⟩
  obtain ⟨v, hv, rv⟩ := h2.get hy
  obtain ⟨v', hv', rv'⟩ := h2'.get hz
  refine ⟨⟨us, us', v, v', .of h1, .of h1', hv, hv'⟩, fun x' H2 ⟨T, z, z', e1, hT, e2, e3, e3'⟩ => ?_⟩
  subst e1 e2
  have e4 := e3 us (.of h1)
  rw [hv] at e4
  cases e4
  have e4 := e3' us' (.of h1')
  rw [hv'] at e4
  cases e4
  have xx := Ext.alloc (ρ := ρ1) (k := k1) (o := .tup [v, v']) hT
  refine ⟨xx, s1.alloc hT, ?_⟩
  simp only [RV]
  exact ⟨T, [v, v'], rfl, .inl ⟨upd_same, s1.off hT⟩, by simp only [RVs]; exact ⟨_, _, rfl, rv.mono xx, _, _, rfl, rv'.mono xx, rfl⟩⟩
theorem itr_zip3 {d d' d'' : D} {a a' a'' : Addr} {xs ys zs : List D} (sm : Sim K w ρ k H st) (r : RV K w ρ k H d (.ref a)) (r' : RV K w ρ k H d' (.ref a')) (r'' : RV K w ρ k H d'' (.ref a'')) (e : asL st d = some xs) (e' : asL st d' = some ys) (e'' : asL st d'' = some zs) {N : Nat} (hN : N = min (min xs.length ys.length) zs.length) :
    ItR K w (Itz3 K a a' a'' N) (zipD3 xs ys zs) (srcs d ++ (srcs d' ++ srcs d'')) ρ k H st := by
  obtain ⟨b, eb, again⟩ := asL_again sm r e
  cases eb
  obtain ⟨b', eb', again'⟩ := asL_again sm r' e'
  cases eb'
  obtain ⟨b'', eb'', again''⟩ := asL_again sm r'' e''
  cases eb''
  intro i ρ1 k1 H1 st1 ex s1 hs
  obtain ⟨us, h1, h2⟩ := again ρ1 k1 H1 st1 ex s1 (fun n hn => hs n (List.mem_append_left _ hn))
  obtain ⟨us', h1', h2'⟩ := again' ρ1 k1 H1 st1 ex s1 (fun n hn => hs n (List.mem_append_right _ (List.mem_append_left _ hn)))
  obtain ⟨us'', h1'', h2''⟩ := again'' ρ1 k1 H1 st1 ex s1 (fun n hn => hs n (List.mem_append_right _ (List.mem_append_right _ hn)))
  have q1 := h2.length
  have q2 := h2'.length
  have q3 := h2''.length
  refine ⟨fun x hx => ?_, fun hl => ⟨by simp [zipD3] at hl; omega, us, us', us'', .of h1, .of h1', .of h1'', by omega, by omega, by omega, by omega⟩⟩
  obtain ⟨y, z, u, hy, hz, hu, rfl⟩ : ∃ y z u, xs[i]? = some y ∧ ys[i]? = some z ∧ zs[i]? = some u ∧ x = .tup [y, z, u] := by
    unfold zipD3 at hx
    rw [List.getElem?_map] at hx
    obtain ⟨p, hp, rfl⟩ := Option.map_eq_some_iff.mp hx
    rw [List.getElem?_zip_eq_some] at hp
    have hp1 := hp.1
    rw [List.getElem?_zip_eq_some] at hp1
    exact ⟨p.1.1, p.1.2, p.2, hp1.1, hp1.2, hp.2, rfl⟩
  have b1 : i < xs.length := (List.getElem?_eq_some_iff.mp hy).1
  have b2 : i < ys.length := (List.getElem?_eq_some_iff.mp hz).1
  have b3 : i < zs.length := (List.getElem?_eq_some_iff.mp hu).1
  obtain ⟨v, hv, rv⟩ := h2.get hy
  obtain ⟨v', hv', rv'⟩ := h2'.get hz
  obtain ⟨v'', hv'', rv''⟩ := h2''.get hu
  refine ⟨⟨by omega, us, us', us'', v, v', v'', .of h1, .of h1', .of h1'', hv, hv', hv''⟩, fun x' H2 ⟨T, z, z', z'', e1, hT, e2, e3, e3', e3''⟩ => ?_⟩
  subst e1 e2
  have e4 := e3 us (.of h1)
  rw [hv] at e4
  cases e4
  have e4 := e3' us' (.of h1')
  rw [hv'] at e4
  cases e4
  have e4 := e3'' us'' (.of h1'')
  rw [hv''] at e4
  cases e4
  have xx := Ext.alloc (ρ := ρ1) (k := k1) (o := .tup [v, v', v'']) hT
  refine ⟨xx, s1.alloc hT, ?_⟩
  simp only [RV]
  exact ⟨T, [v, v', v''], rfl, .inl ⟨upd_same, s1.off hT⟩, by simp only [RVs]; exact ⟨_, _, rfl, rv.mono xx, _, _, rfl, rv'.mono xx, _, _, rfl, rv''.mono xx, rfl⟩⟩
end
section
variable {X : Cx} {Φ : Prog} {cur : Option Exn} {W : WX} {pos ppos : Pos} {pa pb pc tg : Expr} {a b c : E}
/-- a list, a tuple, a text, the script -/
def rWalk (K : PySem.W.Frag) (x : V) (H : Hp) (R : It → Hp → Prop) : Prop :=
  (∃ a, x = .ref a ∧ (∃ xs, SqL K H a xs) ∧ R (Itl K a) H) ∨ (∃ a, x = .ref a ∧ (∃ xs, SqT K H a xs) ∧ R (Itt K a) H) ∨ ∃ z, x = .str z ∧ R (Its z) H
theorem pi_walk {tl : TE} (hl : PE X pa tl) : PI X tg pa (fun σ H R => tl σ H fun x H1 => rWalk X.K x H1 R) := by
  refine ⟨fun pins s σ H R I h => ?_⟩
  refine thn (hl.run pins s σ H _ I h) fun v s1 ⟨x, H1, I1, r1, q1⟩ => ?_
  rcases q1 with ⟨a, rfl, ⟨xs, hq⟩, q⟩ | ⟨a, rfl, ⟨xs, hq⟩, q⟩ | ⟨z, rfl, q⟩
  · cases r1
    obtain ⟨its, rv, p, hz⟩ := I1.list hq
    exact wpAny_pyIter_list p.isList (pi_one (tk := s1.toks) I1 _ (turn_list a _) ⟨_, Heap.get?_push_size _ rfl, rfl, rfl⟩ q)
  · cases r1
    obtain ⟨its, rv, p, hz⟩ := I1.tuple hq
    exact wpAny_pyIter_tuple (show s1.heap.IsTuple a its.toArray from p) (pi_one (tk := s1.toks) I1 _ (turn_tuple a _) ⟨_, Heap.get?_push_size _ rfl, rfl, rfl⟩ q)
  · obtain ⟨t, rfl⟩ := r1
    cases ha : z.cps.all (· < 128)
    · exact wpAny_pyIter_wide ha (pi_one (tk := s1.toks) I1 _ (turn_str _ z t "str_iterator" (.inr rfl)) ⟨_, Heap.get?_push_size _ rfl, rfl, rfl⟩ q)
    · exact wpAny_pyIter_ascii ha (pi_one (tk := s1.toks) I1 _ (turn_str _ z t "str_ascii_iterator" (.inl rfl)) ⟨_, Heap.get?_push_size _ rfl, rfl, rfl⟩ q)
theorem si_e (ha : SE X Φ cur W pa a) : SI X Φ cur W tg pa (.e a) :=
  pi_w (pi_walk ha) fun τ H R ⟨ρ, k, st, σ, at_, run⟩ => by
    simp only [evalI] at run
    refine ⟨ρ, k, st, σ, at_, run.seq at_ fun x ρ1 k1 H1 st1 e1 a1 run1 v rv => ?_⟩
    have goL : ∀ xs, asL st1 x = some xs → Run X.K X.w ρ1 k1 H1 (.ok (xs, srcs x) st1) (fun p ρ' k' H' st' => ∀ J, ItR X.K X.w J p.1 p.2 ρ' k' H' st' → R J H') (fun c d H' => W c d τ H') → rWalk X.K v H1 R := fun xs e q => by
      obtain ⟨p, ys, rfl, h1, h2⟩ := rv.asL a1.sim e
      exact .inl ⟨p, rfl, ⟨ys, .of h1⟩, q.now a1.sim _ (itr_list a1.sim rv e)⟩
    cases x with
    | scr ns =>
      obtain ⟨p, rfl, sq⟩ := rv.script
      exact .inl ⟨p, rfl, ⟨_, sq⟩, run1.now a1.sim _ (itr_scr rv)⟩
    | str s =>
      simp only [RV] at rv
      subst rv
      exact .inr (.inr ⟨_, rfl, run1.now a1.sim _ itr_str⟩)
    | tup xs =>
      have rv' := rv
      simp only [RV] at rv'
      obtain ⟨p, ys, rfl, h1, h2⟩ := rv'
      refine .inr (.inl ⟨p, rfl, ⟨ys, ?_⟩, run1.now a1.sim _ (itr_tup rv)⟩)
      rcases h1 with ⟨h1, _⟩ | h1
      · exact .of h1
      · exact h1.sq
    | frz xs => exact goL xs rfl run1
    | ref n =>
      cases e : asL st1 (.ref n) with
      | none => simp only [asQ, e] at run1; exact run1.elim
      | some xs => simp only [asQ, e] at run1; exact goL xs e run1
    | _ => exact run1.elim
theorem inR_ok {i : Int} (h : inR i = true) : -(2 ^ 62) ≤ i ∧ i < 2 ^ 62 := by
  have := inR_iff.mp h
  omega
theorem si_range1 (hg : Gl X (Str.ofString "range")) (hm : X.mg (Str.ofString "range") = none) (ha : SEs X Φ cur W [pa] [a]) (h1 : notStar pa = true) : SI X Φ cur W tg (.Call (.Name (Str.ofString "range") ppos) [pa] [] pos) (.range [a]) :=
  pi_w (pi_range1 hg hm ha (by rw [star_one h1]; rfl)) fun τ H R ⟨ρ, k, st, σ, at_, run⟩ => by
    simp only [evalI] at run
    refine ⟨ρ, k, st, σ, at_, run.seqE at_ fun xs ρ1 k1 H1 st1 ex e1 a1 run1 vs rvs => ?_⟩
    have hl := evalEs_len ex
    match xs, hl with
    | [d], _ =>
      obtain ⟨v, rfl, rv⟩ := rvs.one
      cases d with
      | int j =>
        dsimp only at run1
        split at run1
        · rename_i hj
          simp only [RV] at rv
          subst rv
          refine ⟨j, rfl, (inR_ok hj).1, (inR_ok hj).2, run1.now a1.sim _ ?_⟩
          have e : rangeL 0 j = (List.range j.toNat).map fun (i : Nat) => D.int (0 + (i : Int)) := by unfold rangeL; simp
          rw [e]
          exact itr_range
        · exact run1.elim
      | _ => exact run1.elim
theorem si_range2 (hg : Gl X (Str.ofString "range")) (hm : X.mg (Str.ofString "range") = none) (ha : SEs X Φ cur W [pa, pb] [a, b]) (h1 : notStar pa = true) (h2 : notStar pb = true) :
    SI X Φ cur W tg (.Call (.Name (Str.ofString "range") ppos) [pa, pb] [] pos) (.range [a, b]) :=
  pi_w (pi_range2 hg hm ha (by rw [star_one h1, star_one h2]; rfl) (by rw [star_one h2]; rfl)) fun τ H R ⟨ρ, k, st, σ, at_, run⟩ => by
    simp only [evalI] at run
    refine ⟨ρ, k, st, σ, at_, run.seqE at_ fun xs ρ1 k1 H1 st1 ex e1 a1 run1 vs rvs => ?_⟩
    have hl := evalEs_len ex
    match xs, hl with
    | [d, e], _ =>
      obtain ⟨v, u, rfl, rv, ru⟩ := rvs.two
      cases d with
      | int i =>
        cases e with
        | int j =>
          dsimp only at run1
          split at run1
          · rename_i hj
            simp only [Bool.and_eq_true] at hj
            simp only [RV] at rv ru
            subst rv ru
            exact ⟨i, j, rfl, ⟨(inR_ok hj.1).1, (inR_ok hj.1).2, (inR_ok hj.2).1, (inR_ok hj.2).2⟩, run1.now a1.sim _ itr_range⟩
          · exact run1.elim
        | _ => exact run1.elim
      | _ => cases e <;> exact run1.elim
theorem si_range3 {pc : Expr} {c : E} (hg : Gl X (Str.ofString "range")) (hm : X.mg (Str.ofString "range") = none) (ha : SEs X Φ cur W [pa, pb, pc] [a, b, c]) (h1 : notStar pa = true) (h2 : notStar pb = true) (h3 : notStar pc = true) :
    SI X Φ cur W tg (.Call (.Name (Str.ofString "range") ppos) [pa, pb, pc] [] pos) (.range [a, b, c]) :=
  pi_w (pi_range3 hg hm ha (star_one h1) (star_all (by simp [h2, h3]))) fun τ H R ⟨ρ, k, st, σ, at_, run⟩ => by
    simp only [evalI] at run
    refine ⟨ρ, k, st, σ, at_, run.seqE at_ fun xs ρ1 k1 H1 st1 ex e1 a1 run1 vs rvs => ?_⟩
    have hl := evalEs_len ex
    match xs, hl with
    | [d, e, f], _ =>
      simp only [RVs] at rvs
      obtain ⟨v, _, rfl, rv, u, _, rfl, ru, z, _, rfl, rz, rfl⟩ := rvs
      cases d with
      | int i =>
        cases e with
        | int j =>
          cases f with
          | int c =>
            dsimp only at run1
            split at run1
            · rename_i hj
              simp only [Bool.and_eq_true, beq_iff_eq] at hj
              obtain ⟨⟨hi, hj⟩, rfl⟩ := hj
              simp only [RV] at rv ru rz
              subst rv ru rz
              exact ⟨i, j, -1, _, rfl, RgC.neg (inR_ok hi).1 (inR_ok hi).2 (inR_ok hj).1 (inR_ok hj).2, run1.now a1.sim _ itr_rangeC⟩
            · exact run1.elim
          | _ => exact run1.elim
        | _ => cases f <;> exact run1.elim
      | _ => cases e <;> cases f <;> exact run1.elim
theorem si_enum {elts : List Expr} {kk : Nat} {tpos : Pos} (hg : Gl X (Str.ofString "enumerate")) (hm : X.mg (Str.ofString "enumerate") = none) (ha : SE X Φ cur W pa a) (h1 : notStar pa = true) :
    SI X Φ cur W (.Tuple elts kk tpos) (.Call (.Name (Str.ofString "enumerate") ppos) [pa] [] pos) (.enum a) :=
  pi_w (pi_enum hg hm (pa_cons ha pa_nil (star_one h1)) (by rw [star_one h1]; rfl)) fun τ H R ⟨ρ, k, st, σ, at_, run⟩ => by
    simp only [evalI] at run
    refine ⟨ρ, k, st, σ, at_, run.seq at_ fun x ρ1 k1 H1 st1 e1 a1 run1 v rv => ?_⟩
    show ∃ a xs, [v] = [V.ref a] ∧ _
    cases e : asL st1 x with
    | none => simp only [e] at run1; exact run1.elim
    | some xs =>
      simp only [e] at run1
      obtain ⟨p, ys, rfl, h1, h2⟩ := rv.asL a1.sim e
      exact ⟨p, ys, rfl, .of h1, run1.now a1.sim _ (itr_enum a1.sim rv e)⟩
theorem si_zip {elts : List Expr} {kk : Nat} {tpos : Pos} (hg : Gl X (Str.ofString "zip")) (hm : X.mg (Str.ofString "zip") = none) (ha : SEs X Φ cur W [pa, pb] [a, b]) (h1 : notStar pa = true) (h2 : notStar pb = true) :
    SI X Φ cur W (.Tuple elts kk tpos) (.Call (.Name (Str.ofString "zip") ppos) [pa, pb] [] pos) (.zip [a, b]) :=
  pi_w (pi_zip hg hm ha (star_one h1) (by rw [star_one h2]; rfl)) fun τ H R ⟨ρ, k, st, σ, at_, run⟩ => by
    simp only [evalI] at run
    refine ⟨ρ, k, st, σ, at_, run.seqE at_ fun xs ρ1 k1 H1 st1 ex e1 a1 run1 vs rvs => ?_⟩
    have hl := evalEs_len ex
    match xs, hl with
    | [d, e], _ =>
      obtain ⟨v, u, rfl, rv, ru⟩ := rvs.two
      dsimp only at run1
      cases q : asL st1 d with
      | none => simp only [q] at run1; exact run1.elim
      | some xs =>
        cases q' : asL st1 e with
        | none => simp only [q, q'] at run1; exact run1.elim
        | some ys =>
          simp only [q, q'] at run1
          obtain ⟨p, us, rfl, g1, g2⟩ := rv.asL a1.sim q
          obtain ⟨p', us', rfl, g1', g2'⟩ := ru.asL a1.sim q'
          exact ⟨p, p', us, us', rfl, .of g1, .of g1', run1.now a1.sim _ (itr_zip a1.sim rv ru q q')⟩
theorem si_zip3 {elts : List Expr} {kk : Nat} {tpos : Pos} (hg : Gl X (Str.ofString "zip")) (hm : X.mg (Str.ofString "zip") = none) (ha : SEs X Φ cur W [pa, pb, pc] [a, b, c]) (h1 : notStar pa = true) (h2 : notStar pb = true) (h3 : notStar pc = true) :
    SI X Φ cur W (.Tuple elts kk tpos) (.Call (.Name (Str.ofString "zip") ppos) [pa, pb, pc] [] pos) (.zip [a, b, c]) :=
  pi_w (pi_zip3 hg hm ha (star_one h1) (star_all (by simp [h2, h3]))) fun τ H R ⟨ρ, k, st, σ, at_, run⟩ => by
    simp only [evalI] at run
    refine ⟨ρ, k, st, σ, at_, run.seqE at_ fun xs ρ1 k1 H1 st1 ex e1 a1 run1 vs rvs => ?_⟩
    have hl := evalEs_len ex
    match xs, hl with
    | [d, e, f], _ =>
      simp only [RVs] at rvs
      obtain ⟨v, _, rfl, rv, u, _, rfl, ru, z, _, rfl, rz, rfl⟩ := rvs
      dsimp only at run1
      cases q : asL st1 d with
      | none => simp only [q] at run1; exact run1.elim
      | some xs =>
        cases q' : asL st1 e with
        | none => simp only [q, q'] at run1; exact run1.elim
        | some ys =>
          cases q'' : asL st1 f with
          | none => simp only [q, q', q''] at run1; exact run1.elim
          | some zs =>
            simp only [q, q', q''] at run1
            obtain ⟨p, us, rfl, g1, g2⟩ := rv.asL a1.sim q
            obtain ⟨p', us', rfl, g1', g2'⟩ := ru.asL a1.sim q'
            obtain ⟨p'', us'', rfl, g1'', g2''⟩ := rz.asL a1.sim q''
            have l1 := g2.length
            have l2 := g2'.length
            have l3 := g2''.length
            exact ⟨p, p', p'', us, us', us'', rfl, .of g1, .of g1', .of g1'', run1.now a1.sim _ (itr_zip3 a1.sim rv ru rz q q' q'' (by rw [l1, l2, l3]))⟩
end
end PV
set_option Elab.async false
set_option linter.all false
set_option maxRecDepth 100000
set_option maxHeartbeats 4000000
/-! PvTg: targets. -/
namespace PV
open PySem L2
mutual
def slotsT : T → List Nat
  | .n i => [i]
  | .tup ts => slotsTs ts
  | _ => []
def slotsTs : List T → List Nat
  | [] => []
  | t :: ts => slotsT t ++ slotsTs ts
end
/-- a slot takes a value -/
theorem EnvR.set {K : PySem.W.Frag} {w : World} {ρ : Lc} {k : Nat} {H : Hp} {σ : Env} {τ : St} {i : Nat} {d : D} {v : V} (h : EnvR K w ρ k H σ τ) (r : RV K w ρ k H d v) : EnvR K w ρ k H (σ.set i (some d)) (τ.set i (some v)) := by
  refine ⟨by rw [List.length_set, List.length_set]; exact h.1, fun j e q => ?_⟩
  by_cases hj : i = j
  · subst hj
    by_cases hi : i < σ.length
    · rw [List.getElem?_set_self hi] at q
      cases q
      exact ⟨v, List.getElem?_set_self (by rw [← h.1]; exact hi), r⟩
    · rw [List.getElem?_eq_none (by simpa using hi)] at q
      cases q
  · rw [List.getElem?_set_ne hj] at q
    obtain ⟨u, e1, e2⟩ := h.2 j e q
    exact ⟨u, by rw [List.getElem?_set_ne hj]; exact e1, e2⟩
theorem EnvR.gone {K : PySem.W.Frag} {w : World} {ρ : Lc} {k : Nat} {H : Hp} {σ : Env} {τ : St} {i : Nat} (h : EnvR K w ρ k H σ τ) : EnvR K w ρ k H (σ.set i none) (τ.set i none) := by
  refine ⟨by rw [List.length_set, List.length_set]; exact h.1, fun j e q => ?_⟩
  by_cases hj : i = j
  · subst hj
    by_cases hi : i < σ.length
    · rw [List.getElem?_set_self hi] at q
      cases q
    · rw [List.getElem?_eq_none (by simpa using hi)] at q
      cases q
  · rw [List.getElem?_set_ne hj] at q
    obtain ⟨u, e1, e2⟩ := h.2 j e q
    exact ⟨u, by rw [List.getElem?_set_ne hj]; exact e1, e2⟩
/-- a slot forgotten in the evaluator alone -/
theorem EnvR.hide {K : PySem.W.Frag} {w : World} {ρ : Lc} {k : Nat} {H : Hp} {σ : Env} {τ : St} {i : Nat} {o : Option V} (h : EnvR K w ρ k H σ τ) : EnvR K w ρ k H (σ.set i none) (τ.set i o) := by
  refine ⟨by rw [List.length_set, List.length_set]; exact h.1, fun j e q => ?_⟩
  by_cases hj : i = j
  · subst hj
    by_cases hi : i < σ.length
    · rw [List.getElem?_set_self hi] at q
      cases q
    · rw [List.getElem?_eq_none (by simpa using hi)] at q
      cases q
  · rw [List.getElem?_set_ne hj] at q
    obtain ⟨u, e1, e2⟩ := h.2 j e q
    exact ⟨u, by rw [List.getElem?_set_ne hj]; exact e1, e2⟩
theorem EnvR.wipe {K : PySem.W.Frag} {w : World} {ρ : Lc} {k : Nat} {H : Hp} {σ : Env} {τ : St} (h : EnvR K w ρ k H σ τ) : ∀ vs : List Nat, EnvR K w ρ k H (PV.wipe σ vs) (L2.wipe τ vs)
  | [] => h
  | v :: vs => (EnvR.wipe h vs).gone
theorem wipe_set {τ : St} {i : Nat} {o : Option V} : ∀ {vs : List Nat}, i ∈ vs → L2.wipe (τ.set i o) vs = L2.wipe τ vs
  | [], h => by cases h
  | v :: vs, h => by
    show (L2.wipe (τ.set i o) vs).set v none = (L2.wipe τ vs).set v none
    by_cases hi : i ∈ vs
    · rw [wipe_set hi]
    · have e : i = v := by
        rcases List.mem_cons.mp h with e | e
        · exact e
        · exact absurd e hi
      subst e
      have key : ∀ us : List Nat, i ∉ us → L2.wipe (τ.set i o) us = (L2.wipe τ us).set i o := fun us => by
        induction us with
        | nil => intro _; rfl
        | cons u us ih =>
          intro hn
          simp only [List.mem_cons, not_or] at hn
          show (L2.wipe (τ.set i o) us).set u none = ((L2.wipe τ us).set u none).set i o
          rw [ih hn.2, List.set_comm _ _ (Ne.symm hn.1)]
      rw [key vs hi, List.set_set]
/-- a target's reading -/
def tG (K : PySem.W.Frag) (w : World) (Φ : Prog) (cur : Option Exn) (W : WX) (t : T) : TG := fun v τ H Q => ∃ ρ k st σ d, At K w ρ k H st σ τ ∧ RV K w ρ k H d v ∧
  Run K w ρ k H (assign Φ cur σ t d st) (fun σ' ρ' k' H' _ => ∀ τ', EnvR K w ρ' k' H' σ' τ' → (∀ vs, (∀ i ∈ slotsT t, i ∈ vs) → L2.wipe τ' vs = L2.wipe τ vs) → Q τ' H') (fun c d H' => W c d τ H')
def tGs (K : PySem.W.Frag) (w : World) (Φ : Prog) (cur : Option Exn) (W : WX) (t : List T) : TGs := fun v τ H Q => ∃ ρ k st σ d, At K w ρ k H st σ τ ∧ RVs K w ρ k H d v ∧
  Run K w ρ k H (assigns Φ cur σ t d st) (fun σ' ρ' k' H' _ => ∀ τ', EnvR K w ρ' k' H' σ' τ' → (∀ vs, (∀ i ∈ slotsTs t, i ∈ vs) → L2.wipe τ' vs = L2.wipe τ vs) → Q τ' H') (fun c d H' => W c d τ H')
abbrev ST (X : Cx) (Φ : Prog) (cur : Option Exn) (W : WX) (p : Expr) (t : T) : Prop := PG X p (tG X.K X.w Φ cur W t)
theorem pg_w {X : Cx} {e : Expr} {t t' : TG} (h : PG X e t) (f : ∀ v τ H Q, t' v τ H Q → t v τ H Q) : PG X e t' := ⟨fun pins s τ H v u Q I r q => h.run pins s τ H v u Q I r (f _ _ _ _ q)⟩
theorem pgs_w {X : Cx} {e : List Expr} {t t' : TGs} (h : PGs X e t) (f : ∀ v τ H Q, t' v τ H Q → t v τ H Q) : PGs X e t' := ⟨fun pins s τ H v u Q I r q => h.run pins s τ H v u Q I r (f _ _ _ _ q)⟩
section
open PySem.Spec PySem.Calls PyProof.Rows
def gLst (K : PySem.W.Frag) (n : Nat) (t : TGs) : TG := fun v σ H Q => ∃ a xs, v = .ref a ∧ SqL K H a xs ∧ xs.length = n ∧ t xs σ H Q
theorem pg_lst {X : Cx} {pos : Pos} {es : List Expr} {k : Nat} {t : TGs} {n : Nat} (hc : X.calm = true) (h : PGs X es t)
    (hn : (assignEach es X.env).length = n) (hst : (assignEach es X.env).findIdx? (·.1) = none) : PG X (.Tuple es k pos) (gLst X.K n t) := by
  refine ⟨fun pins s σ H v u Q I r hw => ?_⟩
  obtain ⟨a, xs, e1, hq, hl, hw⟩ := hw
  subst e1
  cases r
  obtain ⟨its, rv, ht, hz⟩ := I.list hq
  rw [assign_Tuple]
  refine wpAny_bind (wpAny_standAt ?_)
  unfold unpack
  rw [hst, show (assignEach es X.env).length = its.toArray.size by simp [hn, ← hl, rv.length]]
  refine wpAny_bind (wpAny_holding (PySem.W.kun_itemsOf (I.ok.hd hc) ht.isList fun h' hx => ?_))
  have I1 : Inv X pins σ H { s with heap := h' } := I.kept (t' := s.toks) fun b o e => hx b o (Nat.ne_of_lt (Heap.lt_size e)) e
  exact h.run pins _ σ H xs _ Q I1 (by simpa using rv) hw
theorem pg_or {X : Cx} {e : Expr} {t t' : TG} (h : PG X e t) (h' : PG X e t') : PG X e (fun v τ H Q => t v τ H Q ∨ t' v τ H Q) := ⟨fun pins s τ H v u Q I r q => q.elim (h.run pins s τ H v u Q I r) (h'.run pins s τ H v u Q I r)⟩
end
theorem asg_one {p : Expr} {r : List Expr} {env : PySem.Env} (h : notStar p = true) : assignEach (p :: r) env = (false, PySem.assign p env) :: assignEach r env := by
  cases p <;> first | rfl | (simp [notStar] at h; done)
theorem asg_len : ∀ {r : List Expr} {env : PySem.Env}, r.all notStar = true → (assignEach r env).length = r.length
  | [], _, _ => rfl
  | p :: r, env, h => by
    simp only [List.all_cons, Bool.and_eq_true] at h
    rw [asg_one h.1, List.length_cons, List.length_cons, asg_len h.2]
theorem asg_find : ∀ {r : List Expr} {env : PySem.Env}, r.all notStar = true → (assignEach r env).findIdx? (·.1) = none
  | [], _, _ => rfl
  | p :: r, env, h => by
    simp only [List.all_cons, Bool.and_eq_true] at h
    rw [asg_one h.1, List.findIdx?_cons, asg_find h.2]
    rfl
section
variable {X : Cx} {Φ : Prog} {cur : Option Exn} {W : WX} {pos : Pos} {pa pb : Expr} {a b : E}
theorem st_n {i : Nat} {x : Str} (hN : X.N.Nodup) (hi : X.N[i]? = some x) (hx : L2.Loc X.env.scope x) (hf : X.fn x = true ∨ X.env.scope.names.lookup x = some .local) : ST X Φ cur W (.Name x pos) (.n i) :=
  pg_w (pg_name hN hi hx hf) fun v τ H Q ⟨ρ, k, st, σ, d, at_, rv, run⟩ => by
    simp only [assign] at run
    split at run
    · refine run.now at_.sim _ (at_.env.set rv) fun vs hv => ?_
      exact wipe_set (hv i (by simp [slotsT]))
    · exact run.elim
theorem sts_nil : PGs X [] (tGs X.K X.w Φ cur W []) := pgs_w pgs_nil fun v τ H Q ⟨ρ, k, st, σ, d, at_, rv, run⟩ => by
  cases d with
  | nil =>
    simp only [assigns] at run
    have e := rv.zero
    subst e
    exact ⟨rfl, run.now at_.sim _ at_.env fun _ _ => rfl⟩
  | cons _ _ => simp only [assigns] at run; exact run.elim
theorem Run.noex {α : Type} {K : PySem.W.Frag} {w : World} {ρ : Lc} {k : Nat} {H : Hp} {r : Res α} {R : α → Lc → Nat → Hp → Store → Prop} {W' W'' : XK} (h : Run K w ρ k H r.noex R W') : Run K w ρ k H r R W'' := by
  cases r with
  | ok a st => exact h
  | exn x st => exact h.elim
  | stuck => exact h
/-- nothing may be raised -/
abbrev W0 : WX := fun _ _ _ _ => False
theorem sts_cons {t : T} {ts : List T} {pr : List Expr} (h1 : ST X Φ cur W0 pa t) (h2 : PGs X pr (tGs X.K X.w Φ cur W0 ts)) (hs : notStar pa = true) : PGs X (pa :: pr) (tGs X.K X.w Φ cur W0 (t :: ts)) :=
  pgs_w (pgs_cons h1 h2 (by rw [asg_one hs]; rfl)) fun v τ H Q ⟨ρ, k, st, σ, d, at_, rv, run⟩ => by
    cases d with
    | nil => simp only [assigns] at run; exact run.elim
    | cons x xs =>
      simp only [assigns] at run
      simp only [RVs] at rv
      obtain ⟨u, us, rfl, r1, r2⟩ := rv
      refine ⟨u, us, rfl, ρ, k, st, σ, x, at_, r1, run.bind.imp fun σ1 ρ1 k1 H1 st1 e1 s1 run1 τ1 env1 wp => ?_⟩
      refine ⟨ρ1, k1, st1, σ1, xs, ⟨s1, env1⟩, r2.mono e1, run1.imp fun σ2 ρ2 k2 H2 st2 e2 s2 q τ2 env2 wp2 => ?_⟩
      refine q τ2 env2 fun vs hv => ?_
      rw [wp2 vs fun i hi => hv i (by simp [slotsTs, hi]), wp vs fun i hi => hv i (by simp [slotsTs, hi])]
theorem assigns_len : ∀ {ts : List T} {ds : List D} {σ : Env} {st : Store} {σ' : Env} {st' : Store}, assigns Φ cur σ ts ds st = .ok σ' st' → ts.length = ds.length
  | [], [], _, _, _, _, _ => rfl
  | [], _ :: _, σ, st, σ', st', h => by simp only [assigns] at h; cases h
  | _ :: _, [], σ, st, σ', st', h => by simp only [assigns] at h; cases h
  | t :: ts, d :: ds, σ, st, σ', st', h => by
    simp only [assigns] at h
    obtain ⟨x, s1, _, h⟩ := bind_ok h
    rw [List.length_cons, List.length_cons, assigns_len h]
theorem st_tup {ts : List T} {pr : List Expr} {j : Nat} (hc : X.calm = true) (h : PGs X pr (tGs X.K X.w Φ cur W0 ts)) (hs : pr.all notStar = true) (hl : pr.length = ts.length) : ST X Φ cur W (.Tuple pr j pos) (.tup ts) :=
  pg_w (pg_or (pg_tup (n := ts.length) hc h (by rw [asg_len hs, hl]) (asg_find hs)) (pg_lst (n := ts.length) hc h (by rw [asg_len hs, hl]) (asg_find hs))) fun v τ H Q ⟨ρ, k, st, σ, d, at_, rv, run⟩ => by
    have go : ∀ (xs : List D) (ys : List V), RVs X.K X.w ρ k H xs ys → Run X.K X.w ρ k H (assigns Φ cur σ ts xs st).noex (fun σ' ρ' k' H' _ => ∀ τ', EnvR X.K X.w ρ' k' H' σ' τ' → (∀ vs, (∀ i ∈ slotsT (T.tup ts), i ∈ vs) → L2.wipe τ' vs = L2.wipe τ vs) → Q τ' H') (fun c d H' => W c d τ H') → ys.length = ts.length ∧ tGs X.K X.w Φ cur W0 ts ys τ H Q := fun xs ys h2 run => by
      have run' : Run X.K X.w ρ k H (assigns Φ cur σ ts xs st) _ fun c d H' => W0 c d τ H' := Run.noex run
      have hn : ts.length = xs.length := by
        cases e : assigns Φ cur σ ts xs st with
        | ok σ' st' => exact assigns_len e
        | exn x st' => rw [e] at run; exact False.elim run
        | stuck => rw [e] at run'; exact run'.elim
      exact ⟨by rw [← h2.length, hn], ρ, k, st, σ, xs, at_, h2, run'.imp fun σ' ρ' k' H' st' e s q τ' env wp => q τ' env fun vs hv => wp vs fun i hi => hv i (by simpa [slotsT] using hi)⟩
    cases d with
    | tup xs =>
      simp only [assign] at run
      have rv' := rv
      simp only [RV] at rv'
      obtain ⟨a, ys, rfl, h1, h2⟩ := rv'
      have sq : SqT X.K H a ys := by
        rcases h1 with ⟨h1, _⟩ | h1
        · exact .of h1
        · exact h1.sq
      obtain ⟨g1, g2⟩ := go xs ys h2 run
      exact .inl ⟨a, ys, rfl, sq, g1, g2⟩
    | frz xs =>
      simp only [assign] at run
      have rv' := rv
      simp only [RV] at rv'
      obtain ⟨a, ys, rfl, h1, _, h2⟩ := rv'
      obtain ⟨g1, g2⟩ := go xs ys h2 run
      have sq : SqL X.K H a ys := by first | exact .of h1 | exact .inl (.of h1) | exact .inl (.inl h1) | exact .inl h1
      exact .inr ⟨a, ys, rfl, sq, g1, g2⟩
    | _ => simp only [assign] at run; exact run.elim
/-! ### o[i] = v -/
section
variable {K : PySem.W.Frag} {w : World} {ρ : Lc} {k : Nat} {H : Hp}
theorem RDs.any {q : D} {κ : Key} (hq : keyD q = some κ) : ∀ {kvs : List (D × D)} {ws : List (Key × V)}, RDs K w ρ k H kvs ws → kvs.any (fun p => eqF p.1 q) = ws.any (fun p => decide (p.1 = κ))
  | [], _, h => by
    have e : _ = [] := h
    subst e
    rfl
  | (a, x) :: kvs, _, h => by
    obtain ⟨α, u, r, rfl, h0, _, h2⟩ := h
    rw [List.any_cons, List.any_cons, key_eq h0 hq, RDs.any hq h2]
theorem RDs.rep {q d : D} {κ : Key} {v : V} (hq : keyD q = some κ) (rv : RV K w ρ k H d v) : ∀ {kvs : List (D × D)} {ws : List (Key × V)}, RDs K w ρ k H kvs ws →
    RDs K w ρ k H (kvs.map fun p => if eqF p.1 q then (p.1, d) else p) (ws.map fun p => if p.1 = κ then (p.1, v) else p)
  | [], _, h => by
    have e : _ = [] := h
    subst e
    rfl
  | (a, x) :: kvs, _, h => by
    obtain ⟨α, u, r, rfl, h0, h1, h2⟩ := h
    rw [List.map_cons, List.map_cons]
    have e := key_eq h0 hq
    by_cases c : α = κ
    · simp only [e, c, decide_true, if_true]
      exact ⟨_, v, _, rfl, by rw [h0, c], rv, RDs.rep hq rv h2⟩
    · simp only [e, c, decide_false, Bool.false_eq_true, if_false]
      exact ⟨_, u, _, rfl, h0, h1, RDs.rep hq rv h2⟩
theorem RDs.snoc {q d : D} {κ : Key} {v : V} (hq : keyD q = some κ) (rv : RV K w ρ k H d v) : ∀ {kvs : List (D × D)} {ws : List (Key × V)}, RDs K w ρ k H kvs ws → RDs K w ρ k H (kvs ++ [(q, d)]) (ws ++ [(κ, v)])
  | [], _, h => by
    have e : _ = [] := h
    subst e
    exact ⟨κ, v, [], rfl, hq, rv, rfl⟩
  | (a, x) :: kvs, _, h => by
    obtain ⟨α, u, r, rfl, h0, h1, h2⟩ := h
    exact ⟨α, u, _, rfl, h0, h1, RDs.snoc hq rv h2⟩
theorem RDs.put {q d : D} {κ : Key} {v : V} (hq : keyD q = some κ) (rv : RV K w ρ k H d v) {kvs : List (D × D)} {ws : List (Key × V)} (h : RDs K w ρ k H kvs ws) : RDs K w ρ k H (dput kvs q d) (putK ws κ v) := by
  unfold dput putK
  rw [RDs.any hq h]
  split
  · exact RDs.rep hq rv h
  · exact RDs.snoc hq rv h
theorem RDs.length : ∀ {kvs : List (D × D)} {ws : List (Key × V)}, RDs K w ρ k H kvs ws → kvs.length = ws.length
  | [], _, h => by
    have e : _ = [] := h
    subst e
    rfl
  | (a, x) :: kvs, _, h => by
    obtain ⟨α, u, r, rfl, h0, h1, h2⟩ := h
    rw [List.length_cons, List.length_cons, RDs.length h2]
theorem dic_at {st : Store} {d : D} {v : V} {n : Nat} {kvs : List (D × D)} (sm : Sim K w ρ k H st) (r : RV K w ρ k H d v) (e : dicAt st d = some (n, kvs)) :
    ∃ a ws, v = .ref a ∧ H a = some (.dK ws) ∧ RDs K w ρ k H kvs ws ∧ n < k ∧ ρ n = some a := by
  cases d with
  | ref i =>
    simp only [dicAt] at e
    split at e
    · rename_i zs hz
      cases e
      simp only [RV] at r
      obtain ⟨a, rfl, h1, h2⟩ := r
      obtain ⟨b, h3, h4⟩ := sm.at_ _ _ hz
      rw [h2] at h3
      cases h3
      obtain ⟨ys, h5, h6⟩ := h4
      exact ⟨a, ys, rfl, h5, h6, h1, h2⟩
    · cases e
  | _ => cases e
end
/-- o[i] = v by values -/
def rSet (K : PySem.W.Frag) (w : World) : TSet := fun o i v H Q => ∃ ρ k st x y z W, Sim K w ρ k H st ∧ RV K w ρ k H x o ∧ RV K w ρ k H y i ∧ RV K w ρ k H z v ∧ Run K w ρ k H (setIx x y z st) (fun _ ρ' k' H' st' => Q H') W
theorem set_rule (hu : X.A.units + 64 < cLine) : PSet X (rSet X.K X.w) := by
  intro pins s τ H o i v ov iv u Q I ro ri rv h
  obtain ⟨ρ, k, st, x, y, z, W, sm, rx, ry, rz, run⟩ := h
  unfold setIx at run
  split at run
  · rename_i n xs e
    obtain ⟨a, ys, rfl, h1, h2, h3, h4⟩ := lst_at sm rx e
    split at run
    · rename_i j
      split at run
      · rename_i m hm
        simp only [RV] at ry
        subst ry
        have e1 := Ext.write (o := .lst (ys.set m v)) sm h3 h4
        refine set_list pins s τ H _ _ v ov iv u Q I ro ri rv ⟨a, ys, j, m, rfl, rfl, h1, by rw [← ixN_eq, ← h2.length]; exact hm, ?_⟩
        exact run ρ k _ e1 (sm.write h3 h4 ⟨_, upd_same, (h2.set m rz).mono e1⟩)
      · exact run.elim
    · exact run.elim
  · split at run
    · rename_i n kvs e
      obtain ⟨a, ws, rfl, h1, h2, h3, h4⟩ := dic_at sm rx e
      split at run
      · rename_i hk
        simp only [Bool.and_eq_true, decide_eq_true_eq] at hk
        obtain ⟨κ, k1, k2⟩ := isKey_of hk.1
        have fy : PV.flat y = true := by cases y <;> first | rfl | (exact absurd hk.1 (by simp [isKey]))
        have e0 := ry.flatW fy
        rw [← k2] at e0
        subst e0
        have e1 := Ext.write (o := .dK (putK ws κ v)) sm h3 h4
        cases ro
        refine d_setItem (by omega) I (DPut.k h1 (by rw [← h2.length, line_eq]; exact hk.2)) ri rv fun s' I' => ⟨_, I', ?_⟩
        exact run ρ k _ e1 (sm.write h3 h4 ⟨_, upd_same, (h2.put k1 rz).mono e1⟩)
      · exact run.elim
    · exact run.elim
theorem sub_asg {pi : Expr} {env : PySem.Env} (h : notSlice pi = true) (v : Value) : PySem.assign (.Subscript pa pi pos) env v = (do
      let ov ← holding [v] (eval pa env)
      let iv ← holding [v, ov] (eval pi env)
      standAt pos
      holding [v, ov, iv] (setItem ov iv v)
      release [v, ov, iv] []) := by
  cases pi <;> first | rfl | (simp [notSlice] at h; done)
theorem st_ix {i : E} {pi : Expr} (hu : X.A.units + 64 < cLine) (ha : SE X Φ cur W pa a) (hi : SE X Φ cur W pi i) (hs : notSlice pi = true) : ST X Φ cur W (.Subscript pa pi pos) (.ix a i) :=
  pg_w (pg_sub ha hi (set_rule hu) (sub_asg hs)) fun v τ H Q ⟨ρ, k, st, σ, d, at_, rv, run⟩ => by
    simp only [assign] at run
    refine ⟨ρ, k, st, σ, at_, run.seq at_ fun x ρ1 k1 H1 st1 e1 a1 run1 o ro => ?_⟩
    refine ⟨ρ1, k1, st1, σ, a1, run1.seq a1 fun y ρ2 k2 H2 st2 e2 a2 run2 j rj => ?_⟩
    refine ⟨ρ2, k2, st2, x, y, d, _, a2.sim, ro.mono e2, rj, rv.mono (e1.trans e2), run2.seq a2 fun _ ρ3 k3 H3 st3 e3 a3 run3 => ?_⟩
    exact run3.now a3.sim _ a3.env fun _ _ => rfl
/-! ### o.f = v -/
/-- what is known of the own classes -/
structure ClsOk (K : PySem.W.Frag) (Φ : Prog) : Prop where
  cls : ∀ c f, Φ.noat c f = true → Cls K (He.ga K (Str.ofString c)) ∧ NoAttr K (He.ga K (Str.ofString c)) (Str.ofString f)
section
variable {K : PySem.W.Frag} {w : World} {ρ : Lc} {k : Nat} {H : Hp} {st : Store}
theorem RFs.look {f : String} : ∀ {fs : List (String × D)} {fv : List (Str × V)}, RFs K w ρ k H fs fv → (match fs.lookup f with
    | some d => ∃ v, fv.lookup (Str.ofString f) = some v ∧ RV K w ρ k H d v
    | none => fv.lookup (Str.ofString f) = none)
  | [], _, h => by
    have e : _ = [] := h
    subst e
    rfl
  | (g, d) :: fs, _, h => by
    obtain ⟨v, r, rfl, h1, h2⟩ := h
    have ih := RFs.look (f := f) h2
    rw [List.lookup_cons, List.lookup_cons, nm_beq]
    cases e : (f == g) with
    | true => exact ⟨v, rfl, h1⟩
    | false => exact ih
theorem RFs.put {f : String} {d : D} {v : V} (rv : RV K w ρ k H d v) : ∀ {fs : List (String × D)} {fv : List (Str × V)}, RFs K w ρ k H fs fv → RFs K w ρ k H (PV.putF f d fs) (L2.putF (Str.ofString f) v fv)
  | [], _, h => by
    have e : _ = [] := h
    subst e
    exact ⟨v, [], rfl, rv, rfl⟩
  | (g, x) :: fs, _, h => by
    obtain ⟨u, r, rfl, h1, h2⟩ := h
    unfold PV.putF L2.putF
    by_cases e : g = f
    · subst e
      rw [if_pos rfl, if_pos rfl]
      exact ⟨v, r, rfl, rv, h2⟩
    · rw [if_neg e, if_neg fun z => e (nm_inj z)]
      exact ⟨u, _, rfl, h1, RFs.put rv h2⟩
theorem RFs.length : ∀ {fs : List (String × D)} {fv : List (Str × V)}, RFs K w ρ k H fs fv → fs.length = fv.length
  | [], _, h => by
    have e : _ = [] := h
    subst e
    rfl
  | (g, x) :: fs, _, h => by
    obtain ⟨u, r, rfl, h1, h2⟩ := h
    rw [List.length_cons, List.length_cons, RFs.length h2]
theorem ins_at {d : D} {v : V} {f : String} {noat : String → String → Bool} {x : D} (sm : Sim K w ρ k H st) (r : RV K w ρ k H d v) (e : fieldOf noat st f d = some x) :
    ∃ a c dx fv y, v = .ref a ∧ noat c f = true ∧ H a = some (.ins (He.ga K (Str.ofString c)) dx fv) ∧ fv.lookup (Str.ofString f) = some y ∧ RV K w ρ k H x y := by
  cases d with
  | ref i =>
    simp only [fieldOf] at e
    split at e
    · rename_i c fs hz
      split at e
      · rename_i hn
        simp only [RV] at r
        obtain ⟨a, rfl, h1, h2⟩ := r
        obtain ⟨b, h3, h4⟩ := sm.at_ _ _ hz
        rw [h2] at h3
        cases h3
        obtain ⟨dx, fv, h5, h6⟩ := h4
        have l := RFs.look (f := f) h6
        rw [e] at l
        obtain ⟨y, l1, l2⟩ := l
        exact ⟨a, c, dx, fv, y, rfl, hn, h5, l1, l2⟩
      · cases e
    · cases e
  | _ => cases e
end
theorem se_fld {f : String} (C : ClsOk X.K Φ) (ha : SE X Φ cur W pa a) (hb : notSup pa = true) : SE X Φ cur W (.Attribute pa (Str.ofString f) pos) (.fld a f) :=
  pe_w (pe_fld ha (sup_one hb _)) fun τ H Q ⟨ρ, k, st, σ, at_, run⟩ => by
    simp only [evalE] at run
    refine ⟨ρ, k, st, σ, at_, run.seq at_ fun x ρ1 k1 H1 st1 e1 a1 run1 v rv => ?_⟩
    split at run1
    · rename_i d e
      obtain ⟨p, c, dx, fv, y, rfl, h1, h2, h3, h4⟩ := ins_at a1.sim rv e
      exact ⟨p, _, dx, fv, y, rfl, h2, (C.cls c f h1).1, (C.cls c f h1).2, h3, run1.now a1.sim _ h4⟩
    · exact run1.elim
def gAt (K : PySem.W.Frag) (w : World) (noat : String → String → Bool) (f : String) (to : TE) : TG := fun v σ H Q => to σ H fun o H1 => ∃ ρ k st x z W, Sim K w ρ k H1 st ∧ RV K w ρ k H1 x o ∧ RV K w ρ k H1 z v ∧ Run K w ρ k H1 (setFld noat x f z st) (fun _ ρ' k' H' st' => Q σ H') W
theorem pg_at {f : String} {to : TE} (C : ClsOk X.K Φ) (ha : PE X pa to) : PG X (.Attribute pa (Str.ofString f) pos) (gAt X.K X.w Φ.noat f to) := by
  refine ⟨fun pins s σ H v u Q I r h => ?_⟩
  show wpAny _ _ (do
    let ov ← holding [u] (eval pa X.env)
    standAt pos.atName
    holding [u, ov] (setAttr ov (Str.ofString f) u)
    release [u, ov] []) _ _ _
  refine wpAny_bind (wpAny_holding (thn (ha.run pins s σ H _ I h) fun ov s1 ⟨o, H1, I1, r1, ρ, k, st, x, z, W, sm, rx, rz, run⟩ => ?_))
  refine wpAny_bind (wpAny_standAt (wpAny_bind (wpAny_holding ?_)))
  unfold setFld at run
  split at run
  · rename_i n
    split at run
    · rename_i c fs hs
      split at run
      · rename_i hc
        simp only [Bool.and_eq_true, decide_eq_true_eq] at hc
        simp only [RV] at rx
        obtain ⟨a, rfl, h1, h2⟩ := rx
        obtain ⟨b, h3, h4⟩ := sm.at_ _ _ hs
        rw [h2] at h3
        cases h3
        obtain ⟨dx, fv, h5, h6⟩ := h4
        cases r1
        have e1 := Ext.write (o := .ins (He.ga X.K (Str.ofString c)) dx (L2.putF (Str.ofString f) v fv)) sm h1 h2
        refine setattr_ok I1 h5 (C.cls c f hc.2).1 (C.cls c f hc.2).2 (by rw [← RFs.length h6]; exact hc.1) r fun s' I' => ?_
        exact wpAny_release ⟨σ, _, I', run ρ k _ e1 (sm.write h1 h2 ⟨dx, _, upd_same, (RFs.put rz h6).mono e1⟩)⟩
      · exact run.elim
    · exact run.elim
  · exact run.elim
theorem st_at {f : String} (C : ClsOk X.K Φ) (ha : SE X Φ cur W pa a) : ST X Φ cur W (.Attribute pa (Str.ofString f) pos) (.at a f) :=
  pg_w (pg_at C ha) fun v τ H Q ⟨ρ, k, st, σ, d, at_, rv, run⟩ => by
    simp only [assign] at run
    refine ⟨ρ, k, st, σ, at_, run.seq at_ fun x ρ1 k1 H1 st1 e1 a1 run1 o ro => ?_⟩
    refine ⟨ρ1, k1, st1, x, d, _, a1.sim, ro, rv.mono e1, run1.seq a1 fun _ ρ3 k3 H3 st3 e3 a3 run3 => ?_⟩
    exact run3.now a3.sim _ a3.env fun _ _ => rfl
end
end PV
set_option Elab.async false
set_option linter.all false
set_option maxRecDepth 100000
set_option maxHeartbeats 4000000
/-! PvComp: comprehensions. -/
namespace PV
open PySem L2
/-- a step where nothing is raised, whatever the heap -/
theorem Run.seqN {α β : Type} {K : PySem.W.Frag} {w : World} {ρ0 ρ : Lc} {k0 k : Nat} {H0 H : Hp} {r : Res α} {f : α → Store → Res β} {R : β → Lc → Nat → Hp → Store → Prop} {W W' : XK} {R' : α → Lc → Nat → Hp → Store → Prop}
    (h : Run K w ρ0 k0 H0 (r.noex.bind f) R W) (hR : ∀ x ρ' k' H' st', r = .ok x st' → Ext ρ k H ρ' k' H' → Sim K w ρ' k' H' st' → Run K w ρ0 k0 H0 (f x st') R W → R' x ρ' k' H' st') : Run K w ρ k H r R' W' := by
  cases r with
  | ok x st => exact fun ρ' k' H' e s => hR x ρ' k' H' st rfl e s h
  | exn x st => exact h.elim
  | stuck => exact h.elim
/-- a list in the making: D, base (ρ1, k1, H1) -/
structure Mk1 (K : PySem.W.Frag) (w : World) (ρ1 : Lc) (k1 : Nat) (H1 : Hp) (D : Addr) (ρ : Lc) (k : Nat) (H : Hp) (st : Store) (acc : List PV.D) (vacc : List V) : Prop where
  hid : ρ.hid = (hide ρ1 D).hid
  ext : Ext ρ1 k1 H1 (shown ρ ρ1) k H
  sim : Sim K w ρ k H st
  at_ : H D = some (.lst vacc)
  nl : NotL ρ k D
  acc : RVs K w ρ k H acc vacc
section
variable {K : PySem.W.Frag} {w : World} {ρ1 ρ ρ' : Lc} {k1 k k' : Nat} {H1 H H' : Hp} {D : Addr} {st st' : Store} {acc : List PV.D} {vacc : List V}
theorem Mk1.start (s : Sim K w ρ1 k1 H1 st) (hD : H1 D = none) : Mk1 K w ρ1 k1 H1 D (hide ρ1 D) k1 (upd H1 D (.lst [])) st [] [] :=
  ⟨rfl, (Ext.refl (ρ := ρ1) (k := k1) (H := H1)).make hD, s.hide hD, upd_same, (s.off hD).2, .nil⟩
theorem Mk1.step (m : Mk1 K w ρ1 k1 H1 D ρ k H st acc vacc) (e : Ext ρ k H ρ' k' H') (s : Sim K w ρ' k' H' st') : Mk1 K w ρ1 k1 H1 D ρ' k' H' st' acc vacc :=
  ⟨e.hid.trans m.hid, m.ext.under e, s, e.keep _ _ m.at_ m.nl, e.nl m.at_ m.nl, m.acc.mono e⟩
theorem Mk1.app (m : Mk1 K w ρ1 k1 H1 D ρ k H st acc vacc) (hD : H1 D = none) {y : PV.D} {v : V} (r : RV K w ρ k H y v) : Mk1 K w ρ1 k1 H1 D ρ k (upd H D (.lst (vacc ++ [v]))) st (acc ++ [y]) (vacc ++ [v]) := by
  have hd : ρ.hid D := by rw [m.hid]; exact .inr rfl
  have mp := make_map (H := H) (k := k) (o := .lst (vacc ++ [v])) hd
  exact ⟨m.hid, m.ext.make hD, m.sim.make hd m.nl, upd_same, m.nl, (RVs.map (fun _ h => ⟨h, rfl⟩) mp m.acc).append (.cons (RV.map (fun _ h => ⟨h, rfl⟩) mp r) .nil)⟩
theorem live_map (hh : ρ.hid = (hide ρ1 D).hid) : ∀ a u, H a = some u → Off ρ k a → H a = some u ∧ Off (push (shown ρ ρ1) k D) (k + 1) a := fun a u h f => by
  refine ⟨h, fun z => f.1 (by rw [hh]; exact .inl z), fun n hn z => ?_⟩
  by_cases hk : n < k
  · rw [push_old hk] at z
    exact f.2 n hk z
  · have e : n = k := by omega
    subst e
    rw [push_new] at z
    cases z
    exact f.1 (by rw [hh]; exact .inr rfl)
theorem live_slot : ∀ n, n < k → n < k + 1 ∧ (push (shown ρ ρ1) k D) n = ρ n := fun n hn => ⟨Nat.lt_succ_of_lt hn, push_old hn⟩
/-- it is made: given out -/
theorem Mk1.done {m : Bool} {Q : VK} {W : XK} (h : Mk1 K w ρ1 k1 H1 D ρ k H st acc vacc) (hD : H1 D = none) (nh : ¬ ρ1.hid D) (run : Run K w ρ1 k1 H1 (PV.mk m acc st) (fun d ρ' k' H' _ => ∀ v, RV K w ρ' k' H' d v → Q v H') W) : Q (.ref D) H := by
  cases m with
  | false =>
    have mp := shown_map (H := H) (k := k) h.hid
    have racc : RVs K w (shown ρ ρ1) k H acc vacc := RVs.map (ρ := ρ) (ρ' := shown ρ ρ1) (k := k) (k' := k) (H := H) (H' := H) (fun _ h => ⟨h, rfl⟩) mp h.acc
    simp only [PV.mk, Bool.false_eq_true, if_false] at run
    refine run _ _ _ h.ext (h.sim.shown h.hid) _ ?_
    simp only [RV]
    exact ⟨D, vacc, rfl, h.at_, ⟨nh, h.nl⟩, racc⟩
  | true =>
    have mp := live_map (H := H) (k := k) h.hid
    have sl := live_slot (ρ := ρ) (ρ1 := ρ1) (k := k) (D := D)
    simp only [PV.mk, if_true] at run
    have e2 : Ext ρ1 k1 H1 (push (shown ρ ρ1) k D) (k + 1) H := by
      refine ⟨rfl, Nat.le_succ_of_le h.ext.le, fun n hn => ?_, h.ext.keep, fun n a h1 h2 z => ?_, h.ext.there⟩
      · rw [push_old (Nat.lt_of_lt_of_le hn h.ext.le)]
        exact h.ext.same n hn
      · by_cases hk : n < k
        · rw [push_old hk] at z
          exact h.ext.new n a h1 hk z
        · have e : n = k := by omega
          subst e
          rw [push_new] at z
          cases z
          exact hD
    have s2 : Sim K w (push (shown ρ ρ1) k D) (k + 1) H (st ++ [.lst acc]) := by
      refine ⟨by rw [List.length_append, h.sim.len]; rfl, fun n u hu => ?_, fun m n a h1 h2 z1 z2 => ?_, fun a z => h.sim.hidS a (by rw [h.hid]; exact .inl z)⟩
      · by_cases hn : n < st.length
        · rw [List.getElem?_append_left hn] at hu
          obtain ⟨a, h1, h2⟩ := h.sim.at_ n u hu
          exact ⟨a, by rw [push_old (h.sim.lt hu)]; exact h1, RO.map (ρ := ρ) (ρ' := push (shown ρ ρ1) k D) sl mp h2 rfl⟩
        · have hl := (List.getElem?_eq_some_iff.mp hu).1
          rw [List.length_append] at hl
          have e : n = st.length := by simp at hl; omega
          subst e
          rw [List.getElem?_append_right (Nat.le_refl _), Nat.sub_self] at hu
          cases hu
          exact ⟨D, by rw [h.sim.len]; exact push_new, vacc, h.at_, RVs.map sl mp h.acc⟩
      · by_cases hm : m < k
        · rw [push_old hm] at z1
          by_cases hn : n < k
          · rw [push_old hn] at z2
            exact h.sim.inj m n a hm hn z1 z2
          · have e : n = k := by omega
            subst e
            rw [push_new] at z2
            cases z2
            exact absurd z1 (h.nl m hm)
        · have e : m = k := by omega
          subst e
          rw [push_new] at z1
          cases z1
          by_cases hn : n < m
          · rw [push_old hn] at z2
            exact absurd z2 (h.nl n hn)
          · omega
    refine run _ _ _ e2 s2 _ ?_
    simp only [RV]
    exact ⟨D, rfl, by rw [h.sim.len]; omega, by rw [h.sim.len]; exact push_new⟩
end
section
variable {X : Cx} {Φ : Prog} {cur : Option Exn} {W : WX} {pos : Pos} {elt : E} {tg : T} {it : I} {ifs : List B} {own : List Nat} {pe ptg pit : Expr} {pifs : List Expr} {scope : Scope} {ow : List (Str × Nat)}
/-- one turn -/
abbrev turn1 (Φ : Prog) (cur : Option Exn) (σ : Env) (elt : E) (tg : T) (ifs : List B) (own : List Nat) (d : D) (st : Store) (acc : List D) : Res (List D) :=
  (assign Φ cur (wipe σ own) tg d st).bind fun σ' st => (evalTs Φ cur σ' ifs st).bind fun t st => if t then (evalE Φ cur σ' elt st).bind fun y st => .ok (acc ++ [y]) st else .ok acc st
theorem compL_grow {src : List Nat} {f : D → Store → List D → Res (List D)} (hf : ∀ d st acc acc' st', f d st acc = .ok acc' st' → acc.length ≤ acc'.length) :
    ∀ {ds : List D} {acc : List D} {st : Store} {ys : List D} {st' : Store}, compL src f ds acc st = .ok ys st' → acc.length ≤ ys.length
  | [], acc, st, ys, st', h => by simp only [compL] at h; cases h; exact Nat.le_refl _
  | d :: ds, acc, st, ys, st', h => by
    simp only [compL] at h
    obtain ⟨a, s, e, h⟩ := bind_ok h
    split at h
    · have e' : f d st acc = .ok a s := by
        cases q : f d st acc with
        | ok _ _ => rw [q] at e; exact e
        | _ => rw [q] at e; cases e
      exact Nat.le_trans (hf _ _ _ _ _ e') (compL_grow hf h)
    · cases h
theorem turn1_grow {σ : Env} {d : D} {st : Store} {acc acc' : List D} {st' : Store} (h : turn1 Φ cur σ elt tg ifs own d st acc = .ok acc' st') : acc.length ≤ acc'.length := by
  obtain ⟨σ', s1, _, h⟩ := bind_ok h
  obtain ⟨t, s2, _, h⟩ := bind_ok h
  cases t with
  | true =>
    simp only [if_true] at h
    obtain ⟨y, s3, _, h⟩ := bind_ok h
    cases h
    simp
  | false => cases h; exact Nat.le_refl _
theorem bind_assoc' {α β γ : Type} (r : Res α) (f : α → Store → Res β) (g : β → Store → Res γ) : (r.bind f).bind g = r.bind fun a s => (f a s).bind g := by cases r <;> rfl
theorem noex_bind {α β : Type} (r : Res α) (f : α → Store → Res β) : (r.bind f).noex = r.noex.bind fun a s => (f a s).noex := by cases r <;> rfl
theorem compL_noex {src : List Nat} {f : D → Store → List D → Res (List D)} : ∀ {ds : List D} {acc : List D} {st : Store} {x : Exn} {s : Store}, compL src f ds acc st ≠ .exn x s
  | [], acc, st, x, s, h => by simp only [compL] at h; cases h
  | d :: ds, acc, st, x, s, h => by
    simp only [compL] at h
    cases q : f d st acc with
    | ok a s1 =>
      rw [q] at h
      simp only [Res.noex_ok, Res.bind_ok] at h
      split at h
      · exact compL_noex h
      · cases h
    | _ => rw [q] at h; cases h
theorem wipe_idem {τ : St} : ∀ vs : List Nat, L2.wipe (L2.wipe τ vs) vs = L2.wipe τ vs := fun vs => by
  have key : ∀ us : List Nat, (∀ i ∈ us, i ∈ vs) → L2.wipe (L2.wipe τ us) vs = L2.wipe τ vs := fun us => by
    induction us with
    | nil => intro _; rfl
    | cons u us ih =>
      intro h
      show L2.wipe ((L2.wipe τ us).set u none) vs = _
      rw [wipe_set (h u (by simp)), ih fun i hi => h i (by simp [hi])]
  exact key vs fun _ h => h
theorem src_ok {α : Type} {K : PySem.W.Frag} {w : World} {ρ : Lc} {k : Nat} {H : Hp} {src : List Nat} {st st' : Store} {r : Res (List D)} {f : List D → Store → Res α} {R : α → Lc → Nat → Hp → Store → Prop} {W : XK}
    (h : Run K w ρ k H ((if src.all (fun n => st'[n]? == st[n]?) then r else .stuck).bind f) R W) : (∀ n ∈ src, st'[n]? = st[n]?) ∧ Run K w ρ k H (r.bind f) R W := by
  split at h
  · rename_i hs
    refine ⟨fun n hn => ?_, h⟩
    have := List.all_eq_true.mp hs n hn
    simpa using this
  · exact h.elim
/-- the tests of a comprehension -/
abbrev STs (X : Cx) (Φ : Prog) (cur : Option Exn) (W : WX) (p : List Expr) (bs : List B) : Prop := PTs X p (tTs X.K X.w Φ cur W bs)
theorem se_comp {m : Bool} (hc : X.calm = true) (hN : X.N.Nodup) (ok : BlkOk X.N X.env.scope scope ow) (ho : ow.map (·.2) = own) (hsl : ∀ i ∈ slotsT tg, i ∈ own) (hi : SI X Φ cur W ptg pit it)
    (hg : ∀ (s : Shared) (H : Hp) (C : Addr) (cl : List (Str × Addr)) (fp : List Addr), ST (X.blk s H scope (compEnvC scope cl C X.env) fp) Φ cur W0 ptg tg)
    (ht : ∀ (s : Shared) (H : Hp) (C : Addr) (cl : List (Str × Addr)) (fp : List Addr), STs (X.blk s H scope (compEnvC scope cl C X.env) fp) Φ cur W0 pifs ifs)
    (he : ∀ (s : Shared) (H : Hp) (C : Addr) (cl : List (Str × Addr)) (fp : List Addr), SE (X.blk s H scope (compEnvC scope cl C X.env) fp) Φ cur W0 pe elt) (hs : notSet pit = true) {τ : St} {H : Hp} {Q : VK} (q : tE X.K X.w Φ cur W (.comp m elt tg it ifs own) τ H Q) :
    tLc (tI X.K X.w Φ cur W it) (tG X.K X.w Φ cur W0 tg) (tTs X.K X.w Φ cur W0 ifs) (tE X.K X.w Φ cur W0 elt) (ow.map (·.2)) τ H Q := by
  obtain ⟨ρ, k, st, σ, at_, run⟩ := q
  simp only [evalE] at run
  refine ⟨ρ, k, st, σ, at_, run.seq at_ fun p ρ1 k1 H1 st1 e1 a1 run1 J hJ => ?_⟩
  intro D hD
  rw [ho]
  have nh := (a1.sim.off hD).1
  refine ⟨fun i n H' => ∃ ρ' k' st' acc vacc, n = p.1.length - i ∧ i ≤ p.1.length ∧ Mk1 X.K X.w ρ1 k1 H1 D ρ' k' H' st' acc vacc ∧ EnvR X.K X.w ρ' k' H' σ τ ∧ (∀ n ∈ p.2, st'[n]? = st1[n]?) ∧
    Run X.K X.w ρ1 k1 H1 ((compL p.2 (turn1 Φ cur σ elt tg ifs own) (p.1.drop i) acc st').bind fun ys st => if ys.length ≤ LIM then PV.mk m ys st else .stuck) (fun d ρ' k' H' _ => ∀ v, RV X.K X.w ρ' k' H' d v → Q v H') (fun c d H' => W c d τ H'), ⟨p.1.length, _, _, _, _, _, by simp, Nat.zero_le _, Mk1.start a1.sim hD, EnvR.map (ρ := ρ1) (H := H1) (fun _ h => ⟨h, rfl⟩) (hide_map hD) a1.env, fun _ _ => rfl, by simpa using run1⟩, ?_⟩
  rintro i n H' ⟨ρ', k', st', acc, vacc, rfl, hi', mk, env, hsrc, hrun⟩
  obtain ⟨item, stop⟩ := hJ i ρ' k' H' st' (mk.ext.weak mk.hid hD) mk.sim hsrc
  by_cases hlt : i < p.1.length
  · -- a turn
    refine .inr ?_
    have hd : p.1[i]? = some p.1[i] := List.getElem?_eq_getElem hlt
    obtain ⟨go, yld⟩ := item _ hd
    have hdrop : p.1.drop i = p.1[i] :: p.1.drop (i + 1) := List.drop_eq_getElem_cons hlt
    rw [hdrop] at hrun
    simp only [compL] at hrun
    refine ⟨go, fun H' => ∃ ρ' k' st' acc vacc, Mk1 X.K X.w ρ1 k1 H1 D ρ' k' H' st' acc vacc ∧ EnvR X.K X.w ρ' k' H' σ τ ∧ (∀ n ∈ p.2, st'[n]? = st1[n]?) ∧
      Run X.K X.w ρ1 k1 H1 ((compL p.2 (turn1 Φ cur σ elt tg ifs own) (p.1.drop (i + 1)) acc st').bind fun ys st => if ys.length ≤ LIM then PV.mk m ys st else .stuck) (fun d ρ' k' H' _ => ∀ v, RV X.K X.w ρ' k' H' d v → Q v H') (fun c d H' => W c d τ H'),
      fun H2 ⟨ρ2, k2, st2, acc2, vacc2, a, b, c, d⟩ => ⟨p.1.length - (i + 1), by omega, ρ2, k2, st2, acc2, vacc2, rfl, hlt, a, b, c, d⟩, fun x H2 hy => ?_⟩
    obtain ⟨e2, s2, rx⟩ := yld x H2 hy
    have mk2 := mk.step e2 s2
    have env2 := env.mono e2
    rw [bind_assoc', noex_bind] at hrun
    rw [bind_assoc'] at hrun
    refine ⟨ρ', k', st', wipe σ own, p.1[i], ⟨s2, env2.wipe own⟩, rx, Run.seqN hrun fun σ' ρ3 k3 H3 st3 _ e3 s3 run3 τ3 env3 wp3 => ?_⟩
    refine ⟨by rw [wp3 own hsl, wipe_idem], ?_⟩
    rw [noex_bind, bind_assoc'] at run3
    refine ⟨ρ3, k3, st3, σ', ⟨s3, env3⟩, Run.seqN run3 fun t ρ4 k4 H4 st4 _ e4 s4 run4 b eb => ?_⟩
    subst eb
    have mk4 := (mk2.step e3 s3).step e4 s4
    have env4 := (env2.mono e3).mono e4
    cases t with
    | false =>
      simp only [Bool.false_eq_true, if_false, Res.noex_ok, Res.bind_ok] at run4 ⊢
      obtain ⟨h1, h2⟩ := src_ok run4
      exact ⟨ρ4, k4, st4, acc, vacc, mk4, env4, fun n hn => (h1 n hn).trans (hsrc n hn), h2⟩
    | true =>
      simp only [if_true] at run4 ⊢
      rw [noex_bind, bind_assoc'] at run4
      refine ⟨ρ4, k4, st4, σ', ⟨s4, env3.mono e4⟩, Run.seqN run4 fun y ρ5 k5 H5 st5 _ e5 s5 run5 v rv => ?_⟩
      simp only [Res.noex_ok, Res.bind_ok] at run5
      obtain ⟨h1, h2⟩ := src_ok run5
      have mk5 := mk4.step e5 s5
      have hd : ρ5.hid D := by rw [mk5.hid]; exact .inr rfl
      have hl : (acc ++ [y]).length ≤ LIM := by
        cases q : compL p.2 (turn1 Φ cur σ elt tg ifs own) (p.1.drop (i + 1)) (acc ++ [y]) st5 with
        | ok ys st6 =>
          rw [q] at h2
          simp only [Res.bind_ok] at h2
          split at h2
          · rename_i hz
            exact Nat.le_trans (compL_grow (fun d st acc acc' st' h => turn1_grow h) q) hz
          · exact h2.elim
        | exn x st6 => exact absurd q (compL_noex)
        | stuck => rw [q] at h2; exact h2.elim
      refine ⟨vacc, mk5.at_, ?_, ρ5, k5, st5, acc ++ [y], vacc ++ [v], mk5.app hD rv, EnvR.map (ρ := ρ5) (H := H5) (fun _ h => ⟨h, rfl⟩) (make_map hd) (env4.mono e5), fun n hn => (h1 n hn).trans (hsrc n hn), h2⟩
      rw [← mk5.acc.length, line_eq]
      rw [List.length_append, List.length_singleton] at hl
      exact hl
  · have e : p.1.drop i = [] := List.drop_eq_nil_of_le (by omega)
    refine .inl ⟨stop (by omega), ?_⟩
    rw [e] at hrun
    simp only [compL, Res.bind_ok] at hrun
    split at hrun
    · exact mk.done hD nh hrun
    · exact hrun.elim
theorem se_lc {m : Bool} (hc : X.calm = true) (hN : X.N.Nodup) (ok : BlkOk X.N X.env.scope scope ow) (ho : ow.map (·.2) = own) (hsl : ∀ i ∈ slotsT tg, i ∈ own) (hi : SI X Φ cur W ptg pit it)
    (hg : ∀ (s : Shared) (H : Hp) (C : Addr) (cl : List (Str × Addr)) (fp : List Addr), ST (X.blk s H scope (compEnvC scope cl C X.env) fp) Φ cur W0 ptg tg)
    (ht : ∀ (s : Shared) (H : Hp) (C : Addr) (cl : List (Str × Addr)) (fp : List Addr), STs (X.blk s H scope (compEnvC scope cl C X.env) fp) Φ cur W0 pifs ifs)
    (he : ∀ (s : Shared) (H : Hp) (C : Addr) (cl : List (Str × Addr)) (fp : List Addr), SE (X.blk s H scope (compEnvC scope cl C X.env) fp) Φ cur W0 pe elt) (hs : notSet pit = true) :
    SE X Φ cur W (.ListComp pe [⟨ptg, pit, pifs, 0⟩] scope pos) (.comp m elt tg it ifs own) :=
  pe_w (pe_lc hc hN hi ok hg ht he (no_fold hs)) fun _ _ _ q => se_comp hc hN ok ho hsl hi hg ht he hs q
end
end PV
set_option Elab.async false
set_option linter.all false
set_option maxRecDepth 100000
set_option maxHeartbeats 4000000
/-! PvStm: statements. -/
namespace PV
open PySem L2
/-- how a statement ends -/
def OutR (K : PySem.W.Frag) (w : World) (ρ : Lc) (k : Nat) (H : Hp) (o : Out) (D : Ends) (W : WX) : Prop := match o with
  | .nx σ st => ∀ ρ' k' H' τ', Ext ρ k H ρ' k' H' → At K w ρ' k' H' st σ τ' → D.nx τ' H'
  | .rt d st => ∀ ρ' k' H' v, Ext ρ k H ρ' k' H' → Sim K w ρ' k' H' st → RV K w ρ' k' H' d v → D.rt v H'
  | .bk σ st => ∀ ρ' k' H' τ', Ext ρ k H ρ' k' H' → At K w ρ' k' H' st σ τ' → D.bk τ' H'
  | .ct σ st => ∀ ρ' k' H' τ', Ext ρ k H ρ' k' H' → At K w ρ' k' H' st σ τ' → D.ct τ' H'
  | .ex x σ st => ∀ ρ' k' H' τ' c d, Ext ρ k H ρ' k' H' → At K w ρ' k' H' st σ τ' → XnR K w ρ' k' H' x c d → W c d τ' H'
  | .stuck => False
section
variable {K : PySem.W.Frag} {w : World} {ρ ρ' : Lc} {k k' : Nat} {H H' : Hp} {st st' : Store} {σ : Env} {τ : St} {D : Ends} {W : WX}
theorem OutR.ext {o : Out} (h : OutR K w ρ k H o D W) (e : Ext ρ k H ρ' k' H') : OutR K w ρ' k' H' o D W := by
  cases o with
  | nx σ st => exact fun ρ2 k2 H2 τ2 e2 a => h ρ2 k2 H2 τ2 (e.trans e2) a
  | rt d st => exact fun ρ2 k2 H2 v e2 s r => h ρ2 k2 H2 v (e.trans e2) s r
  | bk σ st => exact fun ρ2 k2 H2 τ2 e2 a => h ρ2 k2 H2 τ2 (e.trans e2) a
  | ct σ st => exact fun ρ2 k2 H2 τ2 e2 a => h ρ2 k2 H2 τ2 (e.trans e2) a
  | ex x σ st => exact fun ρ2 k2 H2 τ2 c d e2 a => h ρ2 k2 H2 τ2 c d (e.trans e2) a
  | stuck => exact h
/-- an expression, then the rest -/
theorem OutR.seq {α : Type} {r : Res α} {f : α → Store → Out} {R' : α → Lc → Nat → Hp → Store → Prop} (h : OutR K w ρ k H (r.out σ f) D W) (a : At K w ρ k H st σ τ)
    (hR : ∀ x ρ' k' H' st', r = .ok x st' → Ext ρ k H ρ' k' H' → At K w ρ' k' H' st' σ τ → OutR K w ρ' k' H' (f x st') D W → R' x ρ' k' H' st') : Run K w ρ k H r R' (fun c d H' => W c d τ H') := by
  cases r with
  | ok x st' => exact fun ρ' k' H' e s => hR x ρ' k' H' st' rfl e (a.step e s) (OutR.ext (o := f x st') h e)
  | exn x st' => exact fun ρ' k' H' c d e s q => h ρ' k' H' τ c d e (a.step e s) q
  | stuck => exact h
end
def tS (K : PySem.W.Frag) (w : World) (ex : Env → Store → Out) (W : WX) : TS := fun D τ H => ∃ ρ k st σ, At K w ρ k H st σ τ ∧ OutR K w ρ k H (ex σ st) D W
section
variable {X : Cx} {Φ : Prog} {Wf : Nat} {cur : Option Exn} {W : WX} {pos ppos : Pos} {pe ptg : Expr} {e : E}
abbrev SS (X : Cx) (Φ : Prog) (Wf : Nat) (cur : Option Exn) (W : WX) (p : Stmt) (s : S) : Prop := PS X p (tS X.K X.w (fun σ st => exec Φ Wf cur s σ st) W)
abbrev SSs (X : Cx) (Φ : Prog) (Wf : Nat) (cur : Option Exn) (W : WX) (p : List Stmt) (s : List S) : Prop := PSs X p (tS X.K X.w (fun σ st => execs Φ Wf cur s σ st) W)
theorem ps_w {st : Stmt} {t t' : TS} (h : PS X st t) (f : ∀ D τ H, t' D τ H → t D τ H) : PS X st t' := ⟨fun pins s τ H D I q => h.run pins s τ H D I (f _ _ _ q)⟩
theorem pss_w {st : List Stmt} {t t' : TS} (h : PSs X st t) (f : ∀ D τ H, t' D τ H → t D τ H) : PSs X st t' := ⟨fun pins s τ H D I q => h.run pins s τ H D I (f _ _ _ q)⟩
theorem ss_nil' : SSs X Φ Wf cur W [] [] := pss_w pss_nil fun D τ H ⟨ρ, k, st, σ, at_, run⟩ => by
  simp only [execs] at run
  exact run ρ k H τ Ext.refl at_
theorem ss_cons' {p : Stmt} {ps : List Stmt} {s : S} {ss : List S} (h1 : SS X Φ Wf cur W p s) (h2 : SSs X Φ Wf cur W ps ss) : SSs X Φ Wf cur W (p :: ps) (s :: ss) :=
  pss_w (pss_cons h1 h2) fun D τ H ⟨ρ, k, st, σ, at_, run⟩ => by
    simp only [execs] at run
    refine ⟨ρ, k, st, σ, at_, ?_⟩
    show OutR X.K X.w ρ k H (exec Φ Wf cur s σ st) { D with nx := _ } W
    cases e : exec Φ Wf cur s σ st with
    | nx σ1 st1 =>
      rw [e] at run
      simp only [Out.seq_nx] at run
      exact fun ρ' k' H' τ' ex a => ⟨ρ', k', st1, σ1, a, run.ext ex⟩
    | rt d st1 => rw [e] at run; exact run
    | bk σ1 st1 => rw [e] at run; exact run
    | ct σ1 st1 => rw [e] at run; exact run
    | ex x σ1 st1 => rw [e] at run; exact run
    | stuck => rw [e] at run; exact run
theorem ss_pass : SS X Φ Wf cur W (.Pass pos) .pass := ps_w ps_pass fun D τ H ⟨ρ, k, st, σ, at_, run⟩ => by
  simp only [exec] at run
  exact run ρ k H τ Ext.refl at_
theorem ss_doc {x j} : SS X Φ Wf cur W (.Expr (.Constant (.str x) j ppos) pos) .pass := ps_w ps_doc fun D τ H ⟨ρ, k, st, σ, at_, run⟩ => by
  simp only [exec] at run
  exact run ρ k H τ Ext.refl at_
theorem ss_brk : SS X Φ Wf cur W (.Break pos) .brk := ps_w ps_break fun D τ H ⟨ρ, k, st, σ, at_, run⟩ => by
  simp only [exec] at run
  exact run ρ k H τ Ext.refl at_
theorem ss_cont : SS X Φ Wf cur W (.Continue pos) .cont := ps_w ps_continue fun D τ H ⟨ρ, k, st, σ, at_, run⟩ => by
  simp only [exec] at run
  exact run ρ k H τ Ext.refl at_
/-- no comprehension -/
def notComp : Expr → Bool
  | .ListComp .. => false
  | .SetComp .. => false
  | .DictComp .. => false
  | _ => true
theorem sw_false {p : Expr} {t : Option Expr} {l : Nat} {env : PySem.Env} (h : notComp p = true) : swapsWith p t l env = pure false := by
  cases p <;> first | rfl | (simp [notComp] at h; done)
theorem ss_ex (he : SE X Φ cur W pe e) (h : notComp pe = true) : SS X Φ Wf cur W (.Expr pe pos) (.ex e) := ps_w (ps_expr he (sw_false h)) fun D τ H ⟨ρ, k, st, σ, at_, run⟩ => by
  simp only [exec] at run
  exact ⟨ρ, k, st, σ, at_, run.seq at_ fun x ρ1 k1 H1 st1 _ e1 a1 run1 v rv => run1 ρ1 k1 H1 τ Ext.refl a1⟩
theorem ss_ret (he : SE X Φ cur W pe e) : SS X Φ Wf cur W (.Return (some pe) pos) (.ret e) := ps_w (ps_ret he) fun D τ H ⟨ρ, k, st, σ, at_, run⟩ => by
  simp only [exec] at run
  exact ⟨ρ, k, st, σ, at_, run.seq at_ fun x ρ1 k1 H1 st1 _ e1 a1 run1 v rv => run1 ρ1 k1 H1 v Ext.refl a1.sim rv⟩
theorem ss_retN : SS X Φ Wf cur W (.Return none pos) (.ret (.c .non)) := ps_w ps_retN fun D τ H ⟨ρ, k, st, σ, at_, run⟩ => by
  simp only [exec, evalE, Res.out_ok] at run
  exact run ρ k H .non Ext.refl at_.sim (by simp only [RV])
theorem ss_if {c : B} {pc : Expr} {pa pb : List Stmt} {a b : List S} (hc : SB X Φ cur W pc c) (ha : SSs X Φ Wf cur W pa a) (hb : SSs X Φ Wf cur W pb b) : SS X Φ Wf cur W (.If pc pa pb pos) (.ife c a b) :=
  ps_w (ps_if hc ha hb) fun D τ H ⟨ρ, k, st, σ, at_, run⟩ => by
    simp only [exec] at run
    refine ⟨ρ, k, st, σ, at_, run.seq at_ fun x ρ1 k1 H1 st1 _ e1 a1 run1 v rv => ?_⟩
    subst rv
    cases x with
    | true => exact ⟨ρ1, k1, st1, σ, a1, run1⟩
    | false => exact ⟨ρ1, k1, st1, σ, a1, run1⟩
theorem ss_while {c : B} {pc : Expr} {pb : List Stmt} {b : List S} (hp : PassesOwn (model X.prog X.w) X.A X.env X.xe) (hc : SB X Φ cur W pc c) (hb : SSs X Φ Wf cur W pb b) : SS X Φ Wf cur W (.While pc pb [] pos) (.whl c b) :=
  ps_w (ps_while hp hc hb) fun D τ H ⟨ρ, k, st, σ, at_, run⟩ => by
    simp only [exec] at run
    refine ⟨fun n τ H => ∃ ρ k st σ, At X.K X.w ρ k H st σ τ ∧ OutR X.K X.w ρ k H (whileF (fun σ st => evalT Φ cur σ c st) (fun σ st => execs Φ Wf cur b σ st) n σ st) D W, ⟨Wf, ρ, k, st, σ, at_, run⟩, ?_⟩
    rintro n τ H ⟨ρ, k, st, σ, at_, run⟩
    cases n with
    | zero => exact run.elim
    | succ n =>
      simp only [whileF] at run
      refine ⟨ρ, k, st, σ, at_, run.seq at_ fun x ρ1 k1 H1 st1 _ e1 a1 run1 v rv => ?_⟩
      subst rv
      cases x with
      | false => exact run1 ρ1 k1 H1 τ Ext.refl a1
      | true =>
        simp only [if_true] at run1 ⊢
        refine ⟨fun τ H => ∃ ρ k st σ, At X.K X.w ρ k H st σ τ ∧ OutR X.K X.w ρ k H (whileF (fun σ st => evalT Φ cur σ c st) (fun σ st => execs Φ Wf cur b σ st) n σ st) D W, fun τ' H' q => ⟨n, Nat.lt_succ_self _, q⟩, ρ1, k1, st1, σ, a1, ?_⟩
        show OutR X.K X.w ρ1 k1 H1 (execs Φ Wf cur b σ st1) _ W
        cases e : execs Φ Wf cur b σ st1 with
        | nx σ2 st2 => rw [e] at run1; exact fun ρ' k' H' τ' ex a => ⟨ρ', k', st2, σ2, a, OutR.ext run1 ex⟩
        | rt d st2 => rw [e] at run1; exact run1
        | bk σ2 st2 => rw [e] at run1; exact run1
        | ct σ2 st2 => rw [e] at run1; exact fun ρ' k' H' τ' ex a => ⟨ρ', k', st2, σ2, a, OutR.ext run1 ex⟩
        | ex x σ2 st2 => rw [e] at run1; exact run1
        | stuck => rw [e] at run1; exact run1
theorem ss_for {t : T} {it : I} {pit : Expr} {pb : List Stmt} {b : List S} (hp : PassesOwn (model X.prog X.w) X.A X.env X.xe) (hc : X.calm = true) (hi : SI X Φ cur W ptg pit it) (hg : ST X Φ cur W ptg t) (hb : SSs X Φ Wf cur W pb b) (hs : notSet pit = true) :
    SS X Φ Wf cur W (.For ptg pit pb [] pos) (.forr t it b) :=
  ps_w (ps_for hp hc hi hg hb (no_fold hs)) fun D τ H ⟨ρ, k, st, σ, at_, run⟩ => by
    simp only [exec] at run
    refine ⟨ρ, k, st, σ, at_, run.seq at_ fun p ρ1 k1 H1 st1 _ e1 a1 run1 J hJ => ?_⟩
    refine ⟨fun i n τ H => ∃ ρ' k' st' σ', n = p.1.length - i ∧ i ≤ p.1.length ∧ Ext ρ1 k1 H1 ρ' k' H ∧ At X.K X.w ρ' k' H st' σ' τ ∧ (∀ n ∈ p.2, st'[n]? = st1[n]?) ∧
      OutR X.K X.w ρ' k' H (forL p.2 (fun d σ st => (assign Φ cur σ t d st).out σ fun σ st => execs Φ Wf cur b σ st) (p.1.drop i) σ' st') D W, ⟨p.1.length, ρ1, k1, st1, σ, by simp, Nat.zero_le _, Ext.refl, a1, fun _ _ => rfl, by simpa using run1⟩, ?_⟩
    rintro i n τ H ⟨ρ', k', st', σ', rfl, hi', e', at', hsrc, hrun⟩
    obtain ⟨item, stop⟩ := hJ i ρ' k' H st' e'.w at'.sim hsrc
    by_cases hlt : i < p.1.length
    · refine .inr ?_
      obtain ⟨go, yld⟩ := item _ (List.getElem?_eq_getElem hlt)
      have hdrop : p.1.drop i = p.1[i] :: p.1.drop (i + 1) := List.drop_eq_getElem_cons hlt
      rw [hdrop] at hrun
      simp only [forL] at hrun
      refine ⟨go, fun τ H => ∃ ρ' k' st' σ', Ext ρ1 k1 H1 ρ' k' H ∧ At X.K X.w ρ' k' H st' σ' τ ∧ (∀ n ∈ p.2, st'[n]? = st1[n]?) ∧
        OutR X.K X.w ρ' k' H (forL p.2 (fun d σ st => (assign Φ cur σ t d st).out σ fun σ st => execs Φ Wf cur b σ st) (p.1.drop (i + 1)) σ' st') D W,
        fun τ2 H2 ⟨ρ2, k2, st2, σ2, a, b, c, d⟩ => ⟨p.1.length - (i + 1), by omega, ρ2, k2, st2, σ2, rfl, hlt, a, b, c, d⟩, fun x H2 hy => ?_⟩
      obtain ⟨e2, s2, rx⟩ := yld x H2 hy
      refine ⟨ρ', k', st', σ', p.1[i], ⟨s2, at'.env.mono e2⟩, rx, ?_⟩
      cases ea : assign Φ cur σ' t p.1[i] st' with
      | stuck => rw [ea] at hrun; exact hrun.elim
      | exn y st3 =>
        rw [ea] at hrun
        exact fun ρ3 k3 H3 c d e3 s3 q => hrun ρ3 k3 H3 τ c d (e2.trans e3) ⟨s3, (at'.env.mono e2).mono e3⟩ q
      | ok σ3 st3 =>
        rw [ea] at hrun
        simp only [Res.out_ok] at hrun
        intro ρ3 k3 H3 e3 s3 τ3 env3 _
        refine ⟨ρ3, k3, st3, σ3, ⟨s3, env3⟩, ?_⟩
        have e13 := (e'.trans e2).trans e3
        show OutR X.K X.w ρ3 k3 H3 (execs Φ Wf cur b σ3 st3) _ W
        cases eb : execs Φ Wf cur b σ3 st3 with
        | nx σ4 st4 =>
          rw [eb] at hrun
          dsimp only at hrun
          split at hrun
          · rename_i hs4
            intro ρ4 k4 H4 τ4 e4 a4
            refine ⟨ρ4, k4, st4, σ4, e13.trans e4, a4, fun n hn => ?_, OutR.ext hrun ((e2.trans e3).trans e4)⟩
            have := List.all_eq_true.mp hs4 n hn
            exact (by simpa using this : st4[n]? = st'[n]?).trans (hsrc n hn)
          · exact hrun.elim
        | ct σ4 st4 =>
          rw [eb] at hrun
          dsimp only at hrun
          split at hrun
          · rename_i hs4
            intro ρ4 k4 H4 τ4 e4 a4
            refine ⟨ρ4, k4, st4, σ4, e13.trans e4, a4, fun n hn => ?_, OutR.ext hrun ((e2.trans e3).trans e4)⟩
            have := List.all_eq_true.mp hs4 n hn
            exact (by simpa using this : st4[n]? = st'[n]?).trans (hsrc n hn)
          · exact hrun.elim
        | bk σ4 st4 => rw [eb] at hrun; exact OutR.ext (o := .nx σ4 st4) hrun (e2.trans e3)
        | rt d st4 => rw [eb] at hrun; exact OutR.ext (o := .rt d st4) hrun (e2.trans e3)
        | ex x σ4 st4 => rw [eb] at hrun; exact OutR.ext (o := .ex x σ4 st4) hrun (e2.trans e3)
        | stuck => rw [eb] at hrun; exact hrun.elim
    · have e : p.1.drop i = [] := List.drop_eq_nil_of_le (by omega)
      refine .inl ⟨stop (by omega), ?_⟩
      rw [e] at hrun
      simp only [forL] at hrun
      exact hrun ρ' k' H τ Ext.refl at'
/-! ### assignments -/
/-- the end of an assignment -/
theorem asg_end {t : T} {K : PySem.W.Frag} {w : World} {ρ : Lc} {k : Nat} {H : Hp} {st : Store} {σ : Env} {τ : St} {D : Ends} {d : PV.D} {v : V} (at_ : At K w ρ k H st σ τ) (rv : RV K w ρ k H d v) (run : OutR K w ρ k H ((assign Φ cur σ t d st).out σ fun σ st => .nx σ st) D W) :
    tG K w Φ cur W t v τ H D.nx := by
  refine ⟨ρ, k, st, σ, d, at_, rv, ?_⟩
  cases ea : assign Φ cur σ t d st with
  | stuck => rw [ea] at run; exact run
  | exn y st3 => rw [ea] at run; exact fun ρ3 k3 H3 c d e3 s3 q => run ρ3 k3 H3 τ c d e3 (at_.step e3 s3) q
  | ok σ3 st3 => rw [ea] at run; exact fun ρ3 k3 H3 e3 s3 τ3 env3 _ => run ρ3 k3 H3 τ3 e3 ⟨s3, env3⟩
theorem ss_asg {t : T} (he : SE X Φ cur W pe e) (hg : ST X Φ cur W ptg t) (h1 : swapsWithSole [ptg] pe pos.line X.env = pure false) (h2 : swappedStores [ptg] pe X.env = pure none) (h3 : notStar ptg = true) : SS X Φ Wf cur W (.Assign [ptg] pe pos) (.asg t e) :=
  ps_w (ps_asg he hg h1 h2 (by rw [asg_one h3]; rfl)) fun D τ H ⟨ρ, k, st, σ, at_, run⟩ => by
    simp only [exec] at run
    exact ⟨ρ, k, st, σ, at_, run.seq at_ fun x ρ1 k1 H1 st1 _ e1 a1 run1 v rv => asg_end a1 rv run1⟩
end
end PV
set_option Elab.async false
set_option linter.all false
set_option maxRecDepth 100000
set_option maxHeartbeats 4000000
/-! PvDef: a def's end: what is given out, what is forgotten; the rule of a def. -/
namespace PV
open PySem L2
section
variable {K : PySem.W.Frag} {w : World} {ρ ρ' : Lc} {k k' : Nat} {H H' : Hp} {st st' : Store}
theorem Off.fewer {a : Addr} (h : Off ρ k' a) (le : k ≤ k') : Off ρ k a := ⟨h.1, fun n hn => h.2 n (Nat.lt_of_lt_of_le hn le)⟩
/-- fewer live things, the refs gone -/
theorem shrinkK (le : k ≤ k') : ∀ n, n < k → n < k' ∧ ρ n = ρ n := fun n h => ⟨Nat.lt_of_lt_of_le h le, rfl⟩
mutual
theorem fzD_rel (le : k ≤ k') {g : Nat → D} (hg : ∀ n a, n < k' → ρ n = some a → refsD k (g n) = true → RV K w ρ k H (g n) (.ref a)) : ∀ {d : D} {v : V}, RV K w ρ k' H d v → refsD k (fzD g d) = true → RV K w ρ k H (fzD g d) v
  | .non, _, h, _ => by simpa only [fzD, RV] using h
  | .bl _, _, h, _ => by simpa only [fzD, RV] using h
  | .int _, _, h, _ => by simpa only [fzD, RV] using h
  | .str _, _, h, _ => by simpa only [fzD, RV] using h
  | .scr ns, _, h, _ => by
    simp only [fzD, RV] at h ⊢
    obtain ⟨a, rfl, ⟨o, h1, f⟩ | h1⟩ := h
    · exact ⟨a, rfl, .inl ⟨o, h1, f.fewer le⟩⟩
    · exact ⟨a, rfl, .inr h1⟩
  | .frd kvs, _, h, r => by
    simp only [fzD] at r ⊢
    exact RV.shrink (shrinkK le) rfl r h
  | .tup xs, _, h, r => by
    simp only [fzD, RV, refsD] at h r ⊢
    obtain ⟨a, ys, rfl, h1, h2⟩ := h
    refine ⟨a, ys, rfl, ?_, fzDs_rel le hg h2 r⟩
    rcases h1 with ⟨h1, f⟩ | h1
    · exact .inl ⟨h1, f.fewer le⟩
    · exact .inr h1
  | .frz xs, _, h, r => by
    simp only [fzD, RV, refsD] at h r ⊢
    obtain ⟨a, ys, rfl, h1, f, h2⟩ := h
    exact ⟨a, ys, rfl, h1, f.fewer le, fzDs_rel le hg h2 r⟩
  | .ref n, _, h, r => by
    simp only [fzD, RV] at h r ⊢
    obtain ⟨a, rfl, h1, h2⟩ := h
    exact hg n a h1 h2 r
theorem fzDs_rel (le : k ≤ k') {g : Nat → D} (hg : ∀ n a, n < k' → ρ n = some a → refsD k (g n) = true → RV K w ρ k H (g n) (.ref a)) : ∀ {ds : List D} {vs : List V}, RVs K w ρ k' H ds vs → refsL k (fzDs g ds) = true → RVs K w ρ k H (fzDs g ds) vs
  | [], _, h, _ => by simpa only [fzDs, RVs] using h
  | d :: ds, _, h, r => by
    simp only [fzDs, RVs, refsL, Bool.and_eq_true] at h r ⊢
    obtain ⟨v, u, rfl, h1, h2⟩ := h
    exact ⟨v, u, rfl, fzD_rel le hg h1 r.1, fzDs_rel le hg h2 r.2⟩
end
theorem fzKs_rel (le : k ≤ k') {g : Nat → D} (hg : ∀ n a, n < k' → ρ n = some a → refsD k (g n) = true → RV K w ρ k H (g n) (.ref a)) : ∀ {kvs : List (D × D)} {ws : List (Key × V)}, RDs K w ρ k' H kvs ws → refsK k (fzKs g kvs) = true →
    ∃ us, RKs K w ρ k H (fzKs g kvs) us ∧ ws.map (fun p => (some p.1, p.2)) = us.map (fun p => (keyD p.1, p.2))
  | [], _, h, _ => by
    simp only [RDs] at h
    subst h
    exact ⟨[], by simp only [fzKs, RKs], rfl⟩
  | (q, d) :: r, _, h, z => by
    simp only [RDs, fzKs, refsK, Bool.and_eq_true] at h z ⊢
    obtain ⟨key, v, ws, rfl, hq, h1, h2⟩ := h
    obtain ⟨us, e1, e2⟩ := fzKs_rel le hg h2 z.2
    refine ⟨(q, v) :: us, ?_, ?_⟩
    · simp only [RKs]
      exact ⟨v, us, rfl, fzD_rel le hg h1 z.1, e1⟩
    · simp only [List.map_cons, e2, hq]
/-- a thing made behind k is not hidden, not among the first k -/
theorem own_off (s0 : Sim K w ρ k H st) (e : Ext ρ k H ρ' k' H') (s : Sim K w ρ' k' H' st') {n : Nat} {a : Addr} (h1 : k ≤ n) (h2 : n < k') (ha : ρ' n = some a) : Off ρ' k a := by
  refine ⟨fun z => ?_, fun m hm z => ?_⟩
  · rw [e.hid] at z
    obtain ⟨o, ho⟩ := s0.hidS a z
    rw [e.new n a h1 h2 ha] at ho
    cases ho
  · have := s.inj m n a (Nat.lt_of_lt_of_le hm e.le) h2 z ha
    omega
theorem fz_rel (s0 : Sim K w ρ k H st) (e : Ext ρ k H ρ' k' H') (s : Sim K w ρ' k' H' st') : ∀ (f : Nat) {d : D} {v : V}, RV K w ρ' k' H' d v → refsD k (fz k st' f d) = true → RV K w ρ' k H' (fz k st' f d) v
  | 0, d, v, h, r => RV.shrink (shrinkK e.le) rfl r h
  | f + 1, d, v, h, r => by
    refine fzD_rel e.le (fun n a hn ha r => ?_) h r
    by_cases hk : k ≤ n
    · simp only [hk, if_true] at r ⊢
      split at r
      · rename_i xs hx
        obtain ⟨b, h1, h2⟩ := s.at_ n _ hx
        rw [ha] at h1
        cases h1
        obtain ⟨ys, h3, h4⟩ := h2
        simp only [refsD] at r
        have r' : refsL k (fzDs (fun n => fz k st' f (.ref n)) xs) = true := r
        simp only [RV]
        refine ⟨a, ys, rfl, h3, own_off s0 e s hk hn ha, fzDs_rel e.le (fun m b hm hb q => ?_) h4 r'⟩
        exact fz_rel s0 e s f (by simp only [RV]; exact ⟨b, rfl, hm, hb⟩) q
      · rename_i kvs hx
        obtain ⟨b, h1, h2⟩ := s.at_ n _ hx
        rw [ha] at h1
        cases h1
        obtain ⟨ys, h3, h4⟩ := h2
        simp only [refsD] at r
        obtain ⟨us, q1, q2⟩ := fzKs_rel e.le (fun m b hm hb q => fz_rel s0 e s f (by simp only [RV]; exact ⟨b, rfl, hm, hb⟩) q) h4 r
        simp only [RV]
        exact ⟨a, us, rfl, .inl ⟨ys, h3, own_off s0 e s hk hn ha, q2⟩, q1⟩
      · simp only [refsD, decide_eq_true_eq] at r
        omega
    · simp only [hk, if_false] at r ⊢
      simp only [RV]
      exact ⟨a, rfl, by omega, ha⟩
theorem oldOK_at {j : Nat} : ∀ {s s' : Store} {n : Nat} {o' : SO}, oldOK j s s' = true → s'[n]? = some o' → n < s.length → (∃ o, s[n]? = some o ∧ o' = o) ∨ refsO j o' = true
  | [], _, n, _, _, _, hn => by simp at hn
  | o :: s, [], n, _, h, _, _ => by simp [oldOK] at h
  | o :: s, u :: s', 0, o', h, e, _ => by
    simp only [oldOK, Bool.and_eq_true, Bool.or_eq_true, decide_eq_true_eq] at h
    simp at e
    subst e
    rcases h.1 with h | h
    · exact .inl ⟨o, rfl, h⟩
    · exact .inr h
  | o :: s, u :: s', n + 1, o', h, e, hn => by
    simp only [oldOK, Bool.and_eq_true] at h
    have := oldOK_at (n := n) h.2 (by simpa using e) (by simpa using hn)
    simpa using this
theorem oldOK_len {j : Nat} : ∀ {s s' : Store}, oldOK j s s' = true → s.length ≤ s'.length
  | [], _, _ => Nat.zero_le _
  | o :: s, [], h => by simp [oldOK] at h
  | o :: s, u :: s', h => by
    simp only [oldOK, Bool.and_eq_true] at h
    exact Nat.succ_le_succ (oldOK_len h.2)
/-- the def's own things are forgotten -/
theorem Sim.forget (s0 : Sim K w ρ k H st) (e : Ext ρ k H ρ' k' H') (s : Sim K w ρ' k' H' st') (h : oldOK k st st' = true) : Ext ρ k H ρ' k H' ∧ Sim K w ρ' k H' (st'.take k) := by
  refine ⟨⟨e.hid, Nat.le_refl _, e.same, e.keep, fun n a h1 h2 _ => absurd h2 (Nat.not_lt.mpr h1), e.there⟩, ⟨?_, fun n o hn => ?_, fun m n a h1 h2 => s.inj m n a (Nat.lt_of_lt_of_le h1 e.le) (Nat.lt_of_lt_of_le h2 e.le), s.hidS⟩⟩
  · rw [List.length_take, s.len]
    exact Nat.min_eq_left e.le
  · have hlt : n < k := by
      have := (List.getElem?_eq_some_iff.mp hn).1
      rw [List.length_take] at this
      omega
    rw [List.getElem?_take_of_lt hlt] at hn
    obtain ⟨a, h1, h2⟩ := s.at_ n o hn
    refine ⟨a, h1, h2.shrink (shrinkK e.le) rfl ?_⟩
    rcases oldOK_at h hn (by rw [s0.len]; exact hlt) with ⟨o0, h3, rfl⟩ | h3
    · obtain ⟨b, _, h5⟩ := s0.at_ n _ h3
      exact h5.refs
    · exact h3
/-- what a def gives out -/
theorem gc_rel {frz : Bool} {d : D} {v : V} (s0 : Sim K w ρ k H st) (e : Ext ρ k H ρ' k' H') (s : Sim K w ρ' k' H' st') (r : RV K w ρ' k' H' d v) :
    ∃ k2, Ext ρ k H ρ' k2 H' ∧ Sim K w ρ' k2 H' (gc frz st st' d).2 ∧ RV K w ρ' k2 H' (gc frz st st' d).1 v ∧ k2 ≤ k' := by
  have e0 : gc frz st st' d = if refsD k (if frz then fz k st' 4 d else d) && oldOK k st st' then (if frz then fz k st' 4 d else d, st'.take k) else (d, st') := by
    unfold gc
    rw [s0.len]
  rw [e0]
  by_cases h : (refsD k (if frz then fz k st' 4 d else d) && oldOK k st st') = true
  · rw [if_pos h]
    simp only [Bool.and_eq_true] at h
    obtain ⟨e2, s2⟩ := s0.forget e s h.2
    refine ⟨k, e2, s2, ?_, e.le⟩
    cases frz with
    | true => exact fz_rel s0 e s 4 r h.1
    | false => exact RV.shrink (shrinkK e.le) rfl h.1 r
  · rw [if_neg h]
    exact ⟨k', e, s, r, Nat.le_refl _⟩
theorem finish_out {frz : Bool} {o : Out} {Q : VK} {E : XK} (s0 : Sim K w ρ k H st) (run : Run K w ρ k H (finish frz st o) (fun d ρ' k' H' _ => ∀ v, RV K w ρ' k' H' d v → Q v H') E) :
    OutR K w ρ k H o { nx := fun _ H' => Q .non H', rt := Q } (fun c d _ H' => E c d H') := by
  cases o with
  | nx σ st1 =>
    intro ρ' k' H' τ' e a
    obtain ⟨k2, e2, s2, r2, _⟩ := gc_rel (frz := frz) (d := .non) (v := .non) s0 e a.sim (by simp only [RV])
    exact run ρ' k2 H' e2 s2 _ r2
  | rt d st1 =>
    intro ρ' k' H' v e s r
    obtain ⟨k2, e2, s2, r2, _⟩ := gc_rel (frz := frz) s0 e s r
    exact run ρ' k2 H' e2 s2 _ r2
  | ex x σ st1 =>
    intro ρ' k' H' τ' c d e a q
    obtain ⟨q1, q2⟩ := q
    by_cases hf : x.fld = ""
    · obtain ⟨k2, e2, s2, _, _⟩ := gc_rel (frz := frz) (d := .non) (v := .non) s0 e a.sim (by simp only [RV])
      simp only [finish, hf, if_true] at run
      exact run ρ' k2 H' c d e2 s2 ⟨q1, .inl rfl⟩
    · simp only [finish, hf, if_false] at run
      rcases q2 with q2 | ⟨dd, fs, v, h1, h2, h3, h4, h5⟩
      · exact absurd q2 hf
      · obtain ⟨k2, e2, s2, r2, le⟩ := gc_rel (frz := frz) s0 e a.sim h5
        exact run ρ' k2 H' c d e2 s2 ⟨q1, .inr ⟨dd, fs, v, h1, h2, h3.fewer le, h4, r2⟩⟩
  | bk σ st1 => exact run.elim
  | ct σ st1 => exact run.elim
  | stuck => exact run.elim
end
end PV
set_option Elab.async false
set_option linter.all false
set_option maxRecDepth 100000
set_option maxHeartbeats 4000000
/-! PvCall: contracts of defs; calls. -/
namespace PV
open PySem PySem.Spec PyProof.Rows L2
/-- room for a call, nothing being written out -/
structure RoomG (k : Nat) (A : Around) : Prop where
  r : Room k A
  g : A.guards = some []
theorem RoomG.mono {j k : Nat} {A : Around} (r : RoomG k A) (h : j ≤ k) : RoomG j A := ⟨r.r.mono h, r.g⟩
theorem RoomG.deeper {k : Nat} {A : Around} (r : RoomG (k + 1) A) (env : PySem.Env) : RoomG k (A.deeper env) := ⟨r.r.deeper env, r.g⟩
theorem RoomG.make {k : Nat} {A : Around} (r : RoomG (k + 1) A) (C : Addr) (us : List Value) (kw : List (Str × Value)) : RoomG k (A.under (.builtin "type.__call__" ⟨.ref C :: us, kw⟩)) :=
  ⟨r.r.make C us kw, by
    show pushGuards (Code.guards (.builtin "type.__call__" ⟨.ref C :: us, kw⟩)) A.guards = _
    rw [r.g]
    first | rfl | simp [pushGuards, Code.guards, Code.isGuard, guardIds]⟩
section
variable (P : Program) (w : World) (K : PySem.W.Frag) (mg : Str → Option Value) (base : Heap)
/-- a def's contract -/
structure Ctr (k : Nat) (f : Addr) (fd : FuncData) (ps : List Str) (sp : Sp) : Prop where
  run : ∀ (A : Around) (outer : List PySem.Env) (s : Shared) (H : Hp) (args : Args) (us : List Value) (vs : List V) (Q : VK) (E : XK), RoomG k A → Env0 P w K mg base A outer s H → BindsTo s fd args (ps.zip us) → Vals vs us →
    vs.length = ps.length → sp vs H Q E → codeAny (model P w) A (.call (.ref f) args) (CR (L2.CX P w) outer P w H s Q E) s
end
/-- a def's promise: what the evaluator finds -/
def spF (K : PySem.W.Frag) (w : World) (r : List D → Store → Res D) : Sp := fun vs H Q E => ∃ ρ k st ds, Sim K w ρ k H st ∧ RVs K w ρ k H ds vs ∧ Run K w ρ k H (r ds st) (fun d ρ' k' H' _ => ∀ v, RV K w ρ' k' H' d v → Q v H') E
section
variable {P : Program} {w : World} {K : PySem.W.Frag} {mg : Str → Option Value} {base : Heap}
theorem Ctr.mono {j k : Nat} {f : Addr} {fd : FuncData} {ps : List Str} {sp : Sp} (F : Ctr P w K mg base j f fd ps sp) (h : j ≤ k) : Ctr P w K mg base k f fd ps sp :=
  ⟨fun A outer s H args us vs Q E hr => F.run A outer s H args us vs Q E (hr.mono h)⟩
theorem start_rel {ρ : Lc} {k : Nat} {H : Hp} {ds : List D} {vs : List V} {N : List Str} (r : RVs K w ρ k H ds vs) (hl : vs.length ≤ N.length) : EnvR K w ρ k H (startE N.length ds) (L2.start N vs) := by
  have e := r.length
  refine ⟨?_, fun i d h => ?_⟩
  · unfold startE L2.start
    simp only [List.length_append, List.length_map, List.length_replicate]
    omega
  · unfold startE at h
    have hi : i < ds.length := by
      by_cases hi : i < ds.length
      · exact hi
      · rw [List.getElem?_append_right (by simpa using hi), List.getElem?_replicate] at h
        split at h <;> cases h
    rw [List.getElem?_append_left (by simpa using hi), List.getElem?_map] at h
    cases q : ds[i]? with
    | none => rw [q] at h; cases h
    | some d' =>
      rw [q] at h
      simp only [Option.map_some, Option.some.injEq] at h
      subst h
      obtain ⟨v, h1, h2⟩ := r.get q
      refine ⟨v, ?_, h2⟩
      unfold L2.start
      rw [List.getElem?_append_left (by simpa using by omega), List.getElem?_map, h1]
      rfl
/-- a def, by its body -/
theorem ctr_of {Φ : Prog} {Wf lv : Nat} {f : Addr} {name qual : Str} {params : Arguments} {body : List Stmt} {scope : Scope} {dV kV doc pm cdv ct oc : Value} {an od : Option Addr}
    {osl : Array (Option Value)} {N ps : List Str} {fn : Fn} (lk : K.lookup f = some ⟨oc, od, .func (PySem.W.fnOf name qual params body scope dV kV doc pm an cdv ct), osl⟩) (hcd : PySem.W.codeIn K cdv qual = true) (S : FnScope N ps scope) (hN : fn.slots = N.length)
    (hbody : ∀ (A : Around) (outer : List PySem.Env) (s : Shared) (H : Hp) (E : XK), RoomG lv (A.deeper (envOfC qual scope s.heap.objs.size f cdv)) →
      SSs (cxOf (L2.CX P w) P w K mg base N qual scope f cdv A outer s H E) Φ Wf none (fun c d _ H' => E c d H') body fn.body) :
    Ctr P w K mg base (lv + 1) f (PySem.W.fnOf name qual params body scope dV kV doc pm an cdv ct) ps (spF K w (bodyR Φ Wf fn)) := by
  refine ⟨fun A outer s H args us vs Q E hr e0 hb r hl hsp => ?_⟩
  have KX : K.In s.heap := e0.mod.kin.keeps fun b o e => (e0.bs b o e).1
  have lim : s.heap.NoLimit := e0.mod.nolimit.keeps fun b o e => (e0.bs b o e).1
  have hkind : ∀ y ∈ ps.zip us, scope.names.lookup y.1 = some .local ∨ (scope.names.lookup y.1 = some .cell ∧ ((cellsFrom (s.heap.objs.size + 1) scope.names []).lookup y.1).isSome = true) := fun ⟨n, v⟩ hy => by
    rcases S.par n (List.of_mem_zip hy).1 with q | q
    · exact .inl q
    · exact .inr ⟨q, PySem.W.cellsFrom_some _ _ _ (.inl q)⟩
  refine codeAny_call_function hr.r.depth (KX _ _ lk) rfl S.co S.gen rfl (PySem.W.codeRec_of KX hcd) (hb _ _ _ _ ?_)
  refine wpAny_newFunctionEnv_cells S.kind hkind fun env he s1 x => ?_
  subst he
  refine ⟨lim.keeps x.toInCall.keep, codeAny_func ?_⟩
  have ht := hbody A outer s H E (hr.deeper _)
  have I : Inv (cxOf (L2.CX P w) P w K mg base N qual scope f cdv A outer s H E) [] (L2.start N vs) H s1 := inv_start S hr.r.hd e0 hl r x
  obtain ⟨ρ, k, st, ds, sim, rds, run⟩ := hsp
  have hpl : ps.length ≤ N.length := by have := congrArg List.length S.pre; rw [List.length_take] at this; omega
  have env : EnvR K w ρ k H (startE fn.slots ds) (L2.start N vs) := by rw [hN]; exact start_rel rds (by omega)
  have run' : OutR K w ρ k H (execs Φ Wf none fn.body (startE fn.slots ds) st) { nx := fun _ H' => Q .non H', rt := Q } (fun c d _ H' => E c d H') := finish_out sim run
  refine wpAny_mono (ht.run [] s1 (L2.start N vs) H { nx := fun _ H' => Q .non H', rt := Q } I ⟨ρ, k, st, _, ⟨sim, env⟩, run'⟩) (fun fl s' hs => ?_) fun e s' hs => hs
  have fin : ∀ {σ' : L2.St} {H' : Hp} {v : V} {u : Value}, Inv (cxOf (L2.CX P w) P w K mg base N qual scope f cdv A outer s H E) [] σ' H' s' → RelV v u → Q v H' → CE outer P w H s Q u s' :=
    fun {σ' H' v u} J rv q => ⟨v, H', J.os, J.bare, J.base, J.hok, rv, q⟩
  cases fl with
  | ret u =>
    obtain ⟨v, σ', H', J, rv, q⟩ := hs
    exact fin J rv q
  | next =>
    obtain ⟨σ', H', J, q⟩ := hs
    exact fin (v := V.non) (u := Value.none) J rfl q
  | brk =>
    obtain ⟨_, _, _, q⟩ := hs
    exact False.elim q
  | cont =>
    obtain ⟨_, _, _, q⟩ := hs
    exact False.elim q
end
/-! ### binding -/
def AllR {α β : Type} (R : α → β → Prop) : List α → List β → Prop
  | [], [] => True
  | a :: as, b :: bs => R a b ∧ AllR R as bs
  | _, _ => False
theorem AllR.len {α β : Type} {R : α → β → Prop} : ∀ {as : List α} {bs : List β}, AllR R as bs → as.length = bs.length
  | [], [], _ => rfl
  | _ :: _, _ :: _, h => congrArg (· + 1) (AllR.len h.2)
  | [], _ :: _, h => h.elim
  | _ :: _, [], h => h.elim
abbrev KwR {α β : Type} (R : α → β → Prop) : List (String × α) → List (String × β) → Prop := AllR fun p q => p.1 = q.1 ∧ R p.2 q.2
theorem KwR.look {α β : Type} {R : α → β → Prop} {x : String} : ∀ {as : List (String × α)} {bs : List (String × β)}, KwR R as bs → (match as.lookup x with
    | some a => ∃ b, bs.lookup x = some b ∧ R a b
    | none => bs.lookup x = none)
  | [], [], _ => rfl
  | (n, a) :: as, (m, b) :: bs, h => by
    obtain ⟨⟨h1, h2⟩, h3⟩ := h
    dsimp only at h1 h2
    subst h1
    by_cases e : x = n
    · subst e
      simp only [List.lookup_cons_self]
      exact ⟨b, rfl, h2⟩
    · have e' : (x == n) = false := beq_eq_false_iff_ne.mpr e
      simp only [List.lookup, e']
      exact KwR.look h3
  | [], _ :: _, h => h.elim
  | _ :: _, [], h => h.elim
theorem bindP_rel {α β : Type} {R : α → β → Prop} {ks : List (String × α)} {ws : List (String × β)} {df : List (String × α)} {dfV : List (String × β)} (hk : KwR R ks ws) (hd : KwR R df dfV) : ∀ {ps : List String} {xs : List α} {us : List β} {zs : List α},
    AllR R xs us → bindP ps xs ks df = some zs → ∃ vs, bindP ps us ws dfV = some vs ∧ AllR R zs vs
  | [], [], [], zs, _, h => by
    simp only [bindP, Option.some.injEq] at h
    subst h
    exact ⟨[], rfl, trivial⟩
  | [], _ :: _, [], _, h, _ => h.elim
  | [], [], _ :: _, _, h, _ => h.elim
  | [], _ :: _, _ :: _, _, _, h => by simp [bindP] at h
  | p :: ps, x :: xs, u :: us, zs, r, h => by
    simp only [bindP, Option.map_eq_some_iff] at h
    obtain ⟨zs', h1, rfl⟩ := h
    obtain ⟨vs, h2, h3⟩ := bindP_rel hk hd r.2 h1
    exact ⟨u :: vs, by simp only [bindP, h2, Option.map_some], r.1, h3⟩
  | p :: ps, [], [], zs, r, h => by
    simp only [bindP] at h
    have l1 := hk.look (x := p)
    have l2 := hd.look (x := p)
    cases e1 : ks.lookup p with
    | some a =>
      rw [e1] at l1 h
      obtain ⟨b, q1, q2⟩ := l1
      simp only [Option.some_or, Option.map_eq_some_iff] at h
      obtain ⟨zs', h1, rfl⟩ := h
      obtain ⟨vs, h2, h3⟩ := bindP_rel (ps := ps) (xs := []) (us := []) hk hd trivial h1
      exact ⟨b :: vs, by simp only [bindP, q1, Option.some_or, h2, Option.map_some], q2, h3⟩
    | none =>
      rw [e1] at l1 h
      dsimp only at l1
      simp only [Option.none_or] at h
      cases e2 : df.lookup p with
      | none => rw [e2] at h; cases h
      | some a =>
        rw [e2] at l2 h
        obtain ⟨b, q1, q2⟩ := l2
        simp only [Option.map_eq_some_iff] at h
        obtain ⟨zs', h1, rfl⟩ := h
        obtain ⟨vs, h2, h3⟩ := bindP_rel (ps := ps) (xs := []) (us := []) hk hd trivial h1
        exact ⟨b :: vs, by simp only [bindP, l1, Option.none_or, q1, h2, Option.map_some], q2, h3⟩
  | _ :: _, [], _ :: _, _, h, _ => h.elim
  | _ :: _, _ :: _, [], _, h, _ => h.elim
theorem bindP_len {α : Type} {ks df : List (String × α)} : ∀ {ps : List String} {xs zs : List α}, bindP ps xs ks df = some zs → zs.length = ps.length
  | [], [], zs, h => by
    simp only [bindP, Option.some.injEq] at h
    subst h
    rfl
  | [], _ :: _, _, h => by simp [bindP] at h
  | p :: ps, x :: xs, zs, h => by
    simp only [bindP, Option.map_eq_some_iff] at h
    obtain ⟨zs', h1, rfl⟩ := h
    exact congrArg (· + 1) (bindP_len h1)
  | p :: ps, [], zs, h => by
    simp only [bindP] at h
    split at h
    · simp only [Option.map_eq_some_iff] at h
      obtain ⟨zs', h1, rfl⟩ := h
      exact congrArg (· + 1) (bindP_len h1)
    · cases h
end PV
set_option Elab.async false
set_option linter.all false
set_option maxRecDepth 100000
set_option maxHeartbeats 4000000
/-! PvCall2: calls. -/
namespace PV
open PySem PySem.Spec PyProof.Rows L2
/-- data as a value -/
def RU (K : PySem.W.Frag) (w : World) (ρ : Lc) (k : Nat) (H : Hp) (d : D) (u : Value) : Prop := ∃ v, RV K w ρ k H d v ∧ RelV v u
/-- a call's promise -/
def spC (K : PySem.W.Frag) (w : World) (call : List D → List (String × D) → Store → Res D) (ps : List String) (df : List (String × D)) : Sp := fun vs H Q E =>
  ∃ ρ k st xs ks ds, Sim K w ρ k H st ∧ bindP ps xs ks df = some ds ∧ RVs K w ρ k H ds vs ∧ Run K w ρ k H (call xs ks st) (fun d ρ' k' H' _ => ∀ v, RV K w ρ' k' H' d v → Q v H') E
/-- n positional values, keywords named ks -/
structure BindF (K : PySem.W.Frag) (fd : FuncData) (ps : List String) (dfV : List (String × Value)) (n : Nat) (ks : List String) : Prop where
  to : ∀ (s : Shared) (us ws zs : List Value), K.In s.heap → us.length = n → ws.length = ks.length → bindP ps us (ks.zip ws) dfV = some zs → BindsTo s fd ⟨us, (ks.map Str.ofString).zip ws⟩ ((ps.map Str.ofString).zip zs)
/-- what is known of a def -/
structure FnC (P : Program) (w : World) (K : PySem.W.Frag) (mg : Str → Option Value) (base : Heap) (k : Nat) (call : List D → List (String × D) → Store → Res D) (a : Addr) (shapes : List (Nat × List String)) : Prop where
  ex : ∃ fd ps df dfV, Ctr P w K mg base k a fd (ps.map Str.ofString) (spC K w call ps df) ∧ (∀ ρ k H, KwR (RU K w ρ k H) df dfV) ∧ (∀ n ks, (n, ks) ∈ shapes → BindF K fd ps dfV n ks) ∧
    ∀ xs ks st, call xs ks st ≠ .stuck → ∃ ds, bindP ps xs ks df = some ds
  kp : PySem.W.keepIn K (.ref a) = true
section
variable {K : PySem.W.Frag} {w : World} {ρ : Lc} {k : Nat} {H : Hp}
theorem allR_of : ∀ {ds : List D} {vs : List V} {us : List Value}, RVs K w ρ k H ds vs → Vals vs us → AllR (RU K w ρ k H) ds us
  | [], _, us, h, r => by
    simp only [RVs] at h
    subst h
    cases r
    trivial
  | d :: ds, _, us, h, r => by
    simp only [RVs] at h
    obtain ⟨v, vs, rfl, h1, h2⟩ := h
    cases r with
    | cons r1 r2 => exact ⟨⟨v, h1, r1⟩, allR_of h2 r2⟩
theorem AllR.vals : ∀ {ds : List D} {us : List Value}, AllR (RU K w ρ k H) ds us → ∃ vs, RVs K w ρ k H ds vs ∧ Vals vs us
  | [], [], _ => ⟨[], by simp only [RVs], .nil⟩
  | d :: ds, u :: us, h => by
    obtain ⟨⟨v, h1, h2⟩, h3⟩ := h
    obtain ⟨vs, h4, h5⟩ := AllR.vals h3
    exact ⟨v :: vs, by simp only [RVs]; exact ⟨v, vs, rfl, h1, h4⟩, .cons h2 h5⟩
  | [], _ :: _, h => h.elim
  | _ :: _, [], h => h.elim
theorem kwR_of : ∀ {kx : List (String × D)} {us : List Value}, AllR (RU K w ρ k H) (kx.map (·.2)) us → KwR (RU K w ρ k H) kx ((kx.map (·.1)).zip us)
  | [], [], _ => trivial
  | (n, d) :: kx, u :: us, h => ⟨⟨rfl, h.1⟩, kwR_of h.2⟩
  | [], _ :: _, h => h.elim
  | _ :: _, [], h => h.elim
end
section
variable {X : Cx} {Φ : Prog} {cur : Option Exn} {W : WX}
/-- the callee runs -/
theorem run_ctr {P : Program} {w : World} {K : PySem.W.Frag} {mg : Str → Option Value} {base : Heap} {n : Nat} {call : List D → List (String × D) → Store → Res D} {a : Addr} {shapes : List (Nat × List String)} (F : FnC P w K mg base n call a shapes)
    {A : Around} {outer : List PySem.Env} (hr : RoomG n A) {H : Hp} {s : Shared} {Q : VK} {E : XK} {us ws : List Value} {xs : List D} {kx : List (String × D)} {ρ : Lc} {k : Nat} {st : Store} (e0 : Env0 P w K mg base A outer s H) (kin : K.In s.heap) (sim : Sim K w ρ k H st)
    (rx : AllR (RU K w ρ k H) xs us) (rk : AllR (RU K w ρ k H) (kx.map (·.2)) ws) (hsh : (us.length, kx.map (·.1)) ∈ shapes)
    (run : Run K w ρ k H (call xs kx st) (fun d ρ' k' H' _ => ∀ v, RV K w ρ' k' H' d v → Q v H') E) :
    codeAny (model P w) A (.call (.ref a) ⟨us, ((kx.map (·.1)).map Str.ofString).zip ws⟩) (CR (L2.CX P w) outer P w H s Q E) s := by
  obtain ⟨fd, ps, df, dfV, C, hdf, hb, hst⟩ := F.ex
  obtain ⟨ds, hds⟩ := hst xs kx st fun z => by rw [z] at run; exact run
  obtain ⟨zs, hz, rz⟩ := bindP_rel (R := RU K w ρ k H) (kwR_of rk) (hdf ρ k H) rx hds
  obtain ⟨vs, h1, h2⟩ := rz.vals
  have hl : ws.length = (kx.map (·.1)).length := by
    have e := rk.len
    rw [List.length_map] at e ⊢
    exact e.symm
  refine C.run A outer s H ⟨us, _⟩ zs vs Q E hr e0 ((hb _ _ hsh).to s us ws zs kin rfl hl hz) h2 ?_ ⟨ρ, k, st, xs, kx, ds, sim, hds, h1, run⟩
  rw [h2.length, List.length_map]
  exact bindP_len hz
theorem run_call {n : Nat} {call : List D → List (String × D) → Store → Res D} {a : Addr} {shapes : List (Nat × List String)} (F : FnC X.prog X.w X.K X.mg X.base n call a shapes) (hr : RoomG n X.A) (tk : Takes X W)
    {pins : List (Addr × Obj)} {τ : L2.St} {H : Hp} {s : Shared} {Q : VK} {us ws : List Value} {xs : List D} {kx : List (String × D)} {ρ : Lc} {k : Nat} {st : Store} (I : Inv X pins τ H s) (sim : Sim X.K X.w ρ k H st)
    (rx : AllR (RU X.K X.w ρ k H) xs us) (rk : AllR (RU X.K X.w ρ k H) (kx.map (·.2)) ws) (hsh : (us.length, kx.map (·.1)) ∈ shapes)
    (run : Run X.K X.w ρ k H (call xs kx st) (fun d ρ' k' H' _ => ∀ v, RV X.K X.w ρ' k' H' d v → Q v H') (fun c d H' => W c d τ H')) :
    wpAny (model X.prog X.w) X.A (PySem.call (.ref a) us (((kx.map (·.1)).map Str.ofString).zip ws)) (EP X pins τ Q) X.xe s := by
  refine wpAny_call (codeAny_mono (run_ctr (Q := Q) F hr I.env0 I.kIn sim rx rk hsh run) fun r s' hq => ?_)
  cases r with
  | error e => exact tk e s' (XE.of_call I (fun _ _ _ h => h) hq)
  | ok fl =>
    cases fl with
    | ret u => exact I.after hq
    | next => exact False.elim hq
    | brk => exact False.elim hq
    | cont => exact False.elim hq
/-- an instance is made, its __init__ runs -/
theorem run_new {n : Nat} {cl : String} {call : List D → List (String × D) → Store → Res D} {a : Addr} {shapes : List (Nat × List String)} (M : Mk X.K (He.ga X.K (Str.ofString cl)) a) (F : FnC X.prog X.w X.K X.mg X.base n call a shapes) (hr : RoomG (n + 1) X.A) (tk : Takes X W)
    {pins : List (Addr × Obj)} {τ : L2.St} {H : Hp} {s : Shared} {Q : VK} {us ws : List Value} {xs : List D} {kx : List (String × D)} {ρ : Lc} {k : Nat} {st : Store} (I : Inv X pins τ H s) (sim : Sim X.K X.w ρ k H st)
    (rx : AllR (RU X.K X.w ρ k H) xs us) (rk : AllR (RU X.K X.w ρ k H) (kx.map (·.2)) ws) (hsh : (us.length + 1, kx.map (·.1)) ∈ shapes)
    (run : Run X.K X.w ρ k H ((call (.ref st.length :: xs) kx (st ++ [.ins cl []])).bind fun d st' => match d with
        | .non => .ok (.ref st.length) st'
        | _ => .stuck) (fun d ρ' k' H' _ => ∀ v, RV X.K X.w ρ' k' H' d v → Q v H') (fun c d H' => W c d τ H')) :
    wpAny (model X.prog X.w) X.A (PySem.call (.ref (He.ga X.K (Str.ofString cl))) us (((kx.map (·.1)).map Str.ofString).zip ws)) (EP X pins τ Q) X.xe s := by
  have hdx : H s.heap.objs.size = none := I.hok.fresh (Nat.le_refl _)
  have hx : upd H s.heap.objs.size (.own (s.heap.objs.size + 1)) (s.heap.objs.size + 1) = none := by
    rw [upd_ne (Nat.succ_ne_self _)]
    exact I.hok.fresh (Nat.le_succ _)
  have I2 := Inv.made (C := He.ga X.K (Str.ofString cl)) I
  have ext := (Ext.alloc (ρ := ρ) (k := k) (o := .own (s.heap.objs.size + 1)) hdx).trans (Ext.push (o := .ins (He.ga X.K (Str.ofString cl)) s.heap.objs.size []) hx)
  have sim2 := (sim.alloc (o := .own (s.heap.objs.size + 1)) hdx).push (o := .ins (He.ga X.K (Str.ofString cl)) s.heap.objs.size []) (u := .ins cl []) hx ⟨_, [], upd_same, rfl⟩
  have lift : ∀ {ds : List D} {us : List Value}, AllR (RU X.K X.w ρ k H) ds us → AllR (RU X.K X.w (push ρ k (s.heap.objs.size + 1)) (k + 1) (upd (upd H s.heap.objs.size (.own (s.heap.objs.size + 1))) (s.heap.objs.size + 1) (.ins (He.ga X.K (Str.ofString cl)) s.heap.objs.size []))) ds us := fun h => by
    obtain ⟨vs, h1, h2⟩ := h.vals
    exact allR_of (h1.mono ext) h2
  have new : RV X.K X.w (push ρ k (s.heap.objs.size + 1)) (k + 1) (upd (upd H s.heap.objs.size (.own (s.heap.objs.size + 1))) (s.heap.objs.size + 1) (.ins (He.ga X.K (Str.ofString cl)) s.heap.objs.size [])) (.ref st.length) (.ref (s.heap.objs.size + 1)) := by
    simp only [RV]
    exact ⟨_, rfl, by rw [sim.len]; omega, by rw [sim.len]; exact push_new⟩
  have run2 := (run.ext ext).bind
  refine wpAny_call (L2.make_map (f := a) I.kIn M.makes M.init (beq_iff_eq.mp M.fn) (codeAny_mono (run_ctr (Q := fun v H2 => v = .non ∧ Q (.ref (s.heap.objs.size + 1)) H2) (us := .ref (s.heap.objs.size + 1) :: us) (xs := .ref st.length :: xs) (kx := kx) F (hr.make _ us _) (I2.env0.make _ us _) I2.kIn sim2 ⟨⟨_, new, rfl⟩, lift rx⟩ (lift rk) hsh
    (run2.imp fun d ρ' k' H' st' e s' q v rv => ?_)) fun r s' hq' => ?_))
  · cases d with
    | non =>
      simp only [RV] at rv
      exact ⟨rv, q.now s' _ (new.mono e)⟩
    | _ => exact q.elim
  · cases r with
    | error e => exact tk e s' (XE.of_call I2 (fun _ _ _ h => h) hq')
    | ok fl =>
      cases fl with
      | ret u =>
        obtain ⟨v, H', I3, rv, ev, q3⟩ := I2.after hq'
        subst ev
        exact ⟨rv, ⟨V.ref (s.heap.objs.size + 1), H', I3, rfl, q3⟩⟩
      | next => exact False.elim hq'
      | brk => exact False.elim hq'
      | cont => exact False.elim hq'
/-! ### written arguments -/
theorem kw_fst {env : PySem.Env} {pos : Pos} : ∀ (kws : List Keyword), (backToKw pos (keywordEach kws env)).map (·.1) = kws.map (·.arg)
  | [] => rfl
  | ⟨n, e, p⟩ :: r => congrArg (n :: ·) (kw_fst r)
theorem kw_all {env : PySem.Env} {pos : Pos} {kws : List Keyword} {ks : List Str} (h : kws.map (·.arg) = ks.map some) : (backToKw pos (keywordEach kws env)).all (·.1.isSome) = true ∧ (backToKw pos (keywordEach kws env)).any (·.1.isNone) = false ∧ (backToKw pos (keywordEach kws env)).filterMap (·.1) = ks := by
  have e := (kw_fst (env := env) (pos := pos) kws).trans h
  clear h
  generalize backToKw pos (keywordEach kws env) = l at e ⊢
  induction l generalizing ks with
  | nil =>
    cases ks with
    | nil => exact ⟨rfl, rfl, rfl⟩
    | cons _ _ => cases e
  | cons x l ih =>
    cases ks with
    | nil => cases e
    | cons y ks =>
      simp only [List.map_cons, List.cons.injEq] at e
      obtain ⟨i1, i2, i3⟩ := ih e.2
      refine ⟨?_, ?_, ?_⟩
      · simp only [List.all_cons, e.1, Option.isSome_some, Bool.true_and]
        exact i1
      · simp only [List.any_cons, e.1, Option.isNone_some, Bool.false_or]
        exact i2
      · rw [List.filterMap_cons, e.1]
        exact congrArg (y :: ·) i3
abbrev SKs (X : Cx) (Φ : Prog) (cur : Option Exn) (W : WX) (p : List Keyword) (e : List (String × E)) : Prop := PK X p (tKs X.K X.w Φ cur W e)
theorem sk_nil : SKs X Φ cur W [] [] := pk_w pk_nil fun τ H Q ⟨ρ, k, st, σ, at_, run⟩ => by
  simp only [evalKs] at run
  exact run.now at_.sim [] (by simp only [List.map_nil, RVs])
theorem sk_cons {e : E} {x : String} {pe : Expr} {nm : Option Str} {kpos : Pos} {pks : List Keyword} {ks : List (String × E)} (h1 : SE X Φ cur W pe e) (h2 : SKs X Φ cur W pks ks) : SKs X Φ cur W (⟨nm, pe, kpos⟩ :: pks) ((x, e) :: ks) :=
  pk_w (pk_cons h1 h2) fun τ H Q ⟨ρ, k, st, σ, at_, run⟩ => by
    simp only [evalKs] at run
    refine ⟨ρ, k, st, σ, at_, run.seq at_ fun d ρ1 k1 H1 st1 e1 a1 run1 v rv => ?_⟩
    refine ⟨ρ1, k1, st1, σ, a1, run1.seq a1 fun ds ρ2 k2 H2 st2 e2 a2 run2 vs rvs => ?_⟩
    refine run2.now a2.sim (v :: vs) ?_
    simp only [List.map_cons, RVs]
    exact ⟨v, vs, rfl, rv.mono e2, rvs⟩
theorem evalKs_names : ∀ {r : List (String × E)} {σ : Env} {st : Store} {xs : List (String × D)} {st' : Store}, evalKs Φ cur σ r st = .ok xs st' → xs.map (·.1) = r.map (·.1)
  | [], σ, st, xs, st', e => by simp only [evalKs] at e; cases e; rfl
  | (x, a) :: r, σ, st, xs, st', e => by
    simp only [evalKs] at e
    cases h1 : evalE Φ cur σ a st with
    | ok d st1 =>
      rw [h1] at e
      simp only [Res.bind_ok] at e
      cases h2 : evalKs Φ cur σ r st1 with
      | ok ds st2 =>
        rw [h2] at e
        simp only [Res.bind_ok, Res.ok.injEq] at e
        obtain ⟨rfl, rfl⟩ := e
        rw [List.map_cons, List.map_cons, evalKs_names h2]
      | exn x st2 => rw [h2] at e; cases e
      | stuck => rw [h2] at e; cases e
    | exn x st1 => rw [h1] at e; cases e
    | stuck => rw [h1] at e; cases e
/-- the written arguments, positional and by name, then the call -/
theorem cw {f : Value} {first : List Value} {pr : List Expr} {r : List E} {pks : List Keyword} {ks : List (String × E)} {pos : Pos} {pins : List (Addr × Obj)} {τ : L2.St} {H : Hp} {s : Shared} {Q : Value → Shared → Prop} {ρ : Lc} {k : Nat} {st : Store} {σ : Env}
    {g : List D → List (String × D) → Store → Res D} {R : D → Lc → Nat → Hp → Store → Prop}
    (hkp : PySem.W.keepIn X.K f = true) (ha : SEs X Φ cur W pr r) (hk : SKs X Φ cur W pks ks) (h1 : pr.all notStar = true) (hE : pr.length = r.length) (hn : pks.map (·.arg) = (ks.map fun p => Str.ofString p.1).map some)
    (I : Inv X pins τ H s) (at_ : At X.K X.w ρ k H st σ τ) (run : Run X.K X.w ρ k H ((evalEs Φ cur σ r st).bind fun xs st => (evalKs Φ cur σ ks st).bind fun kx st => g xs kx st) R (fun c d H' => W c d τ H'))
    (fin : ∀ (ρ' : Lc) (k' : Nat) (H' : Hp) (s' : Shared) (st' : Store) (xs : List D) (kx : List (String × D)) (us ws : List Value), Inv X pins τ H' s' → Ext ρ k H ρ' k' H' → At X.K X.w ρ' k' H' st' σ τ → AllR (RU X.K X.w ρ' k' H') xs us → AllR (RU X.K X.w ρ' k' H') (kx.map (·.2)) ws →
      us.length = r.length → kx.map (·.1) = ks.map (·.1) → Run X.K X.w ρ' k' H' (g xs kx st') R (fun c d H' => W c d τ H') → wpAny (model X.prog X.w) X.A (PySem.call f (first ++ us) (((kx.map (·.1)).map Str.ofString).zip ws)) Q X.xe s') :
    wpAny (model X.prog X.w) X.A (callWith pos f first (backTo pos (starEach pr X.env)) (backToKw pos (keywordEach pks X.env))) Q X.xe s := by
  cases pr with
  | nil =>
    cases r with
    | cons _ _ => cases hE
    | nil =>
      simp only [evalEs, Res.bind_ok] at run
      cases pks with
      | nil =>
        cases ks with
        | cons _ _ => cases hn
        | nil =>
          simp only [evalKs, Res.bind_ok] at run
          have q := fin ρ k H s st [] [] [] [] I Ext.refl at_ trivial trivial rfl rfl run
          exact PySem.W.callWith_K0 I.kIn hkp q
      | cons pk pks =>
        obtain ⟨k1, k2, k3⟩ := kw_all (env := X.env) (pos := pos) hn
        refine PySem.W.callWith_KW0 (h₀ := X.base) I.ok.mod.kin hkp k1 (wpAny_mono (hk.run pos pins s τ H _ I ⟨ρ, k, st, σ, at_, run.seqE at_ fun kx ρ2 k2 H2 st2 ek e2 a2 run2 zs rz => (?_ : (fun zs H2 => ∃ ρ2 k2 st2 kx, Ext ρ k H ρ2 k2 H2 ∧ At X.K X.w ρ2 k2 H2 st2 σ τ ∧ RVs X.K X.w ρ2 k2 H2 (kx.map (·.2)) zs ∧ kx.map (·.1) = ks.map (·.1) ∧ Run X.K X.w ρ2 k2 H2 (g [] kx st2) R (fun c d H' => W c d τ H')) zs H2)⟩) (fun ws s2 hq => ?_) fun _ _ z => z) (by
          show (false || _) = false
          rw [k2]; rfl)
        · exact ⟨ρ2, k2, st2, kx, e2, a2, rz, evalKs_names ek, run2⟩
        · obtain ⟨zs, H2, I2, rw2, ρ2, k2, st2, kx, e2, a2, rz, en, run2⟩ := hq
          have q := fin ρ2 k2 H2 s2 st2 [] kx [] ws I2 e2 a2 trivial (allR_of rz rw2) rfl en run2
          rw [en, List.map_map] at q
          rw [k3]
          exact ⟨I2.kIn, q⟩
  | cons pa pr =>
    have h1' := h1
    simp only [List.all_cons, Bool.and_eq_true] at h1
    obtain ⟨k1, k2, k3⟩ := kw_all (env := X.env) (pos := pos) hn
    have step : wpAny (model X.prog X.w) X.A (spliced (backTo pos (starEach (pa :: pr) X.env))) (AP X pins τ fun vs H1 => ∃ ρ1 k1 st1 xs, Ext ρ k H ρ1 k1 H1 ∧ At X.K X.w ρ1 k1 H1 st1 σ τ ∧ RVs X.K X.w ρ1 k1 H1 xs vs ∧ xs.length = r.length ∧
        Run X.K X.w ρ1 k1 H1 ((evalKs Φ cur σ ks st1).bind fun kx st => g xs kx st) R (fun c d H' => W c d τ H')) X.xe s :=
      ha.run pos pins s τ H _ I ⟨ρ, k, st, σ, at_, run.seqE at_ fun xs ρ1 k1 H1 st1 ex e1 a1 run1 vs rv => ⟨ρ1, k1, st1, xs, e1, a1, rv, evalEs_len ex, run1⟩⟩
    cases pks with
    | nil =>
      cases ks with
      | cons _ _ => cases hn
      | nil =>
        refine PySem.W.callWith_K (h₀ := X.base) I.ok.mod.kin hkp (wpAny_mono step (fun us s1 hq => ?_) fun _ _ z => z) (star_one h1.1) (star_all h1.2)
        obtain ⟨vs, H1, I1, ru, ρ1, k1, st1, xs, e1, a1, rv, en, run1⟩ := hq
        simp only [evalKs, Res.bind_ok] at run1
        have q := fin ρ1 k1 H1 s1 st1 xs [] us [] I1 e1 a1 (allR_of rv ru) trivial (by rw [← ru.length, ← rv.length, en]) rfl run1
        exact ⟨I1.kIn, q⟩
    | cons pk pks =>
      refine PySem.W.callWith_KW (h₀ := X.base) I.ok.mod.kin hkp k1 (wpAny_mono step (fun us s1 hq => ?_) fun _ _ z => z) (by rw [k2, star_all h1']; rfl) (star_one h1.1)
      obtain ⟨vs, H1, I1, ru, ρ1, k1, st1, xs, e1, a1, rv, en, run1⟩ := hq
      refine wpAny_mono (hk.run pos pins s1 τ H1 _ I1 ⟨ρ1, k1, st1, σ, a1, run1.seqE a1 fun kx ρ2 k2 H2 st2 ek e2 a2 run2 zs rz => (?_ : (fun zs H2 => ∃ ρ2 k2 st2 kx, Ext ρ1 k1 H1 ρ2 k2 H2 ∧ At X.K X.w ρ2 k2 H2 st2 σ τ ∧ RVs X.K X.w ρ2 k2 H2 (kx.map (·.2)) zs ∧ kx.map (·.1) = ks.map (·.1) ∧ Run X.K X.w ρ2 k2 H2 (g xs kx st2) R (fun c d H' => W c d τ H')) zs H2)⟩) (fun ws s2 hq => ?_) fun _ _ z => z
      · exact ⟨ρ2, k2, st2, kx, e2, a2, rz, evalKs_names ek, run2⟩
      · obtain ⟨zs, H2, I2, rw2, ρ2, k2, st2, kx, e2, a2, rz, en2, run2⟩ := hq
        have q := fin ρ2 k2 H2 s2 st2 xs kx us ws I2 (e1.trans e2) a2 (allR_of (rv.mono e2) ru) (allR_of rz rw2) (by rw [← ru.length, ← rv.length, en]) en2 run2
        rw [en2, List.map_map] at q
        rw [k3]
        exact ⟨I2.kIn, q⟩
/-- f(e, .., k = v, ..) -/
theorem se_call {f : String} {n : Nat} {a : Addr} {shapes : List (Nat × List String)} {pr : List Expr} {r : List E} {pks : List Keyword} {ks : List (String × E)} {pos ppos : Pos}
    (F : FnC X.prog X.w X.K X.mg X.base n (Φ.call "" f) a shapes) (hr : RoomG n X.A) (tk : Takes X W) (hg : Gl X (Str.ofString f)) (hm : X.mg (Str.ofString f) = some (.ref a)) (hd : (Str.ofString f == ("__debug__" : Str)) = false)
    (ha : SEs X Φ cur W pr r) (hk : SKs X Φ cur W pks ks) (h1 : pr.all notStar = true) (hE : pr.length = r.length) (hn : pks.map (·.arg) = (ks.map fun p => Str.ofString p.1).map some) (hsh : (r.length, ks.map (·.1)) ∈ shapes) :
    SE X Φ cur W (.Call (.Name (Str.ofString f) ppos) pr pks pos) (.call f r ks) := by
  refine ⟨fun pins s τ H Q I ⟨ρ, k, st, σ, at_, run⟩ => ?_⟩
  simp only [evalE] at run
  refine wpAny_Call_Name_kw (ld_glob I hg hm ?_ hd)
  refine cw F.kp ha hk h1 hE hn I at_ run fun ρ' k' H' s' st' xs kx us ws I' e' a' rx rk hl hkn run' => ?_
  exact run_call F hr tk I' a'.sim rx rk (by rw [List.nil_append, hl, hkn]; exact hsh) run'
/-- a class of the module's own: its instances' methods, each with a contract -/
structure MthC (X : Cx) (Φ : Prog) (n : Nat) (c m : String) (shapes : List (Nat × List String)) : Prop where
  ex : ∃ a, FnC X.prog X.w X.K X.mg X.base n (Φ.call c m) a shapes ∧ Meth X.K (He.ga X.K (Str.ofString c)) (Str.ofString m) a ∧ Cls X.K (He.ga X.K (Str.ofString c))
/-- o.m(e, ..) -/
theorem se_meth {po : Expr} {o : E} {m : String} {n : Nat} {pr : List Expr} {r : List E} {pks : List Keyword} {ks : List (String × E)} {pos apos : Pos} {pl : Sem Bool}
    (F : ∀ c, Φ.has c m = true → ∃ shapes, MthC X Φ n c m shapes ∧ (r.length + 1, ks.map (·.1)) ∈ shapes) (hr : RoomG n X.A) (tk : Takes X W) (ho : SE X Φ cur W po o)
    (ha : SEs X Φ cur W pr r) (hk : SKs X Φ cur W pks ks) (h1 : pr.all notStar = true) (hE : pr.length = r.length) (hn : pks.map (·.arg) = (ks.map fun p => Str.ofString p.1).map some)
    (ht : eval (.Call (.Attribute po (Str.ofString m) apos) pr pks pos) X.env = (do
      let ov ← eval po X.env
      standAt apos.atName
      let (f, first) ← holding [ov] (getMethod ov (Str.ofString m) pl)
      callWith pos f first (backTo pos (starEach pr X.env)) (backToKw pos (keywordEach pks X.env)))) :
    SE X Φ cur W (.Call (.Attribute po (Str.ofString m) apos) pr pks pos) (.meth o m r ks) := by
  refine ⟨fun pins s τ H Q I ⟨ρ, k, st, σ, at_, run⟩ => ?_⟩
  simp only [evalE] at run
  refine PySem.W.methodCall_KW (pl := pl) (wpAny_mono (ho.run pins s τ H _ I ⟨ρ, k, st, σ, at_, run.seq at_ fun x ρ1 k1 H1 st1 e1 a1 run1 v rv =>
    (?_ : (fun v H1 => ∃ ρ1 k1 st1 x c p dx fv, Φ.has c m = true ∧ At X.K X.w ρ1 k1 H1 st1 σ τ ∧ RV X.K X.w ρ1 k1 H1 x v ∧ v = .ref p ∧ H1 p = some (.ins (He.ga X.K (Str.ofString c)) dx fv) ∧ fv.lookup (Str.ofString m) = none ∧
      Run X.K X.w ρ1 k1 H1 ((evalEs Φ cur σ r st1).bind fun xs st => (evalKs Φ cur σ ks st).bind fun kx st => Φ.call c m (x :: xs) kx st) (fun a ρ' k' H' x => ∀ (b : V), RV X.K X.w ρ' k' H' a b → Q b H') (fun c d H' => W c d τ H')) v H1)⟩) (fun u s1 hq => ?_) fun _ _ z => z) ht
  · unfold isIns at run1
    split at run1
    · rename_i c e
      split at e
      · rename_i n'
        split at e
        · rename_i c' fs hst
          split at e
          · rename_i hl
            cases e
            simp only [Bool.and_eq_true] at hl
            simp only [RV] at rv
            obtain ⟨p, rfl, h1, h2⟩ := rv
            obtain ⟨b, q1, q2⟩ := a1.sim.at_ _ _ hst
            rw [h2] at q1
            cases q1
            obtain ⟨dx, fv, q3, q4⟩ := q2
            refine ⟨ρ1, k1, st1, _, c, p, dx, fv, hl.2, a1, by simp only [RV]; exact ⟨p, rfl, h1, h2⟩, rfl, q3, ?_, run1⟩
            have q := q4.look (f := m)
            cases el : fs.lookup m with
            | none => rw [el] at q; exact q
            | some d => rw [el] at hl; exact absurd hl.1 (by simp)
          · cases e
        · cases e
      · cases e
    · exact run1.elim
  · obtain ⟨v, H1, I1, rv, ρ1, k1, st1, x, c, p, dx, fv, hhas, a1, rx, rfl, hp, hl, run1⟩ := hq
    obtain rfl : u = Value.ref p := rv
    obtain ⟨shapes, ⟨a, F, hm, hc⟩, hsh⟩ := F c hhas
    refine getmeth_ok I1 hp hc hm hl ?_
    refine cw (first := [.ref p]) F.kp ha hk h1 hE hn I1 a1 run1 fun ρ' k' H' s' st' xs kx us ws I' e' a' rx' rk hl' hkn run' => ?_
    refine run_call F hr tk I' a'.sim (xs := x :: xs) ⟨⟨.ref p, rx.mono e', rfl⟩, rx'⟩ rk ?_ run'
    rw [List.singleton_append, List.length_cons, hl', hkn]
    exact hsh
/-- C(e, ..) -/
theorem se_new {cl : String} {n : Nat} {a : Addr} {shapes : List (Nat × List String)} {pr : List Expr} {r : List E} {pks : List Keyword} {ks : List (String × E)} {pos ppos : Pos}
    (M : Mk X.K (He.ga X.K (Str.ofString cl)) a) (F : FnC X.prog X.w X.K X.mg X.base n (Φ.call cl "__init__") a shapes) (hr : RoomG (n + 1) X.A) (tk : Takes X W) (hg : Gl X (Str.ofString cl)) (hm : X.mg (Str.ofString cl) = some (.ref (He.ga X.K (Str.ofString cl))))
    (hd : (Str.ofString cl == ("__debug__" : Str)) = false)
    (ha : SEs X Φ cur W pr r) (hk : SKs X Φ cur W pks ks) (h1 : pr.all notStar = true) (hE : pr.length = r.length) (hn : pks.map (·.arg) = (ks.map fun p => Str.ofString p.1).map some) (hsh : (r.length + 1, ks.map (·.1)) ∈ shapes) :
    SE X Φ cur W (.Call (.Name (Str.ofString cl) ppos) pr pks pos) (.new cl r ks) := by
  refine ⟨fun pins s τ H Q I ⟨ρ, k, st, σ, at_, run⟩ => ?_⟩
  simp only [evalE] at run
  refine wpAny_Call_Name_kw (ld_glob I hg hm ?_ hd)
  refine cw M.kp ha hk h1 hE hn I at_ run fun ρ' k' H' s' st' xs kx us ws I' e' a' rx rk hl hkn run' => ?_
  exact run_new M F hr tk I' a'.sim rx rk (by rw [List.nil_append, hl, hkn]; exact hsh) run'
end
end PV
set_option Elab.async false
set_option linter.all false
set_option maxRecDepth 100000
set_option maxHeartbeats 4000000
/-! PvStm2: more statements. -/
namespace PV
open PySem PySem.Spec PyProof.Rows L2
section
variable {X : Cx} {Φ : Prog} {Wf : Nat} {cur : Option Exn} {W : WX} {pos ppos : Pos} {pe ptg : Expr} {e : E}
theorem ip_all (o : Bop) : PIp X o.py (r2D X.K X.w (augop o)) := by
  intro pins s τ H v u V U Q I rv ru h
  obtain ⟨ρ, k, st, x, y, W, sm, rx, ry, run⟩ := h
  have ii : ∀ {i j z : Int} {f : Value → Value → Sem Value}, x = .int i → y = .int j → augop o x y st = .ok (.int z) st →
      (∀ (t u : Tok) (s : Shared) (Q : Value → Shared → Prop) (E : Value → Shared → Prop), Q (.int z s.toks) { s with toks := s.toks + 1 } → wpAny (model X.prog X.w) X.A (f (.int i t) (.int j u)) Q E s) →
      wpAny (model X.prog X.w) X.A (f V U) (EP X pins τ Q) X.xe s := fun {i j z f} hx hy hr rule => by
    subst hx hy
    rw [hr] at run
    simp only [RV] at rx ry
    subst rx ry
    obtain ⟨t, rfl⟩ := rv
    obtain ⟨t', rfl⟩ := ru
    exact rule t t' s _ _ ⟨.int z, H, I.tok _, ⟨_, rfl⟩, run.now sm _ (by simp only [RV])⟩
  unfold augop at run
  split at run
  · exact ii rfl rfl rfl fun _ _ _ _ _ q => iadd_int q
  · rename_i i j
    split at run
    · rename_i hl
      simp only [RV] at rx ry
      subst rx ry
      obtain ⟨t, rfl⟩ := rv
      obtain ⟨t', rfl⟩ := ru
      refine iadd_str (fun t'' tk => ⟨.str (tx (i ++ j)), H, I.tok _, ⟨t'', by rw [tx_app]⟩, run.now sm _ (by simp only [RV])⟩) ?_
      rw [tx_len, tx_len, line_eq]
      exact hl
    · exact run.elim
  · exact ii rfl rfl rfl fun _ _ _ _ _ q => isub_int q
  · rename_i i j
    split at run
    · rename_i hb
      have hm : CMul i j := by
        exact bmul_iff.mp hb
      refine ii rfl rfl (by simp only [augop, hb, if_true]) fun _ _ _ _ _ q => imul_int q hm.ok
    · exact run.elim
  · exact run.elim
theorem ss_aug {i : Nat} {x : Str} (o : Bop) (hN : X.N.Nodup) (hi : X.N[i]? = some x) (hx : Loc X.env.scope x) (hf : X.fn x = true ∨ X.env.scope.names.lookup x = some .local) (he : SE X Φ cur W pe e) :
    SS X Φ Wf cur W (.AugAssign (.Name x ppos) o.py pe pos) (.aug (.n i) o e) :=
  ps_w (ps_aug hN hi hx he (ip_all o) hf) fun D τ H ⟨ρ, k, st, σ, at_, run⟩ => by
    simp only [exec] at run
    split at run
    · rename_i d ed
      obtain ⟨v, e1, r⟩ := at_.env.2 i d ed
      refine ⟨v, e1, ρ, k, st, σ, at_, run.seq at_ fun y ρ1 k1 H1 st1 _ e1 a1 run1 u ru => ?_⟩
      refine ⟨ρ1, k1, st1, d, y, _, a1.sim, r.mono e1, ru, run1.seq a1 fun z ρ2 k2 H2 st2 _ e2 a2 run2 t rt => ?_⟩
      exact run2 ρ2 k2 H2 _ Ext.refl ⟨a2.sim, a2.env.set rt⟩
    · exact run.elim
/-! ### what is not read -/
/-- an expression that the evaluator does not follow -/
def bad : E := .bin true .sub (.c .non) (.c .non)
theorem se_bad : SE X Φ cur W pe bad := ⟨fun pins s τ H Q I ⟨ρ, k, st, σ, at_, run⟩ => by
  simp only [bad, evalE, Res.bind_ok, binop, subD] at run
  exact run.elim⟩
def badS : S := .aug (.tup []) .add bad
theorem ss_bad {p : Stmt} : SS X Φ Wf cur W p badS := ⟨fun pins s τ H D I ⟨ρ, k, st, σ, at_, run⟩ => by
  simp only [badS, exec] at run
  exact run.elim⟩
end
end PV
set_option Elab.async false
set_option linter.all false
set_option maxRecDepth 100000
set_option maxHeartbeats 4000000
/-! PvDct: isinstance; written dicts. -/
namespace PV
open PySem PySem.Spec PyProof.Rows L2
/-! ### isinstance -/
def Ty.tv (K : PySem.W.Frag) : Ty → Value
  | .b n => .type n
  | .own c => .ref (He.ga K (Str.ofString c))
def Ty.vv (K : PySem.W.Frag) : Ty → V
  | .b n => .ty n
  | .own c => .ref (He.ga K (Str.ofString c))
theorem clsV_of {K : PySem.W.Frag} : ∀ t : Ty, ClsV (t.vv K) (t.tv K)
  | .b n => .ty n
  | .own c => .own _
theorem relV_ty {K : PySem.W.Frag} : ∀ t : Ty, RelV (t.vv K) (t.tv K)
  | .b n => rfl
  | .own c => rfl
/-- the classes answer isinstance -/
structure IsiOk (K : PySem.W.Frag) (cls : List String) : Prop where
  own : ∀ c ∈ cls, Cls K (He.ga K (Str.ofString c)) ∧ PySem.W.findIn K (.ref (He.ga K (Str.ofString c))) "__class__" = some (some (.builtin "object.__class__")) ∧
    PySem.W.specialIn K (.builtin "object.__class__") "__get__" = some (some (.builtin "getset_descriptor.__get__")) ∧ PySem.W.takesIn K (.builtin "object.__class__") = some true ∧ PySem.W.mroIn K (He.ga K (Str.ofString c)) (.type "object") = some true
  kit : ∀ t u, tyIn cls t = true → tyIn cls u = true → PySem.W.kitOne K (t.tv K) (u.tv K) = some (isTy t u)
def bTys : List Ty := [.b "NoneType", .b "bool", .b "int", .b "str", .b "tuple", .b "list", .b "dict"]
/-- .. as a Bool of the written part -/
def isiB (cls : List String) (K : PySem.W.Frag) : Bool :=
  (cls.all fun c => (He.Fa.cls (Str.ofString c)).ok K && decide (PySem.W.findIn K (.ref (He.ga K (Str.ofString c))) "__class__" = some (some (.builtin "object.__class__"))) && decide (PySem.W.mroIn K (He.ga K (Str.ofString c)) (.type "object") = some true)) &&
  (cls.isEmpty || (decide (PySem.W.specialIn K (.builtin "object.__class__") "__get__" = some (some (.builtin "getset_descriptor.__get__"))) && decide (PySem.W.takesIn K (.builtin "object.__class__") = some true))) &&
  ((bTys ++ cls.map Ty.own).all fun t => (bTys ++ cls.map Ty.own).all fun u => decide (PySem.W.kitOne K (t.tv K) (u.tv K) = some (isTy t u)))
theorem tys_mem {cls : List String} : ∀ {t : Ty}, tyIn cls t = true → t ∈ bTys ++ cls.map Ty.own
  | .b n, h => by
    simp only [tyIn, List.contains_iff_mem] at h
    refine List.mem_append.mpr (.inl ?_)
    simp only [List.mem_cons, List.not_mem_nil, or_false] at h
    unfold bTys
    rcases h with rfl | rfl | rfl | rfl | rfl | rfl | rfl <;> simp
  | .own c, h => by
    simp only [tyIn, List.contains_iff_mem] at h
    exact List.mem_append.mpr (.inr (List.mem_map.mpr ⟨c, h, rfl⟩))
theorem isiB_ok {cls : List String} {K : PySem.W.Frag} (h : isiB cls K = true) : IsiOk K cls := by
  simp only [isiB, Bool.and_eq_true] at h
  obtain ⟨⟨h1, h2⟩, h3⟩ := h
  refine ⟨fun c hc => ?_, fun t u ht hu => ?_⟩
  · have q := List.all_eq_true.mp h1 c hc
    simp only [Bool.and_eq_true, decide_eq_true_eq] at q
    rcases (Bool.or_eq_true _ _).mp h2 with h2 | h2
    · rw [List.isEmpty_iff.mp h2] at hc
      cases hc
    · simp only [Bool.and_eq_true, decide_eq_true_eq] at h2
      exact ⟨He.cls_ok q.1.1, q.1.2, h2.1, h2.2, q.2⟩
  · exact of_decide_eq_true (List.all_eq_true.mp (List.all_eq_true.mp h3 t (tys_mem ht)) u (tys_mem hu))
section
variable {K : PySem.W.Frag} {w : World} {ρ : Lc} {k : Nat} {H : Hp} {st : Store} {d : D} {v : V} {cls : List String}
theorem tyX_of (ok : IsiOk K cls) (s : Sim K w ρ k H st) (h : RV K w ρ k H d v) (ht : tyIn cls (tyOf st d) = true) : TyX K H v ((tyOf st d).tv K) := by
  cases d with
  | non => simp only [RV] at h; subst h; exact .base .non
  | bl b => simp only [RV] at h; subst h; exact .base (.bl _)
  | int b => simp only [RV] at h; subst h; exact .base (.int _)
  | str b => simp only [RV] at h; subst h; exact .base (.str _)
  | tup xs =>
    simp only [RV] at h
    obtain ⟨a, ys, rfl, h1, _⟩ := h
    rcases h1 with ⟨h1, _⟩ | ⟨o, its, n, q1, q2, _⟩
    · exact .base (.tup h1)
    · exact .kTuple q1 q2
  | frz xs =>
    simp only [RV] at h
    obtain ⟨a, ys, rfl, h1, _⟩ := h
    exact .base (.lst h1)
  | scr ns =>
    simp only [RV] at h
    obtain ⟨a, rfl, ⟨o, h1, _⟩ | ⟨o, its, n, q1, q2, _⟩⟩ := h
    · exact .base (.frz h1)
    · exact .kList q1 q2
  | frd kvs =>
    simp only [RV] at h
    obtain ⟨a, ws, rfl, h1, _⟩ := h
    rcases h1 with ⟨kv, h1, _⟩ | ⟨⟨es, n, D, _⟩, _⟩
    · exact .base (.dK h1)
    · exact .kDict D.at_ rfl
  | ref n =>
    simp only [RV] at h
    obtain ⟨a, rfl, hn, ha⟩ := h
    have hn' : n < st.length := by rw [s.len]; exact hn
    obtain ⟨b, h1, h2⟩ := s.at_ n _ (List.getElem?_eq_getElem hn')
    rw [ha] at h1
    cases h1
    have e : tyOf st (.ref n) = (match st[n] with
      | .lst _ => .b "list"
      | .dic _ => .b "dict"
      | .ins c _ => .own c) := by
      simp only [tyOf, List.getElem?_eq_getElem hn']
      cases st[n] <;> rfl
    rw [e] at ht ⊢
    cases q : st[n] with
    | lst xs =>
      rw [q] at h2
      obtain ⟨ys, h3, _⟩ := h2
      exact .base (.lst h3)
    | dic xs =>
      rw [q] at h2
      obtain ⟨ys, h3, _⟩ := h2
      exact .base (.dK h3)
    | ins c fs =>
      rw [q] at h2 ht
      obtain ⟨dx, ys, h3, _⟩ := h2
      have hc : c ∈ cls := by simpa [tyIn] using ht
      obtain ⟨o1, o2, o3, o4, o5⟩ := ok.own c hc
      exact .base (.ins h3 o1 o2 o3 o4 o5)
theorem kitAny_of (ok : IsiOk K cls) {t : Ty} (ht : tyIn cls t = true) : ∀ {ts : List Ty}, ts.all (tyIn cls) = true → PySem.W.kitAny K (t.tv K) (ts.map (Ty.tv K)) = some (ts.any (isTy t))
  | [], _ => rfl
  | u :: ts, h => by
    simp only [List.all_cons, Bool.and_eq_true] at h
    rw [List.map_cons, List.any_cons]
    refine kitAny_cons (ok.kit t u ht h.1) (fun e => ?_) (fun e => by rw [e]; rfl)
    rw [e, Bool.false_or]
    exact kitAny_of ok ht h.2
theorem paired_cls : ∀ {ts : List Ty}, Paired ClsV (ts.map (Ty.vv K)) (ts.map (Ty.tv K))
  | [] => .nil
  | t :: ts => .cons (clsV_of t) paired_cls
end
section
variable {X : Cx} {Φ : Prog} {cur : Option Exn} {W : WX} {pos ppos tpos : Pos} {pa : Expr} {a : E}
/-- the names of classes -/
inductive TyNms (X : Cx) : List Expr → List Ty → Prop where
  | nil : TyNms X [] []
  | cons {p : Expr} {t : Ty} {ps : List Expr} {ts : List Ty} (h : PE X p (tC (t.vv X.K))) (hs : notStar p = true) (r : TyNms X ps ts) : TyNms X (p :: ps) (t :: ts)
def tCs : List V → TA
  | [] => tNil
  | v :: vs => tCons (tC v) (tCs vs)
theorem tyNms_pa : ∀ {ps : List Expr} {ts : List Ty}, TyNms X ps ts → PA X ps (tCs (ts.map (Ty.vv X.K)))
  | _, _, .nil => pa_nil
  | _, _, .cons h hs r => pa_cons h (tyNms_pa r) (star_one hs)
theorem tCs_red {τ : L2.St} {H : Hp} {Q : List V → Hp → Prop} : ∀ {vs : List V}, Q vs H → tCs vs τ H Q
  | [], h => h
  | v :: vs, h => tCs_red (vs := vs) (Q := fun xs H2 => Q (v :: xs) H2) h
theorem se_isi1 {t : Ty} {pt : Expr} (ok : IsiOk X.K Φ.cls) (hg : Gl X "isinstance") (hm : X.mg "isinstance" = none) (ha : SE X Φ cur W pa a) (hs : notStar pa = true) (ht : TyNms X [pt] [t]) :
    SE X Φ cur W (.Call (.Name "isinstance" ppos) [pa, pt] [] pos) (.isi a [t]) :=
  pe_w (pe_callB call_isi hg hm (by decide +kernel) (pa_cons ha (tyNms_pa ht) (star_one hs)) (by decide) (by decide) (star_one hs) (by
    cases ht with
    | cons h hs2 r =>
      cases r
      exact star_all (by simp only [List.all_cons, hs2, List.all_nil, Bool.and_self]))) fun τ H Q ⟨ρ, k, st, σ, at_, run⟩ => by
    simp only [evalE] at run
    refine ⟨ρ, k, st, σ, at_, run.seq at_ fun x ρ1 k1 H1 st1 e1 a1 run1 v rv => ?_⟩
    refine tCs_red ?_
    split at run1
    · rename_i hc
      simp only [Bool.and_eq_true, List.all_cons, List.all_nil] at hc
      refine ⟨v, _, _, _, _, rfl, clsV_of t, tyX_of ok a1.sim rv hc.1, ok.kit _ _ hc.1 hc.2.1, run1.now a1.sim _ ?_⟩
      simp only [RV, List.any_cons, List.any_nil, Bool.or_false]
    · exact run1.elim
theorem se_isiT {ts : List Ty} {ps : List Expr} {kk : Nat} (ok : IsiOk X.K Φ.cls) (hg : Gl X "isinstance") (hm : X.mg "isinstance" = none) (ha : SE X Φ cur W pa a) (hs : notStar pa = true) (ht : TyNms X ps ts) (hl : ts.length ≤ 1000) :
    SE X Φ cur W (.Call (.Name "isinstance" ppos) [pa, .Tuple ps kk tpos] [] pos) (.isi a ts) :=
  pe_w (pe_callB call_isiT hg hm (by decide +kernel) (pa_cons ha (pa_cons (pe_tup (tyNms_pa ht)) pa_nil (star_one rfl)) (star_one hs)) (by decide) (by decide) (star_one hs) (star_all (by rfl))) fun τ H Q ⟨ρ, k, st, σ, at_, run⟩ => by
    simp only [evalE] at run
    refine ⟨ρ, k, st, σ, at_, run.seq at_ fun x ρ1 k1 H1 st1 e1 a1 run1 v rv => ?_⟩
    refine tCs_red ⟨by rw [List.length_map, line_eq]; unfold LIM; omega, fun p hp => ?_⟩
    split at run1
    · rename_i hc
      simp only [Bool.and_eq_true] at hc
      have e2 : Ext ρ1 k1 H1 ρ1 k1 (upd H1 p (.tup (ts.map (Ty.vv X.K)))) := Ext.alloc hp
      have s2 : Sim X.K X.w ρ1 k1 (upd H1 p (.tup (ts.map (Ty.vv X.K)))) st1 := a1.sim.alloc hp
      refine ⟨v, p, ts.map (Ty.vv X.K), _, _, _, rfl, upd_same, paired_cls, tyX_of ok s2 (rv.mono e2) hc.1, kitAny_of ok hc.1 hc.2, run1 ρ1 k1 _ e2 s2 _ ?_⟩
      simp only [RV]
    · exact run1.elim
end
/-! ### a thing in the making, whatever it is -/
section
variable {K : PySem.W.Frag} {w : World} {ρ1 ρ ρ' : Lc} {k1 k k' : Nat} {H1 H H' : Hp} {D : Addr} {st st' : Store}
theorem Ext.unhide {o : HO} (hD : H1 D = none) (e : Ext (hide ρ1 D) k1 (upd H1 D o) ρ k H) : Ext ρ1 k1 H1 (shown ρ ρ1) k H where
  hid := rfl
  le := e.le
  same := e.same
  keep := fun a u h f => e.keep a u (by rw [upd_ne (ne_of_none h hD)]; exact h) f
  new := fun n a h1 h2 z => by
    have q := e.new n a h1 h2 z
    by_cases c : a = D
    · rw [c, upd_same] at q
      cases q
    · rw [upd_ne c] at q
      exact q
  there := fun a u h => e.there a u (by rw [upd_ne (ne_of_none h hD)]; exact h)
/-- a step, while something is in the making -/
theorem Run.hide {α : Type} {r : Res α} {R : α → Lc → Nat → Hp → Store → Prop} {W : XK} {o : HO} (hD : H1 D = none) (h : Run K w ρ1 k1 H1 r R W) :
    Run K w (hide ρ1 D) k1 (upd H1 D o) r (fun a ρ' k' H' st' => ρ'.hid = (PV.hide ρ1 D).hid ∧ R a (shown ρ' ρ1) k' H' st') W := by
  cases r with
  | ok a st => exact fun ρ' k' H' e s => ⟨e.hid, h _ _ _ (e.unhide hD) (s.shown e.hid)⟩
  | exn x st => exact fun ρ' k' H' c d e s q => h (shown ρ' ρ1) k' H' c d (e.unhide hD) (s.shown e.hid) ⟨q.1, q.2.imp id fun ⟨dd, fs, v, q1, q2, q3, q4, q5⟩ => ⟨dd, fs, v, q1, q2, (shown_map e.hid _ _ q2 q3).2, q4, RV.map (ρ := ρ') (ρ' := shown ρ' ρ1) (k := k') (k' := k') (H := H') (H' := H') (fun _ h => ⟨h, rfl⟩) (shown_map e.hid) q5⟩⟩
  | stuck => exact h
/-- one step, the rest seen from the start -/
theorem Run.bindB {α β : Type} {r : Res α} {f : α → Store → Res β} {R : β → Lc → Nat → Hp → Store → Prop} {W : XK} (h : Run K w ρ k H (r.bind f) R W) :
    Run K w ρ k H r (fun a _ _ _ st' => Run K w ρ k H (f a st') R W) W := by
  cases r with
  | ok a st => exact fun _ _ _ _ _ => h
  | exn x st => exact h
  | stuck => exact h
/-- it becomes the store's next thing -/
theorem laid_live {o : SO} (hid : ρ.hid = (hide ρ1 D).hid) (ext : Ext ρ1 k1 H1 (shown ρ ρ1) k H) (sim : Sim K w ρ k H st) (nl : NotL ρ k D) (hD : H1 D = none) (new : RO K w (push (shown ρ ρ1) k D) (k + 1) H D o) :
    Ext ρ1 k1 H1 (push (shown ρ ρ1) k D) (k + 1) H ∧ Sim K w (push (shown ρ ρ1) k D) (k + 1) H (st ++ [o]) := by
  have mp := live_map (H := H) (k := k) hid
  have sl := live_slot (ρ := ρ) (ρ1 := ρ1) (k := k) (D := D)
  refine ⟨⟨rfl, Nat.le_succ_of_le ext.le, fun n hn => ?_, ext.keep, fun n a h1 h2 z => ?_, ext.there⟩, ⟨by rw [List.length_append, sim.len]; rfl, fun n u hu => ?_, fun m n a h1 h2 z1 z2 => ?_, fun a z => sim.hidS a (by rw [hid]; exact .inl z)⟩⟩
  · rw [push_old (Nat.lt_of_lt_of_le hn ext.le)]
    exact ext.same n hn
  · by_cases hk : n < k
    · rw [push_old hk] at z
      exact ext.new n a h1 hk z
    · have e : n = k := by omega
      subst e
      rw [push_new] at z
      cases z
      exact hD
  · by_cases hn : n < st.length
    · rw [List.getElem?_append_left hn] at hu
      obtain ⟨a, h1, h2⟩ := sim.at_ n u hu
      exact ⟨a, by rw [push_old (sim.lt hu)]; exact h1, RO.map (ρ := ρ) (ρ' := push (shown ρ ρ1) k D) sl mp h2 rfl⟩
    · have hl := (List.getElem?_eq_some_iff.mp hu).1
      rw [List.length_append] at hl
      have e : n = st.length := by simp at hl; omega
      subst e
      rw [List.getElem?_append_right (Nat.le_refl _), Nat.sub_self] at hu
      cases hu
      exact ⟨D, by rw [sim.len]; exact push_new, new⟩
  · by_cases hm : m < k
    · rw [push_old hm] at z1
      by_cases hn : n < k
      · rw [push_old hn] at z2
        exact sim.inj m n a hm hn z1 z2
      · have e : n = k := by omega
        subst e
        rw [push_new] at z2
        cases z2
        exact absurd z1 (nl m hm)
    · have e : m = k := by omega
      subst e
      rw [push_new] at z1
      cases z1
      by_cases hn : n < m
      · rw [push_old hn] at z2
        exact absurd z2 (nl n hn)
      · omega
end
/-! ### written dicts -/
/-- pairs stand for pairs -/
def RPs (K : PySem.W.Frag) (w : World) (ρ : Lc) (k : Nat) (H : Hp) : List (D × D) → List (V × V) → Prop
  | [], vs => vs = []
  | (x, y) :: r, vs => ∃ v u q, vs = (v, u) :: q ∧ RV K w ρ k H x v ∧ RV K w ρ k H y u ∧ RPs K w ρ k H r q
section
variable {K : PySem.W.Frag} {w : World} {ρ ρ' : Lc} {k k' : Nat} {H H' : Hp}
theorem RPs.map (hk : ∀ n, n < k → n < k' ∧ ρ' n = ρ n) (hf : ∀ a o, H a = some o → Off ρ k a → H' a = some o ∧ Off ρ' k' a) : ∀ {ps : List (D × D)} {vs : List (V × V)}, RPs K w ρ k H ps vs → RPs K w ρ' k' H' ps vs
  | [], _, h => h
  | (x, y) :: r, _, ⟨v, u, q, e, h1, h2, h3⟩ => ⟨v, u, q, e, RV.map hk hf h1, RV.map hk hf h2, RPs.map hk hf h3⟩
theorem key_of {q : D} {v : V} (hq : isKey q = true) (h : RV K w ρ k H q v) : ∃ κ, keyD q = some κ ∧ v = kV κ := by
  cases q with
  | int i => simp only [RV] at h; exact ⟨.inl i, rfl, h⟩
  | str s => simp only [RV] at h; exact ⟨.inr (tx s), rfl, h⟩
  | _ => simp [isKey] at hq
theorem RPs.keys : ∀ {ps : List (D × D)} {vs : List (V × V)}, RPs K w ρ k H ps vs → (ps.all fun p => isKey p.1) = true → ∃ kvs : List (Key × V), vs = kvs.map (fun kv => (kV kv.1, kv.2)) ∧ RDs K w ρ k H ps kvs
  | [], _, h, _ => by
    have e : _ = [] := h
    subst e
    exact ⟨[], rfl, rfl⟩
  | (x, y) :: r, _, ⟨v, u, q, e, h1, h2, h3⟩, ha => by
    simp only [List.all_cons, Bool.and_eq_true] at ha
    subst e
    obtain ⟨κ, e1, e2⟩ := key_of ha.1 h1
    obtain ⟨kvs, e3, e4⟩ := RPs.keys h3 ha.2
    exact ⟨(κ, u) :: kvs, by rw [e3, e2]; rfl, κ, u, kvs, rfl, e1, h2, e4⟩
theorem RDs.merge : ∀ {ps : List (D × D)} {kvs : List (Key × V)} {acc : List (D × D)} {accV : List (Key × V)}, RDs K w ρ k H ps kvs → RDs K w ρ k H acc accV →
    RDs K w ρ k H (ps.foldl (fun acc p => dput acc p.1 p.2) acc) (mergeK accV kvs)
  | [], _, acc, accV, h, g => by
    have e : _ = [] := h
    subst e
    exact g
  | (x, y) :: r, _, acc, accV, ⟨κ, u, q, e, h0, h1, h2⟩, g => by
    subst e
    exact RDs.merge (ps := r) (kvs := q) (accV := putK accV κ u) h2 (RDs.put h0 h1 g)
theorem RDs.rks : ∀ {ps : List (D × D)} {kvs : List (Key × V)}, RDs K w ρ k H ps kvs → ∃ ws : List (D × V), RKs K w ρ k H ps ws ∧ kvs.map (fun p => (some p.1, p.2)) = ws.map (fun p => (keyD p.1, p.2))
  | [], _, h => by
    have e : _ = [] := h
    subst e
    exact ⟨[], by simp only [RKs], rfl⟩
  | (x, y) :: r, _, ⟨κ, u, q, e, h0, h1, h2⟩ => by
    subst e
    obtain ⟨ws, e1, e2⟩ := RDs.rks h2
    exact ⟨(x, u) :: ws, by simp only [RKs]; exact ⟨u, ws, rfl, h1, e1⟩, by rw [List.map_cons, List.map_cons, e2, h0]⟩
end
section
variable {X : Cx} {Φ : Prog} {cur : Option Exn} {W : WX} {pos : Pos}
/-- the parts of a display -/
inductive SPs (X : Cx) (Φ : Prog) (cur : Option Exn) (W : WX) : List (Option Expr) → List Expr → List (E × E) → Prop where
  | nil : SPs X Φ cur W [] [] []
  | cons {pk pv : Expr} {a b : E} {ks : List (Option Expr)} {vs : List Expr} {r : List (E × E)} (ha : SE X Φ cur W pk a) (hb : SE X Φ cur W pv b) (hr : SPs X Φ cur W ks vs r) : SPs X Φ cur W (some pk :: ks) (pv :: vs) ((a, b) :: r)
abbrev trsOf (X : Cx) (Φ : Prog) (cur : Option Exn) (W : WX) (ps : List (E × E)) : List (TE × TE) := ps.map fun p => (tE X.K X.w Φ cur W p.1, tE X.K X.w Φ cur W p.2)
theorem SPs.pps : ∀ {ks : List (Option Expr)} {vs : List Expr} {ps : List (E × E)}, SPs X Φ cur W ks vs ps → PPs X pos ks vs (trsOf X Φ cur W ps)
  | _, _, _, .nil => pps_nil
  | _, _, _, .cons ha hb hr => pps_cons ha hb hr.pps
theorem SPs.len : ∀ {ks : List (Option Expr)} {vs : List Expr} {ps : List (E × E)}, SPs X Φ cur W ks vs ps → ks.length = vs.length ∧ ks.length = ps.length ∧ ks.all (·.isSome) = true
  | _, _, _, .nil => ⟨rfl, rfl, rfl⟩
  | _, _, _, .cons ha hb hr => by
    obtain ⟨h1, h2, h3⟩ := hr.len
    exact ⟨by simp [h1], by simp [h2], by simp [h3]⟩
theorem tpairs_of {τ : L2.St} {σ : Env} : ∀ {ps : List (E × E)} {ρ : Lc} {k : Nat} {H : Hp} {st : Store} {R : List (V × V) → Hp → Prop}, At X.K X.w ρ k H st σ τ →
    Run X.K X.w ρ k H (evalPs Φ cur σ ps st) (fun xs ρ' k' H' st' => ∀ vs, RPs X.K X.w ρ' k' H' xs vs → R vs H') (fun c d H' => W c d τ H') → tPairs (trsOf X Φ cur W ps) τ H R
  | [], ρ, k, H, st, R, at_, run => by
    simp only [evalPs] at run
    exact run.now at_.sim [] rfl
  | (a, b) :: r, ρ, k, H, st, R, at_, run => by
    simp only [evalPs] at run
    refine ⟨ρ, k, st, σ, at_, run.seq at_ fun x ρ1 k1 H1 st1 e1 a1 run1 v rv => ?_⟩
    refine ⟨ρ1, k1, st1, σ, a1, run1.seq a1 fun y ρ2 k2 H2 st2 e2 a2 run2 u ru => ?_⟩
    refine tpairs_of a2 (run2.bind.imp fun xs ρ3 k3 H3 st3 e3 s3 run3 vs rvs => ?_)
    exact run3.now s3 ((v, u) :: vs) ⟨v, u, vs, rfl, (rv.mono e2).mono e3, ru.mono e3, rvs⟩
theorem evalPs_len : ∀ {r : List (E × E)} {σ : Env} {st : Store} {xs : List (D × D)} {st' : Store}, evalPs Φ cur σ r st = .ok xs st' → xs.length = r.length
  | [], σ, st, xs, st', e => by simp only [evalPs] at e; cases e; rfl
  | (a, b) :: r, σ, st, xs, st', e => by
    simp only [evalPs] at e
    obtain ⟨x, s1, _, e⟩ := bind_ok e
    obtain ⟨y, s2, _, e⟩ := bind_ok e
    obtain ⟨zs, s3, h, e⟩ := bind_ok e
    cases e
    rw [List.length_cons, List.length_cons, evalPs_len h]
/-- {k: v, ..} -/
theorem se_dct {m : Bool} {ks : List (Option Expr)} {vs : List Expr} {ps : List (E × E)} (h : SPs X Φ cur W ks vs ps) (h0 : ks ≠ []) (h15 : ks.length ≤ 15) : SE X Φ cur W (.Dict ks vs pos) (.dct m ps) := by
  obtain ⟨l1, l2, l3⟩ := h.len
  refine pe_w (pe_disp h.pps l3 l1 h0 h15) fun τ H Q ⟨ρ, k, st, σ, at_, run⟩ => ?_
  intro D hD
  simp only [evalE] at run
  have nl := (at_.sim.off hD).2
  have at1 : At X.K X.w (hide ρ D) k (upd H D (.dK [])) st σ τ := ⟨at_.sim.hide hD, EnvR.map (ρ := ρ) (H := H) (fun _ h => ⟨h, rfl⟩) (hide_map hD) at_.env⟩
  refine tpairs_of at1 ((run.bindB.hide (o := .dK []) hD).imp fun xs ρ2 k2 H2 st2 e2 s2 hrun => ?_)
  intro vs2 rvs
  obtain ⟨hh, run2⟩ := hrun
  have kp := e2.keep D _ upd_same nl
  have nl2 : NotL ρ2 k2 D := e2.nl upd_same nl
  have ext2 : Ext ρ k H (shown ρ2 ρ) k2 H2 := e2.unhide hD
  refine ⟨kp, ?_⟩
  have hd : ρ2.hid D := by rw [hh]; exact .inr rfl
  split at run2
  · rename_i hc
    simp only [Bool.and_eq_true, decide_eq_true_eq] at hc
    obtain ⟨kvs, rfl, rd⟩ := rvs.keys hc.1
    refine ⟨kvs, rfl, by rw [← rd.length]; exact hc.2, ?_⟩
    have rd0 := RDs.merge rd (show RDs X.K X.w ρ2 k2 H2 [] [] from rfl)
    have mp := make_map (H := H2) (k := k2) (o := .dK (mergeK [] kvs)) hd
    have rd1 := RDs.map (fun _ h => ⟨h, rfl⟩) mp rd0
    have s3 := s2.make (o := .dK (mergeK [] kvs)) hd nl2
    have ext3 : Ext ρ k H (shown ρ2 ρ) k2 (upd H2 D (.dK (mergeK [] kvs))) := ext2.make hD
    cases m with
    | false =>
      simp only [Bool.false_eq_true, if_false] at run2
      have sm := shown_map (H := upd H2 D (.dK (mergeK [] kvs))) (k := k2) hh
      refine run2 (shown ρ2 ρ) k2 _ ext3 (s3.shown hh) _ ?_
      simp only [RV]
      obtain ⟨ws, w1, w2⟩ := (RDs.map (ρ := ρ2) (ρ' := shown ρ2 ρ) (k := k2) (k' := k2) (fun _ h => ⟨h, rfl⟩) sm rd1).rks
      exact ⟨D, ws, rfl, .inl ⟨_, upd_same, ⟨(at_.sim.off hD).1, nl2⟩, w2⟩, w1⟩
    | true =>
      simp only [if_true] at run2
      have mp2 := live_map (H := upd H2 D (.dK (mergeK [] kvs))) (k := k2) hh
      have sl := live_slot (ρ := ρ2) (ρ1 := ρ) (k := k2) (D := D)
      obtain ⟨e4, s4⟩ := laid_live (o := .dic (xs.foldl (fun acc p => dput acc p.1 p.2) [])) hh ext3 s3 nl2 hD ⟨_, upd_same, RDs.map sl mp2 rd1⟩
      refine run2 _ _ _ e4 s4 _ ?_
      simp only [RV]
      exact ⟨D, rfl, by rw [s2.len]; omega, by rw [s2.len]; exact push_new⟩
  · exact run2.elim
theorem se_dct0 {m : Bool} : SE X Φ cur W (.Dict [] [] pos) (.dct m []) :=
  pe_w pe_dnewK fun τ H Q ⟨ρ, k, st, σ, at_, run⟩ => by
    intro D hD
    simp only [evalE, evalPs, Res.bind_ok, List.all_nil, List.length_nil, Nat.zero_le, decide_true, Bool.and_self, if_true, List.foldl_nil] at run
    cases m with
    | false =>
      simp only [Bool.false_eq_true, if_false] at run
      refine run ρ k _ (Ext.alloc hD) (at_.sim.alloc hD) _ ?_
      simp only [RV]
      exact ⟨D, [], rfl, .inl ⟨_, upd_same, at_.sim.off hD, rfl⟩, by simp only [RKs]⟩
    | true =>
      simp only [if_true] at run
      have e := Ext.push (ρ := ρ) (k := k) (o := .dK []) hD
      refine run (push ρ k D) (k + 1) _ e (at_.sim.push hD ⟨[], upd_same, rfl⟩) _ ?_
      simp only [RV]
      exact ⟨D, rfl, by rw [at_.sim.len]; omega, by rw [at_.sim.len]; exact push_new⟩
end
end PV
set_option Elab.async false
set_option linter.all false
set_option maxRecDepth 100000
set_option maxHeartbeats 4000000
/-! PvChk: does a written text say what the clean syntax says? A Bool. -/
namespace PV
open PySem L2
/-- what may be called -/
structure Inf where
  fns : List (String × List (Nat × List String))
  mths : List ((String × String) × List (Nat × List String))
  news : List (String × List (Nat × List String))
  blts : List String
  excs : List (String × String)
  xcs : List String
/-- where a text stands -/
structure Ck where
  I : Inf
  N : List Str
  sc : Scope
  cm : Bool
  fn : Str → Bool
def nmOk (C : Ck) (i : Nat) (z : Str) : Bool := match C.N[i]? with
  | some y => y == z
  | none => false
def knd (sc : Scope) (z : Str) : Option NameKind := sc.names.lookup z
def visB (sc : Scope) (z : Str) : Bool := match knd sc z with
  | some .local | some .cell | some .free => true
  | _ => false
def locB (sc : Scope) (z : Str) : Bool := match knd sc z with
  | some .local | some .cell => true
  | _ => false
def glB (sc : Scope) (z : Str) : Bool := match knd sc z with
  | some .globalImplicit => true
  | _ => false
def dbg (z : Str) : Bool := (z == ("__debug__" : Str)) == false
def plainN (z : Str) : Bool := dbg z && ((z == ("__classdict__" : Str)) == false)
def is (z : Str) (x : String) : Bool := z == Str.ofString x
def bopB (o : Bop) (p : Operator) : Bool := decide (o.py = p)
def copB (o : Cop) (p : CmpOp) : Bool := decide (o.py = p)
def strip : Expr → Expr
  | .BoolOp _ [p] _ => p
  | p => p
def constB : D → Expr → Bool
  | .int i, .Constant (.int j) _ _ => i == j
  | .bl i, .Constant (.bool j) _ _ => i == j
  | .non, .Constant .none _ _ => true
  | .str s, .Constant (.str z) _ _ => decide (z = tx s)
  | _, _ => false
def shapeB (l : Option (List (Nat × List String))) (n : Nat) (ks : List String) : Bool := match l with
  | some l => l.contains (n, ks)
  | none => false
def kwB : List Keyword → List String → Bool
  | [], [] => true
  | p :: ps, k :: ks => (match p.arg with
    | some z => is z k
    | none => false) && kwB ps ks
  | _, _ => false
def uniqB (l : List (Str × NameKind)) : Bool := l.all fun y => l.lookup y.1 == some y.2
/-- a comprehension's scope -/
def blkB (N : List Str) (sc scope : Scope) (own : List Nat) : Bool :=
  scope.kind == .function && uniqB scope.names && own.all (fun i => (N[i]?).isSome) &&
  scope.names.all (fun y => if y.2 == .free then knd sc y.1 == some .cell || knd sc y.1 == some .free else true) &&
  scope.names.all (fun y => if y.2 == .local || y.2 == .cell then own.any (fun i => N[i]? == some y.1) || !(N.contains y.1) else true)
def inBlk (C : Ck) (scope : Scope) : Ck := { C with sc := relS scope C.sc, fn := fun x => scope.names.lookup x == some .cell }
def isNon : E → Bool
  | .c .non => true
  | _ => false
def isCmp : E → Expr → Bool
  | .cmp .., .Compare .. => true
  | .cmp2 .., .Compare .. => true
  | _, _ => false
/-- the name of a class -/
def chkTy (C : Ck) (t : Ty) (p : Expr) : Bool := match p with
  | .Name z _ => glB C.sc z && dbg z && (match t with
    | .b n => is z n && ["int", "str", "bool", "list", "tuple", "dict"].contains n && C.I.blts.contains n
    | .own c => is z c && (C.I.news.lookup c).isSome)
  | _ => false
def chkTys (C : Ck) : List Ty → List Expr → Bool
  | [], ps => ps.isEmpty
  | t :: ts, ps => match ps with
    | p :: ps => chkTy C t p && notStar p && chkTys C ts ps
    | [] => false
/-- a target of several names -/
def isTup : Expr → Bool
  | .Tuple .. => true
  | _ => false
mutual
def chkE : E → Ck → Expr → Bool
  | .c d, C, p => constB d p
  | .v i, C, p => match p with
    | .Name z _ => nmOk C i z && visB C.sc z && plainN z
    | _ => false
  | .g x, C, p => match p with
    | .Name z _ => is z x && glB C.sc z && dbg z
    | _ => false
  | .bin _ o a b, C, p => (o == .sub && isNon a && isNon b) || match p with
    | .BinOp pa op pb _ => bopB o op && chkE a C pa && chkE b C pb
    | _ => false
  | .neg a, C, p => match p with
    | .UnaryOp .USub pa _ => chkE a C pa
    | _ => false
  | .cmp o a b, C, p => match p with
    | .Compare pa [op] [pb] _ => copB o op && chkE a C pa && chkE b C pb && notSet pb
    | _ => false
  | .cmp2 o o' a b c, C, p => match p with
    | .Compare pa [op, op'] [pb, pc] _ => copB o op && copB o' op' && chkE a C pa && chkE b C pb && chkE c C pc && notSet pc
    | _ => false
  | .cmp3 .., _, _ => false
  | .and a b, C, p => match p with
    | .BoolOp .And (pa :: pb :: r) pos => chkE a C pa && chkE b C (strip (.BoolOp .And (pb :: r) pos))
    | _ => false
  | .or a b, C, p => match p with
    | .BoolOp .Or (pa :: pb :: r) pos => chkE a C pa && chkE b C (strip (.BoolOp .Or (pb :: r) pos))
    | _ => false
  | .not t, C, p => match p with
    | .UnaryOp .Not pa _ => chkN t C pa
    | _ => false
  | .ite t a b, C, p => match p with
    | .IfExp pt pa pb _ => chkB t C pt && chkE a C pa && chkE b C pb
    | _ => false
  | .call f as kws, C, p => match p with
    | .Call (.Name z _) pr pks _ => C.cm && is z f && glB C.sc z && dbg z && chkEs as C pr && chkKs kws C pks && pr.all notStar && kwB pks (kws.map (·.1)) && shapeB (C.I.fns.lookup f) as.length (kws.map (·.1))
    | _ => false
  | .new f as kws, C, p => match p with
    | .Call (.Name z _) pr pks _ => C.cm && is z f && glB C.sc z && dbg z && chkEs as C pr && chkKs kws C pks && pr.all notStar && kwB pks (kws.map (·.1)) && shapeB (C.I.news.lookup f) (as.length + 1) (kws.map (·.1))
    | _ => false
  | .meth o m as kws, C, p => match p with
    | .Call (.Attribute po z apos) pr pks pos => C.cm && is z m && chkE o C po && notSup po && chkEs as C pr && chkKs kws C pks && pr.all notStar && kwB pks (kws.map (·.1)) &&
        (C.I.mths.all fun q => if q.1.2 == m then shapeB (some q.2) (as.length + 1) (kws.map (·.1)) else true) && decide (pr.length + pks.length < 29) && (apos.endLine == pos.line)
    | _ => false
  | .bm mt o as, C, p => match p with
    | .Call (.Attribute po z apos) pr [] pos => is z mt.nm && chkE o C po && notSup po && chkEs as C pr && pr.all notStar && decide (pr.length < 29) && (apos.endLine == pos.line)
    | _ => false
  | .fn _ f as, C, p => match p with
    | .Call (.Name z _) (pa :: pr) [] _ => f.ok C.cm && is z f.nm && glB C.sc z && C.I.blts.contains f.nm && chkEs as C (pa :: pr) && notStar pa && pr.all notStar
    | _ => false
  | .isi a ts, C, p => match p with
    | .Call (.Name z _) [pa, pt] [] _ => is z "isinstance" && glB C.sc z && C.I.blts.contains "isinstance" && chkE a C pa && notStar pa && (match pt with
      | .Tuple ps _ _ => chkTys C ts ps && decide (ts.length ≤ 1000)
      | pt => (match ts with
        | [t] => chkTy C t pt && notStar pt
        | _ => false))
    | _ => false
  | .fld o f, C, p => match p with
    | .Attribute po z _ => is z f && chkE o C po && notSup po
    | _ => false
  | .ix o i, C, p => match p with
    | .Subscript po pi _ => chkE o C po && chkE i C pi && notSlice pi
    | _ => false
  | .sl _ o lo hi, C, p => match p with
    | .Subscript po (.Slice pl ph none _) _ => chkE o C po && chkO lo C pl && chkO hi C ph
    | _ => false
  | .rev _ o, C, p => match p with
    | .Subscript po (.Slice none none (some (.UnaryOp .USub (.Constant (.int 1) _ _) _)) _) _ => chkE o C po
    | _ => false
  | .tup as, C, p => match p with
    | .Tuple pr _ _ => chkEs as C pr && decide (as.length ≤ LIM)
    | _ => false
  | .lst _ as, C, p => match p with
    | .List pr _ => chkEs as C pr && decide (as.length ≤ LIM)
    | _ => false
  | .dct _ ps, C, p => match p with
    | .Dict ks vs _ => chkPs ps C ks vs && decide (ks.length ≤ 15)
    | _ => false
  | .comp _ elt tg it ifs own, C, p => match p with
    | .ListComp pe [⟨ptg, pit, pifs, 0⟩] scope _ => C.cm && blkB C.N C.sc scope own && (slotsT tg).all (fun i => own.contains i) && chkI it C ptg pit && notSet pit && chkT tg (inBlk C scope) ptg && chkBs ifs (inBlk C scope) pifs && chkE elt (inBlk C scope) pe
    | _ => false
  | .comp2 .., _, _ => false
  | .lof _ (.range as), C, p => match p with
    | .Call (.Name z _) [.Call (.Name z2 _) pr [] _] [] _ => C.cm && is z "list" && glB C.sc z && C.I.blts.contains "list" && is z2 "range" && glB C.sc z2 && C.I.blts.contains "range" && chkEs as C pr && (as.length == 1 || as.length == 2)
    | _ => false
  | .lof .., _, _ => false
  | .fs .., _, _ => false
  | .xf .., _, _ => false
termination_by structural e => e
/-- the body of a written `not` -/
def chkN : B → Ck → Expr → Bool
  | .t a, C, p => chkE a C p
  | _, _, _ => false
termination_by structural e => e
/-- a test -/
def chkB : B → Ck → Expr → Bool
  | .not a, C, p => match p with
    | .UnaryOp .Not pa _ => chkB a C pa
    | _ => false
  | .and a b, C, p => match p with
    | .BoolOp .And (pa :: pb :: r) pos => chkB a C pa && chkB b C (strip (.BoolOp .And (pb :: r) pos))
    | _ => false
  | .or a b, C, p => match p with
    | .BoolOp .Or (pa :: pb :: r) pos => chkB a C pa && chkB b C (strip (.BoolOp .Or (pb :: r) pos))
    | _ => false
  | .t e, C, p => (byTruth p || isCmp e p) && chkE e C p
termination_by structural e => e
def chkEs : List E → Ck → List Expr → Bool
  | [], _, ps => ps.isEmpty
  | a :: r, C, ps => match ps with
    | p :: ps => chkE a C p && notStar p && chkEs r C ps
    | [] => false
termination_by structural e => e
def chkPs : List (E × E) → Ck → List (Option Expr) → List Expr → Bool
  | [], _, ks, vs => ks.isEmpty && vs.isEmpty
  | (a, b) :: r, C, ks, vs => match ks, vs with
    | some pk :: ks, pv :: vs => chkE a C pk && chkE b C pv && chkPs r C ks vs
    | _, _ => false
termination_by structural e => e
def chkKs : List (String × E) → Ck → List Keyword → Bool
  | [], _, ps => ps.isEmpty
  | (_, a) :: r, C, ps => match ps with
    | p :: ps => chkE a C p.value && chkKs r C ps
    | [] => false
termination_by structural e => e
def chkBs : List B → Ck → List Expr → Bool
  | [], _, ps => ps.isEmpty
  | a :: r, C, ps => match ps with
    | [p] => chkB a C p && r.isEmpty
    | _ => false
termination_by structural e => e
def chkO : Option E → Ck → Option Expr → Bool
  | none, _, p => p.isNone
  | some a, C, p => match p with
    | some p => chkE a C p
    | none => false
termination_by structural e => e
def chkI : I → Ck → Expr → Expr → Bool
  | .e a, C, _, p => chkE a C p
  | .range as, C, _, p => match p with
    | .Call (.Name z _) pr [] _ => is z "range" && glB C.sc z && C.I.blts.contains "range" && chkEs as C pr && (as.length == 1 || as.length == 2 || as.length == 3)
    | _ => false
  | .enum a, C, tg, p => match p with
    | .Call (.Name z _) [pe] [] _ => is z "enumerate" && glB C.sc z && C.I.blts.contains "enumerate" && chkE a C pe && notStar pe && isTup tg
    | _ => false
  | .zip as, C, tg, p => match p with
    | .Call (.Name z _) pr [] _ => is z "zip" && glB C.sc z && C.I.blts.contains "zip" && chkEs as C pr && (as.length == 2 || as.length == 3) && isTup tg
    | _ => false
  | .rev _, _, _, _ => false
termination_by structural e => e
def chkT : T → Ck → Expr → Bool
  | .n i, C, p => match p with
    | .Name z _ => nmOk C i z && locB C.sc z && (C.fn z || knd C.sc z == some .local)
    | _ => false
  | .tup ts, C, p => match p with
    | .Tuple ps _ _ => C.cm && chkTs ts C ps
    | _ => false
  | .at o f, C, p => match p with
    | .Attribute po z _ => is z f && chkE o C po
    | _ => false
  | .ix o i, C, p => match p with
    | .Subscript po pi _ => chkE o C po && chkE i C pi && notSlice pi
    | _ => false
termination_by structural e => e
def chkTs : List T → Ck → List Expr → Bool
  | [], _, ps => ps.isEmpty
  | t :: ts, C, ps => match ps with
    | p :: ps => chkT t C p && notStar p && chkTs ts C ps
    | [] => false
termination_by structural e => e
end
end PV
set_option Elab.async false
set_option linter.all false
set_option maxRecDepth 100000
set_option maxHeartbeats 4000000
/-! PvChk2: the checker is sound: expressions. -/
namespace PV
open PySem PySem.Spec PyProof.Rows L2
/-- what the module gives -/
structure GF (P : Program) (w : World) (K : PySem.W.Frag) (mg : Str → Option Value) (base : Heap) (Φ : Prog) (n : Nat) (I : Inf) : Prop where
  fns : ∀ f l, I.fns.lookup f = some l → ∃ a, mg (Str.ofString f) = some (.ref a) ∧ FnC P w K mg base (2 * n + 1) (Φ.call "" f) a l
  mths : ∀ c m, Φ.has c m = true → ∃ l, ((c, m), l) ∈ I.mths ∧ ∃ a, FnC P w K mg base (2 * n + 1) (Φ.call c m) a l ∧ Meth K (He.ga K (Str.ofString c)) (Str.ofString m) a ∧ Cls K (He.ga K (Str.ofString c))
  news : ∀ c l, I.news.lookup c = some l → ∃ a, Mk K (He.ga K (Str.ofString c)) a ∧ FnC P w K mg base (2 * n + 1) (Φ.call c "__init__") a l ∧ mg (Str.ofString c) = some (.ref (He.ga K (Str.ofString c)))
  glob : ∀ x d, Φ.glob x = some d → GlobOk K w mg (Str.ofString x) d
  blts : ∀ x, I.blts.contains x = true → mg (Str.ofString x) = none
  cls : ClsOk K Φ
  isi : IsiOk K Φ.cls
  rep : Φ.rep = repD
  sysm : SysD K
/-- where an expression is read -/
structure OkX (X : Cx) (Φ : Prog) (n : Nat) (W : WX) (C : Ck) : Prop where
  N : X.N = C.N
  nd : X.N.Nodup
  sc : X.env.scope = C.sc
  fn : ∀ x, C.fn x = true → X.fn x = true
  cm : C.cm = true → X.calm = true
  tk : Takes X W
  room : C.cm = true → RoomG (2 * n + 2) X.A
  g : X.A.guards = some []
  u : X.A.units + 80 < cLine
  G : GF X.prog X.w X.K X.mg X.base Φ n C.I
section
variable {X : Cx} {Φ : Prog} {n : Nat} {cur : Option Exn} {W : WX} {C : Ck}
theorem OkX.u64 (h : OkX X Φ n W C) : X.A.units + 64 < cLine := by have := h.u; omega
theorem takes_W0 : Takes X W0 := fun _ _ ⟨_, _, _, _, _, _, _, _, _, _, _, _, _, _, _, _, w⟩ => w.elim
theorem OkX.w0 (h : OkX X Φ n W C) : OkX X Φ n W0 C := ⟨h.N, h.nd, h.sc, h.fn, h.cm, takes_W0, h.room, h.g, h.u, h.G⟩
theorem OkX.blk (h : OkX X Φ n W C) (s : Shared) (H : Hp) (scope : Scope) (A : Addr) (cl : List (Str × Addr)) (fp : List Addr) : OkX (X.blk s H scope (compEnvC scope cl A X.env) fp) Φ n W0 (inBlk C scope) :=
  ⟨h.N, h.nd, by show relS scope X.env.scope = relS scope C.sc; rw [h.sc], fun x q => q, h.cm, takes_W0, h.room, h.g, h.u, h.G⟩
theorem nm_ok (h : OkX X Φ n W C) {i : Nat} {z : Str} (e : nmOk C i z = true) : X.N[i]? = some z := by
  unfold nmOk at e
  rw [h.N]
  split at e
  · rename_i y q
    rw [q, eq_of_beq e]
  · cases e
theorem vis_ok (h : OkX X Φ n W C) {z : Str} (e : visB C.sc z = true) : Vis X.env.scope z := by
  unfold visB knd at e
  rw [← h.sc] at e
  unfold Vis
  split at e
  · rename_i q; exact .inl q
  · rename_i q; exact .inr (.inl q)
  · rename_i q; exact .inr (.inr q)
  · cases e
theorem loc_ok (h : OkX X Φ n W C) {z : Str} (e : locB C.sc z = true) : L2.Loc X.env.scope z := by
  unfold locB knd at e
  rw [← h.sc] at e
  unfold L2.Loc
  split at e
  · rename_i q; exact .inl q
  · rename_i q; exact .inr q
  · cases e
theorem gl_ok (h : OkX X Φ n W C) {z : Str} (e : glB C.sc z = true) : Gl X z := by
  unfold glB knd at e
  rw [← h.sc] at e
  split at e
  · rename_i q; exact q
  · cases e
theorem is_ok {z : Str} {x : String} (e : is z x = true) : z = Str.ofString x := eq_of_beq e
theorem dbg_ok {z : Str} (e : dbg z = true) : (z == ("__debug__" : Str)) = false := eq_of_beq e
theorem kwB_ok {β : Type} : ∀ {pks : List Keyword} {kws : List (String × β)}, kwB pks (kws.map (·.1)) = true → pks.map (·.arg) = (kws.map fun p => Str.ofString p.1).map some
  | [], [], _ => rfl
  | p :: ps, k :: ks, h => by
    simp only [List.map_cons, kwB, Bool.and_eq_true] at h
    obtain ⟨h1, h2⟩ := h
    have h3 := kwB_ok (pks := ps) (kws := ks) h2
    simp only [List.map_cons, List.cons.injEq]
    refine ⟨?_, h3⟩
    split at h1
    · rename_i z q
      rw [q, is_ok h1]
    · cases h1
  | [], _ :: _, h => by simp [kwB] at h
  | _ :: _, [], h => by simp [kwB] at h
theorem shapeB_ok {l : Option (List (Nat × List String))} {m : Nat} {ks : List String} (h : shapeB l m ks = true) : ∃ r, l = some r ∧ (m, ks) ∈ r := by
  unfold shapeB at h
  split at h
  · exact ⟨_, rfl, List.contains_iff_mem.mp h⟩
  · cases h
theorem strip_ok {p : Expr} {e : E} (h : SE X Φ cur W (strip p) e) : SE X Φ cur W p e := by
  unfold strip at h
  split at h
  · exact se_one h
  · exact h
theorem stripB_ok {p : Expr} {e : B} (h : SB X Φ cur W (strip p) e) : SB X Φ cur W p e := by
  unfold strip at h
  split at h
  · rename_i o q pos
    cases o with
    | And => exact sb_and1 h
    | Or => exact sb_or1 h
  · exact h
/-- the road of a method's call -/
theorem meth_form {po : Expr} {m : Str} {apos pos : Pos} {pr : List Expr} {pks : List Keyword} {env : PySem.Env} {ks : List Str} (h0 : notSup po = true) (hs : pr.all notStar = true) (hk : pks.map (·.arg) = ks.map some) (hn : pr.length + pks.length < 29) (hl : (apos.endLine == pos.line) = true) :
    eval (.Call (.Attribute po m apos) pr pks pos) env = (do
      let ov ← eval po env
      standAt apos.atName
      let (f, first) ← holding [ov] (getMethod ov m (do return (← importBound po env).getD true))
      callWith pos f first (backTo pos (starEach pr env)) (backToKw pos (keywordEach pks env))) := by
  have form : methodCallForm (pr.length + pks.length) (backTo pos (starEach pr env)) (backToKw pos (keywordEach pks env)) = true := by
    unfold methodCallForm
    rw [star_all2 hs, (kw_all hk).1]
    simp only [Bool.true_and, decide_eq_true_eq]
    split <;> omega
  rw [arm_eval_Call, sup_one h0]
  unfold methodCall calleeOf methodCallPos
  simp only [form, hl, if_true, Bool.not_true, Bool.false_or, pure_bind]
theorem blkB_ok {own : List Nat} {scope : Scope} (h : OkX X Φ n W C) (e : blkB C.N C.sc scope own = true) : ∃ ow : List (Str × Nat), BlkOk X.N X.env.scope scope ow ∧ ow.map (·.2) = own := by
  unfold blkB at e
  simp only [Bool.and_eq_true] at e
  obtain ⟨⟨⟨⟨e1, e2⟩, e3⟩, e4⟩, e5⟩ := e
  refine ⟨own.map fun i => ((C.N[i]?).getD default, i), ⟨eq_of_beq e1, fun y hy => ?_, fun p hp => ?_, fun y hy hf => ?_, fun y hy hl => ?_⟩, ?_⟩
  · exact eq_of_beq (List.all_eq_true.mp e2 y hy)
  · obtain ⟨i, hi, rfl⟩ := List.mem_map.mp hp
    have q := List.all_eq_true.mp e3 i hi
    obtain ⟨z, hz⟩ := Option.isSome_iff_exists.mp q
    rw [h.N, hz]
    rfl
  · have q := List.all_eq_true.mp e4 y hy
    rw [h.sc]
    simp only [hf, beq_self_eq_true, if_true, Bool.or_eq_true] at q
    rcases q with q | q
    · exact .inl (eq_of_beq q)
    · exact .inr (eq_of_beq q)
  · have q := List.all_eq_true.mp e5 y hy
    have c : (y.2 == .local || y.2 == .cell) = true := by
      rcases hl with hl | hl <;> rw [hl] <;> rfl
    rw [if_pos c] at q
    simp only [Bool.or_eq_true, Bool.not_eq_true'] at q
    rcases q with q | q
    · obtain ⟨i, hi, q⟩ := List.any_eq_true.mp q
      refine .inl ?_
      rw [List.map_map, List.mem_map]
      refine ⟨i, hi, ?_⟩
      have z := eq_of_beq q
      simp [z]
    · refine .inr fun m => ?_
      rw [h.N] at m
      rw [List.contains_iff_mem.mpr m] at q
      cases q
  · rw [List.map_map]
    exact List.map_id'' (fun _ => rfl) _
theorem const_ok {d : D} {p : Expr} (e : constB d p = true) : SE X Φ cur W p (.c d) := by
  unfold constB at e
  split at e
  · rw [eq_of_beq e]; exact se_int
  · rw [eq_of_beq e]; exact se_bl
  · exact se_non
  · exact se_str (of_decide_eq_true e)
  · cases e
end
end PV
set_option Elab.async false
set_option linter.all false
set_option maxRecDepth 100000
set_option maxHeartbeats 4000000
/-! PvChk3: the checker is sound: expressions (all at once). -/
namespace PV
open PySem PySem.Spec PyProof.Rows L2
section
variable {Φ : Prog} {n : Nat} {cur : Option Exn}
theorem cop_ok {o : Cop} {p : CmpOp} (h : copB o p = true) : p = o.py := (of_decide_eq_true h).symm
theorem bop_ok {o : Bop} {p : Operator} (h : bopB o p = true) : p = o.py := (of_decide_eq_true h).symm
theorem non_ok {e : E} (h : isNon e = true) : e = .c .non := by
  unfold isNon at h
  split at h
  · rfl
  · cases h
theorem bad_ok {X : Cx} {W : WX} {p : Expr} {m : Bool} {o : Bop} {a b : E} (h : (o == .sub && isNon a && isNon b) = true) : SE X Φ cur W p (.bin m o a b) := by
  simp only [Bool.and_eq_true] at h
  obtain ⟨⟨h1, h2⟩, h3⟩ := h
  rw [eq_of_beq h1, non_ok h2, non_ok h3]
  exact ⟨fun pins s τ H Q I ⟨ρ, k, st, σ, at_, run⟩ => by
    simp only [evalE, Res.bind_ok, binop, subD] at run
    exact run.elim⟩
theorem sts_nil' {X : Cx} {W : WX} : STs X Φ cur W [] [] := ⟨fun pins s τ H Q I ⟨ρ, k, st, σ, at_, run⟩ => by
  simp only [evalTs] at run
  exact pts_nil.run pins s τ H Q I (run.now at_.sim _ rfl)⟩
theorem sts_one {X : Cx} {W : WX} {p : Expr} {a : B} (h : SB X Φ cur W p a) : STs X Φ cur W [p] [a] := ⟨fun pins s τ H Q I ⟨ρ, k, st, σ, at_, run⟩ => by
  simp only [evalTs] at run
  refine (pts_one h).run pins s τ H Q I ⟨ρ, k, st, σ, at_, run.seq at_ fun x ρ1 k1 H1 st1 e1 a1 run1 b eb => ?_⟩
  subst eb
  cases x with
  | true => exact run1.now a1.sim _ rfl
  | false => exact run1.now a1.sim _ rfl⟩
theorem si_range {X : Cx} {W : WX} {tg : Expr} {ps : List Expr} {as : List E} {pos ppos : Pos} (hg : Gl X (Str.ofString "range")) (hm : X.mg (Str.ofString "range") = none) (ha : SEs X Φ cur W ps as) (h1 : ps.all notStar = true) (hE : ps.length = as.length)
    (h : (as.length = 1 ∨ as.length = 2) ∨ as.length = 3) : SI X Φ cur W tg (.Call (.Name (Str.ofString "range") ppos) ps [] pos) (.range as) := by
  match as, ps, hE, h with
  | [a, b, c], [p, q, r], _, _ =>
    simp only [List.all_cons, Bool.and_eq_true] at h1
    exact si_range3 hg hm ha h1.1 h1.2.1 h1.2.2.1
  | [a], [p], _, _ =>
    simp only [List.all_cons, Bool.and_eq_true] at h1
    exact si_range1 hg hm ha h1.1
  | [a, b], [p, q], _, _ =>
    simp only [List.all_cons, Bool.and_eq_true] at h1
    exact si_range2 hg hm ha h1.1 h1.2.1
theorem si_zip' {X : Cx} {W : WX} {ps : List Expr} {as : List E} {pos ppos tpos : Pos} {elts : List Expr} {kk : Nat} (hg : Gl X (Str.ofString "zip")) (hm : X.mg (Str.ofString "zip") = none) (ha : SEs X Φ cur W ps as) (h1 : ps.all notStar = true) (hE : ps.length = as.length)
    (h : as.length = 2 ∨ as.length = 3) : SI X Φ cur W (.Tuple elts kk tpos) (.Call (.Name (Str.ofString "zip") ppos) ps [] pos) (.zip as) := by
  match as, ps, hE, h with
  | [a, b, c], [p, q, r], _, _ =>
    simp only [List.all_cons, Bool.and_eq_true] at h1
    exact si_zip3 hg hm ha h1.1 h1.2.1 h1.2.2.1
  | [], _, _, h => simp at h
  | [_], _, _, h => simp at h
  | _ :: _ :: _ :: _ :: _, _, _, h => simp at h
  | [a, b], [p, q], _, _ =>
    simp only [List.all_cons, Bool.and_eq_true] at h1
    exact si_zip hg hm ha h1.1 h1.2.1
theorem Res.bind_assoc' {α β γ : Type} {r : Res α} {f : α → Store → Res β} {g : β → Store → Res γ} : (r.bind f).bind g = r.bind fun a s => (f a s).bind g := by cases r <;> rfl
theorem se_rev {X : Cx} {W : WX} {po : Expr} {o : E} {m : Bool} {k : Nat} {p1 p2 p3 pos : Pos} (ho : SE X Φ cur W po o) : SE X Φ cur W (.Subscript po (.Slice none none (some (.UnaryOp .USub (.Constant (.int 1) k p1) p2)) p3) pos) (.rev m o) :=
  pe_w (pe_revL ho) fun τ H Q ⟨ρ, k, st, σ, at_, run⟩ => by
    simp only [evalE] at run
    refine ⟨ρ, k, st, σ, at_, run.seq at_ fun x ρ1 k1 H1 st1 e1 a1 run1 v rv => ?_⟩
    cases e : asL st1 x with
    | none => simp only [e] at run1; exact run1.elim
    | some xs =>
      simp only [e] at run1
      obtain ⟨a, ys, rfl, h1, h2⟩ := rv.asL a1.sim e
      exact ⟨a, ys, rfl, .of h1, fun p hp => Run.mk a1.sim run1 h2.reverse hp⟩
theorem prg_1A {X : Cx} {a : Expr} {ta : TA} {p pos : Pos} (hg : Gl X "range") (hm : X.mg "range" = none) (ha : PA X [a] ta) (hs : starEach [a] X.env = [(false, eval a X.env)]) : PRg X (.Call (.Name "range" p) [a] [] pos) (fun σ H Q => ta σ H fun vs H1 => ∃ n, vs = [.int n] ∧ Q 0 n H1) := by
  intro pins s σ H Q I h
  refine Call_ (ld_blt I hg hm boot_range (PyProof.Rows.callWith_type1 (thn (ha.run pos pins s σ H _ I h) fun us s1 ⟨vs, H1, I1, r1, q1⟩ => ?_) hs rfl))
  obtain ⟨n, rfl, q⟩ := q1
  cases r1 with
  | cons r rr =>
    cases rr
    obtain ⟨t, rfl⟩ := r
    exact call_range_1 ⟨_, 0, n, _, _, _, H1, rfl, IsRange.new _ _ _ _ _ _ _, I1.kept fun b u e => Heap.get?_push_of_some _ e, q⟩
theorem prg_2A {X : Cx} {a b : Expr} {ta : TA} {p pos : Pos} (hg : Gl X "range") (hm : X.mg "range" = none) (ha : PA X [a, b] ta) (hs : starEach [a, b] X.env = (false, eval a X.env) :: starEach [b] X.env) (hp : (backTo pos (starEach [b] X.env)).any (·.1) = false) : PRg X (.Call (.Name "range" p) [a, b] [] pos) (fun σ H Q => ta σ H fun vs H1 => ∃ i j, vs = [.int i, .int j] ∧ Q i j H1) := by
  intro pins s σ H Q I h
  refine Call_ (ld_blt I hg hm boot_range (PyProof.Rows.callWith_type1 (thn (ha.run pos pins s σ H _ I h) fun us s1 ⟨vs, H1, I1, r1, q1⟩ => ?_) hs hp))
  obtain ⟨i, j, rfl, q⟩ := q1
  cases r1 with
  | cons r rr =>
    cases rr with
    | cons r' rr =>
      cases rr
      obtain ⟨t, rfl⟩ := r
      obtain ⟨t', rfl⟩ := r'
      exact call_range_2 ⟨_, i, j, _, _, _, H1, rfl, IsRange.new _ _ _ _ _ _ _, I1.kept fun b u e => Heap.get?_push_of_some _ e, q⟩
theorem rgV_rv {K : PySem.W.Frag} {w : World} {ρ : Lc} {k : Nat} {H : Hp} {i j : Int} : RVs K w ρ k H (rangeL i j) (rgV i j) := by
  unfold rangeL rgV
  generalize List.range (j - i).toNat = l
  induction l with
  | nil => simp [RVs]
  | cons x l ih =>
    simp only [List.map_cons, RVs, RV]
    exact ⟨_, _, rfl, rfl, ih⟩
theorem se_lof {X : Cx} {W : WX} {ps : List Expr} {as : List E} {m : Bool} {pos ppos p1 p2 : Pos} (hc : X.calm = true) (hgl : Gl X (Str.ofString "list")) (hml : X.mg (Str.ofString "list") = none) (hg : Gl X (Str.ofString "range")) (hm : X.mg (Str.ofString "range") = none) (ha : SEs X Φ cur W ps as) (h1 : ps.all notStar = true) (hE : ps.length = as.length)
    (h : as.length = 1 ∨ as.length = 2) : SE X Φ cur W (.Call (.Name (Str.ofString "list") ppos) [.Call (.Name (Str.ofString "range") p1) ps [] p2] [] pos) (.lof m (.range as)) := by
  have fin : ∀ {ρ1 : Lc} {k1 : Nat} {H1 : Hp} {st1 : Store} {i j : Int} {τ : L2.St} {σ : PV.Env} {Q : VK}, At X.K X.w ρ1 k1 H1 st1 σ τ → inR i = true → inR j = true →
      Run X.K X.w ρ1 k1 H1 (if (rangeL i j).length ≤ LIM then mk m (rangeL i j) st1 else .stuck) (fun d ρ' k' H' _ => ∀ v, RV X.K X.w ρ' k' H' d v → Q v H') (fun c d H' => W c d τ H') → RgOk i j ∧ ∀ q, H1 q = none → Q (.ref q) (upd H1 q (.lst (rgV i j))) := fun {ρ1 k1 H1 st1 i j τ σ Q} a1 hi hj run => by
    split at run
    · rename_i hl
      have hl' : (j - i).toNat ≤ 2 ^ 24 := by simpa [rangeL, LIM] using hl
      exact ⟨⟨(inR_ok hi).1, (inR_ok hi).2, (inR_ok hj).1, (inR_ok hj).2, hl'⟩, fun q hq => Run.mk a1.sim run rgV_rv hq⟩
    · exact run.elim
  match as, ps, hE, h with
  | [a], [p], _, _ =>
    simp only [List.all_cons, Bool.and_eq_true] at h1
    refine pe_w (pe_listRg hc hgl hml (prg_1A hg hm ha (by rw [star_one h1.1]; rfl)) (by rfl)) fun τ H Q ⟨ρ, k, st, σ, at_, run⟩ => ?_
    simp only [evalE, evalI] at run
    rw [Res.bind_assoc'] at run
    refine ⟨ρ, k, st, σ, at_, run.seqE at_ fun xs ρ1 k1 H1 st1 ex e1 a1 run1 vs rvs => ?_⟩
    have hl := evalEs_len ex
    match xs, hl with
    | [d], _ =>
      obtain ⟨v, rfl, rv⟩ := rvs.one
      cases d with
      | int j =>
        dsimp only at run1
        split at run1
        · rename_i hj
          simp only [RV] at rv
          subst rv
          exact ⟨j, rfl, fin a1 (inR_iff.mpr (by decide)) hj run1⟩
        · exact run1.elim
      | _ => exact run1.elim
  | [a, b], [p, q], _, _ =>
    simp only [List.all_cons, Bool.and_eq_true] at h1
    refine pe_w (pe_listRg hc hgl hml (prg_2A hg hm ha (star_one h1.1) (by rw [star_one h1.2.1]; rfl)) (by rfl)) fun τ H Q ⟨ρ, k, st, σ, at_, run⟩ => ?_
    simp only [evalE, evalI] at run
    rw [Res.bind_assoc'] at run
    refine ⟨ρ, k, st, σ, at_, run.seqE at_ fun xs ρ1 k1 H1 st1 ex e1 a1 run1 vs rvs => ?_⟩
    have hl := evalEs_len ex
    match xs, hl with
    | [d, e], _ =>
      obtain ⟨v, u, rfl, rv, ru⟩ := rvs.two
      cases d with
      | int i =>
        cases e with
        | int j =>
          dsimp only at run1
          split at run1
          · rename_i hj
            simp only [Bool.and_eq_true] at hj
            simp only [RV] at rv ru
            subst rv ru
            exact ⟨i, j, rfl, fin a1 hj.1 hj.2 run1⟩
          · exact run1.elim
        | _ => exact run1.elim
      | _ => cases e <;> exact run1.elim
theorem chkTy_ok {X : Cx} {W : WX} {C : Ck} {t : Ty} {p : Expr} (h : OkX X Φ n W C) (q : chkTy C t p = true) : PE X p (tC (t.vv X.K)) := by
  unfold chkTy at q
  split at q
  · rename_i z pz
    simp only [Bool.and_eq_true] at q
    obtain ⟨⟨q1, q2⟩, q3⟩ := q
    split at q3
    · rename_i nm
      simp only [Bool.and_eq_true] at q3
      obtain ⟨⟨q3, q4⟩, q5⟩ := q3
      have e := is_ok q3
      subst e
      simp only [List.contains_iff_mem, List.mem_cons, List.not_mem_nil, or_false] at q4
      have hv : bootBuiltins (Str.ofString nm) = some (.type nm) := by
        rcases q4 with rfl | rfl | rfl | rfl | rfl | rfl <;> decide +kernel
      have hn : Str.ofString nm ≠ "__name__" := by
        rcases q4 with rfl | rfl | rfl | rfl | rfl | rfl <;> decide
      exact pe_bltn (gl_ok h q1) (h.G.blts _ q5) hv rfl hn (dbg_ok q2)
    · rename_i c
      simp only [Bool.and_eq_true] at q3
      have e := is_ok q3.1
      subst e
      obtain ⟨l, hl⟩ := Option.isSome_iff_exists.mp q3.2
      obtain ⟨a, _, _, hm⟩ := h.G.news c l hl
      exact pe_glob (gl_ok h q1) hm rfl (dbg_ok q2)
  · cases q
theorem chkTys_ok {X : Cx} {W : WX} {C : Ck} (h : OkX X Φ n W C) : ∀ {ts : List Ty} {ps : List Expr}, chkTys C ts ps = true → TyNms X ps ts
  | [], ps, q => by
    simp only [chkTys, List.isEmpty_iff] at q
    subst q
    exact .nil
  | t :: ts, ps, q => by
    simp only [chkTys] at q
    split at q
    · simp only [Bool.and_eq_true] at q
      exact .cons (chkTy_ok h q.1.1) q.1.2 (chkTys_ok h q.2)
    · cases q
mutual
theorem chkE_ok : ∀ (e : E) {X : Cx} {W : WX} {C : Ck} {p : Expr}, OkX X Φ n W C → chkE e C p = true → SE X Φ cur W p e
  | .c d, X, W, C, p, h, q => by
    simp only [chkE] at q
    exact const_ok q
  | .v i, X, W, C, p, h, q => by
    simp only [chkE] at q
    split at q
    · simp only [plainN, Bool.and_eq_true] at q
      exact se_v (nm_ok h q.1.1) (vis_ok h q.1.2) (dbg_ok q.2.1) (eq_of_beq q.2.2)
    · cases q
  | .g x, X, W, C, p, h, q => by
    simp only [chkE] at q
    split at q
    · simp only [Bool.and_eq_true] at q
      obtain ⟨⟨q1, q2⟩, q3⟩ := q
      have e := is_ok q1
      exact se_g e (gl_ok h q2) (dbg_ok q3) fun d hd => by rw [e]; exact h.G.glob x d hd
    · cases q
  | .bin m o a b, X, W, C, p, h, q => by
    simp only [chkE] at q
    rcases (Bool.or_eq_true _ _).mp q with q | q
    · exact bad_ok q
    · split at q
      · simp only [Bool.and_eq_true] at q
        rw [bop_ok q.1.1]
        exact se_bin o (chkE_ok a h q.1.2) (chkE_ok b h q.2)
      · cases q
  | .neg a, X, W, C, p, h, q => by
    simp only [chkE] at q
    split at q
    · exact se_neg (chkE_ok a h q)
    · cases q
  | .cmp o a b, X, W, C, p, h, q => by
    simp only [chkE] at q
    split at q
    · simp only [Bool.and_eq_true] at q
      obtain ⟨⟨⟨q1, q2⟩, q3⟩, q4⟩ := q
      rw [cop_ok q1]
      exact se_cmp h.u64 o (chkE_ok a h q2) (chkE_ok b h q3) (no_mark q4)
    · cases q
  | .cmp2 o o' a b c, X, W, C, p, h, q => by
    simp only [chkE] at q
    split at q
    · simp only [Bool.and_eq_true] at q
      obtain ⟨⟨⟨⟨⟨q1, q2⟩, q3⟩, q4⟩, q5⟩, q6⟩ := q
      rw [cop_ok q1, cop_ok q2]
      exact se_cmp2 h.u64 o o' (chkE_ok a h q3) (chkE_ok b h q4) (chkE_ok c h q5) (no_marks q6)
    · cases q
  | .cmp3 .., X, W, C, p, h, q => by simp only [chkE, Bool.false_eq_true] at q
  | .and a b, X, W, C, p, h, q => by
    simp only [chkE] at q
    split at q
    · simp only [Bool.and_eq_true] at q
      exact se_and (chkE_ok a h q.1) (strip_ok (chkE_ok b h q.2))
    · cases q
  | .or a b, X, W, C, p, h, q => by
    simp only [chkE] at q
    split at q
    · simp only [Bool.and_eq_true] at q
      exact se_or (chkE_ok a h q.1) (strip_ok (chkE_ok b h q.2))
    · cases q
  | .not t, X, W, C, p, h, q => by
    simp only [chkE] at q
    split at q
    · cases t with
      | t a =>
        simp only [chkN] at q
        exact se_not (chkE_ok a h q)
      | _ => simp only [chkN, Bool.false_eq_true] at q
    · cases q
  | .ite t a b, X, W, C, p, h, q => by
    simp only [chkE] at q
    split at q
    · simp only [Bool.and_eq_true] at q
      exact se_ite (chkB_ok t h q.1.1) (chkE_ok a h q.1.2) (chkE_ok b h q.2)
    · cases q
  | .call f as kws, X, W, C, p, h, q => by
    simp only [chkE] at q
    split at q
    · simp only [Bool.and_eq_true] at q
      obtain ⟨⟨⟨⟨⟨⟨⟨⟨q1, q2⟩, q3⟩, q4⟩, q5⟩, q6⟩, q7⟩, q8⟩, q9⟩ := q
      obtain ⟨l, hl, hm⟩ := shapeB_ok q9
      obtain ⟨a, ha, F⟩ := h.G.fns f l hl
      obtain ⟨s1, s2, s3⟩ := chkEs_ok as h q5
      have e := is_ok q2
      subst e
      exact se_call F ((h.room q1).mono (by omega)) h.tk (gl_ok h q3) ha (dbg_ok q4) s1 (chkKs_ok kws h q6) q7 s3 (kwB_ok q8) hm
    · cases q
  | .new f as kws, X, W, C, p, h, q => by
    simp only [chkE] at q
    split at q
    · simp only [Bool.and_eq_true] at q
      obtain ⟨⟨⟨⟨⟨⟨⟨⟨q1, q2⟩, q3⟩, q4⟩, q5⟩, q6⟩, q7⟩, q8⟩, q9⟩ := q
      obtain ⟨l, hl, hm⟩ := shapeB_ok q9
      obtain ⟨a, M, F, ha⟩ := h.G.news f l hl
      obtain ⟨s1, s2, s3⟩ := chkEs_ok as h q5
      have e := is_ok q2
      subst e
      exact se_new M F (h.room q1) h.tk (gl_ok h q3) ha (dbg_ok q4) s1 (chkKs_ok kws h q6) q7 s3 (kwB_ok q8) hm
    · cases q
  | .meth o m as kws, X, W, C, p, h, q => by
    simp only [chkE] at q
    split at q
    · simp only [Bool.and_eq_true] at q
      obtain ⟨⟨⟨⟨⟨⟨⟨⟨⟨⟨q1, q2⟩, q3⟩, q4⟩, q5⟩, q6⟩, q7⟩, q8⟩, q9⟩, q10⟩, q11⟩ := q
      obtain ⟨s1, s2, s3⟩ := chkEs_ok as h q5
      have e := is_ok q2
      subst e
      refine se_meth (n := 2 * n + 1) (fun c hc => ?_) ((h.room q1).mono (by omega)) h.tk (chkE_ok o h q3) s1 (chkKs_ok kws h q6) q7 s3 (kwB_ok q8) (meth_form q4 q7 (kwB_ok q8) (of_decide_eq_true q10) q11)
      obtain ⟨l, hl, a, F, M, K⟩ := h.G.mths c m hc
      have z := List.all_eq_true.mp q9 _ hl
      simp only [beq_self_eq_true, if_true] at z
      obtain ⟨r, hr, hm⟩ := shapeB_ok z
      cases hr
      exact ⟨l, ⟨a, F, M, K⟩, hm⟩
    · cases q
  | .bm mt o as, X, W, C, p, h, q => by
    simp only [chkE] at q
    split at q
    · simp only [Bool.and_eq_true] at q
      obtain ⟨⟨⟨⟨⟨⟨q1, q2⟩, q3⟩, q4⟩, q5⟩, q6⟩, q7⟩ := q
      obtain ⟨s1, s2, s3⟩ := chkEs_ok as h q4
      have e := is_ok q1
      subst e
      exact se_bm h.u64 (chkE_ok o h q2) s1 q3 q5 (of_decide_eq_true q6) q7 s3
    · cases q
  | .fn m f as, X, W, C, p, h, q => by
    simp only [chkE] at q
    split at q
    · simp only [Bool.and_eq_true] at q
      obtain ⟨⟨⟨⟨⟨⟨q1, q2⟩, q3⟩, q4⟩, q5⟩, q6⟩, q7⟩ := q
      obtain ⟨s1, s2, s3⟩ := chkEs_ok as h q5
      have e := is_ok q2
      subst e
      exact se_fn q1 h.G.sysm h.cm h.g h.u h.G.rep (gl_ok h q3) (h.G.blts _ q4) s1 q6 q7
    · cases q
  | .isi a ts, X, W, C, p, h, q => by
    simp only [chkE] at q
    split at q
    · simp only [Bool.and_eq_true] at q
      obtain ⟨⟨⟨⟨⟨q1, q2⟩, q3⟩, q4⟩, q5⟩, q6⟩ := q
      have e := is_ok q1
      subst e
      split at q6
      · simp only [Bool.and_eq_true, decide_eq_true_eq] at q6
        exact se_isiT h.G.isi (gl_ok h q2) (h.G.blts _ q3) (chkE_ok a h q4) q5 (chkTys_ok h q6.1) q6.2
      · split at q6
        · simp only [Bool.and_eq_true] at q6
          exact se_isi1 h.G.isi (gl_ok h q2) (h.G.blts _ q3) (chkE_ok a h q4) q5 (.cons (chkTy_ok h q6.1) q6.2 .nil)
        · cases q6
    · cases q
  | .fld o f, X, W, C, p, h, q => by
    simp only [chkE] at q
    split at q
    · simp only [Bool.and_eq_true] at q
      have e := is_ok q.1.1
      subst e
      exact se_fld h.G.cls (chkE_ok o h q.1.2) q.2
    · cases q
  | .ix o i, X, W, C, p, h, q => by
    simp only [chkE] at q
    split at q
    · simp only [Bool.and_eq_true] at q
      exact se_ix h.u64 (chkE_ok o h q.1.1) (chkE_ok i h q.1.2) (plain_ix q.2)
    · cases q
  | .sl m o lo hi, X, W, C, p, h, q => by
    simp only [chkE] at q
    split at q
    · simp only [Bool.and_eq_true] at q
      exact se_sl (chkE_ok o h q.1.1) (chkO_ok lo h q.1.2) (chkO_ok hi h q.2)
    · cases q
  | .rev m o, X, W, C, p, h, q => by
    simp only [chkE] at q
    split at q
    · exact se_rev (chkE_ok o h q)
    · cases q
  | .tup as, X, W, C, p, h, q => by
    simp only [chkE] at q
    split at q
    · simp only [Bool.and_eq_true] at q
      exact se_tup (chkEs_ok as h q.1).1 (of_decide_eq_true q.2)
    · cases q
  | .lst m as, X, W, C, p, h, q => by
    simp only [chkE] at q
    split at q
    · simp only [Bool.and_eq_true] at q
      exact se_lst (chkEs_ok as h q.1).1 (of_decide_eq_true q.2)
    · cases q
  | .dct m ps, X, W, C, p, h, q => by
    simp only [chkE] at q
    split at q
    · rename_i ks vs pp
      simp only [Bool.and_eq_true, decide_eq_true_eq] at q
      have sp := chkPs_ok ps h q.1
      by_cases h0 : ks = []
      · subst h0
        cases sp
        exact se_dct0
      · exact se_dct sp h0 q.2
    · cases q
  | .comp m elt tg it ifs own, X, W, C, p, h, q => by
    simp only [chkE] at q
    split at q
    · simp only [Bool.and_eq_true] at q
      obtain ⟨⟨⟨⟨⟨⟨⟨q1, q2⟩, q3⟩, q4⟩, q5⟩, q6⟩, q7⟩, q8⟩ := q
      obtain ⟨ow, ok, ho⟩ := blkB_ok h q2
      exact se_lc (h.cm q1) h.nd ok ho (fun i hi => List.contains_iff_mem.mp (List.all_eq_true.mp q3 i hi)) (chkI_ok it h q4) (fun s H A cl fp => chkT_ok tg (h.blk s H _ A cl fp) q6) (fun s H A cl fp => chkBs_ok ifs (h.blk s H _ A cl fp) q7)
        (fun s H A cl fp => chkE_ok elt (h.blk s H _ A cl fp) q8) q5
    · cases q
  | .comp2 .., X, W, C, p, h, q => by simp only [chkE, Bool.false_eq_true] at q
  | .lof m (.range as), X, W, C, p, h, q => by
    simp only [chkE] at q
    split at q
    · simp only [Bool.and_eq_true, Bool.or_eq_true, beq_iff_eq] at q
      obtain ⟨⟨⟨⟨⟨⟨⟨⟨q1, q2⟩, q3⟩, q4⟩, q5⟩, q6⟩, q7⟩, q8⟩, q9⟩ := q
      obtain ⟨s1, s2, s3⟩ := chkEs_ok as h q8
      have e := is_ok q2
      have e2 := is_ok q5
      subst e e2
      exact se_lof (h.cm q1) (gl_ok h q3) (h.G.blts _ q4) (gl_ok h q6) (h.G.blts _ q7) s1 s2 s3 q9
    · cases q
  | .lof m (.e _), X, W, C, p, h, q => by simp only [chkE, Bool.false_eq_true] at q
  | .lof m (.zip _), X, W, C, p, h, q => by simp only [chkE, Bool.false_eq_true] at q
  | .lof m (.enum _), X, W, C, p, h, q => by simp only [chkE, Bool.false_eq_true] at q
  | .lof m (.rev _), X, W, C, p, h, q => by simp only [chkE, Bool.false_eq_true] at q
  | .fs .., X, W, C, p, h, q => by simp only [chkE, Bool.false_eq_true] at q
  | .xf .., X, W, C, p, h, q => by simp only [chkE, Bool.false_eq_true] at q
termination_by structural e => e
theorem chkB_ok : ∀ (e : B) {X : Cx} {W : WX} {C : Ck} {p : Expr}, OkX X Φ n W C → chkB e C p = true → SB X Φ cur W p e
  | .not a, X, W, C, p, h, q => by
    simp only [chkB] at q
    split at q
    · exact sb_not (chkB_ok a h q)
    · cases q
  | .and a b, X, W, C, p, h, q => by
    simp only [chkB] at q
    split at q
    · simp only [Bool.and_eq_true] at q
      exact sb_and (chkB_ok a h q.1) (stripB_ok (chkB_ok b h q.2))
    · cases q
  | .or a b, X, W, C, p, h, q => by
    simp only [chkB] at q
    split at q
    · simp only [Bool.and_eq_true] at q
      exact sb_or (chkB_ok a h q.1) (stripB_ok (chkB_ok b h q.2))
    · cases q
  | .t e, X, W, C, p, h, q => by
    simp only [chkB, Bool.and_eq_true] at q
    obtain ⟨q1, q2⟩ := q
    by_cases ht : byTruth p = true
    · exact sb_t (chkE_ok e h q2) (truth_one ht)
    · have hc : isCmp e p = true := by
        rcases (Bool.or_eq_true _ _).mp q1 with q | q
        · exact absurd q ht
        · exact q
      cases e with
      | cmp o a b =>
        simp only [chkE] at q2
        split at q2
        · simp only [Bool.and_eq_true] at q2
          obtain ⟨⟨⟨q1, q2⟩, q3⟩, q4⟩ := q2
          rw [cop_ok q1]
          exact sb_cmp h.u64 _ (chkE_ok a h q2) (chkE_ok b h q3) (no_mark q4)
        · cases q2
      | cmp2 o o' a b c =>
        simp only [chkE] at q2
        split at q2
        · simp only [Bool.and_eq_true] at q2
          obtain ⟨⟨⟨⟨⟨q1, q2⟩, q3⟩, q4⟩, q5⟩, q6⟩ := q2
          rw [cop_ok q1, cop_ok q2]
          exact sb_cmp2 h.u64 _ _ (chkE_ok a h q3) (chkE_ok b h q4) (chkE_ok c h q5) (no_marks q6)
        · cases q2
      | _ => simp only [isCmp, Bool.false_eq_true] at hc
termination_by structural e => e
theorem chkEs_ok : ∀ (r : List E) {X : Cx} {W : WX} {C : Ck} {ps : List Expr}, OkX X Φ n W C → chkEs r C ps = true → SEs X Φ cur W ps r ∧ ps.all notStar = true ∧ ps.length = r.length
  | [], X, W, C, ps, h, q => by
    simp only [chkEs, List.isEmpty_iff] at q
    subst q
    exact ⟨ss_nil, rfl, rfl⟩
  | a :: r, X, W, C, ps, h, q => by
    simp only [chkEs] at q
    split at q
    · simp only [Bool.and_eq_true] at q
      obtain ⟨⟨q1, q2⟩, q3⟩ := q
      obtain ⟨s1, s2, s3⟩ := chkEs_ok r h q3
      exact ⟨ss_cons (chkE_ok a h q1) s1 (star_one q2), by simp only [List.all_cons, q2, s2, Bool.and_self], by simp only [List.length_cons, s3]⟩
    · cases q
termination_by structural r => r
theorem chkPs_ok : ∀ (r : List (E × E)) {X : Cx} {W : WX} {C : Ck} {ks : List (Option Expr)} {vs : List Expr}, OkX X Φ n W C → chkPs r C ks vs = true → SPs X Φ cur W ks vs r
  | [], X, W, C, ks, vs, h, q => by
    simp only [chkPs, Bool.and_eq_true, List.isEmpty_iff] at q
    obtain ⟨rfl, rfl⟩ := q
    exact .nil
  | (a, b) :: r, X, W, C, ks, vs, h, q => by
    simp only [chkPs] at q
    split at q
    · simp only [Bool.and_eq_true] at q
      exact .cons (chkE_ok a h q.1.1) (chkE_ok b h q.1.2) (chkPs_ok r h q.2)
    · cases q
termination_by structural r => r
theorem chkKs_ok : ∀ (r : List (String × E)) {X : Cx} {W : WX} {C : Ck} {ps : List Keyword}, OkX X Φ n W C → chkKs r C ps = true → SKs X Φ cur W ps r
  | [], X, W, C, ps, h, q => by
    simp only [chkKs, List.isEmpty_iff] at q
    subst q
    exact sk_nil
  | (x, a) :: r, X, W, C, ps, h, q => by
    simp only [chkKs] at q
    split at q
    · simp only [Bool.and_eq_true] at q
      rename_i kw ps'
      obtain ⟨nm, pe, kpos⟩ := kw
      exact sk_cons (chkE_ok a h q.1) (chkKs_ok r h q.2)
    · cases q
termination_by structural r => r
theorem chkBs_ok : ∀ (r : List B) {X : Cx} {W : WX} {C : Ck} {ps : List Expr}, OkX X Φ n W C → chkBs r C ps = true → STs X Φ cur W ps r
  | [], X, W, C, ps, h, q => by
    simp only [chkBs, List.isEmpty_iff] at q
    subst q
    exact sts_nil'
  | a :: r, X, W, C, ps, h, q => by
    simp only [chkBs] at q
    split at q
    · simp only [Bool.and_eq_true, List.isEmpty_iff] at q
      obtain ⟨q1, q2⟩ := q
      subst q2
      exact sts_one (chkB_ok a h q1)
    · cases q
termination_by structural r => r
theorem chkO_ok : ∀ (r : Option E) {X : Cx} {W : WX} {C : Ck} {p : Option Expr}, OkX X Φ n W C → chkO r C p = true → PO X p (tOs X.K X.w Φ cur W r)
  | none, X, W, C, p, h, q => by
    simp only [chkO, Option.isNone_iff_eq_none] at q
    subst q
    exact so_none
  | some a, X, W, C, p, h, q => by
    simp only [chkO] at q
    split at q
    · exact so_some (chkE_ok a h q)
    · cases q
termination_by structural r => r
theorem chkI_ok : ∀ (r : I) {X : Cx} {W : WX} {C : Ck} {tg p : Expr}, OkX X Φ n W C → chkI r C tg p = true → SI X Φ cur W tg p r
  | .e a, X, W, C, tg, p, h, q => by
    simp only [chkI] at q
    exact si_e (chkE_ok a h q)
  | .range as, X, W, C, tg, p, h, q => by
    simp only [chkI] at q
    split at q
    · simp only [Bool.and_eq_true, Bool.or_eq_true, beq_iff_eq] at q
      obtain ⟨⟨⟨⟨q1, q2⟩, q3⟩, q4⟩, q5⟩ := q
      obtain ⟨s1, s2, s3⟩ := chkEs_ok as h q4
      have e := is_ok q1
      subst e
      exact si_range (gl_ok h q2) (h.G.blts _ q3) s1 s2 s3 q5
    · cases q
  | .enum a, X, W, C, tg, p, h, q => by
    simp only [chkI] at q
    split at q
    · simp only [Bool.and_eq_true] at q
      obtain ⟨⟨⟨⟨⟨q1, q2⟩, q3⟩, q4⟩, q5⟩, q6⟩ := q
      have e := is_ok q1
      subst e
      cases tg with
      | Tuple _ _ _ => exact si_enum (gl_ok h q2) (h.G.blts _ q3) (chkE_ok a h q4) q5
      | _ => cases q6
    · cases q
  | .zip as, X, W, C, tg, p, h, q => by
    simp only [chkI] at q
    split at q
    · simp only [Bool.and_eq_true, Bool.or_eq_true, beq_iff_eq] at q
      obtain ⟨⟨⟨⟨⟨q1, q2⟩, q3⟩, q4⟩, q5⟩, q6⟩ := q
      obtain ⟨s1, s2, s3⟩ := chkEs_ok as h q4
      have e := is_ok q1
      subst e
      cases tg with
      | Tuple _ _ _ => exact si_zip' (gl_ok h q2) (h.G.blts _ q3) s1 s2 s3 q5
      | _ => cases q6
    · cases q
  | .rev _, X, W, C, tg, p, h, q => by simp only [chkI, Bool.false_eq_true] at q
termination_by structural r => r
theorem chkT_ok : ∀ (r : T) {X : Cx} {W : WX} {C : Ck} {p : Expr}, OkX X Φ n W C → chkT r C p = true → ST X Φ cur W p r
  | .n i, X, W, C, p, h, q => by
    simp only [chkT] at q
    split at q
    · simp only [Bool.and_eq_true, Bool.or_eq_true] at q
      refine st_n h.nd (nm_ok h q.1.1) (loc_ok h q.1.2) ?_
      rcases q.2 with q2 | q2
      · exact .inl (h.fn _ q2)
      · rw [h.sc]
        exact .inr (eq_of_beq q2)
    · cases q
  | .tup ts, X, W, C, p, h, q => by
    simp only [chkT] at q
    split at q
    · simp only [Bool.and_eq_true] at q
      obtain ⟨s1, s2, s3⟩ := chkTs_ok ts h.w0 q.2
      exact st_tup (h.cm q.1) s1 s2 s3
    · cases q
  | .at o f, X, W, C, p, h, q => by
    simp only [chkT] at q
    split at q
    · simp only [Bool.and_eq_true] at q
      have e := is_ok q.1
      subst e
      exact st_at h.G.cls (chkE_ok o h q.2)
    · cases q
  | .ix o i, X, W, C, p, h, q => by
    simp only [chkT] at q
    split at q
    · simp only [Bool.and_eq_true] at q
      exact st_ix h.u64 (chkE_ok o h q.1.1) (chkE_ok i h q.1.2) q.2
    · cases q
termination_by structural r => r
theorem chkTs_ok : ∀ (r : List T) {X : Cx} {C : Ck} {ps : List Expr}, OkX X Φ n W0 C → chkTs r C ps = true → PGs X ps (tGs X.K X.w Φ cur W0 r) ∧ ps.all notStar = true ∧ ps.length = r.length
  | [], X, C, ps, h, q => by
    simp only [chkTs, List.isEmpty_iff] at q
    subst q
    exact ⟨sts_nil, rfl, rfl⟩
  | t :: r, X, C, ps, h, q => by
    simp only [chkTs] at q
    split at q
    · simp only [Bool.and_eq_true] at q
      obtain ⟨⟨q1, q2⟩, q3⟩ := q
      obtain ⟨s1, s2, s3⟩ := chkTs_ok r h q3
      exact ⟨sts_cons (chkT_ok t h q1) s1 q2, by simp only [List.all_cons, q2, s2, Bool.and_self], by simp only [List.length_cons, s3]⟩
    · cases q
termination_by structural r => r
end
end
end PV
set_option Elab.async false
set_option linter.all false
set_option maxRecDepth 100000
set_option maxHeartbeats 4000000
/-! PvSw: assignments whose stores are told apart by the compiler. -/
namespace PV
open PySem PySem.Spec PyProof.Rows L2
theorem bk_fn {env : PySem.Env} (h : env.scope.kind = .function) : env.blockKind = .function := by
  unfold Env.blockKind
  rw [h]
  rfl
/-- local names written on one line -/
def locals1 (sc : Scope) (l : Nat) (ts : List Expr) : List Str := ts.filterMap fun
  | .Name z q => if knd sc z == some .local && q.line == l then some z else none
  | _ => none
def line1 (ts : List Expr) : Nat := (ts.head?.map fun t => t.pos.line).getD 0
def swNone (sc : Scope) : Expr → Expr → Bool
  | .Tuple ts _ _, .Tuple vs _ _ => !(ts.length == 2 || ts.length == 3) || vs.length != ts.length || (locals1 sc (line1 ts) ts).length != ts.length || vs.all (foldedForSure 8)
  | .List .., _ => false
  | _, _ => true
theorem swNone_ok {env : PySem.Env} {p e : Expr} (h : swNone env.scope p e = true) (hk : env.scope.kind = .function) : swappedStores [p] e env = pure none := by
  unfold swNone at h
  split at h
  · rename_i ts k1 p1 vs k2 p2
    unfold swappedStores
    simp only [bk_fn hk]
    by_cases c1 : (!(ts.length == 2 || ts.length == 3) || vs.length != ts.length || (ScopeKind.function != ScopeKind.function)) = true
    · rw [if_pos c1]
    · rw [if_neg c1]
      split
      · rfl
      · split
        · rfl
        · rename_i c3
          split
          · rfl
          · rename_i c4
            exfalso
            simp only [Bool.or_eq_true, not_or] at c1 c3
            simp only [Bool.or_eq_true] at h
            rcases h with ((h | h) | h) | h
            · exact c1.1.1 h
            · exact c1.1.2 h
            · exact c3.1 h
            · exact c4 h
  · cases h
  · rename_i h1 h2
    unfold swappedStores
    cases p <;> first | rfl | (exfalso; exact h1 _ _ rfl) | (cases e <;> first | rfl | (exfalso; exact h2 _ _ _ _ _ _ rfl rfl))
/-- names stored from the right -/
def swSome (sc : Scope) (ts vs : List Expr) (ns : List Str) : Bool :=
  (ts.length == 2 || ts.length == 3) && vs.length == ts.length && vs.all notStar && locals1 sc (line1 ts) ts == ns && ns.length == ts.length && ns.eraseDups.length == ns.length && !(vs.all (foldedForSure 8)) && !(vs.all (constantsAlone 8))
theorem swSome_ok {env : PySem.Env} {ts vs : List Expr} {ns : List Str} {k1 k2 : Nat} {p1 p2 : Pos} (h : swSome env.scope ts vs ns = true) (hk : env.scope.kind = .function) : swappedStores [.Tuple ts k1 p1] (.Tuple vs k2 p2) env = pure (some ns) := by
  unfold swSome at h
  simp only [Bool.and_eq_true, Bool.not_eq_true'] at h
  obtain ⟨⟨⟨⟨⟨⟨⟨h1, h2⟩, h3⟩, h4⟩, h5⟩, h6⟩, h7⟩, h8⟩ := h
  have e4 : locals1 env.scope (line1 ts) ts = ns := eq_of_beq h4
  unfold swappedStores
  simp only [bk_fn hk]
  have c1 : ¬ (!(ts.length == 2 || ts.length == 3) || vs.length != ts.length || (ScopeKind.function != ScopeKind.function)) = true := by
    rw [h1]
    simp [eq_of_beq h2]
  rw [if_neg c1]
  have c2 : ∀ l : List Expr, l.all notStar = true → (l.any fun x => match x with
      | .Starred _ _ => true
      | _ => false) = false := fun l => by
    induction l with
    | nil => intro _; rfl
    | cons x l ih =>
      intro hx
      simp only [List.all_cons, Bool.and_eq_true] at hx
      simp only [List.any_cons, ih hx.2, Bool.or_false]
      cases x <;> first | rfl | (exact absurd hx.1 (by simp [notStar]))
  split
  · rename_i c
    exact absurd ((c2 vs h3).symm.trans c) Bool.false_ne_true
  · split
    · rename_i c
      exfalso
      have c' : ((locals1 env.scope (line1 ts) ts).length != ts.length || (locals1 env.scope (line1 ts) ts).eraseDups.length != (locals1 env.scope (line1 ts) ts).length) = true := c
      rw [e4] at c'
      simp [eq_of_beq h5, eq_of_beq h6] at c'
    · split
      · rename_i c
        rw [h7] at c
        cases c
      · split
        · rename_i c
          rw [h8] at c
          cases c
        · show pure (some (locals1 env.scope (line1 ts) ts)) = _
          rw [e4]
/-- a comprehension's value and the target change places -/
def swC (sc : Scope) (t e : Expr) : Bool := match e with
  | .ListComp _ _ s p => (match t with
    | .Name t q => knd sc t == some .local && q.line == p.line && !(s.names.any fun y => y.1 == t && (y.2 == .local || y.2 == .cell))
    | _ => false)
  | _ => false
def noSD : Expr → Bool
  | .SetComp .. => false
  | .DictComp .. => false
  | _ => true
theorem swC_ok {env : PySem.Env} {t e : Expr} {l : Nat} (h : noSD e = true) (hk : env.scope.kind = .function) : swapsWithSole [t] e l env = pure (swC env.scope t e) := by
  show swapsWith e (some t) l env = _
  by_cases hc : notComp e = true
  · rw [sw_false hc]
    cases e <;> first | rfl | (exact absurd hc Bool.false_ne_true)
  · cases e <;> first | (exact absurd rfl hc) | (exact absurd h Bool.false_ne_true) | skip
    cases t <;> first | rfl | skip
    rename_i elt gens s p t q
    show (pure (env.blockKind == .function && env.kindOf t == some .local && q.line == p.line && !(s.names.any fun (n, k) => n == t && (k == .local || k == .cell))) : Sem Bool) = _
    rw [bk_fn hk]
    rfl
end PV
set_option Elab.async false
set_option linter.all false
set_option maxRecDepth 100000
set_option maxHeartbeats 4000000
/-! PvStm3: assignments of pairs, of comprehensions. -/
namespace PV
open PySem PySem.Spec PyProof.Rows L2
section
variable {X : Cx} {Φ : Prog} {Wf : Nat} {cur : Option Exn} {W : WX} {pos ppos : Pos}
theorem out_bind {α β : Type} {r : Res α} {f : α → Store → Res β} {σ : Env} {g : β → Store → Out} : (r.bind f).out σ g = r.out σ fun a s => (f a s).out σ g := by cases r <;> rfl
theorem ss_par {i j : Nat} {x y : Str} {a b : Expr} {ea eb : E} {px py pt pt2 : Pos} {kt k2 : Nat} (hc : X.calm = true) (hN : X.N.Nodup) (hi : X.N[i]? = some x) (hj : X.N[j]? = some y) (hij : i ≠ j)
    (hx : X.env.scope.names.lookup x = some .local) (hy : X.env.scope.names.lookup y = some .local) (ha : SEs X Φ cur W [a, b] [ea, eb])
    (hw : swappedStores [.Tuple [.Name x px, .Name y py] kt pt] (.Tuple [a, b] k2 pt2) X.env = pure (some [x, y])) :
    SS X Φ Wf cur W (.Assign [.Tuple [.Name x px, .Name y py] kt pt] (.Tuple [a, b] k2 pt2) pos) (.asg (.tup [.n i, .n j]) (.tup [ea, eb])) :=
  ps_w (ps_par hc hN hi hj hij hx hy ha hw rfl) fun D τ H ⟨ρ, k, st, σ, at_, run⟩ => by
    simp only [exec, evalE, out_bind, Res.out_ok] at run
    refine ⟨ρ, k, st, σ, at_, run.seq at_ fun xs ρ1 k1 H1 st1 ex e1 a1 run1 vs rvs => ?_⟩
    have hl := evalEs_len ex
    match xs, hl with
    | [d, d'], _ =>
      simp only [RVs] at rvs
      obtain ⟨v, _, rfl, rv, v', _, rfl, rv', rfl⟩ := rvs
      refine ⟨v, v', rfl, ?_⟩
      by_cases h1 : i < σ.length
      · by_cases h2 : j < σ.length
        · have h2' : j < (σ.set i (some d)).length := by simpa using h2
          simp only [assign, assigns, h1, h2, h2', if_true, Res.bind_ok, Res.noex_ok, Res.out_ok, List.length_set] at run1
          exact run1 ρ1 k1 H1 _ Ext.refl ⟨a1.sim, (a1.env.set rv).set rv'⟩
        · simp only [assign, assigns, h1, h2, if_true, if_false, Res.bind_ok, List.length_set] at run1
          exact run1.elim
      · simp only [assign, assigns, h1, if_false, Res.bind_stuck] at run1
        exact run1.elim
theorem ss_par3 {i j l : Nat} {x y z : Str} {a b c : Expr} {ea eb ec : E} {px py pz pt pt2 : Pos} {kt k2 : Nat} (hc : X.calm = true) (hN : X.N.Nodup) (hi : X.N[i]? = some x) (hj : X.N[j]? = some y) (hl : X.N[l]? = some z) (hij : i ≠ j) (hil : i ≠ l) (hjl : j ≠ l)
    (hx : X.env.scope.names.lookup x = some .local) (hy : X.env.scope.names.lookup y = some .local) (hz : X.env.scope.names.lookup z = some .local) (ha : SEs X Φ cur W [a, b, c] [ea, eb, ec])
    (hw : swappedStores [.Tuple [.Name x px, .Name y py, .Name z pz] kt pt] (.Tuple [a, b, c] k2 pt2) X.env = pure (some [x, y, z])) :
    SS X Φ Wf cur W (.Assign [.Tuple [.Name x px, .Name y py, .Name z pz] kt pt] (.Tuple [a, b, c] k2 pt2) pos) (.asg (.tup [.n i, .n j, .n l]) (.tup [ea, eb, ec])) :=
  ps_w (ps_par3 hc hN hi hj hl hij hil hjl hx hy hz ha hw rfl) fun D τ H ⟨ρ, k, st, σ, at_, run⟩ => by
    simp only [exec, evalE, out_bind, Res.out_ok] at run
    refine ⟨ρ, k, st, σ, at_, run.seq at_ fun xs ρ1 k1 H1 st1 ex e1 a1 run1 vs rvs => ?_⟩
    have hl := evalEs_len ex
    match xs, hl with
    | [d, d', d''], _ =>
      simp only [RVs] at rvs
      obtain ⟨v, _, rfl, rv, v', _, rfl, rv', v'', _, rfl, rv'', rfl⟩ := rvs
      refine ⟨v, v', v'', rfl, ?_⟩
      by_cases h1 : i < σ.length
      · by_cases h2 : j < σ.length
        · by_cases h3 : l < σ.length
          · simp only [assign, assigns, h1, h2, h3, if_true, Res.bind_ok, Res.noex_ok, Res.out_ok, List.length_set] at run1
            exact run1 ρ1 k1 H1 _ Ext.refl ⟨a1.sim, ((a1.env.set rv).set rv').set rv''⟩
          · simp only [assign, assigns, h1, h2, h3, if_true, if_false, Res.bind_ok, List.length_set] at run1
            exact run1.elim
        · simp only [assign, assigns, h1, h2, if_true, if_false, Res.bind_ok, Res.bind_stuck, List.length_set] at run1
          exact run1.elim
      · simp only [assign, assigns, h1, if_false, Res.bind_stuck] at run1
        exact run1.elim
variable {pe ptg pit : Expr} {pifs : List Expr} {elt : E} {tg : T} {it : I} {ifs : List B} {own : List Nat} {ow : List (Str × Nat)} {scope : Scope}
/-- y = [.. for ..] on one line -/
theorem ss_setLc {i : Nat} {y : Str} {py : Pos} {m : Bool} (hc : X.calm = true) (hN : X.N.Nodup) (hy : X.N[i]? = some y) (hyl : X.env.scope.names.lookup y = some .local)
    (hsw : swapsWith (.ListComp pe [⟨ptg, pit, pifs, 0⟩] scope ppos) (some (.Name y py)) pos.line X.env = pure true) (ok : BlkOk X.N X.env.scope scope ow) (ho : ow.map (·.2) = own) (hsl : ∀ i ∈ slotsT tg, i ∈ own) (hi : SI X Φ cur W ptg pit it)
    (hg : ∀ (s : Shared) (H : Hp) (C : Addr) (cl : List (Str × Addr)) (fp : List Addr), ST (X.blk s H scope (compEnvC scope cl C X.env) fp) Φ cur W0 ptg tg)
    (ht : ∀ (s : Shared) (H : Hp) (C : Addr) (cl : List (Str × Addr)) (fp : List Addr), STs (X.blk s H scope (compEnvC scope cl C X.env) fp) Φ cur W0 pifs ifs)
    (he : ∀ (s : Shared) (H : Hp) (C : Addr) (cl : List (Str × Addr)) (fp : List Addr), SE (X.blk s H scope (compEnvC scope cl C X.env) fp) Φ cur W0 pe elt) (hs : notSet pit = true) :
    SS X Φ Wf cur W (.Assign [.Name y py] (.ListComp pe [⟨ptg, pit, pifs, 0⟩] scope ppos) pos) (.asg (.n i) (.comp m elt tg it ifs own)) :=
  ps_w (ps_setLc hc hN hy hyl hsw hi ok hg ht he (no_fold hs)) fun D τ H ⟨ρ, k, st, σ, at_, run⟩ => by
    refine se_comp (cur := cur) (m := m) hc hN ok ho hsl hi hg ht he hs ?_
    simp only [exec] at run
    refine ⟨ρ, k, st, σ, at_, run.seq at_ fun d ρ1 k1 H1 st1 ex e1 a1 run1 v rv => ?_⟩
    simp only [assign] at run1
    split at run1
    · simp only [Res.out_ok] at run1
      exact run1 ρ1 k1 H1 _ Ext.refl ⟨a1.sim, a1.env.set rv⟩
    · exact run1.elim
end
end PV
set_option Elab.async false
set_option linter.all false
set_option maxRecDepth 100000
set_option maxHeartbeats 4000000
/-! PvExc: raise of the module's own exceptions. -/
namespace PV
open PySem PySem.Spec PyProof.Rows L2
/-! ### what the written part says of an exception's class -/
def oexB (K : PySem.W.Frag) (C : Addr) : Bool := (match K.lookup C with
  | some ⟨.type "type", _, .cls cd, sl⟩ => (match cd.mro, sl.toList with
    | .ref C' :: bm, [_, _, _, _, some (.builtin n), _] => C' == C && n == "ValueError.__new__" && !cd.hasDel && cd.hasDict && PySem.HandSPX.refsVE bm
    | _, _ => false)
  | _ => false) && decide (PySem.W.findIn K (.ref C) "__setattr__" = some (some (.builtin "object.__setattr__"))) && decide (PySem.W.subIn K (.ref C) (.type "BaseException") = some true) && decide (PySem.W.typeIn K (.ref C) = some (.type "type")) && PySem.W.keepIn K (.ref C)
theorem oexB_ok {K : PySem.W.Frag} {C : Addr} (h : oexB K C = true) : OexC K C := by
  unfold oexB at h
  simp only [Bool.and_eq_true, decide_eq_true_eq] at h
  obtain ⟨⟨⟨⟨q, h1⟩, h2⟩, h3⟩, h4⟩ := h
  refine ⟨?_, h1, h2, h3, h4⟩
  split at q
  · rename_i dd cd sl ho
    split at q
    · rename_i C' bm k0 k1 k2 k3 n k5 hm hs
      simp only [Bool.and_eq_true, beq_iff_eq, Bool.not_eq_true'] at q
      obtain ⟨⟨⟨⟨rfl, rfl⟩, hdel⟩, hdd⟩, ht⟩ := q
      obtain ⟨nm, bs, mro, ns, qn, hd, sn, sub, ab, col, del⟩ := cd
      dsimp only at hm hdel hdd
      subst hm hdel hdd
      have hsl : sl = #[k0, k1, k2, k3, some (.builtin "ValueError.__new__"), k5] := by
        obtain ⟨l⟩ := sl
        simp only at hs
        rw [hs]
      subst hsl
      exact ⟨nm, qn, ns, bs, bm, sn, sub, ab, col, dd, k0, k1, k2, k3, k5, ho, ht⟩
    · cases q
  · cases q
/-- an own base class's __init__ is ValueError's -/
structure BaseOk (K : PySem.W.Frag) (mg : Str → Option Value) (B : Str) : Prop where
  ex : ∃ CB mc, mg B = some (.ref CB) ∧ PySem.W.readsIn K CB mc = true ∧ PySem.W.specialIn K (.ref CB) "__getattribute__" = some (some (.builtin "type.__getattribute__")) ∧
    PySem.W.findCls K (.ref CB) mc "__init__" = some (.val (.builtin "ValueError.__init__"))
def baseB (K : PySem.W.Frag) (B : Str) : Bool := (He.Fa.glo B).ok K && PySem.W.readsIn K (He.ga K B) (.type "type") && decide (PySem.W.specialIn K (.ref (He.ga K B)) "__getattribute__" = some (some (.builtin "type.__getattribute__"))) &&
  (match PySem.W.findCls K (.ref (He.ga K B)) (.type "type") "__init__" with
  | some (.val (.builtin n)) => n == "ValueError.__init__"
  | _ => false)
theorem baseB_ok {K : PySem.W.Frag} {h : Heap} {mg : Str → Option Value} {B : Str} (X : K.In h) (G : h.Ns mainGlobals mg) (q : baseB K B = true) : BaseOk K mg B := by
  unfold baseB at q
  simp only [Bool.and_eq_true, decide_eq_true_eq] at q
  obtain ⟨⟨⟨q1, q2⟩, q3⟩, q4⟩ := q
  refine ⟨_, _, He.glo_ok X G q1, q2, q3, ?_⟩
  split at q4
  · rename_i n e
    rw [e, eq_of_beq q4]
  · cases q4
section
variable {X : Cx} {e : Expr} {es : List Expr} {ta : TA} {p1 p2 pos : Pos}
theorem pe_beinit {B : Str} {pl : Sem Bool} (b : BaseOk X.K X.mg B) (hg : Gl X B) (hdb : (B == ("__debug__" : Str)) = false) (ha : PA X (e :: es) ta)
    (hc : eval (.Call (.Attribute (.Name B p1) "__init__" p2) (e :: es) [] pos) X.env = (do
      let ov ← eval (.Name B p1) X.env
      standAt p2.atName
      let (f, first) ← holding [ov] (getMethod ov "__init__" pl)
      callWith pos f first (backTo pos (starEach (e :: es) X.env)) (backToKw pos (keywordEach [] X.env))))
    (he : starEach (e :: es) X.env = (false, eval e X.env) :: starEach es X.env) (hpl : (backTo pos (starEach es X.env)).any (·.1) = false) :
    PE X (.Call (.Attribute (.Name B p1) "__init__" p2) (e :: es) [] pos) (tVeI X.K ta) := by
  refine ⟨fun pins s σ H Q I h => ?_⟩
  obtain ⟨CB, mc, hm, rd, ga, vV⟩ := b.ex
  refine PySem.W.methodCall_KW (ld_glob I hg hm ?_ hdb) hc
  refine PySem.W.method_cls I.kIn ga (PySem.W.cls_value I.kIn rd vV (by decide +kernel) ?_)
  show wpAny _ _ (callWith pos (Value.builtin "ValueError.__init__") [] (backTo pos (starEach (e :: es) X.env)) []) _ _ _
  refine PyProof.Rows.callWith_method1 (thn (ha.run pos pins _ σ H _ (I.tok _) h) fun us s1 ⟨vs, H1, I1, r1, a, C, ws, ev, hl, T, ea, q⟩ => ?_) he hpl
  subst ev
  cases r1 with
  | @cons _ u0 _ ur ra rw' =>
    obtain rfl : u0 = Value.ref a := ra
    have hlen : ur.length ≤ sizeLine := by
      rw [← Paired.length rw', sizeLine_eq]
      omega
    exact oinit_ok T I1 ea hlen fun s' J => ⟨.non, H1, J, rfl, q⟩
end
/-! ### the __init__ of an exception -/
def spInit (K : PySem.W.Frag) (C : Addr) (f : Str) : Sp := fun vs H Q _ => ∃ (a : Addr) (v : V), vs = [.ref a, v] ∧ OexC K C ∧ PySem.W.findIn K (.ref C) f = some none ∧ H a = some (exo a C none) ∧
  ∀ dx, H dx = none → dx ≠ a → Q .non (upd (upd H dx (exd dx [(f, v)])) a (exo a C (some dx)))
/-- B.__init__(x0, "..") / x0.f = x1 -/
def initB (B x0 x1 f : Str) (sc : Scope) : List Stmt → Bool
  | [.Expr (.Call (.Attribute (.Name b q1) i q2) [.Name s1 q3, .Constant (.str m) j q4] [] q5) q6, .Assign [.Attribute (.Name s2 q7) g q8] (.Name v2 q9) q10] =>
    b == B && i == "__init__" && s1 == x0 && s2 == x0 && g == f && v2 == x1 && dbg B && dbg x0 && dbg x1 && plainN x0 && plainN x1 && (q2.endLine == q5.line) && (sc.names.lookup B == some .globalImplicit) && (sc.names.lookup x0 == some .local) && (sc.names.lookup x1 == some .local) && notSup (.Name b q1)
  | _ => false
theorem init_ok {P : Program} {w : World} {K : PySem.W.Frag} {mg : Str → Option Value} {base : Heap} {nm qual : Str} {params : Arguments} {body : List Stmt} {scope : Scope} {fI C : Addr} {fd : FuncData} {B x0 x1 f : Str} (b : BaseOk K mg B)
    (F : FunD K nm qual params body scope [] [] fI fd) (S : FnScope [x0, x1] [x0, x1] scope) (hbd : initB B x0 x1 f scope body = true) : FnOk P w K mg base CX0 1 fI fd [x0, x1] (spInit K C f) := by
  refine FunD.ok F S (fun vs H Q E h => by obtain ⟨a, v, rfl, _⟩ := h; rfl) fun cdv A outer s H vs Q E hr h => ?_
  unfold initB at hbd
  split at hbd
  · rename_i b' q1 i q2 s1 q3 m j q4 q5 q6 s2 q7 g q8 v2 q9 q10
    simp only [Bool.and_eq_true] at hbd
    obtain ⟨⟨⟨⟨⟨⟨⟨⟨⟨⟨⟨⟨⟨⟨⟨e1, e2⟩, e3⟩, e4⟩, e5⟩, e6⟩, d1⟩, d2⟩, d3⟩, n1⟩, n2⟩, ln⟩, k1⟩, k2⟩, k3⟩, ns⟩ := hbd
    have e1 := eq_of_beq e1
    have e2 := eq_of_beq e2
    have e3 := eq_of_beq e3
    have e4 := eq_of_beq e4
    have e5 := eq_of_beq e5
    have e6 := eq_of_beq e6
    subst e1 e2 e3 e4 e5 e6
    have k1 := eq_of_beq k1
    have k2 := eq_of_beq k2
    have k3 := eq_of_beq k3
    obtain ⟨a, v, rfl, T, hno, ea, hq⟩ := h
    have h0 : ∀ {q}, PE (cxOf CX0 P w K mg base [s2, v2] qual scope fI cdv A outer s H E) (.Name s2 q) (tVar 0) := fun {q} => pe_var rfl (.inl k2) (dbg_ok d2) (eq_of_beq (Bool.and_eq_true_iff.mp n1).2)
    have h1 : ∀ {q}, PE (cxOf CX0 P w K mg base [s2, v2] qual scope fI cdv A outer s H E) (.Name v2 q) (tVar 1) := fun {q} => pe_var rfl (.inl k3) (dbg_ok d3) (eq_of_beq (Bool.and_eq_true_iff.mp n2).2)
    have hs : [Expr.Name s2 q3, Expr.Constant (.str m) j q4].all notStar = true := rfl
    refine ⟨_, pss_cons (ps_expr (pe_beinit (pl := (do return (← importBound (.Name b' q1) (cxOf CX0 P w K mg base [s2, v2] qual scope fI cdv A outer s H E).env).getD true)) b k1 (dbg_ok d1) (pa_cons h0 (pa_cons pe_str pa_nil))
      (meth_form (ks := []) ns hs rfl (by show 2 < 29; decide) ln) (star_one rfl) (star_all (by rfl))) (by rfl)) (pss_one (ps_ost h0 h1 (by rfl))), ?_⟩
    have fr : ∀ dx : Addr, H dx = none → dx ≠ a → Q .non (upd (upd H dx (exd dx [(g, v)])) a (exo a C (some dx))) := hq
    refine ⟨.ref a, rfl, a, C, [.str m], rfl, by show 1 ≤ 1000; omega, T, ea, ?_⟩
    refine ⟨v, rfl, .ref a, rfl, a, C, rfl, T, hno, .inl ⟨ea, fun dx h1 h2 => fr dx h1 h2⟩⟩
  · cases hbd
theorem out_bindE {α β : Type} {r : Res α} {f : α → Store → Res β} {σ : Env} {g : β → Store → Out} : (r.bind f).out σ g = r.out σ fun a s => (f a s).out σ g := by cases r <;> rfl
/-! ### raise C(e) -/
/-- all that is known of an own exception: its class at C, its field f -/
structure ExcF (P : Program) (w : World) (K : PySem.W.Frag) (mg : Str → Option Value) (base : Heap) (c f : Str) : Prop where
  ex : ∃ (fI : Addr) (fd : FuncData) (ps : List Str), OexC K (He.ga K c) ∧ PySem.W.findIn K (.ref (He.ga K c)) "__init__" = some (some (.ref fI)) ∧ PySem.W.typeIn K (.ref fI) = some (.type "function") ∧ FnOk P w K mg base CX0 1 fI fd ps (spInit K (He.ga K c) f) ∧ Binds K fd ps [] ∧
    mg c = some (.ref (He.ga K c)) ∧ PySem.W.findIn K (.ref (He.ga K c)) f = some none
section
variable {X : Cx} {Φ : Prog} {Wf : Nat} {cur : Option Exn} {W : WX} {pos pos' ppos : Pos} {pe : Expr} {e : E}
theorem heap_end {H1 : Hp} {a dx C : Addr} {o : HO} {fs : List (Str × V)} (ha : H1 a = none) (hd : dx ≠ a) : upd (del (upd (upd (upd H1 a o) dx (exd dx fs)) a (exo a C (some dx))) a) dx (.xd fs) = upd H1 dx (.xd fs) := by
  funext b
  by_cases e1 : b = dx
  · rw [e1, upd_same, upd_same]
  · rw [upd_ne e1, upd_ne e1]
    by_cases e2 : b = a
    · rw [e2, del_same, ha]
    · rw [del_ne e2, upd_ne e2, upd_ne e1, upd_ne e2]
theorem ss_raise {c f : String} (hc : X.calm = true) (tk : Takes X W) (F : ExcF X.prog X.w X.K X.mg X.base (Str.ofString c) (Str.ofString f)) (hr : Room 2 X.A) (hf : Φ.fldOf c = f) (hg : Gl X (Str.ofString c)) (hdb : (Str.ofString c == ("__debug__" : Str)) = false) (he : SE X Φ cur W pe e) (h1 : notStar pe = true) :
    SS X Φ Wf cur W (.Raise (some (.Call (.Name (Str.ofString c) ppos) [pe] [] pos)) none pos') (.raise c [e]) := by
  obtain ⟨fI, fd, ps, T, iC, tI, F1, hb, hm, hno⟩ := F.ex
  refine ps_w (ps_raise hc tk (pmk_oex T iC tI F1 hr hb .nil pass0 hg hm (pa_cons he pa_nil (star_one h1)) hdb (star_one h1) (star_all (by rfl)))) fun D τ H ⟨ρ, k, st, σ, at_, run⟩ => ?_
  simp only [exec, evalEs, out_bindE, Res.out_ok] at run
  refine ⟨ρ, k, st, σ, at_, run.seq at_ fun x ρ1 k1 H1 st1 _ e1 a1 run1 v rv => ?_⟩
  refine ⟨by show 1 ≤ 1000; omega, fun a ha => ⟨a, v, rfl, T, hno, upd_same, fun dx n1 n2 => ⟨rfl, dx, [(Str.ofString f, v)], upd_same, ?_, ?_, ?_⟩⟩⟩
  · rw [upd_ne n2, upd_same]
  · rw [upd_ne n2] at n1
    exact n1
  · have nd : H1 dx = none := by rw [upd_ne n2] at n1; exact n1
    show W (.ref (He.ga X.K (Str.ofString c))) (some dx) τ _
    rw [heap_end ha n2]
    have ex := Ext.alloc (ρ := ρ1) (k := k1) (o := .xd [(Str.ofString f, v)]) nd
    refine run1 ρ1 k1 _ τ _ _ ex ⟨a1.sim.alloc nd, a1.env.mono ex⟩ ⟨rfl, .inr ⟨dx, _, v, rfl, upd_same, a1.sim.off nd, ?_, rv.mono ex⟩⟩
    rw [hf]
    exact List.lookup_cons_self ..
end
end PV
set_option Elab.async false
set_option linter.all false
set_option maxRecDepth 100000
set_option maxHeartbeats 4000000
/-! PvTry: try with several clauses, each with or without a name; a tail that is not read. -/
namespace PV
open PySem PySem.Spec PyProof.Rows L2
/-- a clause's reading: its class, the slot of its name, its suite; or clauses that are not read -/
inductive HdR where
  | one (c : Value) (i : Option Nat) (ts : Addr → Value → Option Addr → TS)
  | unread
/-- behind a suite its name is gone -/
def goneE (D : Ends) (i : Nat) : Ends := { nx := fun τ H => D.nx (τ.set i none) H, rt := D.rt, bk := fun τ H => D.bk (τ.set i none) H, ct := fun τ H => D.ct (τ.set i none) H }
def wX (K : PySem.W.Frag) (Wout : WX) (D : Ends) : List HdR → WX
  | [] => Wout
  | .unread :: _ => fun _ _ _ _ => False
  | .one c i ts :: r => fun cls d τ H => ∃ b, PySem.W.exmOne K cls c = some b ∧ (b = true → ∀ a, H a = none → (match i with
      | none => ts a cls d D τ H
      | some i => ts a cls d (goneE D i) (τ.set i (some (.ref a))) H)) ∧ (b = false → wX K Wout D r cls d τ H)
inductive HdX (X : Cx) : List ExceptHandler → List HdR → Prop where
  | nil : HdX X [] []
  | unread {hds : List ExceptHandler} : HdX X hds [.unread]
  | one {x : Str} {c : Value} {ts : Addr → Value → Option Addr → TS} {b₀ : Stmt} {suite : List Stmt} {np pos' : Pos} {hds : List ExceptHandler} {l : List HdR} (hc : Names X x c)
      (hsu : ∀ a oe cls d pn, Zc cls d oe → (∃ vs, oe.data = .fields vs) → PSs (X.suite a ((a, oe) :: pn)) (b₀ :: suite) (ts a cls d)) (r : HdX X hds l) :
      HdX X (.ExceptHandler (some (.Name x np)) none (b₀ :: suite) pos' :: hds) (.one c none ts :: l)
  | oneAs {x n : Str} {i : Nat} {c : Value} {ts : Addr → Value → Option Addr → TS} {b₀ : Stmt} {suite : List Stmt} {np pos' : Pos} {hds : List ExceptHandler} {l : List HdR} (hc : Names X x c) (hN : X.N.Nodup) (hi : X.N[i]? = some n) (hln : X.env.kindOf n = some .local)
      (hsu : ∀ a oe cls d pn, Zc cls d oe → (∃ vs, oe.data = .fields vs) → PSs (X.suite a ((a, oe) :: pn)) (b₀ :: suite) (ts a cls d)) (r : HdX X hds l) :
      HdX X (.ExceptHandler (some (.Name x np)) (some n) (b₀ :: suite) pos' :: hds) (.one c (some i) ts :: l)
section
variable {X : Cx} {body : List Stmt} {h0 : ExceptHandler} {hds : List ExceptHandler} {l : List HdR} {pos : Pos} {tb : WX → TS} {Wout : WX}
/-- the body's own end -/
theorem try_end {pins : List (Addr × Obj)} {D : Ends} {fl : Flow} {s1 : Shared} {X' : Cx} (un : ∀ {τ H}, Inv X' [] τ H s1 → Inv X pins τ H s1) (q : SP X' [] D fl s1) : SP X pins D fl s1 := by
  cases fl with
  | ret u => obtain ⟨v, τ, H, J, r, z⟩ := q; exact ⟨v, τ, H, un J, r, z⟩
  | next => obtain ⟨τ, H, J, z⟩ := q; exact ⟨τ, H, un J, z⟩
  | brk => obtain ⟨τ, H, J, z⟩ := q; exact ⟨τ, H, un J, z⟩
  | cont => obtain ⟨τ, H, J, z⟩ := q; exact ⟨τ, H, un J, z⟩
theorem ps_tryX (hs : X.stack = X.env :: X.outer) (hf : X.env.frame = some X.env.locals) (tk : Takes X Wout)
    (hb : ∀ W pn xe, Takes (X.tr pn xe) W → PassesOwn (model X.prog X.w) X.A X.env xe → PSs (X.tr pn xe) body (tb W)) (hh : HdX X (h0 :: hds) l) :
    PS X (.Try body (h0 :: hds) [] [] pos) (fun D τ H => tb (wX X.K Wout D l) D τ H) := by
  refine ⟨fun pins s τ H D I want => ?_⟩
  have ok := I.ok
  have frm : X.A.frames = some (X.env :: X.outer) := by rw [ok.frames, hs]
  refine wpAny_Try_except (wpAny_mono ((hb (wX X.K Wout D l) (X.pn ++ pins) (fun ev z1 => wpAny (model X.prog X.w) X.A (noteFrame ev X.env) (fun _ z2 => wpAny (model X.prog X.w) X.A (setFlight ev none) (fun _ z3 =>
    wpAny (model X.prog X.w) X.A (handleBy ev X.env (h0 :: hds)) (SP X pins D) X.xe z3) X.xe z2) X.xe z1) (fun u t got => ?_) PassesOwn.looking).run [] s τ H D (I.toTry _) want) (fun fl z1 ended => ?_) (fun _ _ z => z))
  · -- something was raised
    obtain ⟨a, B, sI, pins1, τ1, H1, cls, d, rfl, JT, nb, up, sky, na, os, ag, wish⟩ := got
    have J : Inv X pins τ1 H1 sI := JT.ofTry ok
    rw [hs] at sky
    show wpAny (model X.prog X.w) X.A (noteFrame (.ref a) X.env) _ _ _
    refine Sky.land Zc.steady frm hf sky fun hp3 fl3 up3 => ?_
    have J3 : Inv X pins τ1 H1 { t with heap := hp3 } := J.landed nb fl3.1 (up.trans up3) os ag
    obtain ⟨oe3, vs3, at3, zc3, dt3⟩ := fl3.there
    have apart : a ∉ frs (X.env :: X.outer) := fun mem => by
      obtain ⟨_, o', e', no⟩ := fl3.2.2.1.mem mem
      rw [at3] at e'
      cases e'
      exact no _ dt3
    have nL : a ≠ X.env.locals := fun z => apart (List.mem_filterMap.mpr ⟨X.env, List.mem_cons_self, by rw [hf, z]⟩)
    have nF : a ∉ X.fs := fun mem => by
      obtain ⟨e, he, q⟩ := List.mem_filterMap.mp mem
      exact apart (List.mem_filterMap.mpr ⟨e, List.mem_cons_of_mem _ he, q⟩)
    have S3 := J3.suite at3 dt3 na nL nF
    have isA : PySem.W.Looks (model X.prog X.w) hp3 (typeOf (.ref a)) cls := fun A Q E s k q => wpAny_typeOf_ref (k _ _ at3) (by rw [zc3.1]; exact q)
    have named : ∀ {x : Str} {np : Pos} {c : Value} {Q : Value → Shared → Prop} {E : Value → Shared → Prop}, Names X x c → Q c { t with heap := hp3 } → wpAny (model X.prog X.w) (X.A.mark (some (.ref a))) (eval (.Name x np) X.env) Q E { t with heap := hp3 } := fun {x np c Q E} hc q => by
      obtain ⟨hg, hdbg, hm | ⟨hm, hv, hnn⟩⟩ := hc
      · exact ld_glob (X := X.suite a ((a, oe3) :: (X.pn ++ pins))) S3 hg hm q hdbg
      · exact ld_blt (X := X.suite a ((a, oe3) :: (X.pn ++ pins))) S3 hg hm hv q hnn hdbg
    have go : ∀ {hds' : List ExceptHandler} {l' : List HdR}, HdX X hds' l' → wX X.K Wout D l' cls d τ1 H1 → wpAny (model X.prog X.w) X.A (handleBy (.ref a) X.env hds') (SP X pins D) X.xe { t with heap := hp3 } := by
      intro hds' l' hk
      induction hk with
      | unread => exact fun z => z.elim
      | nil =>
        intro z
        refine wpAny_handleBy_nil ?_
        obtain ⟨k1, k2, k3, oe, vs, T, oT, ts', he, hz, hd, h1, hr⟩ := id fl3
        unfold PySem.passOn
        refine wpAny_bind (wpAny_field he hd h1 ?_)
        rw [if_neg (by simp : ¬ ((Value.ref T == Value.none) = true))]
        have fin : wpAny (model X.prog X.w) X.A (setFlight (.ref a) X.env.frame) (fun _ y => wpAny (model X.prog X.w) X.A (throw (.ref a) : Sem Flow) (SP X pins D) X.xe y) X.xe { t with heap := hp3 } := by
          rw [hf]
          exact HandSPX.setFlight_upZ fl3 fun hp4 fl4 up4 => wpAny_throw (tk _ _ ⟨a, B, sI, pins, τ1, H1, cls, d, rfl, J, nb, (up.trans up3).trans up4, .inr (.inr (by rw [hs]; exact fl4)), na, os, ag, z⟩)
        first
          | exact wpAny_bind (wpAny_pure (wpAny_bind fin))
          | exact wpAny_bind fin
      | @one x c ts b₀ suite np pos' hds2 l2 hc hsu r ih =>
        rintro ⟨b, hb1, yes, no⟩
        refine wpAny_handleBy_cons (codeAny_handlers_test ?_) (by intro q; cases q)
        refine named hc ((PySem.W.exm_one (M := model X.prog X.w) J3.kIn isA hb1).here ?_)
        cases b with
        | false => exact ih (no rfl)
        | true =>
          refine codeAny_handlers_suite (HandSPX.lands_againZ fl3 fun hp4 fl4 up4 => ?_)
          have J4 : Inv X pins τ1 H1 { t with heap := hp4 } := J.landed nb fl4.1 ((up.trans up3).trans up4) os ag
          obtain ⟨oe4, vs4, at4, zc4, dt4⟩ := fl4.there
          refine wpAny_mono ((hsu a oe4 cls d (X.pn ++ pins) zc4 ⟨_, dt4⟩).run [] _ _ H1 _ (J4.suite at4 dt4 na nL nF) (yes rfl a na)) (fun fl z6 q => ?_) (fun _ _ z => z.elim)
          exact try_end (fun S6 => S6.unsuite ok) q
      | @oneAs x n i c ts b₀ suite np pos' hds2 l2 hc hN hi hln hsu r ih =>
        rintro ⟨b, hb1, yes, no⟩
        refine wpAny_handleBy_cons (codeAny_handlers_test ?_) (by intro q; cases q)
        refine named hc ((PySem.W.exm_one (M := model X.prog X.w) J3.kIn isA hb1).here ?_)
        cases b with
        | false => exact ih (no rfl)
        | true =>
          refine codeAny_handlers_suite_as (HandSPX.lands_againZ fl3 fun hp4 fl4 up4 => ?_)
          have J4 : Inv X pins τ1 H1 { t with heap := hp4 } := J.landed nb fl4.1 ((up.trans up3).trans up4) os ag
          obtain ⟨oe4, vs4, at4, zc4, dt4⟩ := fl4.there
          refine store_ok (X := X.suite a ((a, oe4) :: (X.pn ++ pins))) (v := .ref a) (J4.suite at4 dt4 na nL nF) hN hi (.inl hln) rfl (fun s5 S5 => ?_) (.inr hln)
          refine wpAny_mono ((hsu a oe4 cls d (X.pn ++ pins) zc4 ⟨_, dt4⟩).run [] s5 _ H1 _ S5 (yes rfl a na)) (fun fl z6 q => ?_) (fun _ _ z => z.elim)
          have bye : ∀ {τ6 : L2.St} {H6 : Hp} {R : Shared → Prop}, Inv (X.suite a ((a, oe4) :: (X.pn ++ pins))) [] τ6 H6 z6 → (∀ s7, Inv X pins (τ6.set i none) H6 s7 → R s7) →
              wpAny (model X.prog X.w) X.A (do bindName X.env n .none; unbindBehindTheSuite X.env n pos') (fun _ s7 => R s7) X.xe z6 := fun {τ6 H6 R} S6 hq => gone_ok (S6.unsuite ok) hN hi hln hq
          cases fl with
          | ret u =>
            obtain ⟨v6, τ6, H6, S6, r6, q6⟩ := q
            exact bye S6 fun s7 J7 => ⟨v6, _, _, J7, r6, q6⟩
          | next => obtain ⟨τ6, H6, S6, q6⟩ := q; exact bye S6 fun s7 J7 => ⟨_, _, J7, q6⟩
          | brk => obtain ⟨τ6, H6, S6, q6⟩ := q; exact bye S6 fun s7 J7 => ⟨_, _, J7, q6⟩
          | cont => obtain ⟨τ6, H6, S6, q6⟩ := q; exact bye S6 fun s7 J7 => ⟨_, _, J7, q6⟩
    exact go hh wish
  · have q := try_end (X := X) (pins := pins) (fun J => J.ofTry ok) ended
    cases fl with
    | next => exact wpAny_execs_nil q
    | ret u => exact q
    | brk => exact q
    | cont => exact q
end
end PV
set_option Elab.async false
set_option linter.all false
set_option maxRecDepth 100000
set_option maxHeartbeats 4000000
/-! PvTry2: try, over the evaluator. -/
namespace PV
open PySem PySem.Spec PyProof.Rows L2
/-- the class that a clause names, and what it catches -/
structure CatOk (K : PySem.W.Frag) (Φ : Prog) : Prop where
  exm : ∀ c x, Φ.xc.contains c = true → Φ.xc.contains x = true → PySem.W.exmOne K (.ref (He.ga K (Str.ofString c))) (.ref (He.ga K (Str.ofString x))) = some (Φ.exc c x)
  xf : ∀ c f, Φ.xc.contains c = true → Φ.fldOf c = f → f ≠ "" → XfC K (He.ga K (Str.ofString c)) ∧ PySem.W.findIn K (.ref (He.ga K (Str.ofString c))) (Str.ofString f) = some none
section
variable {X : Cx} {Φ : Prog} {Wf : Nat} {cur : Option Exn} {W : WX}
/-- the clauses -/
inductive SHs (X : Cx) (Φ : Prog) (Wf : Nat) : List ExceptHandler → List PV.H → Prop where
  | nil : SHs X Φ Wf [] []
  | unread {hds : List ExceptHandler} {o b r} : SHs X Φ Wf hds (.h [] o b :: r)
  | h {c : String} {b₀ : Stmt} {suite : List Stmt} {b : List S} {np pos' : Pos} {hds : List ExceptHandler} {r : List PV.H} (hc : Names X (Str.ofString c) (.ref (He.ga X.K (Str.ofString c))))
      (hsu : ∀ a oe pn x, SSs (X.suite a ((a, oe) :: pn)) Φ Wf (some x) W0 (b₀ :: suite) b) (hr : SHs X Φ Wf hds r) : SHs X Φ Wf (.ExceptHandler (some (.Name (Str.ofString c) np)) none (b₀ :: suite) pos' :: hds) (.h [c] none b :: r)
  | v0 {c f : String} {n : Str} {i : Nat} {m : Bool} {s : List Nat} {z : Str} {np pos' p1 p2 p3 p4 p5 : Pos} {j} {hds : List ExceptHandler} {r : List PV.H} (hc : Names X (Str.ofString c) (.ref (He.ga X.K (Str.ofString c)))) (hN : X.N.Nodup) (hi : X.N[i]? = some n) (hln : X.env.kindOf n = some .local)
      (hd : (n == ("__debug__" : Str)) = false) (hcd : (n == ("__classdict__" : Str)) = false) (hz : z = tx s) (hr : SHs X Φ Wf hds r) :
      SHs X Φ Wf (.ExceptHandler (some (.Name (Str.ofString c) np)) (some n) [.Return (some (.List [.Constant (.str z) j p1, .Attribute (.Name n p2) (Str.ofString f) p3] p4)) p5] pos' :: hds) (.v c i m 0 s f :: r)
  | v1 {c f : String} {n : Str} {i : Nat} {m : Bool} {s : List Nat} {z : Str} {np pos' p1 p2 p3 p4 p5 : Pos} {j kk} {hds : List ExceptHandler} {r : List PV.H} (hc : Names X (Str.ofString c) (.ref (He.ga X.K (Str.ofString c)))) (hN : X.N.Nodup) (hi : X.N[i]? = some n) (hln : X.env.kindOf n = some .local)
      (hd : (n == ("__debug__" : Str)) = false) (hcd : (n == ("__classdict__" : Str)) = false) (hz : z = tx s) (hr : SHs X Φ Wf hds r) :
      SHs X Φ Wf (.ExceptHandler (some (.Name (Str.ofString c) np)) (some n) [.Return (some (.Tuple [.Constant (.str z) j p1, .Attribute (.Name n p2) (Str.ofString f) p3] kk p4)) p5] pos' :: hds) (.v c i m 1 s f :: r)
  | v2 {c f : String} {n : Str} {i : Nat} {m : Bool} {s : List Nat} {np pos' p2 p3 p5 : Pos} {hds : List ExceptHandler} {r : List PV.H} (hc : Names X (Str.ofString c) (.ref (He.ga X.K (Str.ofString c)))) (hN : X.N.Nodup) (hi : X.N[i]? = some n) (hln : X.env.kindOf n = some .local)
      (hd : (n == ("__debug__" : Str)) = false) (hcd : (n == ("__classdict__" : Str)) = false) (hr : SHs X Φ Wf hds r) :
      SHs X Φ Wf (.ExceptHandler (some (.Name (Str.ofString c) np)) (some n) [.Return (some (.Attribute (.Name n p2) (Str.ofString f) p3)) p5] pos' :: hds) (.v c i m 2 s f :: r)
/-- the value of e.f in a suite -/
theorem xf_pe {a C : Addr} {oe : Obj} {cls : Value} {d : Option Addr} {pn : List (Addr × Obj)} {n : Str} {i : Nat} {f : String} {p2 p3 : Pos} (T : XfC X.K C) (hno : PySem.W.findIn X.K (.ref C) (Str.ofString f) = some none) (hz : Zc cls d oe) (hf : ∃ vs, oe.data = .fields vs)
    (hi : X.N[i]? = some n) (hln : X.env.kindOf n = some .local) (hd : (n == ("__debug__" : Str)) = false) (hcd : (n == ("__classdict__" : Str)) = false) :
    PE (X.suite a ((a, oe) :: pn)) (.Attribute (.Name n p2) (Str.ofString f) p3) (tXf a cls d C (Str.ofString f) (tVar i)) :=
  pe_xf T hno hz hf (pe_var (X := X.suite a ((a, oe) :: pn)) hi (.inl hln) hd hcd) (by rfl)
section
variable {K : PySem.W.Frag} {w : World} {ρ : Lc} {k : Nat} {H : Hp} {D : Ends} {W : WX}
theorem OutR.of_noex {o : Out} (h : OutR K w ρ k H o.noex D W) : OutR K w ρ k H o D W0 := by
  cases o with
  | ex x σ st => exact h.elim
  | nx σ st => exact h
  | rt d st => exact h
  | bk σ st => exact h
  | ct σ st => exact h
  | stuck => exact h
end
section
variable {X : Cx} {Φ : Prog} {Wf : Nat} {cur : Option Exn} {W : WX}
theorem OutR.toGone {K : PySem.W.Frag} {w : World} {ρ : Lc} {k : Nat} {H : Hp} {D : Ends} {m : Bool} {q : Nat} {s : List Nat} {x : PV.D} {σ : Env} {st : Store} {i : Nat} (h : OutR K w ρ k H (xret m q s x σ st) D W) : OutR K w ρ k H (xret m q s x σ st) (goneE D i) W0 := by
  unfold xret at h ⊢
  by_cases e : q = 0
  · rw [if_pos e] at h ⊢
    cases m with
    | false => exact h
    | true => exact h
  · rw [if_neg e] at h ⊢
    by_cases e1 : q = 1
    · rw [if_pos e1] at h ⊢
      exact h
    · rw [if_neg e1] at h ⊢
      exact h
/-- a suite's reading: its own statements -/
def tsH (K : PySem.W.Frag) (w : World) (Φ : Prog) (Wf : Nat) (b : List S) : Addr → Value → Option Addr → TS := fun _ _ _ D τ H => ∃ ρ k st σ x, At K w ρ k H st σ τ ∧ OutR K w ρ k H ((execs Φ Wf (some x) b σ st).noex) D W0
/-- a suite's reading: the error's field -/
def tsV (K : PySem.W.Frag) (w : World) (Φ : Prog) (i : Nat) (m : Bool) (q : Nat) (s : List Nat) (f : String) : Addr → Value → Option Addr → TS := fun a cls d D τ H => ∃ ρ k st σ x v c dd fs, At K w ρ k H st σ τ ∧ τ[i]? = some (some (.ref a)) ∧
  cls = .ref (He.ga K (Str.ofString c)) ∧ Φ.xc.contains c = true ∧ Φ.fldOf c = f ∧ f ≠ "" ∧ d = some dd ∧ H dd = some (.xd fs) ∧ fs.lookup (Str.ofString f) = some v ∧ RV K w ρ k H x v ∧ OutR K w ρ k H (xret m q s x σ st) D W0
/-- the readings of the clauses -/
def rdH (K : PySem.W.Frag) (w : World) (Φ : Prog) (Wf : Nat) : List PV.H → List HdR
  | [] => []
  | .h [] _ _ :: _ => [.unread]
  | .h [c] none b :: r => .one (.ref (He.ga K (Str.ofString c))) none (tsH K w Φ Wf b) :: rdH K w Φ Wf r
  | .v c i m q s f :: r => .one (.ref (He.ga K (Str.ofString c))) (some i) (tsV K w Φ i m q s f) :: rdH K w Φ Wf r
  | .h _ _ _ :: _ => [.unread]
theorem hdx_of (ct : CatOk X.K Φ) : ∀ {hds : List ExceptHandler} {hs : List PV.H}, SHs X Φ Wf hds hs → HdX X hds (rdH X.K X.w Φ Wf hs)
  | _, _, .nil => .nil
  | _, _, .unread => .unread
  | _, _, .h hc hsu hr => .one hc (fun a oe cls d pn hz hf => ⟨fun pins s τ H D I ⟨ρ, k, st, σ, x, at_, run⟩ => (hsu a oe pn x).run pins s τ H D I ⟨ρ, k, st, σ, at_, run.of_noex⟩⟩) (hdx_of ct hr)
  | _, _, .v0 hc hN hi hln hd hcd hz hr => .oneAs hc hN hi hln (fun a oe cls d pn zc hf => ⟨fun pins s τ H D I ⟨ρ, k, st, σ, x, v, c, dd, fs, at_, sl, ec, hx, hfl, hne, ed, hdd, hlk, rv, run⟩ => by
      subst ec
      obtain ⟨T, hno⟩ := ct.xf c _ hx hfl hne
      refine (pss_one (ps_ret (pe_lst (pa_cons pe_str (pa_cons (xf_pe T hno zc hf hi hln hd hcd) pa_nil))))).run pins s τ H D I ?_
      refine ⟨.ref a, sl, rfl, rfl, dd, fs, v, ed, hdd, hlk, ⟨by rw [line_eq]; show 2 ≤ LIM; decide, fun p hp => ?_⟩⟩
      simp only [xret, if_true] at run
      exact Run.mk at_.sim (run.seq at_ fun y ρ1 k1 H1 st1 _ e1 a1 run1 u ru => run1 ρ1 k1 H1 u Ext.refl a1.sim ru) (.cons (by simp only [RV]; rw [hz]) (.cons rv .nil)) hp⟩) (hdx_of ct hr)
  | _, _, .v1 (s := ss) (z := z) hc hN hi hln hd hcd hz hr => .oneAs hc hN hi hln (fun a oe cls d pn zc hf => ⟨fun pins s τ H D I ⟨ρ, k, st, σ, x, v, c, dd, fs, at_, sl, ec, hx, hfl, hne, ed, hdd, hlk, rv, run⟩ => by
      subst ec
      obtain ⟨T, hno⟩ := ct.xf c _ hx hfl hne
      refine (pss_one (ps_ret (pe_tup (pa_cons pe_str (pa_cons (xf_pe T hno zc hf hi hln hd hcd) pa_nil))))).run pins s τ H D I ?_
      refine ⟨.ref a, sl, rfl, rfl, dd, fs, v, ed, hdd, hlk, ⟨by rw [line_eq]; show 2 ≤ LIM; decide, fun p hp => ?_⟩⟩
      simp only [xret, Nat.one_ne_zero, if_false, if_true] at run
      have rs : RVs X.K X.w ρ k H [.str ss, x] [.str z, v] := .cons (by simp only [RV]; rw [hz]) (.cons rv .nil)
      refine run ρ k _ _ (Ext.alloc hp) (at_.sim.alloc hp) ?_
      simp only [RV]
      exact ⟨p, _, rfl, .inl ⟨upd_same, at_.sim.off hp⟩, rs.mono (Ext.alloc hp)⟩⟩) (hdx_of ct hr)
  | _, _, .v2 hc hN hi hln hd hcd hr => .oneAs hc hN hi hln (fun a oe cls d pn zc hf => ⟨fun pins s τ H D I ⟨ρ, k, st, σ, x, v, c, dd, fs, at_, sl, ec, hx, hfl, hne, ed, hdd, hlk, rv, run⟩ => by
      subst ec
      obtain ⟨T, hno⟩ := ct.xf c _ hx hfl hne
      refine (pss_one (ps_ret (xf_pe T hno zc hf hi hln hd hcd))).run pins s τ H D I ?_
      refine ⟨.ref a, sl, rfl, rfl, dd, fs, v, ed, hdd, hlk, ?_⟩
      simp only [xret, (by decide : ¬ (2 = 0)), (by decide : ¬ (2 = 1)), if_false] at run
      exact run ρ k H v Ext.refl at_.sim rv⟩) (hdx_of ct hr)
theorem wx_v (ct : CatOk X.K Φ) {D : Ends} {x : Exn} {σ : Env} {st : Store} {τ : L2.St} {H : Hp} {ρ : Lc} {k : Nat} {c : Value} {d : Option Addr} (at_ : At X.K X.w ρ k H st σ τ) (xr : XnR X.K X.w ρ k H x c d) {c' : String} {i q : Nat} {m : Bool} {s : List Nat} {f : String} {r : List PV.H}
    (next : OutR X.K X.w ρ k H (handle Φ Wf r x σ st) D W → wX X.K W D (rdH X.K X.w Φ Wf r) c d τ H) (run : OutR X.K X.w ρ k H (handle Φ Wf (.v c' i m q s f :: r) x σ st) D W) : wX X.K W D (rdH X.K X.w Φ Wf (.v c' i m q s f :: r)) c d τ H := by
  simp only [handle] at run
  split at run
  · rename_i hx
    simp only [Bool.and_eq_true] at hx
    refine ⟨Φ.exc x.cls c', by rw [xr.1]; exact ct.exm _ _ hx.1 hx.2, fun yes a ha => ?_, fun no => ?_⟩
    · rw [yes, if_pos rfl] at run
      split at run
      · rename_i hh
        simp only [Bool.and_eq_true, decide_eq_true_eq, bne_iff_ne, ne_eq] at hh
        obtain ⟨⟨⟨h1, h2⟩, h3⟩, h4⟩ := hh
        have hl : i < τ.length := by rw [← at_.env.1]; exact h4
        rcases xr.2 with h0 | ⟨dd, fs, v, ed, hdd, off, hlk, rv⟩
        · exact absurd (h1.symm.trans h0) h3
        · refine ⟨ρ, k, st, σ.set i none, x.val, v, x.cls, dd, fs, ⟨at_.sim, ⟨by simp [at_.env.1], fun j y hj => ?_⟩⟩, by simp [hl], xr.1, hx.1, h2, h3, ed, hdd, by rw [← h1]; exact hlk, rv, ?_⟩
          · by_cases e : i = j
            · subst e
              rw [List.getElem?_set_self h4] at hj
              cases hj
            · rw [List.getElem?_set_ne e] at hj
              rw [List.getElem?_set_ne e]
              exact at_.env.2 j y hj
          · exact run.toGone
      · exact run.elim
    · rw [no, if_neg Bool.false_ne_true] at run
      exact next run
  · exact run.elim
/-- the handler's road -/
theorem wx_of (ct : CatOk X.K Φ) {D : Ends} {x : Exn} {σ : Env} {st : Store} {τ : L2.St} {H : Hp} {ρ : Lc} {k : Nat} {c : Value} {d : Option Addr} (at_ : At X.K X.w ρ k H st σ τ) (xr : XnR X.K X.w ρ k H x c d) :
    ∀ {hds : List ExceptHandler} {hs : List PV.H}, SHs X Φ Wf hds hs → OutR X.K X.w ρ k H (handle Φ Wf hs x σ st) D W → wX X.K W D (rdH X.K X.w Φ Wf hs) c d τ H
  | _, _, .nil, run => by
    simp only [handle] at run
    exact run ρ k H τ c d Ext.refl at_ xr
  | _, _, .unread, run => by
    simp only [handle] at run
    exact run.elim
  | _, _, .h (c := c') hc hsu hr, run => by
    simp only [handle] at run
    split at run
    · rename_i hx
      simp only [Bool.and_eq_true] at hx
      refine ⟨Φ.exc x.cls c', by rw [xr.1]; exact ct.exm _ _ hx.1 hx.2, fun yes a ha => ?_, fun no => ?_⟩
      · rw [yes, if_pos rfl] at run
        exact ⟨ρ, k, st, σ, x, at_, by
          cases e : (execs Φ Wf (some x) _ σ st).noex with
          | ex x' σ' st' => rw [e] at run; cases q : execs Φ Wf (some x) _ σ st <;> rw [q] at e <;> cases e
          | nx σ' st' => rw [e] at run; exact run
          | rt d' st' => rw [e] at run; exact run
          | bk σ' st' => rw [e] at run; exact run
          | ct σ' st' => rw [e] at run; exact run
          | stuck => rw [e] at run; exact run⟩
      · rw [no, if_neg Bool.false_ne_true] at run
        exact wx_of ct at_ xr hr run
    · exact run.elim
  | _, _, .v0 (c := c') hc hN hi hln hd hcd hz hr, run => wx_v ct at_ xr (fun run => wx_of ct at_ xr hr run) run
  | _, _, .v1 (c := c') hc hN hi hln hd hcd hz hr, run => wx_v ct at_ xr (fun run => wx_of ct at_ xr hr run) run
  | _, _, .v2 (c := c') hc hN hi hln hd hcd hr, run => wx_v ct at_ xr (fun run => wx_of ct at_ xr hr run) run
theorem ss_try {b : List S} {hs : List PV.H} {body : List Stmt} {h0 : ExceptHandler} {hds : List ExceptHandler} {pos : Pos} (hk : X.stack = X.env :: X.outer) (hf : X.env.frame = some X.env.locals) (tk : Takes X W) (ct : CatOk X.K Φ)
    (hb : ∀ W' pn xe, Takes (X.tr pn xe) W' → PassesOwn (model X.prog X.w) X.A X.env xe → SSs (X.tr pn xe) Φ Wf cur W' body b) (hh : SHs X Φ Wf (h0 :: hds) hs) :
    SS X Φ Wf cur W (.Try body (h0 :: hds) [] [] pos) (.tryc b hs) :=
  ps_w (ps_tryX (tb := fun W' => tS X.K X.w (fun σ st => execs Φ Wf cur b σ st) W') hk hf tk (fun W' pn xe t p => hb W' pn xe t p) (hdx_of ct hh)) fun D τ H ⟨ρ, k, st, σ, at_, run⟩ => by
    refine ⟨ρ, k, st, σ, at_, ?_⟩
    show OutR X.K X.w ρ k H (execs Φ Wf cur b σ st) D _
    simp only [exec] at run
    cases e : execs Φ Wf cur b σ st with
    | ex x σ' st' =>
      rw [e] at run
      exact fun ρ' k' H' τ' c d ex at' xr => wx_of ct at' xr hh (run.ext ex)
    | nx σ' st' => rw [e] at run; exact run
    | rt d st' => rw [e] at run; exact run
    | bk σ' st' => rw [e] at run; exact run
    | ct σ' st' => rw [e] at run; exact run
    | stuck => rw [e] at run; exact run
end
end
end PV
set_option Elab.async false
set_option linter.all false
set_option maxRecDepth 100000
set_option maxHeartbeats 4000000
/-! PvChk4: the checker: statements; it is sound. -/
namespace PV
open PySem PySem.Spec PyProof.Rows L2
def isBadS : S → Bool
  | .aug (.tup []) _ _ => true
  | _ => false
def isPair : T → E → Bool
  | .tup [.n i, .n j], .tup [_, _] => i != j
  | .tup [.n i, .n j, .n l], .tup [_, _, _] => i != j && i != l && j != l
  | _, _ => false
def loc1 (C : Ck) (p : Expr) : Bool := match p with
  | .Name z _ => knd C.sc z == some .local
  | _ => false
def nmsOf (ps : List Expr) : List Str := ps.filterMap fun p => match p with
  | .Name z _ => some z
  | _ => none
/-- an assignment: the plain road, a comprehension's, names that change places -/
def chkA (t : T) (e : E) (C : Ck) (p v : Expr) : Bool :=
  noSD v && notStar p && chkT t C p && chkE e C v && (if swC C.sc p v then (match t, e with
      | .n _, .comp .. => true
      | _, _ => false) else swNone C.sc p v || (match p, v with
      | .Tuple ts _ _, .Tuple vs _ _ => isPair t e && swSome C.sc ts vs (nmsOf ts) && ts.all (loc1 C) && C.cm
      | _, _ => false))
/-- [s, e.f], (s, e.f), e.f -/
def chkV (n : Str) (k : Nat) (s : List Nat) (f : String) (p : Expr) : Bool := match k, p with
  | 0, .List [.Constant (.str z) _ _, .Attribute (.Name y _) g _] _ => decide (z = tx s) && y == n && is g f
  | 1, .Tuple [.Constant (.str z) _ _, .Attribute (.Name y _) g _] _ _ => decide (z = tx s) && y == n && is g f
  | 2, .Attribute (.Name y _) g _ => y == n && is g f
  | _, _ => false
def xnB (C : Ck) (z : Str) (c : String) : Bool := is z c && glB C.sc z && dbg z && C.I.xcs.contains c
mutual
def chkS : S → Ck → Stmt → Bool
  | .pass, _, p => match p with
    | .Pass _ => true
    | .Expr (.Constant (.str _) _ _) _ => true
    | _ => false
  | .brk, _, p => match p with
    | .Break _ => true
    | _ => false
  | .cont, _, p => match p with
    | .Continue _ => true
    | _ => false
  | .ex e, C, p => match p with
    | .Expr pe _ => notComp pe && chkE e C pe
    | _ => false
  | .ret e, C, p => match p with
    | .Return (some pe) _ => chkE e C pe
    | .Return none _ => isNon e
    | _ => false
  | .asg t e, C, p => match p with
    | .Assign [pt] pe _ => chkA t e C pt pe
    | _ => false
  | .aug t o e, C, p => isBadS (.aug t o e) || (match t, p with
    | .n i, .AugAssign (.Name z _) op pe _ => nmOk C i z && locB C.sc z && (C.fn z || knd C.sc z == some .local) && bopB o op && chkE e C pe
    | _, _ => false)
  | .ife c a b, C, p => match p with
    | .If pc pa pb _ => chkB c C pc && chkSs a C pa && chkSs b C pb
    | _ => false
  | .whl c b, C, p => match p with
    | .While pc pb [] _ => C.cm && chkB c C pc && chkSs b C pb
    | _ => false
  | .forr t it b, C, p => match p with
    | .For pt pi pb [] _ => C.cm && chkI it C pt pi && chkT t C pt && chkSs b C pb && notSet pi
    | _ => false
  | .raise c es, C, p => match es, p with
    | [e], .Raise (some (.Call (.Name z _) [pe] [] _)) none _ => C.cm && is z c && glB C.sc z && dbg z && (C.I.excs.lookup c).isSome && chkE e C pe && notStar pe
    | _, _ => false
  | .tryc b hs, C, p => match p with
    | .Try body (h0 :: hds) [] [] _ => C.cm && chkSs b C body && chkHs hs C (h0 :: hds)
    | _ => false
termination_by structural s => s
def chkSs : List S → Ck → List Stmt → Bool
  | [], _, ps => ps.isEmpty
  | s :: r, C, ps => match ps with
    | p :: ps => chkS s C p && chkSs r C ps
    | [] => false
termination_by structural s => s
def chkHs : List PV.H → Ck → List ExceptHandler → Bool
  | [], _, ps => ps.isEmpty
  | .h [] _ _ :: _, _, _ => true
  | .h [c] none b :: r, C, ps => match ps with
    | .ExceptHandler (some (.Name z _)) none (b0 :: bs) _ :: ps => xnB C z c && chkSs b { C with cm := false } (b0 :: bs) && chkHs r C ps
    | _ => false
  | .v c i m k s f :: r, C, ps => match ps with
    | .ExceptHandler (some (.Name z _)) (some n) [.Return (some pe) _] _ :: ps => xnB C z c && nmOk C i n && (knd C.sc n == some .local) && plainN n && chkV n k s f pe && chkHs r C ps
    | _ => false
  | .h _ _ _ :: _, _, _ => false
termination_by structural s => s
end
/-- what the module gives of exceptions -/
structure GX (P : Program) (w : World) (K : PySem.W.Frag) (mg : Str → Option Value) (base : Heap) (Φ : Prog) (I : Inf) : Prop where
  exc : ∀ c f, I.excs.lookup c = some f → ExcF P w K mg base (Str.ofString c) (Str.ofString f) ∧ Φ.fldOf c = f
  cat : CatOk K Φ
  xcm : ∀ c, I.xcs.contains c = true → mg (Str.ofString c) = some (.ref (He.ga K (Str.ofString c)))
/-- where a statement stands -/
structure OkS (X : Cx) (Φ : Prog) (n : Nat) (W : WX) (C : Ck) : Prop where
  e : OkX X Φ n W C
  own : C.cm = true → PassesOwn (model X.prog X.w) X.A X.env X.xe
  kind : X.env.scope.kind = .function
  stk : X.stack = X.env :: X.outer
  frm : X.env.frame = some X.env.locals
  gx : GX X.prog X.w X.K X.mg X.base Φ C.I
section
variable {Φ : Prog} {n Wf : Nat} {cur : Option Exn} {X : Cx} {W : WX} {C : Ck}
theorem OkS.tr (h : OkS X Φ n W C) {W' : WX} {pn : List (Addr × Obj)} {xe : Value → Shared → Prop} (t : Takes (X.tr pn xe) W') (p : PassesOwn (model X.prog X.w) X.A X.env xe) : OkS (X.tr pn xe) Φ n W' C :=
  ⟨⟨h.e.N, h.e.nd, h.e.sc, h.e.fn, h.e.cm, t, h.e.room, h.e.g, h.e.u, h.e.G⟩, fun _ => p, h.kind, h.stk, h.frm, h.gx⟩
theorem OkS.suite (h : OkS X Φ n W C) {a : Addr} {pn : List (Addr × Obj)} : OkS (X.suite a pn) Φ n W0 { C with cm := false } :=
  ⟨⟨h.e.N, h.e.nd, h.e.sc, h.e.fn, fun q => (Bool.false_ne_true q).elim, takes_W0, fun q => (Bool.false_ne_true q).elim, h.e.g, h.e.u, h.e.G⟩, fun q => (Bool.false_ne_true q).elim, h.kind, h.stk, h.frm, h.gx⟩
theorem xn_ok (h : OkS X Φ n W C) {z : Str} {c : String} (q : xnB C z c = true) : z = Str.ofString c ∧ Names X (Str.ofString c) (.ref (He.ga X.K (Str.ofString c))) := by
  simp only [xnB, Bool.and_eq_true] at q
  obtain ⟨⟨⟨q1, q2⟩, q3⟩, q4⟩ := q
  have e := is_ok q1
  subst e
  exact ⟨rfl, gl_ok h.e q2, dbg_ok q3, .inl (h.gx.xcm c q4)⟩
theorem nms_names {x y : Str} {px py : Pos} : nmsOf [.Name x px, .Name y py] = [x, y] := rfl
theorem loc1_ok (h : OkX X Φ n W C) {z : Str} {q : Pos} (e : loc1 C (.Name z q) = true) : X.env.scope.names.lookup z = some .local := by
  rw [h.sc]
  exact eq_of_beq e
theorem one_name {i : Nat} {p : Expr} (q : chkT (.n i) C p = true) : ∃ x px, p = .Name x px ∧ nmOk C i x = true := by
  simp only [chkT] at q
  split at q
  · simp only [Bool.and_eq_true] at q
    exact ⟨_, _, rfl, q.1.1⟩
  · cases q
theorem two_names {i j : Nat} {ts : List Expr} (q : chkTs [.n i, .n j] C ts = true) : ∃ x px y py, ts = [.Name x px, .Name y py] ∧ nmOk C i x = true ∧ nmOk C j y = true := by
  match ts with
  | [] => simp [chkTs] at q
  | [a] => simp [chkTs] at q
  | a :: b :: c :: r => simp [chkTs] at q
  | [a, b] =>
    simp only [chkTs, Bool.and_eq_true] at q
    obtain ⟨x, px, rfl, h1⟩ := one_name q.1.1
    obtain ⟨y, py, rfl, h2⟩ := one_name q.2.1.1
    exact ⟨x, px, y, py, rfl, h1, h2⟩
theorem three_names {i j l : Nat} {ts : List Expr} (q : chkTs [.n i, .n j, .n l] C ts = true) : ∃ x px y py z pz, ts = [.Name x px, .Name y py, .Name z pz] ∧ nmOk C i x = true ∧ nmOk C j y = true ∧ nmOk C l z = true := by
  match ts with
  | [] => simp [chkTs] at q
  | [a] => simp [chkTs] at q
  | [a, b] => simp [chkTs] at q
  | a :: b :: c :: d :: r => simp [chkTs] at q
  | [a, b, c] =>
    simp only [chkTs, Bool.and_eq_true] at q
    obtain ⟨x, px, rfl, h1⟩ := one_name q.1.1
    obtain ⟨y, py, rfl, h2⟩ := one_name q.2.1.1
    obtain ⟨z, pz, rfl, h3⟩ := one_name q.2.2.1.1
    exact ⟨x, px, y, py, z, pz, rfl, h1, h2, h3⟩
theorem chkA_ok {t : T} {e : E} {p v : Expr} {pos : Pos} (h : OkS X Φ n W C) (q : chkA t e C p v = true) : SS X Φ Wf cur W (.Assign [p] v pos) (.asg t e) := by
  unfold chkA at q
  simp only [Bool.and_eq_true] at q
  obtain ⟨⟨⟨⟨q1, q2⟩, q3⟩, q4⟩, q5⟩ := q
  have hsw := swC_ok (t := p) (l := pos.line) q1 h.kind
  rw [h.e.sc] at hsw
  split at q5
  · rename_i c
    split at q5
    · rename_i i m elt tg it ifs own
      rw [c] at hsw
      simp only [chkT] at q3
      split at q3
      · rename_i z pz
        simp only [chkE] at q4
        split at q4
        · rename_i pe ptg pit pifs scope ppos
          simp only [Bool.and_eq_true] at q4 q3
          obtain ⟨⟨⟨⟨⟨⟨⟨e1, e2⟩, e3⟩, e4⟩, e5⟩, e6⟩, e7⟩, e8⟩ := q4
          obtain ⟨ow, ok, ho⟩ := blkB_ok h.e e2
          have hloc : X.env.scope.names.lookup z = some .local := by
            rw [h.e.sc]
            simp only [swC, Bool.and_eq_true] at c
            exact eq_of_beq c.1.1
          exact ss_setLc (h.e.cm e1) h.e.nd (nm_ok h.e q3.1.1) hloc hsw ok ho (fun i hi => List.contains_iff_mem.mp (List.all_eq_true.mp e3 i hi)) (chkI_ok it h.e e4) (fun s H A cl fp => chkT_ok tg (h.e.blk s H _ A cl fp) e6)
            (fun s H A cl fp => chkBs_ok ifs (h.e.blk s H _ A cl fp) e7) (fun s H A cl fp => chkE_ok elt (h.e.blk s H _ A cl fp) e8) e5
        · cases q4
      · cases q3
    · cases q5
  · rename_i c
    have c' : swC C.sc p v = false := by simpa using c
    rw [c'] at hsw
    rcases (Bool.or_eq_true _ _).mp q5 with q5 | q5
    · exact ss_asg (chkE_ok e h.e q4) (chkT_ok t h.e q3) hsw (swNone_ok (by rw [h.e.sc]; exact q5) h.kind) q2
    · split at q5
      · rename_i ts k1 p1 vs k2 p2 _
        simp only [Bool.and_eq_true] at q5
        obtain ⟨⟨⟨s1, s2⟩, s3⟩, s4⟩ := q5
        have hw : ∀ (k1 k2 : Nat) (p1 p2 : Pos), swappedStores [.Tuple ts k1 p1] (.Tuple vs k2 p2) X.env = pure (some (nmsOf ts)) := fun k1 k2 p1 p2 => swSome_ok (by rw [h.e.sc]; exact s2) h.kind
        unfold isPair at s1
        split at s1
        · rename_i i j ea eb
          simp only [chkT, Bool.and_eq_true] at q3
          obtain ⟨x, px, y, py, rfl, n1, n2⟩ := two_names q3.2
          simp only [chkE, Bool.and_eq_true] at q4
          obtain ⟨r1, r2, r3⟩ := chkEs_ok (cur := cur) [ea, eb] h.e q4.1
          match vs, r3 with
          | [a, b], _ =>
            simp only [List.all_cons, List.all_nil, Bool.and_eq_true] at s3
            exact ss_par (h.e.cm s4) h.e.nd (nm_ok h.e n1) (nm_ok h.e n2) (by simpa using s1) (loc1_ok h.e s3.1) (loc1_ok h.e s3.2.1) r1 (hw _ _ _ _)
        · rename_i i j l ea eb ec
          simp only [chkT, Bool.and_eq_true] at q3
          obtain ⟨x, px, y, py, z, pz, rfl, n1, n2, n3⟩ := three_names q3.2
          simp only [chkE, Bool.and_eq_true] at q4
          obtain ⟨r1, r2, r3⟩ := chkEs_ok (cur := cur) [ea, eb, ec] h.e q4.1
          match vs, r3 with
          | [a, b, c], _ =>
            simp only [List.all_cons, List.all_nil, Bool.and_eq_true] at s3
            simp only [Bool.and_eq_true, bne_iff_ne] at s1
            exact ss_par3 (h.e.cm s4) h.e.nd (nm_ok h.e n1) (nm_ok h.e n2) (nm_ok h.e n3) s1.1.1 s1.1.2 s1.2 (loc1_ok h.e s3.1) (loc1_ok h.e s3.2.1) (loc1_ok h.e s3.2.2.1) r1 (hw _ _ _ _)
        · cases s1
      · cases q5
mutual
theorem chkS_ok : ∀ (s : S) {cur : Option Exn} {X : Cx} {W : WX} {C : Ck} {p : Stmt}, OkS X Φ n W C → chkS s C p = true → SS X Φ Wf cur W p s
  | .pass, cur, X, W, C, p, h, q => by
    simp only [chkS] at q
    split at q
    · exact ss_pass
    · exact ss_doc
    · cases q
  | .brk, cur, X, W, C, p, h, q => by
    simp only [chkS] at q
    split at q
    · exact ss_brk
    · cases q
  | .cont, cur, X, W, C, p, h, q => by
    simp only [chkS] at q
    split at q
    · exact ss_cont
    · cases q
  | .ex e, cur, X, W, C, p, h, q => by
    simp only [chkS] at q
    split at q
    · simp only [Bool.and_eq_true] at q
      exact ss_ex (chkE_ok e h.e q.2) q.1
    · cases q
  | .ret e, cur, X, W, C, p, h, q => by
    simp only [chkS] at q
    split at q
    · exact ss_ret (chkE_ok e h.e q)
    · rw [non_ok q]
      exact ss_retN
    · cases q
  | .asg t e, cur, X, W, C, p, h, q => by
    simp only [chkS] at q
    split at q
    · exact chkA_ok h q
    · cases q
  | .aug t o e, cur, X, W, C, p, h, q => by
    simp only [chkS] at q
    rcases (Bool.or_eq_true _ _).mp q with q | q
    · unfold isBadS at q
      split at q
      · rename_i e0
        cases e0
        exact ⟨fun pins s τ H D I ⟨ρ, k, st, σ, at_, run⟩ => by
          simp only [exec] at run
          exact run.elim⟩
      · cases q
    · split at q
      · simp only [Bool.and_eq_true, Bool.or_eq_true] at q
        obtain ⟨⟨⟨⟨q1, q2⟩, q3⟩, q4⟩, q5⟩ := q
        rw [bop_ok q4]
        refine ss_aug o h.e.nd (nm_ok h.e q1) (loc_ok h.e q2) ?_ (chkE_ok e h.e q5)
        rcases q3 with q3 | q3
        · exact .inl (h.e.fn _ q3)
        · rw [h.e.sc]
          exact .inr (eq_of_beq q3)
      · cases q
  | .ife c a b, cur, X, W, C, p, h, q => by
    simp only [chkS] at q
    split at q
    · simp only [Bool.and_eq_true] at q
      exact ss_if (chkB_ok c h.e q.1.1) (chkSs_ok a h q.1.2) (chkSs_ok b h q.2)
    · cases q
  | .whl c b, cur, X, W, C, p, h, q => by
    simp only [chkS] at q
    split at q
    · simp only [Bool.and_eq_true] at q
      exact ss_while (h.own q.1.1) (chkB_ok c h.e q.1.2) (chkSs_ok b h q.2)
    · cases q
  | .forr t it b, cur, X, W, C, p, h, q => by
    simp only [chkS] at q
    split at q
    · simp only [Bool.and_eq_true] at q
      obtain ⟨⟨⟨⟨q1, q2⟩, q3⟩, q4⟩, q5⟩ := q
      exact ss_for (h.own q1) (h.e.cm q1) (chkI_ok it h.e q2) (chkT_ok t h.e q3) (chkSs_ok b h q4) q5
    · cases q
  | .raise c es, cur, X, W, C, p, h, q => by
    simp only [chkS] at q
    split at q
    · simp only [Bool.and_eq_true] at q
      obtain ⟨⟨⟨⟨⟨⟨q1, q2⟩, q3⟩, q4⟩, q5⟩, q6⟩, q7⟩ := q
      have e := is_ok q2
      subst e
      obtain ⟨f, hf⟩ := Option.isSome_iff_exists.mp q5
      obtain ⟨F, hff⟩ := h.gx.exc c f hf
      exact ss_raise (h.e.cm q1) h.e.tk F ((h.e.room q1).r.mono (by omega)) hff (gl_ok h.e q3) (dbg_ok q4) (chkE_ok _ h.e q6) q7
    · cases q
  | .tryc b hs, cur, X, W, C, p, h, q => by
    simp only [chkS] at q
    split at q
    · simp only [Bool.and_eq_true] at q
      exact ss_try h.stk h.frm h.e.tk h.gx.cat (fun W' pn xe t p => chkSs_ok b (h.tr t p) q.1.2) (chkHs_ok hs h q.2)
    · cases q
termination_by structural s => s
theorem chkSs_ok : ∀ (r : List S) {cur : Option Exn} {X : Cx} {W : WX} {C : Ck} {ps : List Stmt}, OkS X Φ n W C → chkSs r C ps = true → SSs X Φ Wf cur W ps r
  | [], cur, X, W, C, ps, h, q => by
    simp only [chkSs, List.isEmpty_iff] at q
    subst q
    exact ss_nil'
  | s :: r, cur, X, W, C, ps, h, q => by
    simp only [chkSs] at q
    split at q
    · simp only [Bool.and_eq_true] at q
      exact ss_cons' (chkS_ok s h q.1) (chkSs_ok r h q.2)
    · cases q
termination_by structural s => s
theorem chkHs_ok : ∀ (r : List PV.H) {X : Cx} {W : WX} {C : Ck} {ps : List ExceptHandler}, OkS X Φ n W C → chkHs r C ps = true → SHs X Φ Wf ps r
  | [], X, W, C, ps, h, q => by
    simp only [chkHs, List.isEmpty_iff] at q
    subst q
    exact .nil
  | .h [] _ _ :: _, X, W, C, ps, h, q => .unread
  | .h [c] none b :: r, X, W, C, ps, h, q => by
    simp only [chkHs] at q
    split at q
    · simp only [Bool.and_eq_true] at q
      obtain ⟨⟨q1, q2⟩, q3⟩ := q
      obtain ⟨rfl, nm⟩ := xn_ok h q1
      exact .h nm (fun a oe pn x => chkSs_ok b h.suite q2) (chkHs_ok r h q3)
    · cases q
  | .v c i m k s f :: r, X, W, C, ps, h, q => by
    simp only [chkHs] at q
    split at q
    · simp only [Bool.and_eq_true] at q
      obtain ⟨⟨⟨⟨⟨q1, q2⟩, q3⟩, q4⟩, q5⟩, q6⟩ := q
      obtain ⟨rfl, nm⟩ := xn_ok h q1
      simp only [plainN, Bool.and_eq_true] at q4
      have hr := chkHs_ok r h q6
      unfold chkV at q5
      split at q5
      · simp only [Bool.and_eq_true, decide_eq_true_eq] at q5
        have e1 := eq_of_beq q5.1.2
        have e2 := is_ok q5.2
        subst e1 e2
        exact .v0 nm h.e.nd (nm_ok h.e q2) (show X.env.scope.names.lookup _ = some .local from by rw [h.e.sc]; exact eq_of_beq q3) (dbg_ok q4.1) (eq_of_beq q4.2) q5.1.1 hr
      · simp only [Bool.and_eq_true, decide_eq_true_eq] at q5
        have e1 := eq_of_beq q5.1.2
        have e2 := is_ok q5.2
        subst e1 e2
        exact .v1 nm h.e.nd (nm_ok h.e q2) (show X.env.scope.names.lookup _ = some .local from by rw [h.e.sc]; exact eq_of_beq q3) (dbg_ok q4.1) (eq_of_beq q4.2) q5.1.1 hr
      · simp only [Bool.and_eq_true, decide_eq_true_eq] at q5
        have e1 := eq_of_beq q5.1
        have e2 := is_ok q5.2
        subst e1 e2
        exact .v2 nm h.e.nd (nm_ok h.e q2) (show X.env.scope.names.lookup _ = some .local from by rw [h.e.sc]; exact eq_of_beq q3) (dbg_ok q4.1) (eq_of_beq q4.2) hr
      · cases q5
    · cases q
  | .h [_] (some _) _ :: _, X, W, C, ps, h, q => by simp only [chkHs, Bool.false_eq_true] at q
  | .h (_ :: _ :: _) _ _ :: _, X, W, C, ps, h, q => by simp only [chkHs, Bool.false_eq_true] at q
termination_by structural s => s
end
end
end PV
set_option Elab.async false
set_option linter.all false
set_option maxRecDepth 100000
set_option maxHeartbeats 4000000
/-! PvTop: a table of defs, each checked: contracts at every fuel. -/
namespace PV
open PySem PySem.Spec PyProof.Rows L2
section
variable (K : PySem.W.Frag) (w : World) (mg : Str → Option Value) (I : Inf)
/-- a def of the written part says what its clean form says -/
structure DefOk (c f : String) (fn : Fn) (a : Addr) (l : List (Nat × List String)) : Prop where
  ex : ∃ (oc : Value) (od : Option Addr) (name qual : Str) (params : Arguments) (body : List Stmt) (scope : Scope) (dV kV doc pm : Value) (an : Option Addr) (cdv ct : Value) (osl : Array (Option Value)) (N : List Str) (dfV : List (String × Value)),
    K.lookup a = some ⟨oc, od, .func (PySem.W.fnOf name qual params body scope dV kV doc pm an cdv ct), osl⟩ ∧ PySem.W.codeIn K cdv qual = true ∧ FnScope N (fn.params.map Str.ofString) scope ∧ fn.slots = N.length ∧
    chkSs fn.body ⟨I, N, scope, true, fun _ => true⟩ body = true ∧ (∀ ρ k H, KwR (RU K w ρ k H) fn.dfl dfV) ∧ ∀ n ks, (n, ks) ∈ l → BindF K (PySem.W.fnOf name qual params body scope dV kV doc pm an cdv ct) fn.params dfV n ks
  kp : PySem.W.keepIn K (.ref a) = true
/-- all that the module's top has left -/
structure TopOk (T : Tab) : Prop where
  fns : ∀ f l, I.fns.lookup f = some l → ∃ a fn, mg (Str.ofString f) = some (.ref a) ∧ T.fns.lookup ("", f) = some fn ∧ DefOk K w I "" f fn a l
  mths : ∀ c m fn, T.fns.lookup (c, m) = some fn → c ≠ "" → ∃ l, ((c, m), l) ∈ I.mths ∧ ∃ a, DefOk K w I c m fn a l ∧ Meth K (He.ga K (Str.ofString c)) (Str.ofString m) a ∧ Cls K (He.ga K (Str.ofString c))
  news : ∀ c l, I.news.lookup c = some l → ∃ a fn, Mk K (He.ga K (Str.ofString c)) a ∧ T.fns.lookup (c, "__init__") = some fn ∧ DefOk K w I c "__init__" fn a l ∧ mg (Str.ofString c) = some (.ref (He.ga K (Str.ofString c)))
  glob : ∀ x d, T.globs.lookup x = some d → GlobOk K w mg (Str.ofString x) d
  blts : ∀ x, I.blts.contains x = true → mg (Str.ofString x) = none
  noat : ∀ c f, (c, f) ∈ T.noats → Cls K (He.ga K (Str.ofString c)) ∧ NoAttr K (He.ga K (Str.ofString c)) (Str.ofString f)
  isi : IsiOk K T.cls
  rep : T.rep = repD
  sysm : SysD K
  exc : ∀ c f, I.excs.lookup c = some f → (∀ (P : Program) (base : Heap), ExcF P w K mg base (Str.ofString c) (Str.ofString f)) ∧ (T.flds.lookup c).getD "" = f
  cat : ∀ call, CatOk K (T.prog call)
  xcm : ∀ c, I.xcs.contains c = true → mg (Str.ofString c) = some (.ref (He.ga K (Str.ofString c)))
end
section
variable {P : Program} {K : PySem.W.Frag} {w : World} {mg : Str → Option Value} {base : Heap} {I : Inf} {T : Tab} {Wf : Nat}
theorem gx_of (D : TopOk K w mg I T) (call) : GX P w K mg base (T.prog call) I := ⟨fun c f h => ⟨(D.exc c f h).1 P base, (D.exc c f h).2⟩, D.cat call, D.xcm⟩
theorem fnC_of {n : Nat} {c f : String} {fn : Fn} {a : Addr} {l : List (Nat × List String)} (D : DefOk K w I c f fn a l) (hT : T.fns.lookup (c, f) = some fn) (G : ∀ m, n = m + 1 → GF P w K mg base (T.prog (callN T Wf m)) m I) (gx : ∀ m, GX P w K mg base (T.prog (callN T Wf m)) I) :
    FnC P w K mg base (2 * n + 1) (callN T Wf n c f) a l := by
  obtain ⟨oc, od, name, qual, params, body, scope, dV, kV, doc, pm, an, cdv, ct, osl, N, dfV, lk, hcd, S, hN, chk, hdf, hb⟩ := D.ex
  cases n with
  | zero => exact ⟨⟨_, fn.params, fn.dfl, dfV, ⟨fun A outer s H args us vs Q E _ _ _ _ _ ⟨ρ, k, st, xs, ks, ds, _, _, _, run⟩ => by
      simp only [callN] at run
      exact run.elim⟩, hdf, hb, fun xs ks st h => by simp [callN] at h⟩, D.kp⟩
  | succ m =>
    have G' := G m rfl
    have C : Ctr P w K mg base (2 * m + 2 + 1) a _ (fn.params.map Str.ofString) _ := ctr_of (base := base) (Φ := T.prog (callN T Wf m)) (Wf := Wf) (lv := 2 * m + 2) lk hcd S hN fun A outer s H E hr => by
      refine chkSs_ok (n := m) (C := ⟨I, N, scope, true, fun _ => true⟩) fn.body ⟨⟨rfl, S.nd, rfl, fun _ _ => rfl, fun _ => rfl, takes_of rfl rfl rfl rfl, fun _ => hr, hr.g, ?_, G'⟩, fun _ => passes_of rfl, S.kind, rfl, rfl, gx m⟩ chk
      have := hr.r.un
      show (A.deeper _).units + 80 < cLine
      omega
    refine ⟨⟨_, fn.params, fn.dfl, dfV, ⟨fun A outer s H args us vs Q E hr e0 hbd hv hl ⟨ρ, k, st, xs, ks, ds, sim, hds, rds, run⟩ => ?_⟩, hdf, hb, fun xs ks st h => ?_⟩, D.kp⟩
    · refine C.run A outer s H args us vs Q E (hr.mono (by omega)) e0 hbd hv hl ⟨ρ, k, st, ds, sim, rds, ?_⟩
      simp only [callN, hT, hds] at run
      exact run
    · cases e : bindP fn.params xs ks fn.dfl with
      | some ds => exact ⟨ds, rfl⟩
      | none => simp [callN, hT, e] at h
theorem gf_all (D : TopOk K w mg I T) : ∀ n, GF P w K mg base (T.prog (callN T Wf n)) n I
  | n => {
    fns := fun f l hl => by
      obtain ⟨a, fn, h1, h2, h3⟩ := D.fns f l hl
      exact ⟨a, h1, fnC_of h3 h2 (fun m e => by subst e; exact gf_all D m) (fun m => gx_of D _)⟩
    mths := fun c m hc => by
      have hc' : (c != "" && (T.fns.lookup (c, m)).isSome) = true := hc
      simp only [Bool.and_eq_true, bne_iff_ne] at hc'
      obtain ⟨fn, hf⟩ := Option.isSome_iff_exists.mp hc'.2
      obtain ⟨l, h1, a, h2, h3⟩ := D.mths c m fn hf hc'.1
      exact ⟨l, h1, a, fnC_of h2 hf (fun m e => by subst e; exact gf_all D m) (fun m => gx_of D _), h3⟩
    news := fun c l hl => by
      obtain ⟨a, fn, h1, h2, h3, h4⟩ := D.news c l hl
      exact ⟨a, h1, fnC_of h3 h2 (fun m e => by subst e; exact gf_all D m) (fun m => gx_of D _), h4⟩
    glob := D.glob
    blts := D.blts
    cls := ⟨fun c f h => D.noat c f (List.contains_iff_mem.mp h)⟩
    isi := D.isi
    rep := D.rep
    sysm := D.sysm }
termination_by n => n
end
end PV
set_option Elab.async false
set_option linter.all false
set_option maxRecDepth 100000
set_option maxHeartbeats 4000000
/-! PvEnd: from the evaluator's answer to the law's promise. -/
namespace PV
open PySem PySem.Spec PyProof.Rows L2
/-- nothing lives yet -/
def noLc : Lc := ⟨fun _ => none, fun _ => False⟩
theorem Sim.none {K : PySem.W.Frag} {w : World} {H : Hp} : Sim K w noLc 0 H [] := ⟨rfl, fun n o h => by simp at h, fun m n a h => absurd h (Nat.not_lt_zero _), fun a h => h.elim⟩
theorem roomG_caller {k : Nat} (h : Room k callerA) : RoomG k callerA := ⟨h, rfl⟩
section
variable {P : Program} {w : World} {K : PySem.W.Frag} {mg mb : Str → Option Value} {k : Nat} {fa a : Addr} {s₁ : Shared} {vs : List Value} {ns : List Int} {call : List D → List (String × D) → Store → Res D}
/-- what the claim asks of the call's end -/
abbrev Kept (s₁ : Shared) : Result → Shared → Prop := fun r s' => r = .ok (.ret (.bool true)) ∧ OldK s₁.heap s'.heap ∧ s'.os = s₁.os ∧ AllBare s'.gens
/-- the state at the law's call: all but the script (if it is no object of the module) stands in the base -/
structure Ready (K : PySem.W.Frag) (P : Program) (w : World) (a : Addr) (ns : List Int) (s₁ : Shared) (H : Hp) : Prop where
  only : ∀ b u, H b = some u → b = a ∧ ∃ o xs, u = .frz o (.lst xs)
  hok : HOk P w H s₁.heap
  mine : ∀ b u, H b = some u → K.lookup b = none
  scr : RV K w noLc 0 H (.scr ns) (.ref a)
theorem end_core {H : Hp} (R : Ready K P w a ns s₁ H) (KX : K.In s₁.heap) (hns : s₁.heap.Ns mainGlobals mg) (hb : s₁.heap.Ns builtinsNs mb) (hbb : ∀ x : Str, x ≠ "__name__" → mb x = bootBuiltins x) (hlim : s₁.heap.NoLimit) (hg : s₁.gens = #[])
    (ha : ∀ b es ep (o : Obj), s₁.heap.get? b = some o → o.data = .dict es ep → b ≠ a) (hr : Room k callerA)
    (F : ∀ base : Heap, K.In base → base.Ns mainGlobals mg → FnC P w K mg base k call fa [(1, [])]) {st : Store} (hc : call [.scr ns] [] [] = .ok (.bl true) st) :
    codeAny (model P w) callerA (.call (.ref fa) ⟨[.ref a], []⟩) (Kept s₁) s₁ := by
  have none_of : ∀ {b : Addr}, b ≠ a → H b = Option.none := fun {b} hb => by
    cases e : H b with
    | none => rfl
    | some u => exact absurd (R.only b u e).1 hb
  have ns_of : ∀ {b : Addr} {m : Str → Option Value}, s₁.heap.Ns b m → (hidT s₁.heap H).Ns b m := fun {b m} ⟨o, es, ep, e, d, r⟩ =>
    ⟨o, es, ep, hidT_get e (none_of (ha b es ep o e d)), d, r⟩
  have kin : K.In (hidT s₁.heap H) := fun b o e => hidT_get (KX b o e) (by
    cases q : H b with
    | none => rfl
    | some u => rw [R.mine b u q] at e; cases e)
  obtain ⟨mc, l1, l2⟩ := hlim
  have e0 : Env0 P w K mg (hidT s₁.heap H) callerA [] s₁ H :=
    { frames := rfl, mod := ⟨kin, ns_of hns, ⟨mb, ns_of hb, hbb⟩, ⟨mc, ns_of l1, l2⟩⟩, bs := fun b o e => of_hidT e, bsz := Nat.le_of_eq (hidT_size _ _), funs := trivial, frf := fun b hb => (List.not_mem_nil hb).elim, hok := R.hok, bare := .of_eq hg }
  have run := run_ctr (Q := fun v _ => v = .bl true) (E := fun _ _ _ => False) (us := [.ref a]) (ws := []) (xs := [.scr ns]) (kx := []) (F _ kin (ns_of hns)) (roomG_caller hr) e0 KX (ρ := noLc) (k := 0) (st := []) Sim.none ⟨⟨_, R.scr, rfl⟩, trivial⟩ trivial
    (by simp) (by rw [hc]; exact fun ρ' k' H' _ _ v rv => by simpa only [RV] using rv)
  refine codeAny_mono run fun r s' h => ?_
  cases r with
  | error e =>
    obtain ⟨_, _, _, _, _, _, _, _, _, _, _, _, no⟩ := h
    exact no.elim
  | ok fl =>
    cases fl with
    | next => exact h.elim
    | brk => exact h.elim
    | cont => exact h.elim
    | ret u =>
      obtain ⟨v, H', os, bare, un, hok', rv, rfl⟩ := h
      obtain rfl : u = Value.bool true := rv
      refine ⟨rfl, OldK.of_keep fun b o e => ?_, os, bare⟩
      cases q : H b with
      | none => exact un.keep b o e q List.not_mem_nil List.not_mem_nil
      | some u =>
        obtain ⟨rfl, ob, xs, rfl⟩ := R.only b u q
        have e1 := (R.hok _ _ q).1
        rw [e] at e1
        cases e1
        exact (hok' _ _ (un.frzs _ _ _ q)).1
theorem end_call (KX : K.In s₁.heap) (hns : s₁.heap.Ns mainGlobals mg) (hb : s₁.heap.Ns builtinsNs mb) (hbb : ∀ x : Str, x ≠ "__name__" → mb x = bootBuiltins x) (hlim : s₁.heap.NoLimit) (hg : s₁.gens = #[])
    (ha : s₁.heap.get? a = some { cls := .type "list", data := .seq vs.toArray }) (hi : IntsAre vs ns) (hl : ns.length ≤ sizeLine) (hr : Room k callerA)
    (F : ∀ base : Heap, K.In base → base.Ns mainGlobals mg → FnC P w K mg base k call fa [(1, [])]) (hc : ∃ st, call [.scr ns] [] [] = .ok (.bl true) st) :
    codeAny (model P w) callerA (.call (.ref fa) ⟨[.ref a], []⟩) (Kept s₁) s₁ := by
  obtain ⟨st, hc⟩ := hc
  have vals := vals_ints hi
  have apart : ∀ b es ep (o : Obj), s₁.heap.get? b = some o → o.data = .dict es ep → b ≠ a := fun b es ep o e d z => by
    subst z
    rw [ha] at e
    cases e
    cases d
  cases q : K.lookup a with
  | some o =>
    refine end_core (H := fun _ => none) ⟨fun b u z => (nomatch z), fun b u z => (nomatch z), fun b u z => (nomatch z), ?_⟩ KX hns hb hbb hlim hg apart hr F hc
    have e := KX a o q
    rw [ha] at e
    cases e
    simp only [RV]
    exact ⟨a, rfl, .inr ⟨_, vs.toArray, _, q, rfl, rfl, rfl, by rw [List.size_toArray, hi.length]; exact hl, by simpa using vals⟩⟩
  | none =>
    have at_a : ∀ b u, (if b = a then some (HO.frz { cls := .type "list", data := .seq vs.toArray } (.lst (ns.map V.int))) else none) = some u → b = a ∧ u = HO.frz { cls := .type "list", data := .seq vs.toArray } (.lst (ns.map V.int)) := fun b u z => by
      split at z
      · rename_i e; cases z; exact ⟨e, rfl⟩
      · cases z
    refine end_core (H := fun b => if b = a then some (.frz { cls := .type "list", data := .seq vs.toArray } (.lst (ns.map V.int))) else none) ⟨fun b u z => ?_, fun b u z => ?_, fun b u z => ?_, ?_⟩ KX hns hb hbb hlim hg apart hr F hc
    · obtain ⟨e, rfl⟩ := at_a b u z
      exact ⟨e, _, _, rfl⟩
    · obtain ⟨rfl, rfl⟩ := at_a b u z
      exact ⟨ha, by rw [List.length_map]; exact hl, vs, _, vals, ha⟩
    · rw [(at_a b u z).1]
      exact q
    · simp only [RV]
      exact ⟨a, rfl, .inl ⟨_, if_pos rfl, fun z => z.elim, fun m h => absurd h (Nat.not_lt_zero _)⟩⟩
end
/-- the head's goal, from the evaluator's answers -/
theorem end_walk {l : PySem.W.OpenLaw} {n m : Nat} {q : Program} {loose : List Str} {XP : (Str → Option Value) → Heap → Prop} {YP : World → Heap → Prop} {d : DefRec} {call : List D → List (String × D) → Store → Res D}
    (hn : l.most = some n) (hn2 : n ≤ sizeLine) (hdf : d.params.defaults = []) (hr : Room m callerA)
    (F : ∀ (w : World) (mg : Str → Option Value) (fa : Addr) (h : Heap), YP w h → h.Ns mainGlobals mg → mg d.name = some (.ref fa) → ∃ K : PySem.W.Frag, K.In h ∧ ∀ base : Heap, K.In base → base.Ns mainGlobals mg → FnC l.prog w K mg base m call fa [(1, [])])
    (hc : ∀ ns : List Int, ns.length ≤ n → ∃ st, call [.scr ns] [] [] = .ok (.bl true) st) : PySem.W.WalkO q loose XP YP l.row.toRowW d [] (fun f vs => PySem.call f vs) :=
  Att.attach_call hn hdf fun w s₀ s₁ mg mb fa o pm cd doc a vs ns G Y ho hd hcd hmg hobj hints hlen hg => by
    obtain ⟨K, KX, hF⟩ := F w mg fa _ Y G.T.g hmg
    exact end_call KX G.T.g G.T.b G.T.builtins G.T.nolimit hg hobj hints (Nat.le_trans hlen hn2) hr hF (hc ns hlen)
end PV
set_option Elab.async false
set_option linter.all false
set_option maxRecDepth 100000
set_option maxHeartbeats 4000000
/-! PvBind: how the parameters are bound. -/
namespace PV
open PySem PySem.Spec PyProof.Rows L2
/-- plain parameters alone -/
def plainP (p : Arguments) (ps : List Str) : Bool := p.posonlyargs.isEmpty && p.kwonlyargs.isEmpty && p.vararg.isNone && p.kwarg.isNone && p.args.map (·.arg) == ps
theorem lookup_zip {α : Type} {x : Str} : ∀ {ps : List Str} {us : List α}, us.length = ps.length → x ∈ ps → ((ps.zip us).lookup x).isSome = true
  | p :: ps, u :: us, h, m => by
    simp only [List.zip_cons_cons, List.lookup]
    cases e : (x == p) with
    | true => rfl
    | false =>
      have hx : x ≠ p := by simpa using e
      exact lookup_zip (by simpa using h) (by simpa [hx] using m)
  | [], _, _, m => by simp at m
  | _ :: _, [], h, _ => by simp at h
theorem map_zip {α : Type} : ∀ {ps : List Str} {us : List α}, us.length = ps.length → ps.Nodup → (ps.filterMap fun n => ((ps.zip us).lookup n).map (n, ·)) = ps.zip us := by
  have gen : ∀ {ps : List Str} {us : List α} (pre : List (Str × α)), (∀ q ∈ pre, q.1 ∉ ps) → us.length = ps.length → ps.Nodup → (ps.filterMap fun n => ((pre ++ ps.zip us).lookup n).map (n, ·)) = ps.zip us := fun {ps} => by
    induction ps with
    | nil => intro us pre _ _ _; simp
    | cons p ps ih =>
      intro us pre hp hl nd
      cases us with
      | nil => simp at hl
      | cons u us =>
        have hpre : pre.lookup p = none := by
          cases e : pre.lookup p with
          | none => rfl
          | some v => exact absurd List.mem_cons_self (hp _ (PySem.mem_of_lookup e))
        have e1 : (pre ++ (p :: ps).zip (u :: us)).lookup p = some u := by
          rw [List.lookup_append, hpre]
          simp [List.lookup]
        have nd' := List.nodup_cons.mp nd
        have e2 := ih (us := us) (pre ++ [(p, u)]) (fun q hq => by
          rcases List.mem_append.mp hq with hq | hq
          · exact fun m => hp q hq (List.mem_cons_of_mem _ m)
          · have : q = (p, u) := by simpa using hq
            subst this
            exact nd'.1) (by simpa using hl) nd'.2
        rw [List.filterMap_cons, e1]
        simp only [Option.map_some, List.zip_cons_cons, List.cons.injEq, true_and]
        rw [List.append_assoc] at e2
        exact e2
  intro ps us hl nd
  exact gen [] (fun q hq => by simp at hq) hl nd
theorem bind_plain {name qual : Str} {params : Arguments} {body : List Stmt} {scope : Scope} {kV doc pm cdv ct : Value} {an : Option Addr} {ps : List Str} {us : List Value} (hp : plainP params ps = true) (nd : ps.Nodup) (hl : us.length = ps.length) :
    bindArgs (PySem.W.fnOf name qual params body scope .none kV doc pm an cdv ct) ⟨us, []⟩ = pure (ps.zip us) := by
  obtain ⟨po, ar, va, ko, kd, kw, df⟩ := params
  simp only [plainP, Bool.and_eq_true, List.isEmpty_iff, Option.isNone_iff_eq_none] at hp
  obtain ⟨⟨⟨⟨h1, h2⟩, h3⟩, h4⟩, h5⟩ := hp
  subst h1 h2 h3 h4
  have h5 := eq_of_beq h5
  unfold bindArgs PySem.W.fnOf
  simp [h5, hl, seqItems?]
  have nas : notAStandIn Value.none = pure () := rfl
  rw [nas, pure_bind]
  have hm : ∀ k : Nat, List.filter (fun n => (List.lookup n (ps.zip us)).isNone) (List.take k (List.map (fun x => x.arg) ([] : List Arg) ++ List.map (fun x => x.arg) ar)) = [] := fun k => by
    rw [List.filter_eq_nil_iff]
    intro x hx
    have hx' : x ∈ ps := by
      have := List.mem_of_mem_take hx
      rw [← h5]
      simpa using this
    have := lookup_zip hl hx'
    cases e : List.lookup x (ps.zip us) with
    | none => rw [e] at this; cases this
    | some v => simp
  refine (if_neg ?_).trans ?_
  · rw [hm]
    simp
  · rw [map_zip hl nd]
theorem bindP_all {α : Type} {ks df : List (String × α)} : ∀ {ps : List String} {us zs : List α}, us.length = ps.length → bindP ps us ks df = some zs → zs = us
  | [], [], zs, _, h => by simpa [bindP] using h.symm
  | p :: ps, u :: us, zs, hl, h => by
    simp only [bindP, Option.map_eq_some_iff] at h
    obtain ⟨zs', h1, rfl⟩ := h
    rw [bindP_all (by simpa using hl) h1]
  | [], _ :: _, _, h, _ => by simp at h
  | _ :: _, [], _, h, _ => by simp at h
/-- a def without defaults, called by all its parameters -/
theorem bindF_plain {K : PySem.W.Frag} {name qual : Str} {params : Arguments} {body : List Stmt} {scope : Scope} {kV doc pm cdv ct : Value} {an : Option Addr} {ps : List String} {dfV : List (String × Value)} (hp : plainP params (ps.map Str.ofString) = true) (nd : (ps.map Str.ofString).Nodup) :
    BindF K (PySem.W.fnOf name qual params body scope .none kV doc pm an cdv ct) ps dfV ps.length [] :=
  ⟨fun s us ws zs _ hl hw hz => by
    have e := bindP_all hl hz
    subst e
    exact .of_eq (bind_plain hp nd (by simpa using hl))⟩
end PV
set_option Elab.async false
set_option linter.all false
set_option maxRecDepth 100000
set_option maxHeartbeats 4000000
/-! PvBind2: a keyword-only parameter with a default. -/
namespace PV
open PySem PySem.Spec PyProof.Rows L2
def kwoP (p : Arguments) (ps : List Str) (k : Str) : Bool := p.posonlyargs.isEmpty && p.vararg.isNone && p.kwarg.isNone && p.args.map (·.arg) == ps && p.kwonlyargs.map (·.arg) == [k]
theorem lookup_zip_none {α : Type} {x : Str} : ∀ {ps : List Str} {us : List α}, x ∉ ps → (ps.zip us).lookup x = none
  | [], us, _ => by simp
  | p :: ps, [], _ => by simp
  | p :: ps, u :: us, h => by
    simp only [List.mem_cons, not_or] at h
    have e : (x == p) = false := by simpa using h.1
    simp only [List.zip_cons_cons, List.lookup, e]
    exact lookup_zip_none h.2
theorem zip_snoc {α : Type} {k : Str} {w : α} : ∀ {ps : List Str} {us : List α}, us.length = ps.length → (ps ++ [k]).zip (us ++ [w]) = ps.zip us ++ [(k, w)]
  | [], [], _ => rfl
  | p :: ps, u :: us, h => by simp [zip_snoc (ps := ps) (us := us) (by simpa using h)]
  | [], _ :: _, h => by simp at h
  | _ :: _, [], h => by simp at h
theorem bind_kwo1 {name qual : Str} {params : Arguments} {body : List Stmt} {scope : Scope} {kV doc pm cdv ct w : Value} {an : Option Addr} {ps : List Str} {k : Str} {us : List Value} (hp : kwoP params ps k = true) (nd : (ps ++ [k]).Nodup) (hl : us.length = ps.length) :
    bindArgs (PySem.W.fnOf name qual params body scope .none kV doc pm an cdv ct) ⟨us, [(k, w)]⟩ = pure ((ps ++ [k]).zip (us ++ [w])) := by
  obtain ⟨po, ar, va, ko, kd, kw, df⟩ := params
  simp only [kwoP, Bool.and_eq_true, List.isEmpty_iff, Option.isNone_iff_eq_none] at hp
  obtain ⟨⟨⟨⟨h1, h3⟩, h4⟩, h5⟩, h6⟩ := hp
  subst h1 h3 h4
  have h5 := eq_of_beq h5
  have h6 := eq_of_beq h6
  have hk : k ∉ ps := by
    rw [List.nodup_append] at nd
    intro z
    exact nd.2.2 k z k (by simp) rfl
  have ln := lookup_zip_none (us := us) hk
  unfold bindArgs PySem.W.fnOf
  simp [h5, h6, hl, seqItems?, ln]
  have nas : notAStandIn Value.none = pure () := rfl
  rw [nas, pure_bind]
  have hps : ∀ x ∈ ps, ((ps.zip us ++ [(k, w)]).lookup x).isSome = true := fun x hx => by
    rw [List.lookup_append]
    have := lookup_zip hl hx
    cases e : (ps.zip us).lookup x with
    | none => rw [e] at this; cases this
    | some v => rfl
  have hm : ∀ j : Nat, List.filter (fun n => (List.lookup n (ps.zip us ++ [(k, w)])).isNone) (List.take j (List.map (fun x => x.arg) ([] : List Arg) ++ List.map (fun x => x.arg) ar)) = [] := fun j => by
    rw [List.filter_eq_nil_iff]
    intro x hx
    have hx' : x ∈ ps := by
      have := List.mem_of_mem_take hx
      rw [← h5]
      simpa using this
    have := hps x hx'
    cases e : List.lookup x (ps.zip us ++ [(k, w)]) with
    | none => rw [e] at this; cases this
    | some v => simp
  have lk : List.lookup k (ps.zip us ++ [(k, w)]) = some w := by
    rw [List.lookup_append, ln]
    simp
  refine (if_neg ?_).trans ?_
  · rw [hm]
    simp
  · have hz := map_zip (α := Value) (ps := ps ++ [k]) (us := us ++ [w]) (by simp [hl]) nd
    rw [zip_snoc hl, List.filterMap_append] at hz
    simp [lk]
    rw [zip_snoc hl]
    simp [lk] at hz
    rw [hz]
theorem KwChain_of {α β : Type} {D : Addr} {k : Str} {u : Value} {m : Option Value → Sem β} {a : β} {rest : β → Sem α} {r : α} (h1 : m (some u) = pure a) (h2 : rest a = pure r) : KwChain D [(k, u)] (nsGet D k >>= fun x => m x >>= rest) r := by
  refine ⟨β, α, m, rest, pure, a, ?_, h1, ?_⟩
  · rw [bind_pure, bind_assoc]
  · show _ = pure r
    rw [bind_pure, h2]
theorem bind_kwo0 {name qual : Str} {params : Arguments} {body : List Stmt} {scope : Scope} {doc pm cdv ct u : Value} {D : Addr} {an : Option Addr} {ps : List Str} {k : Str} {us : List Value} (hp : kwoP params ps k = true) (nd : (ps ++ [k]).Nodup) (hl : us.length = ps.length) :
    KwChain D [(k, u)] (bindArgs (PySem.W.fnOf name qual params body scope .none (.ref D) doc pm an cdv ct) ⟨us, []⟩) ((ps ++ [k]).zip (us ++ [u])) := by
  obtain ⟨po, ar, va, ko, kd, kw, df⟩ := params
  simp only [kwoP, Bool.and_eq_true, List.isEmpty_iff, Option.isNone_iff_eq_none] at hp
  obtain ⟨⟨⟨⟨h1, h3⟩, h4⟩, h5⟩, h6⟩ := hp
  subst h1 h3 h4
  have h5 := eq_of_beq h5
  have h6 := eq_of_beq h6
  have hk : k ∉ ps := by
    rw [List.nodup_append] at nd
    intro z
    exact nd.2.2 k z k (by simp) rfl
  have ln := lookup_zip_none (us := us) hk
  unfold bindArgs PySem.W.fnOf
  simp [h5, h6, hl, seqItems?, ln]
  have nas : notAStandIn Value.none = pure () := rfl
  rw [nas, pure_bind]
  have hm : ∀ j : Nat, List.filter (fun n => (List.lookup n (ps.zip us)).isNone) (List.take j (List.map (fun x => x.arg) ([] : List Arg) ++ List.map (fun x => x.arg) ar)) = [] := fun j => by
    rw [List.filter_eq_nil_iff]
    intro x hx
    have hx' : x ∈ ps := by
      have := List.mem_of_mem_take hx
      rw [← h5]
      simpa using this
    have := lookup_zip hl hx'
    cases e : List.lookup x (ps.zip us) with
    | none => rw [e] at this; cases this
    | some v => simp
  have lk : List.lookup k (ps.zip us ++ [(k, u)]) = some u := by
    rw [List.lookup_append, ln]
    simp
  rw [if_neg (by rw [hm]; simp)]
  refine KwChain_of (by rfl) ?_
  have hz := map_zip (α := Value) (ps := ps ++ [k]) (us := us ++ [u]) (by simp [hl]) nd
  rw [zip_snoc hl, List.filterMap_append] at hz
  rw [zip_snoc hl]
  simp [lk] at hz ⊢
  rw [hz]
end PV
namespace PV
open PySem PySem.Spec PyProof.Rows L2
theorem bindP_app {α : Type} {k : String} {ks df : List (String × α)} : ∀ {ps : List String} {us : List α}, us.length = ps.length → bindP (ps ++ [k]) us ks df = (bindP [k] [] ks df).map (us ++ ·)
  | [], [], _ => by simp
  | p :: ps, u :: us, h => by
    rw [List.cons_append, bindP, bindP_app (by simpa using h)]
    cases bindP [k] [] ks df <;> rfl
  | [], _ :: _, h => by simp at h
  | _ :: _, [], h => by simp at h
/-- a def with plain parameters and one keyword-only parameter, called with it or without it -/
theorem bindF_kwo {K : PySem.W.Frag} {name qual : Str} {params : Arguments} {body : List Stmt} {scope : Scope} {doc pm cdv ct u : Value} {an : Option Addr} {D : Addr} {ps : List String} {k : String} {n : Nat} {ks : List String} (hp : kwoP params (ps.map Str.ofString) (Str.ofString k) = true) (nd : (ps.map Str.ofString ++ [Str.ofString k]).Nodup)
    (hu : PySem.W.nsIn K D (Str.ofString k) = some (some u)) (hs : (n, ks) = (ps.length, []) ∨ (n, ks) = (ps.length, [k])) : BindF K (PySem.W.fnOf name qual params body scope .none (.ref D) doc pm an cdv ct) (ps ++ [k]) [(k, u)] n ks := by
  refine ⟨fun s us ws zs X l1 l2 hz => ?_⟩
  rcases hs with e | e <;> (simp only [Prod.mk.injEq] at e; obtain ⟨rfl, rfl⟩ := e)
  · have ew : ws = [] := List.length_eq_zero_iff.mp (by simpa using l2)
    subst ew
    rw [bindP_app l1] at hz
    simp [bindP, List.lookup] at hz
    subst hz
    rw [List.map_append]
    refine BindsTo.of_looks fun M => ?_
    exact KwChain.looks X (l := [(Str.ofString k, u)]) (fun q hq => by
      have : q = (Str.ofString k, u) := by simpa using hq
      rw [this]; exact hu) (bind_kwo0 hp nd (by simpa using l1))
  · obtain ⟨w, rfl⟩ := List.length_eq_one_iff.mp (by simpa using l2)
    rw [bindP_app l1] at hz
    simp [bindP, List.lookup] at hz
    subst hz
    rw [List.map_append]
    exact BindsTo.of_eq (bind_kwo1 hp nd (by simpa using l1))
end PV
set_option Elab.async false
set_option linter.all false
set_option maxRecDepth 100000
set_option maxHeartbeats 4000000
/-! PvHead: all that the top has left, from the head's facts. -/
namespace PV
open PySem PySem.Spec PyProof.Rows L2
/-- a def of the text and its clean form: class ("" for none), name, the text's def, clean form, names of the slots, shapes of calls -/
structure Ent where
  c : String
  f : String
  d : He.DefD
  fn : Fn
  N : List String
  sh : List (Nat × List String)
def Ent.at_ (e : Ent) : Str × Option Str := if e.c = "" then (Str.ofString e.f, none) else (Str.ofString e.c, some (Str.ofString e.f))
def nodupB : List Str → Bool
  | [] => true
  | x :: r => !r.contains x && nodupB r
theorem nodupB_ok : ∀ {l : List Str}, nodupB l = true → l.Nodup
  | [], _ => .nil
  | x :: r, h => by
    simp only [nodupB, Bool.and_eq_true, Bool.not_eq_true', List.contains_eq_mem, decide_eq_false_iff_not] at h
    exact List.nodup_cons.mpr ⟨h.1, nodupB_ok h.2⟩
def scopeB (N ps : List Str) (sc : Scope) : Bool :=
  (sc.kind == .function) && (sc.isCoroutine == false) && (sc.isGenerator == false) && nodupB N && decide (N.take ps.length = ps) &&
  ps.all (fun x => sc.names.lookup x == some .local || sc.names.lookup x == some .cell) && sc.names.all (fun y => !(y.2 == .free))
theorem scopeB_ok {N ps : List Str} {sc : Scope} (h : scopeB N ps sc = true) : FnScope N ps sc := by
  simp only [scopeB, Bool.and_eq_true] at h
  obtain ⟨⟨⟨⟨⟨⟨h1, h2⟩, h3⟩, h4⟩, h5⟩, h6⟩, h7⟩ := h
  refine ⟨eq_of_beq h1, eq_of_beq h2, eq_of_beq h3, nodupB_ok h4, of_decide_eq_true h5, fun x hx => ?_, fun y hy => ?_⟩
  · have := List.all_eq_true.mp h6 x hx
    rcases (Bool.or_eq_true _ _).mp this with q | q
    · exact .inl (eq_of_beq q)
    · exact .inr (eq_of_beq q)
  · have := List.all_eq_true.mp h7 y hy
    simpa using this
/-- how a def's parameters are bound -/
structure BindOk (e : Ent) : Prop where
  to : ∀ (K : PySem.W.Frag) (w : World) (dV kV : Value), DflV K dV (e.d.dvs K) → KwdV K kV (e.d.kws K) → ∃ dfV, (∀ ρ k H, KwR (RU K w ρ k H) e.fn.dfl dfV) ∧
    ∀ doc pm an cdv ct n ks, (n, ks) ∈ e.sh → BindF K (PySem.W.fnOf e.d.name e.d.qual e.d.params e.d.body e.d.scope dV kV doc pm an cdv ct) e.fn.params dfV n ks
def plainE (e : Ent) : Bool := plainP e.d.params (e.fn.params.map Str.ofString) && nodupB (e.fn.params.map Str.ofString) && e.d.dfl.isEmpty && e.fn.dfl.isEmpty && e.sh.all (fun s => s == (e.fn.params.length, []))
theorem bindOk_plain {e : Ent} (h : plainE e = true) : BindOk e := by
  simp only [plainE, Bool.and_eq_true, List.isEmpty_iff] at h
  obtain ⟨⟨⟨⟨h1, h2⟩, h3⟩, h4⟩, h5⟩ := h
  refine ⟨fun K w dV kV hd hk => ⟨[], fun ρ k H => by rw [h4]; trivial, fun doc pm an cdv ct n ks hm => ?_⟩⟩
  have e1 := eq_of_beq (List.all_eq_true.mp h5 _ hm)
  simp only [Prod.mk.injEq] at e1
  obtain ⟨rfl, rfl⟩ := e1
  rcases hd with ⟨_, rfl⟩ | ⟨ne, _⟩
  · exact bindF_plain h1 (nodupB_ok h2)
  · exact absurd (by unfold He.DefD.dvs; rw [h3]; rfl) ne
/-- a written default -/
def dvIs : D → He.Dv → Bool
  | .non, .non => true
  | .bl a, .bl b => a == b
  | .int a, .int b => a == b
  | .str a, .str b => tx a == b
  | _, _ => false
theorem dvIs_ok {K : PySem.W.Frag} {w : World} {ρ : Lc} {k : Nat} {H : Hp} : ∀ {d : D} {v : He.Dv}, dvIs d v = true → RV K w ρ k H d (v.v K) := fun {d v} h => by
  cases d <;> cases v <;> first | (cases h; done) | (simp only [RV, He.Dv.v]; done) | (have e := eq_of_beq h; subst e; simp only [RV, He.Dv.v])
def kwoE (e : Ent) : Bool := match e.fn.dfl, e.d.kwd with
  | [(k, d)], [(k', v)] => k' == Str.ofString k && dvIs d v && decide (e.fn.params = e.fn.params.dropLast ++ [k]) && kwoP e.d.params (e.fn.params.dropLast.map Str.ofString) (Str.ofString k) && nodupB (e.fn.params.dropLast.map Str.ofString ++ [Str.ofString k]) && e.d.dfl.isEmpty && e.sh.all (fun s => s == (e.fn.params.dropLast.length, []) || s == (e.fn.params.dropLast.length, [k]))
  | _, _ => false
theorem bindOk_kwo {e : Ent} (h : kwoE e = true) : BindOk e := by
  unfold kwoE at h
  split at h
  · rename_i k d k' v e1 e2
    simp only [Bool.and_eq_true, decide_eq_true_eq, List.isEmpty_iff] at h
    obtain ⟨⟨⟨⟨⟨⟨h1, h2⟩, h3⟩, h4⟩, h5⟩, h6⟩, h7⟩ := h
    have h1 := eq_of_beq h1
    subst h1
    refine ⟨fun K w dV kV hd hk => ?_⟩
    have hdV : dV = .none := by
      rcases hd with ⟨_, e⟩ | ⟨ne, _⟩
      · exact e
      · exact absurd (by unfold He.DefD.dvs; rw [h6]; rfl) ne
    subst hdV
    have hkw : e.d.kws K = [(Str.ofString k, v.v K)] := by unfold He.DefD.kws; rw [e2]; rfl
    rcases hk with hk | ⟨D, rfl, hq⟩
    · rw [hkw] at hk; cases hk
    · obtain ⟨u, u1, u2⟩ := hq (Str.ofString k, v.v K) (by rw [hkw]; simp)
      refine ⟨[(k, u)], fun ρ k0 H => ?_, fun doc pm an cdv ct n ks hm => ?_⟩
      · rw [e1]
        exact ⟨⟨rfl, _, dvIs_ok h2, u2⟩, trivial⟩
      · have hs := List.all_eq_true.mp h7 _ hm
        rw [h3]
        refine bindF_kwo h4 (nodupB_ok h5) u1 ?_
        rcases (Bool.or_eq_true _ _).mp hs with q | q
        · exact .inl (eq_of_beq q)
        · exact .inr (eq_of_beq q)
  · cases h
/-! ### constants of the module -/
def dvF : D → He.Dv
  | .bl b => .bl b
  | .int i => .int i
  | .str s => .str (tx s)
  | _ => .non
def flatV : D → V
  | .bl b => .bl b
  | .int i => .int i
  | .str s => .str (tx s)
  | _ => .non
theorem dvF_v {K : PySem.W.Frag} : ∀ {d : D}, (dvF d).v K = flatV d
  | .bl b => rfl
  | .int i => rfl
  | .str s => rfl
  | .non => rfl
  | .tup _ => rfl
  | .frz _ => rfl
  | .scr _ => rfl
  | .frd _ => rfl
  | .ref _ => rfl
theorem rv_flat {K : PySem.W.Frag} {w : World} {ρ : Lc} {k : Nat} {H : Hp} : ∀ {d : D}, flat d = true → RV K w ρ k H d (flatV d)
  | .bl b, _ => by simp only [RV, flatV]
  | .int i, _ => by simp only [RV, flatV]
  | .str s, _ => by simp only [RV, flatV]
  | .non, _ => by simp only [RV, flatV]
  | .tup _, h => by simp [flat] at h
  | .frz _, h => by simp [flat] at h
  | .scr _, h => by simp [flat] at h
  | .frd _, h => by simp [flat] at h
  | .ref _, h => by simp [flat] at h
theorem rvs_flat {K : PySem.W.Frag} {w : World} {ρ : Lc} {k : Nat} {H : Hp} : ∀ {ds : List D}, ds.all flat = true → RVs K w ρ k H ds (ds.map flatV)
  | [], _ => .nil
  | d :: ds, h => by
    simp only [List.all_cons, Bool.and_eq_true] at h
    exact .cons (rv_flat h.1) (rvs_flat h.2)
def kTxt : D → List Nat
  | .str s => s
  | _ => []
def isTxt : D → Bool
  | .str _ => true
  | _ => false
/-- what is asked of a constant's place -/
def gB (K : PySem.W.Frag) (q : String × D) : Bool := match q.2 with
  | .int i => (He.Fa.int (Str.ofString q.1) i).ok K
  | .str s => (He.Fa.str (Str.ofString q.1) (tx s)).ok K
  | .tup ds => ds.all flat && ((He.Fa.glo (Str.ofString q.1)).ok K && He.tupB K (Str.ofString q.1) (ds.map dvF))
  | .frd kvs => kvs.all (fun p => isTxt p.1 && flat p.2) && nodupB (kvs.map fun p => tx (kTxt p.1)) && ((He.Fa.glo (Str.ofString q.1)).ok K && He.valsB K (He.ga K (Str.ofString q.1)) (kvs.map fun p => (tx (kTxt p.1), dvF p.2)))
  | _ => false
def tabsOf (gs : List (String × D)) : List He.Tab := gs.filterMap fun q => match q.2 with
  | .frd kvs => some (fun K => He.ga K (Str.ofString q.1), kvs.map fun p => tx (kTxt p.1))
  | _ => none
theorem nsIn_miss {K : PySem.W.Frag} {P : Params} {a : Addr} {ks : List Str} (h : He.dicW K a = some (He.keysIn P ks)) {z : Str} (hz : z ∉ ks) : PySem.W.nsIn K a z = some none := by
  unfold He.dicW at h
  unfold PySem.W.nsIn
  cases q : K.lookup a with
  | none => rw [q] at h; cases h
  | some o =>
    obtain ⟨oc, od, dt, osl⟩ := o
    rw [q] at h
    cases oc with
    | type c =>
      cases od with
      | none =>
        cases dt with
        | dict es n =>
          dsimp only at h ⊢
          split at h
          · have h1 := Option.some.inj h
            have key : ∀ e ∈ es.toList, ∃ x t, e.key = .str x t ∧ x ∈ ks := fun e he => by
              have m : He.keyOf e ∈ es.toList.map He.keyOf := List.mem_map.mpr ⟨e, he, rfl⟩
              rw [h1] at m
              obtain ⟨x, hx, e2⟩ := List.mem_map.mp m
              unfold He.keyOf at e2
              split at e2
              · rename_i y t q2
                have e3 := Option.some.inj e2
                have e4 := (Prod.mk.inj e3).1
                exact ⟨y, t, q2, by rw [← e4]; exact hx⟩
              · cases e2
            have hf : es.toList.find? (·.key.isStr z) = none := by
              rw [List.find?_eq_none]
              intro e he
              obtain ⟨x, t, e1, e2⟩ := key e he
              rw [e1]
              intro e3
              have : x = z := by simpa [Value.isStr] using e3
              exact hz (this ▸ e2)
            have ha : es.toList.any (·.refKey) = false := by
              rw [List.any_eq_false]
              intro e he
              obtain ⟨x, t, e1, e2⟩ := key e he
              simp [DictEntry.refKey, e1]
            rw [hf, ha]
            rfl
          · cases h
        | _ => cases h
      | some d => cases dt <;> cases h
    | _ => cases od <;> cases dt <;> cases h
theorem esr_of {P : Params} : ∀ {ks : List (Str × V)} {es : List DictEntry}, es.map He.keyOf = He.keysIn P (ks.map (·.1)) → (ks.map (·.1)).Nodup → (∀ q ∈ ks, ∃ e, es.find? (·.key.isStr q.1) = some e ∧ RelV q.2 e.val) → EsR es (ks.map fun q => (Sum.inr q.1, q.2))
  | [], es, h, _, _ => by
    cases es with
    | nil => simp only [List.map_nil, EsR]
    | cons e es => simp [He.keysIn] at h
  | (x, v) :: ks, es, h, nd, hv => by
    cases es with
    | nil => simp [He.keysIn] at h
    | cons e es =>
      simp only [He.keysIn, List.map_cons, List.cons.injEq] at h
      obtain ⟨h1, h2⟩ := h
      unfold He.keyOf at h1
      split at h1
      · rename_i y t ek
        simp only [Option.some.injEq, Prod.mk.injEq] at h1
        obtain ⟨rfl, _⟩ := h1
        have nd' := List.nodup_cons.mp nd
        obtain ⟨e', f1, f2⟩ := hv _ List.mem_cons_self
        simp only [List.find?_cons, ek, Value.isStr, beq_self_eq_true] at f1
        cases f1
        simp only [List.map_cons, EsR]
        refine ⟨_, _, _, rfl, by rw [ek]; simp [keyIs, Value.isStrOf], f2, esr_of (P := P) (by simpa only [He.keysIn] using h2) nd'.2 fun q hq => ?_⟩
        obtain ⟨e2, g1, g2⟩ := hv q (List.mem_cons_of_mem _ hq)
        have ne : y ≠ q.1 := fun z => nd'.1 (z ▸ List.mem_map.mpr ⟨q, hq, rfl⟩)
        have ne' : (y == q.1) = false := beq_eq_false_iff_ne.mpr ne
        simp only [List.find?_cons, ek, Value.isStr, ne'] at g1
        exact ⟨e2, g1, g2⟩
      · cases h1
theorem nsIn_found {K : PySem.W.Frag} {a : Addr} {es : Array DictEntry} {n : Nat} {u : Value} {z : Str} {c : Value} {d : Option Addr} {sl : Array (Option Value)} (l : K.lookup a = some ⟨c, d, .dict es n, sl⟩) (h : PySem.W.nsIn K a z = some (some u)) : ∃ e, es.toList.find? (·.key.isStr z) = some e ∧ e.val = u := by
  unfold PySem.W.nsIn at h
  rw [l] at h
  dsimp only at h
  split at h
  · rename_i e he
    simp only [Option.some.injEq] at h
    exact ⟨e, he, h⟩
  · split at h
    · cases h
    · cases h
def sysB (K : PySem.W.Frag) : Bool := match K.lookup sysModules with
  | some ⟨.type c, _, _, _⟩ => c == "dict"
  | _ => false
theorem sysB_ok {K : PySem.W.Frag} (h : sysB K = true) : SysD K := by
  unfold sysB at h
  split at h
  · rename_i c d dt sl e
    exact ⟨_, e, by rw [eq_of_beq h]⟩
  · cases h
theorem rks_flat {K : PySem.W.Frag} {w : World} {ρ : Lc} {k : Nat} {H : Hp} : ∀ {kvs : List (D × D)}, (kvs.all fun p => isTxt p.1 && flat p.2) = true → RKs K w ρ k H kvs (kvs.map fun p => (p.1, flatV p.2))
  | [], _ => by simp only [RKs, List.map_nil]
  | (q, d) :: r, h => by
    simp only [List.all_cons, Bool.and_eq_true] at h
    simp only [RKs, List.map_cons]
    exact ⟨_, _, rfl, rv_flat h.1.2, rks_flat h.2⟩
theorem glob_ok {K : PySem.W.Frag} {w : World} {h : Heap} {mg : Str → Option Value} {fa : List He.Fa} {fnL : List He.DefD} (X : K.In h) (G : h.Ns mainGlobals mg) {gs : List (String × D)} (hg : gs.all (gB K) = true) (ht : He.SaysT fa fnL (tabsOf gs) w K) {x : String} {d : D} (hm : (x, d) ∈ gs) :
    GlobOk K w mg (Str.ofString x) d := by
  have h1 := List.all_eq_true.mp hg _ hm
  unfold gB at h1
  split at h1
  · rename_i i e
    cases e
    obtain ⟨t, e⟩ := He.int_ok X G h1
    exact ⟨_, .int i, e, ⟨t, rfl⟩, fun ρ k H => by simp only [RV]⟩
  · rename_i s e
    cases e
    obtain ⟨t, e⟩ := He.str_ok X G h1
    exact ⟨_, .str (tx s), e, ⟨t, rfl⟩, fun ρ k H => by simp only [RV]⟩
  · rename_i ds e
    cases e
    simp only [Bool.and_eq_true] at h1
    obtain ⟨h2, h3, h4⟩ := h1
    refine ⟨_, .ref (He.ga K (Str.ofString x)), He.glo_ok X G h3, rfl, fun ρ k H => ?_⟩
    have sq := He.tupB_ok h4 (fun _ => none)
    simp only [RV]
    refine ⟨_, ds.map flatV, rfl, .inr ?_, rvs_flat h2⟩
    rw [List.map_map] at sq
    have e : (He.Dv.v K ∘ dvF) = flatV := funext fun d => dvF_v
    rw [e] at sq
    rcases sq with sq | ⟨o, its, n, q1, q2, q3, q4, q5⟩
    · rcases sq with sq | ⟨o, sq⟩
      · cases sq
      · cases sq
    · exact ⟨o, its, n, q1, q2, q3, q4, q5⟩
  · rename_i kvs e
    cases e
    simp only [Bool.and_eq_true] at h1
    obtain ⟨⟨h2, hnd⟩, h3, h4⟩ := h1
    refine ⟨_, .ref (He.ga K (Str.ofString x)), He.glo_ok X G h3, rfl, fun ρ k H => ?_⟩
    have mt : ((fun K => He.ga K (Str.ofString x), kvs.map fun p => tx (kTxt p.1)) : He.Tab) ∈ tabsOf gs := List.mem_filterMap.mpr ⟨_, hm, rfl⟩
    obtain ⟨i, hi, ei⟩ := List.mem_iff_getElem.mp mt
    have kd := ht.tab i (t := (fun K => He.ga K (Str.ofString x), kvs.map fun p => tx (kTxt p.1))) (by rw [List.getElem?_eq_getElem hi, ei])
    have hd : He.dicW K (He.ga K (Str.ofString x)) = some (He.keysIn w.params (kvs.map fun p => tx (kTxt p.1))) := by
      have e : (tabsOf gs).map (fun t => He.dicW K (t.1 K)) = (tabsOf gs).map fun t => some (He.keysIn w.params t.2) := congrArg (fun z : He.AlT => z.2) ht
      have e2 : ((tabsOf gs).map fun t => He.dicW K (t.1 K))[i]? = ((tabsOf gs).map fun t => some (He.keysIn w.params t.2))[i]? := by rw [e]
      rw [List.getElem?_map, List.getElem?_map, List.getElem?_eq_getElem hi, ei] at e2
      exact Option.some.inj e2
    simp only [RV]
    have kd2 : ∃ es n, KDict K w (He.ga K (Str.ofString x)) es n ∧ ∃ kv, EsR es.toList kv ∧ kv.map (fun p => (some p.1, p.2)) = (kvs.map fun p => (p.1, flatV p.2)).map (fun p => (keyD p.1, p.2)) := by
      obtain ⟨es, n, D⟩ := kd
      refine ⟨es, n, D, _, esr_of (P := w.params) (ks := kvs.map fun p => (tx (kTxt p.1), flatV p.2)) ?_ ?_ ?_, ?_⟩
      · unfold He.dicW at hd
        rw [D.at_] at hd
        dsimp only at hd
        split at hd
        · have := Option.some.inj hd
          rw [this, List.map_map]
          rfl
        · cases hd
      · rw [List.map_map]
        exact nodupB_ok hnd
      · intro q hq
        obtain ⟨p, hp, rfl⟩ := List.mem_map.mp hq
        obtain ⟨u, n1, n2⟩ := He.valsB_ok h4 (q := (tx (kTxt p.1), dvF p.2)) (List.mem_map.mpr ⟨p, hp, rfl⟩)
        obtain ⟨e, g1, g2⟩ := nsIn_found D.at_ n1
        refine ⟨e, g1, ?_⟩
        rw [g2, ← dvF_v]
        exact n2
      · rw [List.map_map, List.map_map, List.map_map]
        refine List.map_congr_left fun p hp => ?_
        have h5 := List.all_eq_true.mp h2 p hp
        simp only [Bool.and_eq_true] at h5
        obtain ⟨k1, d1⟩ := p
        cases k1 with
        | str s => rfl
        | _ => simp [isTxt] at h5
    refine ⟨_, kvs.map fun p => (p.1, flatV p.2), rfl, .inr ⟨kd2, fun z => ?_⟩, rks_flat h2⟩
    cases ef : (kvs.map fun p => (p.1, flatV p.2)).find? (fun p => eqF p.1 (.str z)) with
    | none =>
      refine ⟨none, nsIn_miss hd ?_, by simp⟩
      intro hz
      obtain ⟨p, hp, e3⟩ := List.mem_map.mp hz
      have h5 := List.all_eq_true.mp h2 p hp
      simp only [Bool.and_eq_true] at h5
      rw [List.find?_eq_none] at ef
      have h6 := ef (p.1, flatV p.2) (List.mem_map.mpr ⟨p, hp, rfl⟩)
      obtain ⟨k1, d1⟩ := p
      cases k1 with
      | str s =>
        have e4 : s = z := by simpa [tx, kTxt] using e3
        simp [eqF, e4] at h6
      | _ => simp [isTxt] at h5
    | some q =>
      have m := List.mem_of_find?_eq_some ef
      have pq := List.find?_some ef
      obtain ⟨p, hp, e3⟩ := List.mem_map.mp m
      have h5 := List.all_eq_true.mp h2 p hp
      simp only [Bool.and_eq_true] at h5
      obtain ⟨u, n1, n2⟩ := He.valsB_ok h4 (q := (tx (kTxt p.1), dvF p.2)) (List.mem_map.mpr ⟨p, hp, rfl⟩)
      obtain ⟨k1, d1⟩ := p
      subst e3
      cases k1 with
      | str s =>
        have e4 : s = z := by simpa [eqF] using pq
        subst e4
        refine ⟨some u, n1, ?_⟩
        rw [dvF_v] at n2
        simpa using n2
      | _ => simp [isTxt] at h5
  · cases h1
/-! ### the table -/
theorem memL {α β : Type} [BEq α] [LawfulBEq α] {a : α} {b : β} : ∀ {l : List (α × β)}, l.lookup a = some b → (a, b) ∈ l
  | [], h => by cases h
  | (x, y) :: l, h => by
    by_cases e : a = x
    · subst e
      rw [List.lookup_cons_self, Option.some.injEq] at h
      rw [h]
      exact List.mem_cons_self
    · have e' : (a == x) = false := beq_eq_false_iff_ne.mpr e
      simp only [List.lookup, e'] at h
      exact List.mem_cons_of_mem _ (memL h)
/-- an own exception: class, field, base class, its __init__, the names of its two parameters -/
structure XEnt where
  c : String
  f : String
  B : String
  d : He.DefD
  x0 : String
  x1 : String
def XEnt.at_ (e : XEnt) : Str × Option Str := (Str.ofString e.c, some "__init__")
def XEnt.ok (flds : List (String × String)) (e : XEnt) : Bool :=
  decide (e.d.at_ = e.at_) && scopeB [Str.ofString e.x0, Str.ofString e.x1] [Str.ofString e.x0, Str.ofString e.x1] e.d.scope && initB (Str.ofString e.B) (Str.ofString e.x0) (Str.ofString e.x1) (Str.ofString e.f) e.d.scope e.d.body &&
  plainP e.d.params [Str.ofString e.x0, Str.ofString e.x1] && nodupB [Str.ofString e.x0, Str.ofString e.x1] && e.d.dfl.isEmpty && e.d.kwd.isEmpty && (flds.lookup e.c).getD "" == e.f
/-- what is asked of it in the written part -/
def xeB (K : PySem.W.Frag) (e : XEnt) : Bool := (He.Fa.glo (Str.ofString e.c)).ok K && (oexB K (He.ga K (Str.ofString e.c)) && (baseB K (Str.ofString e.B) && ((He.Fa.meth (Str.ofString e.c) "__init__").ok K && (decide (PySem.W.typeIn K (.ref (He.fAd K e.at_)) = some (.type "function")) &&
  decide (PySem.W.findIn K (.ref (He.ga K (Str.ofString e.c))) (Str.ofString e.f) = some none)))))
/-- which exception is which -/
def catB (excs : List (String × List String)) (flds : List (String × String)) (K : PySem.W.Frag) : Bool :=
  excs.all (fun a => (He.Fa.glo (Str.ofString a.1)).ok K) && (excs.all (fun a => excs.all fun b => decide (PySem.W.exmOne K (.ref (He.ga K (Str.ofString a.1))) (.ref (He.ga K (Str.ofString b.1))) = some (a.1 == b.1 || ((excs.lookup a.1).getD []).contains b.1))) &&
  excs.all fun a => (flds.lookup a.1).getD "" == "" || (xfB K (He.ga K (Str.ofString a.1)) && decide (PySem.W.findIn K (.ref (He.ga K (Str.ofString a.1))) (Str.ofString ((flds.lookup a.1).getD "")) = some none)))
theorem excF_ok {K : PySem.W.Frag} {w : World} {h : Heap} {mg : Str → Option Value} {fa : List He.Fa} {fnL : List He.DefD} {flds : List (String × String)} (X : K.In h) (G : h.Ns mainGlobals mg) {e : XEnt} (h1 : e.ok flds = true) (h2 : xeB K e = true) (sd : He.SaysD fa fnL K) (hm : e.d ∈ fnL)
    (P : Program) (base : Heap) : ExcF P w K mg base (Str.ofString e.c) (Str.ofString e.f) := by
  simp only [XEnt.ok, Bool.and_eq_true, decide_eq_true_eq, List.isEmpty_iff] at h1
  obtain ⟨⟨⟨⟨⟨⟨⟨a1, a2⟩, a3⟩, a4⟩, a5⟩, a6⟩, a7⟩, a8⟩ := h1
  simp only [xeB, Bool.and_eq_true, decide_eq_true_eq] at h2
  obtain ⟨b1, b2, b3, b4, b5, b6⟩ := h2
  obtain ⟨fd, F⟩ := sd.defs hm
  have e1 : e.d.dvs K = [] := by unfold He.DefD.dvs; rw [a6]; rfl
  have e2 : e.d.kws K = [] := by unfold He.DefD.kws; rw [a7]; rfl
  rw [e1, e2, a1] at F
  exact ⟨_, fd, _, oexB_ok b2, (He.meth_ok b4).at_, b5, init_ok (baseB_ok X G b3) F (scopeB_ok a2) a3, F.bindsN fun kV doc pm an cdv ct us hl => bind_plain a4 (nodupB_ok a5) hl, He.glo_ok X G b1, b6⟩
theorem cat_ok {K : PySem.W.Frag} {T : Tab} (h : catB T.excs T.flds K = true) (call) : CatOk K (T.prog call) := by
  simp only [catB, Bool.and_eq_true] at h
  obtain ⟨h0, h1, h2⟩ := h
  refine ⟨fun c x hc hx => ?_, fun c f hc hf hn => ?_⟩
  · obtain ⟨a, ha, rfl⟩ := List.mem_map.mp (List.contains_iff_mem.mp hc)
    obtain ⟨b, hb, rfl⟩ := List.mem_map.mp (List.contains_iff_mem.mp hx)
    exact of_decide_eq_true (List.all_eq_true.mp (List.all_eq_true.mp h1 a ha) b hb)
  · obtain ⟨a, ha, rfl⟩ := List.mem_map.mp (List.contains_iff_mem.mp hc)
    have hf' : (T.flds.lookup a.1).getD "" = f := hf
    have q := List.all_eq_true.mp h2 a ha
    rcases (Bool.or_eq_true _ _).mp q with q | q
    · exact absurd ((hf'.symm.trans (eq_of_beq q))) hn
    · simp only [Bool.and_eq_true, decide_eq_true_eq] at q
      rw [hf'] at q
      exact ⟨xfB_ok q.1, q.2⟩
theorem look_x {c f : String} : ∀ {xs : List XEnt}, (xs.map fun e => (e.c, e.f)).lookup c = some f → ∃ e ∈ xs, e.c = c ∧ e.f = f := fun {xs} h => by
  obtain ⟨e, he, q⟩ := List.mem_map.mp (memL h)
  simp only [Prod.mk.injEq] at q
  exact ⟨e, he, q.1, q.2⟩
def infOf (es : List Ent) (blts : List String) (xs : List XEnt) (excs : List (String × List String)) : Inf where
  excs := xs.map fun e => (e.c, e.f)
  xcs := excs.map (·.1)
  fns := es.filterMap fun e => if e.c = "" then some (e.f, e.sh) else none
  mths := es.filterMap fun e => if e.c = "" then none else some ((e.c, e.f), e.sh)
  news := es.filterMap fun e => if e.c = "" then none else if e.f = "__init__" then some (e.c, e.sh) else none
  blts := blts
def fnsOf (es : List Ent) : List ((String × String) × Fn) := es.map fun e => ((e.c, e.f), e.fn)
def clsOf (es : List Ent) : List String := (es.filterMap fun e => if e.c = "" then none else some e.c).eraseDups
def newsOf (es : List Ent) : List String := es.filterMap fun e => if e.c = "" then none else if e.f = "__init__" then some e.c else none
def factsOf (es : List Ent) (blts : List String) (noats : List (String × String)) : List He.Fa :=
  (es.filterMap fun e => if e.c = "" then some (He.Fa.glo (Str.ofString e.f)) else some (He.Fa.meth (Str.ofString e.c) (Str.ofString e.f))) ++ (clsOf es).map (fun c => He.Fa.cls (Str.ofString c)) ++ (newsOf es).map (fun c => He.Fa.mkr (Str.ofString c)) ++ (newsOf es).map (fun c => He.Fa.glo (Str.ofString c)) ++
  blts.map (fun x => He.Fa.free (Str.ofString x)) ++ noats.map (fun q => He.Fa.noat (Str.ofString q.1) (Str.ofString q.2))
def Ent.ok (I : Inf) (e : Ent) : Bool :=
  decide (e.d.at_ = e.at_) && scopeB (e.N.map Str.ofString) (e.fn.params.map Str.ofString) e.d.scope && (e.fn.slots == e.N.length) && chkSs e.fn.body ⟨I, e.N.map Str.ofString, e.d.scope, true, fun _ => true⟩ e.d.body
theorem look_fns {f : String} {l : List (Nat × List String)} : ∀ {es : List Ent}, (es.filterMap fun e => if e.c = "" then some (e.f, e.sh) else none).lookup f = some l → ∃ e ∈ es, e.c = "" ∧ e.f = f ∧ e.sh = l ∧ (fnsOf es).lookup ("", f) = some e.fn
  | [], h => by cases h
  | e :: es, h => by
    by_cases hc : e.c = ""
    · simp only [List.filterMap_cons, hc, if_true] at h
      by_cases hf : f = e.f
      · subst hf
        simp only [List.lookup_cons_self, Option.some.injEq] at h
        refine ⟨e, List.mem_cons_self, hc, rfl, h, ?_⟩
        simp only [fnsOf, List.map_cons, hc, List.lookup_cons_self]
      · have e1 : (f == e.f) = false := beq_eq_false_iff_ne.mpr hf
        simp only [List.lookup, e1] at h
        obtain ⟨e', m, q1, q2, q3, q4⟩ := look_fns h
        refine ⟨e', List.mem_cons_of_mem _ m, q1, q2, q3, ?_⟩
        have e2 : ((("", f) : String × String) == (e.c, e.f)) = false := beq_eq_false_iff_ne.mpr fun z => hf (Prod.mk.inj z).2
        simp only [fnsOf, List.map_cons, List.lookup, e2]
        exact q4
    · simp only [List.filterMap_cons, hc, if_false] at h
      obtain ⟨e', m, q1, q2, q3, q4⟩ := look_fns h
      refine ⟨e', List.mem_cons_of_mem _ m, q1, q2, q3, ?_⟩
      have e2 : ((("", f) : String × String) == (e.c, e.f)) = false := beq_eq_false_iff_ne.mpr fun z => hc (Prod.mk.inj z).1.symm
      simp only [fnsOf, List.map_cons, List.lookup, e2]
      exact q4
theorem look_news {c : String} {l : List (Nat × List String)} : ∀ {es : List Ent}, (es.filterMap fun e => if e.c = "" then none else if e.f = "__init__" then some (e.c, e.sh) else none).lookup c = some l → ∃ e ∈ es, e.c = c ∧ e.c ≠ "" ∧ e.f = "__init__" ∧ e.sh = l ∧ (fnsOf es).lookup (c, "__init__") = some e.fn
  | [], h => by cases h
  | e :: es, h => by
    have go : (c, "__init__") ≠ (e.c, e.f) → (es.filterMap fun e => if e.c = "" then none else if e.f = "__init__" then some (e.c, e.sh) else none).lookup c = some l →
        ∃ e' ∈ e :: es, e'.c = c ∧ e'.c ≠ "" ∧ e'.f = "__init__" ∧ e'.sh = l ∧ (fnsOf (e :: es)).lookup (c, "__init__") = some e'.fn := fun ne h => by
      obtain ⟨e', m, q1, q2, q3, q4, q5⟩ := look_news h
      refine ⟨e', List.mem_cons_of_mem _ m, q1, q2, q3, q4, ?_⟩
      have e2 : (((c, "__init__") : String × String) == (e.c, e.f)) = false := beq_eq_false_iff_ne.mpr ne
      simp only [fnsOf, List.map_cons, List.lookup, e2]
      exact q5
    by_cases hc : e.c = ""
    · simp only [List.filterMap_cons, hc, if_true] at h
      refine go (fun z => ?_) h
      have := (Prod.mk.inj z).1
      obtain ⟨e', m, q1, q2, _⟩ := look_news h
      exact q2 (q1.trans (this.trans hc))
    · by_cases hf : e.f = "__init__"
      · simp only [List.filterMap_cons, hc, hf, if_true, if_false] at h
        by_cases hcc : c = e.c
        · subst hcc
          simp only [List.lookup_cons_self, Option.some.injEq] at h
          refine ⟨e, List.mem_cons_self, rfl, hc, hf, h, ?_⟩
          simp only [fnsOf, List.map_cons, hf, List.lookup_cons_self]
        · have e1 : (c == e.c) = false := beq_eq_false_iff_ne.mpr hcc
          simp only [List.lookup, e1] at h
          exact go (fun z => hcc (Prod.mk.inj z).1) h
      · simp only [List.filterMap_cons, hc, hf, if_false] at h
        exact go (fun z => hf (Prod.mk.inj z).2.symm) h
section
variable {K : PySem.W.Frag} {w : World} {h : Heap} {mg : Str → Option Value} {es : List Ent} {I : Inf}
theorem defOk_of {e : Ent} (hs : e.ok I = true) (hb : BindOk e) {fnL : List He.DefD} {fa : List He.Fa} (sd : He.SaysD fa fnL K) (hm : e.d ∈ fnL) : DefOk K w I e.c e.f e.fn (He.fAd K e.at_) e.sh := by
  simp only [Ent.ok, Bool.and_eq_true, decide_eq_true_eq] at hs
  obtain ⟨⟨⟨h1, h2⟩, h3⟩, h4⟩ := hs
  obtain ⟨fd, F⟩ := sd.defs hm
  rw [h1] at F
  obtain ⟨oc, od, dV, kV, doc, pm, an, cdv, ct, osl, rfl, lk, hcd, hD, hK⟩ := F.ex
  obtain ⟨dfV, q1, q2⟩ := hb.to K w dV kV hD hK
  exact ⟨⟨oc, od, _, _, _, _, _, dV, kV, doc, pm, an, cdv, ct, osl, e.N.map Str.ofString, dfV, lk, hcd, scopeB_ok h2, by rw [List.length_map]; exact eq_of_beq h3, h4, q1, fun n ks hm => q2 _ _ _ _ _ n ks hm⟩, F.kp⟩
theorem topOk_of {blts : List String} {xs : List XEnt} {noats : List (String × String)} {globs : List (String × D)} {excs : List (String × List String)} {flds : List (String × String)} {cls : List String} {tf : List He.Defn} {ex : PySem.W.Frag → Bool}
    (hst : es.all (Ent.ok (infOf es blts xs excs)) = true) (hxs : xs.all (XEnt.ok flds) = true) (hb : ∀ e ∈ es, BindOk e) (X : K.In h) (G : h.Ns mainGlobals mg) (hex : ∀ K, ex K = true → (globs.all (gB K) = true ∧ isiB cls K = true ∧ sysB K = true) ∧ xs.all (xeB K) = true ∧ catB excs flds K = true)
    (hnc : noats.all (fun q => (clsOf es).contains q.1) = true) (sx : He.SaysX (factsOf es blts noats) (es.map (·.d) ++ xs.map (·.d)) (tabsOf globs) tf ex w h K) :
    TopOk K w mg (infOf es blts xs excs) ⟨fnsOf es, globs, excs, flds, repD, cls, noats⟩ := by
  have sd := sx.t.d
  have fact : ∀ f ∈ factsOf es blts noats, f.ok K = true := fun f hf => sd.facts hf
  have dok : ∀ e ∈ es, DefOk K w (infOf es blts xs excs) e.c e.f e.fn (He.fAd K e.at_) e.sh := fun e he => defOk_of (List.all_eq_true.mp hst e he) (hb e he) sd (List.mem_append.mpr (.inl (List.mem_map.mpr ⟨e, he, rfl⟩)))
  have clsF : ∀ c ∈ clsOf es, Cls K (He.ga K (Str.ofString c)) := fun c hc => He.cls_ok (fact (.cls (Str.ofString c)) (by
    unfold factsOf
    simp only [List.mem_append, List.mem_map]
    exact .inl (.inl (.inl (.inl (.inr ⟨c, hc, rfl⟩))))))
  have clsM : ∀ e ∈ es, e.c ≠ "" → e.c ∈ clsOf es := fun e he hc => by
    unfold clsOf
    rw [List.mem_eraseDups]
    exact List.mem_filterMap.mpr ⟨e, he, if_neg hc⟩
  have fG : ∀ {e : Ent}, e ∈ es → e.c = "" → mg (Str.ofString e.f) = some (.ref (He.fAd K e.at_)) := fun {e} he hc => by
    have q := He.glo_ok X G (fact (.glo (Str.ofString e.f)) (by
      unfold factsOf
      simp only [List.mem_append, List.mem_map, List.mem_filterMap]
      exact .inl (.inl (.inl (.inl (.inl ⟨e, he, if_pos hc⟩))))))
    rw [q]
    unfold Ent.at_
    rw [if_pos hc]
    rfl
  have fM : ∀ {e : Ent}, e ∈ es → e.c ≠ "" → Meth K (He.ga K (Str.ofString e.c)) (Str.ofString e.f) (He.fAd K e.at_) := fun {e} he hc => by
    have q := He.meth_ok (fact (.meth (Str.ofString e.c) (Str.ofString e.f)) (by
      unfold factsOf
      simp only [List.mem_append, List.mem_map, List.mem_filterMap]
      exact .inl (.inl (.inl (.inl (.inl ⟨e, he, if_neg hc⟩))))))
    unfold Ent.at_
    rw [if_neg hc]
    exact q
  have nM : ∀ {e : Ent}, e ∈ es → e.c ≠ "" → e.f = "__init__" → e.c ∈ newsOf es := fun {e} he hc hf => by
    unfold newsOf
    exact List.mem_filterMap.mpr ⟨e, he, by rw [if_neg hc, if_pos hf]⟩
  refine ⟨fun f l hl => ?_, fun c m fn hl hc => ?_, fun c l hl => ?_, fun x d hl => ?_, fun x hx => ?_, fun c f hm => ?_, isiB_ok (hex K sx.more).1.2.1, rfl, sysB_ok (hex K sx.more).1.2.2, fun c f hl => ?_, fun call => cat_ok (hex K sx.more).2.2 call, fun c hc => ?_⟩
  · obtain ⟨e, he, hc, rfl, rfl, q⟩ := look_fns hl
    refine ⟨_, e.fn, fG he hc, q, ?_⟩
    have := dok e he
    rw [hc] at this
    exact this
  · have m1 := memL hl
    obtain ⟨e, he, e1⟩ := List.mem_map.mp m1
    simp only [Prod.mk.injEq] at e1
    obtain ⟨⟨rfl, rfl⟩, rfl⟩ := e1
    refine ⟨e.sh, ?_, _, dok e he, fM he hc, clsF _ (clsM e he hc)⟩
    show _ ∈ es.filterMap _
    exact List.mem_filterMap.mpr ⟨e, he, if_neg hc⟩
  · obtain ⟨e, he, rfl, hc, hf, rfl, q⟩ := look_news hl
    have hn := nM he hc hf
    have mk := He.mkr_ok (fact (.mkr (Str.ofString e.c)) (by
      unfold factsOf
      simp only [List.mem_append, List.mem_map]
      exact .inl (.inl (.inl (.inr ⟨e.c, hn, rfl⟩)))))
    have gl := He.glo_ok X G (fact (.glo (Str.ofString e.c)) (by
      unfold factsOf
      simp only [List.mem_append, List.mem_map]
      exact .inl (.inl (.inr ⟨e.c, hn, rfl⟩))))
    have da := dok e he
    rw [hf] at da
    refine ⟨_, e.fn, ?_, q, da, gl⟩
    unfold Ent.at_
    rw [if_neg hc, hf]
    exact mk
  · exact glob_ok X G (hex K sx.more).1.1 sx.t (memL hl)
  · refine He.free_ok X G (fact (.free (Str.ofString x)) ?_)
    unfold factsOf
    simp only [List.mem_append, List.mem_map]
    exact .inl (.inr ⟨x, List.contains_iff_mem.mp hx, rfl⟩)
  · have hc := List.all_eq_true.mp hnc _ hm
    refine ⟨clsF c (List.contains_iff_mem.mp hc), He.noat_ok (fact (.noat (Str.ofString c) (Str.ofString f)) ?_)⟩
    unfold factsOf
    simp only [List.mem_append, List.mem_map]
    exact .inr ⟨(c, f), hm, rfl⟩
  · obtain ⟨e, he, rfl, rfl⟩ := look_x hl
    have q := List.all_eq_true.mp hxs e he
    refine ⟨fun P base => excF_ok X G q (List.all_eq_true.mp (hex K sx.more).2.1 e he) sd (List.mem_append.mpr (.inr (List.mem_map.mpr ⟨e, he, rfl⟩))) P base, ?_⟩
    simp only [XEnt.ok, Bool.and_eq_true] at q
    exact eq_of_beq q.2
  · obtain ⟨a, ha, rfl⟩ := List.mem_map.mp (List.contains_iff_mem.mp hc)
    have q := (hex K sx.more).2.2
    simp only [catB, Bool.and_eq_true] at q
    exact He.glo_ok X G (List.all_eq_true.mp q.1 a ha)
end
/-- what the module's names reach, and the interpreter's own statics -/
def frP (n : Nat) (g : Addr → Option Obj) : PySem.W.Frag := He.frT g (He.asD g n ++ [cStatics, sysModules])
def obsP (n : Nat) (fa : List He.Fa) (fn : List He.DefD) (ts : List He.Tab) (ex : PySem.W.Frag → Bool) (g : Addr → Option Obj) : He.AlX := (He.obsT fa fn ts (frP n g), ex (frP n g))
def hookP (n : Nat) (fa : List He.Fa) (fn : List He.DefD) (ts : List He.Tab) (ex : PySem.W.Frag → Bool) : PySem.W.Hook where
  α := He.AlX
  val := He.valX fn ts
  obs := fun st => obsP n fa fn ts ex st.heap.get?
  says := fun wd hp => ∃ Kf : PySem.W.Frag, Kf.In hp ∧ He.SaysX fa fn ts [] ex wd hp Kf
  of := fun _ _ q => ⟨_, He.frT_in, ⟨congrArg (fun z : He.AlX => z.1) q, congrArg (fun z : He.AlX => z.2) q, fun p m => absurd m List.not_mem_nil, fun p m => absurd m List.not_mem_nil, fun p m => absurd m List.not_mem_nil⟩⟩
  keeps := fun wd h1 h2 ⟨Kf, i1, c1⟩ kp => ⟨Kf, i1.keeps kp, ⟨c1.t, c1.more, fun p m => absurd m List.not_mem_nil, fun p m => absurd m List.not_mem_nil, fun p m => absurd m List.not_mem_nil⟩⟩
theorem obsP_eq {n : Nat} {fa : List He.Fa} {fn : List He.DefD} {ts : List He.Tab} {ex : PySem.W.Frag → Bool} {g : Addr → Option Obj} {st : Shared} (h : ∀ a, g a = st.heap.get? a) : obsP n fa fn ts ex g = (hookP n fa fn ts ex).obs st := by
  obtain rfl : g = st.heap.get? := funext h
  rfl
/-- the head's goal, from the table and the evaluator's answers -/
theorem walk_tab {l : PySem.W.OpenLaw} {N n Wf hops : Nat} {q : Program} {loose : List Str} {XP : (Str → Option Value) → Heap → Prop} {d : DefRec} {es : List Ent} {xs : List XEnt} {blts : List String} {noats : List (String × String)} {globs : List (String × D)} {excs : List (String × List String)} {flds : List (String × String)} {cls : List String} {ex : PySem.W.Frag → Bool}
    (hn : l.most = some N) (hN : N ≤ sizeLine) (hdf : d.params.defaults = []) (hnm : d.name = Str.ofString "law") (hr : Room (2 * n + 1) callerA)
    (hst : es.all (Ent.ok (infOf es blts xs excs)) = true) (hxs : xs.all (XEnt.ok flds) = true) (hb : ∀ e ∈ es, BindOk e) (hex : ∀ K, ex K = true → (globs.all (gB K) = true ∧ isiB cls K = true ∧ sysB K = true) ∧ xs.all (xeB K) = true ∧ catB excs flds K = true) (hnc : noats.all (fun q => (clsOf es).contains q.1) = true)
    (hlaw : (infOf es blts xs excs).fns.lookup "law" = some [(1, [])])
    (hc : ∀ ns : List Int, ns.length ≤ N → ∃ st, callN ⟨fnsOf es, globs, excs, flds, repD, cls, noats⟩ Wf n "" "law" [.scr ns] [] [] = .ok (.bl true) st) :
    PySem.W.WalkO q loose XP (hookP hops (factsOf es blts noats) (es.map (·.d) ++ xs.map (·.d)) (tabsOf globs) ex).says l.row.toRowW d [] (fun f vs => PySem.call f vs) :=
  end_walk hn hN hdf hr (fun w mg fa h ⟨K, KX, sx⟩ G hmg => by
    have D := topOk_of (flds := flds) (excs := excs) hst hxs hb KX G hex hnc sx
    refine ⟨K, KX, fun base kb gb => ?_⟩
    obtain ⟨a, h1, h2⟩ := (gf_all (P := l.prog) (w := w) (base := base) (Wf := Wf) D n).fns "law" _ hlaw
    rw [hnm, h1] at hmg
    cases hmg
    exact h2) hc
end PV
set_option Elab.async false
set_option maxRecDepth 100000
set_option maxHeartbeats 4000000
/-! PvProg: the defs of the text, once (printed by genprog.py). -/
namespace P
open PV
/-- _wall(0 k) [82] -/
def fddwall : PV.Fn := { params := ["k"], slots := 1, dfl := [], body :=
  [.whl (.t (.c (.bl true))) [.pass]] }
/-- is_integer(0 value, 1 low, 2 high) [88] -/
def f_is_integer : PV.Fn := { params := ["value", "low", "high"], slots := 3, dfl := [], body :=
  [.ret (.and (.isi (.v 0) [.b "int"]) (.and (.not (.t (.isi (.v 0) [.b "bool"]))) (.cmp2 .le .le (.v 1) (.v 0) (.v 2))))] }
/-- is_character(0 value) [86] -/
def f_is_character : PV.Fn := { params := ["value"], slots := 1, dfl := [], body :=
  [.ife (.or (.not (.t (.isi (.v 0) [.b "str"]))) (.or (.t (.cmp .ne (.fn false .len [.v 0]) (.c (.int 1)))) (.t (.cmp .eq (.fn false .ord [.v 0]) (.c (.int 37)))))) [.ret (.c (.bl false))] [],
   .ret (.and (.cmp2 .le .le (.c (.str [32])) (.v 0) (.c (.str [126]))) (.cmp .notin (.v 0) (.c (.str [123, 124, 125]))))] }
/-- is_direction(0 value) [85] -/
def f_is_direction : PV.Fn := { params := ["value"], slots := 1, dfl := [], body :=
  [.ret (.and (.isi (.v 0) [.b "str"]) (.cmp .inn (.v 0) (.g "DIRECTIONS")))] }
/-- need_character(0 value) [76] -/
def f_need_character : PV.Fn := { params := ["value"], slots := 1, dfl := [], body :=
  [.ife (.not (.t (.call "is_character" [.v 0] []))) [.raise "InvalidCharacter" [.v 0]] []] }
/-- need_direction(0 value) [83] -/
def f_need_direction : PV.Fn := { params := ["value"], slots := 1, dfl := [], body :=
  [.ife (.not (.t (.call "is_direction" [.v 0] []))) [.raise "InvalidDirection" [.v 0]] []] }
/-- character_kind(0 character, 1 kind, 2 group) [66] -/
def f_character_kind : PV.Fn := { params := ["character"], slots := 3, dfl := [], body :=
  [.ex (.call "need_character" [.v 0] []),
   .forr (.tup [.n 1, .n 2]) (.e (.tup [.tup [.c (.str [108, 116, 114]), .g "SMALL"], .tup [.c (.str [114, 116, 108]), .g "CAPITAL"], .tup [.c (.str [100, 105, 103, 105, 116]), .g "DIGITS"], .tup [.c (.str [115, 101, 112, 97, 114, 97, 116, 111, 114]), .g "SEPARATORS"]])) [.ife (.t (.cmp .inn (.v 0) (.v 2))) [.ret (.v 1)] []],
   .ret (.c (.str [110, 101, 117, 116, 114, 97, 108]))] }
/-- tokens(0 text, 1 found, 2 open_count, 3 index, 4 sign) [83] -/
def f_tokens : PV.Fn := { params := ["text"], slots := 5, dfl := [], body :=
  [.ife (.not (.t (.isi (.v 0) [.b "str"]))) [.raise "NotText" [.v 0]] [],
   .asg (.tup [.n 1, .n 2, .n 3]) (.tup [.lst true [], .c (.int 0), .c (.int 0)]),
   .whl (.t (.cmp .lt (.v 3) (.fn false .len [.v 0]))) [.asg (.n 4) (.ix (.v 0) (.v 3)), .ife (.t (.cmp .inn (.v 4) (.c (.str [123, 124])))) [.ife (.t (.cmp .notin (.sl false (.v 0) (some (.bin false .add (.v 3) (.c (.int 1)))) (some (.bin false .add (.v 3) (.c (.int 2))))) (.g "SIGNS"))) [.raise "InvalidText" [.bin false .add (.v 3) (.c (.int 1))]] [], .ex (.bm .append (.v 1) [.tup [.ite (.t (.cmp .eq (.v 4) (.c (.str [123])))) (.c (.str [111, 112, 101, 110])) (.c (.str [109, 97, 114, 107])), .ix (.g "SIGNS") (.ix (.v 0) (.bin false .add (.v 3) (.c (.int 1))))]]), .aug (.n 2) .add (.fn false .int [.cmp .eq (.v 4) (.c (.str [123]))]), .aug (.n 3) .add (.c (.int 1))] [.ife (.and (.t (.cmp .eq (.v 4) (.c (.str [125])))) (.t (.cmp .gt (.v 2) (.c (.int 0))))) [.ex (.bm .append (.v 1) [.tup [.c (.str [99, 108, 111, 115, 101])]]), .aug (.n 2) .sub (.c (.int 1))] [.ife (.t (.call "is_character" [.v 4] [])) [.ex (.bm .append (.v 1) [.tup [.c (.str [99, 104, 97, 114, 97, 99, 116, 101, 114]), .v 4]])] [.raise "InvalidText" [.v 3]]]], .aug (.n 3) .add (.c (.int 1))],
   .ife (.t (.cmp .gt (.v 2) (.c (.int 0)))) [.raise "InvalidText" [.fn false .len [.v 0]]] [],
   .ret (.v 1)] }
/-- BlockRecord.__init__(0 self, 1 direction, 2 parent, 3 depth, 4 first) [80] -/
def m_BlockRecord_init : PV.Fn := { params := ["self", "direction", "parent", "depth", "first"], slots := 5, dfl := [], body :=
  [.asg (.at (.v 0) "block_direction") (.v 1),
   .asg (.at (.v 0) "parent_block") (.v 2),
   .asg (.at (.v 0) "block_depth") (.v 3),
   .asg (.at (.v 0) "first_character") (.v 4),
   .asg (.at (.v 0) "past_character") (.v 4),
   .asg (.at (.v 0) "content") (.lst true []),
   .asg (.at (.v 0) "block_tokens") (.lst true [])] }
/-- Paragraph.__init__(0 self, 1 text, 2 base, 3 deepest, 4 token, 5 record) [80] -/
def m_Paragraph_init : PV.Fn := { params := ["self", "text", "base"], slots := 6, dfl := [("base", (.str [108, 116, 114]))], body :=
  [.asg (.at (.v 0) "kept_tokens") (.call "tokens" [.v 1] []),
   .ex (.call "need_direction" [.v 2] []),
   .asg (.at (.v 0) "kept_text") (.v 1),
   .asg (.at (.v 0) "kept_base") (.v 2),
   .asg (.at (.v 0) "kept_plain") (.bm .join (.c (.str [])) [.comp false (.ix (.v 4) (.c (.int 1))) (.n 4) (.e (.fld (.v 0) "kept_tokens")) [.t (.cmp .eq (.ix (.v 4) (.c (.int 0))) (.c (.str [99, 104, 97, 114, 97, 99, 116, 101, 114])))] [4]]),
   .ife (.t (.cmp .gt (.fn false .len [.fld (.v 0) "kept_plain"]) (.g "MAX_CHARACTERS"))) [.raise "TooMany" [.fn false .len [.fld (.v 0) "kept_plain"]]] [],
   .ife (.t (.cmp .gt (.meth (.v 0) "control_count" [] []) (.g "MAX_CONTROLS"))) [.raise "TooMany" [.meth (.v 0) "control_count" [] []]] [],
   .asg (.at (.v 0) "records") (.lst true []),
   .asg (.at (.v 0) "homes") (.lst true []),
   .ex (.meth (.v 0) "build" [] []),
   .asg (.n 3) (.fn false .max [.comp false (.fld (.v 5) "block_depth") (.n 5) (.e (.fld (.v 0) "records")) [] [5]]),
   .ife (.t (.cmp .gt (.v 3) (.g "MAX_DEPTH"))) [.raise "TooDeep" [.v 3]] []] }
/-- Paragraph.build(0 self, 1 stack, 2 token) [80] -/
def m_Paragraph_build : PV.Fn := { params := ["self"], slots := 3, dfl := [], body :=
  [.asg (.n 1) (.lst true [.c (.int 0)]),
   .ex (.bm .append (.fld (.v 0) "records") [.new "BlockRecord" [.fld (.v 0) "kept_base", .c .non, .c (.int 1), .c (.int 0)] []]),
   .forr (.n 2) (.e (.fld (.v 0) "kept_tokens")) [.ife (.t (.cmp .eq (.ix (.v 2) (.c (.int 0))) (.c (.str [99, 108, 111, 115, 101])))) [.asg (.at (.ix (.fld (.v 0) "records") (.bm .pop (.v 1) [])) "past_character") (.fn false .len [.fld (.v 0) "homes"]), .ex (.meth (.v 0) "keep_token" [.v 1, .v 2] [])] [.ife (.t (.cmp .eq (.ix (.v 2) (.c (.int 0))) (.c (.str [111, 112, 101, 110])))) [.ex (.meth (.v 0) "keep_token" [.v 1, .v 2] []), .ex (.bm .append (.fld (.ix (.fld (.v 0) "records") (.ix (.v 1) (.neg (.c (.int 1))))) "content") [.tup [.c (.str [105, 115, 111, 108, 97, 116, 101]), .fn false .len [.fld (.v 0) "records"]]]), .ex (.bm .append (.fld (.v 0) "records") [.new "BlockRecord" [.ix (.v 2) (.c (.int 1)), .ix (.v 1) (.neg (.c (.int 1))), .bin false .add (.fn false .len [.v 1]) (.c (.int 1)), .fn false .len [.fld (.v 0) "homes"]] []]), .ex (.bm .append (.v 1) [.bin false .sub (.fn false .len [.fld (.v 0) "records"]) (.c (.int 1))])] [.ife (.t (.cmp .eq (.ix (.v 2) (.c (.int 0))) (.c (.str [109, 97, 114, 107])))) [.ex (.meth (.v 0) "keep_token" [.v 1, .v 2] []), .ex (.bm .append (.fld (.ix (.fld (.v 0) "records") (.ix (.v 1) (.neg (.c (.int 1))))) "content") [.v 2])] [.ex (.meth (.v 0) "keep_token" [.v 1, .v 2] []), .ex (.bm .append (.fld (.ix (.fld (.v 0) "records") (.ix (.v 1) (.neg (.c (.int 1))))) "content") [.tup [.c (.str [99, 104, 97, 114, 97, 99, 116, 101, 114]), .fn false .len [.fld (.v 0) "homes"]]]), .ex (.bm .append (.fld (.v 0) "homes") [.ix (.v 1) (.neg (.c (.int 1)))])]]]],
   .asg (.at (.ix (.fld (.v 0) "records") (.c (.int 0))) "past_character") (.fn false .len [.fld (.v 0) "homes"])] }
/-- Paragraph.keep_token(0 self, 1 stack, 2 token, 3 block) [80] -/
def m_Paragraph_keep_token : PV.Fn := { params := ["self", "stack", "token"], slots := 4, dfl := [], body :=
  [.forr (.n 3) (.e (.v 1)) [.ex (.bm .append (.fld (.ix (.fld (.v 0) "records") (.v 3)) "block_tokens") [.v 2])]] }
/-- Paragraph.text(0 self) [80] -/
def m_Paragraph_text : PV.Fn := { params := ["self"], slots := 1, dfl := [], body :=
  [.ret (.fld (.v 0) "kept_text")] }
/-- Paragraph.base(0 self) [80] -/
def m_Paragraph_base : PV.Fn := { params := ["self"], slots := 1, dfl := [], body :=
  [.ret (.fld (.v 0) "kept_base")] }
/-- Paragraph.plain(0 self) [38] -/
def m_Paragraph_plain_1 : PV.Fn := { params := ["self"], slots := 1, dfl := [], body :=
  [.ex (.call "_wall" [.c (.int 0)] [])] }
/-- Paragraph.control_count(0 self, 1 token) [80] -/
def m_Paragraph_control_count : PV.Fn := { params := ["self"], slots := 2, dfl := [], body :=
  [.ret (.fn false .len [.comp false (.v 1) (.n 1) (.e (.fld (.v 0) "kept_tokens")) [.t (.cmp .inn (.ix (.v 1) (.c (.int 0))) (.tup [.c (.str [109, 97, 114, 107]), .c (.str [111, 112, 101, 110])]))] [1]])] }
/-- Paragraph.block_count(0 self) [8] -/
def m_Paragraph_block_count_1 : PV.Fn := { params := ["self"], slots := 1, dfl := [], body :=
  [.ex (.call "_wall" [.c (.int 1)] [])] }
/-- Paragraph.record_of(0 self, 1 block) [80] -/
def m_Paragraph_record_of : PV.Fn := { params := ["self", "block"], slots := 2, dfl := [], body :=
  [.ife (.not (.t (.call "is_integer" [.v 1, .c (.int 0), .bin false .sub (.fn false .len [.fld (.v 0) "records"]) (.c (.int 1))] []))) [.aug (.tup []) .add (.c .non)] [],
   .ret (.ix (.fld (.v 0) "records") (.v 1))] }
/-- Paragraph.direction(0 self, 1 block) [80] -/
def m_Paragraph_direction : PV.Fn := { params := ["self", "block"], slots := 2, dfl := [], body :=
  [.ret (.fld (.meth (.v 0) "record_of" [.v 1] []) "block_direction")] }
/-- Paragraph.depth(0 self, 1 block) [80] -/
def m_Paragraph_depth : PV.Fn := { params := ["self", "block"], slots := 2, dfl := [], body :=
  [.ret (.fld (.meth (.v 0) "record_of" [.v 1] []) "block_depth")] }
/-- Paragraph.parent(0 self, 1 block) [80] -/
def m_Paragraph_parent : PV.Fn := { params := ["self", "block"], slots := 2, dfl := [], body :=
  [.ret (.fld (.meth (.v 0) "record_of" [.v 1] []) "parent_block")] }
/-- Paragraph.contents(0 self, 1 block) [75] -/
def m_Paragraph_contents : PV.Fn := { params := ["self", "block"], slots := 2, dfl := [], body :=
  [.ret (.fn false .list [.fld (.meth (.v 0) "record_of" [.v 1] []) "content"])] }
/-- Paragraph.span(0 self, 1 block) [5] -/
def m_Paragraph_span_3 : PV.Fn := { params := ["self", "block"], slots := 2, dfl := [], body :=
  [.ex (.call "_wall" [.c (.int 2)] [])] }
/-- Paragraph.need_number(0 self, 1 number) [80] -/
def m_Paragraph_need_number : PV.Fn := { params := ["self", "number"], slots := 2, dfl := [], body :=
  [.ife (.not (.t (.call "is_integer" [.v 1, .c (.int 0), .bin false .sub (.fn false .len [.fld (.v 0) "homes"]) (.c (.int 1))] []))) [.aug (.tup []) .add (.c .non)] []] }
/-- Paragraph.character(0 self, 1 number) [80] -/
def m_Paragraph_character : PV.Fn := { params := ["self", "number"], slots := 2, dfl := [], body :=
  [.ex (.meth (.v 0) "need_number" [.v 1] []),
   .ret (.ix (.fld (.v 0) "kept_plain") (.v 1))] }
/-- Paragraph.block_of(0 self, 1 number) [5] -/
def m_Paragraph_block_of_4 : PV.Fn := { params := ["self", "number"], slots := 2, dfl := [], body :=
  [.ex (.call "_wall" [.c (.int 3)] [])] }
/-- Paragraph.path(0 self, 1 number) [5] -/
def m_Paragraph_path_4 : PV.Fn := { params := ["self", "number"], slots := 2, dfl := [], body :=
  [.ex (.call "_wall" [.c (.int 4)] [])] }
/-- Paragraph.isolated(0 self, 1 block) [5] -/
def m_Paragraph_isolated_6 : PV.Fn := { params := ["self", "block"], slots := 2, dfl := [], body :=
  [.ex (.call "_wall" [.c (.int 5)] [])] }
/-- Paragraph.with_base(0 self, 1 base) [5] -/
def m_Paragraph_with_base_5 : PV.Fn := { params := ["self", "base"], slots := 2, dfl := [], body :=
  [.ex (.call "_wall" [.c (.int 6)] [])] }
/-- Paragraph.stripped(0 self) [5] -/
def m_Paragraph_stripped_5 : PV.Fn := { params := ["self"], slots := 1, dfl := [], body :=
  [.ex (.call "_wall" [.c (.int 7)] [])] }
/-- Paragraph.exchanged(0 self) [5] -/
def m_Paragraph_exchanged_6 : PV.Fn := { params := ["self"], slots := 1, dfl := [], body :=
  [.ex (.call "_wall" [.c (.int 8)] [])] }
/-- Paragraph.__len__(0 self) [80] -/
def m_Paragraphdd_lendd : PV.Fn := { params := ["self"], slots := 1, dfl := [], body :=
  [.ret (.fn false .len [.fld (.v 0) "homes"])] }
/-- Paragraph.__eq__(0 self, 1 other) [80] -/
def m_Paragraphdd_eqdd : PV.Fn := { params := ["self", "other"], slots := 2, dfl := [], body :=
  [.ret (.and (.isi (.v 1) [.own "Paragraph"]) (.and (.cmp .eq (.meth (.v 1) "text" [] []) (.fld (.v 0) "kept_text")) (.cmp .eq (.meth (.v 1) "base" [] []) (.fld (.v 0) "kept_base"))))] }
/-- Paragraph.__str__(0 self) [80] -/
def m_Paragraphdd_strdd : PV.Fn := { params := ["self"], slots := 1, dfl := [], body :=
  [.ret (.bin false .sub (.c .non) (.c .non))] }
/-- Paragraph.__repr__(0 self) [80] -/
def m_Paragraphdd_reprdd : PV.Fn := { params := ["self"], slots := 1, dfl := [], body :=
  [.ret (.bin false .sub (.c .non) (.c .non))] }
/-- _law_box(0 _law_cell_here) [89] -/
def fddlaw_box : PV.Fn := { params := ["_law_cell_here"], slots := 1, dfl := [], body :=
  [.ret (.lst true [.fn false .max [.c (.int 0), .bin false .sub (.v 0) (.bin false .pow (.c (.int 10)) (.c (.int 18)))], .bin false .mod (.v 0) (.c (.int 2147483629)), .c (.int 0)])] }
/-- _law_sign(0 _law_box_here, 1 _law_neutral, 2 _law_letters, 3 _law_way) [22] -/
def fddlaw_sign : PV.Fn := { params := ["_law_box_here"], slots := 4, dfl := [], body :=
  [.asg (.tup [.n 2, .n 3]) (.tup [.c (.str [97, 98, 99, 100, 101, 102, 103, 104, 105, 106, 107, 108, 109, 110, 111, 112, 113, 114, 115, 116, 117, 118, 119, 120, 121, 122]), .call "_law_take" [.v 0, .c (.int 9)] []]),
   .ife (.t (.cmp .lt (.v 3) (.c (.int 2)))) [.ret (.ix (.v 2) (.call "_law_take" [.v 0, .c (.int 26)] []))] [],
   .ife (.t (.cmp .lt (.v 3) (.c (.int 4)))) [.ret (.ix (.bm .upper (.v 2) []) (.call "_law_take" [.v 0, .c (.int 26)] []))] [],
   .ife (.t (.cmp .lt (.v 3) (.c (.int 6)))) [.ret (.ix (.c (.str [48, 49, 50, 51, 52, 53, 54, 55, 56, 57])) (.call "_law_take" [.v 0, .c (.int 10)] []))] [],
   .asg (.n 1) (.c (.str [32, 33, 34, 35, 36, 38, 39, 40, 41, 42, 43, 45, 47, 58, 59, 60, 61, 62, 63, 64, 91, 92, 93, 94, 95, 96, 126])),
   .ret (.ite (.t (.cmp .eq (.v 3) (.c (.int 6)))) (.ix (.c (.str [46, 44])) (.call "_law_take" [.v 0, .c (.int 2)] [])) (.ix (.v 1) (.call "_law_take" [.v 0, .fn false .len [.v 1]] [])))] }
/-- _law_kind(0 _law_sign_here) [11] -/
def fddlaw_kind : PV.Fn := { params := ["_law_sign_here"], slots := 1, dfl := [], body :=
  [.ife (.t (.cmp2 .le .le (.c (.str [97])) (.v 0) (.c (.str [122])))) [.ret (.c (.str [108, 116, 114]))] [],
   .ife (.t (.cmp2 .le .le (.c (.str [65])) (.v 0) (.c (.str [90])))) [.ret (.c (.str [114, 116, 108]))] [],
   .ife (.t (.cmp2 .le .le (.c (.str [48])) (.v 0) (.c (.str [57])))) [.ret (.c (.str [100, 105, 103, 105, 116]))] [],
   .ret (.ite (.t (.cmp .inn (.v 0) (.c (.str [46, 44])))) (.c (.str [115, 101, 112, 97, 114, 97, 116, 111, 114])) (.c (.str [110, 101, 117, 116, 114, 97, 108])))] }
/-- is_sequence(0 value) [63] -/
def f_is_sequence : PV.Fn := { params := ["value"], slots := 1, dfl := [], body :=
  [.ret (.isi (.v 0) [.b "list", .b "tuple"])] }
/-- is_token(0 value) [39] -/
def f_is_token : PV.Fn := { params := ["value"], slots := 1, dfl := [], body :=
  [.ife (.or (.not (.t (.isi (.v 0) [.b "tuple"]))) (.or (.t (.cmp .notin (.fn false .len [.v 0]) (.tup [.c (.int 1), .c (.int 2)]))) (.not (.t (.isi (.ix (.v 0) (.c (.int 0))) [.b "str"]))))) [.ret (.c (.bl false))] [],
   .ife (.t (.cmp .eq (.fn false .len [.v 0]) (.c (.int 1)))) [.ret (.cmp .eq (.ix (.v 0) (.c (.int 0))) (.c (.str [99, 108, 111, 115, 101])))] [],
   .ife (.t (.cmp .eq (.ix (.v 0) (.c (.int 0))) (.c (.str [99, 104, 97, 114, 97, 99, 116, 101, 114])))) [.ret (.call "is_character" [.ix (.v 0) (.c (.int 1))] [])] [],
   .ret (.and (.cmp .inn (.ix (.v 0) (.c (.int 0))) (.tup [.c (.str [109, 97, 114, 107]), .c (.str [111, 112, 101, 110])])) (.call "is_direction" [.ix (.v 0) (.c (.int 1))] []))] }
/-- token_text(0 token) [39] -/
def f_token_text : PV.Fn := { params := ["token"], slots := 1, dfl := [], body :=
  [.ife (.t (.cmp .eq (.ix (.v 0) (.c (.int 0))) (.c (.str [99, 108, 111, 115, 101])))) [.ret (.c (.str [125]))] [],
   .ife (.t (.cmp .eq (.ix (.v 0) (.c (.int 0))) (.c (.str [99, 104, 97, 114, 97, 99, 116, 101, 114])))) [.ret (.ix (.v 0) (.c (.int 1)))] [],
   .ret (.bin false .add (.ite (.t (.cmp .eq (.ix (.v 0) (.c (.int 0))) (.c (.str [109, 97, 114, 107])))) (.c (.str [124])) (.c (.str [123]))) (.ix (.g "ARROWS") (.ix (.v 0) (.c (.int 1)))))] }
/-- is_balanced(0 items, 1 open_count, 2 token) [39] -/
def f_is_balanced : PV.Fn := { params := ["items"], slots := 3, dfl := [], body :=
  [.asg (.n 1) (.c (.int 0)),
   .forr (.n 2) (.e (.v 0)) [.aug (.n 1) .add (.bm .get (.dct false [(.c (.str [111, 112, 101, 110]), .c (.int 1)), (.c (.str [99, 108, 111, 115, 101]), .neg (.c (.int 1)))]) [.ix (.v 2) (.c (.int 0)), .c (.int 0)]), .ife (.t (.cmp .lt (.v 1) (.c (.int 0)))) [.ret (.c (.bl false))] []],
   .ret (.cmp .eq (.v 1) (.c (.int 0)))] }
/-- format_tokens(0 items, 1 token) [39] -/
def f_format_tokens : PV.Fn := { params := ["items"], slots := 2, dfl := [], body :=
  [.ife (.or (.not (.t (.call "is_sequence" [.v 0] []))) (.or (.not (.t (.fn false .all [.comp false (.call "is_token" [.v 1] []) (.n 1) (.e (.v 0)) [] [1]]))) (.not (.t (.call "is_balanced" [.v 0] []))))) [.raise "InvalidTokens" [.v 0]] [],
   .ret (.bm .join (.c (.str [])) [.comp false (.call "token_text" [.v 1] []) (.n 1) (.e (.v 0)) [] [1]])] }
/-- plain_text(0 text, 1 token) [4] -/
def f_plain_text : PV.Fn := { params := ["text"], slots := 2, dfl := [], body :=
  [.ret (.bm .join (.c (.str [])) [.comp false (.ix (.v 1) (.c (.int 1))) (.n 1) (.e (.call "tokens" [.v 0] [])) [.t (.cmp .eq (.ix (.v 1) (.c (.int 0))) (.c (.str [99, 104, 97, 114, 97, 99, 116, 101, 114])))] [1]])] }
/-- control_count(0 text, 1 token) [4] -/
def f_control_count : PV.Fn := { params := ["text"], slots := 2, dfl := [], body :=
  [.ret (.fn false .len [.comp false (.v 1) (.n 1) (.e (.call "tokens" [.v 0] [])) [.t (.cmp .inn (.ix (.v 1) (.c (.int 0))) (.tup [.c (.str [109, 97, 114, 107]), .c (.str [111, 112, 101, 110])]))] [1]])] }
/-- _law_text(0 _law_nodes_here, 1 _law_found, 2 _law_node) [22] -/
def fddlaw_text : PV.Fn := { params := ["_law_nodes_here"], slots := 3, dfl := [], body :=
  [.asg (.n 1) (.c (.str [])),
   .forr (.n 2) (.e (.v 0)) [.ife (.t (.isi (.v 2) [.b "str"])) [.asg (.n 1) (.bin false .add (.v 1) (.v 2))] [.ife (.t (.isi (.v 2) [.b "tuple"])) [.asg (.n 1) (.bin false .add (.v 1) (.ix (.dct false [(.c (.str [108, 116, 114]), .c (.str [124, 62])), (.c (.str [114, 116, 108]), .c (.str [124, 60]))]) (.ix (.v 2) (.c (.int 1)))))] [.asg (.n 1) (.bin false .add (.bin false .add (.bin false .add (.v 1) (.ix (.dct false [(.c (.str [108, 116, 114]), .c (.str [123, 62])), (.c (.str [114, 116, 108]), .c (.str [123, 60]))]) (.ix (.v 2) (.c (.int 0))))) (.call "_law_text" [.ix (.v 2) (.c (.int 1))] [])) (.c (.str [125])))]]],
   .ret (.v 1)] }
/-- _law_items(0 _law_model_here, 1 _law_block, 2 _law_contents, 3 _law_kinds, 4 _law_found, 5 _law_joined, 6 _law_k, 7 _law_element, 8 _law_inner, 9 _law_part, 10 _law_one) [10] -/
def fddlaw_items : PV.Fn := { params := ["_law_model_here", "_law_block"], slots := 11, dfl := [], body :=
  [.asg (.n 2) (.ix (.ix (.ix (.v 0) (.c (.str [98, 108, 111, 99, 107, 115]))) (.v 1)) (.c (.int 1))),
   .asg (.n 3) (.comp false (.ite (.t (.cmp .eq (.ix (.v 10) (.c (.int 0))) (.c (.str [99, 104, 97, 114, 97, 99, 116, 101, 114])))) (.call "_law_kind" [.ix (.ix (.v 0) (.c (.str [115, 105, 103, 110, 115]))) (.ix (.v 10) (.c (.int 1)))] []) (.ix (.v 10) (.c (.int 0)))) (.n 10) (.e (.v 2)) [] [10]),
   .asg (.tup [.n 4, .n 5]) (.tup [.lst true [], .c (.bl false)]),
   .forr (.tup [.n 6, .n 7]) (.enum (.v 2)) [.asg (.n 8) (.and (.cmp .eq (.sl false (.v 3) (some (.fn false .max [.c (.int 0), .bin false .sub (.v 6) (.c (.int 1))])) (some (.v 6))) (.lst false [.c (.str [100, 105, 103, 105, 116])])) (.cmp .eq (.sl false (.v 3) (some (.bin false .add (.v 6) (.c (.int 1)))) (some (.bin false .add (.v 6) (.c (.int 2))))) (.lst false [.c (.str [100, 105, 103, 105, 116])]))), .asg (.n 9) (.or (.cmp .eq (.ix (.v 3) (.v 6)) (.c (.str [100, 105, 103, 105, 116]))) (.and (.cmp .eq (.ix (.v 3) (.v 6)) (.c (.str [115, 101, 112, 97, 114, 97, 116, 111, 114]))) (.v 8))), .ife (.and (.t (.v 9)) (.t (.v 5))) [.asg (.ix (.v 4) (.neg (.c (.int 1)))) (.tup [.c (.str [110, 117, 109, 98, 101, 114]), .tup [.ix (.ix (.ix (.v 4) (.neg (.c (.int 1)))) (.c (.int 1))) (.c (.int 0)), .bin false .add (.ix (.v 7) (.c (.int 1))) (.c (.int 1))]])] [.ife (.t (.v 9)) [.ex (.bm .append (.v 4) [.tup [.c (.str [110, 117, 109, 98, 101, 114]), .tup [.ix (.v 7) (.c (.int 1)), .bin false .add (.ix (.v 7) (.c (.int 1))) (.c (.int 1))]]])] [.ife (.t (.cmp .eq (.ix (.v 7) (.c (.int 0))) (.c (.str [99, 104, 97, 114, 97, 99, 116, 101, 114])))) [.ex (.bm .append (.v 4) [.tup [.ite (.t (.cmp .inn (.ix (.v 3) (.v 6)) (.lst false [.c (.str [108, 116, 114]), .c (.str [114, 116, 108])]))) (.c (.str [108, 101, 116, 116, 101, 114])) (.c (.str [110, 101, 117, 116, 114, 97, 108])), .ix (.v 7) (.c (.int 1))]])] [.ex (.bm .append (.v 4) [.v 7])]]], .asg (.n 5) (.v 9)],
   .ret (.v 4)] }
/-- _law_can_begin(0 _law_text_here, 1 _law_sign, 2 _law_deep, 3 _law_waits) [3] -/
def fddlaw_can_begin : PV.Fn := { params := ["_law_text_here"], slots := 4, dfl := [], body :=
  [.asg (.tup [.n 2, .n 3]) (.tup [.c (.int 0), .c (.bl false)]),
   .forr (.n 1) (.e (.v 0)) [.ife (.t (.v 3)) [.ife (.t (.cmp .notin (.v 1) (.c (.str [60, 62])))) [.ret (.c (.bl false))] [], .asg (.n 3) (.c (.bl false))] [.ife (.t (.cmp .inn (.v 1) (.c (.str [123, 124])))) [.asg (.n 3) (.c (.bl true)), .asg (.n 2) (.bin false .add (.v 2) (.fn false .int [.cmp .eq (.v 1) (.c (.str [123]))]))] [.ife (.t (.cmp .eq (.v 1) (.c (.str [125])))) [.asg (.n 2) (.bin false .sub (.v 2) (.c (.int 1)))] [.ife (.t (.cmp .eq (.v 1) (.c (.str [10])))) [.ret (.c (.bl false))] []]]], .ife (.t (.cmp .lt (.v 2) (.c (.int 0)))) [.ret (.c (.bl false))] []],
   .ret (.c (.bl true))] }
/-- _law_drawn(0 _law_box_here, 1 _law_turn, 2 _law_left, 3 _law_nodes_here) [21] -/
def fddlaw_drawn : PV.Fn := { params := ["_law_box_here"], slots := 4, dfl := [], body :=
  [.asg (.tup [.n 2, .n 3]) (.tup [.lst true [.ix (.lst false [.c (.int 40), .c (.int 12)]) (.call "_law_take" [.v 0, .c (.int 2)] []), .c (.int 40)], .lst false []]),
   .forr (.n 1) (.range [.bin false .add (.c (.int 1)) (.call "_law_take" [.v 0, .c (.int 6)] [])]) [.asg (.n 3) (.bin false .add (.v 3) (.call "_law_nodes" [.v 0, .v 2, .c (.int 1)] []))],
   .ret (.lst false [.ix (.lst false [.c (.str [108, 116, 114]), .c (.str [114, 116, 108])]) (.call "_law_take" [.v 0, .c (.int 2)] []), .v 3])] }
/-- need_paragraph(0 value) [72] -/
def f_need_paragraph : PV.Fn := { params := ["value"], slots := 1, dfl := [], body :=
  [.ife (.not (.t (.isi (.v 0) [.own "Paragraph"]))) [.raise "InvalidParagraph" [.v 0]] []] }
/-- content_kind(0 paragraph, 1 element) [71] -/
def f_content_kind : PV.Fn := { params := ["paragraph", "element"], slots := 2, dfl := [], body :=
  [.ret (.ite (.t (.cmp .eq (.ix (.v 1) (.c (.int 0))) (.c (.str [99, 104, 97, 114, 97, 99, 116, 101, 114])))) (.call "character_kind" [.meth (.v 0) "character" [.ix (.v 1) (.c (.int 1))] []] []) (.ix (.v 1) (.c (.int 0))))] }
/-- number_stop(0 kinds, 1 start, 2 stop) [71] -/
def f_number_stop : PV.Fn := { params := ["kinds", "start"], slots := 3, dfl := [], body :=
  [.asg (.n 2) (.bin false .add (.v 1) (.c (.int 1))),
   .whl (.t (.c (.bl true))) [.ife (.t (.cmp .eq (.sl false (.v 0) (some (.v 2)) (some (.bin false .add (.v 2) (.c (.int 1))))) (.lst false [.c (.str [100, 105, 103, 105, 116])]))) [.aug (.n 2) .add (.c (.int 1))] [.ife (.t (.cmp .eq (.sl false (.v 0) (some (.v 2)) (some (.bin false .add (.v 2) (.c (.int 2))))) (.lst false [.c (.str [115, 101, 112, 97, 114, 97, 116, 111, 114]), .c (.str [100, 105, 103, 105, 116])]))) [.aug (.n 2) .add (.c (.int 2))] [.ret (.v 2)]]]] }
/-- items(0 paragraph, 1 block, 2 contents, 3 kinds, 4 found, 5 index, 6 stop, 7 element, 8 kind) [71] -/
def f_items : PV.Fn := { params := ["paragraph", "block"], slots := 9, dfl := [], body :=
  [.ex (.call "need_paragraph" [.v 0] []),
   .asg (.n 2) (.meth (.v 0) "contents" [.v 1] []),
   .asg (.n 3) (.comp false (.call "content_kind" [.v 0, .v 7] []) (.n 7) (.e (.v 2)) [] [7]),
   .asg (.n 4) (.lst true []),
   .asg (.n 5) (.c (.int 0)),
   .whl (.t (.cmp .lt (.v 5) (.fn false .len [.v 2]))) [.asg (.tup [.n 8, .n 7]) (.tup [.ix (.v 3) (.v 5), .ix (.v 2) (.v 5)]), .asg (.n 6) (.ite (.t (.cmp .eq (.v 8) (.c (.str [100, 105, 103, 105, 116])))) (.call "number_stop" [.v 3, .v 5] []) (.bin false .add (.v 5) (.c (.int 1)))), .ife (.t (.cmp .eq (.v 8) (.c (.str [100, 105, 103, 105, 116])))) [.ex (.bm .append (.v 4) [.tup [.c (.str [110, 117, 109, 98, 101, 114]), .tup [.ix (.v 7) (.c (.int 1)), .bin false .sub (.bin false .add (.ix (.v 7) (.c (.int 1))) (.v 6)) (.v 5)]]])] [.ife (.t (.cmp .eq (.ix (.v 7) (.c (.int 0))) (.c (.str [99, 104, 97, 114, 97, 99, 116, 101, 114])))) [.ex (.bm .append (.v 4) [.tup [.ite (.t (.cmp .inn (.v 8) (.tup [.c (.str [108, 116, 114]), .c (.str [114, 116, 108])]))) (.c (.str [108, 101, 116, 116, 101, 114])) (.c (.str [110, 101, 117, 116, 114, 97, 108])), .ix (.v 7) (.c (.int 1))]])] [.ex (.bm .append (.v 4) [.v 7])]], .asg (.n 5) (.v 6)],
   .ret (.v 4)] }
/-- _law_nodes(0 _law_box_here, 1 _law_left, 2 _law_depth, 3 _law_found, 4 _law_k, 5 _law_way, 6 _law_direction) [22] -/
def fddlaw_nodes : PV.Fn := { params := ["_law_box_here", "_law_left", "_law_depth"], slots := 7, dfl := [], body :=
  [.asg (.n 3) (.lst true []),
   .forr (.n 4) (.range [.ix (.lst false [.call "_law_take" [.v 0, .c (.int 9)] [], .c (.int 24)]) (.fn false .int [.cmp .eq (.call "_law_take" [.v 0, .c (.int 9)] []) (.c (.int 0))])]) [.asg (.tup [.n 5, .n 6]) (.tup [.call "_law_take" [.v 0, .c (.int 12)] [], .ix (.lst false [.c (.str [108, 116, 114]), .c (.str [114, 116, 108])]) (.call "_law_take" [.v 0, .c (.int 2)] [])]), .ife (.and (.t (.cmp .eq (.v 5) (.c (.int 0)))) (.t (.cmp .gt (.ix (.v 1) (.c (.int 0))) (.c (.int 2))))) [.asg (.ix (.v 1) (.c (.int 0))) (.bin false .sub (.ix (.v 1) (.c (.int 0))) (.c (.int 3))), .asg (.n 3) (.bin true .add (.v 3) (.lst false [.c (.str [49]), .ix (.c (.str [46, 44, 58, 47, 43])) (.call "_law_take" [.v 0, .c (.int 5)] []), .ix (.c (.str [48, 49, 50, 51, 52, 53, 54, 55, 56, 57])) (.call "_law_take" [.v 0, .c (.int 10)] [])]))] [.ife (.and (.t (.cmp .lt (.v 5) (.c (.int 8)))) (.t (.cmp .gt (.ix (.v 1) (.c (.int 0))) (.c (.int 0))))) [.asg (.ix (.v 1) (.c (.int 0))) (.bin false .sub (.ix (.v 1) (.c (.int 0))) (.c (.int 1))), .ex (.bm .append (.v 3) [.call "_law_sign" [.v 0] []])] [.ife (.and (.t (.cmp .gt (.v 5) (.c (.int 7)))) (.and (.t (.cmp .gt (.ix (.v 1) (.c (.int 1))) (.c (.int 0)))) (.or (.t (.cmp .lt (.v 5) (.c (.int 10)))) (.t (.cmp .eq (.v 2) (.c (.int 12))))))) [.asg (.ix (.v 1) (.c (.int 1))) (.bin false .sub (.ix (.v 1) (.c (.int 1))) (.c (.int 1))), .ex (.bm .append (.v 3) [.tup [.c (.str [109, 97, 114, 107]), .v 6]])] [.ife (.and (.t (.cmp .gt (.v 5) (.c (.int 9)))) (.t (.cmp .gt (.ix (.v 1) (.c (.int 1))) (.c (.int 0))))) [.asg (.ix (.v 1) (.c (.int 1))) (.bin false .sub (.ix (.v 1) (.c (.int 1))) (.c (.int 1))), .ex (.bm .append (.v 3) [.lst false [.v 6, .call "_law_nodes" [.v 0, .v 1, .bin false .add (.v 2) (.c (.int 1))] []]])] []]]]],
   .ret (.v 3)] }
/-- _law_fill(0 _law_model_here, 1 _law_block, 2 _law_nodes_here, 3 _law_node, 4 _law_inner) [14] -/
def fddlaw_fill : PV.Fn := { params := ["_law_model_here", "_law_block", "_law_nodes_here"], slots := 5, dfl := [], body :=
  [.forr (.n 3) (.e (.v 2)) [.ife (.t (.isi (.v 3) [.b "str"])) [.ex (.bm .append (.ix (.ix (.ix (.v 0) (.c (.str [98, 108, 111, 99, 107, 115]))) (.v 1)) (.c (.int 1))) [.tup [.c (.str [99, 104, 97, 114, 97, 99, 116, 101, 114]), .fn false .len [.ix (.v 0) (.c (.str [115, 105, 103, 110, 115]))]]]), .ex (.bm .append (.ix (.v 0) (.c (.str [115, 105, 103, 110, 115]))) [.v 3])] [.ife (.t (.isi (.v 3) [.b "tuple"])) [.ex (.bm .append (.ix (.ix (.ix (.v 0) (.c (.str [98, 108, 111, 99, 107, 115]))) (.v 1)) (.c (.int 1))) [.v 3])] [.asg (.n 4) (.fn false .len [.ix (.v 0) (.c (.str [98, 108, 111, 99, 107, 115]))]), .ex (.bm .append (.ix (.ix (.ix (.v 0) (.c (.str [98, 108, 111, 99, 107, 115]))) (.v 1)) (.c (.int 1))) [.tup [.c (.str [105, 115, 111, 108, 97, 116, 101]), .v 4]]), .ex (.bm .append (.ix (.v 0) (.c (.str [98, 108, 111, 99, 107, 115]))) [.lst true [.ix (.v 3) (.c (.int 0)), .lst true []]]), .ex (.call "_law_fill" [.v 0, .v 4, .ix (.v 3) (.c (.int 1))] [])]]]] }
/-- _law_model(0 _law_ground, 1 _law_nodes_here, 2 _law_model_here) [14] -/
def fddlaw_model : PV.Fn := { params := ["_law_ground", "_law_nodes_here"], slots := 3, dfl := [], body :=
  [.asg (.n 2) (.dct true [(.c (.str [115, 105, 103, 110, 115]), .lst true []), (.c (.str [98, 108, 111, 99, 107, 115]), .lst true [.lst true [.v 0, .lst true []]])]),
   .ex (.call "_law_fill" [.v 2, .c (.int 0), .v 1] []),
   .ret (.v 2)] }
end P
set_option Elab.async false
set_option maxRecDepth 100000
set_option maxHeartbeats 4000000
namespace G
open PV
abbrev fddwall : PV.Fn := P.fddwall
abbrev f_is_integer : PV.Fn := P.f_is_integer
abbrev f_is_character : PV.Fn := P.f_is_character
abbrev f_is_direction : PV.Fn := P.f_is_direction
abbrev f_need_character : PV.Fn := P.f_need_character
abbrev f_need_direction : PV.Fn := P.f_need_direction
abbrev f_character_kind : PV.Fn := P.f_character_kind
abbrev f_tokens : PV.Fn := P.f_tokens
abbrev m_BlockRecord_init : PV.Fn := P.m_BlockRecord_init
abbrev m_Paragraph_init : PV.Fn := P.m_Paragraph_init
abbrev m_Paragraph_build : PV.Fn := P.m_Paragraph_build
abbrev m_Paragraph_keep_token : PV.Fn := P.m_Paragraph_keep_token
abbrev m_Paragraph_text : PV.Fn := P.m_Paragraph_text
abbrev m_Paragraph_base : PV.Fn := P.m_Paragraph_base
abbrev m_Paragraph_plain : PV.Fn := P.m_Paragraph_plain_1
abbrev m_Paragraph_control_count : PV.Fn := P.m_Paragraph_control_count
abbrev m_Paragraph_block_count : PV.Fn := P.m_Paragraph_block_count_1
abbrev m_Paragraph_record_of : PV.Fn := P.m_Paragraph_record_of
abbrev m_Paragraph_direction : PV.Fn := P.m_Paragraph_direction
abbrev m_Paragraph_depth : PV.Fn := P.m_Paragraph_depth
abbrev m_Paragraph_parent : PV.Fn := P.m_Paragraph_parent
abbrev m_Paragraph_contents : PV.Fn := P.m_Paragraph_contents
abbrev m_Paragraph_span : PV.Fn := P.m_Paragraph_span_3
abbrev m_Paragraph_need_number : PV.Fn := P.m_Paragraph_need_number
abbrev m_Paragraph_character : PV.Fn := P.m_Paragraph_character
abbrev m_Paragraph_block_of : PV.Fn := P.m_Paragraph_block_of_4
abbrev m_Paragraph_path : PV.Fn := P.m_Paragraph_path_4
abbrev m_Paragraph_isolated : PV.Fn := P.m_Paragraph_isolated_6
abbrev m_Paragraph_with_base : PV.Fn := P.m_Paragraph_with_base_5
abbrev m_Paragraph_stripped : PV.Fn := P.m_Paragraph_stripped_5
abbrev m_Paragraph_exchanged : PV.Fn := P.m_Paragraph_exchanged_6
abbrev m_Paragraphdd_lendd : PV.Fn := P.m_Paragraphdd_lendd
abbrev m_Paragraphdd_eqdd : PV.Fn := P.m_Paragraphdd_eqdd
abbrev m_Paragraphdd_strdd : PV.Fn := P.m_Paragraphdd_strdd
abbrev m_Paragraphdd_reprdd : PV.Fn := P.m_Paragraphdd_reprdd
abbrev f_need_paragraph : PV.Fn := P.f_need_paragraph
abbrev f_content_kind : PV.Fn := P.f_content_kind
abbrev f_number_stop : PV.Fn := P.f_number_stop
abbrev f_items : PV.Fn := { P.f_items with frz := false }
/-- _law_cell(0 _law_script, 1 _law_k) -/
def fddlaw_cell : PV.Fn := { params := ["_law_script", "_law_k"], slots := 2, dfl := [], frz := true, body :=
  [.ife (.t (.cmp .lt (.v 1) (.fn false .len [.v 0]))) [.ret (.ix (.v 0) (.v 1))] [],
   .ret (.bin false .add (.bin false .mul (.c (.int 8311)) (.v 1)) (.c (.int 239)))] }
abbrev fddlaw_box : PV.Fn := { P.fddlaw_box with frz := false }
/-- _law_take(0 _law_box_here, 1 _law_many, 2 _law_mixed, 3 _law_digit) -/
def fddlaw_take : PV.Fn := { params := ["_law_box_here", "_law_many"], slots := 4, dfl := [], frz := true, body :=
  [.ife (.t (.cmp .gt (.ix (.v 0) (.c (.int 0))) (.c (.int 0)))) [.asg (.n 3) (.bin false .mod (.ix (.v 0) (.c (.int 0))) (.v 1)), .asg (.ix (.v 0) (.c (.int 0))) (.bin false .fdiv (.ix (.v 0) (.c (.int 0))) (.v 1)), .ret (.v 3)] [],
   .asg (.ix (.v 0) (.c (.int 2))) (.bin false .add (.ix (.v 0) (.c (.int 2))) (.c (.int 1))),
   .asg (.n 2) (.bin false .mod (.bin false .pow (.bin false .add (.bin false .add (.ix (.v 0) (.c (.int 1))) (.bin false .mul (.c (.int 8311)) (.ix (.v 0) (.c (.int 2))))) (.c (.int 239))) (.c (.int 5))) (.c (.int 2147483647))),
   .asg (.n 2) (.bin false .mod (.bin false .pow (.bin false .add (.v 2) (.bin false .mul (.c (.int 104729)) (.ix (.v 0) (.c (.int 2))))) (.c (.int 3))) (.c (.int 2147483587))),
   .ret (.bin false .mod (.bin false .fdiv (.v 2) (.c (.int 16))) (.v 1))] }
abbrev fddlaw_sign : PV.Fn := P.fddlaw_sign
abbrev fddlaw_nodes : PV.Fn := P.fddlaw_nodes
abbrev fddlaw_drawn : PV.Fn := P.fddlaw_drawn
abbrev fddlaw_text : PV.Fn := P.fddlaw_text
abbrev fddlaw_fill : PV.Fn := P.fddlaw_fill
abbrev fddlaw_model : PV.Fn := { P.fddlaw_model with frz := false }
abbrev fddlaw_kind : PV.Fn := P.fddlaw_kind
abbrev fddlaw_items : PV.Fn := P.fddlaw_items
/-- _law_figures(0 _law_box_here, 1 _law_found, 2 _law_k, 3 _law_way) -/
def fddlaw_figures : PV.Fn := { params := ["_law_box_here"], slots := 4, dfl := [], frz := true, body :=
  [.asg (.n 1) (.lst true []),
   .forr (.n 2) (.range [.call "_law_take" [.v 0, .c (.int 21)] []]) [.asg (.n 3) (.call "_law_take" [.v 0, .c (.int 15)] []), .ife (.t (.cmp .lt (.v 3) (.c (.int 12)))) [.ex (.bm .append (.v 1) [.ix (.lst false [.c (.str [55]), .c (.str [46]), .c (.str [48]), .c (.str [44]), .c (.str [51]), .c (.str [46]), .c (.str [57]), .c (.str [45]), .c (.str [58]), .c (.str [47]), .c (.str [43]), .c (.str [36])]) (.v 3)])] [.ex (.bm .append (.v 1) [.ix (.lst false [.tup [.c (.str [109, 97, 114, 107]), .c (.str [114, 116, 108])], .lst false [.c (.str [108, 116, 114]), .bin false .mul (.lst false [.c (.str [53])]) (.call "_law_take" [.v 0, .c (.int 2)] [])], .lst false [.c (.str [114, 116, 108]), .lst false [.c (.str [55]), .c (.str [46])]]]) (.bin false .sub (.v 3) (.c (.int 12)))])]],
   .ret (.v 1)] }
/-- _law_right(0 _law_ground, 1 _law_nodes_here, 2 _law_block, 3 _law_model_here, 4 _law_paragraph, 5 _law_due, 6 _law_turn, 7 _law_found) -/
def fddlaw_right : PV.Fn := { params := ["_law_ground", "_law_nodes_here"], slots := 8, dfl := [], frz := true, body :=
  [.asg (.tup [.n 3, .n 4]) (.tup [.call "_law_model" [.v 0, .v 1] [], .new "Paragraph" [.call "_law_text" [.v 1] []] [("base", .v 0)]]),
   .forr (.n 2) (.range [.fn false .len [.ix (.v 3) (.c (.str [98, 108, 111, 99, 107, 115]))]]) [.asg (.n 5) (.call "_law_items" [.v 3, .v 2] []), .forr (.n 6) (.range [.c (.int 2)]) [.asg (.n 7) (.call "items" [.v 4, .v 2] []), .ife (.or (.not (.t (.isi (.v 7) [.b "list"]))) (.t (.cmp .ne (.fn false .repr [.v 7]) (.fn false .repr [.v 5])))) [.ret (.c (.bl false))] [], .ex (.bm .append (.v 7) [.tup [.c (.str [109, 111, 114, 101]), .c (.int 0)]])]],
   .ret (.c (.bl true))] }
/-- law(0 _law_script, 1 _law_k, 2 _law_box_here, 3 _law_ground, 4 _law_nodes_here) -/
def f_law : PV.Fn := { params := ["_law_script"], slots := 5, dfl := [], frz := true, body :=
  [.forr (.n 1) (.range [.fn false .max [.c (.int 2), .fn false .min [.c (.int 6), .fn false .len [.v 0]]]]) [.asg (.n 2) (.call "_law_box" [.call "_law_cell" [.v 0, .v 1] []] []), .asg (.tup [.n 3, .n 4]) (.call "_law_drawn" [.v 2] []), .ife (.or (.not (.t (.call "_law_right" [.v 3, .v 4] []))) (.not (.t (.call "_law_right" [.v 3, .call "_law_figures" [.v 2] []] [])))) [.ret (.c (.bl false))] []],
   .ret (.c (.bl true))] }
def fns : List ((String × String) × PV.Fn) := [(("", "_wall"), fddwall), (("", "is_integer"), f_is_integer), (("", "is_character"), f_is_character), (("", "is_direction"), f_is_direction), (("", "need_character"), f_need_character), (("", "need_direction"), f_need_direction), (("", "character_kind"), f_character_kind), (("", "tokens"), f_tokens), (("BlockRecord", "__init__"), m_BlockRecord_init), (("Paragraph", "__init__"), m_Paragraph_init), (("Paragraph", "build"), m_Paragraph_build), (("Paragraph", "keep_token"), m_Paragraph_keep_token), (("Paragraph", "text"), m_Paragraph_text), (("Paragraph", "base"), m_Paragraph_base), (("Paragraph", "plain"), m_Paragraph_plain), (("Paragraph", "control_count"), m_Paragraph_control_count), (("Paragraph", "block_count"), m_Paragraph_block_count), (("Paragraph", "record_of"), m_Paragraph_record_of), (("Paragraph", "direction"), m_Paragraph_direction), (("Paragraph", "depth"), m_Paragraph_depth), (("Paragraph", "parent"), m_Paragraph_parent), (("Paragraph", "contents"), m_Paragraph_contents), (("Paragraph", "span"), m_Paragraph_span), (("Paragraph", "need_number"), m_Paragraph_need_number), (("Paragraph", "character"), m_Paragraph_character), (("Paragraph", "block_of"), m_Paragraph_block_of), (("Paragraph", "path"), m_Paragraph_path), (("Paragraph", "isolated"), m_Paragraph_isolated), (("Paragraph", "with_base"), m_Paragraph_with_base), (("Paragraph", "stripped"), m_Paragraph_stripped), (("Paragraph", "exchanged"), m_Paragraph_exchanged), (("Paragraph", "__len__"), m_Paragraphdd_lendd), (("Paragraph", "__eq__"), m_Paragraphdd_eqdd), (("Paragraph", "__str__"), m_Paragraphdd_strdd), (("Paragraph", "__repr__"), m_Paragraphdd_reprdd), (("", "need_paragraph"), f_need_paragraph), (("", "content_kind"), f_content_kind), (("", "number_stop"), f_number_stop), (("", "items"), f_items), (("", "_law_cell"), fddlaw_cell), (("", "_law_box"), fddlaw_box), (("", "_law_take"), fddlaw_take), (("", "_law_sign"), fddlaw_sign), (("", "_law_nodes"), fddlaw_nodes), (("", "_law_drawn"), fddlaw_drawn), (("", "_law_text"), fddlaw_text), (("", "_law_fill"), fddlaw_fill), (("", "_law_model"), fddlaw_model), (("", "_law_kind"), fddlaw_kind), (("", "_law_items"), fddlaw_items), (("", "_law_figures"), fddlaw_figures), (("", "_law_right"), fddlaw_right), (("", "law"), f_law)]
def globs : List (String × PV.D) := [("MAX_CHARACTERS", (.int 40)), ("MAX_CONTROLS", (.int 40)), ("MAX_DEPTH", (.int 12)), ("DIRECTIONS", (.tup [(.str [108, 116, 114]), (.str [114, 116, 108])])), ("SIGNS", (.frd [((.str [62]), (.str [108, 116, 114])), ((.str [60]), (.str [114, 116, 108]))])), ("SMALL", (.str [97, 98, 99, 100, 101, 102, 103, 104, 105, 106, 107, 108, 109, 110, 111, 112, 113, 114, 115, 116, 117, 118, 119, 120, 121, 122])), ("CAPITAL", (.str [65, 66, 67, 68, 69, 70, 71, 72, 73, 74, 75, 76, 77, 78, 79, 80, 81, 82, 83, 84, 85, 86, 87, 88, 89, 90])), ("DIGITS", (.str [48, 49, 50, 51, 52, 53, 54, 55, 56, 57])), ("SEPARATORS", (.str [46, 44]))]
def excs : List (String × List String) := [("BidiError", []), ("InvalidCharacter", ["BidiError"]), ("InvalidDirection", ["BidiError"]), ("NotText", ["BidiError"]), ("InvalidText", ["BidiError"]), ("InvalidParagraph", ["BidiError"]), ("TooMany", ["BidiError"]), ("TooDeep", ["BidiError"])]
def flds : List (String × String) := [("InvalidCharacter", "value"), ("InvalidDirection", "value"), ("NotText", "value"), ("InvalidText", "position"), ("InvalidParagraph", "value"), ("TooMany", "total"), ("TooDeep", "total")]
def cls : List String := ["BlockRecord", "Paragraph"]
def noats : List (String × String) := [("BlockRecord", "append"), ("BlockRecord", "block_depth"), ("BlockRecord", "block_direction"), ("BlockRecord", "block_tokens"), ("BlockRecord", "content"), ("BlockRecord", "first_character"), ("BlockRecord", "homes"), ("BlockRecord", "join"), ("BlockRecord", "kept_base"), ("BlockRecord", "kept_plain"), ("BlockRecord", "kept_text"), ("BlockRecord", "kept_tokens"), ("BlockRecord", "parent_block"), ("BlockRecord", "past_character"), ("BlockRecord", "pop"), ("BlockRecord", "position"), ("BlockRecord", "records"), ("BlockRecord", "total"), ("BlockRecord", "upper"), ("BlockRecord", "value"), ("Paragraph", "append"), ("Paragraph", "block_depth"), ("Paragraph", "block_direction"), ("Paragraph", "block_tokens"), ("Paragraph", "content"), ("Paragraph", "first_character"), ("Paragraph", "homes"), ("Paragraph", "join"), ("Paragraph", "kept_base"), ("Paragraph", "kept_plain"), ("Paragraph", "kept_text"), ("Paragraph", "kept_tokens"), ("Paragraph", "parent_block"), ("Paragraph", "past_character"), ("Paragraph", "pop"), ("Paragraph", "position"), ("Paragraph", "records"), ("Paragraph", "total"), ("Paragraph", "upper"), ("Paragraph", "value")]
abbrev tab : PV.Tab := ⟨fns, globs, excs, flds, PV.repD, cls, noats⟩
end G
set_option Elab.async false
set_option linter.all false
set_option maxRecDepth 100000
set_option maxHeartbeats 0
namespace Hd
open PySem PySem.Spec PyProof.Rows L2
def topS (i : Nat) : Stmt := PySem.Challenge.pw_bidiplan_k12_items_of_blocks.main.body.getD i (.Pass ⟨0, 0, 0, 0⟩)
def inS : Stmt → Nat → Stmt
  | .ClassDef (body := b) .., i => b.getD i (.Pass ⟨0, 0, 0, 0⟩)
  | s, _ => s
def d0 : He.DefD := ⟨(Str.ofString "_wall", none), Str.ofString "_wall", Str.ofString "_wall", defArgs (topS 0), defBody (topS 0), defScope (topS 0), [], []⟩
def e0 : PV.Ent := ⟨"", "_wall", d0, G.fddwall, ["k"], [(1, [])]⟩
def d1 : He.DefD := ⟨(Str.ofString "is_integer", none), Str.ofString "is_integer", Str.ofString "is_integer", defArgs (topS 23), defBody (topS 23), defScope (topS 23), [], []⟩
def e1 : PV.Ent := ⟨"", "is_integer", d1, G.f_is_integer, ["value", "low", "high"], [(3, [])]⟩
def d2 : He.DefD := ⟨(Str.ofString "is_character", none), Str.ofString "is_character", Str.ofString "is_character", defArgs (topS 24), defBody (topS 24), defScope (topS 24), [], []⟩
def e2 : PV.Ent := ⟨"", "is_character", d2, G.f_is_character, ["value"], [(1, [])]⟩
def d3 : He.DefD := ⟨(Str.ofString "is_direction", none), Str.ofString "is_direction", Str.ofString "is_direction", defArgs (topS 25), defBody (topS 25), defScope (topS 25), [], []⟩
def e3 : PV.Ent := ⟨"", "is_direction", d3, G.f_is_direction, ["value"], [(1, [])]⟩
def d4 : He.DefD := ⟨(Str.ofString "need_character", none), Str.ofString "need_character", Str.ofString "need_character", defArgs (topS 26), defBody (topS 26), defScope (topS 26), [], []⟩
def e4 : PV.Ent := ⟨"", "need_character", d4, G.f_need_character, ["value"], [(1, [])]⟩
def d5 : He.DefD := ⟨(Str.ofString "need_direction", none), Str.ofString "need_direction", Str.ofString "need_direction", defArgs (topS 27), defBody (topS 27), defScope (topS 27), [], []⟩
def e5 : PV.Ent := ⟨"", "need_direction", d5, G.f_need_direction, ["value"], [(1, [])]⟩
def d6 : He.DefD := ⟨(Str.ofString "character_kind", none), Str.ofString "character_kind", Str.ofString "character_kind", defArgs (topS 28), defBody (topS 28), defScope (topS 28), [], []⟩
def e6 : PV.Ent := ⟨"", "character_kind", d6, G.f_character_kind, ["character", "kind", "group"], [(1, [])]⟩
def d7 : He.DefD := ⟨(Str.ofString "tokens", none), Str.ofString "tokens", Str.ofString "tokens", defArgs (topS 29), defBody (topS 29), defScope (topS 29), [], []⟩
def e7 : PV.Ent := ⟨"", "tokens", d7, G.f_tokens, ["text", "found", "open_count", "index", "sign"], [(1, [])]⟩
def d8 : He.DefD := ⟨(Str.ofString "BlockRecord", some (Str.ofString "__init__")), Str.ofString "__init__", Str.ofString "BlockRecord.__init__", defArgs (inS (topS 31) 0), defBody (inS (topS 31) 0), defScope (inS (topS 31) 0), [], []⟩
def e8 : PV.Ent := ⟨"BlockRecord", "__init__", d8, G.m_BlockRecord_init, ["self", "direction", "parent", "depth", "first"], [(5, [])]⟩
def d9 : He.DefD := ⟨(Str.ofString "Paragraph", some (Str.ofString "__init__")), Str.ofString "__init__", Str.ofString "Paragraph.__init__", defArgs (inS (topS 32) 0), defBody (inS (topS 32) 0), defScope (inS (topS 32) 0), [], [(Str.ofString "base", .str "ltr")]⟩
def e9 : PV.Ent := ⟨"Paragraph", "__init__", d9, G.m_Paragraph_init, ["self", "text", "base", "deepest", "token", "record"], [(2, ["base"])]⟩
def d10 : He.DefD := ⟨(Str.ofString "Paragraph", some (Str.ofString "build")), Str.ofString "build", Str.ofString "Paragraph.build", defArgs (inS (topS 32) 1), defBody (inS (topS 32) 1), defScope (inS (topS 32) 1), [], []⟩
def e10 : PV.Ent := ⟨"Paragraph", "build", d10, G.m_Paragraph_build, ["self", "stack", "token"], [(1, [])]⟩
def d11 : He.DefD := ⟨(Str.ofString "Paragraph", some (Str.ofString "keep_token")), Str.ofString "keep_token", Str.ofString "Paragraph.keep_token", defArgs (inS (topS 32) 2), defBody (inS (topS 32) 2), defScope (inS (topS 32) 2), [], []⟩
def e11 : PV.Ent := ⟨"Paragraph", "keep_token", d11, G.m_Paragraph_keep_token, ["self", "stack", "token", "block"], [(3, [])]⟩
def d12 : He.DefD := ⟨(Str.ofString "Paragraph", some (Str.ofString "text")), Str.ofString "text", Str.ofString "Paragraph.text", defArgs (inS (topS 32) 3), defBody (inS (topS 32) 3), defScope (inS (topS 32) 3), [], []⟩
def e12 : PV.Ent := ⟨"Paragraph", "text", d12, G.m_Paragraph_text, ["self"], [(1, [])]⟩
def d13 : He.DefD := ⟨(Str.ofString "Paragraph", some (Str.ofString "base")), Str.ofString "base", Str.ofString "Paragraph.base", defArgs (inS (topS 32) 4), defBody (inS (topS 32) 4), defScope (inS (topS 32) 4), [], []⟩
def e13 : PV.Ent := ⟨"Paragraph", "base", d13, G.m_Paragraph_base, ["self"], [(1, [])]⟩
def d14 : He.DefD := ⟨(Str.ofString "Paragraph", some (Str.ofString "plain")), Str.ofString "plain", Str.ofString "Paragraph.plain", defArgs (inS (topS 32) 5), defBody (inS (topS 32) 5), defScope (inS (topS 32) 5), [], []⟩
def e14 : PV.Ent := ⟨"Paragraph", "plain", d14, G.m_Paragraph_plain, ["self"], [(1, [])]⟩
def d15 : He.DefD := ⟨(Str.ofString "Paragraph", some (Str.ofString "control_count")), Str.ofString "control_count", Str.ofString "Paragraph.control_count", defArgs (inS (topS 32) 6), defBody (inS (topS 32) 6), defScope (inS (topS 32) 6), [], []⟩
def e15 : PV.Ent := ⟨"Paragraph", "control_count", d15, G.m_Paragraph_control_count, ["self", "token"], [(1, [])]⟩
def d16 : He.DefD := ⟨(Str.ofString "Paragraph", some (Str.ofString "block_count")), Str.ofString "block_count", Str.ofString "Paragraph.block_count", defArgs (inS (topS 32) 7), defBody (inS (topS 32) 7), defScope (inS (topS 32) 7), [], []⟩
def e16 : PV.Ent := ⟨"Paragraph", "block_count", d16, G.m_Paragraph_block_count, ["self"], [(1, [])]⟩
def d17 : He.DefD := ⟨(Str.ofString "Paragraph", some (Str.ofString "record_of")), Str.ofString "record_of", Str.ofString "Paragraph.record_of", defArgs (inS (topS 32) 8), defBody (inS (topS 32) 8), defScope (inS (topS 32) 8), [], []⟩
def e17 : PV.Ent := ⟨"Paragraph", "record_of", d17, G.m_Paragraph_record_of, ["self", "block"], [(2, [])]⟩
def d18 : He.DefD := ⟨(Str.ofString "Paragraph", some (Str.ofString "direction")), Str.ofString "direction", Str.ofString "Paragraph.direction", defArgs (inS (topS 32) 9), defBody (inS (topS 32) 9), defScope (inS (topS 32) 9), [], []⟩
def e18 : PV.Ent := ⟨"Paragraph", "direction", d18, G.m_Paragraph_direction, ["self", "block"], [(2, [])]⟩
def d19 : He.DefD := ⟨(Str.ofString "Paragraph", some (Str.ofString "depth")), Str.ofString "depth", Str.ofString "Paragraph.depth", defArgs (inS (topS 32) 10), defBody (inS (topS 32) 10), defScope (inS (topS 32) 10), [], []⟩
def e19 : PV.Ent := ⟨"Paragraph", "depth", d19, G.m_Paragraph_depth, ["self", "block"], [(2, [])]⟩
def d20 : He.DefD := ⟨(Str.ofString "Paragraph", some (Str.ofString "parent")), Str.ofString "parent", Str.ofString "Paragraph.parent", defArgs (inS (topS 32) 11), defBody (inS (topS 32) 11), defScope (inS (topS 32) 11), [], []⟩
def e20 : PV.Ent := ⟨"Paragraph", "parent", d20, G.m_Paragraph_parent, ["self", "block"], [(2, [])]⟩
def d21 : He.DefD := ⟨(Str.ofString "Paragraph", some (Str.ofString "contents")), Str.ofString "contents", Str.ofString "Paragraph.contents", defArgs (inS (topS 32) 12), defBody (inS (topS 32) 12), defScope (inS (topS 32) 12), [], []⟩
def e21 : PV.Ent := ⟨"Paragraph", "contents", d21, G.m_Paragraph_contents, ["self", "block"], [(2, [])]⟩
def d22 : He.DefD := ⟨(Str.ofString "Paragraph", some (Str.ofString "span")), Str.ofString "span", Str.ofString "Paragraph.span", defArgs (inS (topS 32) 13), defBody (inS (topS 32) 13), defScope (inS (topS 32) 13), [], []⟩
def e22 : PV.Ent := ⟨"Paragraph", "span", d22, G.m_Paragraph_span, ["self", "block"], [(2, [])]⟩
def d23 : He.DefD := ⟨(Str.ofString "Paragraph", some (Str.ofString "need_number")), Str.ofString "need_number", Str.ofString "Paragraph.need_number", defArgs (inS (topS 32) 14), defBody (inS (topS 32) 14), defScope (inS (topS 32) 14), [], []⟩
def e23 : PV.Ent := ⟨"Paragraph", "need_number", d23, G.m_Paragraph_need_number, ["self", "number"], [(2, [])]⟩
def d24 : He.DefD := ⟨(Str.ofString "Paragraph", some (Str.ofString "character")), Str.ofString "character", Str.ofString "Paragraph.character", defArgs (inS (topS 32) 15), defBody (inS (topS 32) 15), defScope (inS (topS 32) 15), [], []⟩
def e24 : PV.Ent := ⟨"Paragraph", "character", d24, G.m_Paragraph_character, ["self", "number"], [(2, [])]⟩
def d25 : He.DefD := ⟨(Str.ofString "Paragraph", some (Str.ofString "block_of")), Str.ofString "block_of", Str.ofString "Paragraph.block_of", defArgs (inS (topS 32) 16), defBody (inS (topS 32) 16), defScope (inS (topS 32) 16), [], []⟩
def e25 : PV.Ent := ⟨"Paragraph", "block_of", d25, G.m_Paragraph_block_of, ["self", "number"], [(2, [])]⟩
def d26 : He.DefD := ⟨(Str.ofString "Paragraph", some (Str.ofString "path")), Str.ofString "path", Str.ofString "Paragraph.path", defArgs (inS (topS 32) 17), defBody (inS (topS 32) 17), defScope (inS (topS 32) 17), [], []⟩
def e26 : PV.Ent := ⟨"Paragraph", "path", d26, G.m_Paragraph_path, ["self", "number"], [(2, [])]⟩
def d27 : He.DefD := ⟨(Str.ofString "Paragraph", some (Str.ofString "isolated")), Str.ofString "isolated", Str.ofString "Paragraph.isolated", defArgs (inS (topS 32) 18), defBody (inS (topS 32) 18), defScope (inS (topS 32) 18), [], []⟩
def e27 : PV.Ent := ⟨"Paragraph", "isolated", d27, G.m_Paragraph_isolated, ["self", "block"], [(2, [])]⟩
def d28 : He.DefD := ⟨(Str.ofString "Paragraph", some (Str.ofString "with_base")), Str.ofString "with_base", Str.ofString "Paragraph.with_base", defArgs (inS (topS 32) 19), defBody (inS (topS 32) 19), defScope (inS (topS 32) 19), [], []⟩
def e28 : PV.Ent := ⟨"Paragraph", "with_base", d28, G.m_Paragraph_with_base, ["self", "base"], [(2, [])]⟩
def d29 : He.DefD := ⟨(Str.ofString "Paragraph", some (Str.ofString "stripped")), Str.ofString "stripped", Str.ofString "Paragraph.stripped", defArgs (inS (topS 32) 20), defBody (inS (topS 32) 20), defScope (inS (topS 32) 20), [], []⟩
def e29 : PV.Ent := ⟨"Paragraph", "stripped", d29, G.m_Paragraph_stripped, ["self"], [(1, [])]⟩
def d30 : He.DefD := ⟨(Str.ofString "Paragraph", some (Str.ofString "exchanged")), Str.ofString "exchanged", Str.ofString "Paragraph.exchanged", defArgs (inS (topS 32) 21), defBody (inS (topS 32) 21), defScope (inS (topS 32) 21), [], []⟩
def e30 : PV.Ent := ⟨"Paragraph", "exchanged", d30, G.m_Paragraph_exchanged, ["self"], [(1, [])]⟩
def d31 : He.DefD := ⟨(Str.ofString "Paragraph", some (Str.ofString "__len__")), Str.ofString "__len__", Str.ofString "Paragraph.__len__", defArgs (inS (topS 32) 22), defBody (inS (topS 32) 22), defScope (inS (topS 32) 22), [], []⟩
def e31 : PV.Ent := ⟨"Paragraph", "__len__", d31, G.m_Paragraphdd_lendd, ["self"], [(1, [])]⟩
def d32 : He.DefD := ⟨(Str.ofString "Paragraph", some (Str.ofString "__eq__")), Str.ofString "__eq__", Str.ofString "Paragraph.__eq__", defArgs (inS (topS 32) 23), defBody (inS (topS 32) 23), defScope (inS (topS 32) 23), [], []⟩
def e32 : PV.Ent := ⟨"Paragraph", "__eq__", d32, G.m_Paragraphdd_eqdd, ["self", "other"], [(2, [])]⟩
def d33 : He.DefD := ⟨(Str.ofString "Paragraph", some (Str.ofString "__str__")), Str.ofString "__str__", Str.ofString "Paragraph.__str__", defArgs (inS (topS 32) 24), defBody (inS (topS 32) 24), defScope (inS (topS 32) 24), [], []⟩
def e33 : PV.Ent := ⟨"Paragraph", "__str__", d33, G.m_Paragraphdd_strdd, ["self"], [(1, [])]⟩
def d34 : He.DefD := ⟨(Str.ofString "Paragraph", some (Str.ofString "__repr__")), Str.ofString "__repr__", Str.ofString "Paragraph.__repr__", defArgs (inS (topS 32) 25), defBody (inS (topS 32) 25), defScope (inS (topS 32) 25), [], []⟩
def e34 : PV.Ent := ⟨"Paragraph", "__repr__", d34, G.m_Paragraphdd_reprdd, ["self"], [(1, [])]⟩
def d35 : He.DefD := ⟨(Str.ofString "need_paragraph", none), Str.ofString "need_paragraph", Str.ofString "need_paragraph", defArgs (topS 33), defBody (topS 33), defScope (topS 33), [], []⟩
def e35 : PV.Ent := ⟨"", "need_paragraph", d35, G.f_need_paragraph, ["value"], [(1, [])]⟩
def d36 : He.DefD := ⟨(Str.ofString "content_kind", none), Str.ofString "content_kind", Str.ofString "content_kind", defArgs (topS 35), defBody (topS 35), defScope (topS 35), [], []⟩
def e36 : PV.Ent := ⟨"", "content_kind", d36, G.f_content_kind, ["paragraph", "element"], [(2, [])]⟩
def d37 : He.DefD := ⟨(Str.ofString "number_stop", none), Str.ofString "number_stop", Str.ofString "number_stop", defArgs (topS 36), defBody (topS 36), defScope (topS 36), [], []⟩
def e37 : PV.Ent := ⟨"", "number_stop", d37, G.f_number_stop, ["kinds", "start", "stop"], [(2, [])]⟩
def d38 : He.DefD := ⟨(Str.ofString "items", none), Str.ofString "items", Str.ofString "items", defArgs (topS 37), defBody (topS 37), defScope (topS 37), [], []⟩
def e38 : PV.Ent := ⟨"", "items", d38, G.f_items, ["paragraph", "block", "contents", "kinds", "found", "index", "stop", "element", "kind"], [(2, [])]⟩
def d39 : He.DefD := ⟨(Str.ofString "_law_cell", none), Str.ofString "_law_cell", Str.ofString "_law_cell", defArgs (topS 39), defBody (topS 39), defScope (topS 39), [], []⟩
def e39 : PV.Ent := ⟨"", "_law_cell", d39, G.fddlaw_cell, ["_law_script", "_law_k"], [(2, [])]⟩
def d40 : He.DefD := ⟨(Str.ofString "_law_box", none), Str.ofString "_law_box", Str.ofString "_law_box", defArgs (topS 40), defBody (topS 40), defScope (topS 40), [], []⟩
def e40 : PV.Ent := ⟨"", "_law_box", d40, G.fddlaw_box, ["_law_cell_here"], [(1, [])]⟩
def d41 : He.DefD := ⟨(Str.ofString "_law_take", none), Str.ofString "_law_take", Str.ofString "_law_take", defArgs (topS 41), defBody (topS 41), defScope (topS 41), [], []⟩
def e41 : PV.Ent := ⟨"", "_law_take", d41, G.fddlaw_take, ["_law_box_here", "_law_many", "_law_mixed", "_law_digit"], [(2, [])]⟩
def d42 : He.DefD := ⟨(Str.ofString "_law_sign", none), Str.ofString "_law_sign", Str.ofString "_law_sign", defArgs (topS 42), defBody (topS 42), defScope (topS 42), [], []⟩
def e42 : PV.Ent := ⟨"", "_law_sign", d42, G.fddlaw_sign, ["_law_box_here", "_law_neutral", "_law_letters", "_law_way"], [(1, [])]⟩
def d43 : He.DefD := ⟨(Str.ofString "_law_nodes", none), Str.ofString "_law_nodes", Str.ofString "_law_nodes", defArgs (topS 43), defBody (topS 43), defScope (topS 43), [], []⟩
def e43 : PV.Ent := ⟨"", "_law_nodes", d43, G.fddlaw_nodes, ["_law_box_here", "_law_left", "_law_depth", "_law_found", "_law_k", "_law_way", "_law_direction"], [(3, [])]⟩
def d44 : He.DefD := ⟨(Str.ofString "_law_drawn", none), Str.ofString "_law_drawn", Str.ofString "_law_drawn", defArgs (topS 44), defBody (topS 44), defScope (topS 44), [], []⟩
def e44 : PV.Ent := ⟨"", "_law_drawn", d44, G.fddlaw_drawn, ["_law_box_here", "_law_turn", "_law_left", "_law_nodes_here"], [(1, [])]⟩
def d45 : He.DefD := ⟨(Str.ofString "_law_text", none), Str.ofString "_law_text", Str.ofString "_law_text", defArgs (topS 45), defBody (topS 45), defScope (topS 45), [], []⟩
def e45 : PV.Ent := ⟨"", "_law_text", d45, G.fddlaw_text, ["_law_nodes_here", "_law_found", "_law_node"], [(1, [])]⟩
def d46 : He.DefD := ⟨(Str.ofString "_law_fill", none), Str.ofString "_law_fill", Str.ofString "_law_fill", defArgs (topS 46), defBody (topS 46), defScope (topS 46), [], []⟩
def e46 : PV.Ent := ⟨"", "_law_fill", d46, G.fddlaw_fill, ["_law_model_here", "_law_block", "_law_nodes_here", "_law_node", "_law_inner"], [(3, [])]⟩
def d47 : He.DefD := ⟨(Str.ofString "_law_model", none), Str.ofString "_law_model", Str.ofString "_law_model", defArgs (topS 47), defBody (topS 47), defScope (topS 47), [], []⟩
def e47 : PV.Ent := ⟨"", "_law_model", d47, G.fddlaw_model, ["_law_ground", "_law_nodes_here", "_law_model_here"], [(2, [])]⟩
def d48 : He.DefD := ⟨(Str.ofString "_law_kind", none), Str.ofString "_law_kind", Str.ofString "_law_kind", defArgs (topS 48), defBody (topS 48), defScope (topS 48), [], []⟩
def e48 : PV.Ent := ⟨"", "_law_kind", d48, G.fddlaw_kind, ["_law_sign_here"], [(1, [])]⟩
def d49 : He.DefD := ⟨(Str.ofString "_law_items", none), Str.ofString "_law_items", Str.ofString "_law_items", defArgs (topS 49), defBody (topS 49), defScope (topS 49), [], []⟩
def e49 : PV.Ent := ⟨"", "_law_items", d49, G.fddlaw_items, ["_law_model_here", "_law_block", "_law_contents", "_law_kinds", "_law_found", "_law_joined", "_law_k", "_law_element", "_law_inner", "_law_part", "_law_one"], [(2, [])]⟩
def d50 : He.DefD := ⟨(Str.ofString "_law_figures", none), Str.ofString "_law_figures", Str.ofString "_law_figures", defArgs (topS 50), defBody (topS 50), defScope (topS 50), [], []⟩
def e50 : PV.Ent := ⟨"", "_law_figures", d50, G.fddlaw_figures, ["_law_box_here", "_law_found", "_law_k", "_law_way"], [(1, [])]⟩
def d51 : He.DefD := ⟨(Str.ofString "_law_right", none), Str.ofString "_law_right", Str.ofString "_law_right", defArgs (topS 51), defBody (topS 51), defScope (topS 51), [], []⟩
def e51 : PV.Ent := ⟨"", "_law_right", d51, G.fddlaw_right, ["_law_ground", "_law_nodes_here", "_law_block", "_law_model_here", "_law_paragraph", "_law_due", "_law_turn", "_law_found"], [(2, [])]⟩
def d52 : He.DefD := ⟨(Str.ofString "law", none), Str.ofString "law", Str.ofString "law", defArgs (topS 52), defBody (topS 52), defScope (topS 52), [], []⟩
def e52 : PV.Ent := ⟨"", "law", d52, G.f_law, ["_law_script", "_law_k", "_law_box_here", "_law_ground", "_law_nodes_here"], [(1, [])]⟩
def es : List PV.Ent := [e0, e1, e2, e3, e4, e5, e6, e7, e8, e9, e10, e11, e12, e13, e14, e15, e16, e17, e18, e19, e20, e21, e22, e23, e24, e25, e26, e27, e28, e29, e30, e31, e32, e33, e34, e35, e36, e37, e38, e39, e40, e41, e42, e43, e44, e45, e46, e47, e48, e49, e50, e51, e52]
def x0 : PV.XEnt := ⟨"InvalidCharacter", "value", "BidiError", ⟨(Str.ofString "InvalidCharacter", some "__init__"), "__init__", Str.ofString "InvalidCharacter.__init__", defArgs (inS (topS 4) 0), defBody (inS (topS 4) 0), defScope (inS (topS 4) 0), [], []⟩, "self", "value"⟩
def x1 : PV.XEnt := ⟨"InvalidDirection", "value", "BidiError", ⟨(Str.ofString "InvalidDirection", some "__init__"), "__init__", Str.ofString "InvalidDirection.__init__", defArgs (inS (topS 5) 0), defBody (inS (topS 5) 0), defScope (inS (topS 5) 0), [], []⟩, "self", "value"⟩
def x2 : PV.XEnt := ⟨"NotText", "value", "BidiError", ⟨(Str.ofString "NotText", some "__init__"), "__init__", Str.ofString "NotText.__init__", defArgs (inS (topS 6) 0), defBody (inS (topS 6) 0), defScope (inS (topS 6) 0), [], []⟩, "self", "value"⟩
def x3 : PV.XEnt := ⟨"InvalidText", "position", "BidiError", ⟨(Str.ofString "InvalidText", some "__init__"), "__init__", Str.ofString "InvalidText.__init__", defArgs (inS (topS 7) 0), defBody (inS (topS 7) 0), defScope (inS (topS 7) 0), [], []⟩, "self", "position"⟩
def x4 : PV.XEnt := ⟨"InvalidParagraph", "value", "BidiError", ⟨(Str.ofString "InvalidParagraph", some "__init__"), "__init__", Str.ofString "InvalidParagraph.__init__", defArgs (inS (topS 8) 0), defBody (inS (topS 8) 0), defScope (inS (topS 8) 0), [], []⟩, "self", "value"⟩
def x5 : PV.XEnt := ⟨"TooMany", "total", "BidiError", ⟨(Str.ofString "TooMany", some "__init__"), "__init__", Str.ofString "TooMany.__init__", defArgs (inS (topS 9) 0), defBody (inS (topS 9) 0), defScope (inS (topS 9) 0), [], []⟩, "self", "total"⟩
def x6 : PV.XEnt := ⟨"TooDeep", "total", "BidiError", ⟨(Str.ofString "TooDeep", some "__init__"), "__init__", Str.ofString "TooDeep.__init__", defArgs (inS (topS 10) 0), defBody (inS (topS 10) 0), defScope (inS (topS 10) 0), [], []⟩, "self", "total"⟩
def xs : List PV.XEnt := [x0, x1, x2, x3, x4, x5, x6]
theorem xst : xs.all (PV.XEnt.ok G.flds) = true := by decide +kernel
def blts : List String := ["bool", "enumerate", "int", "isinstance", "len", "list", "max", "min", "ord", "range", "repr", "str", "tuple"]
theorem stat : es.all (PV.Ent.ok (PV.infOf es blts xs G.excs)) = true := by decide +kernel
theorem bnd : ∀ e ∈ es, PV.BindOk e := by
  unfold es
  simp only [List.forall_mem_cons]
  exact ⟨PV.bindOk_plain (by decide +kernel), PV.bindOk_plain (by decide +kernel), PV.bindOk_plain (by decide +kernel), PV.bindOk_plain (by decide +kernel), PV.bindOk_plain (by decide +kernel), PV.bindOk_plain (by decide +kernel), PV.bindOk_plain (by decide +kernel), PV.bindOk_plain (by decide +kernel), PV.bindOk_plain (by decide +kernel), PV.bindOk_kwo (by decide +kernel), PV.bindOk_plain (by decide +kernel), PV.bindOk_plain (by decide +kernel), PV.bindOk_plain (by decide +kernel), PV.bindOk_plain (by decide +kernel), PV.bindOk_plain (by decide +kernel), PV.bindOk_plain (by decide +kernel), PV.bindOk_plain (by decide +kernel), PV.bindOk_plain (by decide +kernel), PV.bindOk_plain (by decide +kernel), PV.bindOk_plain (by decide +kernel), PV.bindOk_plain (by decide +kernel), PV.bindOk_plain (by decide +kernel), PV.bindOk_plain (by decide +kernel), PV.bindOk_plain (by decide +kernel), PV.bindOk_plain (by decide +kernel), PV.bindOk_plain (by decide +kernel), PV.bindOk_plain (by decide +kernel), PV.bindOk_plain (by decide +kernel), PV.bindOk_plain (by decide +kernel), PV.bindOk_plain (by decide +kernel), PV.bindOk_plain (by decide +kernel), PV.bindOk_plain (by decide +kernel), PV.bindOk_plain (by decide +kernel), PV.bindOk_plain (by decide +kernel), PV.bindOk_plain (by decide +kernel), PV.bindOk_plain (by decide +kernel), PV.bindOk_plain (by decide +kernel), PV.bindOk_plain (by decide +kernel), PV.bindOk_plain (by decide +kernel), PV.bindOk_plain (by decide +kernel), PV.bindOk_plain (by decide +kernel), PV.bindOk_plain (by decide +kernel), PV.bindOk_plain (by decide +kernel), PV.bindOk_plain (by decide +kernel), PV.bindOk_plain (by decide +kernel), PV.bindOk_plain (by decide +kernel), PV.bindOk_plain (by decide +kernel), PV.bindOk_plain (by decide +kernel), PV.bindOk_plain (by decide +kernel), PV.bindOk_plain (by decide +kernel), PV.bindOk_plain (by decide +kernel), PV.bindOk_plain (by decide +kernel), PV.bindOk_plain (by decide +kernel), fun _ h => by cases h⟩
def ex (K : PySem.W.Frag) : Bool := (G.globs.all (PV.gB K) && (PV.isiB G.cls K && PV.sysB K)) && (xs.all (PV.xeB K) && PV.catB G.excs G.flds K)
theorem hex (K : PySem.W.Frag) (h : ex K = true) : (G.globs.all (PV.gB K) = true ∧ PV.isiB G.cls K = true ∧ PV.sysB K = true) ∧ xs.all (PV.xeB K) = true ∧ PV.catB G.excs G.flds K = true := ⟨⟨(Bool.and_eq_true_iff.mp (Bool.and_eq_true_iff.mp h).1).1, Bool.and_eq_true_iff.mp (Bool.and_eq_true_iff.mp (Bool.and_eq_true_iff.mp h).1).2⟩, Bool.and_eq_true_iff.mp (Bool.and_eq_true_iff.mp h).2⟩
abbrev fa : List He.Fa := PV.factsOf es blts G.noats
abbrev R : PySem.W.OpenRow := PySem.W.OpenLaw.row PySem.Challenge.rw_bidiplan_k12_items_of_blocks
abbrev hk : PySem.W.Hook := PV.hookP 5 fa (es.map (·.d) ++ xs.map (·.d)) (PV.tabsOf G.globs) ex
def ob (s : PySem.W.SharedT) : He.AlX := PV.obsP 5 fa (es.map (·.d) ++ xs.map (·.d)) (PV.tabsOf G.globs) ex (HandSHeadRun.getT s)
theorem ob_eq (s : PySem.W.SharedT) : ob s = hk.obs s.abs := PV.obsP_eq (HandSHeadRun.getT_eq s)
def loose0 : List PySem.Str := ["_wall", "__name__", "BidiError", "Missing", "InvalidCharacter", "InvalidDirection", "NotText", "InvalidText", "InvalidParagraph", "TooMany", "TooDeep", "UnknownBlock", "UnknownCharacter", "MAX_CHARACTERS", "MAX_CONTROLS", "MAX_DEPTH", "DIRECTIONS", "SIGNS", "SMALL", "CAPITAL"]
def loose1 : List PySem.Str := ["DIGITS", "SEPARATORS", "is_integer", "is_character", "is_direction", "need_character", "need_direction", "character_kind", "tokens", "BlockRecord", "Paragraph", "need_paragraph", "content_kind", "number_stop", "items", "_law_cell", "_law_box", "_law_take", "_law_sign", "_law_nodes"]
def loose2 : List PySem.Str := ["_law_drawn", "_law_text", "_law_fill", "_law_model", "_law_kind", "_law_items", "_law_figures", "_law_right"]
def loose : List PySem.Str := List.flatten [loose0, loose1, loose2]
theorem run0 (w : World) : HandSHeadRun.RunEq R (PySem.W.view R.prog [52]) hk ob 20000 loose (w.withFollow "special-get-raises" false) := fun os => by kernel_rfl
theorem run1 (w : World) : HandSHeadRun.RunEq R (PySem.W.view R.prog [52]) hk ob 20000 loose (w.withFollow "special-get-raises" true) := fun os => by kernel_rfl
theorem run (w : World) : HandSHeadRun.RunEq R (PySem.W.view R.prog [52]) hk ob 20000 loose w :=
  PySem.W.byRow2 "special-get-raises" (P := fun w => HandSHeadRun.RunEq R (PySem.W.view R.prog [52]) hk ob 20000 loose w) run0 run1 w
end Hd
set_option Elab.async false
set_option linter.all false
set_option maxRecDepth 10000
set_option maxHeartbeats 4000000
/-! PvW: what the evaluator finds, from behind: a calculus of ends. -/
namespace PV
/-- what is wished behind an expression (Q: a value, E: something raised) -/
def Res.W {α : Type} (r : Res α) (Q : α → Store → Prop) (E : Exn → Store → Prop) : Prop := match r with
  | .ok a s => Q a s
  | .exn x s => E x s
  | .stuck => False
structure Post where
  nx : Env → Store → Prop
  rt : D → Store → Prop
  bk : Env → Store → Prop := fun _ _ => False
  ct : Env → Store → Prop := fun _ _ => False
  ex : Exn → Env → Store → Prop := fun _ _ _ => False
def Out.W (o : Out) (P : Post) : Prop := match o with
  | .nx σ s => P.nx σ s
  | .rt d s => P.rt d s
  | .bk σ s => P.bk σ s
  | .ct σ s => P.ct σ s
  | .ex x σ s => P.ex x σ s
  | .stuck => False
abbrev noE : Exn → Store → Prop := fun _ _ => False
section
variable {α β : Type} {Q : α → Store → Prop} {Q' : β → Store → Prop} {E : Exn → Store → Prop} {P : Post}
@[simp] theorem W_ok {a : α} {s : Store} : (Res.ok a s).W Q E = Q a s := rfl
@[simp] theorem W_exn {x : Exn} {s : Store} : (Res.exn x s : Res α).W Q E = E x s := rfl
@[simp] theorem W_stuck : (Res.stuck : Res α).W Q E = False := rfl
@[simp] theorem W_bind {r : Res α} {f : α → Store → Res β} : (r.bind f).W Q' E = r.W (fun a s => (f a s).W Q' E) E := by cases r <;> rfl
@[simp] theorem W_noex {r : Res α} : r.noex.W Q E = r.W Q noE := by cases r <;> rfl
@[simp] theorem W_nx {σ : Env} {s : Store} : (Out.nx σ s).W P = P.nx σ s := rfl
@[simp] theorem W_rt {d : D} {s : Store} : (Out.rt d s).W P = P.rt d s := rfl
@[simp] theorem W_bk {σ : Env} {s : Store} : (Out.bk σ s).W P = P.bk σ s := rfl
@[simp] theorem W_ct {σ : Env} {s : Store} : (Out.ct σ s).W P = P.ct σ s := rfl
@[simp] theorem W_ex {x : Exn} {σ : Env} {s : Store} : (Out.ex x σ s).W P = P.ex x σ s := rfl
@[simp] theorem W_ostuck : (Out.stuck).W P = False := rfl
@[simp] theorem W_out {r : Res α} {σ : Env} {f : α → Store → Out} : (r.out σ f).W P = r.W (fun a s => (f a s).W P) (fun x s => P.ex x σ s) := by cases r <;> rfl
@[simp] theorem W_seq {o : Out} {f : Env → Store → Out} : (o.seq f).W P = o.W { P with nx := fun σ s => (f σ s).W P } := by cases o <;> rfl
theorem Res.W.mono {r : Res α} {Q2 : α → Store → Prop} {E2 : Exn → Store → Prop} (h : r.W Q E) (hq : ∀ a s, Q a s → Q2 a s) (he : ∀ x s, E x s → E2 x s) : r.W Q2 E2 := by
  cases r with
  | ok a s => exact hq _ _ h
  | exn x s => exact he _ _ h
  | stuck => exact h
theorem Res.W.ok {r : Res α} (h : r.W Q noE) : ∃ a s, r = .ok a s ∧ Q a s := by
  cases r with
  | ok a s => exact ⟨a, s, rfl, h⟩
  | exn x s => exact h.elim
  | stuck => exact h.elim
end
/-- a walk over items -/
theorem forL_W {src : List Nat} {f : D → Env → Store → Out} {P : Post} (I : List D → Env → Store → Prop) : ∀ {ds : List D} {σ : Env} {st : Store}, I ds σ st →
    (∀ d r σ st, I (d :: r) σ st → (f d σ st).W { nx := fun σ' st' => src.all (fun n => st'[n]? == st[n]?) = true ∧ I r σ' st', rt := P.rt, bk := P.nx, ct := fun σ' st' => src.all (fun n => st'[n]? == st[n]?) = true ∧ I r σ' st', ex := P.ex }) →
    (∀ σ st, I [] σ st → P.nx σ st) → (forL src f ds σ st).W P
  | [], σ, st, h, _, e => e σ st h
  | d :: r, σ, st, h, t, e => by
    have q := t d r σ st h
    unfold forL
    cases c : f d σ st with
    | nx σ' st' =>
      rw [c] at q
      obtain ⟨q1, q2⟩ := q
      dsimp only
      rw [if_pos q1]
      exact forL_W I q2 t e
    | ct σ' st' =>
      rw [c] at q
      obtain ⟨q1, q2⟩ := q
      dsimp only
      rw [if_pos q1]
      exact forL_W I q2 t e
    | rt d' st' => rw [c] at q; exact q
    | bk σ' st' => rw [c] at q; exact q
    | ex x σ' st' => rw [c] at q; exact q
    | stuck => rw [c] at q; exact q
/-- while, with a measure -/
theorem while_W {t : Env → Store → Res Bool} {f : Env → Store → Out} {P : Post} (I : Nat → Env → Store → Prop)
    (h : ∀ m σ st, I m σ st → (t σ st).W (fun b st => if b = true then (f σ st).W { nx := fun σ' st' => ∃ m', m' < m ∧ I m' σ' st', rt := P.rt, bk := P.nx, ct := fun σ' st' => ∃ m', m' < m ∧ I m' σ' st', ex := P.ex } else P.nx σ st) (fun x s => P.ex x σ s)) :
    ∀ {n m : Nat} {σ : Env} {st : Store}, I m σ st → m < n → (whileF t f n σ st).W P
  | 0, m, σ, st, _, hn => absurd hn (Nat.not_lt_zero _)
  | n + 1, m, σ, st, hI, hn => by
    have q := h m σ st hI
    unfold whileF
    rw [W_out]
    refine q.mono (fun b st1 q1 => ?_) fun x s z => z
    cases b with
    | false => exact q1
    | true =>
      simp only [if_true] at q1 ⊢
      cases c : f σ st1 with
      | nx σ' st' =>
        rw [c] at q1
        obtain ⟨m', h1, h2⟩ := q1
        exact while_W I h h2 (by omega)
      | ct σ' st' =>
        rw [c] at q1
        obtain ⟨m', h1, h2⟩ := q1
        exact while_W I h h2 (by omega)
      | rt d' st' => rw [c] at q1; exact q1
      | bk σ' st' => rw [c] at q1; exact q1
      | ex x σ' st' => rw [c] at q1; exact q1
      | stuck => rw [c] at q1; exact q1
/-- a comprehension's walk -/
theorem compL_W {src : List Nat} {f : D → Store → List D → Res (List D)} {Q : List D → Store → Prop} {E : Exn → Store → Prop} (I : List D → List D → Store → Prop) : ∀ {ds acc : List D} {st : Store}, I ds acc st →
    (∀ d r acc st, I (d :: r) acc st → (f d st acc).W (fun acc' st' => src.all (fun n => st'[n]? == st[n]?) = true ∧ I r acc' st') noE) → (∀ acc st, I [] acc st → Q acc st) → (compL src f ds acc st).W Q E
  | [], acc, st, h, _, e => e acc st h
  | d :: r, acc, st, h, t, e => by
    have q := t d r acc st h
    unfold compL
    cases c : f d st acc with
    | ok acc' st' =>
      rw [c] at q
      obtain ⟨q1, q2⟩ := q
      simp only [Res.noex_ok, Res.bind_ok]
      rw [if_pos q1]
      exact compL_W I q2 t e
    | exn x s => rw [c] at q; exact q.elim
    | stuck => rw [c] at q; exact q.elim
/-! ### a def's end -/
theorem gc_new {frz : Bool} {st₀ st : Store} {d : D} (h : (refsD st₀.length (if frz then fz st₀.length st 4 d else d) && oldOK st₀.length st₀ st) = true) : gc frz st₀ st d = (if frz then fz st₀.length st 4 d else d, st.take st₀.length) := by
  unfold gc
  dsimp only
  rw [if_pos h]
theorem oldOK_refl {k : Nat} : ∀ {st l : Store}, oldOK k st (st ++ l) = true
  | [], _ => rfl
  | o :: r, l => by
    simp only [List.cons_append, oldOK, decide_true, Bool.true_or, Bool.true_and]
    exact oldOK_refl
theorem oldOK_set {k : Nat} {v : SO} (hv : refsO k v = true) : ∀ {st l : Store} {b : Nat}, oldOK k st (st.set b v ++ l) = true
  | [], _, _ => rfl
  | o :: r, l, 0 => by
    simp only [List.set_cons_zero, List.cons_append, oldOK, hv, Bool.or_true, Bool.true_and]
    exact oldOK_refl
  | o :: r, l, b + 1 => by
    simp only [List.set_cons_succ, List.cons_append, oldOK, decide_true, Bool.true_or, Bool.true_and]
    exact oldOK_set hv
/-- what a body's end gives out -/
def fin (frz : Bool) (st₀ : Store) (Q : D → Store → Prop) (E : Exn → Store → Prop) : Post where
  nx := fun _ st => Q (gc frz st₀ st .non).1 (gc frz st₀ st .non).2
  rt := fun d st => Q (gc frz st₀ st d).1 (gc frz st₀ st d).2
  ex := fun x _ st => E ⟨x.cls, x.fld, (gc frz st₀ st (if x.fld = "" then .non else x.val)).1⟩ (gc frz st₀ st (if x.fld = "" then .non else x.val)).2
theorem body_W {Φ : Prog} {Wf : Nat} {fn : Fn} {vs : List D} {st : Store} {Q : D → Store → Prop} {E : Exn → Store → Prop} (h : (execs Φ Wf none fn.body (startE fn.slots vs) st).W (fin fn.frz st Q E)) : (bodyR Φ Wf fn vs st).W Q E := by
  unfold bodyR finish
  cases c : execs Φ Wf none fn.body (startE fn.slots vs) st with
  | nx σ s => rw [c] at h; exact h
  | rt d s => rw [c] at h; exact h
  | ex x σ s => rw [c] at h; exact h
  | bk σ s => rw [c] at h; exact h.elim
  | ct σ s => rw [c] at h; exact h.elim
  | stuck => rw [c] at h; exact h.elim
end PV
set_option Elab.async false
set_option linter.all false
set_option maxRecDepth 10000
set_option maxHeartbeats 4000000
/-! PvGc: what a def's end leaves. -/
namespace PV
mutual
theorem fzD_id {g : Nat → D} : ∀ {d : D}, refsD 0 d = true → fzD g d = d
  | .non, _ => rfl
  | .bl _, _ => rfl
  | .int _, _ => rfl
  | .str _, _ => rfl
  | .scr _, _ => rfl
  | .frd _, _ => rfl
  | .ref n, h => by simp [refsD] at h
  | .tup xs, h => by simp only [refsD] at h; simp only [fzD, fzDs_id h]
  | .frz xs, h => by simp only [refsD] at h; simp only [fzD, fzDs_id h]
theorem fzDs_id {g : Nat → D} : ∀ {ds : List D}, refsL 0 ds = true → fzDs g ds = ds
  | [], _ => rfl
  | d :: ds, h => by
    simp only [refsL, Bool.and_eq_true] at h
    simp only [fzDs, fzD_id h.1, fzDs_id h.2]
end
mutual
theorem refsD_mono {j k : Nat} (hjk : j ≤ k) : ∀ {d : D}, refsD j d = true → refsD k d = true
  | .non, _ => rfl
  | .bl _, _ => rfl
  | .int _, _ => rfl
  | .str _, _ => rfl
  | .scr _, _ => rfl
  | .frd _, h => by simp only [refsD] at h ⊢; exact refsK_mono hjk h
  | .ref n, h => by simp only [refsD, decide_eq_true_eq] at h ⊢; omega
  | .tup xs, h => by simp only [refsD] at h ⊢; exact refsL_mono hjk h
  | .frz xs, h => by simp only [refsD] at h ⊢; exact refsL_mono hjk h
theorem refsL_mono {j k : Nat} (hjk : j ≤ k) : ∀ {ds : List D}, refsL j ds = true → refsL k ds = true
  | [], _ => rfl
  | d :: ds, h => by
    simp only [refsL, Bool.and_eq_true] at h ⊢
    exact ⟨refsD_mono hjk h.1, refsL_mono hjk h.2⟩
theorem refsK_mono {j k : Nat} (hjk : j ≤ k) : ∀ {ds : List (D × D)}, refsK j ds = true → refsK k ds = true
  | [], _ => rfl
  | (x, d) :: ds, h => by
    simp only [refsK, Bool.and_eq_true] at h ⊢
    exact ⟨refsD_mono hjk h.1, refsK_mono hjk h.2⟩
end
mutual
/-- data without refs -/
theorem refs_pure : ∀ {d : D}, pureD d = true → refsD 0 d = true
  | .non, _ => rfl
  | .bl _, _ => rfl
  | .int _, _ => rfl
  | .str _, _ => rfl
  | .scr _, h => rfl
  | .frd _, h => by simp [pureD] at h
  | .ref n, h => by simp [pureD] at h
  | .tup xs, h => by simp only [pureD] at h; simp only [refsD]; exact refs_pures h
  | .frz xs, h => by simp only [pureD] at h; simp only [refsD]; exact refs_pures h
theorem refs_pures : ∀ {ds : List D}, puresD ds = true → refsL 0 ds = true
  | [], _ => rfl
  | d :: ds, h => by
    simp only [puresD, Bool.and_eq_true] at h
    simp only [refsL, Bool.and_eq_true]
    exact ⟨refs_pure h.1, refs_pures h.2⟩
end
theorem refsO_mono {j k : Nat} (hjk : j ≤ k) {o : SO} (h : refsO j o = true) : refsO k o = true := by
  cases o with
  | lst xs => exact refsL_mono hjk h
  | dic kvs => exact refsK_mono hjk h
  | ins c fs =>
    simp only [refsO, List.all_eq_true] at h ⊢
    exact fun p hp => refsD_mono hjk (h p hp)
theorem fz_id {k : Nat} {st : Store} : ∀ {f : Nat} {d : D}, refsD 0 d = true → fz k st f d = d
  | 0, _, _ => rfl
  | f + 1, d, h => fzD_id h
/-- the store before, but for what may have changed -/
def Old (k : Nat) (st₀ st : Store) : Prop := st₀.length ≤ st.length ∧ oldOK k st₀ st = true
/-- a value without refs is given out -/
theorem gc_val {frz : Bool} {st₀ st : Store} {d : D} (h : refsD 0 d = true) (ho : oldOK st₀.length st₀ st = true) : gc frz st₀ st d = (d, st.take st₀.length) := by
  have e : (if frz then fz st₀.length st 4 d else d) = d := by
    cases frz with
    | false => rfl
    | true => exact fz_id h
  rw [gc_new (by rw [e, refsD_mono (Nat.zero_le _) h, ho]; rfl), e]
/-- an own list is given out as data -/
theorem gc_lst {st₀ st : Store} {n : Nat} {xs : List D} (hn : st₀.length ≤ n) (hx : st[n]? = some (.lst xs)) (h : refsL 0 xs = true) (ho : oldOK st₀.length st₀ st = true) : gc true st₀ st (.ref n) = (.frz xs, st.take st₀.length) := by
  have e : fz st₀.length st 4 (.ref n) = .frz xs := by
    show fzD _ (.ref n) = _
    simp only [fzD, hn, if_true, hx, fzDs_id h]
  rw [gc_new (by simp only [if_true, e, ho, Bool.and_true]; simp only [refsD]; exact refsL_mono (Nat.zero_le _) h)]
  simp only [if_true, e]
/-- an own thing is given out itself -/
theorem gc_own {st₀ st : Store} {n : Nat} (hn : st₀.length ≤ n) : gc false st₀ st (.ref n) = (.ref n, st) := by
  unfold gc
  dsimp only
  rw [if_neg]
  simp only [Bool.false_eq_true, if_false, refsD, Bool.and_eq_true, decide_eq_true_eq]
  omega
theorem take_app {α : Type} {a l : List α} : (a ++ l).take a.length = a := by simp
theorem take_set {α : Type} {a l : List α} {b : Nat} {v : α} : (a.set b v ++ l).take a.length = a.set b v := by
  have : a.length = (a.set b v).length := by simp
  rw [this, take_app]
end PV
set_option Elab.async false
set_option linter.all false
set_option maxRecDepth 10000
set_option maxHeartbeats 4000000
/-! PvStep: the evaluator, a step at a time (rules for simp). -/
namespace PV
theorem W_congr {α : Type} {r r' : Res α} {Q : α → Store → Prop} {E : Exn → Store → Prop} (h : r = r') : r.W Q E = r'.W Q E := by rw [h]
theorem oW_congr {o o' : Out} {P : Post} (h : o = o') : o.W P = o'.W P := by rw [h]
def ofO {α : Type} (o : Option α) (st : Store) : Res α := match o with
  | some a => .ok a st
  | none => .stuck
@[simp] theorem ofO_some {α : Type} {a : α} {st : Store} : ofO (some a) st = .ok a st := rfl
@[simp] theorem ofO_none {α : Type} {st : Store} : ofO (none : Option α) st = .stuck := rfl
theorem W_ofO {α : Type} {o : Option α} {a : α} {st : Store} {Q : α → Store → Prop} {E : Exn → Store → Prop} (h : o = some a) (q : Q a st) : (ofO o st).W Q E := by rw [h]; exact q
/-- an item by an index of any sign -/
def getI {α : Type} (xs : List α) (i : Int) : Option α := (ixN xs.length i).bind (xs[·]?)
section
variable {Φ : Prog} {Wf : Nat} {cur : Option Exn} {σ : Env} {st : Store} {Q : D → Store → Prop} {E : Exn → Store → Prop} {P : Post} {a b c d : PV.E} {t : B}
@[simp] theorem w_c {d : D} : (evalE Φ cur σ (.c d) st).W Q E = Q d st := by simp only [evalE, W_ok]
@[simp] theorem w_v {i : Nat} : (evalE Φ cur σ (.v i) st).W Q E = (ofO (σ[i]?.bind id) st).W Q E := by
  simp only [evalE]
  cases h : σ[i]? with
  | none => rfl
  | some o => cases o <;> rfl
@[simp] theorem w_g {x : String} : (evalE Φ cur σ (.g x) st).W Q E = (ofO (Φ.glob x) st).W Q E := by
  simp only [evalE]
  cases h : Φ.glob x <;> rfl
@[simp] theorem w_bin {m : Bool} {o : Bop} : (evalE Φ cur σ (.bin m o a b) st).W Q E = (evalE Φ cur σ a st).W (fun x st => (evalE Φ cur σ b st).W (fun y st => (binop m o x y st).W Q E) E) E := by simp only [evalE, W_bind]
@[simp] theorem w_neg {i : Int} : (evalE Φ cur σ (.neg (.c (.int i))) st).W Q E = Q (.int (-i)) st := by simp only [evalE, Res.bind_ok, W_ok]
def negR (x : D) (st : Store) : Res D := match x with
  | .int i => .ok (.int (-i)) st
  | _ => .stuck
@[simp] theorem negR_int {i : Int} {st : Store} : negR (.int i) st = .ok (.int (-i)) st := rfl
theorem w_neg' : (evalE Φ cur σ (.neg a) st).W Q E = (evalE Φ cur σ a st).W (fun x st => (negR x st).W Q E) E := by simp only [evalE, W_bind]; rfl
@[simp] theorem w_cmp {o : Cop} : (evalE Φ cur σ (.cmp o a b) st).W Q E = (evalE Φ cur σ a st).W (fun x st => (evalE Φ cur σ b st).W (fun y st => (cmpR o x y st).W Q E) E) E := by simp only [evalE, W_bind]
def selB {α : Type} (x : D) (f g : Res α) : Res α := match x with
  | .bl true => f
  | .bl false => g
  | _ => .stuck
@[simp] theorem selB_bl {α : Type} {b : Bool} {f g : Res α} : selB (.bl b) f g = if b = true then f else g := by cases b <;> rfl
@[simp] theorem w_cmp2 {o o' : Cop} : (evalE Φ cur σ (.cmp2 o o' a b c) st).W Q E = (evalE Φ cur σ a st).W (fun x st => (evalE Φ cur σ b st).W (fun y st => (cmpR o x y st).W (fun r st =>
    (selB r ((evalE Φ cur σ c st).bind fun z st => cmpR o' y z st) (.ok (.bl false) st)).W Q E) E) E) E := by
  simp only [evalE, W_bind]
  first | rfl | skip
  all_goals (
    congr 1; funext x st; congr 1; funext y st; congr 1; funext r st
    cases r with
    | bl b => cases b <;> simp [selB]
    | _ => simp [selB])
@[simp] theorem w_and : (evalE Φ cur σ (.and a b) st).W Q E = (evalE Φ cur σ a st).W (fun x st => (selB x (evalE Φ cur σ b st) (.ok (.bl false) st)).W Q E) E := by
  simp only [evalE, W_bind]
  first | rfl | skip
  all_goals (
    congr 1; funext x st
    cases x with
    | bl b => cases b <;> simp [selB]
    | _ => simp [selB])
@[simp] theorem w_or : (evalE Φ cur σ (.or a b) st).W Q E = (evalE Φ cur σ a st).W (fun x st => (ofO (truth st x) st).W (fun b' st => (if b' = true then .ok x st else evalE Φ cur σ b st : Res D).W Q E) E) E := by
  simp only [evalE, W_bind]
  first | rfl | skip
  all_goals (
    congr 1; funext x st
    cases truth st x with
    | none => rfl
    | some b => cases b <;> rfl)
@[simp] theorem w_not : (evalE Φ cur σ (.not t) st).W Q E = (evalT Φ cur σ t st).W (fun b st => Q (.bl (!b)) st) E := by simp only [evalE, W_bind, W_ok]
@[simp] theorem w_ite : (evalE Φ cur σ (.ite t a b) st).W Q E = (evalT Φ cur σ t st).W (fun x st => (if x = true then evalE Φ cur σ a st else evalE Φ cur σ b st).W Q E) E := by simp only [evalE, W_bind]
@[simp] theorem w_call {f : String} {as : List PV.E} {ks : List (String × PV.E)} : (evalE Φ cur σ (.call f as ks) st).W Q E = (evalEs Φ cur σ as st).W (fun xs st => (evalKs Φ cur σ ks st).W (fun ks st => (Φ.call "" f xs ks st).W Q E) E) E := by simp only [evalE, W_bind]
def newR (n : Nat) (r : Res D) : Res D := r.bind fun d st' => match d with
  | .non => .ok (.ref n) st'
  | _ => .stuck
@[simp] theorem newR_non {n : Nat} {st : Store} : newR n (.ok .non st) = .ok (.ref n) st := rfl
@[simp] theorem w_new {cl : String} {as : List PV.E} {ks : List (String × PV.E)} : (evalE Φ cur σ (.new cl as ks) st).W Q E = (evalEs Φ cur σ as st).W (fun xs st => (evalKs Φ cur σ ks st).W (fun ks st => (newR st.length (Φ.call cl "__init__" (.ref st.length :: xs) ks (st ++ [.ins cl []]))).W Q E) E) E := by
  simp only [evalE, W_bind, newR]
  all_goals rfl
def methR (o : Option String) (f : String → Res D) : Res D := match o with
  | some c => f c
  | none => .stuck
@[simp] theorem methR_some {c : String} {f : String → Res D} : methR (some c) f = f c := rfl
@[simp] theorem w_meth {o : PV.E} {m : String} {as : List PV.E} {ks : List (String × PV.E)} : (evalE Φ cur σ (.meth o m as ks) st).W Q E = (evalE Φ cur σ o st).W (fun x st => (methR (isIns Φ.has st m x) fun c => (evalEs Φ cur σ as st).bind fun xs st => (evalKs Φ cur σ ks st).bind fun ks st => Φ.call c m (x :: xs) ks st).W Q E) E := by
  simp only [evalE, W_bind]
  first | rfl | skip
  all_goals (
    congr 1; funext x st
    cases isIns Φ.has st m x <;> rfl)
@[simp] theorem w_bm {mt : Bm} {o : PV.E} {as : List PV.E} : (evalE Φ cur σ (.bm mt o as) st).W Q E = (evalE Φ cur σ o st).W (fun x st => (if recvOk mt x st = true then (evalEs Φ cur σ as st).bind fun xs st => methB mt x xs st else .stuck).W Q E) E := by simp only [evalE, W_bind]
@[simp] theorem w_fn {m : Bool} {f : Bf} {as : List PV.E} : (evalE Φ cur σ (.fn m f as) st).W Q E = (evalEs Φ cur σ as st).W (fun xs st => (bltin Φ m f xs st).W Q E) E := by simp only [evalE, W_bind]
def isiR (cls : List String) (t : Ty) (ts : List Ty) (st : Store) : Res D := if (tyIn cls t && ts.all (tyIn cls)) = true then .ok (.bl (ts.any (isTy t))) st else .stuck
@[simp] theorem w_isi {ts : List Ty} : (evalE Φ cur σ (.isi a ts) st).W Q E = (evalE Φ cur σ a st).W (fun x st => (isiR Φ.cls (tyOf st x) ts st).W Q E) E := by simp only [evalE, W_bind, isiR]
@[simp] theorem w_fld {f : String} : (evalE Φ cur σ (.fld a f) st).W Q E = (evalE Φ cur σ a st).W (fun x st => (ofO (fieldOf Φ.noat st f x) st).W Q E) E := by
  simp only [evalE, W_bind]
  first | rfl | skip
  all_goals (
    congr 1; funext x st
    cases fieldOf Φ.noat st f x <;> rfl)
@[simp] theorem w_ix : (evalE Φ cur σ (.ix a b) st).W Q E = (evalE Φ cur σ a st).W (fun x st => (evalE Φ cur σ b st).W (fun y st => (index x y st).W Q E) E) E := by simp only [evalE, W_bind]
@[simp] theorem w_sl {m : Bool} {lo hi : Option PV.E} : (evalE Φ cur σ (.sl m a lo hi) st).W Q E = (evalE Φ cur σ a st).W (fun x st => (evalO Φ cur σ lo st).W (fun l st => (evalO Φ cur σ hi st).W (fun h st => (slice m x l h st).W Q E) E) E) E := by simp only [evalE, W_bind]
@[simp] theorem w_tup {as : List PV.E} : (evalE Φ cur σ (.tup as) st).W Q E = (evalEs Φ cur σ as st).W (fun xs st => Q (.tup xs) st) E := by simp only [evalE, W_bind, W_ok]
@[simp] theorem w_lst {m : Bool} {as : List PV.E} : (evalE Φ cur σ (.lst m as) st).W Q E = (evalEs Φ cur σ as st).W (fun xs st => (mk m xs st).W Q E) E := by simp only [evalE, W_bind]
def dctR (m : Bool) (xs : List (D × D)) (st : Store) : Res D := if (xs.all (fun p => isKey p.1) && decide (xs.length ≤ 15)) = true then (if m then .ok (.ref st.length) (st ++ [.dic (xs.foldl (fun acc p => dput acc p.1 p.2) [])]) else .ok (.frd (xs.foldl (fun acc p => dput acc p.1 p.2) [])) st) else .stuck
@[simp] theorem w_dct {m : Bool} {ps : List (PV.E × PV.E)} : (evalE Φ cur σ (.dct m ps) st).W Q E = (evalPs Φ cur σ ps st).W (fun xs st => (dctR m xs st).W Q E) E := by
  simp only [evalE, W_bind]; rfl
/-- a turn of a comprehension -/
abbrev turnC (Φ : Prog) (cur : Option Exn) (σ : Env) (elt : PV.E) (tg : T) (ifs : List B) (own : List Nat) (d : D) (st : Store) (acc : List D) : Res (List D) :=
  (assign Φ cur (wipe σ own) tg d st).bind fun σ' st => (evalTs Φ cur σ' ifs st).bind fun t st => if t then (evalE Φ cur σ' elt st).bind fun y st => .ok (acc ++ [y]) st else .ok acc st
def mkL (m : Bool) (ys : List D) (st : Store) : Res D := if ys.length ≤ LIM then mk m ys st else .stuck
@[simp] theorem w_comp {m : Bool} {elt : PV.E} {tg : T} {it : I} {ifs : List B} {own : List Nat} : (evalE Φ cur σ (.comp m elt tg it ifs own) st).W Q E = (evalI Φ cur σ it st).W (fun p st => (compL p.2 (turnC Φ cur σ elt tg ifs own) p.1 [] st).W (fun ys st => (mkL m ys st).W Q E) E) E := by
  simp only [evalE, W_bind]; rfl
@[simp] theorem w_es0 {Q : List D → Store → Prop} : (evalEs Φ cur σ [] st).W Q E = Q [] st := by simp only [evalEs, W_ok]
@[simp] theorem w_es {r : List PV.E} {Q : List D → Store → Prop} : (evalEs Φ cur σ (a :: r) st).W Q E = (evalE Φ cur σ a st).W (fun x st => (evalEs Φ cur σ r st).W (fun xs st => Q (x :: xs) st) E) E := by simp only [evalEs, W_bind, W_ok]
@[simp] theorem w_ps0 {Q : List (D × D) → Store → Prop} : (evalPs Φ cur σ [] st).W Q E = Q [] st := by simp only [evalPs, W_ok]
@[simp] theorem w_ps {r : List (PV.E × PV.E)} {Q : List (D × D) → Store → Prop} : (evalPs Φ cur σ ((a, b) :: r) st).W Q E = (evalE Φ cur σ a st).W (fun x st => (evalE Φ cur σ b st).W (fun y st => (evalPs Φ cur σ r st).W (fun xs st => Q ((x, y) :: xs) st) E) E) E := by simp only [evalPs, W_bind, W_ok]
@[simp] theorem w_ks0 {Q : List (String × D) → Store → Prop} : (evalKs Φ cur σ [] st).W Q E = Q [] st := by simp only [evalKs, W_ok]
@[simp] theorem w_ks {k : String} {r : List (String × PV.E)} {Q : List (String × D) → Store → Prop} : (evalKs Φ cur σ ((k, a) :: r) st).W Q E = (evalE Φ cur σ a st).W (fun x st => (evalKs Φ cur σ r st).W (fun xs st => Q ((k, x) :: xs) st) E) E := by simp only [evalKs, W_bind, W_ok]
@[simp] theorem w_o0 {Q : Option Int → Store → Prop} : (evalO Φ cur σ none st).W Q E = Q none st := by simp only [evalO, W_ok]
def intR (x : D) (st : Store) : Res (Option Int) := match x with
  | .int i => .ok (some i) st
  | _ => .stuck
@[simp] theorem intR_int {i : Int} {st : Store} : intR (.int i) st = .ok (some i) st := rfl
@[simp] theorem w_o {Q : Option Int → Store → Prop} : (evalO Φ cur σ (some a) st).W Q E = (evalE Φ cur σ a st).W (fun x st => (intR x st).W Q E) E := by simp only [evalO, W_bind]; rfl
@[simp] theorem w_tt {Q : Bool → Store → Prop} : (evalT Φ cur σ (.t a) st).W Q E = (evalE Φ cur σ a st).W (fun x st => (ofO (truth st x) st).W Q E) E := by
  simp only [evalT, W_bind]
  first | rfl | skip
  all_goals (
    congr 1; funext x st
    cases truth st x <;> rfl)
@[simp] theorem w_tnot {Q : Bool → Store → Prop} : (evalT Φ cur σ (.not t) st).W Q E = (evalT Φ cur σ t st).W (fun b st => Q (!b) st) E := by simp only [evalT, W_bind, W_ok]
@[simp] theorem w_tand {u : B} {Q : Bool → Store → Prop} : (evalT Φ cur σ (.and t u) st).W Q E = (evalT Φ cur σ t st).W (fun b st => (if b = true then evalT Φ cur σ u st else .ok false st).W Q E) E := by simp only [evalT, W_bind]
@[simp] theorem w_tor {u : B} {Q : Bool → Store → Prop} : (evalT Φ cur σ (.or t u) st).W Q E = (evalT Φ cur σ t st).W (fun b st => (if b = true then .ok true st else evalT Φ cur σ u st).W Q E) E := by simp only [evalT, W_bind]
@[simp] theorem w_ts0 {Q : Bool → Store → Prop} : (evalTs Φ cur σ [] st).W Q E = Q true st := by simp only [evalTs, W_ok]
@[simp] theorem w_ts {r : List B} {Q : Bool → Store → Prop} : (evalTs Φ cur σ (t :: r) st).W Q E = (evalT Φ cur σ t st).W (fun b st => (if b = true then evalTs Φ cur σ r st else .ok false st).W Q E) E := by simp only [evalTs, W_bind]
/-! walks -/
def iterR (x : D) (st : Store) : Res (List D × List Nat) := match x with
  | .scr ns => .ok (ns.map .int, []) st
  | .str s => .ok (s.map (fun c => .str [c]), []) st
  | x => match asQ st x with
    | some xs => .ok (xs, srcs x) st
    | none => .stuck
@[simp] theorem iterR_scr {ns : List Int} : iterR (.scr ns) st = .ok (ns.map .int, []) st := rfl
@[simp] theorem iterR_str {s : List Nat} : iterR (.str s) st = .ok (s.map (fun c => .str [c]), []) st := rfl
@[simp] theorem iterR_tup {xs : List D} : iterR (.tup xs) st = .ok (xs, []) st := rfl
@[simp] theorem iterR_frz {xs : List D} : iterR (.frz xs) st = .ok (xs, []) st := rfl
def iterO (o : Option SO) (n : Nat) (st : Store) : Res (List D × List Nat) := match o with
  | some (.lst xs) => .ok (xs, [n]) st
  | _ => .stuck
@[simp] theorem iterR_ref {n : Nat} : iterR (.ref n) st = iterO st[n]? n st := by
  unfold iterR iterO
  simp only [asQ, asL]
  cases st[n]? with
  | none => rfl
  | some o => cases o <;> rfl
@[simp] theorem iterO_lst {xs : List D} {n : Nat} : iterO (some (.lst xs)) n st = .ok (xs, [n]) st := rfl
@[simp] theorem w_ie {Q : List D × List Nat → Store → Prop} : (evalI Φ cur σ (.e a) st).W Q E = (evalE Φ cur σ a st).W (fun x st => (iterR x st).W Q E) E := by simp only [evalI, W_bind]; rfl
def rangeR (xs : List D) (st : Store) : Res (List D × List Nat) := match xs with
  | [.int j] => if inR j then .ok (rangeL 0 j, []) st else .stuck
  | [.int i, .int j] => if inR i && inR j then .ok (rangeL i j, []) st else .stuck
  | [.int i, .int j, .int c] => if inR i && inR j && c == -1 then .ok (rangeC i j, []) st else .stuck
  | _ => .stuck
@[simp] theorem rangeR_3 {i j : Int} (hi : inR i = true) (hj : inR j = true) : rangeR [.int i, .int j, .int (-1)] st = .ok (rangeC i j, []) st := if_pos (by rw [hi, hj]; rfl)
@[simp] theorem rangeR_1 {j : Int} (h : inR j = true) : rangeR [.int j] st = .ok (rangeL 0 j, []) st := if_pos h
@[simp] theorem rangeR_2 {i j : Int} (hi : inR i = true) (hj : inR j = true) : rangeR [.int i, .int j] st = .ok (rangeL i j, []) st := if_pos (by rw [hi, hj]; rfl)
@[simp] theorem w_irange {as : List PV.E} {Q : List D × List Nat → Store → Prop} : (evalI Φ cur σ (.range as) st).W Q E = (evalEs Φ cur σ as st).W (fun xs st => (rangeR xs st).W Q E) E := by simp only [evalI, W_bind]; rfl
def enumR (x : D) (st : Store) : Res (List D × List Nat) := match asL st x with
  | some xs => .ok (enumD xs, srcs x) st
  | none => .stuck
@[simp] theorem enumR_frz {xs : List D} : enumR (.frz xs) st = .ok (enumD xs, []) st := rfl
def enumO (o : Option SO) (n : Nat) (st : Store) : Res (List D × List Nat) := match o with
  | some (.lst xs) => .ok (enumD xs, [n]) st
  | _ => .stuck
@[simp] theorem enumR_ref {n : Nat} : enumR (.ref n) st = enumO st[n]? n st := by
  unfold enumR enumO
  simp only [asL]
  cases st[n]? with
  | none => rfl
  | some o => cases o <;> rfl
@[simp] theorem enumO_lst {xs : List D} {n : Nat} : enumO (some (.lst xs)) n st = .ok (enumD xs, [n]) st := rfl
@[simp] theorem w_ienum {Q : List D × List Nat → Store → Prop} : (evalI Φ cur σ (.enum a) st).W Q E = (evalE Φ cur σ a st).W (fun x st => (enumR x st).W Q E) E := by simp only [evalI, W_bind]; rfl
def zipR (x y : D) (st : Store) : Res (List D × List Nat) := match asL st x, asL st y with
  | some as, some bs => .ok (zipD as bs, srcs x ++ srcs y) st
  | _, _ => .stuck
theorem zipR_ok {x y : D} {xs ys : List D} (h : asL st x = some xs) (g : asL st y = some ys) : zipR x y st = .ok (zipD xs ys, srcs x ++ srcs y) st := by
  unfold zipR
  rw [h, g]
def zipR3 (x y z : D) (st : Store) : Res (List D × List Nat) := match asL st x, asL st y, asL st z with
  | some as, some bs, some cs => .ok (zipD3 as bs cs, srcs x ++ (srcs y ++ srcs z)) st
  | _, _, _ => .stuck
theorem zipR3_ok {x y z : D} {xs ys zs : List D} (h : asL st x = some xs) (g : asL st y = some ys) (f : asL st z = some zs) : zipR3 x y z st = .ok (zipD3 xs ys zs, srcs x ++ (srcs y ++ srcs z)) st := by
  unfold zipR3
  rw [h, g, f]
def zipRs (xs : List D) (st : Store) : Res (List D × List Nat) := match xs with
  | [x, y] => zipR x y st
  | [x, y, z] => zipR3 x y z st
  | _ => .stuck
@[simp] theorem zipRs_3 {x y z : D} : zipRs [x, y, z] st = zipR3 x y z st := rfl
@[simp] theorem zipRs_2 {x y : D} : zipRs [x, y] st = zipR x y st := rfl
@[simp] theorem w_izip {as : List PV.E} {Q : List D × List Nat → Store → Prop} : (evalI Φ cur σ (.zip as) st).W Q E = (evalEs Φ cur σ as st).W (fun xs st => (zipRs xs st).W Q E) E := by simp only [evalI, W_bind]; rfl
def revR (m : Bool) (x : D) (st : Store) : Res D := match asL st x with
  | some xs => mk m xs.reverse st
  | none => .stuck
@[simp] theorem revR_frz {m : Bool} {xs : List D} : revR m (.frz xs) st = mk m xs.reverse st := rfl
def revO (m : Bool) (o : Option SO) (st : Store) : Res D := match o with
  | some (.lst xs) => mk m xs.reverse st
  | _ => .stuck
@[simp] theorem revR_ref {m : Bool} {n : Nat} : revR m (.ref n) st = revO m st[n]? st := by
  unfold revR revO
  simp only [asL]
  cases st[n]? with
  | none => rfl
  | some o => cases o <;> rfl
@[simp] theorem revO_lst {m : Bool} {xs : List D} : revO m (some (.lst xs)) st = mk m xs.reverse st := rfl
@[simp] theorem w_rev {m : Bool} : (evalE Φ cur σ (.rev m a) st).W Q E = (evalE Φ cur σ a st).W (fun x st => (revR m x st).W Q E) E := by simp only [evalE, W_bind]; rfl
@[simp] theorem w_lof {m : Bool} {it : I} : (evalE Φ cur σ (.lof m it) st).W Q E = (evalI Φ cur σ it st).W (fun p st => (if p.1.length ≤ LIM then mk m p.1 st else .stuck).W Q E) E := by simp only [evalE, W_bind]
/-! targets -/
@[simp] theorem w_an {i : Nat} {d : D} {Q : Env → Store → Prop} : (assign Φ cur σ (.n i) d st).W Q E = (i < σ.length ∧ Q (σ.set i (some d)) st) := by
  simp only [assign]
  split
  · rename_i h; simp only [W_ok, h, true_and]
  · rename_i h; simp only [W_stuck, h, false_and]
@[simp] theorem w_atf {ts : List T} {ds : List D} {Q : Env → Store → Prop} : (assign Φ cur σ (.tup ts) (.frz ds) st).W Q E = (assigns Φ cur σ ts ds st).W Q noE := by simp only [assign, W_noex]
@[simp] theorem w_at {ts : List T} {ds : List D} {Q : Env → Store → Prop} : (assign Φ cur σ (.tup ts) (.tup ds) st).W Q E = (assigns Φ cur σ ts ds st).W Q noE := by simp only [assign, W_noex]
@[simp] theorem w_aat {o : PV.E} {f : String} {d : D} {Q : Env → Store → Prop} : (assign Φ cur σ (.at o f) d st).W Q E = (evalE Φ cur σ o st).W (fun x st => (setFld Φ.noat x f d st).W (fun _ st => Q σ st) E) E := by simp only [assign, W_bind, W_ok]
@[simp] theorem w_aix {o i : PV.E} {d : D} {Q : Env → Store → Prop} : (assign Φ cur σ (.ix o i) d st).W Q E = (evalE Φ cur σ o st).W (fun x st => (evalE Φ cur σ i st).W (fun y st => (setIx x y d st).W (fun _ st => Q σ st) E) E) E := by simp only [assign, W_bind, W_ok]
@[simp] theorem w_as0 {Q : Env → Store → Prop} : (assigns Φ cur σ [] [] st).W Q E = Q σ st := by simp only [assigns, W_ok]
@[simp] theorem w_as {t : T} {ts : List T} {d : D} {ds : List D} {Q : Env → Store → Prop} : (assigns Φ cur σ (t :: ts) (d :: ds) st).W Q E = (assign Φ cur σ t d st).W (fun σ st => (assigns Φ cur σ ts ds st).W Q E) E := by simp only [assigns, W_bind]
/-! statements -/
@[simp] theorem w_sasg {t : T} : (exec Φ Wf cur (.asg t a) σ st).W P = (evalE Φ cur σ a st).W (fun d st => (assign Φ cur σ t d st).W (fun σ st => P.nx σ st) (fun x s => P.ex x σ s)) (fun x s => P.ex x σ s) := by simp only [exec, W_out, W_nx]
@[simp] theorem w_saug {i : Nat} {o : Bop} : (exec Φ Wf cur (.aug (.n i) o a) σ st).W P = (ofO (σ[i]?.bind id) st).W (fun x st => (evalE Φ cur σ a st).W (fun y st => (augop o x y st).W (fun d st => P.nx (σ.set i (some d)) st) (fun x s => P.ex x σ s)) (fun x s => P.ex x σ s)) (fun _ _ => False) := by
  simp only [exec]
  cases h : σ[i]? with
  | none => rfl
  | some o' =>
    cases o' with
    | none => rfl
    | some d => simp only [W_out, W_nx, Option.bind_some, id_eq, ofO_some, W_ok]
@[simp] theorem w_sbad {o : Bop} : (exec Φ Wf cur (.aug (.tup []) o a) σ st).W P = False := by simp only [exec, W_ostuck]
@[simp] theorem w_sex : (exec Φ Wf cur (.ex a) σ st).W P = (evalE Φ cur σ a st).W (fun _ st => P.nx σ st) (fun x s => P.ex x σ s) := by simp only [exec, W_out, W_nx]
@[simp] theorem w_sret : (exec Φ Wf cur (.ret a) σ st).W P = (evalE Φ cur σ a st).W (fun d st => P.rt d st) (fun x s => P.ex x σ s) := by simp only [exec, W_out, W_rt]
@[simp] theorem w_sif {x y : List S} : (exec Φ Wf cur (.ife t x y) σ st).W P = (evalT Φ cur σ t st).W (fun b st => (if b = true then execs Φ Wf cur x σ st else execs Φ Wf cur y σ st).W P) (fun x s => P.ex x σ s) := by simp only [exec, W_out]
theorem w_swhl {x : List S} : (exec Φ Wf cur (.whl t x) σ st) = whileF (fun σ st => evalT Φ cur σ t st) (fun σ st => execs Φ Wf cur x σ st) Wf σ st := by simp only [exec]
@[simp] theorem w_sfor {tg : T} {it : I} {x : List S} : (exec Φ Wf cur (.forr tg it x) σ st).W P = (evalI Φ cur σ it st).W (fun p st => (forL p.2 (fun d σ st => (assign Φ cur σ tg d st).out σ fun σ st => execs Φ Wf cur x σ st) p.1 σ st).W P) (fun x s => P.ex x σ s) := by simp only [exec, W_out]
@[simp] theorem w_sbrk : (exec Φ Wf cur .brk σ st).W P = P.bk σ st := by simp only [exec, W_bk]
@[simp] theorem w_scont : (exec Φ Wf cur .cont σ st).W P = P.ct σ st := by simp only [exec, W_ct]
@[simp] theorem w_spass : (exec Φ Wf cur .pass σ st).W P = P.nx σ st := by simp only [exec, W_nx]
@[simp] theorem w_ss0 : (execs Φ Wf cur [] σ st).W P = P.nx σ st := by simp only [execs, W_nx]
@[simp] theorem w_ss {s : S} {r : List S} : (execs Φ Wf cur (s :: r) σ st).W P = (exec Φ Wf cur s σ st).W { P with nx := fun σ st => (execs Φ Wf cur r σ st).W P } := by simp only [execs, W_seq]
theorem w_if {α : Type} {c : Prop} [Decidable c] {x y : Res α} {Q : α → Store → Prop} : (if c then x else y).W Q E = if c then x.W Q E else y.W Q E := by split <;> rfl
theorem w_oif {c : Prop} [Decidable c] {x y : Out} : (if c then x else y).W P = if c then x.W P else y.W P := by split <;> rfl
end
/-! ### values -/
section
variable {st : Store} {m : Bool} {i j : Int} {x y : List Nat} {xs ys : List D} {n : Nat}
@[simp] theorem add_int : binop m .add (.int i) (.int j) st = .ok (.int (i + j)) st := rfl
@[simp] theorem add_str : binop m .add (.str x) (.str y) st = if x.length + y.length ≤ LIM then .ok (.str (x ++ y)) st else .stuck := rfl
@[simp] theorem add_frz : binop m .add (.frz xs) (.frz ys) st = if xs.length + ys.length ≤ LIM then mk m (xs ++ ys) st else .stuck := rfl
@[simp] theorem sub_int : binop m .sub (.int i) (.int j) st = .ok (.int (i - j)) st := rfl
@[simp] theorem mul_int : binop m .mul (.int i) (.int j) st = if bmul i j = true then .ok (.int (i * j)) st else .stuck := rfl
@[simp] theorem mul_frz : binop m .mul (.frz xs) (.int j) st = if (small j && decide (xs.length * j.toNat ≤ LIM)) = true then mk m (List.replicate j.toNat xs).flatten st else .stuck := rfl
@[simp] theorem fdiv_int : binop m .fdiv (.int i) (.int j) st = if (j != 0 && decide (j.natAbs < 1073741824)) = true then .ok (.int (i.fdiv j)) st else .stuck := rfl
@[simp] theorem mod_int : binop m .mod (.int i) (.int j) st = if (j != 0) = true then .ok (.int (i.fmod j)) st else .stuck := rfl
@[simp] theorem pow_int : binop m .pow (.int i) (.int j) st = if (decide (0 ≤ j) && decide (j ≤ 1000000) && decide (i.natAbs < 2 ^ 64)) = true then .ok (.int (i ^ j.toNat)) st else .stuck := rfl
@[simp] theorem mk_true : mk true xs st = .ok (.ref st.length) (st ++ [.lst xs]) := rfl
@[simp] theorem mk_false : mk false xs st = .ok (.frz xs) st := rfl
@[simp] theorem aug_int : augop .add (.int i) (.int j) st = .ok (.int (i + j)) st := rfl
@[simp] theorem aug_sub : augop .sub (.int i) (.int j) st = .ok (.int (i - j)) st := rfl
@[simp] theorem aug_str : augop .add (.str x) (.str y) st = if x.length + y.length ≤ LIM then .ok (.str (x ++ y)) st else .stuck := rfl
@[simp] theorem lt_int : cmpR .lt (.int i) (.int j) st = .ok (.bl (decide (i < j))) st := rfl
@[simp] theorem le_int : cmpR .le (.int i) (.int j) st = .ok (.bl (decide (i ≤ j))) st := rfl
@[simp] theorem gt_int : cmpR .gt (.int i) (.int j) st = .ok (.bl (decide (j < i))) st := rfl
@[simp] theorem ge_int : cmpR .ge (.int i) (.int j) st = .ok (.bl (decide (j ≤ i))) st := rfl
@[simp] theorem lt_str : cmpR .lt (.str x) (.str y) st = .ok (.bl (ltText x y)) st := rfl
@[simp] theorem le_str : cmpR .le (.str x) (.str y) st = .ok (.bl (!ltText y x)) st := rfl
@[simp] theorem eq_int : cmpR .eq (.int i) (.int j) st = .ok (.bl (i == j)) st := rfl
@[simp] theorem ne_int : cmpR .ne (.int i) (.int j) st = .ok (.bl (!(i == j))) st := rfl
@[simp] theorem eq_str : cmpR .eq (.str x) (.str y) st = .ok (.bl (x == y)) st := rfl
@[simp] theorem ne_str : cmpR .ne (.str x) (.str y) st = .ok (.bl (!(x == y))) st := rfl
@[simp] theorem inn_str1 {c : Nat} : cmpR .inn (.str [c]) (.str y) st = .ok (.bl (decide (c ∈ y))) st := rfl
@[simp] theorem notin_str1 {c : Nat} : cmpR .notin (.str [c]) (.str y) st = .ok (.bl (!decide (c ∈ y))) st := rfl
@[simp] theorem inn_tup {d : D} (h : flat d = true) : cmpR .inn d (.tup xs) st = if xs.all flat = true then .ok (.bl (xs.any fun y => eqF y d)) st else .stuck := by
  have e : inOp st d (.tup xs) = if flat d && xs.all flat then some (xs.any fun y => eqF y d) else none := by
    cases d with
    | str s => cases s with
      | nil => rfl
      | cons c s => cases s <;> rfl
    | _ => rfl
  simp only [cmpR, cmpop, e, h, Bool.true_and]
  by_cases hf : xs.all flat = true
  · rw [if_pos hf, if_pos hf]
  · rw [if_neg hf, if_neg hf]
@[simp] theorem inn_frz {d : D} (h : flat d = true) : cmpR .inn d (.frz xs) st = if xs.all flat = true then .ok (.bl (xs.any fun y => eqF y d)) st else .stuck := by
  have e : inOp st d (.frz xs) = if flat d && xs.all flat then some (xs.any fun y => eqF y d) else none := by
    cases d with
    | str s => cases s with
      | nil => rfl
      | cons c s => cases s <;> rfl
    | _ => rfl
  simp only [cmpR, cmpop, e, h, Bool.true_and]
  by_cases hf : xs.all flat = true
  · rw [if_pos hf, if_pos hf]
  · rw [if_neg hf, if_neg hf]
@[simp] theorem notin_tup {d : D} (h : flat d = true) : cmpR .notin d (.tup xs) st = if xs.all flat = true then .ok (.bl (!xs.any fun y => eqF y d)) st else .stuck := by
  have e : inOp st d (.tup xs) = if flat d && xs.all flat then some (xs.any fun y => eqF y d) else none := by
    cases d with
    | str s => cases s with
      | nil => rfl
      | cons c s => cases s <;> rfl
    | _ => rfl
  simp only [cmpR, cmpop, e, h, Bool.true_and]
  by_cases hf : xs.all flat = true
  · rw [if_pos hf, if_pos hf]; rfl
  · rw [if_neg hf, if_neg hf]; rfl
@[simp] theorem notin_frd {kvs : List (D × D)} : cmpR .notin (.str x) (.frd kvs) st = .ok (.bl (!(dget kvs (.str x)).isSome)) st := by
  simp only [cmpR, cmpop, inOp]
  cases x with
  | nil => rfl
  | cons c r => cases r <;> rfl
@[simp] theorem inn_frd {kvs : List (D × D)} : cmpR .inn (.str x) (.frd kvs) st = .ok (.bl (dget kvs (.str x)).isSome) st := by
  simp only [cmpR, cmpop, inOp]
  cases x with
  | nil => rfl
  | cons c r => cases r <;> rfl
@[simp] theorem isiR_b {cls : List String} {t : Ty} {ts : List Ty} (h : (tyIn cls t && ts.all (tyIn cls)) = true) : isiR cls t ts st = .ok (.bl (ts.any (isTy t))) st := if_pos h
@[simp] theorem ix_str : index (.str x) (.int i) st = if x.length ≤ LIM then ofO ((getI x i).map fun c => .str [c]) st else .stuck := by
  simp only [index, getI]
  split
  · cases (ixN x.length i).bind (x[·]?) <;> rfl
  · rfl
@[simp] theorem ix_scr {ns : List Int} : index (.scr ns) (.int i) st = ofO ((getI ns i).map .int) st := by
  simp only [index, getI]
  cases (ixN ns.length i).bind (ns[·]?) <;> rfl
@[simp] theorem ix_tup : index (.tup xs) (.int i) st = ofO (getI xs i) st := by
  simp only [index, indexQ, dictOf, asQ, getI]
  cases (ixN xs.length i).bind (xs[·]?) <;> rfl
@[simp] theorem ix_frz : index (.frz xs) (.int i) st = ofO (getI xs i) st := by
  simp only [index, indexQ, dictOf, asQ, asL, getI]
  cases (ixN xs.length i).bind (xs[·]?) <;> rfl
@[simp] theorem ix_frd {kvs : List (D × D)} : index (.frd kvs) (.str x) st = ofO (dget kvs (.str x)) st := by
  simp only [index, indexQ, dictOf]
  cases dget kvs (.str x) <;> rfl
/-- an index into a thing of the store -/
def ixO (o : Option SO) (k : D) (st : Store) : Res D := match o, k with
  | some (.lst xs), .int i => ofO (getI xs i) st
  | some (.dic kvs), k => if isKey k then ofO (dget kvs k) st else .stuck
  | _, _ => .stuck
@[simp] theorem ix_ref {k : D} : index (.ref n) k st = ixO st[n]? k st := by
  have e : index (.ref n) k st = indexQ st (.ref n) k := by cases k <;> rfl
  rw [e]
  unfold indexQ ixO
  cases h : st[n]? with
  | none => cases k <;> simp [dictOf, h, asQ, asL, isKey]
  | some o =>
    cases o with
    | lst xs => cases k <;> simp [dictOf, h, asQ, asL, isKey, getI]; cases (ixN xs.length _).bind (xs[·]?) <;> rfl
    | dic kvs => cases k <;> simp [dictOf, h, asQ, asL, isKey] <;> (cases dget kvs _ <;> rfl)
    | ins c fs => cases k <;> simp [dictOf, h, asQ, asL, isKey]
@[simp] theorem ixO_lst : ixO (some (.lst xs)) (.int i) st = ofO (getI xs i) st := rfl
@[simp] theorem ixO_dic {kvs : List (D × D)} {k : D} : ixO (some (.dic kvs)) k st = if isKey k then ofO (dget kvs k) st else .stuck := by cases k <;> rfl
@[simp] theorem sl_str {lo hi : Option Int} : slice m (.str x) lo hi st = if x.length ≤ LIM then .ok (.str (cut x lo hi)) st else .stuck := rfl
@[simp] theorem sl_frz {lo hi : Option Int} : slice m (.frz xs) lo hi st = mk m (cut xs lo hi) st := rfl
def slO (m : Bool) (o : Option SO) (lo hi : Option Int) (st : Store) : Res D := match o with
  | some (.lst xs) => mk m (cut xs lo hi) st
  | _ => .stuck
@[simp] theorem sl_ref {lo hi : Option Int} : slice m (.ref n) lo hi st = slO m st[n]? lo hi st := by
  simp only [slice, asL, slO]
  cases st[n]? with
  | none => rfl
  | some o => cases o <;> rfl
@[simp] theorem slO_lst {lo hi : Option Int} : slO m (some (.lst xs)) lo hi st = mk m (cut xs lo hi) st := rfl
@[simp] theorem tr_bl {b : Bool} : truth st (.bl b) = some b := rfl
@[simp] theorem tr_int : truth st (.int i) = some (i != 0) := rfl
@[simp] theorem tr_non : truth st .non = some false := rfl
@[simp] theorem tr_frz : truth st (.frz xs) = some (!xs.isEmpty) := rfl
@[simp] theorem tr_tup : truth st (.tup xs) = some (!xs.isEmpty) := rfl
@[simp] theorem ty_non : tyOf st .non = .b "NoneType" := rfl
@[simp] theorem ty_bl {b : Bool} : tyOf st (.bl b) = .b "bool" := rfl
@[simp] theorem ty_int : tyOf st (.int i) = .b "int" := rfl
@[simp] theorem ty_str : tyOf st (.str x) = .b "str" := rfl
@[simp] theorem ty_tup : tyOf st (.tup xs) = .b "tuple" := rfl
@[simp] theorem ty_frz : tyOf st (.frz xs) = .b "list" := rfl
@[simp] theorem ty_scr {ns : List Int} : tyOf st (.scr ns) = .b "list" := rfl
@[simp] theorem ty_frd {kvs : List (D × D)} : tyOf st (.frd kvs) = .b "dict" := rfl
def tyO : Option SO → Ty
  | some (.lst _) => .b "list"
  | some (.dic _) => .b "dict"
  | some (.ins c _) => .own c
  | none => .b "?"
@[simp] theorem ty_ref : tyOf st (.ref n) = tyO st[n]? := by
  simp only [tyOf, tyO]
  all_goals
    cases st[n]? with
    | none => rfl
    | some o => cases o <;> rfl
@[simp] theorem tyO_lst : tyO (some (.lst xs)) = .b "list" := rfl
@[simp] theorem tyO_dic {kvs : List (D × D)} : tyO (some (.dic kvs)) = .b "dict" := rfl
@[simp] theorem tyO_ins {c : String} {fs : List (String × D)} : tyO (some (.ins c fs)) = .own c := rfl
/-! stores into things -/
def setO (o : Option SO) (n : Nat) (i v : D) (st : Store) : Res Unit := match o with
  | some (.lst xs) => (match i with
    | .int k => (ofO (ixN xs.length k) st).bind fun j st => .ok () (st.set n (.lst (xs.set j v)))
    | _ => .stuck)
  | some (.dic kvs) => if isKey i && decide (kvs.length < LIM) then .ok () (st.set n (.dic (dput kvs i v))) else .stuck
  | _ => .stuck
@[simp] theorem set_ref {k v : D} : setIx (.ref n) k v st = setO st[n]? n k v st := by
  simp only [setIx, lstAt, dicAt, setO]
  cases st[n]? with
  | none => rfl
  | some o =>
    cases o with
    | lst xs =>
      cases k with
      | int i => dsimp only; cases ixN xs.length i <;> rfl
      | _ => rfl
    | _ => rfl
@[simp] theorem setO_lst {v : D} : setO (some (.lst xs)) n (.int i) v st = (ofO (ixN xs.length i) st).bind fun j st => .ok () (st.set n (.lst (xs.set j v))) := rfl
def fldO (noat : String → String → Bool) (f : String) : Option SO → Option D
  | some (.ins c fs) => if noat c f then fs.lookup f else none
  | _ => none
@[simp] theorem fld_ref {noat : String → String → Bool} {f : String} : fieldOf noat st f (.ref n) = fldO noat f st[n]? := by
  simp only [fieldOf, fldO]
  all_goals
    cases st[n]? with
    | none => rfl
    | some o => cases o <;> rfl
@[simp] theorem fldO_ins {noat : String → String → Bool} {f c : String} {fs : List (String × D)} : fldO noat f (some (.ins c fs)) = if noat c f then fs.lookup f else none := rfl
def sfO (noat : String → String → Bool) (o : Option SO) (n : Nat) (f : String) (v : D) (st : Store) : Res Unit := match o with
  | some (.ins c fs) => if fs.length < 1000 && noat c f then .ok () (st.set n (.ins c (putF f v fs))) else .stuck
  | _ => .stuck
@[simp] theorem sf_ref {noat : String → String → Bool} {f : String} {v : D} : setFld noat (.ref n) f v st = sfO noat st[n]? n f v st := by
  simp only [setFld, sfO]
  all_goals
    cases st[n]? with
    | none => rfl
    | some o => cases o <;> rfl
@[simp] theorem sfO_ins {noat : String → String → Bool} {f c : String} {v : D} {fs : List (String × D)} : sfO noat (some (.ins c fs)) n f v st = if fs.length < 1000 && noat c f then .ok () (st.set n (.ins c (putF f v fs))) else .stuck := rfl
def insO (has : String → String → Bool) (m : String) : Option SO → Option String
  | some (.ins c fs) => if (fs.lookup m).isNone && has c m then some c else none
  | _ => none
@[simp] theorem ins_ref {has : String → String → Bool} {mt : String} : isIns has st mt (.ref n) = insO has mt st[n]? := by
  simp only [isIns, insO]
  all_goals
    cases st[n]? with
    | none => rfl
    | some o => cases o <;> rfl
@[simp] theorem insO_ins {has : String → String → Bool} {mt c : String} {fs : List (String × D)} : insO has mt (some (.ins c fs)) = if (fs.lookup mt).isNone && has c mt then some c else none := rfl
/-! built-in functions, methods -/
variable {Φ : Prog}
@[simp] theorem len_str : bltin Φ m .len [.str x] st = if x.length ≤ LIM then .ok (.int x.length) st else .stuck := rfl
@[simp] theorem len_scr {ns : List Int} : bltin Φ m .len [.scr ns] st = .ok (.int ns.length) st := rfl
@[simp] theorem len_tup : bltin Φ m .len [.tup xs] st = .ok (.int xs.length) st := rfl
@[simp] theorem len_frz : bltin Φ m .len [.frz xs] st = .ok (.int xs.length) st := rfl
def lenO (o : Option SO) (st : Store) : Res D := match o with
  | some (.lst xs) => .ok (.int xs.length) st
  | _ => .stuck
@[simp] theorem len_ref : bltin Φ m .len [.ref n] st = lenO st[n]? st := by
  simp only [bltin, lenB, asQ, asL, lenO]
  cases st[n]? with
  | none => rfl
  | some o => cases o <;> rfl
@[simp] theorem lenO_lst : lenO (some (.lst xs)) st = .ok (.int xs.length) st := rfl
@[simp] theorem ord_1 {c : Nat} : bltin Φ m .ord [.str [c]] st = .ok (.int c) st := rfl
@[simp] theorem int_int : bltin Φ m .int [.int i] st = .ok (.int i) st := rfl
@[simp] theorem int_bl {b : Bool} : bltin Φ m .int [.bl b] st = .ok (.int (if b then 1 else 0)) st := rfl
@[simp] theorem max_2 : bltin Φ m .max [.int i, .int j] st = .ok (.int (if j > i then j else i)) st := rfl
@[simp] theorem min_2 : bltin Φ m .min [.int i, .int j] st = .ok (.int (if j < i then j else i)) st := rfl
@[simp] theorem list_str : bltin Φ m .list [.str x] st = if x.length ≤ LIM then mk m (x.map fun c => .str [c]) st else .stuck := rfl
@[simp] theorem list_tup : bltin Φ m .list [.tup xs] st = mk m xs st := rfl
@[simp] theorem list_frz : bltin Φ m .list [.frz xs] st = mk m xs st := rfl
def listO (m : Bool) (o : Option SO) (st : Store) : Res D := match o with
  | some (.lst xs) => mk m xs st
  | _ => .stuck
@[simp] theorem list_ref : bltin Φ m .list [.ref n] st = listO m st[n]? st := by
  simp only [bltin, listB, asQ, asL, listO]
  cases st[n]? with
  | none => rfl
  | some o => cases o <;> rfl
@[simp] theorem listO_lst : listO m (some (.lst xs)) st = mk m xs st := rfl
@[simp] theorem tuple_tup : bltin Φ m .tuple [.tup xs] st = .ok (.tup xs) st := rfl
@[simp] theorem tuple_frz : bltin Φ m .tuple [.frz xs] st = .ok (.tup xs) st := rfl
def tupO (o : Option SO) (st : Store) : Res D := match o with
  | some (.lst xs) => .ok (.tup xs) st
  | _ => .stuck
@[simp] theorem tuple_ref : bltin Φ m .tuple [.ref n] st = tupO st[n]? st := by
  simp only [bltin, tupleB, asQ, asL, tupO]
  cases st[n]? with
  | none => rfl
  | some o => cases o <;> rfl
@[simp] theorem tupO_lst : tupO (some (.lst xs)) st = .ok (.tup xs) st := rfl
@[simp] theorem all_frz : bltin Φ m .all [.frz xs] st = (ofO (asB xs) st).bind fun bs st => .ok (.bl (bs.all id)) st := by
  simp only [bltin, allB, asL, Option.bind_some]
  cases asB xs <;> rfl
@[simp] theorem any_frz : bltin Φ m .any [.frz xs] st = (ofO (asB xs) st).bind fun bs st => .ok (.bl (bs.any id)) st := by
  simp only [bltin, anyB, asL, Option.bind_some]
  cases asB xs <;> rfl
@[simp] theorem repr_r {d : D} : bltin Φ m .repr [d] st = (ofO ((Φ.rep (look st d)).or (Φ.rep (deep st d))) st).bind fun x st => .ok (.str x) st := by
  simp only [bltin, reprB]
  cases (Φ.rep (look st d)).or (Φ.rep (deep st d)) <;> rfl
@[simp] theorem look_non : look st .non = .non := rfl
@[simp] theorem look_bl {b : Bool} : look st (.bl b) = .bl b := rfl
@[simp] theorem look_int : look st (.int i) = .int i := rfl
@[simp] theorem look_str : look st (.str x) = .str x := rfl
@[simp] theorem look_tup : look st (.tup xs) = .tup xs := rfl
@[simp] theorem look_frz : look st (.frz xs) = .frz xs := rfl
def lookO (n : Nat) : Option SO → D
  | some (.lst xs) => .frz xs
  | some (.dic kvs) => .frd kvs
  | _ => .ref n
@[simp] theorem look_ref : look st (.ref n) = lookO n st[n]? := by
  simp only [look, lookO]
  all_goals
    cases st[n]? with
    | none => rfl
    | some o => cases o <;> rfl
@[simp] theorem lookO_lst : lookO n (some (.lst xs)) = .frz xs := rfl
@[simp] theorem lookO_dic {kvs : List (D × D)} : lookO n (some (.dic kvs)) = .frd kvs := rfl
@[simp] theorem look_frd {kvs : List (D × D)} : look st (.frd kvs) = .frd kvs := rfl
@[simp] theorem rc_join : recvOk .join (.str x) st = true := rfl
@[simp] theorem rc_count : recvOk .count (.str x) st = true := rfl
@[simp] theorem rc_upper : recvOk .upper (.str x) st = true := rfl
@[simp] theorem rc_lower : recvOk .lower (.str x) st = true := rfl
@[simp] theorem rc_islower : recvOk .islower (.str x) st = true := rfl
@[simp] theorem rc_isupper : recvOk .isupper (.str x) st = true := rfl
@[simp] theorem upper_str : methB .upper (.str x) [] st = if (x.all (fun c => decide (c < 128)) && decide (x.length ≤ 5592405)) = true then .ok (.str (x.map upC)) st else .stuck := rfl
@[simp] theorem lower_str : methB .lower (.str x) [] st = if (x.all (fun c => decide (c < 128)) && decide (x.length ≤ 5592405)) = true then .ok (.str (x.map loC)) st else .stuck := rfl
@[simp] theorem islower_str {c : Nat} : methB .islower (.str [c]) [] st = if c < 128 then .ok (.bl (decide (97 ≤ c) && decide (c ≤ 122))) st else .stuck := rfl
@[simp] theorem isupper_str {c : Nat} : methB .isupper (.str [c]) [] st = if c < 128 then .ok (.bl (decide (65 ≤ c) && decide (c ≤ 90))) st else .stuck := rfl
@[simp] theorem count_str {c : Nat} : methB .count (.str x) [.str [c]] st = if x.length ≤ LIM then .ok (.int (x.count c)) st else .stuck := rfl
@[simp] theorem rc_getf {kvs : List (D × D)} : recvOk .get (.frd kvs) st = true := rfl
def isL : Option SO → Bool
  | some (.lst _) => true
  | _ => false
@[simp] theorem isL_lst : isL (some (.lst xs)) = true := rfl
theorem lstAt_isSome : (lstAt st (.ref n)).isSome = isL st[n]? := by
  simp only [lstAt, isL]
  cases st[n]? with
  | none => rfl
  | some o => cases o <;> rfl
@[simp] theorem rc_append : recvOk .append (.ref n) st = isL st[n]? := lstAt_isSome
@[simp] theorem rc_insert : recvOk .insert (.ref n) st = isL st[n]? := lstAt_isSome
@[simp] theorem rc_reverse : recvOk .reverse (.ref n) st = isL st[n]? := lstAt_isSome
@[simp] theorem rc_pop : recvOk .pop (.ref n) st = isL st[n]? := lstAt_isSome
@[simp] theorem rc_extend : recvOk .extend (.ref n) st = isL st[n]? := lstAt_isSome
@[simp] theorem rc_clear : recvOk .clear (.ref n) st = isL st[n]? := lstAt_isSome
@[simp] theorem get_frd {kvs : List (D × D)} {k dflt : D} (h : (match k with | .str _ => true | _ => false) = true) : methB .get (.frd kvs) [k, dflt] st = .ok ((dget kvs k).getD dflt) st := by
  cases k with
  | str s => rfl
  | _ => cases h
@[simp] theorem join_frz : methB .join (.str x) [.frz xs] st = (ofO (asS xs) st).bind fun zs st => if (zs.map (·.length)).sum + zs.length * x.length ≤ LIM then .ok (.str (join x zs)) st else .stuck := by
  simp only [methB, joinB, asQ, asL, Option.bind_some]
  cases asS xs <;> rfl
def joinO (x : List Nat) (o : Option SO) (st : Store) : Res D := match o with
  | some (.lst xs) => (ofO (asS xs) st).bind fun zs st => if (zs.map (·.length)).sum + zs.length * x.length ≤ LIM then .ok (.str (join x zs)) st else .stuck
  | _ => .stuck
@[simp] theorem join_ref : methB .join (.str x) [.ref n] st = joinO x st[n]? st := by
  simp only [methB, joinB, asQ, asL, joinO]
  cases st[n]? with
  | none => rfl
  | some o =>
    cases o with
    | lst xs => simp only [Option.bind_some]; cases asS xs <;> rfl
    | _ => rfl
@[simp] theorem joinO_lst : joinO x (some (.lst xs)) st = (ofO (asS xs) st).bind fun zs st => if (zs.map (·.length)).sum + zs.length * x.length ≤ LIM then .ok (.str (join x zs)) st else .stuck := rfl
def onL (o : Option SO) (f : List D → Res D) : Res D := match o with
  | some (.lst xs) => f xs
  | _ => .stuck
@[simp] theorem onL_lst {f : List D → Res D} : onL (some (.lst xs)) f = f xs := rfl
@[simp] theorem append_ref {d : D} : methB .append (.ref n) [d] st = onL st[n]? fun xs => if xs.length < LIM then .ok .non (st.set n (.lst (xs ++ [d]))) else .stuck := by
  simp only [methB, appendB, lstAt, onL]
  cases st[n]? with
  | none => rfl
  | some o => cases o <;> rfl
@[simp] theorem insert_ref {d : D} : methB .insert (.ref n) [.int i, d] st = onL st[n]? fun xs => if (decide (xs.length < LIM) && decide (0 ≤ i) && small i) = true then .ok .non (st.set n (.lst (xs.take i.toNat ++ [d] ++ xs.drop i.toNat))) else .stuck := by
  simp only [methB, insertB, lstAt, onL]
  cases st[n]? with
  | none => rfl
  | some o => cases o <;> rfl
@[simp] theorem reverse_ref : methB .reverse (.ref n) [] st = onL st[n]? fun xs => .ok .non (st.set n (.lst xs.reverse)) := by
  simp only [methB, reverseB, lstAt, onL]
  cases st[n]? with
  | none => rfl
  | some o => cases o <;> rfl
@[simp] theorem clear_ref : methB .clear (.ref n) [] st = onL st[n]? fun xs => .ok .non (st.set n (.lst [])) := by
  simp only [methB, clearB, lstAt, onL]
  cases st[n]? with
  | none => rfl
  | some o => cases o <;> rfl
@[simp] theorem pop_ref : methB .pop (.ref n) [] st = onL st[n]? fun xs => (ofO xs[xs.length - 1]? st).bind fun y st => .ok y (st.set n (.lst xs.dropLast)) := by
  simp only [methB, popB, lstAt, onL]
  cases st[n]? with
  | none => rfl
  | some o =>
    cases o with
    | lst xs => dsimp only; cases xs[xs.length - 1]? <;> rfl
    | _ => rfl
@[simp] theorem extend_frz {ys : List D} : methB .extend (.ref n) [.frz ys] st = onL st[n]? fun xs => if xs.length + ys.length ≤ LIM then .ok .non (st.set n (.lst (xs ++ ys))) else .stuck := by
  simp only [methB, extendB, lstAt, onL, asL]
  cases st[n]? with
  | none => rfl
  | some o => cases o <;> rfl
end
/-! ### places -/
theorem getI_nat {α : Type} {xs : List α} {k : Nat} : getI xs (k : Int) = xs[k]? := by
  unfold getI ixN
  simp only [Int.natCast_nonneg, if_true]
  by_cases h : k < xs.length
  · rw [if_pos (by omega)]; simp
  · rw [if_neg (by omega)]; simp; omega
theorem getI_ofNat {α : Type} {xs : List α} {i : Int} (h : 0 ≤ i) : getI xs i = xs[i.toNat]? := by
  obtain ⟨k, rfl⟩ := Int.eq_ofNat_of_zero_le h
  rw [getI_nat, Int.toNat_natCast]
@[simp] theorem getI_0 {α : Type} {xs : List α} : getI xs 0 = xs[0]? := getI_nat (k := 0)
@[simp] theorem getI_1 {α : Type} {xs : List α} : getI xs 1 = xs[1]? := getI_nat (k := 1)
@[simp] theorem getI_2 {α : Type} {xs : List α} : getI xs 2 = xs[2]? := getI_nat (k := 2)
@[simp] theorem getI_3 {α : Type} {xs : List α} : getI xs 3 = xs[3]? := getI_nat (k := 3)
@[simp] theorem getI_m1 {α : Type} {xs : List α} : getI xs (-1) = xs[xs.length - 1]? := by
  unfold getI ixN
  by_cases h : xs.length = 0
  · have e : xs = [] := List.length_eq_zero_iff.mp h
    subst e
    rfl
  · rw [if_neg (by omega), if_pos (by omega)]
    simp only [Option.bind_some]
    congr 1
    omega
end PV
set_option Elab.async false
set_option linter.all false
set_option maxRecDepth 10000
set_option maxHeartbeats 4000000
/-! PvDraw: what all laws draw from: a cell, a box, a digit. -/
namespace PV
structure Bx where
  x : Int
  y : Int
  z : Int
def Bx.o (B : Bx) : SO := .lst [.int B.x, .int B.y, .int B.z]
/-- at most k draws so far -/
structure Bx.Ok (B : Bx) (k : Nat) : Prop where
  x0 : 0 ≤ B.x
  y0 : 0 ≤ B.y
  y1 : B.y < 2147483629
  z0 : 0 ≤ B.z
  z1 : B.z ≤ k
theorem Bx.Ok.mono {B : Bx} {j k : Nat} (h : B.Ok j) (hj : j ≤ k) : B.Ok k := ⟨h.x0, h.y0, h.y1, h.z0, by have := h.z1; omega⟩
def cellFn (p q : Int) (ps : List String) : Fn := { params := ps, slots := 2, dfl := [], frz := true, body :=
  [.ife (.t (.cmp .lt (.v 1) (.fn false .len [.v 0]))) [.ret (.ix (.v 0) (.v 1))] [],
   .ret (.bin false .add (.bin false .mul (.c (.int p)) (.v 1)) (.c (.int q)))] }
def boxFn (ps : List String) : Fn := { params := ps, slots := 1, dfl := [], frz := false, body :=
  [.ret (.lst true [.fn false .max [.c (.int 0), .bin false .sub (.v 0) (.bin false .pow (.c (.int 10)) (.c (.int 18)))], .bin false .mod (.v 0) (.c (.int 2147483629)), .c (.int 0)])] }
def takeFn (p q : Int) (ps : List String) : Fn := { params := ps, slots := 4, dfl := [], frz := true, body :=
  [.ife (.t (.cmp .gt (.ix (.v 0) (.c (.int 0))) (.c (.int 0)))) [.asg (.n 3) (.bin false .mod (.ix (.v 0) (.c (.int 0))) (.v 1)), .asg (.ix (.v 0) (.c (.int 0))) (.bin false .fdiv (.ix (.v 0) (.c (.int 0))) (.v 1)), .ret (.v 3)] [],
   .asg (.ix (.v 0) (.c (.int 2))) (.bin false .add (.ix (.v 0) (.c (.int 2))) (.c (.int 1))),
   .asg (.n 2) (.bin false .mod (.bin false .pow (.bin false .add (.bin false .add (.ix (.v 0) (.c (.int 1))) (.bin false .mul (.c (.int p)) (.ix (.v 0) (.c (.int 2))))) (.c (.int q))) (.c (.int 5))) (.c (.int 2147483647))),
   .asg (.n 2) (.bin false .mod (.bin false .pow (.bin false .add (.v 2) (.bin false .mul (.c (.int 104729)) (.ix (.v 0) (.c (.int 2))))) (.c (.int 3))) (.c (.int 2147483587))),
   .ret (.bin false .mod (.bin false .fdiv (.v 2) (.c (.int 16))) (.v 1))] }
theorem ix_lt {st : Store} {b : Nat} {o : SO} (h : st[b]? = some o) : b < st.length := (List.getElem?_eq_some_iff.mp h).1
@[simp] theorem set_at {st : Store} {b : Nat} {o : SO} (h : b < st.length) : (st.set b o)[b]? = some o := by simp [h]
theorem fmod_nonneg' {a b : Int} (h : 0 < b) : 0 ≤ a.fmod b := Int.fmod_nonneg_of_pos a h
theorem fmod_lt' {a b : Int} (h : 0 < b) : a.fmod b < b := Int.fmod_lt_of_pos a h
theorem gc_int {frz : Bool} {st : Store} {b : Nat} {v : SO} {i : Int} {l : Store} (hv : refsO 0 v = true) : gc frz st (st.set b v ++ l) (.int i) = (.int i, st.set b v) := by
  rw [gc_val rfl (oldOK_set (refsO_mono (Nat.zero_le _) hv)), take_set]
theorem gc_int' {frz : Bool} {st : Store} {b : Nat} {v : SO} {i : Int} (hv : refsO 0 v = true) : gc frz st (st.set b v) (.int i) = (.int i, st.set b v) := by
  have := gc_int (frz := frz) (st := st) (b := b) (i := i) (l := []) hv
  rwa [List.append_nil] at this
theorem refs_box {x y z : Int} : refsO 0 (.lst [.int x, .int y, .int z]) = true := rfl
theorem bmul_small {p z : Int} (h0 : 0 ≤ p) (h1 : p < 1000000) : bmul p z = true := by
  exact bmul_iff.mpr (.inl ⟨by omega, by omega⟩)
theorem mulB {p z : Int} (h0 : 0 ≤ p) (h1 : p < 1000000) (h2 : 0 ≤ z) (h3 : z ≤ 2 ^ 40) : 0 ≤ p * z ∧ p * z < 2 ^ 60 := by
  refine ⟨Int.mul_nonneg h0 h2, ?_⟩
  have := Int.mul_le_mul (Int.le_of_lt h1) h3 h2 (by decide)
  omega
theorem take_body {Φ : Prog} {Wf : Nat} {p q : Int} {ps : List String} (hp0 : 0 ≤ p) (hp : p < 1000000) (hq0 : 0 ≤ q) (hq : q < 1000000) {b : Nat} {B : Bx} {w : Int} {k : Nat} {st : Store} {Q : D → Store → Prop} {E : Exn → Store → Prop}
    (hb : st[b]? = some B.o) (hB : B.Ok k) (hk : k < 2 ^ 40) (hw0 : 0 < w) (hw : w < 2 ^ 30)
    (h : ∀ (v : Int) (B' : Bx), 0 ≤ v → v < w → B'.Ok (k + 1) → Q (.int v) (st.set b B'.o)) : (bodyR Φ Wf (takeFn p q ps) [.ref b, .int w] st).W Q E := by
  apply body_W
  have hl := ix_lt hb
  obtain ⟨x, y, z⟩ := B
  obtain ⟨b1, b2, b3, b4, b5⟩ := hB
  simp only at b1 b2 b3 b4 b5
  have hb' : st[b]? = some (SO.lst [D.int x, D.int y, D.int z]) := hb
  have hs : ∀ o : SO, (st.set b o)[b]? = some o := fun o => set_at hl
  have w0 : w ≠ 0 := by omega
  have wn : w.natAbs < 1073741824 := by omega
  have pm : ∀ z', bmul p z' = true := fun z' => bmul_small hp0 hp
  have pm2 : ∀ z', bmul 104729 z' = true := fun z' => bmul_small (by decide) (by decide)
  simp [takeFn, startE, hb']
  by_cases hx : 0 < x
  · simp [hx, hb', w0, wn, hs, ixN, fin]
    rw [gc_int' refs_box]
    exact h _ ⟨x.fdiv w, y, z⟩ (fmod_nonneg' hw0) (fmod_lt' hw0) ⟨Int.fdiv_nonneg b1 (by omega), b2, b3, b4, by simp only; omega⟩
  · have m1 := mulB (z := z + 1) hp0 hp (by omega) (by omega)
    have m2 := mulB (p := 104729) (z := z + 1) (by decide) (by decide) (by omega) (by omega)
    have n1 : (y + p * (z + 1) + q).natAbs < 2 ^ 64 := by omega
    have f1 : ∀ a : Int, 0 ≤ a.fmod 2147483647 ∧ a.fmod 2147483647 < 2147483647 := fun a => ⟨fmod_nonneg' (by decide), fmod_lt' (by decide)⟩
    have n2 : ∀ a : Int, (a.fmod 2147483647 + 104729 * (z + 1)).natAbs < 2 ^ 64 := fun a => by
      have := f1 a
      omega
    simp only [Nat.reducePow] at n1 n2
    simp [hx, hb', w0, wn, hs, ixN, pm, pm2, n1, n2, fin]
    rw [gc_int' refs_box]
    exact h _ ⟨x, y, z + 1⟩ (fmod_nonneg' hw0) (fmod_lt' hw0) ⟨b1, b2, b3, by simp only; omega, by simp only; omega⟩
theorem box_body {Φ : Prog} {Wf : Nat} {ps : List String} {c : Int} {st : Store} {Q : D → Store → Prop} {E : Exn → Store → Prop} (h : ∀ B : Bx, B.Ok 0 → Q (.ref st.length) (st ++ [B.o])) : (bodyR Φ Wf (boxFn ps) [.int c] st).W Q E := by
  apply body_W
  simp [boxFn, startE, fin]
  rw [gc_own (Nat.le_refl _)]
  exact h ⟨if 1000000000000000000 < c then c - 1000000000000000000 else 0, c.fmod 2147483629, 0⟩ ⟨by simp only; split <;> omega, fmod_nonneg' (by decide), fmod_lt' (by decide), Int.le_refl 0, Int.le_refl 0⟩
theorem cell_body {Φ : Prog} {Wf : Nat} {p q : Int} {ps : List String} (hp0 : 0 ≤ p) (hp : p < 1000000) {ns : List Int} {j : Nat} {st : Store} {Q : D → Store → Prop} {E : Exn → Store → Prop} (h : ∀ c : Int, Q (.int c) st) : (bodyR Φ Wf (cellFn p q ps) [.scr ns, .int (j : Int)] st).W Q E := by
  apply body_W
  have pm : ∀ z', bmul p z' = true := fun z' => bmul_small hp0 hp
  have gi : ∀ c : Int, gc true st st (.int c) = (.int c, st) := fun c => by
    have := gc_val (frz := true) (st₀ := st) (st := st) (d := .int c) rfl (by have := oldOK_refl (k := st.length) (st := st) (l := []); rwa [List.append_nil] at this)
    rwa [List.take_length] at this
  by_cases hj : j < ns.length
  · have hj' : (j : Int) < ns.length := by omega
    simp [cellFn, startE, hj', getI_nat, hj, fin, gi, h]
  · have hj' : ¬ (j : Int) < ns.length := by omega
    simp [cellFn, startE, hj', pm, fin, gi, h]
/-! ### calls -/
theorem callN_W {T : Tab} {Wf n : Nat} {c f : String} {fn : Fn} {xs vs : List D} {ks : List (String × D)} {st : Store} {Q : D → Store → Prop} {E : Exn → Store → Prop} (hf : T.fns.lookup (c, f) = some fn) (hv : bindP fn.params xs ks fn.dfl = some vs)
    (h : (bodyR (T.prog (callN T Wf n)) Wf fn vs st).W Q E) : (callN T Wf (n + 1) c f xs ks st).W Q E := by
  simp only [callN, hf, hv]
  exact h
theorem call_W {T : Tab} {Wf n : Nat} {c f : String} {fn : Fn} {xs vs : List D} {ks : List (String × D)} {st : Store} {Q : D → Store → Prop} {E : Exn → Store → Prop} (hf : T.fns.lookup (c, f) = some fn) (hv : bindP fn.params xs ks fn.dfl = some vs)
    (h : (bodyR (T.prog (callN T Wf n)) Wf fn vs st).W Q E) : ((T.prog (callN T Wf (n + 1))).call c f xs ks st).W Q E := callN_W hf hv h
/-- a digit is drawn -/
def TakeOk (Φ : Prog) : Prop := ∀ {b : Nat} {B : Bx} {w : Int} {k : Nat} {st : Store} {Q : D → Store → Prop} {E : Exn → Store → Prop}, st[b]? = some B.o → B.Ok k → k < 2 ^ 40 → 0 < w → w < 2 ^ 30 →
  (∀ (v : Int) (B' : Bx), 0 ≤ v → v < w → B'.Ok (k + 1) → Q (.int v) (st.set b B'.o)) → (Φ.call "" "_law_take" [.ref b, .int w] [] st).W Q E
def BoxOk (Φ : Prog) : Prop := ∀ {c : Int} {st : Store} {Q : D → Store → Prop} {E : Exn → Store → Prop}, (∀ B : Bx, B.Ok 0 → Q (.ref st.length) (st ++ [B.o])) → (Φ.call "" "_law_box" [.int c] [] st).W Q E
def CellOk (Φ : Prog) : Prop := ∀ {ns : List Int} {j : Nat} {st : Store} {Q : D → Store → Prop} {E : Exn → Store → Prop}, (∀ c : Int, Q (.int c) st) → (Φ.call "" "_law_cell" [.scr ns, .int (j : Int)] [] st).W Q E
end PV
set_option Elab.async false
set_option linter.all false
set_option maxRecDepth 10000
set_option maxHeartbeats 4000000
/-! PvTok: tokens, as plain data; texts. -/
namespace PV
inductive Tok where
  | ch (c : Nat) | mk (d : Bool) | op (d : Bool) | cl
  deriving DecidableEq, Repr, Inhabited
abbrev sLtr : List Nat := [108, 116, 114]
abbrev sRtl : List Nat := [114, 116, 108]
abbrev sMark : List Nat := [109, 97, 114, 107]
abbrev sOpen : List Nat := [111, 112, 101, 110]
abbrev sClose : List Nat := [99, 108, 111, 115, 101]
abbrev sChar : List Nat := [99, 104, 97, 114, 97, 99, 116, 101, 114]
def dirS (d : Bool) : List Nat := if d then sLtr else sRtl
def arrow (d : Bool) : Nat := if d then 62 else 60
def Tok.txt : Tok → List Nat
  | .ch c => [c]
  | .mk d => [124, arrow d]
  | .op d => [123, arrow d]
  | .cl => [125]
def Tok.d : Tok → D
  | .ch c => .tup [.str sChar, .str [c]]
  | .mk d => .tup [.str sMark, .str (dirS d)]
  | .op d => .tup [.str sOpen, .str (dirS d)]
  | .cl => .tup [.str sClose]
def fmt (ts : List Tok) : List Nat := ts.flatMap Tok.txt
/-- a character's code -/
def isC (c : Nat) : Bool := decide (32 ≤ c) && decide (c ≤ 126) && !(c == 123) && !(c == 124) && !(c == 125) && !(c == 37)
def Tok.good : Tok → Bool
  | .ch c => isC c
  | _ => true
abbrev Good (ts : List Tok) : Prop := ∀ t ∈ ts, t.good = true
/-- depth behind: none where too much is closed -/
def dep : Nat → List Tok → Option Nat
  | k, [] => some k
  | k, .op _ :: r => dep (k + 1) r
  | 0, .cl :: _ => none
  | k + 1, .cl :: r => dep k r
  | k, .ch _ :: r => dep k r
  | k, .mk _ :: r => dep k r
def Bal (ts : List Tok) : Prop := dep 0 ts = some 0
@[simp] theorem fmt_nil : fmt [] = [] := rfl
@[simp] theorem fmt_cons {t : Tok} {r : List Tok} : fmt (t :: r) = t.txt ++ fmt r := by simp [fmt]
@[simp] theorem fmt_app {a b : List Tok} : fmt (a ++ b) = fmt a ++ fmt b := by simp [fmt]
theorem txt_len (t : Tok) : 1 ≤ t.txt.length ∧ t.txt.length ≤ 2 := by cases t <;> simp [Tok.txt]
theorem dep_ch {k : Nat} {c : Nat} {r : List Tok} : dep k (.ch c :: r) = dep k r := by cases k <;> rfl
theorem dep_mk {k : Nat} {d : Bool} {r : List Tok} : dep k (.mk d :: r) = dep k r := by cases k <;> rfl
theorem dep_op {k : Nat} {d : Bool} {r : List Tok} : dep k (.op d :: r) = dep (k + 1) r := by cases k <;> rfl
theorem dep_nil {k : Nat} : dep k [] = some k := by cases k <;> rfl
theorem dep_cl {k : Nat} {r : List Tok} : dep (k + 1) (.cl :: r) = dep k r := rfl
theorem dep_cl0 {r : List Tok} : dep 0 (.cl :: r) = none := rfl
theorem dep_app : ∀ {a b : List Tok} {k : Nat}, dep k (a ++ b) = (dep k a).bind fun j => dep j b
  | [], b, k => by rw [dep_nil]; rfl
  | .ch c :: a, b, k => by rw [List.cons_append, dep_ch, dep_ch, dep_app]
  | .mk c :: a, b, k => by rw [List.cons_append, dep_mk, dep_mk, dep_app]
  | .op c :: a, b, k => by rw [List.cons_append, dep_op, dep_op, dep_app]
  | .cl :: a, b, 0 => rfl
  | .cl :: a, b, k + 1 => by rw [List.cons_append, dep_cl, dep_cl, dep_app]
theorem dep_up : ∀ {a : List Tok} {k j m : Nat}, dep k a = some j → dep (k + m) a = some (j + m)
  | [], k, j, m, h => by rw [dep_nil] at h ⊢; cases h; rfl
  | .ch c :: a, k, j, m, h => by rw [dep_ch] at h ⊢; exact dep_up h
  | .mk c :: a, k, j, m, h => by rw [dep_mk] at h ⊢; exact dep_up h
  | .op c :: a, k, j, m, h => by
    rw [dep_op] at h ⊢
    have := dep_up (m := m) h
    rwa [Nat.add_right_comm] at this
  | .cl :: a, 0, j, m, h => by rw [dep_cl0] at h; cases h
  | .cl :: a, k + 1, j, m, h => by
    rw [dep_cl] at h
    rw [Nat.add_right_comm, dep_cl]
    exact dep_up h
theorem dep_bal {a : List Tok} {k : Nat} (h : Bal a) : dep k a = some k := by
  have := dep_up (m := k) h
  rwa [Nat.zero_add] at this
/-! ### places in texts -/
theorem cut_nat {α : Type} {xs : List α} {lo hi : Nat} : cut xs (some (lo : Int)) (some (hi : Int)) = (xs.drop lo).take (hi - lo) := by
  have h1 : ¬ ((lo : Int) < 0) := by omega
  have h2 : ¬ ((hi : Int) < 0) := by omega
  simp only [cut, sIx, h1, h2, if_false, Int.toNat_natCast]
  rcases Nat.le_total lo xs.length with h | h
  · rw [Nat.min_eq_left h]
    rcases Nat.le_total hi xs.length with g | g
    · rw [Nat.min_eq_left g]
    · rw [Nat.min_eq_right g]
      rw [List.take_of_length_le (by simp), List.take_of_length_le (by simp; omega)]
  · rw [Nat.min_eq_right h, List.drop_of_length_le h, List.drop_of_length_le (Nat.le_refl _)]
    simp
theorem cut_to {α : Type} {xs : List α} {hi : Nat} : cut xs none (some (hi : Int)) = xs.take hi := by
  have h2 : ¬ ((hi : Int) < 0) := by omega
  simp only [cut, sIx, h2, if_false, Int.toNat_natCast, List.drop_zero, Nat.sub_zero]
  rcases Nat.le_total hi xs.length with g | g
  · rw [Nat.min_eq_left g]
  · rw [Nat.min_eq_right g, List.take_of_length_le (Nat.le_refl _), List.take_of_length_le g]
theorem cut_from {α : Type} {xs : List α} {lo : Nat} : cut xs (some (lo : Int)) none = xs.drop lo := by
  have h2 : ¬ ((lo : Int) < 0) := by omega
  simp only [cut, sIx, h2, if_false, Int.toNat_natCast]
  rcases Nat.le_total lo xs.length with g | g
  · rw [Nat.min_eq_left g, List.take_of_length_le (by simp)]
  · rw [Nat.min_eq_right g, List.drop_of_length_le g, List.drop_of_length_le (Nat.le_refl _)]
    simp
theorem gc_same {frz : Bool} {st : Store} {d : D} (h : refsD 0 d = true) : gc frz st st d = (d, st) := by
  have := gc_val (frz := frz) (st₀ := st) (st := st) (d := d) h (by have := oldOK_refl (k := st.length) (st := st) (l := []); rwa [List.append_nil] at this)
  rwa [List.take_length] at this
theorem gc_app {frz : Bool} {st l : Store} {d : D} (h : refsD 0 d = true) : gc frz st (st ++ l) d = (d, st) := by
  rw [gc_val h oldOK_refl, take_app]
/-! ### the program's constants -/
structure GlobT (Φ : Prog) : Prop where
  dirs : Φ.glob "DIRECTIONS" = some (.tup [.str sLtr, .str sRtl])
  signs : Φ.glob "SIGNS" = some (.frd [(.str [62], .str sLtr), (.str [60], .str sRtl)])
  arrows : Φ.glob "ARROWS" = some (.frd [(.str sLtr, .str [62]), (.str sRtl, .str [60])])
  cls : True
/-! ### promises -/
def IsCharOk (Φ : Prog) : Prop := ∀ {c : Nat} {st : Store} {Q : D → Store → Prop} {E : Exn → Store → Prop}, Q (.bl (isC c)) st → (Φ.call "" "is_character" [.str [c]] [] st).W Q E
@[simp] theorem ltText1 {a b : Nat} : ltText [a] [b] = decide (a < b) := by
  simp only [ltText]
  by_cases h : a < b
  · simp [h]
  · by_cases g : b < a
    · simp [h, g]
    · simp [h, g]
@[simp] theorem flat_non : flat .non = true := rfl
@[simp] theorem flat_bl {b : Bool} : flat (.bl b) = true := rfl
@[simp] theorem flat_int {i : Int} : flat (.int i) = true := rfl
@[simp] theorem flat_str {x : List Nat} : flat (.str x) = true := rfl
section
variable {st : Store} {xs : List D} {x : List Nat} {i : Int}
@[simp] theorem inn_tup_s : cmpR .inn (.str x) (.tup xs) st = if xs.all flat = true then .ok (.bl (xs.any fun y => eqF y (.str x))) st else .stuck := inn_tup rfl
@[simp] theorem inn_tup_i : cmpR .inn (.int i) (.tup xs) st = if xs.all flat = true then .ok (.bl (xs.any fun y => eqF y (.int i))) st else .stuck := inn_tup rfl
@[simp] theorem inn_frz_s : cmpR .inn (.str x) (.frz xs) st = if xs.all flat = true then .ok (.bl (xs.any fun y => eqF y (.str x))) st else .stuck := inn_frz rfl
@[simp] theorem inn_frz_i : cmpR .inn (.int i) (.frz xs) st = if xs.all flat = true then .ok (.bl (xs.any fun y => eqF y (.int i))) st else .stuck := inn_frz rfl
@[simp] theorem notin_tup_s : cmpR .notin (.str x) (.tup xs) st = if xs.all flat = true then .ok (.bl (!xs.any fun y => eqF y (.str x))) st else .stuck := notin_tup rfl
@[simp] theorem notin_tup_i : cmpR .notin (.int i) (.tup xs) st = if xs.all flat = true then .ok (.bl (!xs.any fun y => eqF y (.int i))) st else .stuck := notin_tup rfl
@[simp] theorem eqF_ss {a b : List Nat} : eqF (.str a) (.str b) = (a == b) := rfl
@[simp] theorem eqF_ii {a b : Int} : eqF (.int a) (.int b) = (a == b) := rfl
variable {frz : Bool}
@[simp] theorem gcs_str : gc frz st st (.str x) = (.str x, st) := gc_same rfl
@[simp] theorem gcs_int : gc frz st st (.int i) = (.int i, st) := gc_same rfl
@[simp] theorem gcs_bl {b : Bool} : gc frz st st (.bl b) = (.bl b, st) := gc_same rfl
@[simp] theorem gcs_non : gc frz st st .non = (.non, st) := gc_same rfl
variable {l : Store}
@[simp] theorem gca_str : gc frz st (st ++ l) (.str x) = (.str x, st) := gc_app rfl
@[simp] theorem gca_int : gc frz st (st ++ l) (.int i) = (.int i, st) := gc_app rfl
@[simp] theorem gca_bl {b : Bool} : gc frz st (st ++ l) (.bl b) = (.bl b, st) := gc_app rfl
@[simp] theorem gca_non : gc frz st (st ++ l) .non = (.non, st) := gc_app rfl
theorem getk {f : String} {kvs : List (D × D)} {dflt : D} : methB .get (.frd kvs) [.str x, dflt] st = .ok ((dget kvs (.str x)).getD dflt) st := rfl
end
end PV
set_option Elab.async false
set_option linter.all false
set_option maxRecDepth 10000
set_option maxHeartbeats 4000000
/-! PvP1: the defs about characters, tokens: what they find. -/
namespace PV
theorem is_character_body {Φ : Prog} {Wf : Nat} {c : Nat} {st : Store} {Q : D → Store → Prop} {E : Exn → Store → Prop} (h : Q (.bl (isC c)) st) : (bodyR Φ Wf P.f_is_character [.str [c]] st).W Q E := by
  apply body_W
  have hL : (1 : Nat) ≤ LIM := by decide
  by_cases h37 : c = 37
  · subst h37
    simp [P.f_is_character, startE, hL, tyIn, isTy, fin]
    exact h
  · have e37 : ¬ ((c : Int) = 37) := by omega
    simp [P.f_is_character, startE, hL, tyIn, isTy, fin, e37]
    by_cases h1 : 32 ≤ c
    · simp [h1]
      by_cases h2 : c ≤ 126
      · simp [h2]
        have : isC c = (!decide (c = 123) && (!decide (c = 124) && !decide (c = 125))) := by
          by_cases a : c = 123 <;> by_cases b : c = 124 <;> by_cases d : c = 125 <;> simp [isC, h1, h2, h37, a, b, d]
        rw [← this]
        exact h
      · simp [h2]
        have : isC c = false := by simp [isC, h2]
        rw [← this]
        exact h
    · simp [h1]
      have : isC c = false := by simp [isC, h1]
      rw [← this]
      exact h
theorem is_sequence_tup {Φ : Prog} {Wf : Nat} {xs : List D} {st : Store} {Q : D → Store → Prop} {E : Exn → Store → Prop} (h : Q (.bl true) st) : (bodyR Φ Wf P.f_is_sequence [.tup xs] st).W Q E := by
  apply body_W
  simp [P.f_is_sequence, startE, tyIn, isTy, fin]
  exact h
theorem is_sequence_frz {Φ : Prog} {Wf : Nat} {xs : List D} {st : Store} {Q : D → Store → Prop} {E : Exn → Store → Prop} (h : Q (.bl true) st) : (bodyR Φ Wf P.f_is_sequence [.frz xs] st).W Q E := by
  apply body_W
  simp [P.f_is_sequence, startE, tyIn, isTy, fin]
  exact h
theorem is_sequence_ref {Φ : Prog} {Wf : Nat} {n : Nat} {xs : List D} {st : Store} {Q : D → Store → Prop} {E : Exn → Store → Prop} (hn : st[n]? = some (.lst xs)) (h : Q (.bl true) st) : (bodyR Φ Wf P.f_is_sequence [.ref n] st).W Q E := by
  apply body_W
  simp [P.f_is_sequence, startE, tyIn, isTy, fin, hn]
  exact h
theorem is_direction_dir {Φ : Prog} {Wf : Nat} (g : GlobT Φ) {d : Bool} {st : Store} {Q : D → Store → Prop} {E : Exn → Store → Prop} (h : Q (.bl true) st) : (bodyR Φ Wf P.f_is_direction [.str (dirS d)] st).W Q E := by
  apply body_W
  cases d <;> (simp [P.f_is_direction, startE, tyIn, isTy, fin, g.dirs, dirS]; exact h)
/-- a def's promise, by name -/
abbrev Pure1 (Φ : Prog) (f : String) (x y : D) : Prop := ∀ {st : Store} {Q : D → Store → Prop} {E : Exn → Store → Prop}, Q y st → (Φ.call "" f [x] [] st).W Q E
theorem is_token_body {Φ : Prog} {Wf : Nat} (hc : IsCharOk Φ) (hd : ∀ d, Pure1 Φ "is_direction" (.str (dirS d)) (.bl true)) {t : Tok} (ht : t.good = true) {st : Store} {Q : D → Store → Prop} {E : Exn → Store → Prop} (h : Q (.bl true) st) : (bodyR Φ Wf P.f_is_token [t.d] st).W Q E := by
  apply body_W
  cases t with
  | ch c =>
    simp [P.f_is_token, startE, Tok.d, tyIn, isTy, fin]
    refine hc ?_
    have : isC c = true := ht
    rw [this]
    simpa using h
  | cl =>
    simp [P.f_is_token, startE, Tok.d, tyIn, isTy, fin]
    exact h
  | mk d =>
    simp [P.f_is_token, startE, Tok.d, tyIn, isTy, fin]
    refine hd d ?_
    simpa using h
  | op d =>
    simp [P.f_is_token, startE, Tok.d, tyIn, isTy, fin]
    refine hd d ?_
    simpa using h
theorem token_text_body {Φ : Prog} {Wf : Nat} (g : GlobT Φ) {t : Tok} {st : Store} {Q : D → Store → Prop} {E : Exn → Store → Prop} (h : Q (.str t.txt) st) : (bodyR Φ Wf P.f_token_text [t.d] st).W Q E := by
  apply body_W
  have hL : (2 : Nat) ≤ LIM := by decide
  cases t with
  | ch c => simp [P.f_token_text, startE, Tok.d, fin]; exact h
  | cl => simp [P.f_token_text, startE, Tok.d, fin]; exact h
  | mk d => cases d <;> (simp [P.f_token_text, startE, Tok.d, fin, g.arrows, dirS, dget, hL]; exact h)
  | op d => cases d <;> (simp [P.f_token_text, startE, Tok.d, fin, g.arrows, dirS, dget, hL]; exact h)
/-- the items that a walk reads: a tuple, data, or a list of the store -/
inductive SeqAt (st : Store) : D → List D → Prop where
  | tup {xs : List D} : SeqAt st (.tup xs) xs
  | frz {xs : List D} : SeqAt st (.frz xs) xs
  | ref {n : Nat} {xs : List D} (h : st[n]? = some (.lst xs)) : SeqAt st (.ref n) xs
theorem SeqAt.iter {st : Store} {x : D} {xs : List D} (h : SeqAt st x xs) : ∃ src, iterR x st = .ok (xs, src) st := by
  cases h with
  | tup => exact ⟨_, rfl⟩
  | frz => exact ⟨_, rfl⟩
  | ref h => exact ⟨_, by rw [iterR_ref, h]; rfl⟩
@[simp] theorem srcs_same {src : List Nat} {st : Store} : src.all (fun n => st[n]? == st[n]?) = true := by simp
def balI (x : D) (st : Store) (ds : List D) (σ : Env) (st' : Store) : Prop := ∃ (rest : List Tok) (k : Nat) (o : Option D), ds = rest.map Tok.d ∧ dep k rest = some 0 ∧ st' = st ∧ σ = [some x, some (.int (k : Int)), o]
theorem is_balanced_body {Φ : Prog} {Wf : Nat} {ts : List Tok} (hb : Bal ts) {x : D} {st : Store} (hx : SeqAt st x (ts.map Tok.d)) {Q : D → Store → Prop} {E : Exn → Store → Prop} (h : Q (.bl true) st) : (bodyR Φ Wf P.f_is_balanced [x] st).W Q E := by
  apply body_W
  obtain ⟨src, hi⟩ := hx.iter
  simp [P.f_is_balanced, startE, fin, hi]
  refine forL_W (balI x st) ⟨ts, 0, none, rfl, hb, rfl, rfl⟩ ?_ ?_
  · rintro d r σ st' ⟨rest, k, o, e1, e2, rfl, rfl⟩
    cases rest with
    | nil => simp at e1
    | cons t rest =>
      simp only [List.map_cons, List.cons.injEq] at e1
      obtain ⟨rfl, rfl⟩ := e1
      cases t with
      | ch c =>
        have h0 : ¬ ((k : Int) < 0) := by omega
        simp [Tok.d, dctR, isKey, dput, getk, dget, h0]
        exact ⟨rest, k, _, rfl, by rwa [dep_ch] at e2, rfl, rfl⟩
      | mk c =>
        have h0 : ¬ ((k : Int) < 0) := by omega
        simp [Tok.d, dctR, isKey, dput, getk, dget, h0]
        exact ⟨rest, k, _, rfl, by rwa [dep_mk] at e2, rfl, rfl⟩
      | op c =>
        have h0 : ¬ ((k : Int) + 1 < 0) := by omega
        simp [Tok.d, dctR, isKey, dput, getk, dget, h0]
        exact ⟨rest, k + 1, some (Tok.op c).d, rfl, by rwa [dep_op] at e2, rfl, by simp [Tok.d]⟩
      | cl =>
        cases k with
        | zero => rw [dep_cl0] at e2; cases e2
        | succ k =>
          have h0 : ¬ (((k : Int) + 1) + -1 < 0) := by omega
          have h1 : ((k : Int) + 1) + -1 = (k : Int) := by omega
          simp [Tok.d, dctR, isKey, dput, getk, dget, h0, h1]
          exact ⟨fun _ _ => rfl, rest, k, _, rfl, by rwa [dep_cl] at e2, rfl, rfl⟩
  · rintro σ st' ⟨rest, k, o, e1, e2, rfl, rfl⟩
    cases rest with
    | cons t rest => simp at e1
    | nil =>
      rw [dep_nil] at e2
      cases e2
      simp
      exact h
/-- promises about one token, by name -/
structure TokOk (Φ : Prog) : Prop where
  isTok : ∀ t : Tok, t.good = true → Pure1 Φ "is_token" t.d (.bl true)
  txt : ∀ t : Tok, Pure1 Φ "token_text" t.d (.str t.txt)
  isCh : IsCharOk Φ
/-- promises about lists of tokens -/
structure ToksOk (Φ : Prog) : Prop where
  bal : ∀ {ts : List Tok} {x : D} {st : Store} {Q : D → Store → Prop} {E : Exn → Store → Prop}, Bal ts → SeqAt st x (ts.map Tok.d) → Q (.bl true) st → (Φ.call "" "is_balanced" [x] [] st).W Q E
  seq : ∀ {xs : List D} {x : D} {st : Store} {Q : D → Store → Prop} {E : Exn → Store → Prop}, SeqAt st x xs → Q (.bl true) st → (Φ.call "" "is_sequence" [x] [] st).W Q E
/-- a comprehension of calls -/
theorem comp_map {src : List Nat} {f : D → Store → List D → Res (List D)} {α : Type} (u g : α → D) (ok : α → Prop) {st : Store} {Q : List D → Store → Prop} {E : Exn → Store → Prop} (hf : ∀ a acc (R : List D → Store → Prop), ok a → R (acc ++ [g a]) st → (f (u a) st acc).W R noE) :
    ∀ {l : List α} {acc : List D}, (∀ a ∈ l, ok a) → Q (acc ++ l.map g) st → (compL src f (l.map u) acc st).W Q E := fun {l acc} hl hq =>
  compL_W (fun ds acc' st' => ∃ r, ds = r.map u ∧ (∀ a ∈ r, ok a) ∧ st' = st ∧ acc ++ l.map g = acc' ++ r.map g) ⟨l, rfl, hl, rfl, rfl⟩ (fun d r acc' st' ⟨r', e1, e2, e3, e4⟩ => by
    subst e3
    cases r' with
    | nil => simp at e1
    | cons a r' =>
      simp only [List.map_cons, List.cons.injEq] at e1
      obtain ⟨rfl, rfl⟩ := e1
      exact hf a acc' _ (e2 a List.mem_cons_self) ⟨srcs_same, r', rfl, fun b hb => e2 b (List.mem_cons_of_mem _ hb), rfl, by simp [e4]⟩) fun acc' st' ⟨r', e1, e2, e3, e4⟩ => by
    subst e3
    cases r' with
    | cons a r' => simp at e1
    | nil =>
      simp only [List.map_nil, List.append_nil] at e4
      rwa [e4] at hq
/-- a comprehension of some -/
theorem comp_filter {src : List Nat} {f : D → Store → List D → Res (List D)} {α : Type} (u g : α → D) (p : α → Bool) {st : Store} {Q : List D → Store → Prop} {E : Exn → Store → Prop} (hf : ∀ a acc (R : List D → Store → Prop), R (if p a then acc ++ [g a] else acc) st → (f (u a) st acc).W R noE) :
    ∀ {l : List α} {acc : List D}, Q (acc ++ (l.filter p).map g) st → (compL src f (l.map u) acc st).W Q E := fun {l acc} hq =>
  compL_W (fun ds acc' st' => ∃ r, ds = r.map u ∧ st' = st ∧ acc ++ (l.filter p).map g = acc' ++ (r.filter p).map g) ⟨l, rfl, rfl, rfl⟩ (fun d r acc' st' ⟨r', e1, e3, e4⟩ => by
    subst e3
    cases r' with
    | nil => simp at e1
    | cons a r' =>
      simp only [List.map_cons, List.cons.injEq] at e1
      obtain ⟨rfl, rfl⟩ := e1
      refine hf a acc' _ ⟨srcs_same, r', rfl, rfl, ?_⟩
      by_cases h : p a = true
      · simp [e4, h, List.filter_cons]
      · simp [e4, h, List.filter_cons]) fun acc' st' ⟨r', e1, e3, e4⟩ => by
    subst e3
    cases r' with
    | cons a r' => simp at e1
    | nil =>
      simp only [List.filter_nil, List.map_nil, List.append_nil] at e4
      rwa [e4] at hq
theorem asB_true : ∀ {α : Type} {l : List α}, asB (l.map fun _ => D.bl true) = some (l.map fun _ => true)
  | _, [] => rfl
  | _, a :: l => by simp [asB, asB_true (l := l)]
theorem asS_map : ∀ {α : Type} {g : α → List Nat} {l : List α}, asS (l.map fun a => D.str (g a)) = some (l.map g)
  | _, _, [] => rfl
  | _, g, a :: l => by simp [asS, asS_map (l := l)]
theorem join_nil : ∀ {l : List (List Nat)}, join [] l = l.flatten
  | [] => rfl
  | [x] => by simp [join]
  | x :: y :: l => by simp [join, join_nil (l := y :: l)]
theorem fmt_flat {ts : List Tok} : (ts.map Tok.txt).flatten = fmt ts := by simp [fmt, List.flatMap_def]
theorem fmt_len {ts : List Tok} : (fmt ts).length = ((ts.map Tok.txt).map (·.length)).sum := by
  rw [← fmt_flat, List.length_flatten]
theorem len_fmt_ge {ts : List Tok} : ts.length ≤ (fmt ts).length := by
  induction ts with
  | nil => simp
  | cons t ts ih =>
    have := txt_len t
    simp; omega
theorem format_tokens_body {Φ : Prog} {Wf : Nat} (h1 : TokOk Φ) (h2 : ToksOk Φ) {ts : List Tok} (hg : Good ts) (hb : Bal ts) (hl : (fmt ts).length ≤ LIM) {x : D} {st : Store} (hx : SeqAt st x (ts.map Tok.d)) {Q : D → Store → Prop} {E : Exn → Store → Prop} (h : Q (.str (fmt ts)) st) :
    (bodyR Φ Wf P.f_format_tokens [x] st).W Q E := by
  apply body_W
  obtain ⟨src, hi⟩ := hx.iter
  have l1 : ts.length ≤ LIM := Nat.le_trans len_fmt_ge hl
  simp [P.f_format_tokens, startE, fin]
  refine h2.seq hx ?_
  simp [hi]
  refine comp_map (α := Tok) Tok.d (fun _ => .bl true) (fun t => t.good = true) (fun t acc R ht hR => ?_) (fun t ht => hg t ht) ?_
  · simp [turnC, wipe]
    refine h1.isTok t ht ?_
    simpa using hR
  · simp [mkL, l1, asB_true]
    refine h2.bal hb hx ?_
    simp [hi]
    refine comp_map (α := Tok) Tok.d (fun t => .str t.txt) (fun t => True) (fun t acc R ht hR => ?_) (fun t ht => trivial) ?_
    · simp [turnC, wipe]
      refine h1.txt t ?_
      simpa using hR
    · have e1 : ((ts.map Tok.txt).map (·.length)).sum ≤ LIM := by rw [← fmt_len]; exact hl
      have e2 := asS_map (g := Tok.txt) (l := ts)
      simp only [List.map_map] at e1
      simp [mkL, l1, e2, e1, join_nil, fmt_flat]
      exact h
/-! ### reading a text -/
def tokI (ts : List Tok) (st : Store) (m : Nat) (σ : Env) (st' : Store) : Prop := ∃ (a r : List Tok) (k : Nat) (o : Option D), ts = a ++ r ∧ m = r.length ∧ dep k r = some 0 ∧ Good r ∧ st' = st ++ [.lst (a.map Tok.d)] ∧
  σ = [some (.str (fmt ts)), some (.ref st.length), some (.int (k : Int)), some (.int ((fmt a).length : Int)), o]
theorem get_mid {a : List Nat} {x : Nat} {b : List Nat} : (a ++ x :: b)[a.length]? = some x := by simp
theorem get_mid1 {a : List Nat} {x y : Nat} {b : List Nat} : (a ++ x :: y :: b)[a.length + 1]? = some y := by
  rw [List.getElem?_append_right (by omega)]
  simp
theorem cut_mid1 {a : List Nat} {x y : Nat} {b : List Nat} : cut (a ++ x :: y :: b) (some ((a.length : Int) + 1)) (some ((a.length : Int) + 2)) = [y] := by
  have := cut_nat (xs := a ++ x :: y :: b) (lo := a.length + 1) (hi := a.length + 2)
  simp only [Int.natCast_add, Int.cast_ofNat_Int] at this
  rw [this, ← List.drop_drop, List.drop_left]
  simp
theorem refs_toks : ∀ {ts : List Tok}, refsL 0 (ts.map Tok.d) = true
  | [] => rfl
  | t :: ts => by
    rw [List.map_cons]
    simp only [refsL, refs_toks (ts := ts), Bool.and_true]
    cases t <;> simp [Tok.d, refsD, refsL]
/-- the tokens of a good text -/
theorem tokens_body {Φ : Prog} {Wf : Nat} (g : GlobT Φ) (hc : IsCharOk Φ) {ts : List Tok} (hg : Good ts) (hb : Bal ts) (hl : (fmt ts).length ≤ LIM - 2) (hw : (fmt ts).length < Wf) {fz : Bool} {st : Store} {Q : D → Store → Prop} {E : Exn → Store → Prop}
    (h : Q (if fz then .frz (ts.map Tok.d) else .ref st.length) (if fz then st else st ++ [.lst (ts.map Tok.d)])) : (bodyR Φ Wf { P.f_tokens with frz := fz } [.str (fmt ts)] st).W Q E := by
  apply body_W
  have hL : (fmt ts).length ≤ LIM := by omega
  simp [P.f_tokens, startE, tyIn, isTy]
  rw [w_swhl]
  have l0 : ∀ a r : List Tok, ts = a ++ r → (fmt ts).length = (fmt a).length + (fmt r).length := fun a r e => by rw [e, fmt_app, List.length_append]
  refine while_W (tokI ts st) (m := ts.length) (fun m σ st' hI => ?_) ⟨[], ts, 0, none, rfl, rfl, hb, hg, rfl, rfl⟩ (Nat.lt_of_le_of_lt len_fmt_ge hw)
  obtain ⟨a, r, k, o, e, em, hk, gr, rfl, rfl⟩ := hI
  have el := l0 a r e
  simp [hL]
  cases r with
  | nil =>
    have c : ¬ (fmt a).length < (fmt ts).length := by rw [el]; simp
    rw [dep_nil] at hk
    cases hk
    simp only [List.append_nil] at e
    subst e
    simp [c, fin]
    cases fz with
    | false =>
      simp only [Bool.false_eq_true, if_false] at h ⊢
      rw [gc_own (Nat.le_refl _)]
      exact h
    | true =>
      simp only [if_true] at h ⊢
      rw [gc_lst (n := st.length) (xs := ts.map Tok.d) (Nat.le_refl _) (by simp) ?_ oldOK_refl, take_app]
      · exact h
      · exact refs_toks
  | cons t r =>
    have c : (fmt a).length < (fmt ts).length := by
      have := txt_len t
      rw [el]; simp; omega
    have lt : a.length < LIM := by
      have := len_fmt_ge (ts := a)
      have := txt_len t
      simp at el
      omega
    have gt := gr t List.mem_cons_self
    have gr' : Good r := fun u hu => gr u (List.mem_cons_of_mem _ hu)
    cases t with
    | ch cc =>
      have ef : fmt ts = fmt a ++ cc :: fmt r := by rw [e]; simp [Tok.txt]
      have gi : getI (fmt ts) ((fmt a).length : Int) = some cc := by rw [getI_nat, ef, get_mid]
      have n1 : ¬ (cc = 123 ∨ cc = 124) := by
        have : isC cc = true := gt
        simp [isC] at this
        omega
      have n2 : ¬ (cc = 125) := by
        have : isC cc = true := gt
        simp [isC] at this
        omega
      simp [c, gi, n1, n2]
      refine hc ?_
      have : isC cc = true := gt
      rw [this]
      simp [lt]
      exact ⟨r.length, by simp [em], a ++ [.ch cc], r, k, some (.str [cc]), by simp [e], rfl, by rwa [dep_ch] at hk, gr', by simp [Tok.d], by simp [Tok.txt]⟩
    | mk d =>
      have ef : fmt ts = fmt a ++ 124 :: arrow d :: fmt r := by rw [e]; simp [Tok.txt]
      have gi : getI (fmt ts) ((fmt a).length : Int) = some 124 := by rw [getI_nat, ef, get_mid]
      have gj : getI (fmt ts) (((fmt a).length : Int) + 1) = some (arrow d) := by
        have : (((fmt a).length : Int) + 1) = ((fmt a).length + 1 : Nat) := by omega
        rw [this, getI_nat, ef, get_mid1]
      have gc : cut (fmt ts) (some (((fmt a).length : Int) + 1)) (some (((fmt a).length : Int) + 2)) = [arrow d] := by rw [ef, cut_mid1]
      simp [c, gi, gj, gc, g.signs, hL]
      cases d with
      | false =>
        simp [arrow, dget, hL, lt, g.signs, gj]
        exact ⟨r.length, by simp [em], a ++ [.mk false], r, k, some (.str [124]), by simp [e], rfl, by rwa [dep_mk] at hk, gr', by simp [Tok.d, dirS], by simp [Tok.txt]; omega⟩
      | true =>
        simp [arrow, dget, hL, lt, g.signs, gj]
        exact ⟨r.length, by simp [em], a ++ [.mk true], r, k, some (.str [124]), by simp [e], rfl, by rwa [dep_mk] at hk, gr', by simp [Tok.d, dirS], by simp [Tok.txt]; omega⟩
    | op d =>
      have ef : fmt ts = fmt a ++ 123 :: arrow d :: fmt r := by rw [e]; simp [Tok.txt]
      have gi : getI (fmt ts) ((fmt a).length : Int) = some 123 := by rw [getI_nat, ef, get_mid]
      have gj : getI (fmt ts) (((fmt a).length : Int) + 1) = some (arrow d) := by
        have : (((fmt a).length : Int) + 1) = ((fmt a).length + 1 : Nat) := by omega
        rw [this, getI_nat, ef, get_mid1]
      have gc : cut (fmt ts) (some (((fmt a).length : Int) + 1)) (some (((fmt a).length : Int) + 2)) = [arrow d] := by rw [ef, cut_mid1]
      simp [c, gi, gj, gc, g.signs, hL]
      cases d with
      | false =>
        simp [arrow, dget, hL, lt, g.signs, gj]
        exact ⟨r.length, by simp [em], a ++ [.op false], r, k + 1, some (.str [123]), by simp [e], rfl, by rwa [dep_op] at hk, gr', by simp [Tok.d, dirS], by simp [Tok.txt]; omega⟩
      | true =>
        simp [arrow, dget, hL, lt, g.signs, gj]
        exact ⟨r.length, by simp [em], a ++ [.op true], r, k + 1, some (.str [123]), by simp [e], rfl, by rwa [dep_op] at hk, gr', by simp [Tok.d, dirS], by simp [Tok.txt]; omega⟩
    | cl =>
      have ef : fmt ts = fmt a ++ 125 :: fmt r := by rw [e]; simp [Tok.txt]
      have gi : getI (fmt ts) ((fmt a).length : Int) = some 125 := by rw [getI_nat, ef, get_mid]
      cases k with
      | zero => rw [dep_cl0] at hk; cases hk
      | succ k =>
        have hk1 : (0 : Int) < (k : Int) + 1 := by omega
        have hk2 : (k : Int) + 1 - 1 = (k : Int) := by omega
        simp [c, gi, hk1, lt, hk2]
        exact ⟨r.length, by simp [em], a ++ [.cl], r, k, some (.str [125]), by simp [e], rfl, by rwa [dep_cl] at hk, gr', by simp [Tok.d], by simp [Tok.txt]⟩
/-- tokens of a good text, by name: given out as data (fz), or as a list of its own -/
def TokensOk (Φ : Prog) (fz : Bool) : Prop := ∀ {ts : List Tok} {st : Store} {Q : D → Store → Prop} {E : Exn → Store → Prop}, Good ts → Bal ts → (fmt ts).length ≤ 10000 →
  Q (if fz then .frz (ts.map Tok.d) else .ref st.length) (if fz then st else st ++ [.lst (ts.map Tok.d)]) → (Φ.call "" "tokens" [.str (fmt ts)] [] st).W Q E
def Tok.isCh : Tok → Bool
  | .ch _ => true
  | _ => false
def Tok.ctl : Tok → Bool
  | .mk _ | .op _ => true
  | _ => false
def Tok.c : Tok → List Nat
  | .ch c => [c]
  | _ => []
/-- the characters -/
def chars (ts : List Tok) : List Nat := ts.flatMap Tok.c
theorem chars_filter {ts : List Tok} : ((ts.filter Tok.isCh).map Tok.c).flatten = chars ts := by
  induction ts with
  | nil => rfl
  | cons t ts ih =>
    have e : chars (t :: ts) = t.c ++ chars ts := by simp [chars]
    rw [e, ← ih]
    cases t <;> simp [List.filter_cons, Tok.isCh, Tok.c]
theorem chars_len {ts : List Tok} : (chars ts).length ≤ (fmt ts).length := by
  induction ts with
  | nil => simp [chars]
  | cons t ts ih =>
    have e : chars (t :: ts) = t.c ++ chars ts := by simp [chars]
    rw [e, fmt_cons]
    cases t <;> simp [Tok.c, Tok.txt] <;> omega
@[simp] theorem beq_self_opt {o : Option SO} : (o == o) = true := by simp
theorem tokens_iter (fz : Bool) {ts : List Tok} {st : Store} : ∃ src, iterR (if fz then .frz (ts.map Tok.d) else .ref st.length) (if fz then st else st ++ [.lst (ts.map Tok.d)]) = .ok (ts.map Tok.d, src) (if fz then st else st ++ [.lst (ts.map Tok.d)]) := by
  cases fz with
  | true => exact ⟨_, rfl⟩
  | false => exact ⟨_, by simp; rfl⟩
theorem plain_text_body {Φ : Prog} {Wf : Nat} {fz : Bool} (ht : TokensOk Φ fz) {ts : List Tok} (hg : Good ts) (hb : Bal ts) (hl : (fmt ts).length ≤ 10000) {st : Store} {Q : D → Store → Prop} {E : Exn → Store → Prop} (h : Q (.str (chars ts)) st) :
    (bodyR Φ Wf P.f_plain_text [.str (fmt ts)] st).W Q E := by
  apply body_W
  have l1 : (ts.filter Tok.isCh).length ≤ LIM := by
    have := len_fmt_ge (ts := ts)
    have := List.length_filter_le Tok.isCh ts
    unfold LIM; omega
  obtain ⟨src, hi⟩ := tokens_iter fz (ts := ts) (st := st)
  simp [P.f_plain_text, startE, fin]
  refine ht hg hb hl ?_
  simp [hi]
  refine comp_filter (α := Tok) Tok.d (fun t => .str t.c) Tok.isCh (fun t acc R hR => ?_) ?_
  · cases t <;> (simp [turnC, wipe, Tok.d]; simpa [Tok.isCh, Tok.c] using hR)
  · have e2 := asS_map (g := Tok.c) (l := ts.filter Tok.isCh)
    have e1 : (((ts.filter Tok.isCh).map Tok.c).map (·.length)).sum ≤ LIM := by
      rw [← List.length_flatten, chars_filter]
      have := chars_len (ts := ts)
      unfold LIM; omega
    simp only [List.map_map] at e1
    simp [mkL, l1, e2, e1, join_nil, chars_filter]
    cases fz <;> (simp; exact h)
theorem control_count_body {Φ : Prog} {Wf : Nat} {fz : Bool} (ht : TokensOk Φ fz) {ts : List Tok} (hg : Good ts) (hb : Bal ts) (hl : (fmt ts).length ≤ 10000) {st : Store} {Q : D → Store → Prop} {E : Exn → Store → Prop} (h : Q (.int (ts.filter Tok.ctl).length) st) :
    (bodyR Φ Wf P.f_control_count [.str (fmt ts)] st).W Q E := by
  apply body_W
  have l1 : (ts.filter Tok.ctl).length ≤ LIM := by
    have := len_fmt_ge (ts := ts)
    have := List.length_filter_le Tok.ctl ts
    unfold LIM; omega
  obtain ⟨src, hi⟩ := tokens_iter fz (ts := ts) (st := st)
  simp [P.f_control_count, startE, fin]
  refine ht hg hb hl ?_
  simp [hi]
  refine comp_filter (α := Tok) Tok.d Tok.d Tok.ctl (fun t acc R hR => ?_) ?_
  · cases t <;> (simp [turnC, wipe, Tok.d]; simpa [Tok.ctl, Tok.d] using hR)
  · simp [mkL, l1]
    cases fz <;> (simp; exact h)
end PV
set_option Elab.async false
set_option linter.all false
set_option maxRecDepth 10000
set_option maxHeartbeats 4000000
/-! PvRep: repr of data is defined where the data is small. -/
namespace PV
open PySem
mutual
/-- a bound of repr's length -/
def wt : D → Nat
  | .str s => 2 + 10 * s.length
  | .int _ => 1921
  | .tup xs | .frz xs => 3 + wts xs
  | .frd kvs => 3 + wtk kvs
  | _ => 5
def wts : List D → Nat
  | [] => 0
  | x :: xs => wt x + 2 + wts xs
def wtk : List (D × D) → Nat
  | [] => 0
  | (q, x) :: xs => wt q + wt x + 4 + wtk xs
end
mutual
/-- ints are small -/
def smI : D → Bool
  | .int i => decide (i.natAbs.log2 < 1920)
  | .tup xs | .frz xs => smIs xs
  | .frd kvs => smIk kvs
  | _ => true
def smIs : List D → Bool
  | [] => true
  | x :: xs => smI x && smIs xs
def smIk : List (D × D) → Bool
  | [] => true
  | (q, x) :: xs => smI q && smI x && smIk xs
end
theorem key_dat {q : D} (h : keyOk q = true) : datD q = true ∧ keyPyD q = pyD q := by
  cases q <;> first | (simp [keyOk] at h; done) | (refine ⟨by simpa [keyOk, datD] using h, by simp [keyPyD, pyD]⟩)
mutual
theorem smI_ok : ∀ {d : D}, datD d = true → smI d = true → (pyD d).showable = true
  | .non, _, _ => by simp [pyD, PyData.showable]
  | .bl _, _, _ => by simp [pyD, PyData.showable]
  | .int _, _, h => by simpa [pyD, PyData.showable, smI] using h
  | .str _, _, _ => by simp [pyD, PyData.showable]
  | .frd kvs, p, h => by simp only [pyD, PyData.showable]; exact smIk_ok (by simpa only [datD] using p) (by simpa only [smI] using h)
  | .tup xs, p, h => by simp only [pyD, PyData.showable]; exact smIs_ok (by simpa only [datD] using p) (by simpa only [smI] using h)
  | .frz xs, p, h => by simp only [pyD, PyData.showable]; exact smIs_ok (by simpa only [datD] using p) (by simpa only [smI] using h)
  | .scr _, p, _ => by simp [datD] at p
  | .ref _, p, _ => by simp [datD] at p
theorem smIs_ok : ∀ {ds : List D}, datDs ds = true → smIs ds = true → PyData.showableAll (pyDs ds) = true
  | [], _, _ => by simp [pyDs, PyData.showableAll]
  | d :: ds, p, h => by
    simp only [datDs, Bool.and_eq_true] at p
    simp only [smIs, Bool.and_eq_true] at h
    simp only [pyDs, PyData.showableAll, Bool.and_eq_true]
    exact ⟨smI_ok p.1 h.1, smIs_ok p.2 h.2⟩
theorem smIk_ok : ∀ {ds : List (D × D)}, datKs ds = true → smIk ds = true → PyData.showableKv (pyKs ds) = true
  | [], _, _ => by simp [pyKs, PyData.showableKv]
  | (q, d) :: ds, p, h => by
    simp only [datKs, Bool.and_eq_true] at p
    simp only [smIk, Bool.and_eq_true] at h
    have e : (keyPyD q).showable = true := by
      cases q with
      | int i => simpa [keyPyD, PyData.showable, smI] using h.1.1
      | str s => simp [keyPyD, PyData.showable]
      | _ => simp [keyOk] at p
    simp only [pyKs, PyData.showableKv, Bool.and_eq_true]
    exact ⟨⟨e, smI_ok p.1.2 h.1.2⟩, smIk_ok p.2 h.2⟩
end
theorem textFrom_le : ∀ (ts : List Str) (k : Nat) (acc : Str), (textFrom k acc ts).length ≤ acc.length + piled ts
  | [], k, acc => by show acc.length ≤ _; omega
  | t :: r, k, acc => by
    have h1 := textFrom_le r (k + 1) (acc ++ (if k > 0 then ", " else "" : String) ++ t)
    have e : (acc ++ (if k > 0 then ", " else "" : String) ++ t).length = acc.length + (if k > 0 then 2 else 0) + t.length := by
      rw [strLen_append, strLen_append]
      split <;> rfl
    rw [e] at h1
    rw [piled_cons]
    show (textFrom (k + 1) _ r).length ≤ _
    have : (if k > 0 then 2 else 0 : Nat) ≤ 2 := by split <;> omega
    omega
theorem listText_le (ts : List Str) : (listText ts).length ≤ 2 + piled ts := by
  unfold listText
  rw [strLen_append]
  have h := textFrom_le ts 0 "["
  have e1 : (("[" : String) : Str).length = 1 := rfl
  have e2 : (("]" : String) : Str).length = 1 := rfl
  omega
theorem tupleText_le (ts : List Str) : (tupleText ts).length ≤ 3 + piled ts := by
  unfold tupleText
  rw [strLen_append, strLen_append]
  have e1 : ((("(" : String) : Str)).length = 1 := rfl
  have e3 : (((if ts.length == 1 then ",)" else ")" : String) : Str)).length ≤ 2 := by split <;> decide
  rw [e1]
  by_cases h : ts = []
  · subst h
    have : (Str.join ", " ([] : List Str)).length = 0 := rfl
    omega
  · have := join_length_add ts h
    omega
theorem dictText_le (ts : List Str) : (dictText ts).length ≤ 2 + piled ts := by
  unfold dictText
  rw [strLen_append, strLen_append]
  have e1 : ((("{" : String) : Str)).length = 1 := rfl
  have e2 : ((("}" : String) : Str)).length = 1 := rfl
  by_cases h : ts = []
  · subst h
    have : (Str.join ", " ([] : List Str)).length = 0 := rfl
    omega
  · have := join_length_add ts h
    omega
mutual
theorem wt_ok : ∀ {d : D}, datD d = true → smI d = true → (pyD d).shown.length ≤ wt d
  | .non, _, _ => by simp only [pyD, PyData.shown, wt]; decide
  | .bl b, _, _ => by cases b <;> (simp only [pyD, PyData.shown, wt]; decide)
  | .int i, _, h => by
    simp only [smI, decide_eq_true_eq] at h
    simp only [pyD, PyData.shown, wt]
    have e := int_text_length_le (k := 1920) (by decide) h
    rw [ofString_length]
    exact e
  | .str s, p, _ => by
    simp only [datD, List.all_eq_true, decide_eq_true_eq] at p
    simp only [pyD, PyData.shown, wt]
    have := PySem.StrLaws.reprText_len (tx s) (fun c hc => by
      have : c < 1114112 := p c (by simpa [tx] using hc)
      omega)
    have e : (tx s).length = s.length := by simp [tx, Str.length]
    omega
  | .frd kvs, p, h => by
    simp only [pyD, PyData.shown, wt]
    have h1 := dictText_le (PyData.shownKv (pyKs kvs))
    have h2 := wtk_ok (ds := kvs) (by simpa only [datD] using p) (by simpa only [smI] using h)
    omega
  | .tup xs, p, h => by
    simp only [pyD, PyData.shown, wt]
    have h1 := tupleText_le (PyData.shownAll (pyDs xs))
    have h2 := wts_ok (ds := xs) (by simpa only [datD] using p) (by simpa only [smI] using h)
    omega
  | .frz xs, p, h => by
    simp only [pyD, PyData.shown, wt]
    have h1 := listText_le (PyData.shownAll (pyDs xs))
    have h2 := wts_ok (ds := xs) (by simpa only [datD] using p) (by simpa only [smI] using h)
    omega
  | .scr _, p, _ => by simp [datD] at p
  | .ref _, p, _ => by simp [datD] at p
theorem wts_ok : ∀ {ds : List D}, datDs ds = true → smIs ds = true → piled (PyData.shownAll (pyDs ds)) ≤ wts ds
  | [], _, _ => by simp [pyDs, PyData.shownAll, piled, wts]
  | d :: ds, p, h => by
    simp only [datDs, Bool.and_eq_true] at p
    simp only [smIs, Bool.and_eq_true] at h
    simp only [pyDs, PyData.shownAll, wts]
    rw [piled_cons]
    have h1 := wt_ok p.1 h.1
    have h2 := wts_ok p.2 h.2
    omega
theorem wtk_ok : ∀ {ds : List (D × D)}, datKs ds = true → smIk ds = true → piled (PyData.shownKv (pyKs ds)) ≤ wtk ds
  | [], _, _ => by simp [pyKs, PyData.shownKv, piled, wtk]
  | (q, d) :: ds, p, h => by
    simp only [datKs, Bool.and_eq_true] at p
    simp only [smIk, Bool.and_eq_true] at h
    simp only [pyKs, PyData.shownKv, wtk]
    rw [piled_cons, strLen_append, strLen_append]
    have h1 := wt_ok p.1.2 h.1.2
    have h2 := wtk_ok p.2 h.2
    have e2 : (((": " : String) : Str)).length = 2 := rfl
    have h3 : (keyPyD q).shown.length ≤ wt q := by
      cases q with
      | int i =>
        have h0 := h.1.1
        simp only [smI, decide_eq_true_eq] at h0
        simp only [keyPyD, PyData.shown, wt]
        have e := int_text_length_le (k := 1920) (by decide) h0
        rw [ofString_length]
        exact e
      | str s =>
        have p0 := p.1.1
        simp only [keyOk, List.all_eq_true, decide_eq_true_eq] at p0
        simp only [keyPyD, PyData.shown, wt]
        have := PySem.StrLaws.reprText_len (tx s) (fun c hc => by
          have : c < 1114112 := p0 c (by simpa [tx] using hc)
          omega)
        have e : (tx s).length = s.length := by simp [tx, Str.length]
        omega
      | _ => simp [keyOk] at p
    omega
end
/-- repr is defined -/
theorem rep_ok {d : D} (p : datD d = true) (s : smI d = true) (w : wt d ≤ LIM) (dp : depD d ≤ 64) : ∃ x, repD d = some x := by
  unfold repD
  have h1 := smI_ok p s
  have h2 := wt_ok p s
  have c : (datD d && (pyD d).showable && decide ((pyD d).shown.length ≤ LIM) && decide (depD d ≤ 64)) = true := by
    simp only [p, h1, Bool.and_eq_true, decide_eq_true_eq, true_and]
    exact ⟨Nat.le_trans h2 w, dp⟩
  rw [if_pos c]
  exact ⟨_, rfl⟩
theorem rep_str {s : List Nat} (p : ∀ c ∈ s, c < 1114112) (h : s.length ≤ 1000000) : ∃ x, repD (.str s) = some x :=
  rep_ok (by simpa [datD] using p) rfl (by simp only [wt]; unfold LIM; omega) (by simp [depD])
theorem rep_int {i : Int} (h : i.natAbs < 2 ^ 1000) : ∃ x, repD (.int i) = some x :=
  rep_ok rfl (by
    simp only [smI, decide_eq_true_eq]
    by_cases h0 : i.natAbs = 0
    · rw [h0]; decide
    · have := (Nat.log2_lt h0).mpr h
      omega) (by simp only [wt]; unfold LIM; omega) (by simp [depD])
theorem rep_bl {b : Bool} : ∃ x, repD (.bl b) = some x := rep_ok rfl rfl (by simp only [wt]; unfold LIM; omega) (by simp [depD])
end PV
set_option Elab.async false
set_option linter.all false
set_option maxRecDepth 10000
set_option maxHeartbeats 4000000
/-! PvSt: stores: one thing that stood before is written, new ones behind. -/
namespace PV
section
variable {st l : Store} {b : Nat} {o o' : SO}
theorem st_self (h : st[b]? = some o) : st.set b o = st := by
  apply List.ext_getElem?
  intro i
  by_cases e : b = i
  · subst e
    rw [List.getElem?_set_self (ix_lt h), h]
  · rw [List.getElem?_set_ne e]
theorem st_getb (hb : b < st.length) : (st.set b o ++ l)[b]? = some o := by
  rw [List.getElem?_append_left (by simpa using hb), List.getElem?_set_self hb]
theorem st_setb (hb : b < st.length) : (st.set b o ++ l).set b o' = st.set b o' ++ l := by
  rw [List.set_append_left _ _ (by simpa using hb), List.set_set]
theorem st_getl {i : Nat} : (st.set b o ++ l)[st.length + i]? = l[i]? := by
  rw [List.getElem?_append_right (by simp)]
  simp
theorem st_get0 : (st.set b o ++ l)[st.length]? = l[0]? := st_getl (i := 0)
theorem st_setl {i : Nat} : (st.set b o ++ l).set (st.length + i) o' = st.set b o ++ l.set i o' := by
  rw [List.set_append_right _ _ (by simp)]
  simp
theorem st_set0 : (st.set b o ++ l).set st.length o' = st.set b o ++ l.set 0 o' := st_setl (i := 0)
theorem st_getb' (hb : b < st.length) : (st ++ l)[b]? = st[b]? := List.getElem?_append_left hb
theorem st_setb' (hb : b < st.length) : (st ++ l).set b o = st.set b o ++ l := List.set_append_left _ _ hb
theorem st_gets (hb : b < st.length) : (st.set b o)[b]? = some o := set_at hb
theorem gcb {frz : Bool} {d : D} (hd : refsD 0 d = true) (ho : refsO 0 o = true) : gc frz st (st.set b o ++ l) d = (d, st.set b o) := by
  rw [gc_val hd (oldOK_set (refsO_mono (Nat.zero_le _) ho)), take_set]
theorem gcb' {frz : Bool} {d : D} (hd : refsD 0 d = true) (ho : refsO 0 o = true) : gc frz st (st.set b o) d = (d, st.set b o) := by
  have := gcb (frz := frz) (st := st) (b := b) (l := []) hd ho
  rwa [List.append_nil] at this
/-- an own list is given out as data, a box was drawn from -/
theorem gcbl {n : Nat} {xs : List D} (hn : st.length ≤ n) (hx : (st.set b o ++ l)[n]? = some (.lst xs)) (h : refsL 0 xs = true) (ho : refsO 0 o = true) : gc true st (st.set b o ++ l) (.ref n) = (.frz xs, st.set b o) := by
  rw [gc_lst hn hx h (oldOK_set (refsO_mono (Nat.zero_le _) ho)), take_set]
end
theorem refs_bx {B : Bx} : refsO 0 B.o = true := rfl
theorem inR_of {i : Int} (h0 : -1000000000000 ≤ i) (h1 : i ≤ 1000000000000) : inR i = true := by
  exact inR_iff.mpr (by omega)
theorem getI_lt {α : Type} {xs : List α} {i : Int} (h0 : 0 ≤ i) (h1 : i < xs.length) : ∃ x, getI xs i = some x ∧ x ∈ xs := by
  rw [getI_ofNat h0]
  have : i.toNat < xs.length := by omega
  exact ⟨_, List.getElem?_eq_getElem this, List.getElem_mem this⟩
theorem rangeL_len {i j : Int} : (rangeL i j).length = (j - i).toNat := by simp [rangeL]
@[simp] theorem w_ite_c {Φ : Prog} {cur : Option Exn} {σ : Env} {st : Store} {Q : D → Store → Prop} {E : Exn → Store → Prop} {c : Prop} [Decidable c] {x y : D} : (if c then evalE Φ cur σ (.c x) st else evalE Φ cur σ (.c y) st).W Q E = Q (if c then x else y) st := by split <;> simp
@[simp] theorem ite_int {c : Prop} [Decidable c] {x y : Int} : (if c then D.int x else D.int y) = D.int (if c then x else y) := by split <;> rfl
@[simp] theorem ite_str {c : Prop} [Decidable c] {x y : List Nat} : (if c then D.str x else D.str y) = D.str (if c then x else y) := by split <;> rfl
theorem rangeL_cons {i j : Int} (h : i < j) : rangeL i j = .int i :: rangeL (i + 1) j := by
  unfold rangeL
  have e : (j - i).toNat = (j - (i + 1)).toNat + 1 := by omega
  rw [e, List.range_succ_eq_map, List.map_cons, List.map_map]
  congr 1
  · simp
  · apply List.map_congr_left
    intro k _
    simp only [Function.comp_apply, D.int.injEq]
    omega
theorem rangeL_nil {i j : Int} (h : j ≤ i) : rangeL i j = [] := by
  unfold rangeL
  have e : (j - i).toNat = 0 := by omega
  rw [e]
  rfl
theorem Out.W.mono {o : Out} {P P' : Post} (h : o.W P) (h1 : ∀ σ s, P.nx σ s → P'.nx σ s) (h2 : ∀ d s, P.rt d s → P'.rt d s) (h3 : ∀ σ s, P.bk σ s → P'.bk σ s) (h4 : ∀ σ s, P.ct σ s → P'.ct σ s) (h5 : ∀ x σ s, P.ex x σ s → P'.ex x σ s) : o.W P' := by
  cases o with
  | nx σ s => exact h1 _ _ h
  | rt d s => exact h2 _ _ h
  | bk σ s => exact h3 _ _ h
  | ct σ s => exact h4 _ _ h
  | ex x σ s => exact h5 _ _ _ h
  | stuck => exact h
/-- a walk that may be broken off: J behind it -/
theorem forL_J {src : List Nat} {f : D → Env → Store → Out} {P : Post} (I : List D → Env → Store → Prop) (J : Env → Store → Prop) {ds : List D} {σ : Env} {st : Store} (h0 : I ds σ st)
    (h1 : ∀ d r σ st, I (d :: r) σ st → (f d σ st).W { nx := fun σ' st' => src.all (fun n => st'[n]? == st[n]?) = true ∧ I r σ' st', rt := P.rt, bk := J, ct := fun σ' st' => src.all (fun n => st'[n]? == st[n]?) = true ∧ I r σ' st', ex := P.ex })
    (h2 : ∀ σ st, I [] σ st → J σ st) (h3 : ∀ σ st, J σ st → P.nx σ st) : (forL src f ds σ st).W P :=
  (forL_W (P := { P with nx := J }) I h0 h1 h2).mono h3 (fun _ _ h => h) (fun _ _ h => h) (fun _ _ h => h) fun _ _ _ h => h
end PV
set_option Elab.async false
set_option linter.all false
set_option maxRecDepth 10000
set_option maxHeartbeats 4000000
/-! PvP2: exceptions in the calculus; the defs about characters, tokens, at any data. -/
namespace PV
section
variable {Φ : Prog} {Wf : Nat} {cur : Option Exn} {σ : Env} {st : Store} {P : Post}
@[simp] theorem w_sraise {c : String} {a : PV.E} : (exec Φ Wf cur (.raise c [a]) σ st).W P = (evalE Φ cur σ a st).W (fun x st => P.ex ⟨c, Φ.fldOf c, x⟩ σ st) (fun x s => P.ex x σ s) := by
  simp only [exec, W_out, w_es, w_es0]
  rfl
@[simp] theorem w_sraise0 {c : String} : (exec Φ Wf cur (.raise c []) σ st).W P = P.ex ⟨c, "", .non⟩ σ st := by
  simp only [exec, W_out, w_es0]
  rfl
@[simp] theorem w_stry {b : List S} {hs : List H} : (exec Φ Wf cur (.tryc b hs) σ st).W P = (execs Φ Wf cur b σ st).W { P with ex := fun x σ st => (handle Φ Wf hs x σ st).W P } := by
  simp only [exec]
  cases execs Φ Wf cur b σ st <;> rfl
@[simp] theorem w_h0 {x : Exn} : (handle Φ Wf [] x σ st).W P = P.ex x σ st := by simp only [handle, W_ex]
theorem w_hv {c : String} {i : Nat} {m : Bool} {k : Nat} {s : List Nat} {f : String} {r : List H} {x : Exn} : (handle Φ Wf (.v c i m k s f :: r) x σ st).W P = (if (Φ.xc.contains x.cls && Φ.xc.contains c) = true then (if Φ.exc x.cls c = true then (if (x.fld = f ∧ Φ.fldOf x.cls = f ∧ f ≠ "" ∧ i < σ.length) then xret m k s x.val (σ.set i none) st else .stuck) else handle Φ Wf r x σ st) else .stuck).W P := by
  simp only [handle]
  congr 1
  split
  · split
    · congr 1
      simp [and_assoc]
    · rfl
  · rfl
/-- a clause that takes it -/
theorem hv_yes {c : String} {i : Nat} {m : Bool} {k : Nat} {s : List Nat} {f : String} {r : List H} {x : Exn} (h1 : Φ.xc.contains x.cls = true) (h2 : Φ.xc.contains c = true) (h3 : Φ.exc x.cls c = true) (h4 : x.fld = f) (h5 : Φ.fldOf x.cls = f) (h6 : f ≠ "") (h7 : i < σ.length) (h : (xret m k s x.val (σ.set i none) st).W P) : (handle Φ Wf (.v c i m k s f :: r) x σ st).W P := by
  rw [w_hv, h1, h2, if_pos (by rfl), if_pos h3, if_pos ⟨h4, h5, h6, h7⟩]
  exact h
theorem hv_no {c : String} {i : Nat} {m : Bool} {k : Nat} {s : List Nat} {f : String} {r : List H} {x : Exn} (h1 : Φ.xc.contains x.cls = true) (h2 : Φ.xc.contains c = true) (h3 : Φ.exc x.cls c = false) (h : (handle Φ Wf r x σ st).W P) : (handle Φ Wf (.v c i m k s f :: r) x σ st).W P := by
  rw [w_hv, h1, h2, if_pos (by rfl), if_neg (by rw [h3]; decide)]
  exact h
@[simp] theorem xret_0f {s : List Nat} {d : D} : (xret false 0 s d σ st) = .rt (.frz [.str s, d]) st := rfl
@[simp] theorem xret_0t {s : List Nat} {d : D} : (xret true 0 s d σ st) = .rt (.ref st.length) (st ++ [.lst [.str s, d]]) := rfl
@[simp] theorem xret_1 {m : Bool} {s : List Nat} {d : D} : (xret m 1 s d σ st) = .rt (.tup [.str s, d]) st := rfl
@[simp] theorem xret_2 {m : Bool} {s : List Nat} {d : D} : (xret m 2 s d σ st) = .rt d st := rfl
end
theorem bl_cast {Q : D → Store → Prop} {st : Store} {b b' : Bool} (h : Q (.bl b') st) (e : b = b') : Q (.bl b) st := e ▸ h
/-- data that is no ref, no script -/
def plainV : D → Bool
  | .ref _ | .scr _ => false
  | _ => true
/-- a text is not too long -/
def shortV : D → Bool
  | .str s => decide (s.length ≤ 16777216)
  | _ => true
def isCharB : D → Bool
  | .str [c] => isC c
  | _ => false
def isDirB : D → Bool
  | .str s => s == sLtr || s == sRtl
  | _ => false
def isTokB : D → Bool
  | .tup [.str s] => s == sClose
  | .tup [.str s, y] => if s == sChar then isCharB y else (s == sMark || s == sOpen) && isDirB y
  | _ => false
/-- what stands within a tuple -/
def inV : D → Bool
  | .tup xs => xs.all fun y => plainV y && shortV y
  | y => plainV y
theorem is_character_any {Φ : Prog} {Wf : Nat} {y : D} (hy : plainV y = true) (hl : shortV y = true) {st : Store} {Q : D → Store → Prop} {E : Exn → Store → Prop} (h : Q (.bl (isCharB y)) st) : (bodyR Φ Wf P.f_is_character [y] st).W Q E := by
  cases y with
  | str s =>
    match s with
    | [c] => exact is_character_body h
    | [] =>
      apply body_W
      simp [P.f_is_character, startE, tyIn, isTy, fin]
      exact h
    | a :: b :: r =>
      apply body_W
      have : r.length + 1 + 1 ≤ LIM := by simp [shortV] at hl; unfold LIM; omega
      have e : ¬ ((r.length : Int) + 1 + 1 = 1) := by omega
      simp [P.f_is_character, startE, tyIn, isTy, fin, this, e]
      exact h
  | ref n => simp [plainV] at hy
  | scr n => simp [plainV] at hy
  | _ =>
    apply body_W
    simp [P.f_is_character, startE, tyIn, isTy, fin]
    exact h
theorem is_direction_any {Φ : Prog} {Wf : Nat} (g : GlobT Φ) {y : D} (hy : plainV y = true) {st : Store} {Q : D → Store → Prop} {E : Exn → Store → Prop} (h : Q (.bl (isDirB y)) st) : (bodyR Φ Wf P.f_is_direction [y] st).W Q E := by
  apply body_W
  cases y with
  | str s =>
    simp [P.f_is_direction, startE, tyIn, isTy, fin, g.dirs]
    refine bl_cast h ?_
    simp only [isDirB]
    rw [Bool.eq_iff_iff]
    simp only [Bool.or_eq_true, beq_iff_eq]
    exact ⟨fun h => h.imp Eq.symm Eq.symm, fun h => h.imp Eq.symm Eq.symm⟩
  | ref n => simp [plainV] at hy
  | scr n => simp [plainV] at hy
  | _ =>
    simp [P.f_is_direction, startE, tyIn, isTy, fin]
    exact h
def CharAny (Φ : Prog) : Prop := ∀ {y : D} {st : Store} {Q : D → Store → Prop} {E : Exn → Store → Prop}, plainV y = true → shortV y = true → Q (.bl (isCharB y)) st → (Φ.call "" "is_character" [y] [] st).W Q E
def DirAny (Φ : Prog) : Prop := ∀ {y : D} {st : Store} {Q : D → Store → Prop} {E : Exn → Store → Prop}, plainV y = true → Q (.bl (isDirB y)) st → (Φ.call "" "is_direction" [y] [] st).W Q E
/-- the type of data is known -/
theorem ty_plain {y : D} (h : plainV y = true) {st : Store} {cls : List String} : tyIn cls (tyOf st y) = true := by
  cases y <;> first | rfl | (simp [plainV] at h)
theorem is_token_any {Φ : Prog} {Wf : Nat} (hc : CharAny Φ) (hd : DirAny Φ) {e : D} (he : inV e = true) {st : Store} {Q : D → Store → Prop} {E : Exn → Store → Prop} (h : Q (.bl (isTokB e)) st) : (bodyR Φ Wf P.f_is_token [e] st).W Q E := by
  apply body_W
  cases e with
  | tup xs =>
    match xs with
    | [] =>
      simp [P.f_is_token, startE, tyIn, isTy, fin]
      exact h
    | [a] =>
      cases a with
      | str s =>
        simp [P.f_is_token, startE, tyIn, isTy, fin]
        exact h
      | ref n => simp [inV, plainV] at he
      | scr n => simp [inV, plainV] at he
      | _ =>
        simp [P.f_is_token, startE, tyIn, isTy, fin]
        exact h
    | [a, y] =>
      simp [inV] at he
      cases a with
      | str s =>
        simp [P.f_is_token, startE, tyIn, isTy, fin]
        by_cases h1 : s = sChar
        · subst h1
          simp
          refine hc he.2.1 he.2.2 ?_
          simpa [isTokB] using h
        · by_cases h2 : s = sMark
          · subst h2
            simp
            refine hd he.2.1 ?_
            simpa [isTokB] using h
          · by_cases h3 : s = sOpen
            · subst h3
              simp
              refine hd he.2.1 ?_
              simpa [isTokB] using h
            · have e2 : ¬ (sMark = s ∨ sOpen = s) := by
                rintro (h | h)
                · exact h2 h.symm
                · exact h3 h.symm
              simp [h1, h2, h3, e2]
              refine bl_cast h ?_
              simp [isTokB, h1, h2, h3]
      | ref n => simp [plainV] at he
      | scr n => simp [plainV] at he
      | _ =>
        simp [P.f_is_token, startE, tyIn, isTy, fin]
        exact h
    | a :: b :: c :: r =>
      have e1 : ¬ ((r.length : Int) + 1 + 1 + 1 = 1) := by omega
      have e2 : ¬ ((r.length : Int) + 1 + 1 + 1 = 2) := by omega
      have e3 : ¬ ((1 : Int) = (r.length : Int) + 1 + 1 + 1) := by omega
      have e4 : ¬ ((2 : Int) = (r.length : Int) + 1 + 1 + 1) := by omega
      simp [P.f_is_token, startE, tyIn, isTy, fin, e1, e2, e3, e4]
      refine bl_cast h ?_
      simp [isTokB]
  | ref n => simp [inV, plainV] at he
  | scr n => simp [inV, plainV] at he
  | _ =>
    simp [P.f_is_token, startE, tyIn, isTy, fin]
    exact h
/-- what is a token -/
theorem tok_of {e : D} (h : isTokB e = true) : ∃ t : Tok, t.good = true ∧ e = t.d := by
  match e with
  | .tup [.str s] =>
    simp [isTokB] at h
    exact ⟨.cl, rfl, by rw [h]; rfl⟩
  | .tup [.str s, y] =>
    by_cases h1 : s = sChar
    · subst h1
      simp [isTokB] at h
      match y with
      | .str [c] => exact ⟨.ch c, h, rfl⟩
    · have hd : ∀ y, isDirB y = true → ∃ d : Bool, y = .str (dirS d) := fun y h => by
        cases y with
        | str s =>
          simp [isDirB] at h
          rcases h with rfl | rfl
          · exact ⟨true, rfl⟩
          · exact ⟨false, rfl⟩
        | _ => simp [isDirB] at h
      simp [isTokB, h1] at h
      obtain ⟨d, rfl⟩ := hd y h.2
      rcases h.1 with rfl | rfl
      · exact ⟨.mk d, rfl, rfl⟩
      · exact ⟨.op d, rfl, rfl⟩
theorem tok_inj {a b : Tok} (h : a.d = b.d) : a = b := by
  cases a <;> cases b <;> simp [Tok.d] at h ⊢ <;> first | exact h | (rename_i x y; cases x <;> cases y <;> simp [dirS] at h ⊢)
theorem toks_inj : ∀ {a b : List Tok}, a.map Tok.d = b.map Tok.d → a = b
  | [], [], _ => rfl
  | [], _ :: _, h => by simp at h
  | _ :: _, [], h => by simp at h
  | a :: as, b :: bs, h => by
    simp at h
    rw [tok_inj h.1, toks_inj h.2]
theorem toks_of : ∀ {xs : List D}, xs.all isTokB = true → ∃ ts : List Tok, Good ts ∧ xs = ts.map Tok.d
  | [], _ => ⟨[], (fun _ h => by cases h), rfl⟩
  | e :: xs, h => by
    simp only [List.all_cons, Bool.and_eq_true] at h
    obtain ⟨t, g, rfl⟩ := tok_of h.1
    obtain ⟨ts, gs, rfl⟩ := toks_of h.2
    exact ⟨t :: ts, fun u hu => by
      rcases List.mem_cons.mp hu with rfl | hu
      · exact g
      · exact gs u hu, rfl⟩
def balB (ts : List Tok) : Bool := dep 0 ts == some 0
theorem balB_iff {ts : List Tok} : balB ts = true ↔ Bal ts := by simp [balB, Bal]
def balJ (ts : List Tok) (x : D) (st : Store) (ds : List D) (σ : Env) (st' : Store) : Prop := ∃ (rest : List Tok) (k : Nat) (o : Option D), ds = rest.map Tok.d ∧ dep k rest = dep 0 ts ∧ st' = st ∧ σ = [some x, some (.int (k : Int)), o]
theorem is_balanced_any {Φ : Prog} {Wf : Nat} {ts : List Tok} {x : D} {st : Store} (hx : SeqAt st x (ts.map Tok.d)) {Q : D → Store → Prop} {E : Exn → Store → Prop} (h : Q (.bl (balB ts)) st) : (bodyR Φ Wf P.f_is_balanced [x] st).W Q E := by
  apply body_W
  obtain ⟨src, hi⟩ := hx.iter
  simp [P.f_is_balanced, startE, fin, hi]
  refine forL_W (balJ ts x st) ⟨ts, 0, none, rfl, rfl, rfl, rfl⟩ ?_ ?_
  · rintro d r σ st' ⟨rest, k, o, e1, e2, rfl, rfl⟩
    cases rest with
    | nil => simp at e1
    | cons t rest =>
      simp only [List.map_cons, List.cons.injEq] at e1
      obtain ⟨rfl, rfl⟩ := e1
      cases t with
      | ch c =>
        have h0 : ¬ ((k : Int) < 0) := by omega
        simp [Tok.d, dctR, isKey, dput, getk, dget, h0]
        exact ⟨rest, k, _, rfl, by rwa [dep_ch] at e2, rfl, rfl⟩
      | mk c =>
        have h0 : ¬ ((k : Int) < 0) := by omega
        simp [Tok.d, dctR, isKey, dput, getk, dget, h0]
        exact ⟨rest, k, _, rfl, by rwa [dep_mk] at e2, rfl, rfl⟩
      | op c =>
        have h0 : ¬ ((k : Int) + 1 < 0) := by omega
        simp [Tok.d, dctR, isKey, dput, getk, dget, h0]
        exact ⟨rest, k + 1, some (Tok.op c).d, rfl, by rwa [dep_op] at e2, rfl, by simp [Tok.d]⟩
      | cl =>
        cases k with
        | zero =>
          rw [dep_cl0] at e2
          have : balB ts = false := by simp [balB, ← e2]
          rw [this] at h
          simp [Tok.d, dctR, isKey, dput, getk, dget]
          exact h
        | succ k =>
          have h0 : ¬ (((k : Int) + 1) + -1 < 0) := by omega
          have h1 : ((k : Int) + 1) + -1 = (k : Int) := by omega
          simp only [Int.natCast_add, Int.cast_ofNat_Int, Int.natCast_one] at h0 h1 ⊢
          simp [Tok.d, dctR, isKey, dput, getk, dget, h0, h1]
          exact ⟨fun _ _ => rfl, rest, k, some Tok.cl.d, rfl, by rwa [dep_cl] at e2, rfl, by simp [Tok.d]⟩
  · rintro σ st' ⟨rest, k, o, e1, e2, rfl, rfl⟩
    cases rest with
    | cons t rest => simp at e1
    | nil =>
      rw [dep_nil] at e2
      simp
      refine bl_cast h ?_
      simp only [balB, ← e2]
      rw [Bool.eq_iff_iff]
      simp
theorem asB_map : ∀ {α : Type} {p : α → Bool} {l : List α}, asB (l.map fun a => D.bl (p a)) = some (l.map p)
  | _, _, [] => rfl
  | _, p, a :: l => by simp [asB, asB_map (l := l)]
structure TokAny (Φ : Prog) : Prop where
  isTok : ∀ {e : D} {st : Store} {Q : D → Store → Prop} {E : Exn → Store → Prop}, inV e = true → Q (.bl (isTokB e)) st → (Φ.call "" "is_token" [e] [] st).W Q E
  txt : ∀ {t : Tok} {st : Store} {Q : D → Store → Prop} {E : Exn → Store → Prop}, Q (.str t.txt) st → (Φ.call "" "token_text" [t.d] [] st).W Q E
  bal : ∀ {ts : List Tok} {x : D} {st : Store} {Q : D → Store → Prop} {E : Exn → Store → Prop}, SeqAt st x (ts.map Tok.d) → Q (.bl (balB ts)) st → (Φ.call "" "is_balanced" [x] [] st).W Q E
  seq : ∀ {xs : List D} {x : D} {st : Store} {Q : D → Store → Prop} {E : Exn → Store → Prop}, SeqAt st x xs → Q (.bl true) st → (Φ.call "" "is_sequence" [x] [] st).W Q E
/-- InvalidTokens of a sequence -/
theorem format_tokens_seq {Φ : Prog} {Wf : Nat} (H : TokAny Φ) (hf : Φ.fldOf "InvalidTokens" = "value") {xs : List D} (hv : ∀ e ∈ xs, inV e = true) (hl : xs.length ≤ 1000000) {x : D} {st : Store} (hx : SeqAt st x xs) {Q : D → Store → Prop} {E : Exn → Store → Prop}
    (h1 : ∀ ts : List Tok, Good ts → Bal ts → xs = ts.map Tok.d → Q (.str (fmt ts)) st) (h2 : (∀ ts : List Tok, Good ts → Bal ts → xs = ts.map Tok.d → False) → E ⟨"InvalidTokens", "value", x⟩ st) (hg : ∀ frz, gc frz st st x = (x, st)) :
    (bodyR Φ Wf P.f_format_tokens [x] st).W Q E := by
  apply body_W
  obtain ⟨src, hi⟩ := hx.iter
  have l1 : xs.length ≤ LIM := by unfold LIM; omega
  simp [P.f_format_tokens, startE, fin]
  refine H.seq hx ?_
  simp [hi]
  have exs : xs = xs.map fun e => e := by simp
  rw [exs]
  refine comp_map (α := D) (fun e => e) (fun e => .bl (isTokB e)) (fun e => inV e = true) (fun t acc R ht hR => ?_) (fun t ht => hv t (by simpa using ht)) ?_
  · simp [turnC, wipe]
    refine H.isTok ht ?_
    simpa using hR
  · simp [mkL, l1, asB_map]
    by_cases ha : xs.all isTokB = true
    · have ha' : ¬ ∃ x, x ∈ xs ∧ isTokB x = false := by simpa using ha
      obtain ⟨ts, g, e⟩ := toks_of ha
      rw [if_neg ha']
      clear ha' exs
      subst e
      simp
      have hlt : ts.length ≤ 1000000 := by simpa using hl
      have ft : (fmt ts).length ≤ LIM := by
        have : (fmt ts).length ≤ 2 * ts.length := by
          clear h1 h2 g hv hx ha hl hlt l1 hi
          induction ts with
          | nil => simp
          | cons t ts ih =>
            have := (txt_len t).2
            simp; omega
        unfold LIM; omega
      refine H.bal hx ?_
      by_cases hb : balB ts = true
      · simp [hb, hi]
        refine comp_map (α := Tok) Tok.d (fun t => .str t.txt) (fun t => True) (fun t acc R ht hR => ?_) (fun t ht => trivial) ?_
        · simp [turnC, wipe]
          refine H.txt ?_
          simpa using hR
        · have e1 : ((ts.map Tok.txt).map (·.length)).sum ≤ LIM := by rw [← fmt_len]; exact ft
          have e2 := asS_map (g := Tok.txt) (l := ts)
          simp only [List.map_map] at e1
          have l2 : ts.length ≤ LIM := by unfold LIM; omega
          simp [mkL, l2, e2, e1, join_nil, fmt_flat]
          exact h1 ts g (balB_iff.mp hb) rfl
      · simp only [Bool.not_eq_true] at hb
        simp [hb, hg, hf]
        refine h2 fun us gu bu eu => ?_
        have : us = ts := toks_inj eu.symm
        rw [this] at bu
        rw [balB_iff.mpr bu] at hb
        cases hb
    · have ha' : ∃ x, x ∈ xs ∧ isTokB x = false := by simpa using ha
      rw [if_pos ha']
      simp [hg, hf]
      refine h2 fun us gu bu eu => ?_
      obtain ⟨y, hy, hn⟩ := ha'
      refine (show ¬ isTokB y = true by rw [hn]; decide) ?_
      rw [eu] at hy
      obtain ⟨t, ht, rfl⟩ := List.mem_map.mp hy
      have g := gu t ht
      cases t with
      | ch c => exact g
      | cl => rfl
      | mk d => cases d <;> rfl
      | op d => cases d <;> rfl
theorem notin_frz {st : Store} {xs : List D} {d : D} (h : flat d = true) : cmpR .notin d (.frz xs) st = if xs.all flat = true then .ok (.bl (!xs.any fun y => eqF y d)) st else .stuck := by
  have e : inOp st d (.frz xs) = if flat d && xs.all flat then some (xs.any fun y => eqF y d) else none := by
    cases d with
    | str s => cases s with
      | nil => rfl
      | cons c s => cases s <;> rfl
    | _ => rfl
  simp only [cmpR, cmpop, e, h, Bool.true_and]
  by_cases hf : xs.all flat = true
  · rw [if_pos hf, if_pos hf]; rfl
  · rw [if_neg hf, if_neg hf]; rfl
@[simp] theorem notin_frz_s {st : Store} {xs : List D} {x : List Nat} : cmpR .notin (.str x) (.frz xs) st = if xs.all flat = true then .ok (.bl (!xs.any fun y => eqF y (.str x))) st else .stuck := notin_frz rfl
@[simp] theorem notin_frz_i {st : Store} {xs : List D} {i : Int} : cmpR .notin (.int i) (.frz xs) st = if xs.all flat = true then .ok (.bl (!xs.any fun y => eqF y (.int i))) st else .stuck := notin_frz rfl
/-! ### old refs stay -/
mutual
theorem fzD_old {k : Nat} {g : Nat → D} (hg : ∀ n, n < k → g n = .ref n) : ∀ {d : D}, refsD k d = true → fzD g d = d
  | .non, _ => rfl
  | .bl _, _ => rfl
  | .int _, _ => rfl
  | .str _, _ => rfl
  | .scr _, _ => rfl
  | .frd _, _ => rfl
  | .ref n, h => by simp only [refsD, decide_eq_true_eq] at h; exact hg n h
  | .tup xs, h => by simp only [refsD] at h; simp only [fzD, fzDs_old hg h]
  | .frz xs, h => by simp only [refsD] at h; simp only [fzD, fzDs_old hg h]
theorem fzDs_old {k : Nat} {g : Nat → D} (hg : ∀ n, n < k → g n = .ref n) : ∀ {ds : List D}, refsL k ds = true → fzDs g ds = ds
  | [], _ => rfl
  | d :: ds, h => by
    simp only [refsL, Bool.and_eq_true] at h
    simp only [fzDs, fzD_old hg h.1, fzDs_old hg h.2]
end
theorem fzKs_id {g : Nat → D} : ∀ {ds : List (D × D)}, refsK 0 ds = true → fzKs g ds = ds
  | [], _ => rfl
  | (q, d) :: ds, h => by
    simp only [refsK, Bool.and_eq_true] at h
    simp only [fzKs, fzD_id h.1, fzKs_id h.2]
theorem fz_old {k : Nat} {st : Store} : ∀ {f : Nat} {d : D}, refsD k d = true → fz k st f d = d
  | 0, _, _ => rfl
  | f + 1, d, h => fzD_old (k := k) (fun n hn => by rw [if_neg (by omega)]) h
/-- a value that names old things alone is given out -/
theorem gc_keep {frz : Bool} {st₀ st : Store} {d : D} (h : refsD st₀.length d = true) (ho : oldOK st₀.length st₀ st = true) : gc frz st₀ st d = (d, st.take st₀.length) := by
  have e : (if frz then fz st₀.length st 4 d else d) = d := by
    cases frz with
    | false => rfl
    | true => exact fz_old h
  rw [gc_new (by rw [e, h, ho]; rfl), e]
theorem gcs_keep {frz : Bool} {st : Store} {d : D} (h : refsD st.length d = true) : gc frz st st d = (d, st) := by
  have := gc_keep (frz := frz) (st := st) h (by have := oldOK_refl (k := st.length) (st := st) (l := []); rwa [List.append_nil] at this)
  rwa [List.take_length] at this
theorem gca_keep {frz : Bool} {st l : Store} {d : D} (h : refsD st.length d = true) : gc frz st (st ++ l) d = (d, st) := by
  rw [gc_keep h oldOK_refl, take_app]
/-- an own dict is given out as data -/
theorem gc_dct {st₀ st : Store} {n : Nat} {xs : List (D × D)} (hn : st₀.length ≤ n) (hx : st[n]? = some (.dic xs)) (h : refsK 0 xs = true) (ho : oldOK st₀.length st₀ st = true) : gc true st₀ st (.ref n) = (.frd xs, st.take st₀.length) := by
  have e : fz st₀.length st 4 (.ref n) = .frd xs := by
    show fzD _ (.ref n) = _
    simp only [fzD, hn, if_true, hx, fzKs_id h]
  rw [gc_new (by simp only [if_true, e, ho, Bool.and_true]; simp only [refsD]; exact refsK_mono (Nat.zero_le _) h)]
  simp only [if_true, e]
/-- a comprehension of some -/
theorem comp_filterO {src : List Nat} {f : D → Store → List D → Res (List D)} {α : Type} (u g : α → D) (p : α → Bool) (ok : α → Prop) {st : Store} {Q : List D → Store → Prop} {E : Exn → Store → Prop} (hf : ∀ a acc (R : List D → Store → Prop), ok a → R (if p a then acc ++ [g a] else acc) st → (f (u a) st acc).W R noE) :
    ∀ {l : List α} {acc : List D}, (∀ a ∈ l, ok a) → Q (acc ++ (l.filter p).map g) st → (compL src f (l.map u) acc st).W Q E := fun {l acc} hl hq =>
  compL_W (fun ds acc' st' => ∃ r, ds = r.map u ∧ (∀ a ∈ r, ok a) ∧ st' = st ∧ acc ++ (l.filter p).map g = acc' ++ (r.filter p).map g) ⟨l, rfl, hl, rfl, rfl⟩ (fun d r acc' st' ⟨r', e1, e2, e3, e4⟩ => by
    subst e3
    cases r' with
    | nil => simp at e1
    | cons a r' =>
      simp only [List.map_cons, List.cons.injEq] at e1
      obtain ⟨rfl, rfl⟩ := e1
      refine hf a acc' _ (e2 a List.mem_cons_self) ⟨srcs_same, r', rfl, fun b hb => e2 b (List.mem_cons_of_mem _ hb), rfl, ?_⟩
      by_cases h : p a = true
      · simp [e4, h, List.filter_cons]
      · simp [e4, h, List.filter_cons]) fun acc' st' ⟨r', e1, e2, e3, e4⟩ => by
    subst e3
    cases r' with
    | cons a r' => simp at e1
    | nil =>
      simp only [List.filter_nil, List.map_nil, List.append_nil] at e4
      rwa [e4] at hq
theorem end_get {st : Store} {o : SO} : (st ++ [o])[st.length]? = some o := by simp
theorem end_set {st : Store} {o o' : SO} : (st ++ [o]).set st.length o' = st ++ [o'] := by rw [List.set_append_right _ _ (Nat.le_refl _)]; simp
/-! ### data of tokens -/
theorem isC_lt {c : Nat} (h : isC c = true) : c < 1114112 := by simp [isC] at h; omega
theorem pure_tok {t : Tok} (h : t.good = true) : pureD t.d = true ∧ datD t.d = true ∧ smI t.d = true ∧ wt t.d ≤ 111 ∧ depD t.d = 1 := by
  cases t with
  | ch c =>
    have : c < 1114112 := isC_lt h
    simp [Tok.d, pureD, puresD, datD, datDs, smI, smIs, wt, wts, depD, depDs, this]
  | mk d => cases d <;> simp [Tok.d, pureD, puresD, datD, datDs, smI, smIs, wt, wts, depD, depDs, dirS]
  | op d => cases d <;> simp [Tok.d, pureD, puresD, datD, datDs, smI, smIs, wt, wts, depD, depDs, dirS]
  | cl => simp [Tok.d, pureD, puresD, datD, datDs, smI, smIs, wt, wts, depD, depDs]
theorem pure_toks : ∀ {ts : List Tok}, Good ts → puresD (ts.map Tok.d) = true ∧ datDs (ts.map Tok.d) = true ∧ smIs (ts.map Tok.d) = true ∧ wts (ts.map Tok.d) ≤ 113 * ts.length ∧ depDs (ts.map Tok.d) ≤ 1
  | [], _ => by simp [puresD, datDs, smIs, wts, depDs]
  | t :: ts, h => by
    obtain ⟨a1, a0, a2, a3, a4⟩ := pure_tok (h t List.mem_cons_self)
    obtain ⟨b1, b0, b2, b3, b4⟩ := pure_toks (ts := ts) fun u hu => h u (List.mem_cons_of_mem _ hu)
    simp only [List.map_cons, puresD, datDs, smIs, wts, depDs, a1, a0, a2, b1, b0, b2, a4, List.length_cons, Bool.and_self, true_and]
    omega
theorem rep_toks {ts : List Tok} (h : Good ts) (hl : ts.length ≤ 100000) : ∃ x, repD (.frz (ts.map Tok.d)) = some x := by
  obtain ⟨b1, b0, b2, b3, b4⟩ := pure_toks h
  exact rep_ok (by simp only [datD, b0]) (by simp only [smI, b2]) (by simp only [wt]; unfold LIM; omega) (by simp only [depD]; omega)
theorem rep_fmt {ts : List Tok} (h : Good ts) (hl : (fmt ts).length ≤ 100000) : ∃ x, repD (.str (fmt ts)) = some x := by
  refine rep_str (fun c hc => ?_) (by omega)
  obtain ⟨t, ht, hct⟩ := List.mem_flatMap.mp hc
  have g := h t ht
  cases t with
  | ch c' =>
    have e : c = c' := by simpa [Tok.txt] using hct
    rw [e]; exact isC_lt g
  | mk d => cases d <;> (simp [Tok.txt, arrow] at hct; omega)
  | op d => cases d <;> (simp [Tok.txt, arrow] at hct; omega)
  | cl => simp [Tok.txt] at hct; omega
theorem fmt_le {ts : List Tok} : (fmt ts).length ≤ 2 * ts.length := by
  induction ts with
  | nil => simp
  | cons t ts ih =>
    have := (txt_len t).2
    simp; omega
mutual
theorem eqD_refl : ∀ {d : D}, pureD d = true → eqD d d = true
  | .non, _ => rfl
  | .bl b, _ => by simp [eqD, eqF]
  | .int i, _ => by simp [eqD, eqF]
  | .str s, _ => by simp [eqD, eqF]
  | .tup xs, h => by simp only [pureD] at h; simp only [eqD, eqDs_refl h]
  | .frz xs, h => by simp only [pureD] at h; simp only [eqD, eqDs_refl h]
  | .scr _, h => by simp [pureD] at h
  | .frd _, h => by simp [pureD] at h
  | .ref _, h => by simp [pureD] at h
theorem eqDs_refl : ∀ {ds : List D}, puresD ds = true → eqDs ds ds = true
  | [], _ => rfl
  | d :: ds, h => by
    simp only [puresD, Bool.and_eq_true] at h
    simp only [eqDs, eqD_refl h.1, eqDs_refl h.2, Bool.and_self]
end
theorem scal_lst {a b : D} (h : (match a with | .frz _ | .ref _ | .tup _ => true | _ => false) = true) : scalD a b = false := by
  cases a <;> first | (cases h; done) | (cases b <;> rfl)
/-- pure data on both sides, behind refs -/
theorem eqS_pure {st : Store} {a b : D} (h : scalD a b = false) (ha : pureD (look st a) = true) (hb : pureD (look st b) = true) (da : depD (look st a) ≤ 64) (db : depD (look st b) ≤ 64) : eqS st a b = some (eqD (look st a) (look st b)) := by
  unfold eqS
  rw [if_neg (by rw [h]; decide)]
  dsimp only
  rw [if_pos (by simp only [ha, hb, da, db, decide_true, Bool.and_self])]
theorem eqR_pure {st : Store} {a b : D} (h : scalD a b = false) (ha : pureD (look st a) = true) (hb : pureD (look st b) = true) (da : depD (look st a) ≤ 64) (db : depD (look st b) ≤ 64) : cmpR .eq a b st = .ok (.bl (eqD (look st a) (look st b))) st := by
  simp only [cmpR, cmpop, eqS_pure h ha hb da db]
end PV
set_option Elab.async false
set_option linter.all false
set_option maxRecDepth 10000
set_option maxHeartbeats 4000000
/-! PvPar: reading any text: its tokens, or where it goes wrong; the scan of all beginnings. -/
namespace PV
/-- a text read: the place where it goes wrong, or its tokens -/
def parse : Nat → Nat → List Nat → Nat ⊕ List Tok
  | p, k, [] => if k = 0 then .inr [] else .inl p
  | p, k, [c] => if c = 123 ∨ c = 124 then .inl (p + 1)
    else if c = 125 ∧ 0 < k then (match parse (p + 1) (k - 1) [] with | .inl q => .inl q | .inr ts => .inr (.cl :: ts))
    else if isC c then (match parse (p + 1) k [] with | .inl q => .inl q | .inr ts => .inr (.ch c :: ts))
    else .inl p
  | p, k, c :: d :: r => if c = 123 ∨ c = 124 then (if d = 60 ∨ d = 62 then (match parse (p + 2) (if c = 123 then k + 1 else k) r with | .inl q => .inl q | .inr ts => .inr ((if c = 123 then .op (d == 62) else .mk (d == 62)) :: ts)) else .inl (p + 1))
    else if c = 125 ∧ 0 < k then (match parse (p + 1) (k - 1) (d :: r) with | .inl q => .inl q | .inr ts => .inr (.cl :: ts))
    else if isC c then (match parse (p + 1) k (d :: r) with | .inl q => .inl q | .inr ts => .inr (.ch c :: ts))
    else .inl p
def pre (a : List Tok) : Nat ⊕ List Tok → Nat ⊕ List Tok
  | .inl q => .inl q
  | .inr ts => .inr (a ++ ts)
theorem parse_nil {p k : Nat} : parse p k [] = if k = 0 then .inr [] else .inl p := by simp [parse]
theorem parse_ctl {p k c d : Nat} {r : List Nat} (hc : c = 123 ∨ c = 124) (hd : d = 60 ∨ d = 62) : parse p k (c :: d :: r) = pre [if c = 123 then .op (d == 62) else .mk (d == 62)] (parse (p + 2) (if c = 123 then k + 1 else k) r) := by
  rw [parse.eq_3, if_pos hc, if_pos hd]
  cases parse (p + 2) (if c = 123 then k + 1 else k) r <;> rfl
theorem parse_ctl_bad {p k c : Nat} {r : List Nat} (hc : c = 123 ∨ c = 124) (hd : ∀ d, r[0]? = some d → ¬ (d = 60 ∨ d = 62)) : parse p k (c :: r) = .inl (p + 1) := by
  cases r with
  | nil => rw [parse.eq_2, if_pos hc]
  | cons d r => rw [parse.eq_3, if_pos hc, if_neg (hd d rfl)]
theorem parse_cl {p k c : Nat} {r : List Nat} (hc : c = 125) (hk : 0 < k) : parse p k (c :: r) = pre [.cl] (parse (p + 1) (k - 1) r) := by
  have h1 : ¬ (c = 123 ∨ c = 124) := by omega
  cases r with
  | nil => rw [parse.eq_2, if_neg h1, if_pos ⟨hc, hk⟩]; cases parse (p + 1) (k - 1) [] <;> rfl
  | cons d r => rw [parse.eq_3, if_neg h1, if_pos ⟨hc, hk⟩]; cases parse (p + 1) (k - 1) (d :: r) <;> rfl
theorem parse_ch {p k c : Nat} {r : List Nat} (h1 : ¬ (c = 123 ∨ c = 124)) (h2 : ¬ (c = 125 ∧ 0 < k)) (h3 : isC c = true) : parse p k (c :: r) = pre [.ch c] (parse (p + 1) k r) := by
  cases r with
  | nil => rw [parse.eq_2, if_neg h1, if_neg h2, if_pos h3]; cases parse (p + 1) k [] <;> rfl
  | cons d r => rw [parse.eq_3, if_neg h1, if_neg h2, if_pos h3]; cases parse (p + 1) k (d :: r) <;> rfl
theorem parse_bad {p k c : Nat} {r : List Nat} (h1 : ¬ (c = 123 ∨ c = 124)) (h2 : ¬ (c = 125 ∧ 0 < k)) (h3 : ¬ isC c = true) : parse p k (c :: r) = .inl p := by
  cases r with
  | nil => rw [parse.eq_2, if_neg h1, if_neg h2, if_neg h3]
  | cons d r => rw [parse.eq_3, if_neg h1, if_neg h2, if_neg h3]
theorem pre_pre {a b : List Tok} {x : Nat ⊕ List Tok} : pre a (pre b x) = pre (a ++ b) x := by cases x <;> simp [pre]
/-- the scan of a beginning: open isolates, whether an arrow is awaited -/
def scan : Nat → Bool → List Nat → Option (Nat × Bool)
  | k, w, [] => some (k, w)
  | k, true, c :: r => if c = 60 ∨ c = 62 then scan k false r else none
  | k, false, c :: r => if c = 123 then scan (k + 1) true r else if c = 124 then scan k true r
    else if c = 125 then (match k with | 0 => none | k + 1 => scan k false r) else if c = 10 then none else scan k false r
theorem scan_nil {k : Nat} {w : Bool} : scan k w [] = some (k, w) := by cases w <;> rw [scan]
theorem scan_t {k c : Nat} {r : List Nat} : scan k true (c :: r) = if c = 60 ∨ c = 62 then scan k false r else none := by rw [scan]
theorem scan_f {k c : Nat} {r : List Nat} : scan k false (c :: r) = if c = 123 then scan (k + 1) true r else if c = 124 then scan k true r
    else if c = 125 then (match k with | 0 => none | k + 1 => scan k false r) else if c = 10 then none else scan k false r := by
  rw [scan.eq_def]
theorem scan_123 {k : Nat} {r : List Nat} : scan k false (123 :: r) = scan (k + 1) true r := by rw [scan_f, if_pos rfl]
theorem scan_124 {k : Nat} {r : List Nat} : scan k false (124 :: r) = scan k true r := by rw [scan_f, if_neg (by decide), if_pos rfl]
theorem scan_125 {k : Nat} {r : List Nat} : scan (k + 1) false (125 :: r) = scan k false r := by rw [scan_f, if_neg (by decide), if_neg (by decide), if_pos rfl]
theorem scan_125z {r : List Nat} : scan 0 false (125 :: r) = none := by rw [scan_f, if_neg (by decide), if_neg (by decide), if_pos rfl]
theorem scan_10 {k : Nat} {r : List Nat} : scan k false (10 :: r) = none := by rw [scan_f, if_neg (by decide), if_neg (by decide), if_neg (by decide), if_pos rfl]
theorem scan_c {k c : Nat} {r : List Nat} (h : c ≠ 123 ∧ c ≠ 124 ∧ c ≠ 125 ∧ c ≠ 10) : scan k false (c :: r) = scan k false r := by rw [scan_f, if_neg h.1, if_neg h.2.1, if_neg h.2.2.1, if_neg h.2.2.2]
theorem scan_app : ∀ {a b : List Nat} {k : Nat} {w : Bool}, scan k w (a ++ b) = (scan k w a).bind fun q => scan q.1 q.2 b
  | [], b, k, w => by rw [scan_nil]; rfl
  | c :: a, b, k, true => by
    rw [List.cons_append, scan_t, scan_t]
    split
    · exact scan_app
    · rfl
  | c :: a, b, k, false => by
    rw [List.cons_append]
    by_cases h1 : c = 123
    · subst h1; rw [scan_123, scan_123]; exact scan_app
    · by_cases h2 : c = 124
      · subst h2; rw [scan_124, scan_124]; exact scan_app
      · by_cases h3 : c = 125
        · subst h3
          cases k with
          | zero => rw [scan_125z, scan_125z]; rfl
          | succ k => rw [scan_125, scan_125]; exact scan_app
        · by_cases h4 : c = 10
          · subst h4; rw [scan_10, scan_10]; rfl
          · rw [scan_c ⟨h1, h2, h3, h4⟩, scan_c ⟨h1, h2, h3, h4⟩]; exact scan_app
/-- openings less closings -/
theorem scan_count : ∀ {r : List Nat} {k k' : Nat} {w w' : Bool}, scan k w r = some (k', w') → k + r.count 123 = k' + r.count 125
  | [], k, k', w, w', h => by rw [scan_nil] at h; cases h; rfl
  | c :: r, k, k', true, w', h => by
    rw [scan_t] at h
    split at h
    · rename_i hc
      have := scan_count h
      rw [List.count_cons_of_ne (by omega), List.count_cons_of_ne (by omega)]
      exact this
    · cases h
  | c :: r, k, k', false, w', h => by
    by_cases h1 : c = 123
    · subst h1
      rw [scan_123] at h
      have := scan_count h
      rw [List.count_cons_self, List.count_cons_of_ne (by decide)]
      omega
    · by_cases h2 : c = 124
      · subst h2
        rw [scan_124] at h
        have := scan_count h
        rw [List.count_cons_of_ne (by decide), List.count_cons_of_ne (by decide)]
        exact this
      · by_cases h3 : c = 125
        · subst h3
          cases k with
          | zero => rw [scan_125z] at h; cases h
          | succ k =>
            rw [scan_125] at h
            have := scan_count h
            rw [List.count_cons_self, List.count_cons_of_ne (by decide)]
            omega
        · by_cases h4 : c = 10
          · subst h4; rw [scan_10] at h; cases h
          · rw [scan_c ⟨h1, h2, h3, h4⟩] at h
            have := scan_count h
            rw [List.count_cons_of_ne h1, List.count_cons_of_ne h3]
            exact this
/-- an arrow is awaited where the last sign says so -/
theorem scan_last : ∀ {r : List Nat} {k k' : Nat} {w w' : Bool}, scan k w r = some (k', w') → w' = match r.getLast? with | none => w | some c => (c == 123 || c == 124)
  | [], k, k', w, w', h => by rw [scan_nil] at h; cases h; rfl
  | c :: r, k, k', w, w', h => by
    have key : ∀ {j : Nat} {v : Bool}, scan j v r = some (k', w') → (r = [] → v = (c == 123 || c == 124)) → w' = match (c :: r).getLast? with | none => w | some c => (c == 123 || c == 124) := fun {j v} hs hv => by
      have q := scan_last hs
      cases r with
      | nil =>
        rw [scan_nil] at hs
        cases hs
        simpa using hv rfl
      | cons d r =>
        rw [q, List.getLast?_cons_cons]
        cases h : (d :: r).getLast? with
        | none => simp at h
        | some z => rfl
    cases w with
    | true =>
      rw [scan_t] at h
      split at h
      · rename_i hc
        refine key h fun _ => ?_
        rcases hc with rfl | rfl <;> rfl
      · cases h
    | false =>
      by_cases h1 : c = 123
      · subst h1
        rw [scan_123] at h
        exact key h fun _ => rfl
      · by_cases h2 : c = 124
        · subst h2
          rw [scan_124] at h
          exact key h fun _ => rfl
        · have hv : false = (c == 123 || c == 124) := by simp [h1, h2]
          by_cases h3 : c = 125
          · subst h3
            cases k with
            | zero => rw [scan_125z] at h; cases h
            | succ k =>
              rw [scan_125] at h
              exact key h fun _ => hv
          · by_cases h4 : c = 10
            · subst h4; rw [scan_10] at h; cases h
            · rw [scan_c ⟨h1, h2, h3, h4⟩] at h
              exact key h fun _ => hv
/-- the signs of the texts that are drawn -/
def isV (c : Nat) : Bool := isC c || c == 10 || c == 123 || c == 124 || c == 125
theorem isV_cases {c : Nat} (h : isV c = true) : (isC c = true ∧ c ≠ 123 ∧ c ≠ 124 ∧ c ≠ 125 ∧ c ≠ 10) ∨ ((c = 10 ∨ c = 123 ∨ c = 124 ∨ c = 125) ∧ isC c = false) := by
  by_cases h0 : isC c = true
  · left
    refine ⟨h0, ?_⟩
    simp [isC] at h0
    omega
  · right
    simp [isV, h0] at h
    exact ⟨by omega, by simpa using h0⟩
/-- the scan tells what reading finds -/
theorem parse_scan : ∀ (n : Nat) {r : List Nat} {p k : Nat}, r.length ≤ n → (∀ c ∈ r, isV c = true) → match parse p k r with
    | .inr _ => scan k false r = some (0, false)
    | .inl q => p ≤ q ∧ q ≤ p + r.length ∧ (scan k false (r.take (q - p))).isSome = true ∧ (q < p + r.length → scan k false (r.take (q - p + 1)) = none) ∧ (q = p + r.length → ∃ k' w', scan k false r = some (k', w') ∧ (w' = true ∨ 0 < k'))
  | n, [], p, k, _, _ => by
    rw [parse_nil]
    by_cases hk : k = 0
    · subst hk
      rw [if_pos rfl]
      exact scan_nil
    · rw [if_neg hk]
      refine ⟨Nat.le_refl _, Nat.le_refl _, ?_, fun h => absurd h (by simp), fun _ => ⟨k, false, scan_nil, .inr (by omega)⟩⟩
      simp [scan_nil]
  | 0, c :: r, _, _, h, _ => by simp at h
  | n + 1, c :: r, p, k, hl, hv => by
    have hc := hv c List.mem_cons_self
    have hr : ∀ c ∈ r, isV c = true := fun d hd => hv d (List.mem_cons_of_mem _ hd)
    simp at hl
    -- what is read one sign later
    have step : ∀ {t : Tok} {k2 : Nat} {s : List Nat} {m : Nat}, (∀ x : Nat, (c :: r).take (m + x) = (c :: r).take m ++ s.take x) → m ≤ (c :: r).length → (c :: r).length = m + s.length → c :: r = (c :: r).take m ++ s → scan k false ((c :: r).take m) = some (k2, false) → (match parse (p + m) k2 s with
        | .inr _ => scan k2 false s = some (0, false)
        | .inl q => p + m ≤ q ∧ q ≤ p + m + s.length ∧ (scan k2 false (s.take (q - (p + m)))).isSome = true ∧ (q < p + m + s.length → scan k2 false (s.take (q - (p + m) + 1)) = none) ∧ (q = p + m + s.length → ∃ k' w', scan k2 false s = some (k', w') ∧ (w' = true ∨ 0 < k'))) →
        (match pre [t] (parse (p + m) k2 s) with
        | .inr _ => scan k false (c :: r) = some (0, false)
        | .inl q => p ≤ q ∧ q ≤ p + (c :: r).length ∧ (scan k false ((c :: r).take (q - p))).isSome = true ∧ (q < p + (c :: r).length → scan k false ((c :: r).take (q - p + 1)) = none) ∧ (q = p + (c :: r).length → ∃ k' w', scan k false (c :: r) = some (k', w') ∧ (w' = true ∨ 0 < k'))) := by
      intro t k2 s m htk hm hlen heq hs ih
      cases hp : parse (p + m) k2 s with
      | inr ts =>
        rw [hp] at ih
        simp only [pre]
        rw [heq, scan_app, hs]
        exact ih
      | inl q =>
        rw [hp] at ih
        obtain ⟨i1, i2, i3, i4, i5⟩ := ih
        have ap : ∀ x : Nat, scan k false ((c :: r).take (m + x)) = scan k2 false (s.take x) := fun x => by
          rw [htk x, scan_app, hs]
          rfl
        refine ⟨by omega, by omega, ?_, fun h => ?_, fun h => ?_⟩
        · rw [show q - p = m + (q - (p + m)) by omega, ap]
          exact i3
        · rw [show q - p + 1 = m + (q - (p + m) + 1) by omega, ap]
          exact i4 (by omega)
        · obtain ⟨k', w', z1, z2⟩ := i5 (by omega)
          refine ⟨k', w', ?_, z2⟩
          rw [heq, scan_app, hs]
          exact z1
    rcases isV_cases hc with ⟨hC, n1, n2, n3, n4⟩ | ⟨hs, hn⟩
    · rw [parse_ch (by omega) (by omega) hC]
      exact step (m := 1) (s := r) (fun x => by rw [Nat.add_comm 1 x]; simp) (by simp) (by simp; omega) (by simp) (by rw [show (c :: r).take 1 = [c] by simp, scan_c ⟨n1, n2, n3, n4⟩, scan_nil]) (parse_scan n hl hr)
    · by_cases h10 : c = 10
      · subst h10
        rw [parse_bad (by decide) (by omega) (by rw [hn]; decide)]
        refine ⟨Nat.le_refl _, by omega, ?_, fun _ => ?_, fun h => absurd h (by simp)⟩
        · rw [Nat.sub_self]; simp [scan_nil]
        · rw [Nat.sub_self]; exact scan_10
      · by_cases h125 : c = 125
        · subst h125
          cases k with
          | zero =>
            rw [parse_bad (by decide) (by omega) (by rw [hn]; decide)]
            refine ⟨Nat.le_refl _, by omega, ?_, fun _ => ?_, fun h => absurd h (by simp)⟩
            · rw [Nat.sub_self]; simp [scan_nil]
            · rw [Nat.sub_self]; exact scan_125z
          | succ k =>
            rw [parse_cl rfl (Nat.succ_pos _)]
            exact step (m := 1) (s := r) (fun x => by rw [Nat.add_comm 1 x]; simp) (by simp) (by simp; omega) (by simp) (by rw [show (125 :: r).take 1 = [125] by simp, scan_125, scan_nil]; rfl) (parse_scan n hl hr)
        · have hc' : c = 123 ∨ c = 124 := by omega
          have hw : scan k false [c] = some (if c = 123 then k + 1 else k, true) := by
            rcases hc' with rfl | rfl
            · rw [scan_123, scan_nil]; rfl
            · rw [scan_124, scan_nil]; rfl
          cases r with
          | nil =>
            rw [parse_ctl_bad hc' (fun d h => by cases h)]
            refine ⟨by omega, by simp, ?_, fun h => absurd h (by simp), fun _ => ⟨_, true, hw, .inl rfl⟩⟩
            rw [show p + 1 - p = 1 by omega]
            rw [show [c].take 1 = [c] by simp, hw]
            rfl
          | cons d r =>
            by_cases hd : d = 60 ∨ d = 62
            · rw [parse_ctl hc' hd]
              simp at hl
              refine step (m := 2) (s := r) (fun x => by rw [Nat.add_comm 2 x]; simp) (by simp) (by simp; omega) (by simp) ?_ (parse_scan n (by omega) fun x hx => hr x (List.mem_cons_of_mem _ hx))
              rw [show (c :: d :: r).take 2 = [c] ++ [d] by simp, scan_app, hw]
              show scan _ true [d] = _
              rw [scan_t, if_pos hd, scan_nil]
            · rw [parse_ctl_bad hc' (fun x h => by cases h; exact hd)]
              refine ⟨by omega, by simp, ?_, fun h => ?_, fun h => absurd h (by simp)⟩
              · rw [show p + 1 - p = 1 by omega, show (c :: d :: r).take 1 = [c] by simp, hw]; rfl
              · rw [show p + 1 - p + 1 = 2 by omega, show (c :: d :: r).take 2 = [c] ++ [d] by simp, scan_app, hw]
                show scan _ true [d] = _
                rw [scan_t, if_neg hd]
/-! ### tokens of any text -/
theorem good_dirs {d : Nat} (h : d = 60 ∨ d = 62) : arrow (d == 62) = d := by rcases h with rfl | rfl <;> rfl
def tokJ (s : List Nat) (st : Store) (m : Nat) (σ : Env) (st' : Store) : Prop := ∃ (a : List Tok) (k i : Nat) (o : Option D), i ≤ s.length ∧ a.length ≤ i ∧ m = s.length - i ∧ parse 0 0 s = pre a (parse i k (s.drop i)) ∧ st' = st ++ [.lst (a.map Tok.d)] ∧
  σ = [some (.str s), some (.ref st.length), some (.int (k : Int)), some (.int (i : Int)), o]
structure SignsT (Φ : Prog) : Prop where
  signs : Φ.glob "SIGNS" = some (.frd [(.str [62], .str sLtr), (.str [60], .str sRtl)])
theorem tokens_any {Φ : Prog} {Wf : Nat} (g : SignsT Φ) (hc : IsCharOk Φ) (hf : Φ.fldOf "InvalidText" = "position") {s : List Nat} (hl : s.length ≤ 100000) (hw : s.length < Wf) {fz : Bool} {st : Store} {Q : D → Store → Prop} {E : Exn → Store → Prop}
    (h1 : ∀ ts, parse 0 0 s = .inr ts → Q (if fz then .frz (ts.map Tok.d) else .ref st.length) (if fz then st else st ++ [.lst (ts.map Tok.d)]))
    (h2 : ∀ p : Nat, parse 0 0 s = .inl p → E ⟨"InvalidText", "position", .int (p : Int)⟩ st) : (bodyR Φ Wf { P.f_tokens with frz := fz } [.str s] st).W Q E := by
  apply body_W
  have hL : s.length ≤ LIM := by unfold LIM; omega
  simp [P.f_tokens, startE, tyIn, isTy]
  rw [w_swhl]
  refine while_W (tokJ s st) (m := s.length) (fun m σ st' hI => ?_) ⟨[], 0, 0, none, Nat.zero_le _, Nat.le_refl _, rfl, by simp only [List.drop_zero]; cases parse 0 0 s <;> rfl, rfl, rfl⟩ hw
  obtain ⟨a, k, i, o, hi, ha, em, hp, rfl, rfl⟩ := hI
  simp [hL]
  cases hr : s.drop i with
  | nil =>
    have c : ¬ i < s.length := by
      intro z
      have := congrArg List.length hr
      simp at this
      omega
    have ei : i = s.length := by omega
    rw [hr, parse_nil] at hp
    simp [c]
    by_cases hk : k = 0
    · subst hk
      rw [if_pos rfl] at hp
      simp only [pre, List.append_nil] at hp
      have := h1 a hp
      simp [fin]
      cases fz with
      | false =>
        simp only [Bool.false_eq_true, if_false] at this ⊢
        rw [gc_own (Nat.le_refl _)]
        exact this
      | true =>
        simp only [if_true] at this ⊢
        rw [gc_lst (n := st.length) (xs := a.map Tok.d) (Nat.le_refl _) (by simp) refs_toks oldOK_refl, take_app]
        exact this
    · rw [if_neg hk] at hp
      have hk2 : 0 < k := by omega
      have := h2 i hp
      simp [hk2, hL, fin, hf]
      rw [ei] at this
      exact this
  | cons c r =>
    have ci : i < s.length := by
      rcases Nat.lt_or_ge i s.length with z | z
      · exact z
      · rw [List.drop_of_length_le z] at hr; cases hr
    have gi : getI s (i : Int) = some c := by
      rw [getI_nat]
      have := List.getElem?_drop (xs := s) (i := i) (j := 0)
      rw [hr] at this
      simpa using this.symm
    have hr1 : s.drop (i + 1) = r := by rw [← List.drop_drop, hr]; rfl
    have lt : a.length < LIM := by unfold LIM; omega
    have gj : getI s ((i : Int) + 1) = r[0]? := by
      rw [show ((i : Int) + 1) = ((i + 1 : Nat) : Int) by omega, getI_nat, ← hr1]
      simp
    have gc : cut s (some ((i : Int) + 1)) (some ((i : Int) + 2)) = r.take 1 := by
      have := cut_nat (xs := s) (lo := i + 1) (hi := i + 2)
      simp only [Int.natCast_add, Int.cast_ofNat_Int] at this
      rw [this, hr1]
      congr 1
      omega
    rw [hr] at hp
    simp [ci, gi]
    by_cases hctl : c = 123 ∨ c = 124
    · simp [hctl, gc, g.signs, hL]
      by_cases hd : ∃ d r', r = d :: r' ∧ (d = 60 ∨ d = 62)
      · obtain ⟨d, r', rfl, hd⟩ := hd
        rw [parse_ctl hctl hd, pre_pre] at hp
        have hr2 : s.drop (i + 2) = r' := by rw [show i + 2 = i + 1 + 1 by omega, ← List.drop_drop, hr1]; rfl
        have l2 : (d :: r').length = s.length - (i + 1) := by rw [← hr1]; simp
        simp at l2
        have gj' : getI s ((i : Int) + 1) = some d := gj
        have hp2 : ∀ t k2, (if c = 123 then Tok.op (d == 62) else Tok.mk (d == 62)) = t → (if c = 123 then k + 1 else k) = k2 → parse 0 0 s = pre (a ++ [t]) (parse (i + 2) k2 (s.drop (i + 2))) := fun t k2 e1 e2 => by rw [hr2, hp, e1, e2]
        rcases hd with rfl | rfl <;> rcases hctl with rfl | rfl
        · simp [dget, gj', lt, g.signs, hL]
          exact ⟨s.length - (i + 2), by omega, a ++ [.op false], k + 1, i + 2, some (.str [123]), by omega, by simp; omega, rfl, hp2 _ _ rfl rfl, by simp [Tok.d, dirS], by simp; omega⟩
        · simp [dget, gj', lt, g.signs, hL]
          exact ⟨s.length - (i + 2), by omega, a ++ [.mk false], k, i + 2, some (.str [124]), by omega, by simp; omega, rfl, hp2 _ _ rfl rfl, by simp [Tok.d, dirS], by simp; omega⟩
        · simp [dget, gj', lt, g.signs, hL]
          exact ⟨s.length - (i + 2), by omega, a ++ [.op true], k + 1, i + 2, some (.str [123]), by omega, by simp; omega, rfl, hp2 _ _ rfl rfl, by simp [Tok.d, dirS], by simp; omega⟩
        · simp [dget, gj', lt, g.signs, hL]
          exact ⟨s.length - (i + 2), by omega, a ++ [.mk true], k, i + 2, some (.str [124]), by omega, by simp; omega, rfl, hp2 _ _ rfl rfl, by simp [Tok.d, dirS], by simp; omega⟩
      · have hb : ∀ d, r[0]? = some d → ¬ (d = 60 ∨ d = 62) := fun d h z => hd (by
          cases r with
          | nil => cases h
          | cons x r => cases h; exact ⟨_, _, rfl, z⟩)
        rw [parse_ctl_bad hctl hb] at hp
        have hq := h2 (i + 1) hp
        have dn : dget [(D.str [62], D.str sLtr), (D.str [60], D.str sRtl)] (D.str (r.take 1)) = none := by
          cases r with
          | nil => rfl
          | cons x r =>
            have hx := hb x rfl
            have n1 : ¬ (62 = x) := fun z => hx (.inr z.symm)
            have n2 : ¬ (60 = x) := fun z => hx (.inl z.symm)
            simp [dget, n1, n2]
        simp [dn, hL, fin, hf]
        simpa using hq
    · simp [hctl]
      by_cases h125 : c = 125
      · subst h125
        simp
        by_cases hk : 0 < k
        · rw [parse_cl rfl hk, pre_pre] at hp
          simp [hk, lt]
          exact ⟨s.length - (i + 1), by omega, a ++ [.cl], k - 1, i + 1, some (.str [125]), by omega, by simp; omega, rfl, by rw [hr1]; exact hp, by simp [Tok.d], by simp; omega⟩
        · rw [parse_bad hctl (by omega) (by decide)] at hp
          simp [hk]
          refine hc ?_
          simp [isC, fin, hf]
          exact h2 i hp
      · simp [h125]
        refine hc ?_
        by_cases hC : isC c = true
        · rw [parse_ch hctl (by omega) hC, pre_pre] at hp
          simp [hC, lt]
          exact ⟨s.length - (i + 1), by omega, a ++ [.ch c], k, i + 1, some (.str [c]), by omega, by simp; omega, rfl, by rw [hr1]; exact hp, by simp [Tok.d], by simp⟩
        · rw [parse_bad hctl (by omega) hC] at hp
          simp [hC, fin, hf]
          exact h2 i hp
end PV
set_option Elab.async false
set_option linter.all false
set_option maxRecDepth 10000
set_option maxHeartbeats 4000000
/-! PvBeg: any text: plain_text, control_count; the laws' scan of beginnings (k03, k07, k91). -/
namespace PV
theorem pre_inr {a ts : List Tok} {x : Nat ⊕ List Tok} (h : pre a x = .inr ts) : ∃ us, x = .inr us ∧ ts = a ++ us := by
  cases x with
  | inl q => cases h
  | inr us => exact ⟨us, rfl, (Sum.inr.inj h).symm⟩
/-- what is read is the text -/
theorem parse_inr : ∀ (n : Nat) {r : List Nat} {p k : Nat} {ts : List Tok}, r.length ≤ n → parse p k r = .inr ts → fmt ts = r ∧ Good ts ∧ dep k ts = some 0
  | n, [], p, k, ts, _, h => by
    rw [parse_nil] at h
    split at h
    · rename_i hk
      cases h
      exact ⟨rfl, (fun _ h => by cases h), by rw [hk]; rfl⟩
    · cases h
  | 0, c :: r, _, _, _, h, _ => by simp at h
  | n + 1, c :: r, p, k, ts, hl, h => by
    simp at hl
    by_cases hctl : c = 123 ∨ c = 124
    · by_cases hd : ∃ d r', r = d :: r' ∧ (d = 60 ∨ d = 62)
      · obtain ⟨d, r', rfl, hd⟩ := hd
        rw [parse_ctl hctl hd] at h
        obtain ⟨us, e1, rfl⟩ := pre_inr h
        simp at hl
        obtain ⟨i1, i2, i3⟩ := parse_inr n (by omega) e1
        have ar := good_dirs hd
        rcases hctl with rfl | rfl
        · refine ⟨by simp [Tok.txt, i1, ar], fun t ht => ?_, by simpa [dep_op] using i3⟩
          rcases List.mem_append.mp ht with ht | ht
          · have : t = .op (d == 62) := by simpa using ht
            rw [this]; rfl
          · exact i2 t ht
        · refine ⟨by simp [Tok.txt, i1, ar], fun t ht => ?_, by simpa [dep_mk] using i3⟩
          rcases List.mem_append.mp ht with ht | ht
          · have : t = .mk (d == 62) := by simpa using ht
            rw [this]; rfl
          · exact i2 t ht
      · rw [parse_ctl_bad hctl fun d h z => hd (by
          cases r with
          | nil => cases h
          | cons x r => cases h; exact ⟨_, _, rfl, z⟩)] at h
        cases h
    · by_cases h125 : c = 125 ∧ 0 < k
      · obtain ⟨rfl, hk⟩ := h125
        rw [parse_cl rfl hk] at h
        obtain ⟨us, e1, rfl⟩ := pre_inr h
        obtain ⟨i1, i2, i3⟩ := parse_inr n hl e1
        obtain ⟨j, rfl⟩ : ∃ j, k = j + 1 := ⟨k - 1, by omega⟩
        refine ⟨by simp [Tok.txt, i1], fun t ht => ?_, by simpa [dep_cl] using i3⟩
        rcases List.mem_append.mp ht with ht | ht
        · have : t = .cl := by simpa using ht
          rw [this]; rfl
        · exact i2 t ht
      · by_cases hC : isC c = true
        · rw [parse_ch hctl h125 hC] at h
          obtain ⟨us, e1, rfl⟩ := pre_inr h
          obtain ⟨i1, i2, i3⟩ := parse_inr n hl e1
          refine ⟨by simp [Tok.txt, i1], fun t ht => ?_, by simpa [dep_ch] using i3⟩
          rcases List.mem_append.mp ht with ht | ht
          · have : t = .ch c := by simpa using ht
            rw [this]; exact hC
          · exact i2 t ht
        · rw [parse_bad hctl h125 hC] at h
          cases h
/-- a text of tokens is read -/
theorem parse_fmt : ∀ {ts : List Tok} {p k : Nat}, Good ts → dep k ts = some 0 → parse p k (fmt ts) = .inr ts
  | [], p, k, _, h => by
    rw [dep_nil] at h
    cases h
    rw [fmt_nil, parse_nil, if_pos rfl]
  | t :: ts, p, k, g, h => by
    have gt := g t List.mem_cons_self
    have gs : Good ts := fun u hu => g u (List.mem_cons_of_mem _ hu)
    cases t with
    | ch c =>
      have hC : isC c = true := gt
      have hC' := hC
      simp [isC] at hC'
      rw [dep_ch] at h
      rw [fmt_cons, Tok.txt, List.singleton_append, parse_ch (by omega) (by omega) hC, parse_fmt gs h]
      rfl
    | mk d =>
      rw [dep_mk] at h
      rw [fmt_cons, Tok.txt, List.cons_append, List.singleton_append, parse_ctl (.inr rfl) (by cases d <;> simp [arrow]), if_neg (by decide), if_neg (by decide), parse_fmt gs h]
      cases d <;> rfl
    | op d =>
      rw [dep_op] at h
      rw [fmt_cons, Tok.txt, List.cons_append, List.singleton_append, parse_ctl (.inl rfl) (by cases d <;> simp [arrow]), if_pos rfl, if_pos rfl, parse_fmt gs h]
      cases d <;> rfl
    | cl =>
      cases k with
      | zero => rw [dep_cl0] at h; cases h
      | succ k =>
        rw [dep_cl] at h
        rw [fmt_cons, Tok.txt, List.singleton_append, parse_cl rfl (by omega), Nat.add_sub_cancel, parse_fmt gs h]
        rfl
/-- tokens at any text, by name -/
def TextOk (Φ : Prog) (fz : Bool) : Prop := ∀ {s : List Nat} {st : Store} {Q : D → Store → Prop} {E : Exn → Store → Prop}, s.length ≤ 10000 →
  (∀ ts, parse 0 0 s = .inr ts → Q (if fz then .frz (ts.map Tok.d) else .ref st.length) (if fz then st else st ++ [.lst (ts.map Tok.d)])) → (∀ p : Nat, parse 0 0 s = .inl p → E ⟨"InvalidText", "position", .int (p : Int)⟩ st) → (Φ.call "" "tokens" [.str s] [] st).W Q E
theorem TextOk.tokens {Φ : Prog} {fz : Bool} (h : TextOk Φ fz) : TokensOk Φ fz := fun {ts st Q E} hg hb hl q => h hl (fun us e => by
  rw [parse_fmt hg hb] at e
  cases e
  exact q) fun p e => by
  rw [parse_fmt hg hb] at e
  cases e
theorem plain_text_any {Φ : Prog} {Wf : Nat} {fz : Bool} (ht : TextOk Φ fz) {s : List Nat} (hl : s.length ≤ 10000) {st : Store} {Q : D → Store → Prop} {E : Exn → Store → Prop} (h1 : ∀ ts, parse 0 0 s = .inr ts → Q (.str (chars ts)) st) (h2 : ∀ p : Nat, parse 0 0 s = .inl p → E ⟨"InvalidText", "position", .int (p : Int)⟩ st) :
    (bodyR Φ Wf P.f_plain_text [.str s] st).W Q E := by
  cases hp : parse 0 0 s with
  | inr ts =>
    obtain ⟨e, g, b⟩ := parse_inr _ (Nat.le_refl _) hp
    have q := h1 ts hp
    rw [← e]
    exact plain_text_body ht.tokens g b (by rw [e]; exact hl) q
  | inl p =>
    have q := h2 p hp
    apply body_W
    simp [P.f_plain_text, startE]
    refine ht hl (fun ts e => by rw [hp] at e; cases e) fun q' e => ?_
    rw [hp] at e
    cases e
    simp [fin]
    exact q
theorem control_count_any {Φ : Prog} {Wf : Nat} {fz : Bool} (ht : TextOk Φ fz) {s : List Nat} (hl : s.length ≤ 10000) {st : Store} {Q : D → Store → Prop} {E : Exn → Store → Prop} (h1 : ∀ ts, parse 0 0 s = .inr ts → Q (.int (ts.filter Tok.ctl).length) st) (h2 : ∀ p : Nat, parse 0 0 s = .inl p → E ⟨"InvalidText", "position", .int (p : Int)⟩ st) :
    (bodyR Φ Wf P.f_control_count [.str s] st).W Q E := by
  cases hp : parse 0 0 s with
  | inr ts =>
    obtain ⟨e, g, b⟩ := parse_inr _ (Nat.le_refl _) hp
    have q := h1 ts hp
    rw [← e]
    exact control_count_body ht.tokens g b (by rw [e]; exact hl) q
  | inl p =>
    have q := h2 p hp
    apply body_W
    simp [P.f_control_count, startE]
    refine ht hl (fun ts e => by rw [hp] at e; cases e) fun q' e => ?_
    rw [hp] at e
    cases e
    simp [fin]
    exact q
/-! ### the laws' own scan -/
def canI (s : List Nat) (st : Store) (ds : List D) (σ : Env) (st' : Store) : Prop := ∃ (r : List Nat) (k : Nat) (w : Bool) (o : Option D), ds = r.map (fun c => .str [c]) ∧ scan 0 false s = scan k w r ∧ st' = st ∧ σ = [some (.str s), o, some (.int (k : Int)), some (.bl w)]
theorem can_begin_body {Φ : Prog} {Wf : Nat} {s : List Nat} {st : Store} {Q : D → Store → Prop} {E : Exn → Store → Prop} (h : Q (.bl (scan 0 false s).isSome) st) : (bodyR Φ Wf P.fddlaw_can_begin [.str s] st).W Q E := by
  apply body_W
  simp [P.fddlaw_can_begin, startE]
  refine forL_W (canI s st) ⟨s, 0, false, none, rfl, rfl, rfl, rfl⟩ ?_ ?_
  · rintro d r σ st' ⟨rest, k, w, o, e1, e2, rfl, rfl⟩
    cases rest with
    | nil => simp at e1
    | cons c rest =>
      simp only [List.map_cons, List.cons.injEq] at e1
      obtain ⟨rfl, rfl⟩ := e1
      have hk : ¬ ((k : Int) < 0) := by omega
      have hk1 : ¬ ((k : Int) + 1 < 0) := by omega
      cases w with
      | true =>
        rw [scan_t] at e2
        by_cases hc : c = 60 ∨ c = 62
        · rw [if_pos hc] at e2
          simp [hc, hk]
          exact ⟨rest, k, false, _, rfl, e2, rfl, rfl⟩
        · rw [if_neg hc] at e2
          simp [hc, fin]
          rw [e2] at h
          exact h
      | false =>
        by_cases h1 : c = 123
        · subst h1
          rw [scan_123] at e2
          simp [hk1]
          exact ⟨rest, k + 1, true, some (.str [123]), rfl, e2, rfl, by simp⟩
        · by_cases h2 : c = 124
          · subst h2
            rw [scan_124] at e2
            simp [hk]
            exact ⟨rest, k, true, _, rfl, e2, rfl, rfl⟩
          · by_cases h3 : c = 125
            · subst h3
              cases k with
              | zero =>
                rw [scan_125z] at e2
                simp [fin]
                rw [e2] at h
                exact h
              | succ k =>
                rw [scan_125] at e2
                have hk2 : ¬ ((k : Int) + 1 - 1 < 0) := by omega
                have hk3 : (k : Int) + 1 - 1 = (k : Int) := by omega
                have hk4 : ¬ ((k : Int) < 0) := by omega
                simp [hk2, hk3, hk4]
                exact ⟨rest, k, false, some (.str [125]), rfl, e2, rfl, by simp⟩
            · by_cases h4 : c = 10
              · subst h4
                rw [scan_10] at e2
                simp [fin]
                rw [e2] at h
                exact h
              · rw [scan_c ⟨h1, h2, h3, h4⟩] at e2
                simp [h1, h2, h3, h4, hk]
                exact ⟨rest, k, false, _, rfl, e2, rfl, rfl⟩
  · rintro σ st' ⟨rest, k, w, o, e1, e2, rfl, rfl⟩
    cases rest with
    | cons t rest => simp at e1
    | nil =>
      rw [scan_nil] at e2
      simp [fin]
      rw [e2] at h
      exact h
end PV
set_option Elab.async false
set_option linter.all false
set_option maxRecDepth 10000
set_option maxHeartbeats 4000000
/-! PvP3: data behind refs; the empty list; ends of texts. -/
namespace PV
mutual
theorem gD_id {g : Nat → D} : ∀ {d : D}, refsD 0 d = true → gD g d = d
  | .non, _ => rfl
  | .bl _, _ => rfl
  | .int _, _ => rfl
  | .str _, _ => rfl
  | .scr _, _ => rfl
  | .frd kvs, h => by simp only [refsD] at h; simp only [gD, gKs_id h]
  | .ref n, h => by simp [refsD] at h
  | .tup xs, h => by simp only [refsD] at h; simp only [gD, gDs_id h]
  | .frz xs, h => by simp only [refsD] at h; simp only [gD, gDs_id h]
theorem gDs_id {g : Nat → D} : ∀ {ds : List D}, refsL 0 ds = true → gDs g ds = ds
  | [], _ => rfl
  | d :: ds, h => by
    simp only [refsL, Bool.and_eq_true] at h
    simp only [gDs, gD_id h.1, gDs_id h.2]
theorem gKs_id {g : Nat → D} : ∀ {ds : List (D × D)}, refsK 0 ds = true → gKs g ds = ds
  | [], _ => rfl
  | (q, d) :: ds, h => by
    simp only [refsK, Bool.and_eq_true] at h
    simp only [gKs, gD_id h.1, gKs_id h.2]
end
theorem lookF_id {st : Store} : ∀ {f : Nat} {d : D}, refsD 0 d = true → lookF st f d = d
  | 0, _, _ => rfl
  | f + 1, d, h => by rw [lookF]; exact gD_id h
theorem map_lookF {st : Store} {f : Nat} : ∀ {ds : List D}, refsL 0 ds = true → ds.map (lookF st f) = ds
  | [], _ => rfl
  | d :: ds, h => by
    simp only [refsL, Bool.and_eq_true] at h
    rw [List.map_cons, lookF_id h.1, map_lookF h.2]
theorem mapK_lookF {st : Store} {f : Nat} : ∀ {ds : List (D × D)}, refsK 0 ds = true → (ds.map fun p => (p.1, lookF st f p.2)) = ds
  | [], _ => rfl
  | (q, d) :: ds, h => by
    simp only [refsK, Bool.and_eq_true] at h
    rw [List.map_cons, lookF_id h.1, mapK_lookF h.2]
/-- a list of the store within data -/
theorem deep_pair_lst {st : Store} {n : Nat} {xs : List D} {s : List Nat} (h : st[n]? = some (.lst xs)) (hx : refsL 0 xs = true) : deep st (.frz [.str s, .ref n]) = .frz [.str s, .frz xs] := by
  unfold deep
  rw [lookF]
  simp only [gD, gDs, h, map_lookF hx]
theorem deep_pair_dic {st : Store} {n : Nat} {xs : List (D × D)} {s : List Nat} (h : st[n]? = some (.dic xs)) (hx : refsK 0 xs = true) : deep st (.frz [.str s, .ref n]) = .frz [.str s, .frd xs] := by
  unfold deep
  rw [lookF]
  simp only [gD, gDs, h, mapK_lookF hx]
theorem repD_none {d : D} (h : datD d = false) : repD d = none := by
  unfold repD
  rw [if_neg (by simp [h])]
theorem rangeL0 {n : Nat} : rangeL 0 (n : Int) = (List.range n).map fun (k : Nat) => D.int (k : Int) := by
  unfold rangeL
  simp
theorem scan_pre {k : Nat} {w : Bool} {a b : List Nat} (h : (scan k w (a ++ b)).isSome = true) : (scan k w a).isSome = true := by
  rw [scan_app] at h
  cases e : scan k w a with
  | none => rw [e] at h; cases h
  | some q => rfl
theorem scan_take {k : Nat} {w : Bool} {s : List Nat} {i j : Nat} (hij : i ≤ j) (h : (scan k w (s.take j)).isSome = true) : (scan k w (s.take i)).isSome = true := by
  have e : s.take j = s.take i ++ (s.take j).drop i := by
    have := List.take_append_drop i (s.take j)
    rw [List.take_take, Nat.min_eq_left hij] at this
    exact this.symm
  rw [e] at h
  exact scan_pre h
theorem cut_last {s : List Nat} : cut s (some (-1)) none = s.drop (s.length - 1) := by
  simp only [cut, sIx]
  rw [if_pos (by decide)]
  have e : ((-1 : Int) + (s.length : Int)).toNat = s.length - 1 := by omega
  rw [e, List.take_of_length_le (by simp)]
theorem drop_last {s : List Nat} {c : Nat} : s.drop (s.length - 1) = [c] ↔ s.getLast? = some c := by
  rcases List.eq_nil_or_concat s with rfl | ⟨t, d, rfl⟩
  · simp
  · simp
section
variable {st : Store} {xs : List D} {n : Nat}
theorem nil_key {x : D} (c : Bool) (z : Option Bool) : (if c = true then some (eqD (.frz (x :: xs)) (.frz [])) else (lenNe (.frz (x :: xs)) (.frz [])).or z) = some (x :: xs).isEmpty := by
  cases c
  · simp [lenNe]
  · simp [eqD, eqDs]
theorem eqS_nil : eqS st (.frz xs) (.frz []) = some xs.isEmpty := by
  unfold eqS
  rw [if_neg (by simp [scalD])]
  cases xs with
  | nil => simp [look, pureD, puresD, depD, depDs, eqD, eqDs]
  | cons x xs => exact nil_key _ _
@[simp] theorem eq_nil : cmpR .eq (.frz xs) (.frz []) st = .ok (.bl xs.isEmpty) st := by
  simp only [cmpR, cmpop, eqS_nil]
@[simp] theorem ne_nil : cmpR .ne (.frz xs) (.frz []) st = .ok (.bl (!xs.isEmpty)) st := by
  simp only [cmpR, cmpop, eqS_nil, Option.map_some]
theorem eq_nil_ref (h : st[n]? = some (.lst xs)) : cmpR .eq (.ref n) (.frz []) st = .ok (.bl xs.isEmpty) st := by
  have hl : look st (.ref n) = .frz xs := by simp only [look, h]
  have e : eqS st (.ref n) (.frz []) = some xs.isEmpty := by
    unfold eqS
    rw [if_neg (by simp [scalD]), hl]
    cases xs with
    | nil => simp [look, pureD, puresD, depD, depDs, eqD, eqDs]
    | cons x xs => exact nil_key _ _
  simp only [cmpR, cmpop, e]
end
@[simp] theorem tyIn_b {cls : List String} {n : String} : tyIn cls (.b n) = ["NoneType", "bool", "int", "str", "tuple", "list", "dict"].contains n := rfl
@[simp] theorem isTy_b {a b : String} : isTy (.b a) (.b b) = (decide (a = b) || (decide (a = "bool") && decide (b = "int"))) := by
  unfold isTy
  rw [Bool.eq_iff_iff]
  simp
/-! ### cuts -/
theorem execs_app {Φ : Prog} {Wf : Nat} {cur : Option Exn} : ∀ {a b : List S} {σ : Env} {st : Store} {P : Post}, (execs Φ Wf cur (a ++ b) σ st).W P = (execs Φ Wf cur a σ st).W { P with nx := fun σ st => (execs Φ Wf cur b σ st).W P }
  | [], b, σ, st, P => by rw [List.nil_append, w_ss0]
  | s :: a, b, σ, st, P => by
    rw [List.cons_append, w_ss, w_ss]
    congr 1
    congr 1
    funext σ st
    exact execs_app
/-- a cut behind n statements -/
theorem cut_at {Φ : Prog} {Wf : Nat} {cur : Option Exn} {b : List S} {σ : Env} {st : Store} {P : Post} (n : Nat) (J : Env → Store → Prop) (h1 : (execs Φ Wf cur (b.take n) σ st).W { P with nx := J }) (h2 : ∀ σ st, J σ st → (execs Φ Wf cur (b.drop n) σ st).W P) : (execs Φ Wf cur b σ st).W P := by
  rw [← List.take_append_drop n b, execs_app]
  exact h1.mono h2 (fun _ _ h => h) (fun _ _ h => h) (fun _ _ h => h) (fun _ _ _ h => h)
/-- a turn of a walk: the name takes the item -/
theorem turn_n {Φ : Prog} {Wf : Nat} {cur : Option Exn} {i : Nat} {d : D} {σ : Env} {st : Store} {b : List S} {P : Post} (hi : i < σ.length) (h : (execs Φ Wf cur b (σ.set i (some d)) st).W P) : ((assign Φ cur σ (.n i) d st).out σ fun σ st => execs Φ Wf cur b σ st).W P := by
  rw [W_out, w_an]
  exact ⟨hi, h⟩
end PV
set_option Elab.async false
set_option linter.all false
set_option maxRecDepth 10000
set_option maxHeartbeats 4000000
/-! PvPg: paragraphs: how they are built, where they stand. -/
namespace PV
/-- an element of a block -/
inductive Cn where
  | ch (i : Nat) | iso (b : Nat) | mk (d : Bool)
  deriving DecidableEq, Repr, Inhabited
abbrev sIso : List Nat := [105, 115, 111, 108, 97, 116, 101]
def Cn.d : Cn → D
  | .ch i => .tup [.str sChar, .int (i : Nat)]
  | .iso b => .tup [.str sIso, .int (b : Nat)]
  | .mk d => .tup [.str sMark, .str (dirS d)]
structure Blk where
  d : Bool
  par : Option Nat
  dep : Nat
  fst : Nat
  pst : Nat
  con : List Cn
  tks : List Tok
  deriving Repr, Inhabited
def optD : Option Nat → D
  | none => .non
  | some j => .int (j : Nat)
/-- the record of block i; m: where the first record stands -/
def Blk.ins (m i : Nat) (b : Blk) : SO := .ins "BlockRecord" [("block_direction", .str (dirS b.d)), ("parent_block", optD b.par), ("block_depth", .int (b.dep : Nat)), ("first_character", .int (b.fst : Nat)), ("past_character", .int (b.pst : Nat)), ("content", .ref (m + 3 * i + 1)), ("block_tokens", .ref (m + 3 * i + 2))]
def Blk.cn (b : Blk) : SO := .lst (b.con.map Cn.d)
def Blk.tk (b : Blk) : SO := .lst (b.tks.map Tok.d)
def recS (m : Nat) : Nat → List Blk → Store
  | _, [] => []
  | i, b :: bs => b.ins m i :: b.cn :: b.tk :: recS m (i + 1) bs
theorem recS_len {m : Nat} : ∀ {i : Nat} {bs : List Blk}, (recS m i bs).length = 3 * bs.length
  | _, [] => rfl
  | i, b :: bs => by simp only [recS, List.length_cons, recS_len]; omega
theorem recS_app {m : Nat} : ∀ {i : Nat} {bs cs : List Blk}, recS m i (bs ++ cs) = recS m i bs ++ recS m (i + bs.length) cs
  | i, [], cs => rfl
  | i, b :: bs, cs => by
    simp only [List.cons_append, recS, recS_app (bs := bs), List.length_cons]
    congr 5
    omega
theorem recS_get0 {m : Nat} : ∀ {i j : Nat} {bs : List Blk}, (recS m i bs)[3 * j]? = (bs[j]?).map (Blk.ins m (i + j))
  | i, 0, [] => rfl
  | i, 0, b :: bs => rfl
  | i, j + 1, [] => rfl
  | i, j + 1, b :: bs => by
    rw [show 3 * (j + 1) = 3 * j + 3 by omega]
    show (recS m (i + 1) bs)[3 * j]? = _
    rw [recS_get0, show i + 1 + j = i + (j + 1) by omega]
    rfl
theorem recS_get1 {m : Nat} : ∀ {i j : Nat} {bs : List Blk}, (recS m i bs)[3 * j + 1]? = (bs[j]?).map Blk.cn
  | i, 0, [] => rfl
  | i, 0, b :: bs => rfl
  | i, j + 1, [] => rfl
  | i, j + 1, b :: bs => by
    rw [show 3 * (j + 1) + 1 = 3 * j + 1 + 3 by omega]
    show (recS m (i + 1) bs)[3 * j + 1]? = _
    rw [recS_get1]
    rfl
theorem recS_get2 {m : Nat} : ∀ {i j : Nat} {bs : List Blk}, (recS m i bs)[3 * j + 2]? = (bs[j]?).map Blk.tk
  | i, 0, [] => rfl
  | i, 0, b :: bs => rfl
  | i, j + 1, [] => rfl
  | i, j + 1, b :: bs => by
    rw [show 3 * (j + 1) + 2 = 3 * j + 2 + 3 by omega]
    show (recS m (i + 1) bs)[3 * j + 2]? = _
    rw [recS_get2]
    rfl
theorem recS_set0 {m : Nat} {b' : Blk} : ∀ {i j : Nat} {bs : List Blk} {b : Blk}, bs[j]? = some b → b'.con = b.con → b'.tks = b.tks → (recS m i bs).set (3 * j) (b'.ins m (i + j)) = recS m i (bs.set j b')
  | i, j, [], b, h, _, _ => by cases h
  | i, 0, b :: bs, _, h, e1, e2 => by
    cases h
    show b'.ins m (i + 0) :: b.cn :: b.tk :: recS m (i + 1) bs = b'.ins m i :: b'.cn :: b'.tk :: recS m (i + 1) bs
    rw [Blk.cn, Blk.cn, Blk.tk, Blk.tk, e1, e2]
    rfl
  | i, j + 1, b :: bs, _, h, e1, e2 => by
    rw [show 3 * (j + 1) = 3 * j + 3 by omega, show i + (j + 1) = i + 1 + j by omega]
    show b.ins m i :: b.cn :: b.tk :: (recS m (i + 1) bs).set (3 * j) _ = _
    rw [recS_set0 (by simpa using h) e1 e2]
    rfl
theorem recS_set1 {m : Nat} {c : List Cn} : ∀ {i j : Nat} {bs : List Blk} {b : Blk}, bs[j]? = some b → (recS m i bs).set (3 * j + 1) (.lst (c.map Cn.d)) = recS m i (bs.set j { b with con := c })
  | i, j, [], b, h => by cases h
  | i, 0, b :: bs, _, h => by cases h; rfl
  | i, j + 1, b :: bs, _, h => by
    rw [show 3 * (j + 1) + 1 = 3 * j + 1 + 3 by omega]
    show b.ins m i :: b.cn :: b.tk :: (recS m (i + 1) bs).set (3 * j + 1) _ = _
    rw [recS_set1 (by simpa using h)]
    rfl
theorem recS_set2 {m : Nat} {c : List Tok} : ∀ {i j : Nat} {bs : List Blk} {b : Blk}, bs[j]? = some b → (recS m i bs).set (3 * j + 2) (.lst (c.map Tok.d)) = recS m i (bs.set j { b with tks := c })
  | i, j, [], b, h => by cases h
  | i, 0, b :: bs, _, h => by cases h; rfl
  | i, j + 1, b :: bs, _, h => by
    rw [show 3 * (j + 1) + 2 = 3 * j + 2 + 3 by omega]
    show b.ins m i :: b.cn :: b.tk :: (recS m (i + 1) bs).set (3 * j + 2) _ = _
    rw [recS_set2 (by simpa using h)]
    rfl
section
variable {pre : Store} {m j i : Nat} {bs : List Blk} {b : Blk} {o : SO}
theorem rg0 (hp : pre.length = m) (hb : bs[j]? = some b) : (pre ++ recS m 0 bs)[m + 3 * j]? = some (b.ins m j) := by
  rw [List.getElem?_append_right (by omega), show m + 3 * j - pre.length = 3 * j by omega, recS_get0, hb, Nat.zero_add]
  rfl
theorem rg1 (hp : pre.length = m) (hb : bs[j]? = some b) : (pre ++ recS m 0 bs)[m + 3 * j + 1]? = some b.cn := by
  rw [List.getElem?_append_right (by omega), show m + 3 * j + 1 - pre.length = 3 * j + 1 by omega, recS_get1, hb]
  rfl
theorem rg2 (hp : pre.length = m) (hb : bs[j]? = some b) : (pre ++ recS m 0 bs)[m + 3 * j + 2]? = some b.tk := by
  rw [List.getElem?_append_right (by omega), show m + 3 * j + 2 - pre.length = 3 * j + 2 by omega, recS_get2, hb]
  rfl
theorem rs0 {b' : Blk} (hp : pre.length = m) (hb : bs[j]? = some b) (e1 : b'.con = b.con) (e2 : b'.tks = b.tks) : (pre ++ recS m 0 bs).set (m + 3 * j) (b'.ins m j) = pre ++ recS m 0 (bs.set j b') := by
  rw [List.set_append_right _ _ (by omega), show m + 3 * j - pre.length = 3 * j by omega]
  have := recS_set0 (m := m) (i := 0) hb e1 e2
  rw [Nat.zero_add] at this
  rw [this]
theorem rs1 {c : List Cn} (hp : pre.length = m) (hb : bs[j]? = some b) : (pre ++ recS m 0 bs).set (m + 3 * j + 1) (.lst (c.map Cn.d)) = pre ++ recS m 0 (bs.set j { b with con := c }) := by
  rw [List.set_append_right _ _ (by omega), show m + 3 * j + 1 - pre.length = 3 * j + 1 by omega, recS_set1 hb]
theorem rs2 {c : List Tok} (hp : pre.length = m) (hb : bs[j]? = some b) : (pre ++ recS m 0 bs).set (m + 3 * j + 2) (.lst (c.map Tok.d)) = pre ++ recS m 0 (bs.set j { b with tks := c }) := by
  rw [List.set_append_right _ _ (by omega), show m + 3 * j + 2 - pre.length = 3 * j + 2 by omega, recS_set2 hb]
end
/-! ### a def's end that keeps its own things -/
theorem oldOK_app {k : Nat} : ∀ {a b c : Store}, oldOK k (a ++ b) (a ++ c) = oldOK k b c
  | [], _, _ => rfl
  | o :: a, b, c => by
    simp only [List.cons_append, oldOK, decide_true, Bool.true_or, Bool.true_and]
    exact oldOK_app
theorem oldOK_all {k : Nat} : ∀ {a b : Store}, a.length ≤ b.length → (∀ o ∈ b, refsO k o = true) → oldOK k a b = true
  | [], _, _, _ => rfl
  | o :: a, [], h, _ => by simp at h
  | o :: a, o' :: b, h, hb => by
    simp only [oldOK, hb o' List.mem_cons_self, Bool.or_true, Bool.true_and]
    exact oldOK_all (by simpa using h) fun x hx => hb x (List.mem_cons_of_mem _ hx)
theorem gc_stay {frz : Bool} {st₀ st : Store} {d : D} (h : oldOK st₀.length st₀ st = false) : gc frz st₀ st d = (d, st) := by
  unfold gc
  dsimp only
  rw [if_neg (by rw [h, Bool.and_false]; decide)]
theorem refsL_cn {c : List Cn} : refsL 0 (c.map Cn.d) = true := by
  induction c with
  | nil => rfl
  | cons x c ih =>
    rw [List.map_cons]
    simp only [refsL, ih, Bool.and_true]
    cases x <;> simp [Cn.d, refsD, refsL]
theorem refs_recS {m k : Nat} : ∀ {i : Nat} {bs : List Blk}, m + 3 * (i + bs.length) ≤ k → ∀ o ∈ recS m i bs, refsO k o = true
  | i, [], _, o, h => by cases h
  | i, b :: bs, hk, o, h => by
    simp only [List.length_cons] at hk
    simp only [recS, List.mem_cons] at h
    rcases h with rfl | rfl | rfl | h
    · have hp : refsD k (optD b.par) = true := by cases b.par <;> rfl
      simp only [Blk.ins, refsO, List.all_cons, List.all_nil, hp, refsD, Bool.and_true, Bool.true_and, Bool.and_eq_true, decide_eq_true_eq]
      omega
    · exact refsL_mono (Nat.zero_le _) refsL_cn
    · exact refsL_mono (Nat.zero_le _) refs_toks
    · exact refs_recS (i := i + 1) (by omega) o h
/-! ### the class -/
structure ParaC (Φ : Prog) : Prop where
  p1 : Φ.noat "Paragraph" "kept_tokens" = true
  p2 : Φ.noat "Paragraph" "kept_text" = true
  p3 : Φ.noat "Paragraph" "kept_base" = true
  p4 : Φ.noat "Paragraph" "kept_plain" = true
  p5 : Φ.noat "Paragraph" "records" = true
  p6 : Φ.noat "Paragraph" "homes" = true
  b1 : Φ.noat "BlockRecord" "block_direction" = true
  b2 : Φ.noat "BlockRecord" "parent_block" = true
  b3 : Φ.noat "BlockRecord" "block_depth" = true
  b4 : Φ.noat "BlockRecord" "first_character" = true
  b5 : Φ.noat "BlockRecord" "past_character" = true
  b6 : Φ.noat "BlockRecord" "content" = true
  b7 : Φ.noat "BlockRecord" "block_tokens" = true
  h1 : Φ.has "Paragraph" "control_count" = true
  h2 : Φ.has "Paragraph" "build" = true
  h3 : Φ.has "Paragraph" "keep_token" = true
/-- a new record -/
def newB (d : Bool) (par : Option Nat) (dep fst : Nat) : Blk := ⟨d, par, dep, fst, fst, [], []⟩
theorem record_body {Φ : Prog} {Wf : Nat} (C : ParaC Φ) {st : Store} {d : Bool} {par : Option Nat} {dep fst m i : Nat} (hm : st.length = m + 3 * i) {Q : D → Store → Prop} {E : Exn → Store → Prop}
    (h : Q .non (st ++ [(newB d par dep fst).ins m i, .lst [], .lst []])) : (bodyR Φ Wf P.m_BlockRecord_init [.ref st.length, .str (dirS d), optD par, .int (dep : Nat), .int (fst : Nat)] (st ++ [.ins "BlockRecord" []])).W Q E := by
  apply body_W
  simp [P.m_BlockRecord_init, startE, C.b1, C.b2, C.b3, C.b4, C.b5, C.b6, C.b7, putF, fin]
  have e0 : oldOK (st ++ [SO.ins "BlockRecord" []]).length (st ++ [SO.ins "BlockRecord" []]) (st ++ [(newB d par dep fst).ins m i, .lst [], .lst []]) = false := by
    rw [oldOK_app]
    simp [oldOK, Blk.ins, refsO, refsD]
    omega
  have e1 : (newB d par dep fst).ins m i = SO.ins "BlockRecord" [("block_direction", .str (dirS d)), ("parent_block", optD par), ("block_depth", .int (dep : Nat)), ("first_character", .int (fst : Nat)), ("past_character", .int (fst : Nat)), ("content", .ref (st.length + 1)), ("block_tokens", .ref (st.length + 2))] := by
    simp [Blk.ins, newB, hm]
  rw [← e1, gc_stay e0]
  exact h
def RecOk (Φ : Prog) : Prop := ∀ {st : Store} {d : Bool} {par : Option Nat} {dep fst m i : Nat} {Q : D → Store → Prop} {E : Exn → Store → Prop}, st.length = m + 3 * i → Q .non (st ++ [(newB d par dep fst).ins m i, .lst [], .lst []]) → (Φ.call "BlockRecord" "__init__" [.ref st.length, .str (dirS d), optD par, .int (dep : Nat), .int (fst : Nat)] [] (st ++ [.ins "BlockRecord" []])).W Q E
/-! ### building -/
/-- a token is kept by all open blocks -/
def keepT (t : Tok) : List Nat → List Blk → List Blk
  | [], bs => bs
  | j :: r, bs => keepT t r (bs.modify j fun b => { b with tks := b.tks ++ [t] })
theorem keepT_len {t : Tok} : ∀ {js : List Nat} {bs : List Blk}, (keepT t js bs).length = bs.length
  | [], bs => rfl
  | j :: r, bs => by rw [keepT, keepT_len, List.length_modify]
/-- the paragraph's head: n where it stands -/
def paraH (n : Nat) (ts : List Tok) (txt : List Nat) (base : Bool) (pl : List Nat) : SO := .ins "Paragraph" [("kept_tokens", .frz (ts.map Tok.d)), ("kept_text", .str txt), ("kept_base", .str (dirS base)), ("kept_plain", .str pl), ("records", .ref (n + 1)), ("homes", .ref (n + 2))]
def recL (m : Nat) (k : Nat) : SO := .lst ((List.range k).map fun i => .ref (m + 3 * i))
def homL (h : List Nat) : SO := .lst (h.map fun i => .int (i : Nat))
def paraS (n : Nat) (ts : List Tok) (txt : List Nat) (base : Bool) (pl : List Nat) (stk hom : List Nat) (bs : List Blk) : Store := [paraH n ts txt base pl, recL (n + 4) bs.length, homL hom, homL stk] ++ recS (n + 4) 0 bs
section
variable {st : Store} {n : Nat} {ts : List Tok} {txt pl : List Nat} {base : Bool} {stk hom : List Nat} {bs : List Blk} {j : Nat} {b : Blk} {o : SO}
theorem pS_eq : st ++ paraS n ts txt base pl stk hom bs = (st ++ [paraH n ts txt base pl, recL (n + 4) bs.length, homL hom, homL stk]) ++ recS (n + 4) 0 bs := by simp [paraS]
theorem pS0 : (st ++ paraS st.length ts txt base pl stk hom bs)[st.length]? = some (paraH st.length ts txt base pl) := by simp [paraS]
theorem pS1 : (st ++ paraS st.length ts txt base pl stk hom bs)[st.length + 1]? = some (recL (st.length + 4) bs.length) := by
  rw [List.getElem?_append_right (by omega), show st.length + 1 - st.length = 1 by omega]; rfl
theorem pS2 : (st ++ paraS st.length ts txt base pl stk hom bs)[st.length + 2]? = some (homL hom) := by
  rw [List.getElem?_append_right (by omega), show st.length + 2 - st.length = 2 by omega]; rfl
theorem pS3 : (st ++ paraS st.length ts txt base pl stk hom bs)[st.length + 3]? = some (homL stk) := by
  rw [List.getElem?_append_right (by omega), show st.length + 3 - st.length = 3 by omega]; rfl
theorem pSi (h : bs[j]? = some b) : (st ++ paraS st.length ts txt base pl stk hom bs)[st.length + 4 + 3 * j]? = some (b.ins (st.length + 4) j) := by
  rw [pS_eq]; exact rg0 (by simp) h
theorem pSc (h : bs[j]? = some b) : (st ++ paraS st.length ts txt base pl stk hom bs)[st.length + 4 + 3 * j + 1]? = some b.cn := by
  rw [pS_eq]; exact rg1 (by simp) h
theorem pSt (h : bs[j]? = some b) : (st ++ paraS st.length ts txt base pl stk hom bs)[st.length + 4 + 3 * j + 2]? = some b.tk := by
  rw [pS_eq]; exact rg2 (by simp) h
theorem pUt {c : List Tok} (h : bs[j]? = some b) : (st ++ paraS st.length ts txt base pl stk hom bs).set (st.length + 4 + 3 * j + 2) (.lst (c.map Tok.d)) = st ++ paraS st.length ts txt base pl stk hom (bs.set j { b with tks := c }) := by
  rw [pS_eq, rs2 (by simp) h, pS_eq, List.length_set]
theorem pUc {c : List Cn} (h : bs[j]? = some b) : (st ++ paraS st.length ts txt base pl stk hom bs).set (st.length + 4 + 3 * j + 1) (.lst (c.map Cn.d)) = st ++ paraS st.length ts txt base pl stk hom (bs.set j { b with con := c }) := by
  rw [pS_eq, rs1 (by simp) h, pS_eq, List.length_set]
theorem pUi {b' : Blk} (h : bs[j]? = some b) (e1 : b'.con = b.con) (e2 : b'.tks = b.tks) : (st ++ paraS st.length ts txt base pl stk hom bs).set (st.length + 4 + 3 * j) (b'.ins (st.length + 4) j) = st ++ paraS st.length ts txt base pl stk hom (bs.set j b') := by
  rw [pS_eq, rs0 (by simp) h e1 e2, pS_eq, List.length_set]
theorem pU2 {h' : List Nat} : (st ++ paraS st.length ts txt base pl stk hom bs).set (st.length + 2) (homL h') = st ++ paraS st.length ts txt base pl stk h' bs := by
  rw [List.set_append_right _ _ (by omega), show st.length + 2 - st.length = 2 by omega]; rfl
theorem pU3 {h' : List Nat} : (st ++ paraS st.length ts txt base pl stk hom bs).set (st.length + 3) (homL h') = st ++ paraS st.length ts txt base pl h' hom bs := by
  rw [List.set_append_right _ _ (by omega), show st.length + 3 - st.length = 3 by omega]; rfl
theorem recL_get {m k : Nat} (h : j < k) : getI ((List.range k).map fun i => D.ref (m + 3 * i)) (j : Int) = some (.ref (m + 3 * j)) := by
  rw [getI_nat]
  simp [h]
theorem paraS_len : (paraS n ts txt base pl stk hom bs).length = 4 + 3 * bs.length := by
  simp [paraS, recS_len]; omega
/-- another store of the same shape: old things name old things -/
theorem oldP {hom' stk' : List Nat} {bs' : List Blk} (hl : bs.length = bs'.length) : oldOK (st ++ paraS st.length ts txt base pl stk hom bs).length (st ++ paraS st.length ts txt base pl stk hom bs) (st ++ paraS st.length ts txt base pl stk' hom' bs') = true := by
  rw [oldOK_app]
  refine oldOK_all (by rw [paraS_len, paraS_len, hl]; omega) fun o ho => ?_
  have hk : (st ++ paraS st.length ts txt base pl stk hom bs).length = st.length + 4 + 3 * bs'.length := by rw [List.length_append, paraS_len]; omega
  rw [hk]
  have hint : ∀ l : List Nat, refsO (st.length + 4 + 3 * bs'.length) (homL l) = true := fun l => by
    show refsL _ _ = true
    induction l with
    | nil => rfl
    | cons x l ih => simp only [List.map_cons, refsL, ih, refsD, Bool.and_self]
  simp only [paraS, List.cons_append, List.nil_append, List.mem_cons] at ho
  rcases ho with rfl | rfl | rfl | rfl | ho
  · simp only [paraH, refsO, List.all_cons, List.all_nil, refsD, Bool.and_true, Bool.true_and, Bool.and_eq_true, decide_eq_true_eq]
    exact ⟨refsL_mono (Nat.zero_le _) refs_toks, by omega, by omega⟩
  · show refsL _ _ = true
    have : ∀ k, k ≤ bs'.length → refsL (st.length + 4 + 3 * bs'.length) ((List.range k).map fun i => D.ref (st.length + 4 + 3 * i)) = true := fun k hk => by
      have q : ∀ l : List Nat, (∀ i ∈ l, i < bs'.length) → refsL (st.length + 4 + 3 * bs'.length) (l.map fun i => D.ref (st.length + 4 + 3 * i)) = true := fun l hl => by
        induction l with
        | nil => rfl
        | cons x l ih =>
          simp only [List.map_cons, refsL, refsD, Bool.and_eq_true, decide_eq_true_eq]
          have := hl x List.mem_cons_self
          exact ⟨by omega, ih fun i hi => hl i (List.mem_cons_of_mem _ hi)⟩
      exact q _ fun i hi => by have := List.mem_range.mp hi; omega
    exact this _ (Nat.le_refl _)
  · exact hint _
  · exact hint _
  · exact refs_recS (by omega) o ho
end
section
variable {Φ : Prog} {n m i : Nat} {ts : List Tok} {txt pl : List Nat} {base : Bool} {b : Blk}
theorem pf1 (C : ParaC Φ) : fldO Φ.noat "kept_tokens" (some (paraH n ts txt base pl)) = some (.frz (ts.map Tok.d)) := by simp [paraH, C.p1, List.lookup]
theorem pf2 (C : ParaC Φ) : fldO Φ.noat "kept_text" (some (paraH n ts txt base pl)) = some (.str txt) := by simp [paraH, C.p2, List.lookup]
theorem pf3 (C : ParaC Φ) : fldO Φ.noat "kept_base" (some (paraH n ts txt base pl)) = some (.str (dirS base)) := by simp [paraH, C.p3, List.lookup]
theorem pf4 (C : ParaC Φ) : fldO Φ.noat "kept_plain" (some (paraH n ts txt base pl)) = some (.str pl) := by simp [paraH, C.p4, List.lookup]
theorem pf5 (C : ParaC Φ) : fldO Φ.noat "records" (some (paraH n ts txt base pl)) = some (.ref (n + 1)) := by simp [paraH, C.p5, List.lookup]
theorem pf6 (C : ParaC Φ) : fldO Φ.noat "homes" (some (paraH n ts txt base pl)) = some (.ref (n + 2)) := by simp [paraH, C.p6, List.lookup]
theorem bf1 (C : ParaC Φ) : fldO Φ.noat "block_direction" (some (b.ins m i)) = some (.str (dirS b.d)) := by simp [Blk.ins, C.b1, List.lookup]
theorem bf2 (C : ParaC Φ) : fldO Φ.noat "parent_block" (some (b.ins m i)) = some (optD b.par) := by simp [Blk.ins, C.b2, List.lookup]
theorem bf3 (C : ParaC Φ) : fldO Φ.noat "block_depth" (some (b.ins m i)) = some (.int (b.dep : Nat)) := by simp [Blk.ins, C.b3, List.lookup]
theorem bf4 (C : ParaC Φ) : fldO Φ.noat "first_character" (some (b.ins m i)) = some (.int (b.fst : Nat)) := by simp [Blk.ins, C.b4, List.lookup]
theorem bf5 (C : ParaC Φ) : fldO Φ.noat "past_character" (some (b.ins m i)) = some (.int (b.pst : Nat)) := by simp [Blk.ins, C.b5, List.lookup]
theorem bf6 (C : ParaC Φ) : fldO Φ.noat "content" (some (b.ins m i)) = some (.ref (m + 3 * i + 1)) := by simp [Blk.ins, C.b6, List.lookup]
theorem bf7 (C : ParaC Φ) : fldO Φ.noat "block_tokens" (some (b.ins m i)) = some (.ref (m + 3 * i + 2)) := by simp [Blk.ins, C.b7, List.lookup]
theorem sf5 (C : ParaC Φ) {st : Store} {k p : Nat} : sfO Φ.noat (some (b.ins m i)) k "past_character" (.int (p : Nat)) st = .ok () (st.set k ({ b with pst := p }.ins m i)) := by simp [Blk.ins, C.b5, putF]
theorem im1 (C : ParaC Φ) : insO Φ.has "control_count" (some (paraH n ts txt base pl)) = some "Paragraph" := by simp [paraH, C.h1, List.lookup]
theorem im2 (C : ParaC Φ) : insO Φ.has "build" (some (paraH n ts txt base pl)) = some "Paragraph" := by simp [paraH, C.h2, List.lookup]
theorem im3 (C : ParaC Φ) : insO Φ.has "keep_token" (some (paraH n ts txt base pl)) = some "Paragraph" := by simp [paraH, C.h3, List.lookup]
theorem ixO_recL {k j : Nat} {st : Store} (h : j < k) : ixO (some (recL m k)) (.int (j : Nat)) st = .ok (.ref (m + 3 * j)) st := by
  rw [recL, ixO_lst, recL_get h]; rfl
theorem isL_tk : isL (some b.tk) = true := rfl
theorem isL_cn : isL (some b.cn) = true := rfl
theorem onL_tk {f : List D → Res D} : onL (some b.tk) f = f (b.tks.map Tok.d) := rfl
theorem onL_cn {f : List D → Res D} : onL (some b.cn) f = f (b.con.map Cn.d) := rfl
end
theorem modify_at {α : Type} {f : α → α} : ∀ {bs : List α} {j : Nat} {b : α}, bs[j]? = some b → bs.modify j f = bs.set j (f b)
  | [], j, b, h => by cases h
  | x :: bs, 0, b, h => by cases h; rfl
  | x :: bs, j + 1, b, h => by
    rw [List.modify_succ_cons, List.set_cons_succ, modify_at (by simpa using h)]
theorem take_same {α : Type} {a b : List α} (h : a.length = b.length) : b.take a.length = b := by rw [h, List.take_length]
def ktI (st : Store) (ts : List Tok) (txt : List Nat) (base : Bool) (pl stk hom : List Nat) (bs : List Blk) (t : Tok) (ds : List D) (σ : Env) (S : Store) : Prop := ∃ (r : List Nat) (cs : List Blk) (o : Option D), ds = r.map (fun i => D.int (i : Nat)) ∧ (∀ j ∈ r, j < bs.length) ∧ cs.length = bs.length ∧ keepT t stk bs = keepT t r cs ∧ (∀ (j : Nat) (b : Blk), cs[j]? = some b → b.tks.length + r.length ≤ 10000000) ∧
  S = st ++ paraS st.length ts txt base pl stk hom cs ∧ σ = [some (.ref st.length), some (.ref (st.length + 3)), some t.d, o]
theorem keep_body {Φ : Prog} {Wf : Nat} (C : ParaC Φ) {st : Store} {ts : List Tok} {txt pl stk hom : List Nat} {base : Bool} {bs : List Blk} {t : Tok} (hs : ∀ j ∈ stk, j < bs.length) (hb : ∀ (j : Nat) (b : Blk), bs[j]? = some b → b.tks.length + stk.length ≤ 10000000) {Q : D → Store → Prop} {E : Exn → Store → Prop}
    (h : Q .non (st ++ paraS st.length ts txt base pl stk hom (keepT t stk bs))) : (bodyR Φ Wf P.m_Paragraph_keep_token [.ref st.length, .ref (st.length + 3), t.d] (st ++ paraS st.length ts txt base pl stk hom bs)).W Q E := by
  apply body_W
  simp [P.m_Paragraph_keep_token, startE, pS3, homL]
  refine forL_W (ktI st ts txt base pl stk hom bs t) ⟨stk, bs, none, rfl, hs, rfl, rfl, hb, rfl, rfl⟩ ?_ ?_
  · rintro d r σ S ⟨js, cs, o, e1, g1, g2, g3, g4, rfl, rfl⟩
    cases js with
    | nil => simp at e1
    | cons j js =>
      simp only [List.map_cons, List.cons.injEq] at e1
      obtain ⟨rfl, rfl⟩ := e1
      have hj : j < cs.length := by rw [g2]; exact g1 j List.mem_cons_self
      have hb := List.getElem?_eq_getElem hj
      have hk := g4 j _ hb
      have lt : cs[j].tks.length < LIM := by simp at hk; unfold LIM; omega
      have eT : cs[j].tks.map Tok.d ++ [t.d] = (cs[j].tks ++ [t]).map Tok.d := by simp
      simp [pS0, pS1, pf5 C, ixO_recL hj, pSi hb, bf7 C, pSt hb, isL_tk, onL_tk, lt]
      rw [eT, pUt hb]
      refine ⟨by simp [pS3], js, _, _, rfl, fun i hi => g1 i (List.mem_cons_of_mem _ hi), by simp [g2], ?_, ?_, rfl, rfl⟩
      · rw [g3, keepT, modify_at hb]
      · intro i b hi
        by_cases e : j = i
        · subst e
          rw [List.getElem?_set_self hj] at hi
          cases hi
          simp at hk ⊢; omega
        · rw [List.getElem?_set_ne e] at hi
          have := g4 i b hi
          simp at this; omega
  · rintro σ S ⟨js, cs, o, e1, g1, g2, g3, g4, rfl, rfl⟩
    cases js with
    | cons j js => simp at e1
    | nil =>
      simp [fin]
      have := gc_keep (frz := true) (d := .non) (st₀ := st ++ paraS st.length ts txt base pl stk hom bs) (st := st ++ paraS st.length ts txt base pl stk hom cs) rfl (oldP g2.symm)
      rw [this, take_same (by simp [paraS_len, g2])]
      rw [g3] at h
      exact h
def KeepOk (Φ : Prog) : Prop := ∀ {st : Store} {ts : List Tok} {txt pl stk hom : List Nat} {base : Bool} {bs : List Blk} {t : Tok} {Q : D → Store → Prop} {E : Exn → Store → Prop}, (∀ j ∈ stk, j < bs.length) → (∀ (j : Nat) (b : Blk), bs[j]? = some b → b.tks.length + stk.length ≤ 10000000) → Q .non (st ++ paraS st.length ts txt base pl stk hom (keepT t stk bs)) →
  (Φ.call "Paragraph" "keep_token" [.ref st.length, .ref (st.length + 3), t.d] [] (st ++ paraS st.length ts txt base pl stk hom bs)).W Q E
/-- what is built -/
structure BS where
  stk : List Nat
  hom : List Nat
  bs : List Blk
  deriving Inhabited
def BS.top (s : BS) : Nat := s.stk.getLast?.getD 0
def addC (c : Cn) (b : Blk) : Blk := { b with con := b.con ++ [c] }
def BS.step (s : BS) : Tok → BS
  | .cl => ⟨s.stk.dropLast, s.hom, keepT .cl s.stk.dropLast (s.bs.modify s.top fun b => { b with pst := s.hom.length })⟩
  | .op d => ⟨s.stk ++ [s.bs.length], s.hom, (keepT (.op d) s.stk s.bs).modify s.top (addC (.iso s.bs.length)) ++ [newB d (some s.top) (s.stk.length + 1) s.hom.length]⟩
  | .mk d => ⟨s.stk, s.hom, (keepT (.mk d) s.stk s.bs).modify s.top (addC (.mk d))⟩
  | .ch c => ⟨s.stk, s.hom ++ [s.top], (keepT (.ch c) s.stk s.bs).modify s.top (addC (.ch s.hom.length))⟩
def BS.run (s : BS) (ts : List Tok) : BS := ts.foldl BS.step s
def BS.init (base : Bool) : BS := ⟨[0], [], [newB base none 1 0]⟩
/-- the last record is ended -/
def BS.done (s : BS) : List Blk := s.bs.modify 0 fun b => { b with pst := s.hom.length }
/-- what stands while it is built: N tokens at most are kept -/
structure BS.Ok (s : BS) (N : Nat) : Prop where
  ne : s.stk ≠ []
  lt : ∀ j ∈ s.stk, j < s.bs.length
  tk : ∀ (j : Nat) (b : Blk), s.bs[j]? = some b → b.tks.length ≤ N * (N + 1) ∧ b.con.length ≤ N
  hm : s.hom.length ≤ N
  sl : s.stk.length ≤ N + 1
  bl : s.bs.length ≤ N + 1
theorem keepT_get {t : Tok} : ∀ {js : List Nat} {bs : List Blk} {j : Nat} {b1 : Blk}, (keepT t js bs)[j]? = some b1 → ∃ b, bs[j]? = some b ∧ b1.con = b.con ∧ b1.tks.length ≤ b.tks.length + js.length
  | [], bs, j, b1, h => ⟨b1, h, rfl, Nat.le_refl _⟩
  | i :: js, bs, j, b1, h => by
    rw [keepT] at h
    obtain ⟨b, h1, h2, h3⟩ := keepT_get h
    rw [List.getElem?_modify] at h1
    cases hb : bs[j]? with
    | none => rw [hb] at h1; simp at h1
    | some b0 =>
      rw [hb] at h1
      simp only [Option.map_eq_map, Option.map_some, Option.some.injEq] at h1
      refine ⟨b0, rfl, ?_, ?_⟩
      · rw [h2, ← h1]; split <;> rfl
      · have : b.tks.length ≤ b0.tks.length + 1 := by rw [← h1]; split <;> simp
        simp only [List.length_cons]; omega
theorem mod_get {f : Blk → Blk} {i j : Nat} {bs : List Blk} {b1 : Blk} (h : (bs.modify i f)[j]? = some b1) : ∃ b, bs[j]? = some b ∧ (b1 = b ∨ b1 = f b) := by
  rw [List.getElem?_modify] at h
  cases hb : bs[j]? with
  | none => rw [hb] at h; simp at h
  | some b0 =>
    rw [hb] at h
    simp only [Option.map_eq_map, Option.map_some, Option.some.injEq] at h
    refine ⟨b0, rfl, ?_⟩
    rw [← h]
    split
    · exact .inr rfl
    · exact .inl rfl
theorem BS.Ok.top_lt {s : BS} {N : Nat} (g : s.Ok N) : s.top < s.bs.length := g.lt _ (by
  unfold BS.top
  cases h : s.stk.getLast? with
  | none => exact absurd (List.getLast?_eq_none_iff.mp h) g.ne
  | some j => exact List.mem_of_getLast? h)
theorem sq_le {N : Nat} : N * (N + 1) + (N + 1) ≤ (N + 1) * (N + 1 + 1) := by
  have h1 : (N + 1) * (N + 1 + 1) = (N + 1) * (N + 1) + (N + 1) := Nat.mul_succ (N + 1) (N + 1)
  have h2 : (N + 1) * (N + 1) = N * (N + 1) + (N + 1) := Nat.succ_mul N (N + 1)
  omega
theorem BS.Ok.step {s : BS} {N : Nat} {t : Tok} (g : s.Ok N) (ht : t = .cl → 2 ≤ s.stk.length) : (s.step t).Ok (N + 1) := by
  have h0 := g.sl
  have h1 := g.hm
  have h2 := g.bl
  have hs : ∀ {t : Tok} {js : List Nat} {f : Blk → Blk} {i : Nat}, js.length ≤ N + 1 → (∀ b : Blk, (f b).tks = b.tks) → (∀ b : Blk, (f b).con.length ≤ b.con.length + 1) → ∀ (j : Nat) (b1 : Blk), ((keepT t js s.bs).modify i f)[j]? = some b1 → b1.tks.length ≤ (N + 1) * (N + 1 + 1) ∧ b1.con.length ≤ N + 1 := fun {t js f i} hj ht hc j b1 h => by
    obtain ⟨b2, e1, e2⟩ := mod_get h
    obtain ⟨b, e3, e4, e5⟩ := keepT_get e1
    obtain ⟨k1, k2⟩ := g.tk j b e3
    have := sq_le (N := N)
    rcases e2 with rfl | rfl
    · exact ⟨by omega, by rw [e4]; omega⟩
    · have a1 := hc b2
      rw [e4] at a1
      exact ⟨by rw [ht]; omega, by omega⟩
  cases t with
  | ch c =>
    refine ⟨g.ne, fun j hj => ?_, hs h0 (fun _ => rfl) (fun b => by simp [addC]), by simp [BS.step]; omega, by simp only [BS.step]; omega, by simp only [BS.step, List.length_modify, keepT_len]; omega⟩
    simp only [BS.step, List.length_modify, keepT_len]
    exact g.lt j hj
  | mk d =>
    refine ⟨g.ne, fun j hj => ?_, hs h0 (fun _ => rfl) (fun b => by simp [addC]), by simp only [BS.step]; omega, by simp only [BS.step]; omega, by simp only [BS.step, List.length_modify, keepT_len]; omega⟩
    simp only [BS.step, List.length_modify, keepT_len]
    exact g.lt j hj
  | op d =>
    refine ⟨by simp [BS.step], fun j hj => ?_, fun j b h => ?_, by simp only [BS.step]; omega, by simp [BS.step]; omega, by simp only [BS.step, List.length_append, List.length_modify, keepT_len, List.length_cons, List.length_nil]; omega⟩
    · simp only [BS.step, List.length_append, List.length_modify, keepT_len, List.length_cons, List.length_nil]
      simp only [BS.step] at hj
      rcases List.mem_append.mp hj with hj | hj
      · have := g.lt j hj; omega
      · have : j = s.bs.length := by simpa using hj
        omega
    · simp only [BS.step] at h
      by_cases hj : j < s.bs.length
      · rw [List.getElem?_append_left (by simpa [keepT_len] using hj)] at h
        exact hs (t := .op d) (f := addC (.iso s.bs.length)) h0 (fun _ => rfl) (fun b => by simp [addC]) j b h
      · rw [List.getElem?_append_right (by simp [keepT_len]; omega)] at h
        simp only [List.length_modify, keepT_len] at h
        cases hk : j - s.bs.length with
        | zero => rw [hk] at h; cases h; simp [newB]
        | succ k => rw [hk] at h; simp at h
  | cl =>
    have h3 := ht rfl
    refine ⟨?_, fun j hj => ?_, fun j b h => ?_, by simp only [BS.step]; omega, by simp [BS.step]; omega, by simp only [BS.step, List.length_modify, keepT_len]; omega⟩
    · intro z
      have := congrArg List.length z
      simp [BS.step] at this
      omega
    · simp only [BS.step, List.length_modify, keepT_len]
      exact g.lt j (List.dropLast_subset _ hj)
    · simp only [BS.step] at h
      obtain ⟨b2, e3, e4, e5⟩ := keepT_get h
      obtain ⟨b0, e1, e2⟩ := mod_get e3
      obtain ⟨k1, k2⟩ := g.tk j b0 e1
      have := sq_le (N := N)
      have l : s.stk.dropLast.length ≤ N + 1 := by simp; omega
      rcases e2 with rfl | rfl
      · exact ⟨by omega, by rw [e4]; omega⟩
      · exact ⟨by simp only at e5; omega, by rw [e4]; simp only; omega⟩
theorem getI_top' {l : List Nat} (h : l ≠ []) : getI (l.map fun i => D.int (i : Nat)) (-1) = some (.int ((l.getLast?.getD 0 : Nat) : Int)) := by
  rw [getI_m1, List.length_map, List.getElem?_map]
  rw [List.getLast?_eq_getElem?]
  have hl : l.length - 1 < l.length := by have := List.length_pos_iff.mpr h; omega
  rw [List.getElem?_eq_getElem hl]
  rfl
theorem pV2 {n : Nat} {ts : List Tok} {txt pl : List Nat} {base : Bool} {stk hom h' : List Nat} {bs : List Blk} : (paraS n ts txt base pl stk hom bs).set 2 (SO.lst (h'.map fun i => D.int (i : Nat))) = paraS n ts txt base pl stk h' bs := rfl
theorem pV3 {n : Nat} {ts : List Tok} {txt pl : List Nat} {base : Bool} {stk hom h' : List Nat} {bs : List Blk} : (paraS n ts txt base pl stk hom bs).set 3 (SO.lst (h'.map fun i => D.int (i : Nat))) = paraS n ts txt base pl h' hom bs := rfl
theorem lenO_hom {l : List Nat} {st : Store} : lenO (some (homL l)) st = .ok (.int (l.length : Int)) st := by simp [homL]
theorem lenO_rec {m k : Nat} {st : Store} : lenO (some (recL m k)) st = .ok (.int (k : Int)) st := by simp [recL]
theorem isL_hom {l : List Nat} : isL (some (homL l)) = true := rfl
theorem isL_rec {m k : Nat} : isL (some (recL m k)) = true := rfl
theorem onL_hom {l : List Nat} {f : List D → Res D} : onL (some (homL l)) f = f (l.map fun i => D.int (i : Nat)) := rfl
theorem onL_rec {m k : Nat} {f : List D → Res D} : onL (some (recL m k)) f = f ((List.range k).map fun i => .ref (m + 3 * i)) := rfl
theorem ixO_top {stk : List Nat} {st : Store} (h : stk ≠ []) : ixO (some (homL stk)) (.int (-1)) st = .ok (.int ((stk.getLast?.getD 0 : Nat) : Int)) st := by
  rw [homL, ixO_lst, getI_top' h]; rfl
def bldI (st : Store) (ts : List Tok) (txt : List Nat) (base : Bool) (pl : List Nat) (ds : List D) (σ : Env) (S : Store) : Prop := ∃ (a r : List Tok) (o : Option D), ts = a ++ r ∧ ds = r.map Tok.d ∧ dep (((BS.init base).run a).stk.length - 1) r = some 0 ∧ ((BS.init base).run a).Ok a.length ∧
  S = st ++ paraS st.length ts txt base pl ((BS.init base).run a).stk ((BS.init base).run a).hom ((BS.init base).run a).bs ∧ σ = [some (.ref st.length), some (.ref (st.length + 3)), o]
theorem newR_W {r : Res D} {n : Nat} {Q : D → Store → Prop} {E : Exn → Store → Prop} (h : r.W (fun d s => d = .non ∧ Q (.ref n) s) E) : (newR n r).W Q E := by
  unfold newR
  rw [W_bind]
  exact h.mono (fun d s hq => by obtain ⟨rfl, q⟩ := hq; exact q) fun _ _ e => e
theorem new_rec {Φ : Prog} (hr : RecOk Φ) {S S' : Store} {d : Bool} {par : Option Nat} {dep fst m i n : Nat} {x : List D} {Q : D → Store → Prop} {E : Exn → Store → Prop} (hn : S.length = n) (hm : n = m + 3 * i) (h : Q (.ref n) (S ++ [(newB d par dep fst).ins m i, .lst [], .lst []])) (hS : S' = S ++ [.ins "BlockRecord" []]) (hx : x = [.ref n, .str (dirS d), optD par, .int (dep : Nat), .int (fst : Nat)]) :
    (newR n (Φ.call "BlockRecord" "__init__" x [] S')).W Q E := by
  subst hS hx hn
  refine newR_W (hr hm ⟨rfl, h⟩)
theorem build_body {Φ : Prog} {Wf : Nat} (C : ParaC Φ) (hk : KeepOk Φ) (hr : RecOk Φ) {st : Store} {ts : List Tok} {txt pl : List Nat} {base : Bool} (hb : Bal ts) (hl : ts.length ≤ 1000) {Q : D → Store → Prop} {E : Exn → Store → Prop}
    (h : Q .non (st ++ paraS st.length ts txt base pl ((BS.init base).run ts).stk ((BS.init base).run ts).hom ((BS.init base).run ts).done)) :
    (bodyR Φ Wf P.m_Paragraph_build [.ref st.length] (st ++ [paraH st.length ts txt base pl, .lst [], .lst []])).W Q E := by
  apply body_W
  have g0 : ∀ l : Store, (st ++ paraH st.length ts txt base pl :: l)[st.length]? = some (paraH st.length ts txt base pl) := fun l => by simp
  simp [P.m_Paragraph_build, startE, g0, pf3 C, pf5 C]
  refine new_rec hr (m := st.length + 4) (i := 0) (par := none) (dep := 1) (fst := 0) (d := base) (S := st ++ [paraH st.length ts txt base pl, SO.lst [], SO.lst [], SO.lst [D.int 0]]) (by simp) (by omega) ?_ (by simp) (by rfl)
  have e1 : st ++ [paraH st.length ts txt base pl, SO.lst [D.ref (st.length + 4)], SO.lst [], SO.lst [D.int 0], (newB base none 1 0).ins (st.length + 4) 0, SO.lst [], SO.lst []] = st ++ paraS st.length ts txt base pl [0] [] [newB base none 1 0] := by
    simp [paraS, recL, homL, recS, newB, Blk.cn, Blk.tk]
  simp [LIM]
  rw [e1]
  simp [pf1 C]
  refine forL_W (bldI st ts txt base pl) ⟨[], ts, none, rfl, rfl, hb, ?_, rfl, rfl⟩ ?_ ?_
  · refine ⟨by simp [BS.run, BS.init], fun j hj => ?_, fun j b hj => ?_, by simp [BS.run, BS.init], by simp [BS.run, BS.init], by simp [BS.run, BS.init]⟩
    · have : j = 0 := by simpa [BS.run, BS.init] using hj
      subst this
      simp [BS.run, BS.init]
    · cases j with
      | zero => cases hj; simp [newB]
      | succ j => simp [BS.run, BS.init] at hj
  · rintro d r σ S ⟨a, r', o, e2, e3, g1, g2, rfl, rfl⟩
    cases r' with
    | nil => simp at e3
    | cons t r' =>
      simp only [List.map_cons, List.cons.injEq] at e3
      obtain ⟨rfl, rfl⟩ := e3
      generalize hs : (BS.init base).run a = s at g1 g2 ⊢
      have nx : ((BS.init base).run (a ++ [t])) = s.step t := by rw [← hs]; simp [BS.run]
      have al : a.length + (r'.length + 1) = ts.length := by rw [e2]; simp
      have hkl : ∀ (j : Nat) (b : Blk), s.bs[j]? = some b → b.tks.length + s.stk.length ≤ 10000000 := fun j b hj => by
        have h1 := (g2.tk j b hj).1
        have h2 := g2.sl
        have h3 : a.length * (a.length + 1) ≤ 1000 * 1001 := Nat.mul_le_mul (by omega) (by omega)
        omega
      have htop := g2.top_lt
      have hne := g2.ne
      have hsl := List.length_pos_iff.mpr hne
      have h3 := g2.hm
      have h4 := g2.bl
      have h5 := g2.sl
      -- the record on top, once the token is kept
      have tp : ∀ t, ∃ b1, (keepT t s.stk s.bs)[s.top]? = some b1 ∧ b1.con.length < LIM := fun t => by
        have hlt : s.top < (keepT t s.stk s.bs).length := by rw [keepT_len]; exact htop
        refine ⟨_, List.getElem?_eq_getElem hlt, ?_⟩
        obtain ⟨b, q1, q2, _⟩ := keepT_get (List.getElem?_eq_getElem hlt)
        have := (g2.tk _ b q1).2
        rw [q2]; unfold LIM; omega
      have fin1 : ∀ (t : Tok) (o : Option D), ts = a ++ t :: r' → (t = .cl → 2 ≤ s.stk.length) → (BS.init base).run (a ++ [t]) = s.step t → dep ((s.step t).stk.length - 1) r' = some 0 → bldI st ts txt base pl (r'.map Tok.d) [some (.ref st.length), some (.ref (st.length + 3)), o] (st ++ paraS st.length ts txt base pl (s.step t).stk (s.step t).hom (s.step t).bs) := fun t o q1 q2 q3 q4 =>
        ⟨a ++ [t], r', o, by simp [q1], rfl, by rw [q3]; exact q4, by rw [q3]; simpa using g2.step q2, by rw [q3], rfl⟩
      have hel : s.stk.getLast?.getD 0 = s.top := rfl
      cases t with
      | ch c =>
        obtain ⟨b1, q1, q2⟩ := tp (.ch c)
        have hl2 : s.hom.length < LIM := by unfold LIM; omega
        have htl : s.top < (keepT (.ch c) s.stk s.bs).length := by rw [keepT_len]; exact htop
        simp [Tok.d, pS0, im3 C]
        refine hk (t := .ch c) g2.lt hkl ?_
        have eC : b1.con.map Cn.d ++ [D.tup [.str sChar, .int (s.hom.length : Int)]] = (b1.con ++ [Cn.ch s.hom.length]).map Cn.d := by simp [Cn.d]
        have eH : s.hom.map (fun i => D.int (i : Nat)) ++ [D.int (s.top : Int)] = (s.hom ++ [s.top]).map (fun i => D.int (i : Nat)) := by simp
        simp [pS0, pS1, pS2, pS3, pf5 C, pf6 C, ixO_top hne, hel, ixO_recL htl, pSi q1, bf6 C, pSc q1, isL_cn, onL_cn, q2, lenO_hom]
        rw [eC, pUc q1]
        simp [pS0, pS2, pS3, pf6 C, ixO_top hne, hel, isL_hom, onL_hom, hl2]
        rw [eH]
        rw [pV2]
        have eB : (s.step (.ch c)).bs = (keepT (.ch c) s.stk s.bs).set s.top { b1 with con := b1.con ++ [Cn.ch s.hom.length] } := by
          simp only [BS.step]; rw [modify_at q1]; rfl
        have := fin1 (.ch c) (some (Tok.ch c).d) e2 (fun z => by cases z) nx (by rw [dep_ch] at g1; exact g1)
        rw [eB] at this
        exact this
      | mk d =>
        obtain ⟨b1, q1, q2⟩ := tp (.mk d)
        have htl : s.top < (keepT (.mk d) s.stk s.bs).length := by rw [keepT_len]; exact htop
        simp [Tok.d, pS0, im3 C]
        refine hk (t := .mk d) g2.lt hkl ?_
        have eC : b1.con.map Cn.d ++ [D.tup [.str sMark, .str (dirS d)]] = (b1.con ++ [Cn.mk d]).map Cn.d := by simp [Cn.d]
        simp [pS0, pS1, pS3, pf5 C, ixO_top hne, hel, ixO_recL htl, pSi q1, bf6 C, pSc q1, isL_cn, onL_cn, q2]
        rw [eC, pUc q1]
        have eB : (s.step (.mk d)).bs = (keepT (.mk d) s.stk s.bs).set s.top { b1 with con := b1.con ++ [Cn.mk d] } := by
          simp only [BS.step]; rw [modify_at q1]; rfl
        have := fin1 (.mk d) (some (Tok.mk d).d) e2 (fun z => by cases z) nx (by rw [dep_mk] at g1; exact g1)
        rw [eB] at this
        exact this
      | op d =>
        obtain ⟨b1, q1, q2⟩ := tp (.op d)
        have htl : s.top < (keepT (.op d) s.stk s.bs).length := by rw [keepT_len]; exact htop
        have hbl : s.bs.length < LIM := by unfold LIM; omega
        have hsl2 : s.stk.length < LIM := by unfold LIM; omega
        simp [Tok.d, pS0, im3 C]
        refine hk (t := .op d) g2.lt hkl ?_
        have eC : b1.con.map Cn.d ++ [D.tup [.str sIso, .int (s.bs.length : Int)]] = (b1.con ++ [Cn.iso s.bs.length]).map Cn.d := by simp [Cn.d]
        simp [pS0, pS1, pS3, pf5 C, ixO_top hne, hel, ixO_recL htl, ixO_recL htop, pSi q1, bf6 C, pSc q1, isL_cn, onL_cn, q2, lenO_rec, keepT_len]
        rw [eC, pUc q1]
        have hlen : ((keepT (.op d) s.stk s.bs).set s.top { b1 with con := b1.con ++ [Cn.iso s.bs.length] }).length = s.bs.length := by rw [List.length_set, keepT_len]
        generalize hcs : (keepT (.op d) s.stk s.bs).set s.top { b1 with con := b1.con ++ [Cn.iso s.bs.length] } = cs at hlen ⊢
        simp [pS0, pS1, pS2, pS3, pf5 C, pf6 C, ixO_top hne, hel, lenO_hom, lenO_rec, isL_rec]
        refine new_rec hr (m := st.length + 4) (i := cs.length) (par := some s.top) (dep := s.stk.length + 1) (fst := s.hom.length) (d := d) (S := st ++ paraS st.length ts txt base pl s.stk s.hom cs) (by simp) (by rw [paraS_len]; omega) ?_ (by simp) (by simp [optD])
        generalize hnb : newB d (some s.top) (s.stk.length + 1) s.hom.length = nb
        have en : [nb.ins (st.length + 4) cs.length, SO.lst [], SO.lst []] = [nb.ins (st.length + 4) cs.length, nb.cn, nb.tk] := by rw [← hnb]; rfl
        rw [en]
        have hlt : cs.length < LIM := by omega
        have hg1 : ((st ++ paraS st.length ts txt base pl s.stk s.hom cs) ++ [nb.ins (st.length + 4) cs.length, nb.cn, nb.tk])[st.length + 1]? = some (recL (st.length + 4) cs.length) := by
          rw [List.getElem?_append_left (by simp [paraS_len]; omega)]; exact pS1
        rw [hg1, onL_rec]
        simp only [List.length_map, List.length_range, hlt, if_true, W_ok]
        have eS : ((st ++ paraS st.length ts txt base pl s.stk s.hom cs) ++ [nb.ins (st.length + 4) cs.length, nb.cn, nb.tk]).set (st.length + 1) (SO.lst ((List.range cs.length).map (fun i => D.ref (st.length + 4 + 3 * i)) ++ [D.ref (st.length + (paraS st.length ts txt base pl s.stk s.hom cs).length)])) = st ++ paraS st.length ts txt base pl s.stk s.hom (cs ++ [nb]) := by
          have e5 : (List.range cs.length).map (fun i => D.ref (st.length + 4 + 3 * i)) ++ [D.ref (st.length + (paraS st.length ts txt base pl s.stk s.hom cs).length)] = (List.range (cs.length + 1)).map (fun i => D.ref (st.length + 4 + 3 * i)) := by
            rw [List.range_succ, List.map_append, paraS_len]
            simp; omega
          rw [e5, List.append_assoc, List.set_append_right _ _ (by omega), show st.length + 1 - st.length = 1 by omega]
          congr 1
          show [paraH st.length ts txt base pl, recL (st.length + 4) (cs.length + 1), homL s.hom, homL s.stk] ++ recS (st.length + 4) 0 cs ++ [nb.ins (st.length + 4) cs.length, nb.cn, nb.tk] = _
          rw [paraS, recS_app, List.append_assoc, List.length_append, Nat.zero_add]
          rfl
        rw [eS]
        have eK : s.stk.map (fun i => D.int (i : Nat)) ++ [D.int (cs.length : Int)] = (s.stk ++ [cs.length]).map (fun i => D.int (i : Nat)) := by simp
        simp [pS0, pS1, pS3, pf5 C, isL_hom, onL_hom, lenO_rec, hsl2]
        rw [eK, pV3]
        have eB : (s.step (.op d)).bs = cs ++ [nb] := by
          simp only [BS.step]; rw [modify_at q1, ← hcs, ← hnb]; rfl
        have eT : (s.step (.op d)).stk = s.stk ++ [cs.length] := by simp only [BS.step]; rw [hlen]
        have := fin1 (.op d) (some (Tok.op d).d) e2 (fun z => by cases z) nx (by
          rw [dep_op] at g1
          rw [eT, List.length_append]
          simp only [List.length_cons, List.length_nil]
          rw [show s.stk.length + (0 + 1) - 1 = s.stk.length - 1 + 1 by omega]
          exact g1)
        rw [eB, eT] at this
        exact this
      | cl =>
        have h2s : 2 ≤ s.stk.length := by
          rcases Nat.lt_or_ge s.stk.length 2 with z | z
          · rw [show s.stk.length - 1 = 0 by omega, dep_cl0] at g1; cases g1
          · exact z
        obtain ⟨b0, gb⟩ : ∃ b0, s.bs[s.top]? = some b0 := ⟨_, List.getElem?_eq_getElem htop⟩
        have eP : (s.stk.map fun i => D.int (i : Nat)).dropLast = (s.stk.dropLast).map (fun i => D.int (i : Nat)) := by rw [List.map_dropLast]
        have eL : s.stk[s.stk.length - 1]? = some s.top := by
          rw [← hel, List.getLast?_eq_getElem?]
          have : s.stk.length - 1 < s.stk.length := by omega
          rw [List.getElem?_eq_getElem this]
          rfl
        simp [Tok.d, pS0, pS1, pS2, pS3, pf5 C, pf6 C, lenO_hom, isL_hom, onL_hom, eL]
        rw [eP, pV3]
        rw [pS1, ixO_recL htop]
        simp only [W_ok]
        rw [sf_ref, pSi gb, sf5 C]
        simp only [W_ok]
        have eU := pUi (st := st) (ts := ts) (txt := txt) (base := base) (pl := pl) (stk := s.stk.dropLast) (hom := s.hom) (b' := { b0 with pst := s.hom.length }) gb rfl rfl
        rw [eU]
        simp [pS0, im3 C]
        refine hk (t := .cl) (fun j hj => by rw [List.length_set]; exact g2.lt j (List.dropLast_subset _ hj)) (fun j b hj => ?_) ?_
        · by_cases e : s.top = j
          · subst e
            rw [List.getElem?_set_self htop] at hj
            cases hj
            have := hkl _ _ gb
            simp at this ⊢; omega
          · rw [List.getElem?_set_ne e] at hj
            have := hkl _ _ hj
            simp at this ⊢; omega
        · try simp
          have eB : (s.step .cl).bs = keepT .cl s.stk.dropLast (s.bs.set s.top { b0 with pst := s.hom.length }) := by
            simp only [BS.step]; rw [modify_at gb]
          have := fin1 .cl (some Tok.cl.d) e2 (fun _ => h2s) nx (by
            rw [show s.stk.length - 1 = (s.stk.length - 2) + 1 by omega, dep_cl] at g1
            simp only [BS.step, List.length_dropLast]
            rw [show s.stk.length - 1 - 1 = s.stk.length - 2 by omega]
            exact g1)
          rw [eB] at this
          exact this
  · rintro σ S ⟨a, r', o, e2, e3, g1, g2, rfl, rfl⟩
    cases r' with
    | cons t r' => simp at e3
    | nil =>
      simp only [List.append_nil] at e2
      subst e2
      have hpos : 0 < ((BS.init base).run ts).bs.length := Nat.lt_of_le_of_lt (Nat.zero_le _) g2.top_lt
      obtain ⟨b0, gb⟩ : ∃ b0, ((BS.init base).run ts).bs[0]? = some b0 := ⟨_, List.getElem?_eq_getElem hpos⟩
      generalize hs : (BS.init base).run ts = s at g1 g2 gb hpos h ⊢
      simp [pS0, pS1, pS2, pf5 C, pf6 C, lenO_hom]
      have i0 := ixO_recL (m := st.length + 4) (k := s.bs.length) (j := 0) (st := st ++ paraS st.length ts txt base pl s.stk s.hom s.bs) hpos
      simp only [Int.natCast_zero, Int.cast_ofNat_Int, Int.ofNat_zero] at i0
      rw [show (D.int 0) = D.int ((0 : Nat) : Int) from rfl]
      rw [ixO_recL hpos]
      simp only [W_ok]
      rw [sf_ref, pSi gb, sf5 C]
      have eU := pUi (st := st) (ts := ts) (txt := txt) (base := base) (pl := pl) (stk := s.stk) (hom := s.hom) (b' := { b0 with pst := s.hom.length }) gb rfl rfl
      rw [eU]
      simp [fin]
      have eo : oldOK (st ++ [paraH st.length ts txt base pl, SO.lst [], SO.lst []]).length (st ++ [paraH st.length ts txt base pl, SO.lst [], SO.lst []]) (st ++ paraS st.length ts txt base pl s.stk s.hom (s.bs.set 0 { b0 with pst := s.hom.length })) = false := by
        rw [oldOK_app]
        obtain ⟨q, hq⟩ : ∃ q, s.bs.length = q + 1 := ⟨s.bs.length - 1, by omega⟩
        simp only [paraS, List.length_set, hq, List.cons_append, oldOK, decide_true, Bool.true_or, Bool.true_and]
        have : recL (st.length + 4) (q + 1) = SO.lst (D.ref (st.length + 4) :: (List.range q).map (fun i => D.ref (st.length + 4 + 3 * (i + 1)))) := by
          rw [recL, List.range_succ_eq_map, List.map_cons, List.map_map]
          rfl
        rw [this]
        simp [refsO, refsL, refsD]
      rw [gc_stay eo]
      have ed : s.done = s.bs.set 0 { b0 with pst := s.hom.length } := by unfold BS.done; rw [modify_at gb]
      rw [ed] at h
      exact h
/-! ### the constructor -/
def BuildOk (Φ : Prog) : Prop := ∀ {st : Store} {ts : List Tok} {txt pl : List Nat} {base : Bool} {Q : D → Store → Prop} {E : Exn → Store → Prop}, Bal ts → ts.length ≤ 1000 →
  Q .non (st ++ paraS st.length ts txt base pl ((BS.init base).run ts).stk ((BS.init base).run ts).hom ((BS.init base).run ts).done) → (Φ.call "Paragraph" "build" [.ref st.length] [] (st ++ [paraH st.length ts txt base pl, .lst [], .lst []])).W Q E
structure ParaT (Φ : Prog) : Prop where
  m1 : Φ.glob "MAX_CHARACTERS" = some (.int 40)
  m2 : Φ.glob "MAX_CONTROLS" = some (.int 40)
  m3 : Φ.glob "MAX_DEPTH" = some (.int 12)
  f1 : Φ.fldOf "TooMany" = "total"
  f2 : Φ.fldOf "TooDeep" = "total"
theorem asI_map : ∀ {α : Type} {f : α → Int} {l : List α}, asI (l.map fun a => D.int (f a)) = some (l.map f)
  | _, _, [] => rfl
  | _, f, a :: l => by simp [asI, asI_map (l := l)]
def ctls (ts : List Tok) : Nat := (ts.filter Tok.ctl).length
theorem ctl_body {Φ : Prog} {Wf : Nat} (C : ParaC Φ) {st l : Store} {n : Nat} {ts : List Tok} {fs : List (String × D)} (hf : fs.lookup "kept_tokens" = some (.frz (ts.map Tok.d))) (hn : st[n]? = some (.ins "Paragraph" fs)) (hl : ts.length ≤ 1000) {Q : D → Store → Prop} {E : Exn → Store → Prop} (h : Q (.int (ctls ts : Nat)) st) : (bodyR Φ Wf P.m_Paragraph_control_count [.ref n] st).W Q E := by
  apply body_W
  have l1 : (ts.filter Tok.ctl).length ≤ LIM := by
    have := List.length_filter_le Tok.ctl ts
    unfold LIM; omega
  simp [P.m_Paragraph_control_count, startE, hn, C.p1, hf, fin]
  refine comp_filter (α := Tok) Tok.d Tok.d Tok.ctl (fun t acc R hR => ?_) ?_
  · cases t <;> (simp [turnC, wipe, Tok.d]; simpa [Tok.ctl, Tok.d] using hR)
  · simp [mkL, l1]
    exact h
def CtlOk (Φ : Prog) : Prop := ∀ {st : Store} {n : Nat} {ts : List Tok} {fs : List (String × D)} {Q : D → Store → Prop} {E : Exn → Store → Prop}, fs.lookup "kept_tokens" = some (.frz (ts.map Tok.d)) → st[n]? = some (.ins "Paragraph" fs) → ts.length ≤ 1000 → Q (.int (ctls ts : Nat)) st → (Φ.call "Paragraph" "control_count" [.ref n] [] st).W Q E
def NeedDirOk (Φ : Prog) : Prop := ∀ {d : Bool} {st : Store} {Q : D → Store → Prop} {E : Exn → Store → Prop}, Q .non st → (Φ.call "" "need_direction" [.str (dirS d)] [] st).W Q E
/-- the greatest depth -/
def deepest (bs : List Blk) : Int := match bs with
  | [] => 0
  | b :: r => (r.map fun b => ((b.dep : Nat) : Int)).foldl (fun b y => if y > b then y else b) (b.dep : Nat)
theorem iterO_rec {m k n : Nat} {st : Store} : iterO (some (recL m k)) n st = .ok ((List.range k).map fun i => .ref (m + 3 * i), [n]) st := rfl
theorem BS.run_ok : ∀ {ts : List Tok} {s : BS} {N k : Nat}, s.Ok N → dep (s.stk.length - 1) ts = some k → (s.run ts).Ok (N + ts.length) ∧ (s.run ts).stk.length - 1 = k
  | [], s, N, k, g, h => by
    rw [dep_nil] at h
    cases h
    exact ⟨g, rfl⟩
  | t :: ts, s, N, k, g, h => by
    have hsl := List.length_pos_iff.mpr g.ne
    have hc : t = .cl → 2 ≤ s.stk.length := fun z => by
      subst z
      rcases Nat.lt_or_ge s.stk.length 2 with z | z
      · rw [show s.stk.length - 1 = 0 by omega, dep_cl0] at h; cases h
      · exact z
    have g' := g.step hc
    have h' : dep ((s.step t).stk.length - 1) ts = some k := by
      cases t with
      | ch c => rw [dep_ch] at h; exact h
      | mk d => rw [dep_mk] at h; exact h
      | op d =>
        rw [dep_op] at h
        simp only [BS.step, List.length_append, List.length_cons, List.length_nil]
        rw [show s.stk.length + (0 + 1) - 1 = s.stk.length - 1 + 1 by omega]
        exact h
      | cl =>
        have := hc rfl
        rw [show s.stk.length - 1 = (s.stk.length - 2) + 1 by omega, dep_cl] at h
        simp only [BS.step, List.length_dropLast]
        rw [show s.stk.length - 1 - 1 = s.stk.length - 2 by omega]
        exact h
    obtain ⟨a1, a2⟩ := BS.run_ok g' h'
    refine ⟨?_, a2⟩
    have e : N + (t :: ts).length = N + 1 + ts.length := by simp only [List.length_cons]; omega
    rw [e]
    exact a1
theorem BS.init_ok {base : Bool} : (BS.init base).Ok 0 := by
  refine ⟨by simp [BS.init], fun j hj => ?_, fun j b hj => ?_, by simp [BS.init], by simp [BS.init], by simp [BS.init]⟩
  · have : j = 0 := by simpa [BS.init] using hj
    subst this
    simp [BS.init]
  · cases j with
    | zero => cases hj; simp [newB]
    | succ j => simp [BS.init] at hj
theorem BS.init_run {base : Bool} {ts : List Tok} (b : Bal ts) : ((BS.init base).run ts).Ok ts.length ∧ ((BS.init base).run ts).stk.length = 1 := by
  obtain ⟨h1, h2⟩ := BS.run_ok (s := BS.init base) (N := 0) (ts := ts) (k := 0) BS.init_ok b
  rw [Nat.zero_add] at h1
  refine ⟨h1, ?_⟩
  have := List.length_pos_iff.mpr h1.ne
  omega
def depAt (bs : List Blk) (i : Nat) : Int := (((bs[i]?.map Blk.dep).getD 0 : Nat) : Int)
theorem depAt_map {bs : List Blk} : (List.range bs.length).map (depAt bs) = bs.map fun b => ((b.dep : Nat) : Int) := by
  apply List.ext_getElem
  · simp
  · intro i h1 h2
    simp at h1 h2
    simp [depAt, h2]
theorem gc_fst_int {frz : Bool} {st₀ st : Store} {i : Int} : (gc frz st₀ st (.int i)).1 = .int i := by
  have e : fz st₀.length st 4 (.int i) = .int i := fz_id rfl
  unfold gc
  cases frz <;> simp [e] <;> split <;> rfl
theorem init_body {Φ : Prog} {Wf : Nat} (C : ParaC Φ) (T : ParaT Φ) (ht : TokensOk Φ true) (hd : NeedDirOk Φ) (hc : CtlOk Φ) (hb : BuildOk Φ) {st : Store} {ts : List Tok} {base : Bool} (g : Good ts) (b : Bal ts) (hl : ts.length ≤ 1000) {Q : D → Store → Prop} {E : Exn → Store → Prop}
    (h1 : (chars ts).length ≤ 40 → ctls ts ≤ 40 → deepest ((BS.init base).run ts).done ≤ 12 → Q .non (st ++ paraS st.length ts (fmt ts) base (chars ts) ((BS.init base).run ts).stk ((BS.init base).run ts).hom ((BS.init base).run ts).done))
    (h2 : 40 < (chars ts).length → ∀ S, E ⟨"TooMany", "total", .int ((chars ts).length : Nat)⟩ S)
    (h3 : (chars ts).length ≤ 40 → 40 < ctls ts → ∀ S, E ⟨"TooMany", "total", .int (ctls ts : Nat)⟩ S)
    (h4 : (chars ts).length ≤ 40 → ctls ts ≤ 40 → 12 < deepest ((BS.init base).run ts).done → ∀ S, E ⟨"TooDeep", "total", .int (deepest ((BS.init base).run ts).done)⟩ S) :
    (bodyR Φ Wf P.m_Paragraph_init [.ref st.length, .str (fmt ts), .str (dirS base)] (st ++ [.ins "Paragraph" []])).W Q E := by
  apply body_W
  have fl := fmt_le (ts := ts)
  have cl := chars_len (ts := ts)
  have hL : (chars ts).length ≤ LIM := by unfold LIM; omega
  simp [P.m_Paragraph_init, startE]
  refine ht g b (by omega) ?_
  simp [C.p1, C.p2, C.p3, putF]
  refine hd ?_
  simp [C.p1, C.p2, C.p3, putF, List.lookup]
  refine comp_filter (α := Tok) Tok.d (fun t => .str t.c) Tok.isCh (fun t acc R hR => ?_) ?_
  · cases t <;> (simp [turnC, wipe, Tok.d]; simpa [Tok.isCh, Tok.c] using hR)
  · have l1 : (ts.filter Tok.isCh).length ≤ LIM := by
      have := List.length_filter_le Tok.isCh ts
      unfold LIM; omega
    have e2 := asS_map (g := Tok.c) (l := ts.filter Tok.isCh)
    have e1 : (((ts.filter Tok.isCh).map Tok.c).map (·.length)).sum ≤ LIM := by
      rw [← List.length_flatten, chars_filter]
      exact hL
    simp only [List.map_map] at e1
    simp [mkL, l1, e2, e1, join_nil, chars_filter, C.p4, putF, List.lookup, hL, T.m1]
    by_cases c1 : 40 < (chars ts).length
    · have c1' : (40 : Int) < ((chars ts).length : Int) := by omega
      have := h2 c1
      simp [c1', c1, C.p4, List.lookup, hL, T.f1, fin, gc_fst_int]
      exact this _
    · have c1' : ¬ (40 : Int) < ((chars ts).length : Int) := by omega
      simp [c1', c1, C.h1, List.lookup]
      refine hc (ts := ts) (fs := [("kept_tokens", .frz (ts.map Tok.d)), ("kept_text", .str (fmt ts)), ("kept_base", .str (dirS base)), ("kept_plain", .str (chars ts))]) rfl (by simp) hl ?_
      by_cases c2 : 40 < ctls ts
      · have c2' : (40 : Int) < (ctls ts : Int) := by omega
        have := h3 (by omega) c2
        simp [T.m2, c2', c2, C.h1, List.lookup]
        refine hc (ts := ts) (fs := [("kept_tokens", .frz (ts.map Tok.d)), ("kept_text", .str (fmt ts)), ("kept_base", .str (dirS base)), ("kept_plain", .str (chars ts))]) rfl (by simp) hl ?_
        simp [T.f1, fin, gc_fst_int]
        exact this _
      · have c2' : ¬ (40 : Int) < (ctls ts : Int) := by omega
        simp [T.m2, c2', c2, C.p5, C.p6, C.h2, List.lookup, putF]
        have eH : SO.ins "Paragraph" [("kept_tokens", D.frz (ts.map Tok.d)), ("kept_text", D.str (fmt ts)), ("kept_base", D.str (dirS base)), ("kept_plain", D.str (chars ts)), ("records", D.ref (st.length + 1)), ("homes", D.ref (st.length + 2))] = paraH st.length ts (fmt ts) base (chars ts) := rfl
        rw [eH]
        refine hb b hl ?_
        generalize hbs : ((BS.init base).run ts).done = bs at h1 h4 ⊢
        have ok := (BS.init_run (base := base) b).1
        have hlen : bs.length = ((BS.init base).run ts).bs.length := by rw [← hbs]; simp [BS.done]
        have hpos : 0 < bs.length := by rw [hlen]; exact Nat.lt_of_le_of_lt (Nat.zero_le _) ok.top_lt
        have hbl : bs.length ≤ LIM := by rw [hlen]; have := ok.bl; unfold LIM; omega
        generalize (BS.init base).run ts = s at h1 ⊢
        simp [pS0, pS1, pf5 C, iterO_rec]
        refine comp_map (α := Nat) (fun i => .ref (st.length + 4 + 3 * i)) (fun i => .int (depAt bs i)) (fun i => i < bs.length) (fun i acc R hi hR => ?_) (fun i hi => List.mem_range.mp hi) ?_
        · obtain ⟨b0, gb⟩ : ∃ b0, bs[i]? = some b0 := ⟨_, List.getElem?_eq_getElem hi⟩
          have ed : depAt bs i = ((b0.dep : Nat) : Int) := by simp [depAt, gb]
          rw [ed] at hR
          simp [turnC, wipe, pSi gb, bf3 C]
          exact hR
        · have ei := asI_map (f := depAt bs) (l := List.range bs.length)
          rw [depAt_map] at ei
          have em : bltin Φ false .max [.frz ((List.range bs.length).map fun i => .int (depAt bs i))] (st ++ paraS st.length ts (fmt ts) base (chars ts) s.stk s.hom bs) = .ok (.int (deepest bs)) (st ++ paraS st.length ts (fmt ts) base (chars ts) s.stk s.hom bs) := by
            simp only [bltin, maxB, asL, Option.bind_some, ei]
            cases bs with
            | nil => simp at hpos
            | cons b r => rfl
          simp [mkL, hbl, em, T.m3]
          by_cases c3 : 12 < deepest bs
          · have := h4 (by omega) (by omega) c3
            simp [c3, T.f2, fin, gc_fst_int]
            exact this _
          · simp [c3, fin]
            have eo : oldOK (st ++ [SO.ins "Paragraph" []]).length (st ++ [SO.ins "Paragraph" []]) (st ++ paraS st.length ts (fmt ts) base (chars ts) s.stk s.hom bs) = false := by
              rw [oldOK_app]
              simp [paraS, oldOK, paraH, refsO, refsD]
            rw [gc_stay eo]
            exact h1 (by omega) (by omega) (by omega)
end PV
set_option Elab.async false
set_option linter.all false
set_option maxRecDepth 10000
set_option maxHeartbeats 4000000
/-! PvLawB: what the laws k12 .. k25 (and their like) draw: characters, nodes; the text of nodes. -/
namespace LB
open PV
/-- nodes in a row -/
inductive Nd where
  | nil | ch (c : Nat) (r : Nd) | mk (d : Bool) (r : Nd) | iso (d : Bool) (i r : Nd)
def Nd.data : Nd → List D
  | .nil => []
  | .ch c r => .str [c] :: r.data
  | .mk d r => .tup [.str sMark, .str (dirS d)] :: r.data
  | .iso d i r => .frz [.str (dirS d), .frz i.data] :: r.data
def Nd.toks : Nd → List Tok
  | .nil => []
  | .ch c r => .ch c :: r.toks
  | .mk d r => .mk d :: r.toks
  | .iso d i r => .op d :: (i.toks ++ .cl :: r.toks)
def Nd.app : Nd → Nd → Nd
  | .nil, b => b
  | .ch c r, b => .ch c (r.app b)
  | .mk d r, b => .mk d (r.app b)
  | .iso d i r, b => .iso d i (r.app b)
/-- how deep isolates lie in one another -/
def Nd.dp : Nd → Nat
  | .nil => 0
  | .ch _ r => r.dp
  | .mk _ r => r.dp
  | .iso _ i r => max (i.dp + 1) r.dp
def Nd.chs : Nd → Nat
  | .nil => 0
  | .ch _ r => r.chs + 1
  | .mk _ r => r.chs
  | .iso _ i r => i.chs + r.chs
def Nd.cts : Nd → Nat
  | .nil => 0
  | .ch _ r => r.cts
  | .mk _ r => r.cts + 1
  | .iso _ i r => i.cts + r.cts + 1
def Nd.ok : Nd → Bool
  | .nil => true
  | .ch c r => isC c && r.ok
  | .mk _ r => r.ok
  | .iso _ i r => i.ok && r.ok
@[simp] theorem data_app : ∀ {a b : Nd}, (a.app b).data = a.data ++ b.data
  | .nil, _ => rfl
  | .ch c r, _ => by simp [Nd.app, Nd.data, data_app]
  | .mk d r, _ => by simp [Nd.app, Nd.data, data_app]
  | .iso d i r, _ => by simp [Nd.app, Nd.data, data_app]
@[simp] theorem toks_app : ∀ {a b : Nd}, (a.app b).toks = a.toks ++ b.toks
  | .nil, _ => rfl
  | .ch c r, _ => by simp [Nd.app, Nd.toks, toks_app]
  | .mk d r, _ => by simp [Nd.app, Nd.toks, toks_app]
  | .iso d i r, _ => by simp [Nd.app, Nd.toks, toks_app]
@[simp] theorem dp_app : ∀ {a b : Nd}, (a.app b).dp = max a.dp b.dp
  | .nil, _ => by simp [Nd.app, Nd.dp]
  | .ch c r, _ => by simp [Nd.app, Nd.dp, dp_app]
  | .mk d r, _ => by simp [Nd.app, Nd.dp, dp_app]
  | .iso d i r, _ => by simp [Nd.app, Nd.dp, dp_app, Nat.max_assoc]
@[simp] theorem chs_app : ∀ {a b : Nd}, (a.app b).chs = a.chs + b.chs
  | .nil, _ => by simp [Nd.app, Nd.chs]
  | .ch c r, _ => by simp [Nd.app, Nd.chs, chs_app]; omega
  | .mk d r, _ => by simp [Nd.app, Nd.chs, chs_app]
  | .iso d i r, _ => by simp [Nd.app, Nd.chs, chs_app]; omega
@[simp] theorem cts_app : ∀ {a b : Nd}, (a.app b).cts = a.cts + b.cts
  | .nil, _ => by simp [Nd.app, Nd.cts]
  | .ch c r, _ => by simp [Nd.app, Nd.cts, cts_app]
  | .mk d r, _ => by simp [Nd.app, Nd.cts, cts_app]; omega
  | .iso d i r, _ => by simp [Nd.app, Nd.cts, cts_app]; omega
@[simp] theorem ok_app : ∀ {a b : Nd}, (a.app b).ok = (a.ok && b.ok)
  | .nil, _ => by simp [Nd.app, Nd.ok]
  | .ch c r, _ => by simp [Nd.app, Nd.ok, ok_app, Bool.and_assoc]
  | .mk d r, _ => by simp [Nd.app, Nd.ok, ok_app]
  | .iso d i r, _ => by simp [Nd.app, Nd.ok, ok_app, Bool.and_assoc]
theorem data_len : ∀ {a : Nd}, a.data.length ≤ a.chs + a.cts
  | .nil => by simp [Nd.data]
  | .ch c r => by have := data_len (a := r); simp [Nd.data, Nd.chs, Nd.cts]; omega
  | .mk d r => by have := data_len (a := r); simp [Nd.data, Nd.chs, Nd.cts]; omega
  | .iso d i r => by have := data_len (a := r); simp [Nd.data, Nd.chs, Nd.cts]; omega
theorem refs_data {k : Nat} : ∀ {a : Nd}, refsL k a.data = true
  | .nil => rfl
  | .ch c r => by simp [Nd.data, refsL, refsD, refs_data (a := r)]
  | .mk d r => by simp [Nd.data, refsL, refsD, refs_data (a := r)]
  | .iso d i r => by simp [Nd.data, refsL, refsD, refs_data (a := r), refs_data (a := i)]
theorem toks_good : ∀ {a : Nd}, a.ok = true → Good a.toks
  | .nil, _ => by intro t ht; cases ht
  | .ch c r, h => by
    simp only [Nd.ok, Bool.and_eq_true] at h
    intro t ht
    simp only [Nd.toks, List.mem_cons] at ht
    rcases ht with rfl | ht
    · exact h.1
    · exact toks_good h.2 t ht
  | .mk d r, h => by
    intro t ht
    simp only [Nd.toks, List.mem_cons] at ht
    rcases ht with rfl | ht
    · rfl
    · exact toks_good (a := r) h t ht
  | .iso d i r, h => by
    simp only [Nd.ok, Bool.and_eq_true] at h
    intro t ht
    simp only [Nd.toks, List.mem_cons, List.mem_append] at ht
    rcases ht with rfl | ht | rfl | ht
    · rfl
    · exact toks_good h.1 t ht
    · rfl
    · exact toks_good h.2 t ht
theorem toks_dep : ∀ {a : Nd} {k : Nat}, dep k a.toks = some k
  | .nil, k => dep_nil
  | .ch c r, k => by rw [Nd.toks, dep_ch, toks_dep]
  | .mk d r, k => by rw [Nd.toks, dep_mk, toks_dep]
  | .iso d i r, k => by
    rw [Nd.toks, dep_op, dep_app, toks_dep]
    show dep (k + 1) (.cl :: r.toks) = _
    rw [dep_cl, toks_dep]
theorem toks_len : ∀ {a : Nd}, a.toks.length ≤ a.chs + 2 * a.cts
  | .nil => by simp [Nd.toks]
  | .ch c r => by have := toks_len (a := r); simp [Nd.toks, Nd.chs, Nd.cts]; omega
  | .mk d r => by have := toks_len (a := r); simp [Nd.toks, Nd.chs, Nd.cts]; omega
  | .iso d i r => by have := toks_len (a := r); have := toks_len (a := i); simp [Nd.toks, Nd.chs, Nd.cts]; omega
theorem fmt_len' {ts : List Tok} : (fmt ts).length ≤ 2 * ts.length := by
  induction ts with
  | nil => simp
  | cons t r ih => have := txt_len t; simp; omega
/-! ### a character -/
theorem sign_body {Φ : Prog} {Wf : Nat} (ht : TakeOk Φ) {b : Nat} {B : Bx} {k : Nat} {st : Store} {Q : D → Store → Prop} {E : Exn → Store → Prop} (hb : st[b]? = some B.o) (hB : B.Ok k) (hk : k ≤ 2 ^ 39)
    (h : ∀ (c : Nat) (B' : Bx), isC c = true → B'.Ok (k + 2) → Q (.str [c]) (st.set b B'.o)) : (bodyR Φ Wf P.fddlaw_sign [.ref b] st).W Q E := by
  apply body_W
  have hl := ix_lt hb
  simp [P.fddlaw_sign, startE, LIM]
  refine ht (k := k) (B := B) hb hB (by omega) (by omega) (by omega) fun v B1 v0 v1 hB1 => ?_
  have hb1 := st_gets (st := st) (o := B1.o) hl
  have hl1 : b < (st.set b B1.o).length := by simpa using hl
  have fn : ∀ {z : List Nat} {w : Int} {B2 : Bx}, 0 ≤ w → w < (z.length : Int) → (∀ c ∈ z, isC c = true) → B2.Ok (k + 1 + 1) → ∃ c, getI z w = some c ∧ Q (.str [c]) (st.set b B2.o) := fun {z w B2} w0 w1 hz h2 => by
    obtain ⟨c, c1, c2⟩ := getI_lt (xs := z) w0 w1
    exact ⟨c, c1, h c B2 (hz c c2) h2⟩
  by_cases c1 : v < 2
  · simp [c1]
    refine ht (k := k + 1) (B := B1) hb1 hB1 (by omega) (by omega) (by omega) fun w B2 w0 w1 hB2 => ?_
    obtain ⟨c, g1, g2⟩ := fn (z := [97, 98, 99, 100, 101, 102, 103, 104, 105, 106, 107, 108, 109, 110, 111, 112, 113, 114, 115, 116, 117, 118, 119, 120, 121, 122]) w0 w1 (by decide) hB2
    simp [g1, LIM, upC, fin]
    rw [gcb' rfl refs_bx]
    exact g2
  by_cases c2 : v < 4
  · simp [c1, c2]
    refine ht (k := k + 1) (B := B1) hb1 hB1 (by omega) (by omega) (by omega) fun w B2 w0 w1 hB2 => ?_
    obtain ⟨c, g1, g2⟩ := fn (z := [65, 66, 67, 68, 69, 70, 71, 72, 73, 74, 75, 76, 77, 78, 79, 80, 81, 82, 83, 84, 85, 86, 87, 88, 89, 90]) w0 w1 (by decide) hB2
    simp [g1, LIM, upC, fin]
    rw [gcb' rfl refs_bx]
    exact g2
  by_cases c3 : v < 6
  · simp [c1, c2, c3]
    refine ht (k := k + 1) (B := B1) hb1 hB1 (by omega) (by omega) (by omega) fun w B2 w0 w1 hB2 => ?_
    obtain ⟨c, g1, g2⟩ := fn (z := [48, 49, 50, 51, 52, 53, 54, 55, 56, 57]) w0 w1 (by decide) hB2
    simp [g1, LIM, upC, fin]
    rw [gcb' rfl refs_bx]
    exact g2
  simp [c1, c2, c3]
  by_cases c4 : v = 6
  · simp [c4]
    refine ht (k := k + 1) (B := B1) hb1 hB1 (by omega) (by omega) (by omega) fun w B2 w0 w1 hB2 => ?_
    obtain ⟨c, g1, g2⟩ := fn (z := [46, 44]) w0 w1 (by decide) hB2
    simp [g1, LIM, upC, fin]
    rw [gcb' rfl refs_bx]
    exact g2
  · simp [c4]
    refine ht (k := k + 1) (B := B1) hb1 hB1 (by omega) (by omega) (by omega) fun w B2 w0 w1 hB2 => ?_
    obtain ⟨c, g1, g2⟩ := fn (z := [32, 33, 34, 35, 36, 38, 39, 40, 41, 42, 43, 45, 47, 58, 59, 60, 61, 62, 63, 64, 91, 92, 93, 94, 95, 96, 126]) w0 w1 (by decide) hB2
    simp [g1, LIM, upC, fin]
    rw [gcb' rfl refs_bx]
    exact g2
def SignOk (Φ : Prog) : Prop := ∀ {b : Nat} {B : Bx} {k : Nat} {st : Store} {Q : D → Store → Prop} {E : Exn → Store → Prop}, st[b]? = some B.o → B.Ok k → k ≤ 2 ^ 39 →
  (∀ (c : Nat) (B' : Bx), isC c = true → B'.Ok (k + 2) → Q (.str [c]) (st.set b B'.o)) → (Φ.call "" "_law_sign" [.ref b] [] st).W Q E
/-! ### the text of nodes -/
/-- nodes of a depth below m -/
def TxtOk (Φ : Prog) (m : Nat) : Prop := ∀ {a : Nd} {st : Store} {Q : D → Store → Prop} {E : Exn → Store → Prop}, a.dp ≤ m → a.toks.length ≤ 10000 → Q (.str (fmt a.toks)) st → (Φ.call "" "_law_text" [.frz a.data] [] st).W Q E
def txtI (st : Store) (a : Nd) (m : Nat) (ds : List D) (σ : Env) (S : Store) : Prop := ∃ (u : List Tok) (r : Nd) (o : Option D), ds = r.data ∧ a.toks = u ++ r.toks ∧ r.dp ≤ m ∧ S = st ∧ σ = [some (.frz a.data), some (.str (fmt u)), o]
theorem text_body {Φ : Prog} {Wf : Nat} {m : Nat} (ht : ∀ j, m = j + 1 → TxtOk Φ j) {a : Nd} (hd : a.dp ≤ m) (hl : a.toks.length ≤ 10000) {st : Store} {Q : D → Store → Prop} {E : Exn → Store → Prop} (h : Q (.str (fmt a.toks)) st) : (bodyR Φ Wf P.fddlaw_text [.frz a.data] st).W Q E := by
  apply body_W
  simp [P.fddlaw_text, startE, LIM]
  refine forL_W (txtI st a m) ⟨[], a, none, rfl, rfl, hd, rfl, rfl⟩ ?_ ?_
  · rintro d ds σ S ⟨u, r, o, q1, q2, q3, rfl, rfl⟩
    have ul : (fmt u).length ≤ 20000 := by
      have := fmt_len' (ts := u)
      have := congrArg List.length q2
      simp at this
      omega
    have rl : r.toks.length ≤ 10000 := by
      have := congrArg List.length q2
      simp at this
      omega
    cases r with
    | nil => simp [Nd.data] at q1
    | ch c r =>
      simp only [Nd.data, List.cons.injEq] at q1
      obtain ⟨rfl, rfl⟩ := q1
      have : (fmt u).length + 1 ≤ LIM := by unfold LIM; omega
      simp [tyIn, isTy, this]
      exact ⟨u ++ [.ch c], r, some (.str [c]), rfl, by simp [q2, Nd.toks], q3, rfl, by simp [Tok.txt]⟩
    | mk e r =>
      simp only [Nd.data, List.cons.injEq] at q1
      obtain ⟨rfl, rfl⟩ := q1
      have : (fmt u).length + 2 ≤ LIM := by unfold LIM; omega
      cases e with
      | false =>
        simp [tyIn, isTy, dctR, isKey, dput, dget, this, dirS]
        exact ⟨u ++ [.mk false], r, _, rfl, by simp [q2, Nd.toks], q3, rfl, by simp [Tok.txt, arrow]; rfl⟩
      | true =>
        simp [tyIn, isTy, dctR, isKey, dput, dget, this, dirS]
        exact ⟨u ++ [.mk true], r, _, rfl, by simp [q2, Nd.toks], q3, rfl, by simp [Tok.txt, arrow]; rfl⟩
    | iso e i r =>
      simp only [Nd.data, List.cons.injEq] at q1
      obtain ⟨rfl, rfl⟩ := q1
      simp only [Nd.dp] at q3
      simp only [Nd.toks] at q2 rl
      have il : i.toks.length ≤ 10000 := by simp at rl; omega
      have fl : (fmt i.toks).length ≤ 20000 := by have := fmt_len' (ts := i.toks); omega
      have l1 : (fmt u).length + 2 ≤ LIM := by unfold LIM; omega
      have l2 : (fmt u).length + 2 + (fmt i.toks).length ≤ LIM := by unfold LIM; omega
      have l3 : (fmt u).length + ((fmt i.toks).length + 1 + 1) + 1 ≤ LIM := by unfold LIM; omega
      have l4 : (fmt u).length + ((fmt i.toks).length + 1 + 1) ≤ LIM := by unfold LIM; omega
      obtain ⟨j, rfl⟩ : ∃ j, m = j + 1 := ⟨m - 1, by omega⟩
      cases e with
      | false =>
        simp [tyIn, isTy, dctR, isKey, dput, dget, l1, dirS]
        refine ht j rfl (by omega) il ?_
        simp [l2, l3, l4]
        exact ⟨u ++ [.op false] ++ i.toks ++ [.cl], r, _, rfl, by simp [q2, Nd.toks], by omega, rfl, by simp [Tok.txt, arrow]; rfl⟩
      | true =>
        simp [tyIn, isTy, dctR, isKey, dput, dget, l1, dirS]
        refine ht j rfl (by omega) il ?_
        simp [l2, l3, l4]
        exact ⟨u ++ [.op true] ++ i.toks ++ [.cl], r, _, rfl, by simp [q2, Nd.toks], by omega, rfl, by simp [Tok.txt, arrow]; rfl⟩
  · rintro σ S ⟨u, r, o, q1, q2, q3, rfl, rfl⟩
    cases r with
    | nil =>
      simp only [Nd.toks, List.append_nil] at q2
      simp [fin]
      rw [← q2]
      exact h
    | _ => simp [Nd.data] at q1
end LB
set_option Elab.async false
set_option linter.all false
set_option maxRecDepth 10000
set_option maxHeartbeats 4000000
/-! PvLawB2: nodes are drawn. -/
namespace LB
open PV
/-- a store in which a box and what is left stand -/
def bl2 (st : Store) (b l : Nat) (B : Bx) (c e : Int) : Store := (st.set b B.o).set l (.lst [.int c, .int e])
theorem oldOK_set2 {k : Nat} {v v' : SO} (hv : refsO k v = true) (hv' : refsO k v' = true) : ∀ {st l : Store} {b b' : Nat}, oldOK k st ((st.set b v).set b' v' ++ l) = true
  | [], l, _, _ => by simp [oldOK]
  | o :: st, l, 0, 0 => by
    have := oldOK_refl (k := k) (st := st) (l := l)
    simp [oldOK, this, hv']
  | o :: st, l, 0, b' + 1 => by
    have := oldOK_set hv' (st := st) (l := l) (b := b')
    simp [oldOK, this, hv]
  | o :: st, l, b + 1, 0 => by
    have := oldOK_set hv (st := st) (l := l) (b := b)
    simp [oldOK, this, hv']
  | o :: st, l, b + 1, b' + 1 => by
    have := oldOK_set2 hv hv' (st := st) (l := l) (b := b) (b' := b')
    simp [oldOK, this]
section
variable {st g : Store} {b l : Nat} {B B' : Bx} {c e c' e' : Int}
theorem bl2_len : (bl2 st b l B c e).length = st.length := by simp [bl2]
theorem bl2_b (hb : b < st.length) (hn : b ≠ l) : (bl2 st b l B c e ++ g)[b]? = some B.o := by
  rw [List.getElem?_append_left (by rw [bl2_len]; exact hb)]
  unfold bl2
  rw [List.getElem?_set_ne (Ne.symm hn)]
  exact set_at hb
theorem bl2_l (hl : l < st.length) : (bl2 st b l B c e ++ g)[l]? = some (.lst [.int c, .int e]) := by
  rw [List.getElem?_append_left (by rw [bl2_len]; exact hl)]
  simp [bl2, hl]
theorem bl2_n {i : Nat} : (bl2 st b l B c e ++ g)[st.length + i]? = g[i]? := by
  rw [List.getElem?_append_right (by rw [bl2_len]; omega), bl2_len]
  congr 1
  omega
theorem bl2_sb (hb : b < st.length) (hn : b ≠ l) : (bl2 st b l B c e ++ g).set b B'.o = bl2 st b l B' c e ++ g := by
  rw [List.set_append_left _ _ (by rw [bl2_len]; exact hb)]
  unfold bl2
  rw [List.set_comm _ _ (Ne.symm hn), List.set_set]
theorem bl2_sl (hl : l < st.length) : (bl2 st b l B c e ++ g).set l (.lst [.int c', .int e']) = bl2 st b l B c' e' ++ g := by
  rw [List.set_append_left _ _ (by rw [bl2_len]; exact hl)]
  simp [bl2]
theorem bl2_sn {i : Nat} {o : SO} : (bl2 st b l B c e ++ g).set (st.length + i) o = bl2 st b l B c e ++ g.set i o := by
  rw [List.set_append_right _ _ (by rw [bl2_len]; omega), bl2_len]
  congr 2
  omega
theorem bl2_again (hb : b < st.length) (hl : l < st.length) (hn : b ≠ l) : bl2 (bl2 st b l B c e ++ g) b l B' c' e' = bl2 st b l B' c' e' ++ g := by
  rw [bl2, bl2_sb hb hn, bl2_sl hl]
theorem bl2_id (hb : st[b]? = some B.o) (hl : st[l]? = some (.lst [.int c, .int e])) : bl2 st b l B c e = st := by
  unfold bl2
  have e1 : st.set b B.o = st := by
    obtain ⟨h, q⟩ := List.getElem?_eq_some_iff.mp hb
    rw [← q, List.set_getElem_self]
  rw [e1]
  obtain ⟨h, q⟩ := List.getElem?_eq_some_iff.mp hl
  rw [← q, List.set_getElem_self]
theorem bl2_gc {n : Nat} {xs : List D} (hn : st.length ≤ n) (hx : (bl2 st b l B c e ++ g)[n]? = some (.lst xs)) (h : refsL 0 xs = true) : gc true st (bl2 st b l B c e ++ g) (.ref n) = (.frz xs, bl2 st b l B c e) := by
  have ho : oldOK st.length st (bl2 st b l B c e ++ g) = true := by
    have z := oldOK_set2 (k := st.length) (v := B.o) (v' := SO.lst [.int c, .int e]) (refsO_mono (Nat.zero_le _) refs_bx) rfl (st := st) (l := g) (b := b) (b' := l)
    exact z
  rw [gc_lst hn hx h ho]
  congr 1
  have : st.length = (bl2 st b l B c e).length := bl2_len.symm
  rw [this, take_app]
end
theorem add_rf {st : Store} {n : Nat} {xs ys : List D} (h : st[n]? = some (.lst xs)) (hl : xs.length + ys.length ≤ LIM) : binop true .add (.ref n) (.frz ys) st = .ok (.ref st.length) (st ++ [.lst (xs ++ ys)]) := by
  show addD true (.ref n) (.frz ys) st = _
  simp only [addD, asL, h, hl, if_true, mk]
/-- nodes for which m more levels are free -/
def NodesOk (Φ : Prog) (m : Nat) : Prop := ∀ {b l : Nat} {B : Bx} {k : Nat} {c e : Int} {st : Store} {Q : D → Store → Prop} {E : Exn → Store → Prop}, b ≠ l → st[b]? = some B.o → st[l]? = some (.lst [.int c, .int e]) → B.Ok k → (k : Int) + 200 * e + 100 * m ≤ 2 ^ 38 → 0 ≤ c → c ≤ 40 → 0 ≤ e → e ≤ 40 →
  (∀ (a : Nd) (B' : Bx) (k' : Nat) (c' e' : Int), 0 ≤ c' → 0 ≤ e' → c' + a.chs = c → e' + a.cts = e → a.dp ≤ m → a.ok = true → B'.Ok k' → (k' : Int) + 200 * e' ≤ k + 200 * e + 100 → Q (.frz a.data) (bl2 st b l B' c' e')) → (Φ.call "" "_law_nodes" [.ref b, .ref l, .int (12 - (m : Int))] [] st).W Q E
def ndI (st : Store) (b l m k : Nat) (c e : Int) (ds : List D) (σ : Env) (S : Store) : Prop := ∃ (a : Nd) (B : Bx) (j i : Nat) (c' e' : Int) (g : Store) (o4 o5 o6 : Option D), 0 ≤ c' ∧ 0 ≤ e' ∧ c' + a.chs = c ∧ e' + a.cts = e ∧ a.dp ≤ m ∧ a.ok = true ∧ B.Ok j ∧ (j : Int) + 200 * e' + 4 * ds.length ≤ k + 200 * e + 98 ∧
  g[i]? = some (.lst a.data) ∧ S = bl2 st b l B c' e' ++ g ∧ σ = [some (.ref b), some (.ref l), some (.int (12 - (m : Int))), some (.ref (st.length + i)), o4, o5, o6]
theorem nodes_body {Φ : Prog} {Wf : Nat} {m : Nat} (ht : TakeOk Φ) (hs : SignOk Φ) (hnn : ∀ j, m = j + 1 → NodesOk Φ j) (hm : m ≤ 11) {b l : Nat} {B : Bx} {k : Nat} {c e : Int} {st : Store} {Q : D → Store → Prop} {E : Exn → Store → Prop} (hn : b ≠ l) (hb : st[b]? = some B.o) (hl : st[l]? = some (.lst [.int c, .int e])) (hB : B.Ok k) (hk : (k : Int) + 200 * e + 100 * m ≤ 2 ^ 38) (c0 : 0 ≤ c) (c1 : c ≤ 40) (e0 : 0 ≤ e) (e1 : e ≤ 40)
    (h : ∀ (a : Nd) (B' : Bx) (k' : Nat) (c' e' : Int), 0 ≤ c' → 0 ≤ e' → c' + a.chs = c → e' + a.cts = e → a.dp ≤ m → a.ok = true → B'.Ok k' → (k' : Int) + 200 * e' ≤ k + 200 * e + 100 → Q (.frz a.data) (bl2 st b l B' c' e')) : (bodyR Φ Wf P.fddlaw_nodes [.ref b, .ref l, .int (12 - (m : Int))] st).W Q E := by
  apply body_W
  have bl := ix_lt hb
  have ll := ix_lt hl
  rw [← bl2_id hb hl]
  simp only [P.fddlaw_nodes, startE]
  simp [bl2_len, LIM]
  refine ht (k := k) (B := B) (bl2_b bl hn) hB (by omega) (by omega) (by omega) fun v B1 v0 v1 hB1 => ?_
  rw [bl2_sb bl hn]
  refine ht (k := k + 1) (B := B1) (bl2_b bl hn) hB1 (by omega) (by omega) (by omega) fun w B2 w0 w1 hB2 => ?_
  rw [bl2_sb bl hn]
  have hcnt : ∃ n : Int, 0 ≤ n ∧ n ≤ 24 ∧ getI [D.int v, D.int 24] (if w = 0 then 1 else 0) = some (.int n) := by
    by_cases h : w = 0
    · exact ⟨24, by omega, by omega, by rw [if_pos h]; rfl⟩
    · exact ⟨v, by omega, by omega, by rw [if_neg h]; rfl⟩
  obtain ⟨n, n0, n1, hn1⟩ := hcnt
  have rl : ∀ {B : Bx} {c e : Int} {g : Store}, (bl2 st b l B c e ++ g)[l]? = some (.lst [.int c, .int e]) := bl2_l ll
  have sl : ∀ {B : Bx} {c e c' e' : Int} {g : Store}, (bl2 st b l B c e ++ g).set l (.lst [.int c', .int e']) = bl2 st b l B c' e' ++ g := bl2_sl ll
  have sn : ∀ {B : Bx} {c e : Int} {g : Store} {i : Nat}, (bl2 st b l B c e ++ g)[st.length + i]? = g[i]? := bl2_n
  simp [hn1, inR_of (i := n) (by omega) (by omega)]
  refine forL_W (ndI st b l m k c e) ⟨.nil, B2, k + 1 + 1, 0, c, e, [.lst []], none, none, none, c0, e0, by simp [Nd.chs], by simp [Nd.cts], by simp [Nd.dp], rfl, hB2, by simp [rangeL_len]; omega, rfl, rfl, rfl⟩ ?_ ?_
  · rintro d r σ S ⟨a, B3, j, i, c', e', g, o4, o5, o6, p1, p2, p3, p4, p5, p6, p7, p8, p9, rfl, rfl⟩
    have al : a.data.length ≤ 80 := by have := data_len (a := a); omega
    simp at p8
    simp
    refine ht (k := j) (B := B3) (bl2_b bl hn) p7 (by omega) (by omega) (by omega) fun v B4 v0 v1 hB4 => ?_
    rw [bl2_sb bl hn]
    refine ht (k := j + 1) (B := B4) (bl2_b bl hn) hB4 (by omega) (by omega) (by omega) fun w B5 w0 w1 hB5 => ?_
    rw [bl2_sb bl hn]
    have hd : ∃ q : Bool, getI [D.str [108, 116, 114], D.str [114, 116, 108]] w = some (.str (dirS q)) := by
      have : w = 0 ∨ w = 1 := by omega
      rcases this with rfl | rfl
      · exact ⟨true, rfl⟩
      · exact ⟨false, rfl⟩
    obtain ⟨q, hq⟩ := hd
    simp [hq, rl]
    have al2 : a.data.length < LIM := by unfold LIM; omega
    have sg : ∀ {B : Bx} {c e : Int} {g : Store} {i : Nat} {o : SO}, (bl2 st b l B c e ++ g).set (st.length + i) o = bl2 st b l B c e ++ g.set i o := bl2_sn
    have gi : i < g.length := (List.getElem?_eq_some_iff.mp p9).1
    have N : ∀ o4 o5 o6, ndI st b l m k c e r [some (.ref b), some (.ref l), some (.int (12 - (m : Int))), some (.ref (st.length + i)), o4, o5, o6] (bl2 st b l B5 c' e' ++ g) := fun o4 o5 o6 => ⟨a, B5, j + 1 + 1, i, c', e', g, o4, o5, o6, p1, p2, p3, p4, p5, p6, hB5, by omega, p9, rfl, rfl⟩
    by_cases t0 : v = 0
    · subst t0
      by_cases t1 : 2 < c'
      · simp [t1, rl, sl, sn, sg, p9, al2, ixN]
        refine ht (k := j + 1 + 1) (B := B5) (bl2_b bl hn) hB5 (by omega) (by omega) (by omega) fun x B6 x0 x1 hB6 => ?_
        rw [bl2_sb bl hn]
        obtain ⟨y1, y2, y3⟩ := getI_lt (xs := [46, 44, 58, 47, 43]) x0 x1
        simp [y2, LIM]
        refine ht (k := j + 1 + 1 + 1) (B := B6) (bl2_b bl hn) hB6 (by omega) (by omega) (by omega) fun z B7 z0 z1 hB7 => ?_
        rw [bl2_sb bl hn]
        obtain ⟨w1, w2, w3⟩ := getI_lt (xs := [48, 49, 50, 51, 52, 53, 54, 55, 56, 57]) z0 z1
        have al3 : a.data.length + 1 + 1 + 1 ≤ LIM := by unfold LIM; omega
        have y4 : isC y1 = true := (by decide : ∀ c ∈ [46, 44, 58, 47, 43], isC c = true) y1 y3
        have w4 : isC w1 = true := (by decide : ∀ c ∈ [48, 49, 50, 51, 52, 53, 54, 55, 56, 57], isC c = true) w1 w3
        simp [w2, LIM]
        rw [add_rf (xs := a.data) (by rw [sn]; exact p9) (by simpa using al3)]
        simp
        refine ⟨a.app (.ch 49 (.ch y1 (.ch w1 .nil))), B7, j + 1 + 1 + 1 + 1, g.length, c' - 3, e', g ++ [.lst (a.data ++ [.str [49], .str [y1], .str [w1]])], _, _, _, by omega, p2, by simp [Nd.chs]; omega, by simp [Nd.cts]; omega, by simpa [Nd.dp] using p5, by simp only [ok_app, Nd.ok, p6, y4, w4]; rfl, hB7, by omega, by simp [Nd.data], by simp, by simp [bl2_len]; exact ⟨rfl, rfl, rfl⟩⟩
      · by_cases t2 : 0 < c'
        · simp [t1, t2, rl, sl, sn, sg, p9, al2, ixN]
          refine hs (k := j + 1 + 1) (B := B5) (bl2_b bl hn) hB5 (by omega) fun x B6 x0 hB6 => ?_
          rw [bl2_sb bl hn]
          simp [sn, p9, al2]
          rw [sg]
          exact ⟨a.app (.ch x .nil), B6, j + 1 + 1 + 2, i, c' - 1, e', _, _, _, _, by omega, p2, by simp [Nd.chs]; omega, by simp [Nd.cts]; exact p4, by simpa [Nd.dp] using p5, by simp only [ok_app, Nd.ok, p6, x0]; rfl, hB6, by omega, by simp [gi, Nd.data], rfl, rfl⟩
        · simp [t1, t2, rl, sl, sn, sg, p9, al2, ixN]
          exact N _ _ _
    by_cases t1 : v < 8
    · have t7 : ¬ 7 < v := by omega
      have t9 : ¬ 9 < v := by omega
      by_cases t2 : 0 < c'
      · simp [t0, t1, t2, rl, sl, sn, sg, p9, al2, ixN]
        refine hs (k := j + 1 + 1) (B := B5) (bl2_b bl hn) hB5 (by omega) fun x B6 x0 hB6 => ?_
        rw [bl2_sb bl hn]
        simp [sn, p9, al2]
        rw [sg]
        exact ⟨a.app (.ch x .nil), B6, j + 1 + 1 + 2, i, c' - 1, e', _, _, _, _, by omega, p2, by simp [Nd.chs]; omega, by simp [Nd.cts]; exact p4, by simpa [Nd.dp] using p5, by simp only [ok_app, Nd.ok, p6, x0]; rfl, hB6, by omega, by simp [gi, Nd.data], rfl, rfl⟩
      · simp [t0, t1, t2, t7, t9, rl, sl, sn, sg, p9, al2, ixN]
        exact N _ _ _
    have t7 : 7 < v := by omega
    by_cases t2 : 0 < e'
    · by_cases t3 : v < 10
      · simp [t0, t1, t2, t3, t7, rl, sl, sn, sg, p9, al2, ixN]
        exact ⟨a.app (.mk q .nil), B5, j + 1 + 1, i, c', e' - 1, _, _, _, _, p1, by omega, by simp [Nd.chs]; exact p3, by simp [Nd.cts]; omega, by simpa [Nd.dp] using p5, by simp only [ok_app, Nd.ok, p6]; rfl, hB5, by omega, by simp [gi, Nd.data], rfl, rfl⟩
      · have t9 : 9 < v := by omega
        by_cases t4 : m = 0
        · subst t4
          simp [t0, t1, t2, t3, t7, rl, sl, sn, sg, p9, al2, ixN]
          exact ⟨a.app (.mk q .nil), B5, j + 1 + 1, i, c', e' - 1, _, _, _, _, p1, by omega, by simp [Nd.chs]; exact p3, by simp [Nd.cts]; omega, by simpa [Nd.dp] using p5, by simp only [ok_app, Nd.ok, p6]; rfl, hB5, by omega, by simp [gi, Nd.data], rfl, rfl⟩
        · have t5 : ¬ (12 - (m : Int) = 12) := by omega
          simp [t0, t1, t2, t3, t4, t5, t7, t9, rl, sl, sn, sg, p9, al2, ixN]
          obtain ⟨u, rfl⟩ : ∃ u, m = u + 1 := ⟨m - 1, by omega⟩
          have em : (12 - ((u + 1 : Nat) : Int) + 1) = 12 - (u : Int) := by omega
          rw [em]
          refine hnn u rfl hn (bl2_b bl hn) rl hB5 (by omega) p1 (by omega) (by omega) (by omega) fun y B6 k' c2 e2 u1 u2 u3 u4 u5 u6 u7 u8 => ?_
          rw [bl2_again bl ll hn]
          simp [sn, p9, al2, sg]
          exact ⟨a.app (.iso q y .nil), B6, k', i, c2, e2, _, _, _, _, u1, u2, by simp [Nd.chs]; omega, by simp [Nd.cts]; omega, by simp [Nd.dp]; omega, by simp only [ok_app, Nd.ok, p6, u6]; rfl, u7, by omega, by simp [gi, Nd.data], rfl, rfl⟩
    · by_cases t9 : 9 < v
      · simp [t0, t1, t2, t7, t9, rl, sl, sn, sg, p9, al2, ixN]
        exact N _ _ _
      · simp [t0, t1, t2, t7, t9, rl, sl, sn, sg, p9, al2, ixN]
        exact N _ _ _
  · rintro σ S ⟨a, B3, j, i, c', e', g, o4, o5, o6, p1, p2, p3, p4, p5, p6, p7, p8, p9, rfl, rfl⟩
    simp at p8
    simp [fin]
    rw [bl2_id hb hl, bl2_gc (Nat.le_add_right _ _) (by rw [sn]; exact p9) refs_data]
    exact h a B3 j c' e' p1 p2 p3 p4 p5 p6 p7 (by omega)
end LB
set_option Elab.async false
set_option linter.all false
set_option maxRecDepth 10000
set_option maxHeartbeats 4000000
/-! PvLawB3: a paragraph is drawn. -/
namespace LB
open PV
theorem add_ff {st : Store} {xs ys : List D} (hl : xs.length + ys.length ≤ LIM) : binop false .add (.frz xs) (.frz ys) st = .ok (.frz (xs ++ ys)) st := by
  show addD false (.frz xs) (.frz ys) st = _
  simp only [addD, asL, hl, if_true, mk]
  rfl
def drI (st : Store) (b k : Nat) (ds : List D) (σ : Env) (S : Store) : Prop := ∃ (a : Nd) (B : Bx) (j : Nat) (c e : Int) (o1 : Option D), 0 ≤ c ∧ 0 ≤ e ∧ c + a.chs ≤ 40 ∧ e + a.cts ≤ 40 ∧ a.dp ≤ 11 ∧ a.ok = true ∧ B.Ok j ∧ (j : Int) + 200 * e + 100 * ds.length ≤ k + 8700 ∧
  S = st.set b B.o ++ [.lst [.int c, .int e]] ∧ σ = [some (.ref b), o1, some (.ref st.length), some (.frz a.data)]
theorem drawn_body {Φ : Prog} {Wf : Nat} (ht : TakeOk Φ) (hn : NodesOk Φ 11) {b : Nat} {B : Bx} {k : Nat} {st : Store} {Q : D → Store → Prop} {E : Exn → Store → Prop} (hb : st[b]? = some B.o) (hB : B.Ok k) (hk : k ≤ 2 ^ 30)
    (h : ∀ (a : Nd) (d : Bool) (B' : Bx), a.chs ≤ 40 → a.cts ≤ 40 → a.dp ≤ 11 → a.ok = true → B'.Ok (k + 9000) → Q (.frz [.str (dirS d), .frz a.data]) (st.set b B'.o)) : (bodyR Φ Wf P.fddlaw_drawn [.ref b] st).W Q E := by
  apply body_W
  have bl := ix_lt hb
  simp [P.fddlaw_drawn, startE, LIM]
  refine ht (k := k) (B := B) hb hB (by omega) (by omega) (by omega) fun v B1 v0 v1 hB1 => ?_
  have hc : ∃ n : Int, 0 ≤ n ∧ n ≤ 40 ∧ getI [D.int 40, D.int 12] v = some (.int n) := by
    have : v = 0 ∨ v = 1 := by omega
    rcases this with rfl | rfl
    · exact ⟨40, by omega, by omega, rfl⟩
    · exact ⟨12, by omega, by omega, rfl⟩
  obtain ⟨n, n0, n1, hn1⟩ := hc
  simp [hn1]
  refine ht (k := k + 1) (B := B1) (by simpa using st_getb (st := st) (l := [SO.lst [.int n, .int 40]]) (o := B1.o) bl) hB1 (by omega) (by omega) (by omega) fun w B2 w0 w1 hB2 => ?_
  rw [st_setb bl]
  simp [inR_of (i := 1 + w) (by omega) (by omega)]
  refine forL_W (drI st b k) ⟨.nil, B2, k + 1 + 1, n, 40, none, n0, by omega, by simp [Nd.chs]; omega, by simp [Nd.cts], by simp [Nd.dp], rfl, hB2, by simp [rangeL_len]; omega, rfl, rfl⟩ ?_ ?_
  · rintro d r σ S ⟨a, B3, j, c, e, o1, p1, p2, p3, p4, p5, p6, p7, p8, rfl, rfl⟩
    simp at p8
    simp
    refine hn (k := j) (B := B3) (c := c) (e := e) (by omega) (st_getb bl) (by rw [st_get0]; rfl) p7 (by omega) p1 (by omega) p2 (by omega) fun y B6 k' c2 e2 u1 u2 u3 u4 u5 u6 u7 u8 => ?_
    have al : a.data.length + y.data.length ≤ LIM := by
      have := data_len (a := a)
      have := data_len (a := y)
      unfold LIM
      omega
    have es : bl2 (st.set b B3.o ++ [SO.lst [D.int c, D.int e]]) b st.length B6 c2 e2 = st.set b B6.o ++ [SO.lst [D.int c2, D.int e2]] := by
      unfold bl2
      rw [st_setb bl, st_set0]
      rfl
    rw [es, add_ff al]
    simp
    exact ⟨a.app y, B6, k', c2, e2, some d, u1, u2, by simp; omega, by simp; omega, by simp; omega, by simp [p6, u6], u7, by omega, rfl, by simp⟩
  · rintro σ S ⟨a, B3, j, c, e, o1, p1, p2, p3, p4, p5, p6, p7, p8, rfl, rfl⟩
    simp at p8
    simp
    refine ht (k := j) (B := B3) (st_getb bl) p7 (by omega) (by omega) (by omega) fun v B4 v0 v1 hB4 => ?_
    rw [st_setb bl]
    have hd : ∃ q : Bool, getI [D.str [108, 116, 114], D.str [114, 116, 108]] v = some (.str (dirS q)) := by
      have : v = 0 ∨ v = 1 := by omega
      rcases this with rfl | rfl
      · exact ⟨true, rfl⟩
      · exact ⟨false, rfl⟩
    obtain ⟨q, hq⟩ := hd
    simp [hq, fin]
    rw [gcb (by simp [refsD, refsL, refs_data]) refs_bx]
    exact h a q B4 (by omega) (by omega) p5 p6 (hB4.mono (by omega))
def DrawnOk (Φ : Prog) : Prop := ∀ {b : Nat} {B : Bx} {k : Nat} {st : Store} {Q : D → Store → Prop} {E : Exn → Store → Prop}, st[b]? = some B.o → B.Ok k → k ≤ 2 ^ 30 →
  (∀ (a : Nd) (d : Bool) (B' : Bx), a.chs ≤ 40 → a.cts ≤ 40 → a.dp ≤ 11 → a.ok = true → B'.Ok (k + 9000) → Q (.frz [.str (dirS d), .frz a.data]) (st.set b B'.o)) → (Φ.call "" "_law_drawn" [.ref b] [] st).W Q E
end LB
set_option Elab.async false
set_option linter.all false
set_option maxRecDepth 10000
set_option maxHeartbeats 4000000
/-! PvMod: the laws' own model of a paragraph: characters and blocks. -/
namespace LB
open PV
abbrev Mb := Bool × List Cn
abbrev sSigns : List Nat := [115, 105, 103, 110, 115]
abbrev sBlocks : List Nat := [98, 108, 111, 99, 107, 115]
/-- where a block's contents stand; the block itself stands next -/
def cR (n i : Nat) : Nat := if i = 0 then n + 1 else n + 3 + 2 * i
def mc (b : Mb) : SO := .lst (b.2.map Cn.d)
def mI (n i : Nat) (b : Mb) : SO := .lst [.str (dirS b.1), .ref (cR n i)]
def mrS (n : Nat) : Nat → List Mb → Store
  | _, [] => []
  | i, b :: r => mc b :: mI n i b :: mrS n (i + 1) r
def mSg (ss : List Nat) : SO := .lst (ss.map fun c => .str [c])
def mBl (n k : Nat) : SO := .lst ((List.range k).map fun i => .ref (cR n i + 1))
def mDc (n : Nat) : SO := .dic [(.str sSigns, .ref n), (.str sBlocks, .ref (n + 3))]
def modS (n : Nat) (ss : List Nat) : List Mb → Store
  | [] => []
  | b :: r => mSg ss :: mc b :: mI n 0 b :: mBl n (r.length + 1) :: mDc n :: mrS n 1 r
theorem mrS_len {n : Nat} : ∀ {i : Nat} {r : List Mb}, (mrS n i r).length = 2 * r.length
  | _, [] => rfl
  | i, b :: bs => by simp only [mrS, List.length_cons, mrS_len]; omega
theorem mrS_app {n : Nat} : ∀ {i : Nat} {bs cs : List Mb}, mrS n i (bs ++ cs) = mrS n i bs ++ mrS n (i + bs.length) cs
  | i, [], cs => rfl
  | i, b :: bs, cs => by
    simp only [List.cons_append, mrS, mrS_app (bs := bs), List.length_cons]
    congr 4
    omega
theorem mrS_get0 {n : Nat} : ∀ {i j : Nat} {bs : List Mb}, (mrS n i bs)[2 * j]? = (bs[j]?).map mc
  | i, 0, [] => rfl
  | i, 0, b :: bs => rfl
  | i, j + 1, [] => rfl
  | i, j + 1, b :: bs => by
    rw [show 2 * (j + 1) = 2 * j + 2 by omega]
    show (mrS n (i + 1) bs)[2 * j]? = _
    rw [mrS_get0]
    rfl
theorem mrS_get1 {n : Nat} : ∀ {i j : Nat} {bs : List Mb}, (mrS n i bs)[2 * j + 1]? = (bs[j]?).map (mI n (i + j))
  | i, 0, [] => rfl
  | i, 0, b :: bs => rfl
  | i, j + 1, [] => rfl
  | i, j + 1, b :: bs => by
    rw [show 2 * (j + 1) + 1 = 2 * j + 1 + 2 by omega]
    show (mrS n (i + 1) bs)[2 * j + 1]? = _
    rw [mrS_get1, show i + 1 + j = i + (j + 1) by omega]
    rfl
theorem mrS_set0 {n : Nat} {c : List Cn} : ∀ {i j : Nat} {bs : List Mb} {b : Mb}, bs[j]? = some b → (mrS n i bs).set (2 * j) (.lst (c.map Cn.d)) = mrS n i (bs.set j (b.1, c))
  | i, j, [], b, h => by cases h
  | i, 0, b :: bs, _, h => by cases h; rfl
  | i, j + 1, b :: bs, _, h => by
    rw [show 2 * (j + 1) = 2 * j + 2 by omega]
    show mc b :: mI n i b :: (mrS n (i + 1) bs).set (2 * j) _ = _
    rw [mrS_set0 (by simpa using h)]
    rfl
section
variable {pre : Store} {n j : Nat} {ss : List Nat} {ms : List Mb} {b : Mb}
theorem modS_len (h : ms ≠ []) : (modS n ss ms).length = 3 + 2 * ms.length := by
  cases ms with
  | nil => exact absurd rfl h
  | cons b r => simp only [modS, List.length_cons, mrS_len]; omega
theorem mAt (hp : pre.length = n) {i : Nat} {l : Store} : (pre ++ l)[n + i]? = l[i]? := by
  rw [List.getElem?_append_right (by omega)]
  congr 1
  omega
theorem mSet (hp : pre.length = n) {i : Nat} {l : Store} {o : SO} : (pre ++ l).set (n + i) o = pre ++ l.set i o := by
  rw [List.set_append_right _ _ (by omega)]
  congr 2
  omega
theorem mg0 (hp : pre.length = n) (h : ms ≠ []) : (pre ++ modS n ss ms)[n]? = some (mSg ss) := by
  have := mAt hp (i := 0) (l := modS n ss ms)
  rw [Nat.add_zero] at this
  rw [this]
  cases ms with
  | nil => exact absurd rfl h
  | cons b r => rfl
theorem mg3 (hp : pre.length = n) (h : ms ≠ []) : (pre ++ modS n ss ms)[n + 3]? = some (mBl n ms.length) := by
  rw [mAt hp]
  cases ms with
  | nil => exact absurd rfl h
  | cons b r => rfl
theorem mg4 (hp : pre.length = n) (h : ms ≠ []) : (pre ++ modS n ss ms)[n + 4]? = some (mDc n) := by
  rw [mAt hp]
  cases ms with
  | nil => exact absurd rfl h
  | cons b r => rfl
theorem mgc (hp : pre.length = n) (h : ms[j]? = some b) : (pre ++ modS n ss ms)[cR n j]? = some (mc b) := by
  cases ms with
  | nil => cases h
  | cons a r =>
    cases j with
    | zero =>
      cases h
      rw [show cR n 0 = n + 1 from rfl, mAt hp]
      rfl
    | succ j =>
      rw [show cR n (j + 1) = n + (2 * j + 5) by simp [cR]; omega, mAt hp]
      show (mrS n 1 r)[2 * j]? = _
      rw [mrS_get0, show r[j]? = some b by simpa using h]
      rfl
theorem mgi (hp : pre.length = n) (h : ms[j]? = some b) : (pre ++ modS n ss ms)[cR n j + 1]? = some (mI n j b) := by
  cases ms with
  | nil => cases h
  | cons a r =>
    cases j with
    | zero =>
      cases h
      rw [show cR n 0 + 1 = n + 2 from rfl, mAt hp]
      rfl
    | succ j =>
      rw [show cR n (j + 1) + 1 = n + (2 * j + 1 + 5) by simp [cR]; omega, mAt hp]
      show (mrS n 1 r)[2 * j + 1]? = _
      rw [mrS_get1, show r[j]? = some b by simpa using h, show 1 + j = j + 1 by omega]
      rfl
theorem ms0 (hp : pre.length = n) (h : ms ≠ []) {ss' : List Nat} : (pre ++ modS n ss ms).set n (mSg ss') = pre ++ modS n ss' ms := by
  have := mSet hp (i := 0) (l := modS n ss ms) (o := mSg ss')
  rw [Nat.add_zero] at this
  rw [this]
  cases ms with
  | nil => exact absurd rfl h
  | cons b r => rfl
theorem msc (hp : pre.length = n) (h : ms[j]? = some b) {c : List Cn} : (pre ++ modS n ss ms).set (cR n j) (.lst (c.map Cn.d)) = pre ++ modS n ss (ms.set j (b.1, c)) := by
  cases ms with
  | nil => cases h
  | cons a r =>
    cases j with
    | zero =>
      cases h
      rw [show cR n 0 = n + 1 from rfl, mSet hp]
      rfl
    | succ j =>
      rw [show cR n (j + 1) = n + (2 * j + 5) by simp [cR]; omega, mSet hp]
      show pre ++ mSg ss :: mc a :: mI n 0 a :: mBl n (r.length + 1) :: mDc n :: (mrS n 1 r).set (2 * j) _ = _
      rw [mrS_set0 (by simpa using h)]
      simp [modS]
theorem msb (hp : pre.length = n) (h : ms ≠ []) {d : Bool} : (pre ++ modS n ss ms ++ [SO.lst [], SO.lst [.str (dirS d), .ref (pre ++ modS n ss ms).length]]).set (n + 3) (mBl n (ms.length + 1)) = pre ++ modS n ss (ms ++ [(d, [])]) := by
  rw [List.append_assoc, mSet hp]
  cases ms with
  | nil => exact absurd rfl h
  | cons a r =>
    have e : (pre ++ modS n ss (a :: r)).length = cR n (1 + r.length) := by
      rw [List.length_append, modS_len h, hp]
      simp [cR]
      omega
    rw [e]
    show pre ++ mSg ss :: mc a :: mI n 0 a :: mBl n (r.length + 1 + 1) :: mDc n :: (mrS n 1 r ++ [SO.lst [], SO.lst [.str (dirS d), .ref (cR n (1 + r.length))]]) = _
    show _ = pre ++ mSg ss :: mc a :: mI n 0 a :: mBl n ((r ++ [(d, [])]).length + 1) :: mDc n :: mrS n 1 (r ++ [(d, [])])
    rw [mrS_app, List.length_append]
    rfl
end
end LB
set_option Elab.async false
set_option linter.all false
set_option maxRecDepth 10000
set_option maxHeartbeats 4000000
/-! PvMod2: the laws' model is filled. -/
namespace LB
open PV
structure MS where
  ss : List Nat
  ms : List Mb
def addM (c : Cn) (x : Mb) : Mb := (x.1, x.2 ++ [c])
def MS.add (s : MS) (b : Nat) (c : Cn) : MS := ⟨s.ss, s.ms.modify b (addM c)⟩
def fillM : Nd → MS → Nat → MS
  | .nil, s, _ => s
  | .ch c r, s, b => fillM r ⟨s.ss ++ [c], s.ms.modify b (addM (.ch s.ss.length))⟩ b
  | .mk d r, s, b => fillM r ⟨s.ss, s.ms.modify b (addM (.mk d))⟩ b
  | .iso d i r, s, b => fillM r (fillM i ⟨s.ss, s.ms.modify b (addM (.iso s.ms.length)) ++ [(d, [])]⟩ s.ms.length) b
structure MS.Ok (s : MS) (N : Nat) : Prop where
  ne : s.ms ≠ []
  sl : s.ss.length ≤ N
  ml : s.ms.length ≤ N + 1
  cl : ∀ (j : Nat) (x : Mb), s.ms[j]? = some x → x.2.length ≤ N
theorem modM_get {f : Mb → Mb} {i j : Nat} {bs : List Mb} {b1 : Mb} (h : (bs.modify i f)[j]? = some b1) : ∃ b, bs[j]? = some b ∧ (b1 = b ∨ b1 = f b) := by
  rw [List.getElem?_modify] at h
  cases hb : bs[j]? with
  | none => rw [hb] at h; cases h
  | some b =>
    rw [hb] at h
    refine ⟨b, rfl, ?_⟩
    by_cases hj : i = j
    · simp [hj] at h
      exact .inr h.symm
    · simp [hj] at h
      exact .inl h.symm
theorem MS.Ok.add {s : MS} {N : Nat} (g : s.Ok N) {b : Nat} {c : Cn} {ss : List Nat} (hs : ss.length ≤ N + 1) : MS.Ok ⟨ss, s.ms.modify b (addM c)⟩ (N + 1) := by
  refine ⟨?_, hs, by simp; have := g.ml; omega, fun j x hx => ?_⟩
  · have := g.ne
    intro e
    have := congrArg List.length e
    simp at this
    exact g.ne this
  · obtain ⟨y, y1, y2⟩ := modM_get hx
    have := g.cl j y y1
    rcases y2 with rfl | rfl
    · omega
    · simp [addM]
      omega
theorem MS.Ok.new {s : MS} {N : Nat} (g : s.Ok N) {b : Nat} {c : Cn} {d : Bool} : MS.Ok ⟨s.ss, s.ms.modify b (addM c) ++ [(d, [])]⟩ (N + 1) := by
  have g1 := g.add (b := b) (c := c) (ss := s.ss) (by have := g.sl; omega)
  refine ⟨by simp, g1.sl, by simp; have := g.ml; omega, fun j x hx => ?_⟩
  rcases Nat.lt_or_ge j (s.ms.modify b (addM c)).length with hj | hj
  · rw [List.getElem?_append_left hj] at hx
    exact g1.cl j x hx
  · rw [List.getElem?_append_right hj] at hx
    cases hq : j - (s.ms.modify b (addM c)).length with
    | zero => rw [hq] at hx; cases hx; simp
    | succ q => rw [hq] at hx; simp at hx
theorem fillM_ok : ∀ {a : Nd} {s : MS} {b N : Nat}, s.Ok N → (fillM a s b).Ok (N + a.chs + a.cts) ∧ s.ms.length ≤ (fillM a s b).ms.length
  | .nil, s, b, N, g => ⟨by simpa [fillM, Nd.chs, Nd.cts] using g, Nat.le_refl _⟩
  | .ch c r, s, b, N, g => by
    have g1 := g.add (b := b) (c := .ch s.ss.length) (ss := s.ss ++ [c]) (by have := g.sl; simp; omega)
    obtain ⟨x, y⟩ := fillM_ok (a := r) (b := b) g1
    refine ⟨by rw [show N + (Nd.ch c r).chs + (Nd.ch c r).cts = N + 1 + r.chs + r.cts by simp [Nd.chs, Nd.cts]; omega]; exact x, ?_⟩
    show _ ≤ (fillM r _ b).ms.length
    simpa using y
  | .mk d r, s, b, N, g => by
    have g1 := g.add (b := b) (c := .mk d) (ss := s.ss) (by have := g.sl; omega)
    obtain ⟨x, y⟩ := fillM_ok (a := r) (b := b) g1
    refine ⟨by rw [show N + (Nd.mk d r).chs + (Nd.mk d r).cts = N + 1 + r.chs + r.cts by simp [Nd.chs, Nd.cts]; omega]; exact x, ?_⟩
    show _ ≤ (fillM r _ b).ms.length
    simpa using y
  | .iso d i r, s, b, N, g => by
    have g1 := g.new (b := b) (c := .iso s.ms.length) (d := d)
    obtain ⟨x, y⟩ := fillM_ok (a := i) (b := s.ms.length) g1
    obtain ⟨x2, y2⟩ := fillM_ok (a := r) (b := b) x
    refine ⟨by rw [show N + (Nd.iso d i r).chs + (Nd.iso d i r).cts = N + 1 + i.chs + i.cts + r.chs + r.cts by simp [Nd.chs, Nd.cts]; omega]; exact x2, ?_⟩
    simp at y
    show _ ≤ (fillM r (fillM i _ s.ms.length) b).ms.length
    omega
theorem refsL_mem {k : Nat} : ∀ {xs : List D} {x : D}, refsL k xs = true → x ∈ xs → refsD k x = true
  | [], x, _, h => by cases h
  | y :: ys, x, h, hx => by
    simp only [refsL, Bool.and_eq_true] at h
    rcases List.mem_cons.mp hx with rfl | hx
    · exact h.1
    · exact refsL_mem h.2 hx
/-- what is filled stays -/
theorem gcF {frz : Bool} {pre : Store} {n : Nat} {ss ss' : List Nat} {ms ms' : List Mb} (hp : pre.length = n) (h : ms ≠ []) (h' : ms' ≠ []) (hl : ms.length ≤ ms'.length) : gc frz (pre ++ modS n ss ms) (pre ++ modS n ss' ms') .non = (.non, pre ++ modS n ss' ms') := by
  have e1 : (pre ++ modS n ss ms).length = n + 3 + 2 * ms.length := by rw [List.length_append, modS_len h, hp]; omega
  have e2 : (pre ++ modS n ss' ms').length = n + 3 + 2 * ms'.length := by rw [List.length_append, modS_len h', hp]; omega
  cases ho : oldOK (pre ++ modS n ss ms).length (pre ++ modS n ss ms) (pre ++ modS n ss' ms') with
  | false => exact gc_stay ho
  | true =>
    by_cases he : ms.length = ms'.length
    · rw [gc_val rfl ho, take_same (by rw [e1, e2, he])]
    · exfalso
      have k0 : ms.length ≠ 0 := fun e => h (List.length_eq_zero_iff.mp e)
      rcases oldOK_at (n := n + 3) ho (mg3 hp h') (by omega) with ⟨o, o1, o2⟩ | hr
      · rw [mg3 hp h] at o1
        cases o1
        simp only [mBl, SO.lst.injEq] at o2
        have := congrArg List.length o2
        simp at this
        omega
      · simp only [mBl, refsO] at hr
        have := refsL_mem (x := .ref (cR n (ms'.length - 1) + 1)) hr (List.mem_map.mpr ⟨ms'.length - 1, by simp; omega, rfl⟩)
        simp only [refsD, decide_eq_true_eq] at this
        rw [e1] at this
        simp only [cR] at this
        split at this <;> omega
def MS.S (s : MS) (n : Nat) : Store := modS n s.ss s.ms
/-- the model is filled with nodes of a depth of at most m -/
def FillOk (Φ : Prog) (m : Nat) : Prop := ∀ {pre : Store} {n b N : Nat} {s : MS} {a : Nd} {Q : D → Store → Prop} {E : Exn → Store → Prop}, pre.length = n → s.Ok N → b < s.ms.length → N + a.chs + a.cts ≤ 10000 → a.dp ≤ m → Q .non (pre ++ (fillM a s b).S n) → (Φ.call "" "_law_fill" [.ref (n + 4), .int (b : Nat), .frz a.data] [] (pre ++ s.S n)).W Q E
def filI (pre : Store) (n b m : Nat) (s : MS) (a : Nd) (ds : List D) (σ : Env) (S : Store) : Prop := ∃ (r : Nd) (s' : MS) (N : Nat) (o3 o4 : Option D), ds = r.data ∧ fillM a s b = fillM r s' b ∧ s'.Ok N ∧ N + r.chs + r.cts ≤ 10000 ∧ s.ms.length ≤ s'.ms.length ∧ r.dp ≤ m ∧
  S = pre ++ modS n s'.ss s'.ms ∧ σ = [some (.ref (n + 4)), some (.int (b : Nat)), some (.frz a.data), o3, o4]
theorem getI_bl {n k j : Nat} (h : j < k) : getI ((List.range k).map fun i => D.ref (cR n i + 1)) (j : Int) = some (.ref (cR n j + 1)) := by
  rw [getI_nat]
  simp [h]
theorem modM_set {f : Mb → Mb} {i : Nat} {bs : List Mb} {b : Mb} (h : bs[i]? = some b) : bs.set i (f b) = bs.modify i f := (modify_at h).symm
theorem fill_body {Φ : Prog} {Wf : Nat} {m : Nat} (hf : ∀ j, m = j + 1 → FillOk Φ j) {pre : Store} {n b N : Nat} {s : MS} {a : Nd} {Q : D → Store → Prop} {E : Exn → Store → Prop} (hp : pre.length = n) (hs : s.Ok N) (hb : b < s.ms.length) (hN : N + a.chs + a.cts ≤ 10000) (hd : a.dp ≤ m) (h : Q .non (pre ++ (fillM a s b).S n)) :
    (bodyR Φ Wf P.fddlaw_fill [.ref (n + 4), .int (b : Nat), .frz a.data] (pre ++ s.S n)).W Q E := by
  apply body_W
  simp [P.fddlaw_fill, startE]
  refine forL_W (filI pre n b m s a) ⟨a, s, N, none, none, rfl, rfl, hs, hN, Nat.le_refl _, hd, rfl, rfl⟩ ?_ ?_
  · rintro d ds σ S ⟨r, s', N', o3, o4, q1, q2, q3, q4, q5, q6, rfl, rfl⟩
    have hne := q3.ne
    have hb' : b < s'.ms.length := by omega
    obtain ⟨x, hx⟩ : ∃ x, s'.ms[b]? = some x := ⟨s'.ms[b], List.getElem?_eq_getElem hb'⟩
    have r0 := mg0 (ss := s'.ss) hp hne
    have r3 := mg3 (ss := s'.ss) hp hne
    have r4 := mg4 (ss := s'.ss) hp hne
    have rc := mgc (ss := s'.ss) hp hx
    have ri := mgi (ss := s'.ss) hp hx
    have up : ∀ c : Cn, (pre ++ modS n s'.ss s'.ms).set (cR n b) (.lst (x.2.map Cn.d ++ [c.d])) = pre ++ modS n s'.ss (s'.ms.modify b (addM c)) := fun c => by
      have := msc (ss := s'.ss) hp hx (c := x.2 ++ [c])
      rw [List.map_append] at this
      refine this.trans ?_
      rw [← modM_set hx]
      rfl
    have xl : x.2.length < LIM := by
      have := q3.cl b x hx
      unfold LIM
      omega
    cases r with
    | nil => simp [Nd.data] at q1
    | ch c r =>
      simp only [Nd.data, List.cons.injEq] at q1
      obtain ⟨rfl, rfl⟩ := q1
      simp [tyIn, isTy, r4, mDc, isKey, dget, r3, mBl, getI_bl hb', ri, mI, rc, mc, r0, mSg, xl]
      have u1 : (pre ++ modS n s'.ss s'.ms).set (cR n b) (SO.lst (List.map Cn.d x.snd ++ [D.tup [D.str [99, 104, 97, 114, 97, 99, 116, 101, 114], D.int s'.ss.length]])) = _ := up (.ch s'.ss.length)
      have ne1 : s'.ms.modify b (addM (.ch s'.ss.length)) ≠ [] := fun e => hne (List.length_eq_zero_iff.mp (by have := congrArg List.length e; simpa using this))
      have sl : s'.ss.length < LIM := by
        have := q3.sl
        unfold LIM
        omega
      have u2 : (pre ++ modS n s'.ss (s'.ms.modify b (addM (.ch s'.ss.length)))).set n (SO.lst (s'.ss.map (fun c => D.str [c]) ++ [D.str [c]])) = pre ++ modS n (s'.ss ++ [c]) (s'.ms.modify b (addM (.ch s'.ss.length))) := by
        have z := ms0 (ss := s'.ss) hp ne1 (ss' := s'.ss ++ [c])
        simpa [mSg] using z
      simp [u1, mg4 hp ne1, mDc, isKey, dget, mg0 hp ne1, mSg, sl, u2]
      simp [Nd.chs, Nd.cts] at q4
      exact ⟨r, ⟨_, _⟩, N' + 1, _, _, rfl, q2, q3.add (by have := q3.sl; simp; omega), by omega, by simpa using q5, q6, rfl, rfl⟩
    | mk e r =>
      simp only [Nd.data, List.cons.injEq] at q1
      obtain ⟨rfl, rfl⟩ := q1
      simp [tyIn, isTy, r4, mDc, isKey, dget, r3, mBl, getI_bl hb', ri, mI, rc, mc, r0, mSg, xl]
      have u1 : (pre ++ modS n s'.ss s'.ms).set (cR n b) (SO.lst (List.map Cn.d x.snd ++ [D.tup [D.str sMark, D.str (dirS e)]])) = _ := up (.mk e)
      rw [u1]
      simp [Nd.chs, Nd.cts] at q4
      exact ⟨r, ⟨_, _⟩, N' + 1, _, _, rfl, q2, q3.add (by have := q3.sl; simp; omega), by omega, by simpa using q5, q6, rfl, rfl⟩
    | iso e i r =>
      simp only [Nd.data, List.cons.injEq] at q1
      obtain ⟨rfl, rfl⟩ := q1
      simp [tyIn, isTy, r4, mDc, isKey, dget, r3, mBl, getI_bl hb', ri, mI, rc, mc, r0, mSg, xl]
      have u1 : (pre ++ modS n s'.ss s'.ms).set (cR n b) (SO.lst (List.map Cn.d x.snd ++ [D.tup [D.str [105, 115, 111, 108, 97, 116, 101], D.int s'.ms.length]])) = _ := up (.iso s'.ms.length)
      have ne1 : s'.ms.modify b (addM (.iso s'.ms.length)) ≠ [] := fun e => hne (List.length_eq_zero_iff.mp (by have := congrArg List.length e; simpa using this))
      have sl : s'.ms.length < LIM := by
        have := q3.ml
        unfold LIM
        omega
      have wl : (s'.ms.modify b (addM (.iso s'.ms.length))).length = s'.ms.length := by simp
      have g3 : ∀ l : Store, (pre ++ (modS n s'.ss (s'.ms.modify b (addM (.iso s'.ms.length))) ++ l))[n + 3]? = some (mBl n s'.ms.length) := fun l => by
        rw [← List.append_assoc, List.getElem?_append_left (by rw [List.length_append, modS_len ne1, hp]; omega), mg3 hp ne1, wl]
      have q2' : fillM a s b = fillM r (fillM i ⟨s'.ss, s'.ms.modify b (addM (.iso s'.ms.length)) ++ [(e, [])]⟩ s'.ms.length) b := q2
      have nw := q3.new (b := b) (c := .iso s'.ms.length) (d := e)
      have u3 := msb (ss := s'.ss) hp ne1 (d := e)
      simp [u1, mg4 hp ne1, mDc, isKey, dget, mg3 hp ne1, g3, mBl, sl]
      have lw : (modS n s'.ss (s'.ms.modify b (addM (.iso s'.ms.length)))).length = 3 + 2 * s'.ms.length := by rw [modS_len ne1, wl]
      generalize s'.ms.modify b (addM (.iso s'.ms.length)) = w1 at *
      have cE : D.ref (pre.length + (modS n s'.ss w1).length + 1) = D.ref (cR n s'.ms.length + 1) := by
        rw [lw, hp]
        have : s'.ms.length ≠ 0 := fun e => hne (List.length_eq_zero_iff.mp e)
        simp [cR, this]
        omega
      rw [wl, mBl, List.range_succ, List.map_append, List.map_singleton, List.length_append, List.append_assoc] at u3
      rw [cE, u3]
      simp only [Nd.dp] at q6
      simp [Nd.chs, Nd.cts] at q4
      obtain ⟨u, rfl⟩ : ∃ u, m = u + 1 := ⟨m - 1, by omega⟩
      obtain ⟨f1, f2⟩ := fillM_ok (a := i) (b := s'.ms.length) nw
      refine hf u rfl (s := ⟨s'.ss, w1 ++ [(e, [])]⟩) hp nw (by simp; omega) (by omega) (by omega) ?_
      have wl2 : w1.length + 1 ≤ (fillM i ⟨s'.ss, w1 ++ [(e, [])]⟩ s'.ms.length).ms.length := by simpa using f2
      exact ⟨r, _, _, _, _, rfl, q2', f1, by omega, by omega, by omega, rfl, rfl⟩
  · rintro σ S ⟨r, s', N', o3, o4, q1, q2, q3, q4, q5, q6, rfl, rfl⟩
    cases r with
    | nil =>
      simp [fin]
      rw [show pre ++ s.S n = pre ++ modS n s.ss s.ms from rfl, gcF hp hs.ne q3.ne q5]
      rw [q2] at h
      exact h
    | _ => simp [Nd.data] at q1
/-- the model of nodes -/
def modelM (d : Bool) (a : Nd) : MS := fillM a ⟨[], [(d, [])]⟩ 0
theorem modelM_ok {d : Bool} {a : Nd} : (modelM d a).Ok (a.chs + a.cts) := by
  have g : MS.Ok ⟨[], [(d, [])]⟩ 0 := ⟨by simp, by simp, by simp, fun j x hx => by
    cases j with
    | zero => cases hx; simp
    | succ j => simp at hx⟩
  have := (fillM_ok (a := a) (b := 0) g).1
  rw [Nat.zero_add] at this
  exact this
theorem model_body {Φ : Prog} {Wf m : Nat} (hf : FillOk Φ m) {st : Store} {d : Bool} {a : Nd} {Q : D → Store → Prop} {E : Exn → Store → Prop} (hd : a.dp ≤ m) (hN : a.chs + a.cts ≤ 10000)
    (h : Q (.ref (st.length + 4)) (st ++ (modelM d a).S st.length)) : (bodyR Φ Wf { P.fddlaw_model with frz := false } [.str (dirS d), .frz a.data] st).W Q E := by
  apply body_W
  simp [P.fddlaw_model, startE, dctR, isKey, dput]
  have g : MS.Ok ⟨[], [(d, [])]⟩ 0 := ⟨by simp, by simp, by simp, fun j x hx => by
    cases j with
    | zero => cases hx; simp
    | succ j => simp at hx⟩
  refine hf (pre := st) (n := st.length) (b := 0) (N := 0) (s := ⟨[], [(d, [])]⟩) rfl g (by simp) (by omega) hd ?_
  simp only [fin]
  rw [gc_own (by omega)]
  exact h
def ModelOk (Φ : Prog) (m : Nat) : Prop := ∀ {st : Store} {d : Bool} {a : Nd} {Q : D → Store → Prop} {E : Exn → Store → Prop}, a.dp ≤ m → a.chs + a.cts ≤ 10000 → Q (.ref (st.length + 4)) (st ++ (modelM d a).S st.length) → (Φ.call "" "_law_model" [.str (dirS d), .frz a.data] [] st).W Q E
end LB
set_option Elab.async false
set_option linter.all false
set_option maxRecDepth 10000
set_option maxHeartbeats 4000000
/-! PvPmet: what a paragraph that stands answers. -/
namespace PV
structure ParaAt (st : Store) (p : Nat) (ts : List Tok) (txt : List Nat) (base : Bool) (pl hom : List Nat) (bs : List Blk) : Prop where
  g0 : st[p]? = some (paraH p ts txt base pl)
  g1 : st[p + 1]? = some (recL (p + 4) bs.length)
  g2 : st[p + 2]? = some (homL hom)
  gi : ∀ (j : Nat) (b : Blk), bs[j]? = some b → st[p + 4 + 3 * j]? = some (b.ins (p + 4) j)
  gc : ∀ (j : Nat) (b : Blk), bs[j]? = some b → st[p + 4 + 3 * j + 1]? = some b.cn
  gt : ∀ (j : Nat) (b : Blk), bs[j]? = some b → st[p + 4 + 3 * j + 2]? = some b.tk
section
variable {st l : Store} {p : Nat} {ts : List Tok} {txt pl hom stk : List Nat} {base : Bool} {bs : List Blk}
theorem paraS_at : ParaAt (st ++ paraS st.length ts txt base pl stk hom bs) st.length ts txt base pl hom bs :=
  ⟨pS0, pS1, pS2, fun j b h => pSi h, fun j b h => pSc h, fun j b h => pSt h⟩
theorem get_app {i : Nat} {o : SO} (h : st[i]? = some o) : (st ++ l)[i]? = some o := by
  rw [List.getElem?_append_left (ix_lt h)]
  exact h
theorem ParaAt.app (h : ParaAt st p ts txt base pl hom bs) : ParaAt (st ++ l) p ts txt base pl hom bs :=
  ⟨get_app h.g0, get_app h.g1, get_app h.g2, fun j b q => get_app (h.gi j b q), fun j b q => get_app (h.gc j b q), fun j b q => get_app (h.gt j b q)⟩
end
theorem is_integer_body {Φ : Prog} {Wf : Nat} {v a b : Int} {st : Store} {Q : D → Store → Prop} {E : Exn → Store → Prop} (h : Q (.bl (decide (a ≤ v) && decide (v ≤ b))) st) : (bodyR Φ Wf P.f_is_integer [.int v, .int a, .int b] st).W Q E := by
  apply body_W
  simp [P.f_is_integer, startE, tyIn, isTy, fin]
  by_cases h1 : a ≤ v
  · simp [h1]
    simpa [h1] using h
  · simp [h1]
    simpa [h1] using h
def IsIntOk (Φ : Prog) : Prop := ∀ {v a b : Int} {st : Store} {Q : D → Store → Prop} {E : Exn → Store → Prop}, Q (.bl (decide (a ≤ v) && decide (v ≤ b))) st → (Φ.call "" "is_integer" [.int v, .int a, .int b] [] st).W Q E
theorem record_of_body {Φ : Prog} {Wf : Nat} (C : ParaC Φ) (hi : IsIntOk Φ) {st : Store} {p j : Nat} {ts : List Tok} {txt pl hom : List Nat} {base : Bool} {bs : List Blk} (hp : ParaAt st p ts txt base pl hom bs) (hj : j < bs.length) {Q : D → Store → Prop} {E : Exn → Store → Prop} (h : Q (.ref (p + 4 + 3 * j)) st) :
    (bodyR Φ Wf P.m_Paragraph_record_of [.ref p, .int (j : Nat)] st).W Q E := by
  apply body_W
  obtain ⟨b, hb⟩ : ∃ b, bs[j]? = some b := ⟨bs[j], List.getElem?_eq_getElem hj⟩
  have rl := ix_lt (hp.gi j b hb)
  simp [P.m_Paragraph_record_of, startE, hp.g0, pf5 C, hp.g1, lenO_rec]
  refine hi ?_
  have e1 : (j : Int) ≤ (bs.length : Int) - 1 := by omega
  simp [e1, hp.g0, pf5 C, hp.g1, ixO_recL hj, fin]
  rw [gc_keep (by simpa [refsD] using rl) (by have := oldOK_refl (k := st.length) (st := st) (l := []); rwa [List.append_nil] at this), List.take_length]
  exact h
def RecOfOk (Φ : Prog) : Prop := ∀ {st : Store} {p j : Nat} {ts : List Tok} {txt pl hom : List Nat} {base : Bool} {bs : List Blk} {Q : D → Store → Prop} {E : Exn → Store → Prop}, ParaAt st p ts txt base pl hom bs → j < bs.length → Q (.ref (p + 4 + 3 * j)) st → (Φ.call "Paragraph" "record_of" [.ref p, .int (j : Nat)] [] st).W Q E
structure ParaM (Φ : Prog) : Prop where
  h1 : Φ.has "Paragraph" "record_of" = true
  h2 : Φ.has "Paragraph" "need_number" = true
  h3 : Φ.has "Paragraph" "contents" = true
  h4 : Φ.has "Paragraph" "character" = true
theorem iR1 {Φ : Prog} {n : Nat} {ts : List Tok} {txt pl : List Nat} {base : Bool} (M : ParaM Φ) : insO Φ.has "record_of" (some (paraH n ts txt base pl)) = some "Paragraph" := by simp [paraH, M.h1, List.lookup]
theorem iR2 {Φ : Prog} {n : Nat} {ts : List Tok} {txt pl : List Nat} {base : Bool} (M : ParaM Φ) : insO Φ.has "need_number" (some (paraH n ts txt base pl)) = some "Paragraph" := by simp [paraH, M.h2, List.lookup]
theorem iR3 {Φ : Prog} {n : Nat} {ts : List Tok} {txt pl : List Nat} {base : Bool} (M : ParaM Φ) : insO Φ.has "contents" (some (paraH n ts txt base pl)) = some "Paragraph" := by simp [paraH, M.h3, List.lookup]
theorem iR4 {Φ : Prog} {n : Nat} {ts : List Tok} {txt pl : List Nat} {base : Bool} (M : ParaM Φ) : insO Φ.has "character" (some (paraH n ts txt base pl)) = some "Paragraph" := by simp [paraH, M.h4, List.lookup]
theorem contents_body {Φ : Prog} {Wf : Nat} (C : ParaC Φ) (M : ParaM Φ) (hr : RecOfOk Φ) {st : Store} {p j : Nat} {ts : List Tok} {txt pl hom : List Nat} {base : Bool} {bs : List Blk} {b : Blk} (hp : ParaAt st p ts txt base pl hom bs) (hb : bs[j]? = some b) {Q : D → Store → Prop} {E : Exn → Store → Prop} (h : Q (.frz (b.con.map Cn.d)) st) :
    (bodyR Φ Wf P.m_Paragraph_contents [.ref p, .int (j : Nat)] st).W Q E := by
  apply body_W
  have hj : j < bs.length := (List.getElem?_eq_some_iff.mp hb).1
  simp [P.m_Paragraph_contents, startE, hp.g0, iR1 M]
  refine hr hp hj ?_
  simp [hp.gi j b hb, bf6 C, hp.gc j b hb, Blk.cn, fin]
  rw [gcs_keep (by simp only [refsD]; exact refsL_mono (Nat.zero_le _) refsL_cn)]
  exact h
def ContOk (Φ : Prog) : Prop := ∀ {st : Store} {p j : Nat} {ts : List Tok} {txt pl hom : List Nat} {base : Bool} {bs : List Blk} {b : Blk} {Q : D → Store → Prop} {E : Exn → Store → Prop}, ParaAt st p ts txt base pl hom bs → bs[j]? = some b → Q (.frz (b.con.map Cn.d)) st → (Φ.call "Paragraph" "contents" [.ref p, .int (j : Nat)] [] st).W Q E
theorem need_number_body {Φ : Prog} {Wf : Nat} (C : ParaC Φ) (hi : IsIntOk Φ) {st : Store} {p j : Nat} {ts : List Tok} {txt pl hom : List Nat} {base : Bool} {bs : List Blk} (hp : ParaAt st p ts txt base pl hom bs) (hj : j < hom.length) {Q : D → Store → Prop} {E : Exn → Store → Prop} (h : Q .non st) :
    (bodyR Φ Wf P.m_Paragraph_need_number [.ref p, .int (j : Nat)] st).W Q E := by
  apply body_W
  simp [P.m_Paragraph_need_number, startE, hp.g0, pf6 C, hp.g2, lenO_hom]
  refine hi ?_
  have e1 : (j : Int) ≤ (hom.length : Int) - 1 := by omega
  simp [e1, fin]
  exact h
def NeedNumOk (Φ : Prog) : Prop := ∀ {st : Store} {p j : Nat} {ts : List Tok} {txt pl hom : List Nat} {base : Bool} {bs : List Blk} {Q : D → Store → Prop} {E : Exn → Store → Prop}, ParaAt st p ts txt base pl hom bs → j < hom.length → Q .non st → (Φ.call "Paragraph" "need_number" [.ref p, .int (j : Nat)] [] st).W Q E
theorem character_body {Φ : Prog} {Wf : Nat} (C : ParaC Φ) (M : ParaM Φ) (hn : NeedNumOk Φ) {st : Store} {p j c : Nat} {ts : List Tok} {txt pl hom : List Nat} {base : Bool} {bs : List Blk} (hp : ParaAt st p ts txt base pl hom bs) (hj : j < hom.length) (hc : pl[j]? = some c) (hl : pl.length ≤ LIM) {Q : D → Store → Prop} {E : Exn → Store → Prop} (h : Q (.str [c]) st) :
    (bodyR Φ Wf P.m_Paragraph_character [.ref p, .int (j : Nat)] st).W Q E := by
  apply body_W
  simp [P.m_Paragraph_character, startE, hp.g0, iR2 M]
  refine hn hp hj ?_
  simp [hp.g0, pf4 C, getI_nat, hc, hl, fin]
  exact h
def CharAtOk (Φ : Prog) : Prop := ∀ {st : Store} {p j c : Nat} {ts : List Tok} {txt pl hom : List Nat} {base : Bool} {bs : List Blk} {Q : D → Store → Prop} {E : Exn → Store → Prop}, ParaAt st p ts txt base pl hom bs → j < hom.length → pl[j]? = some c → pl.length ≤ LIM → Q (.str [c]) st → (Φ.call "Paragraph" "character" [.ref p, .int (j : Nat)] [] st).W Q E
/-! ### kinds -/
inductive Kd where
  | ltr | rtl | dig | sep | neu
  deriving DecidableEq, Repr, Inhabited
def Kd.s : Kd → List Nat
  | .ltr => [108, 116, 114]
  | .rtl => [114, 116, 108]
  | .dig => [100, 105, 103, 105, 116]
  | .sep => [115, 101, 112, 97, 114, 97, 116, 111, 114]
  | .neu => [110, 101, 117, 116, 114, 97, 108]
def kdC (c : Nat) : Kd := if 97 ≤ c ∧ c ≤ 122 then .ltr else if 65 ≤ c ∧ c ≤ 90 then .rtl else if 48 ≤ c ∧ c ≤ 57 then .dig else if c = 46 ∨ c = 44 then .sep else .neu
def zA : List Nat := [97, 98, 99, 100, 101, 102, 103, 104, 105, 106, 107, 108, 109, 110, 111, 112, 113, 114, 115, 116, 117, 118, 119, 120, 121, 122]
def zB : List Nat := [65, 66, 67, 68, 69, 70, 71, 72, 73, 74, 75, 76, 77, 78, 79, 80, 81, 82, 83, 84, 85, 86, 87, 88, 89, 90]
def zC : List Nat := [48, 49, 50, 51, 52, 53, 54, 55, 56, 57]
def zD : List Nat := [46, 44]
theorem mA {c : Nat} : c ∈ zA ↔ 97 ≤ c ∧ c ≤ 122 := by simp [zA]; omega
theorem mB {c : Nat} : c ∈ zB ↔ 65 ≤ c ∧ c ≤ 90 := by simp [zB]; omega
theorem mC {c : Nat} : c ∈ zC ↔ 48 ≤ c ∧ c ≤ 57 := by simp [zC]; omega
theorem mD {c : Nat} : c ∈ zD ↔ c = 46 ∨ c = 44 := by simp [zD]
structure KindG (Φ : Prog) : Prop where
  a : Φ.glob "SMALL" = some (.str zA)
  b : Φ.glob "CAPITAL" = some (.str zB)
  c : Φ.glob "DIGITS" = some (.str zC)
  d : Φ.glob "SEPARATORS" = some (.str zD)
theorem need_character_body {Φ : Prog} {Wf : Nat} (hc : IsCharOk Φ) {c : Nat} (h1 : isC c = true) {st : Store} {Q : D → Store → Prop} {E : Exn → Store → Prop} (h : Q .non st) : (bodyR Φ Wf P.f_need_character [.str [c]] st).W Q E := by
  apply body_W
  simp [P.f_need_character, startE]
  refine hc ?_
  simp [h1, fin]
  exact h
def NeedChOk (Φ : Prog) : Prop := ∀ {c : Nat} {st : Store} {Q : D → Store → Prop} {E : Exn → Store → Prop}, isC c = true → Q .non st → (Φ.call "" "need_character" [.str [c]] [] st).W Q E
theorem forL_cons {src : List Nat} {f : D → Env → Store → Out} {P : Post} {d : D} {r : List D} {σ : Env} {st : Store}
    (h : (f d σ st).W { nx := fun σ' st' => src.all (fun n => st'[n]? == st[n]?) = true ∧ (forL src f r σ' st').W P, rt := P.rt, bk := P.nx, ct := fun σ' st' => src.all (fun n => st'[n]? == st[n]?) = true ∧ (forL src f r σ' st').W P, ex := P.ex }) : (forL src f (d :: r) σ st).W P := by
  unfold forL
  cases c : f d σ st with
  | nx σ' st' =>
    rw [c] at h
    dsimp only
    rw [if_pos h.1]
    exact h.2
  | ct σ' st' =>
    rw [c] at h
    dsimp only
    rw [if_pos h.1]
    exact h.2
  | rt d' st' => rw [c] at h; exact h
  | bk σ' st' => rw [c] at h; exact h
  | ex x σ' st' => rw [c] at h; exact h
  | stuck => rw [c] at h; exact h
theorem forL_nil {src : List Nat} {f : D → Env → Store → Out} {P : Post} {σ : Env} {st : Store} (h : P.nx σ st) : (forL src f [] σ st).W P := h
theorem character_kind_body {Φ : Prog} {Wf : Nat} (K : KindG Φ) (hn : NeedChOk Φ) {c : Nat} (h1 : isC c = true) {st : Store} {Q : D → Store → Prop} {E : Exn → Store → Prop} (h : Q (.str (kdC c).s) st) : (bodyR Φ Wf P.f_character_kind [.str [c]] st).W Q E := by
  apply body_W
  simp [P.f_character_kind, startE]
  refine hn h1 ?_
  simp [K.a, K.b, K.c, K.d]
  refine forL_cons ?_
  by_cases c1 : 97 ≤ c ∧ c ≤ 122
  · simp [mA, c1]
    simpa [kdC, c1, fin, Kd.s] using h
  simp only [kdC, c1, if_false] at h
  simp [mA, c1]
  refine forL_cons ?_
  by_cases c2 : 65 ≤ c ∧ c ≤ 90
  · simp [mB, c2]
    simpa [c2, fin, Kd.s] using h
  simp only [c2, if_false] at h
  simp [mB, c2]
  refine forL_cons ?_
  by_cases c3 : 48 ≤ c ∧ c ≤ 57
  · simp [mC, c3]
    simpa [c3, fin, Kd.s] using h
  simp only [c3, if_false] at h
  simp [mC, c3]
  refine forL_cons ?_
  by_cases c4 : c = 46 ∨ c = 44
  · simp [mD, c4]
    simpa [c4, fin, Kd.s] using h
  simp only [c4, if_false] at h
  simp [mD, c4]
  refine forL_nil ?_
  simp [fin]
  exact h
def KindOk (Φ : Prog) : Prop := ∀ {c : Nat} {st : Store} {Q : D → Store → Prop} {E : Exn → Store → Prop}, isC c = true → Q (.str (kdC c).s) st → (Φ.call "" "character_kind" [.str [c]] [] st).W Q E
/-- a content's kind -/
inductive Kn where
  | k (x : Kd) | iso | mk
  deriving DecidableEq, Repr, Inhabited
def Kn.s : Kn → List Nat
  | .k x => x.s
  | .iso => sIso
  | .mk => sMark
def kn (pl : List Nat) : Cn → Kn
  | .ch i => .k (kdC ((pl[i]?).getD 0))
  | .iso _ => .iso
  | .mk _ => .mk
theorem content_kind_body {Φ : Prog} {Wf : Nat} (M : ParaM Φ) (hk : KindOk Φ) (hc : CharAtOk Φ) {x : Cn} {st : Store} {p : Nat} {ts : List Tok} {txt pl hom : List Nat} {base : Bool} {bs : List Blk} (hp : ParaAt st p ts txt base pl hom bs) (hl : pl.length ≤ LIM) (hh : hom.length = pl.length) (hx : ∀ i, x = .ch i → i < pl.length) (hi : ∀ c ∈ pl, isC c = true) {Q : D → Store → Prop} {E : Exn → Store → Prop} (h : Q (.str (kn pl x).s) st) : (bodyR Φ Wf P.f_content_kind [.ref p, x.d] st).W Q E := by
  apply body_W
  cases x with
  | ch i =>
    have il := hx i rfl
    have ic : pl[i]? = some pl[i] := List.getElem?_eq_getElem il
    simp [P.f_content_kind, startE, Cn.d, hp.g0, iR4 M]
    refine hc hp (by omega) ic hl ?_
    refine hk (hi _ (List.getElem_mem il)) ?_
    simp [kn, Kn.s, ic] at h
    simp [fin]
    exact h
  | iso b =>
    simp [P.f_content_kind, startE, Cn.d, fin]
    exact h
  | mk d =>
    simp [P.f_content_kind, startE, Cn.d, fin]
    exact h
def ContKOk (Φ : Prog) : Prop := ∀ {x : Cn} {st : Store} {p : Nat} {ts : List Tok} {txt pl hom : List Nat} {base : Bool} {bs : List Blk} {Q : D → Store → Prop} {E : Exn → Store → Prop}, ParaAt st p ts txt base pl hom bs → pl.length ≤ LIM → hom.length = pl.length → (∀ i, x = .ch i → i < pl.length) → (∀ c ∈ pl, isC c = true) → Q (.str (kn pl x).s) st → (Φ.call "" "content_kind" [.ref p, x.d] [] st).W Q E
end PV
set_option Elab.async false
set_option linter.all false
set_option maxRecDepth 10000
set_option maxHeartbeats 4000000
/-! PvNum: numbers in a block's contents; the items of a block. -/
namespace PV
abbrev sDig : List Nat := [100, 105, 103, 105, 116]
abbrev sSep : List Nat := [115, 101, 112, 97, 114, 97, 116, 111, 114]
def Kn.d (x : Kn) : D := .str x.s
theorem kn_inj {a b : Kn} : a.s = b.s ↔ a = b := by
  constructor
  · intro h
    cases a with
    | k x => cases b with
      | k y => cases x <;> cases y <;> first | rfl | (exfalso; revert h; decide)
      | _ => cases x <;> (exfalso; revert h; decide)
    | iso => cases b with
      | k y => cases y <;> (exfalso; revert h; decide)
      | iso => rfl
      | mk => exfalso; revert h; decide
    | mk => cases b with
      | k y => cases y <;> (exfalso; revert h; decide)
      | mk => rfl
      | iso => exfalso; revert h; decide
  · rintro rfl
    rfl
theorem pure_kn {a : List Kn} : puresD (a.map Kn.d) = true := by
  induction a with
  | nil => rfl
  | cons x r ih =>
    have : pureD x.d = true := by cases x with
      | k y => cases y <;> decide
      | _ => decide
    simp [puresD, this, ih]
theorem dep_kn {a : List Kn} : depDs (a.map Kn.d) = 0 := by
  induction a with
  | nil => rfl
  | cons x r ih => simp [depDs, depD, Kn.d, ih]
theorem eqD_kn {a b : List Kn} : eqDs (a.map Kn.d) (b.map Kn.d) = decide (a = b) := by
  induction a generalizing b with
  | nil => cases b <;> simp [eqDs]
  | cons x r ih => cases b with
    | nil => simp [eqDs]
    | cons y s =>
      have : eqD x.d y.d = decide (x = y) := by
        rw [show eqD x.d y.d = (x.s == y.s) from by simp [Kn.d, eqD, eqF]]
        by_cases h : x = y
        · subst h
          simp
        · have : ¬ x.s = y.s := fun e => h (kn_inj.mp e)
          simp [h, this]
      simp [eqDs, this, ih]
theorem eq_kn {a b : List Kn} {st : Store} : cmpR .eq (.frz (a.map Kn.d)) (.frz (b.map Kn.d)) st = .ok (.bl (decide (a = b))) st := by
  rw [eqR_pure rfl (by simp [look, pureD, pure_kn]) (by simp [look, pureD, pure_kn]) (by simp [look, depD, dep_kn]) (by simp [look, depD, dep_kn])]
  simp [look, eqD, eqD_kn]
abbrev kDig : Kn := .k .dig
abbrev kSep : Kn := .k .sep
def numT : List Kn → Nat
  | [] => 0
  | k :: r => if k = kDig then numT r + 1 else if k = kSep then (match r with
    | d :: r' => if d = kDig then numT r' + 2 else 0
    | [] => 0) else 0
theorem numT_1 {l : List Kn} (h : l.take 1 = [kDig]) : numT l = numT (l.drop 1) + 1 ∧ 1 ≤ l.length := by
  cases l with
  | nil => cases h
  | cons x r =>
    simp at h
    subst h
    refine ⟨?_, by simp⟩
    rw [numT.eq_def]
    simp
theorem numT_2 {l : List Kn} (h : l.take 2 = [kSep, kDig]) : numT l = numT (l.drop 2) + 2 ∧ 2 ≤ l.length := by
  match l, h with
  | [x], h => simp at h
  | x :: y :: r, h =>
    simp at h
    obtain ⟨rfl, rfl⟩ := h
    simp [numT]
theorem numT_0 {l : List Kn} (h1 : ¬ l.take 1 = [kDig]) (h2 : ¬ l.take 2 = [kSep, kDig]) : numT l = 0 := by
  match l, h1, h2 with
  | [], _, _ => rfl
  | [x], h1, h2 =>
    simp at h1
    simp [numT, h1]
  | x :: y :: r, h1, h2 =>
    simp at h1 h2
    simp [numT, h1]
    exact h2
def nsI (st : Store) (ks : List Kn) (start m : Nat) (σ : Env) (S : Store) : Prop := ∃ stop : Nat, start + 1 ≤ stop ∧ start + 1 + numT (ks.drop (start + 1)) = stop + numT (ks.drop stop) ∧ m = ks.length + 1 - stop ∧ stop ≤ ks.length ∧ S = st ∧
  σ = [some (.frz (ks.map Kn.d)), some (.int (start : Nat)), some (.int (stop : Nat))]
theorem number_stop_body {Φ : Prog} {Wf : Nat} {ks : List Kn} {start : Nat} (hs : start < ks.length) (hl : ks.length ≤ 10000) (hw : ks.length + 2 < Wf) {st : Store} {Q : D → Store → Prop} {E : Exn → Store → Prop} (h : Q (.int ((start + 1 + numT (ks.drop (start + 1)) : Nat) : Int)) st) : (bodyR Φ Wf P.f_number_stop [.frz (ks.map Kn.d), .int (start : Nat)] st).W Q E := by
  apply body_W
  simp [P.f_number_stop, startE]
  refine while_W (nsI st ks start) ?_ (m := ks.length + 1 - (start + 1)) ⟨start + 1, Nat.le_refl _, rfl, rfl, by omega, rfl, by simp⟩ (by omega)
  rintro m σ S ⟨stop, p1, p2, rfl, p4, rfl, rfl⟩
  have c1 : cut (ks.map Kn.d) (some (stop : Int)) (some ((stop : Int) + 1)) = ((ks.drop stop).take 1).map Kn.d := by
    have := cut_nat (xs := ks.map Kn.d) (lo := stop) (hi := stop + 1)
    simpa [List.map_drop, List.map_take] using this
  have c2 : cut (ks.map Kn.d) (some (stop : Int)) (some ((stop : Int) + 2)) = ((ks.drop stop).take 2).map Kn.d := by
    have := cut_nat (xs := ks.map Kn.d) (lo := stop) (hi := stop + 2)
    simpa [List.map_drop, List.map_take] using this
  have d1 : [D.str [100, 105, 103, 105, 116]] = [kDig].map Kn.d := rfl
  have d2 : [D.str [115, 101, 112, 97, 114, 97, 116, 111, 114], D.str [100, 105, 103, 105, 116]] = [kSep, kDig].map Kn.d := rfl
  have e1 : ∀ st : Store, cmpR .eq (.frz (cut (ks.map Kn.d) (some (stop : Int)) (some ((stop : Int) + 1)))) (.frz [D.str [100, 105, 103, 105, 116]]) st = .ok (.bl (decide ((ks.drop stop).take 1 = [kDig]))) st := fun st => by rw [c1, d1, eq_kn]
  have e2 : ∀ st : Store, cmpR .eq (.frz (cut (ks.map Kn.d) (some (stop : Int)) (some ((stop : Int) + 2)))) (.frz [D.str [115, 101, 112, 97, 114, 97, 116, 111, 114], D.str [100, 105, 103, 105, 116]]) st = .ok (.bl (decide ((ks.drop stop).take 2 = [kSep, kDig]))) st := fun st => by rw [c2, d2, eq_kn]
  clear c1 c2 d1 d2
  by_cases h1 : (ks.drop stop).take 1 = [kDig]
  · obtain ⟨n1, n2⟩ := numT_1 h1
    simp only [List.length_drop, List.drop_drop] at n1 n2
    simp [e1, h1, mk]
    exact ⟨ks.length + 1 - (stop + 1), by omega, stop + 1, by omega, by rw [p2, n1]; omega, rfl, by omega, rfl, by simp⟩
  by_cases h2 : (ks.drop stop).take 2 = [kSep, kDig]
  · obtain ⟨n1, n2⟩ := numT_2 h2
    simp only [List.length_drop, List.drop_drop] at n1 n2
    simp [e1, h1, e2, h2, mk]
    exact ⟨ks.length + 1 - (stop + 2), by omega, stop + 2, by omega, by rw [p2, n1]; omega, rfl, by omega, rfl, by simp⟩
  · have n0 := numT_0 h1 h2
    simp [e1, h1, e2, h2, mk, fin]
    rw [p2, n0, Nat.add_zero] at h
    exact h
def NumStopOk (Φ : Prog) : Prop := ∀ {ks : List Kn} {start : Nat} {st : Store} {Q : D → Store → Prop} {E : Exn → Store → Prop}, start < ks.length → ks.length ≤ 10000 → Q (.int ((start + 1 + numT (ks.drop (start + 1)) : Nat) : Int)) st → (Φ.call "" "number_stop" [.frz (ks.map Kn.d), .int (start : Nat)] [] st).W Q E
end PV
set_option Elab.async false
set_option linter.all false
set_option maxRecDepth 10000
set_option maxHeartbeats 4000000
/-! PvItm: the items of a block. -/
namespace PV
inductive It where
  | num (a b : Nat) | lt (i : Nat) | ne (i : Nat) | iso (b : Nat) | mk (d : Bool)
  deriving DecidableEq, Repr, Inhabited
abbrev sNumber : List Nat := [110, 117, 109, 98, 101, 114]
abbrev sLetter : List Nat := [108, 101, 116, 116, 101, 114]
abbrev sNeutral : List Nat := [110, 101, 117, 116, 114, 97, 108]
def It.d : It → D
  | .num a b => .tup [.str sNumber, .tup [.int (a : Nat), .int (b : Nat)]]
  | .lt i => .tup [.str sLetter, .int (i : Nat)]
  | .ne i => .tup [.str sNeutral, .int (i : Nat)]
  | .iso b => .tup [.str sIso, .int (b : Nat)]
  | .mk d => .tup [.str sMark, .str (dirS d)]
def oneI (pl : List Nat) : Cn → It
  | .ch i => if kn pl (.ch i) = .k .ltr ∨ kn pl (.ch i) = .k .rtl then .lt i else .ne i
  | .iso b => .iso b
  | .mk d => .mk d
def Cn.i : Cn → Nat
  | .ch i => i
  | _ => 0
def itemsF (pl : List Nat) : Nat → List Cn → List It
  | 0, _ => []
  | _ + 1, [] => []
  | n + 1, x :: r => if kn pl x = kDig then .num x.i (x.i + 1 + numT (r.map (kn pl))) :: itemsF pl n (r.drop (numT (r.map (kn pl)))) else oneI pl x :: itemsF pl n r
theorem itemsF_fuel {pl : List Nat} : ∀ {n m : Nat} {l : List Cn}, l.length ≤ n → l.length ≤ m → itemsF pl n l = itemsF pl m l
  | 0, 0, _, _, _ => rfl
  | 0, m + 1, [], _, _ => rfl
  | 0, m + 1, x :: r, h, _ => by simp at h
  | n + 1, 0, [], _, _ => rfl
  | n + 1, 0, x :: r, _, h => by simp at h
  | n + 1, m + 1, [], _, _ => rfl
  | n + 1, m + 1, x :: r, h1, h2 => by
    simp at h1 h2
    simp only [itemsF]
    rw [itemsF_fuel (n := n) (m := m) (l := r) h1 h2, itemsF_fuel (n := n) (m := m) (l := r.drop _) (by simp; omega) (by simp; omega)]
/-- the items of a block -/
def itemsP (pl : List Nat) (con : List Cn) : List It := itemsF pl con.length con
theorem numT_le : ∀ {l : List Kn}, numT l ≤ l.length
  | [] => Nat.le_refl _
  | [x] => by
    rw [numT.eq_def]
    simp [numT]
    split <;> simp
  | x :: y :: r => by
    have h1 := numT_le (l := y :: r)
    have h2 := numT_le (l := r)
    rw [numT.eq_def]
    simp at h1 ⊢
    split
    · omega
    · split
      · split <;> omega
      · omega
theorem refs_it {l : List It} : refsL 0 (l.map It.d) = true := by
  induction l with
  | nil => rfl
  | cons x r ih => cases x <;> simp [refsL, refsD, It.d, ih]
theorem itemsP_num {pl : List Nat} {x : Cn} {r : List Cn} (h : kn pl x = kDig) : itemsP pl (x :: r) = .num x.i (x.i + 1 + numT (r.map (kn pl))) :: itemsP pl (r.drop (numT (r.map (kn pl)))) := by
  show itemsF pl (r.length + 1) (x :: r) = _
  rw [itemsF, if_pos h, itemsP, itemsF_fuel (n := r.length) (by simp) (Nat.le_refl _)]
theorem itemsP_one {pl : List Nat} {x : Cn} {r : List Cn} (h : ¬ kn pl x = kDig) : itemsP pl (x :: r) = oneI pl x :: itemsP pl r := by
  show itemsF pl (r.length + 1) (x :: r) = _
  rw [itemsF, if_neg h]
  rfl
theorem eq_kd {x : Kn} {st : Store} : cmpR .eq x.d (.str [100, 105, 103, 105, 116]) st = .ok (.bl (decide (x = kDig))) st := by
  cases x with
  | k y => cases y <;> rfl
  | iso => rfl
  | mk => rfl
def itmI (st : Store) (p j : Nat) (pl : List Nat) (con : List Cn) (m : Nat) (σ : Env) (S : Store) : Prop := ∃ (k : Nat) (fs : List It) (o6 o7 o8 : Option D), k ≤ con.length ∧ fs ++ itemsP pl (con.drop k) = itemsP pl con ∧ fs.length ≤ k ∧ m = con.length - k ∧ S = st ++ [.lst (fs.map It.d)] ∧
  σ = [some (.ref p), some (.int (j : Nat)), some (.frz (con.map Cn.d)), some (.frz ((con.map (kn pl)).map Kn.d)), some (.ref st.length), some (.int (k : Nat)), o6, o7, o8]
theorem items_body {Φ : Prog} {Wf : Nat} {frz : Bool} (M : ParaM Φ) (hnp : ∀ {p : Nat} {st : Store} {ts : List Tok} {txt pl : List Nat} {base : Bool} {Q : D → Store → Prop} {E : Exn → Store → Prop}, st[p]? = some (paraH p ts txt base pl) → Q .non st → (Φ.call "" "need_paragraph" [.ref p] [] st).W Q E)
    (hct : ContOk Φ) (hck : ContKOk Φ) (hns : NumStopOk Φ) {st : Store} {p j : Nat} {ts : List Tok} {txt pl hom : List Nat} {base : Bool} {bs : List Blk} {b : Blk} (hp : ParaAt st p ts txt base pl hom bs) (hb : bs[j]? = some b) (hl : pl.length ≤ LIM) (hh : hom.length = pl.length) (hx : ∀ i, Cn.ch i ∈ b.con → i < pl.length) (hi : ∀ c ∈ pl, isC c = true) (hcl : b.con.length ≤ 10000) (hw : b.con.length + 2 < Wf) {Q : D → Store → Prop} {E : Exn → Store → Prop}
    (h : Q (gc frz st (st ++ [.lst ((itemsP pl b.con).map It.d)]) (.ref st.length)).1 (gc frz st (st ++ [.lst ((itemsP pl b.con).map It.d)]) (.ref st.length)).2) : (bodyR Φ Wf { P.f_items with frz := frz } [.ref p, .int (j : Nat)] st).W Q E := by
  apply body_W
  have cl : b.con.length ≤ LIM := by unfold LIM; omega
  simp [P.f_items, startE]
  refine hnp hp.g0 ?_
  simp [hp.g0, iR3 M]
  refine hct hp hb ?_
  simp
  refine comp_map (α := Cn) Cn.d (fun x => (kn pl x).d) (fun x => x ∈ b.con) (fun x acc R hx' hR => ?_) (fun x hx' => hx') ?_
  · simp [turnC, wipe]
    refine hck hp hl hh (fun i e => hx i (by rw [← e]; exact hx')) hi ?_
    simpa [Kn.d] using hR
  simp [mkL, cl]
  refine while_W (itmI st p j pl b.con) ?_ (m := b.con.length) ⟨0, [], _, _, _, Nat.zero_le _, rfl, Nat.le_refl _, rfl, rfl, by simp; exact ⟨rfl, rfl, rfl⟩⟩ (by omega)
  rintro m σ S ⟨k, fs, o6, o7, o8, p1, p2, p3, rfl, rfl, rfl⟩
  have fl : fs.length < LIM := by unfold LIM; omega
  by_cases hk : k < b.con.length
  · have hk' : (k : Int) < (b.con.length : Int) := by omega
    have gk : (b.con.map Cn.d)[k]? = some b.con[k].d := by simp [hk]
    have gk2 : ((b.con.map (kn pl)).map Kn.d)[k]? = some (kn pl b.con[k]).d := by simp [hk]
    have dk : b.con.drop k = b.con[k] :: b.con.drop (k + 1) := List.drop_eq_getElem_cons hk
    have hin : b.con[k] ∈ b.con := List.getElem_mem hk
    simp only [List.map_map] at gk2
    generalize b.con[k] = x at gk gk2 dk hin
    simp [hk', getI_nat, gk, gk2]
    have cu : ∀ (it : It) (r' : List Cn) (k' : Nat) (o6 o7 o8 : Option D), itemsP pl (b.con.drop k) = it :: itemsP pl (b.con.drop k') → k < k' → k' ≤ b.con.length → ∃ m', m' < b.con.length - k ∧ itmI st p j pl b.con m' [some (.ref p), some (.int (j : Nat)), some (.frz (b.con.map Cn.d)), some (.frz ((b.con.map (kn pl)).map Kn.d)), some (.ref st.length), some (.int (k' : Nat)), o6, o7, o8] (st ++ [.lst (fs.map It.d ++ [it.d])]) := fun it r' k' o6 o7 o8 q1 q2 q3 =>
      ⟨b.con.length - k', by omega, k', fs ++ [it], o6, o7, o8, q3, by rw [← p2, q1]; simp, by simp; omega, rfl, by simp, rfl⟩
    by_cases hd : kn pl x = kDig
    · cases x with
      | ch i =>
        rw [dk, itemsP_num hd] at cu
        simp [eq_kd, hd]
        rw [← List.map_map]
        refine hns (by simpa using hk) (by simpa using hcl) ?_
        rw [← List.map_drop]
        have tl := numT_le (l := (b.con.drop (k + 1)).map (kn pl))
        simp at tl
        simp [eq_kd, hd, Cn.d, fl]
        have z := cu (.num i (i + 1 + numT ((b.con.drop (k + 1)).map (kn pl)))) [] (k + 1 + numT ((b.con.drop (k + 1)).map (kn pl))) (some (.int ((k : Int) + 1 + numT ((b.con.drop (k + 1)).map (kn pl))))) (some (.tup [.str sChar, .int (i : Nat)])) (some kDig.d) (by simp [Cn.i]) (by omega) (by simp; omega)
        simp [It.d] at z
        generalize numT (List.drop (k + 1) (List.map (kn pl) b.con)) = T at z ⊢
        have ei : (i : Int) + ((k : Int) + 1 + (T : Int)) - (k : Int) = (i : Int) + 1 + (T : Int) := by omega
        rw [ei]
        exact z
      | _ => simp [kn] at hd
    · rw [dk, itemsP_one hd] at cu
      cases x with
      | ch i =>
        simp [eq_kd, hd, Cn.d, fl]
        have hkn : kn pl (.ch i) = .k (kdC ((pl[i]?).getD 0)) := rfl
        generalize kdC ((pl[i]?).getD 0) = kd at hkn
        rw [hkn] at hd ⊢
        have z := cu (oneI pl (.ch i)) [] (k + 1) (some (.int ((k : Int) + 1))) (some (.tup [.str sChar, .int (i : Nat)])) (some (Kn.k kd).d) rfl (by omega) (by omega)
        cases kd <;> simp [oneI, hkn, It.d] at z <;> simp [Kn.d, Kn.s, Kd.s, flat, eqF, fl] <;> first | exact z | exact absurd rfl hd
      | iso c =>
        simp [eq_kd, hd, Cn.d, fl]
        have z := cu (oneI pl (.iso c)) [] (k + 1) (some (.int ((k : Int) + 1))) (some (.tup [.str sIso, .int (c : Nat)])) (some (kn pl (.iso c)).d) rfl (by omega) (by omega)
        simp [oneI, It.d] at z
        exact z
      | mk c =>
        simp [eq_kd, hd, Cn.d, fl]
        have z := cu (oneI pl (.mk c)) [] (k + 1) (some (.int ((k : Int) + 1))) (some (.tup [.str sMark, .str (dirS c)])) (some (kn pl (.mk c)).d) rfl (by omega) (by omega)
        simp [oneI, It.d] at z
        exact z
  · have hk' : ¬ (k : Int) < (b.con.length : Int) := by omega
    simp [hk', fin]
    have : b.con.drop k = [] := List.drop_eq_nil_of_le (by omega)
    rw [this] at p2
    simp [itemsP, itemsF] at p2
    rw [p2]
    exact h
end PV
set_option Elab.async false
set_option linter.all false
set_option maxRecDepth 10000
set_option maxHeartbeats 4000000
/-! PvLwI: the laws' own items. -/
namespace LB
open PV
theorem lkind_body {Φ : Prog} {Wf : Nat} {c : Nat} {st : Store} {Q : D → Store → Prop} {E : Exn → Store → Prop} (h : Q (.str (kdC c).s) st) : (bodyR Φ Wf P.fddlaw_kind [.str [c]] st).W Q E := by
  apply body_W
  simp [P.fddlaw_kind, startE]
  by_cases a1 : 97 ≤ c
  · by_cases a2 : c ≤ 122
    · simp [a1, a2]
      simpa [kdC, a1, a2, fin, Kd.s] using h
    · have b1 : 65 ≤ c := by omega
      have b2 : ¬ c ≤ 90 := by omega
      have b3 : 48 ≤ c := by omega
      have b4 : ¬ c ≤ 57 := by omega
      have b5 : ¬ c = 46 := by omega
      have b6 : ¬ c = 44 := by omega
      simp [a1, a2, b1, b2, b3, b4, b5, b6]
      simpa [kdC, a1, a2, b1, b2, b3, b4, b5, b6, fin, Kd.s] using h
  by_cases a3 : 65 ≤ c
  · by_cases a4 : c ≤ 90
    · simp [a1, a3, a4]
      simpa [kdC, a1, a3, a4, fin, Kd.s] using h
    · have b3 : 48 ≤ c := by omega
      have b4 : ¬ c ≤ 57 := by omega
      have b5 : ¬ c = 46 := by omega
      have b6 : ¬ c = 44 := by omega
      simp [a1, a3, a4, b3, b4, b5, b6]
      simpa [kdC, a1, a3, a4, b3, b4, b5, b6, fin, Kd.s] using h
  by_cases a5 : 48 ≤ c
  · by_cases a6 : c ≤ 57
    · simp [a1, a3, a5, a6]
      simpa [kdC, a1, a3, a5, a6, fin, Kd.s] using h
    · have b5 : ¬ c = 46 := by omega
      have b6 : ¬ c = 44 := by omega
      simp [a1, a3, a5, a6, b5, b6]
      simpa [kdC, a1, a3, a5, a6, b5, b6, fin, Kd.s] using h
  by_cases a7 : c = 46 ∨ c = 44
  · simp [a1, a3, a5, a7]
    simpa [kdC, a1, a3, a5, a7, fin, Kd.s] using h
  · simp [a1, a3, a5, a7]
    simpa [kdC, a1, a3, a5, a7, fin, Kd.s] using h
def LKindOk (Φ : Prog) : Prop := ∀ {c : Nat} {st : Store} {Q : D → Store → Prop} {E : Exn → Store → Prop}, Q (.str (kdC c).s) st → (Φ.call "" "_law_kind" [.str [c]] [] st).W Q E
structure ModAt (st : Store) (n : Nat) (s : MS) : Prop where
  g0 : st[n]? = some (mSg s.ss)
  g3 : st[n + 3]? = some (mBl n s.ms.length)
  g4 : st[n + 4]? = some (mDc n)
  gi : ∀ (j : Nat) (b : Mb), s.ms[j]? = some b → st[cR n j + 1]? = some (mI n j b)
  gc : ∀ (j : Nat) (b : Mb), s.ms[j]? = some b → st[cR n j]? = some (mc b)
theorem modS_at {pre : Store} {n : Nat} {s : MS} (hp : pre.length = n) (h : s.ms ≠ []) : ModAt (pre ++ s.S n) n s :=
  ⟨mg0 hp h, mg3 hp h, mg4 hp h, fun j b q => mgi hp q, fun j b q => mgc hp q⟩
theorem ModAt.app {st l : Store} {n : Nat} {s : MS} (h : ModAt st n s) : ModAt (st ++ l) n s :=
  ⟨get_app h.g0, get_app h.g3, get_app h.g4, fun j b q => get_app (h.gi j b q), fun j b q => get_app (h.gc j b q)⟩
def enF (k : Nat) (xs : List D) : List D := (xs.zipIdx k).map fun p => .tup [.int (p.2 : Nat), p.1]
theorem enF_cons {k : Nat} {x : D} {r : List D} : enF k (x :: r) = .tup [.int (k : Nat), x] :: enF (k + 1) r := by simp [enF, List.zipIdx_cons]
/-- where the laws' grouping stands -/
def LInv (pl : List Nat) (con : List Cn) (k : Nat) (fs : List It) (jn : Bool) : Prop :=
  (jn = false ∧ fs ++ itemsP pl (con.drop k) = itemsP pl con ∧ (∀ x, 1 ≤ k → con[k - 1]? = some x → ¬ kn pl x = kDig)) ∨
  (jn = true ∧ ∃ (fs' : List It) (a i : Nat), fs = fs' ++ [.num a (i + 1)] ∧ 1 ≤ k ∧ con[k - 1]? = some (.ch i) ∧
    fs' ++ .num a (i + 1 + numT ((con.drop k).map (kn pl))) :: itemsP pl (con.drop (k + numT ((con.drop k).map (kn pl)))) = itemsP pl con ∧
    (kn pl (.ch i) = kDig ∨ (kn pl (.ch i) = kSep ∧ ∃ y, con[k]? = some y ∧ kn pl y = kDig)))
/-- a digit at a place -/
def dgA (pl : List Nat) (con : List Cn) (k : Nat) : Bool := match con[k]? with
  | some x => decide (kn pl x = kDig)
  | none => false
def Adj (con : List Cn) : Prop := ∀ k i i', con[k]? = some (.ch i) → con[k + 1]? = some (.ch i') → i' = i + 1
def partA (pl : List Nat) (con : List Cn) (k : Nat) (x : Cn) : Bool := decide (kn pl x = kDig) || (decide (kn pl x = kSep) && ((decide (1 ≤ k) && dgA pl con (k - 1)) && dgA pl con (k + 1)))
theorem kn_ch {pl : List Nat} {x : Cn} {y : Kd} (h : kn pl x = .k y) : ∃ i, x = .ch i := by
  cases x with
  | ch i => exact ⟨i, rfl⟩
  | _ => cases h
theorem part_ch {pl : List Nat} {con : List Cn} {k : Nat} {x : Cn} (h : partA pl con k x = true) : ∃ i, x = .ch i := by
  simp only [partA, Bool.or_eq_true, Bool.and_eq_true, decide_eq_true_eq] at h
  rcases h with h | ⟨h, _⟩ <;> exact kn_ch h
theorem dgA_some {pl : List Nat} {con : List Cn} {k : Nat} {x : Cn} (h : con[k]? = some x) : dgA pl con k = decide (kn pl x = kDig) := by simp [dgA, h]
section
variable {pl : List Nat} {con : List Cn} {k : Nat} {fs : List It} {x : Cn}
theorem numT_dig {x : Kn} {r : List Kn} (h : x = kDig) : numT (x :: r) = numT r + 1 := by
  rw [numT.eq_def]
  simp [h]
theorem numT_oth {x : Kn} {r : List Kn} (h : ¬ x = kDig) (h2 : ¬ x = kSep) : numT (x :: r) = 0 := by
  rw [numT.eq_def]
  simp [h, h2]
theorem numT_sep {x y : Kn} {r : List Kn} (h : x = kSep) (h2 : y = kDig) : numT (x :: y :: r) = numT r + 2 := by
  rw [numT.eq_def]
  simp [h, h2]
theorem numT_sep0 {x : Kn} {r : List Kn} (h : x = kSep) (h2 : ∀ y, r[0]? = some y → ¬ y = kDig) : numT (x :: r) = 0 := by
  rw [numT.eq_def]
  cases r with
  | nil => simp [h]
  | cons y r =>
    have := h2 y rfl
    simp [h, this]
/-- a number goes on -/
theorem L_on (ad : Adj con) (hx : con[k]? = some x) (h : LInv pl con k fs true) (hp : partA pl con k x = true) : ∃ (fs' : List It) (a i : Nat), fs = fs' ++ [.num a (i + 1)] ∧ x = .ch (i + 1) ∧ LInv pl con (k + 1) (fs' ++ [.num a (i + 1 + 1)]) true := by
  rcases h with ⟨h, _⟩ | ⟨_, fs', a, i, rfl, k1, c1, e, q⟩
  · cases h
  obtain ⟨i', rfl⟩ := part_ch hp
  have ei : i' = i + 1 := ad (k - 1) i i' c1 (by rw [show k - 1 + 1 = k by omega]; exact hx)
  subst ei
  refine ⟨fs', a, i, rfl, rfl, .inr ⟨rfl, fs', a, i + 1, rfl, by omega, by simpa using hx, ?_⟩⟩
  have hk : k < con.length := (List.getElem?_eq_some_iff.mp hx).1
  have dk : con.drop k = .ch (i + 1) :: con.drop (k + 1) := by
    rw [List.drop_eq_getElem_cons hk]
    congr 1
    exact (List.getElem?_eq_some_iff.mp hx).2
  rw [dk, List.map_cons] at e
  simp only [partA, Bool.or_eq_true, Bool.and_eq_true, decide_eq_true_eq] at hp
  rcases hp with hd | ⟨hs, ⟨_, hpd⟩, hnd⟩
  · rw [numT_dig hd] at e
    refine ⟨?_, .inl hd⟩
    rw [← e]
    congr 3
    · omega
    · congr 1
      omega
  · obtain ⟨y, y1, y2⟩ : ∃ y, con[k + 1]? = some y ∧ kn pl y = kDig := by
      unfold dgA at hnd
      cases hc : con[k + 1]? with
      | none => rw [hc] at hnd; cases hnd
      | some y => rw [hc] at hnd; exact ⟨y, rfl, by simpa using hnd⟩
    have hk2 : k + 1 < con.length := (List.getElem?_eq_some_iff.mp y1).1
    have dk2 : con.drop (k + 1) = y :: con.drop (k + 1 + 1) := by
      rw [List.drop_eq_getElem_cons hk2]
      congr 1
      exact (List.getElem?_eq_some_iff.mp y1).2
    rw [dk2, List.map_cons, numT_sep hs y2] at e
    refine ⟨?_, .inr ⟨hs, y, y1, y2⟩⟩
    rw [dk2, List.map_cons, numT_dig y2, ← e]
    congr 3
    · omega
    · congr 1
      omega
/-- a number begins -/
theorem L_new (hx : con[k]? = some x) (h : LInv pl con k fs false) (hp : partA pl con k x = true) : ∃ i, x = .ch i ∧ LInv pl con (k + 1) (fs ++ [.num i (i + 1)]) true := by
  rcases h with ⟨_, e, q⟩ | ⟨h, _⟩
  · obtain ⟨i, rfl⟩ := part_ch hp
    have hk : k < con.length := (List.getElem?_eq_some_iff.mp hx).1
    have dk : con.drop k = .ch i :: con.drop (k + 1) := by
      rw [List.drop_eq_getElem_cons hk]
      congr 1
      exact (List.getElem?_eq_some_iff.mp hx).2
    simp only [partA, Bool.or_eq_true, Bool.and_eq_true, decide_eq_true_eq] at hp
    rcases hp with hd | ⟨hs, ⟨h1, hpd⟩, hnd⟩
    · refine ⟨i, rfl, .inr ⟨rfl, fs, i, i, rfl, by omega, by simpa using hx, ?_, .inl hd⟩⟩
      rw [dk, itemsP_num hd, List.drop_drop] at e
      exact e
    · exfalso
      unfold dgA at hpd
      cases hc : con[k - 1]? with
      | none => rw [hc] at hpd; cases hpd
      | some y =>
        rw [hc] at hpd
        exact q y h1 hc (by simpa using hpd)
  · cases h
/-- another item -/
theorem L_one {jn : Bool} (hx : con[k]? = some x) (h : LInv pl con k fs jn) (hp : partA pl con k x = false) : LInv pl con (k + 1) (fs ++ [oneI pl x]) false := by
  have hk : k < con.length := (List.getElem?_eq_some_iff.mp hx).1
  have dk : con.drop k = x :: con.drop (k + 1) := by
    rw [List.drop_eq_getElem_cons hk]
    congr 1
    exact (List.getElem?_eq_some_iff.mp hx).2
  have hd : ¬ kn pl x = kDig := fun e => by simp [partA, e] at hp
  have nx : ∀ y, 1 ≤ k + 1 → con[k + 1 - 1]? = some y → ¬ kn pl y = kDig := fun y _ hy => by
    simp only [Nat.add_sub_cancel] at hy
    rw [hx] at hy
    cases hy
    exact hd
  rcases h with ⟨_, e, q⟩ | ⟨_, fs', a, i, rfl, k1, c1, e, q⟩
  · refine .inl ⟨rfl, ?_, nx⟩
    rw [dk, itemsP_one hd] at e
    rw [← e]
    simp
  · refine .inl ⟨rfl, ?_, nx⟩
    have n0 : numT ((con.drop k).map (kn pl)) = 0 := by
      rw [dk, List.map_cons]
      by_cases hs : kn pl x = kSep
      · refine numT_sep0 hs fun y hy => ?_
        rcases q with q | ⟨_, z, z1, z2⟩
        · have pd : dgA pl con (k - 1) = true := by rw [dgA_some c1]; simpa using q
          have nd : dgA pl con (k + 1) = false := by
            simp [partA, hs, pd, k1] at hp
            exact hp
          have hy' : (con[k + 1]?).map (kn pl) = some y := by
            simpa using hy
          cases hc : con[k + 1]? with
          | none => rw [hc] at hy'; cases hy'
          | some w =>
            rw [hc] at hy'
            cases hy'
            rw [dgA_some hc] at nd
            simpa using nd
        · rw [hx] at z1
          cases z1
          exact absurd z2 hd
      · exact numT_oth hd hs
    rw [n0] at e
    simp only [Nat.add_zero] at e
    rw [dk, itemsP_one hd] at e
    rw [← e]
    simp
theorem L_init : LInv pl con 0 [] false := .inl ⟨rfl, rfl, fun x h => by omega⟩
theorem L_end {jn : Bool} (h : LInv pl con con.length fs jn) : fs = itemsP pl con := by
  rcases h with ⟨_, e, _⟩ | ⟨_, fs', a, i, rfl, k1, c1, e, q⟩
  · simp [itemsP, itemsF] at e
    exact e
  · simp [itemsP, itemsF, numT] at e
    exact e
end
theorem tk1 {pl : List Nat} {con : List Cn} {m : Nat} : decide (((con.map (kn pl)).drop m).take 1 = [kDig]) = dgA pl con m := by
  unfold dgA
  cases h : con[m]? with
  | none =>
    have : con.length ≤ m := by simpa using h
    rw [List.drop_eq_nil_of_le (by simpa using this)]
    simp
  | some x =>
    obtain ⟨h1, h2⟩ := List.getElem?_eq_some_iff.mp h
    rw [List.drop_eq_getElem_cons (by simpa using h1)]
    simp [h2]
def pdA (pl : List Nat) (con : List Cn) (k : Nat) : Bool := decide (1 ≤ k) && dgA pl con (k - 1)
theorem partA_eq {pl : List Nat} {con : List Cn} {k : Nat} {x : Cn} : partA pl con k x = (decide (kn pl x = kDig) || (decide (kn pl x = kSep) && (pdA pl con k && dgA pl con (k + 1)))) := rfl
theorem eqA {pl : List Nat} {con : List Cn} {k : Nat} {st : Store} : cmpR .eq (.frz (cut (con.map (Kn.d ∘ kn pl)) (some (if 1 < (k : Int) then (k : Int) - 1 else 0)) (some (k : Int)))) (.frz [D.str [100, 105, 103, 105, 116]]) st = .ok (.bl (pdA pl con k)) st := by
  unfold pdA
  have e : (if 1 < (k : Int) then (k : Int) - 1 else 0) = ((k - 1 : Nat) : Int) := by split <;> omega
  rw [e, cut_nat, ← List.map_map, ← List.map_drop, ← List.map_take, show [D.str [100, 105, 103, 105, 116]] = [kDig].map Kn.d from rfl, eq_kn]
  by_cases hk : 1 ≤ k
  · rw [show k - (k - 1) = 1 by omega, tk1]
    simp [hk]
  · rw [show k - (k - 1) = 0 by omega]
    simp [hk]
theorem eqB {pl : List Nat} {con : List Cn} {k : Nat} {st : Store} : cmpR .eq (.frz (cut (con.map (Kn.d ∘ kn pl)) (some ((k : Int) + 1)) (some ((k : Int) + 2)))) (.frz [D.str [100, 105, 103, 105, 116]]) st = .ok (.bl (dgA pl con (k + 1))) st := by
  rw [show ((k : Int) + 1) = ((k + 1 : Nat) : Int) by omega, show ((k : Int) + 2) = ((k + 2 : Nat) : Int) by omega, cut_nat, ← List.map_map, ← List.map_drop, ← List.map_take, show [D.str [100, 105, 103, 105, 116]] = [kDig].map Kn.d from rfl, eq_kn, show k + 2 - (k + 1) = 1 by omega, tk1]
theorem eq_ks {x : Kn} {st : Store} : cmpR .eq x.d (.str [115, 101, 112, 97, 114, 97, 116, 111, 114]) st = .ok (.bl (decide (x = kSep))) st := by
  cases x with
  | k y => cases y <;> rfl
  | iso => rfl
  | mk => rfl
theorem ixm {m : Nat} : ixN (m + 1) (-1) = some m := by
  simp [ixN]
  omega
theorem setm {α β : Type} {f : α → β} {l : List α} {x y : β} : (l.map f ++ [x]).set l.length y = l.map f ++ [y] := by
  have : l.length = (l.map f).length := by simp
  rw [this, List.set_append_right _ _ (Nat.le_refl _), Nat.sub_self]
  rfl
def lwI (st : Store) (n j : Nat) (pl : List Nat) (con : List Cn) (ds : List D) (σ : Env) (S : Store) : Prop := ∃ (k : Nat) (fs : List It) (jn : Bool) (o6 o7 o8 o9 o10 : Option D), ds = enF k ((con.drop k).map Cn.d) ∧ k ≤ con.length ∧ fs.length ≤ k ∧ LInv pl con k fs jn ∧ S = st ++ [.lst (fs.map It.d)] ∧
  σ = [some (.ref (n + 4)), some (.int (j : Nat)), some (.ref (cR n j)), some (.frz ((con.map (kn pl)).map Kn.d)), some (.ref st.length), some (.bl jn), o6, o7, o8, o9, o10]
theorem litems_body {Φ : Prog} {Wf : Nat} (hk : LKindOk Φ) {st : Store} {n j : Nat} {s : MS} {b : Mb} (hm : ModAt st n s) (hb : s.ms[j]? = some b) (hx : ∀ i, Cn.ch i ∈ b.2 → i < s.ss.length) (ad : Adj b.2) (hcl : b.2.length ≤ 10000) {Q : D → Store → Prop} {E : Exn → Store → Prop}
    (h : Q (.frz ((itemsP s.ss b.2).map It.d)) st) : (bodyR Φ Wf P.fddlaw_items [.ref (n + 4), .int (j : Nat)] st).W Q E := by
  apply body_W
  have jl : j < s.ms.length := (List.getElem?_eq_some_iff.mp hb).1
  have cl : b.2.length ≤ LIM := by unfold LIM; omega
  have q4 : ∀ l, (st ++ l)[n + 4]? = some (mDc n) := fun l => get_app hm.g4
  simp [P.fddlaw_items, startE, hm.g4, hm.g3, hm.g0, hm.gi j b hb, hm.gc j b hb, mDc, mBl, mI, mc, isKey, dget, getI_bl jl]
  refine comp_map (α := Cn) Cn.d (fun x => (kn s.ss x).d) (fun x => x ∈ b.2) (fun x acc R hx' hR => ?_) (fun x hx' => hx') ?_
  · cases x with
    | ch i =>
      have il := hx i hx'
      have ic : s.ss[i]? = some s.ss[i] := List.getElem?_eq_getElem il
      simp [turnC, wipe, Cn.d, hm.g4, mDc, isKey, dget, hm.g0, mSg, getI_nat, ic]
      refine hk ?_
      simpa [kn, ic, Kn.d, Kn.s] using hR
    | iso c =>
      simp [turnC, wipe, Cn.d]
      exact hR
    | mk c =>
      simp [turnC, wipe, Cn.d]
      exact hR
  have qc : ∀ l, (st ++ l)[cR n j]? = some (mc b) := fun l => get_app (hm.gc j b hb)
  simp [mkL, cl, qc, mc]
  refine forL_W (lwI st n j s.ss b.2) ⟨0, [], false, _, _, _, _, _, by simp [enumD, enF], Nat.zero_le _, Nat.le_refl _, L_init, rfl, by simp; exact ⟨rfl, rfl, rfl, rfl, rfl⟩⟩ ?_ ?_
  · rintro d r σ S ⟨k, fs, jn, o6, o7, o8, o9, o10, p1, p2, p3, p4, rfl, rfl⟩
    have hk : k < b.2.length := by
      rcases Nat.lt_or_ge k b.2.length with h | h
      · exact h
      · rw [List.drop_eq_nil_of_le h] at p1
        cases p1
    have hx : b.2[k]? = some b.2[k] := List.getElem?_eq_getElem hk
    have hin : b.2[k] ∈ b.2 := List.getElem_mem hk
    rw [List.drop_eq_getElem_cons hk, List.map_cons, enF_cons] at p1
    generalize b.2[k] = x at p1 hx hin
    simp only [List.cons.injEq] at p1
    obtain ⟨rfl, rfl⟩ := p1
    have gk : ((b.2.map (kn s.ss)).map Kn.d)[k]? = some (kn s.ss x).d := by simp [hx]
    have fl : fs.length < LIM := by unfold LIM; omega
    have gk' : getI (b.2.map (Kn.d ∘ kn s.ss)) (k : Int) = some (kn s.ss x).d := by
      rw [getI_nat]
      simpa using gk
    have out : ∀ (fs2 : List It) (jn2 : Bool) (o6 o7 o8 o9 o10 : Option D), fs2.length ≤ k + 1 → LInv s.ss b.2 (k + 1) fs2 jn2 → lwI st n j s.ss b.2 (enF (k + 1) ((b.2.drop (k + 1)).map Cn.d)) [some (.ref (n + 4)), some (.int (j : Nat)), some (.ref (cR n j)), some (.frz (b.2.map (Kn.d ∘ kn s.ss))), some (.ref st.length), some (.bl jn2), o6, o7, o8, o9, o10] (st ++ [.lst (fs2.map It.d)]) := fun fs2 jn2 o6 o7 o8 o9 o10 h1 h2 =>
      ⟨k + 1, fs2, jn2, o6, o7, o8, o9, o10, rfl, by omega, h1, h2, rfl, by simp⟩
    simp [eqA, mk]
    cases hpt : partA s.ss b.2 k x with
    | true =>
      cases jn with
      | true =>
        obtain ⟨fs', a, i, rfl, rfl, L2⟩ := L_on ad hx p4 hpt
        simp at p3 fl
        rw [partA_eq] at hpt
        have z := out (fs' ++ [.num a (i + 1 + 1)]) true
        simp [It.d] at z
        by_cases hd : kn s.ss (.ch (i + 1)) = kDig
        · cases hpd : pdA s.ss b.2 k <;> cases hnd : dgA s.ss b.2 (k + 1)
          all_goals simp [eqB, gk', eq_kd, eq_ks, hd, mk, hpd, hnd, It.d, Cn.d, ixm, setm, qc]
          all_goals exact z _ _ _ _ _ (by omega) L2
        · simp [hd] at hpt
          simp [eqB, gk', eq_kd, eq_ks, hd, mk, hpt, It.d, Cn.d, ixm, setm, qc]
          exact z _ _ _ _ _ (by omega) L2
      | false =>
        obtain ⟨i, rfl, L2⟩ := L_new hx p4 hpt
        rw [partA_eq] at hpt
        have z := out (fs ++ [.num i (i + 1)]) true
        simp [It.d] at z
        by_cases hd : kn s.ss (.ch i) = kDig
        · cases hpd : pdA s.ss b.2 k <;> cases hnd : dgA s.ss b.2 (k + 1)
          all_goals simp [eqB, gk', eq_kd, eq_ks, hd, mk, hpd, hnd, It.d, Cn.d, qc, fl]
          all_goals exact z _ _ _ _ _ (by omega) L2
        · simp [hd] at hpt
          simp [eqB, gk', eq_kd, eq_ks, hd, mk, hpt, It.d, Cn.d, qc, fl]
          exact z _ _ _ _ _ (by omega) L2
    | false =>
      have L2 := L_one hx p4 hpt
      have z := out (fs ++ [oneI s.ss x]) false
      simp at z
      rw [partA_eq] at hpt
      have hd : ¬ kn s.ss x = kDig := fun e => by simp [e] at hpt
      by_cases hs : kn s.ss x = kSep
      · obtain ⟨i, rfl⟩ := kn_ch hs
        have zd : (oneI s.ss (.ch i)).d = .tup [.str sNeutral, .int (i : Nat)] := by simp [oneI, hs, It.d]
        rw [zd] at z
        simp [hs] at hpt
        cases hpd : pdA s.ss b.2 k <;> cases hnd : dgA s.ss b.2 (k + 1) <;> cases jn
        all_goals first
          | (exfalso; simp [hpd, hnd] at hpt; done)
          | (simp [eqB, gk', eq_kd, eq_ks, hs, mk, hpd, hnd, Cn.d, qc, fl, Kn.d, Kn.s, Kd.s, flat, eqF]
             exact z _ _ _ _ _ (by omega) L2)
      · cases x with
        | ch i =>
          have hkn : kn s.ss (.ch i) = .k (kdC ((s.ss[i]?).getD 0)) := rfl
          generalize kdC ((s.ss[i]?).getD 0) = kd at hkn
          have zl : kd = .ltr ∨ kd = .rtl → (oneI s.ss (.ch i)).d = .tup [.str sLetter, .int (i : Nat)] := fun h => by rcases h with rfl | rfl <;> simp [oneI, hkn, It.d]
          have zn : kd = .neu → (oneI s.ss (.ch i)).d = .tup [.str sNeutral, .int (i : Nat)] := fun h => by subst h; simp [oneI, hkn, It.d]
          cases kd with
          | dig => exact absurd hkn hd
          | sep => exact absurd hkn hs
          | ltr =>
            rw [zl (.inl rfl)] at z
            cases hpd : pdA s.ss b.2 k <;> cases hnd : dgA s.ss b.2 (k + 1) <;> cases jn
            all_goals simp [eqB, gk', hkn, mk, hpd, hnd, Cn.d, qc, fl, Kn.d, Kn.s, Kd.s, flat, eqF]
            all_goals exact z _ _ _ _ _ (by omega) L2
          | rtl =>
            rw [zl (.inr rfl)] at z
            cases hpd : pdA s.ss b.2 k <;> cases hnd : dgA s.ss b.2 (k + 1) <;> cases jn
            all_goals simp [eqB, gk', hkn, mk, hpd, hnd, Cn.d, qc, fl, Kn.d, Kn.s, Kd.s, flat, eqF]
            all_goals exact z _ _ _ _ _ (by omega) L2
          | neu =>
            rw [zn rfl] at z
            cases hpd : pdA s.ss b.2 k <;> cases hnd : dgA s.ss b.2 (k + 1) <;> cases jn
            all_goals simp [eqB, gk', hkn, mk, hpd, hnd, Cn.d, qc, fl, Kn.d, Kn.s, Kd.s, flat, eqF]
            all_goals exact z _ _ _ _ _ (by omega) L2
        | iso c =>
          simp [oneI, It.d] at z
          cases hpd : pdA s.ss b.2 k <;> cases hnd : dgA s.ss b.2 (k + 1) <;> cases jn
          all_goals simp [eqB, gk', kn, mk, hpd, hnd, Cn.d, qc, fl, Kn.d, Kn.s]
          all_goals exact z _ _ _ _ _ (by omega) L2
        | mk c =>
          simp [oneI, It.d] at z
          cases hpd : pdA s.ss b.2 k <;> cases hnd : dgA s.ss b.2 (k + 1) <;> cases jn
          all_goals simp [eqB, gk', kn, mk, hpd, hnd, Cn.d, qc, fl, Kn.d, Kn.s]
          all_goals exact z _ _ _ _ _ (by omega) L2
  · rintro σ S ⟨k, fs, jn, o6, o7, o8, o9, o10, p1, p2, p3, p4, rfl, rfl⟩
    have hk : k = b.2.length := by
      rcases Nat.lt_or_ge k b.2.length with h | h
      · rw [List.drop_eq_getElem_cons h, List.map_cons, enF_cons] at p1
        cases p1
      · omega
    subst hk
    have := L_end p4
    subst this
    simp [fin]
    rw [gc_lst (xs := (itemsP s.ss b.2).map It.d) (Nat.le_refl _) (by simp) refs_it oldOK_refl, take_app]
    exact h
end LB
set_option Elab.async false
set_option linter.all false
set_option maxRecDepth 10000
set_option maxHeartbeats 4000000
/-! PvMod3: the paragraph's records and the laws' model are the same. -/
namespace LB
open PV
def mbOf (b : Blk) : Mb := (b.d, b.con)
theorem map_modify' {α β : Type} {f : α → α} {g : α → β} {f' : β → β} (h : ∀ x, g (f x) = f' (g x)) : ∀ {l : List α} {i : Nat}, (l.modify i f).map g = (l.map g).modify i f'
  | [], i => by simp
  | a :: l, 0 => by simp [h]
  | a :: l, i + 1 => by simp [map_modify' h (l := l) (i := i)]
theorem map_modify_id {α β : Type} {f : α → α} {g : α → β} (h : ∀ x, g (f x) = g x) : ∀ {l : List α} {i : Nat}, (l.modify i f).map g = l.map g
  | [], i => by simp
  | a :: l, 0 => by simp [h]
  | a :: l, i + 1 => by simp [map_modify_id h (l := l) (i := i)]
theorem keepT_map {t : Tok} : ∀ {js : List Nat} {bs : List Blk}, (keepT t js bs).map mbOf = bs.map mbOf
  | [], bs => rfl
  | j :: js, bs => by
    show (keepT t js (bs.modify j _)).map mbOf = _
    rw [keepT_map]
    refine map_modify_id ?_
    intro x
    rfl
theorem run_cons {s : BS} {t : Tok} {ts : List Tok} : s.run (t :: ts) = (s.step t).run ts := rfl
theorem run_app {s : BS} {a b : List Tok} : s.run (a ++ b) = (s.run a).run b := by simp [BS.run]
theorem mb_add {c : Cn} : ∀ x, mbOf (addC c x) = addM c (mbOf x) := fun x => rfl
theorem run_fill : ∀ {a : Nd} {s : BS} {ss : List Nat}, ss.length = s.hom.length →
    (s.run a.toks).stk = s.stk ∧ (s.run a.toks).bs.map mbOf = (fillM a ⟨ss, s.bs.map mbOf⟩ s.top).ms ∧ (s.run a.toks).hom.length = (fillM a ⟨ss, s.bs.map mbOf⟩ s.top).ss.length ∧ (fillM a ⟨ss, s.bs.map mbOf⟩ s.top).ss = ss ++ chars a.toks
  | .nil, s, ss, h => ⟨rfl, rfl, h.symm, by simp [Nd.toks, fillM, chars]⟩
  | .ch c r, s, ss, h => by
    obtain ⟨a1, a2, a3, a4⟩ := run_fill (a := r) (s := s.step (.ch c)) (ss := ss ++ [c]) (by simp [BS.step, h])
    have e : (s.step (.ch c)).bs.map mbOf = (s.bs.map mbOf).modify s.top (addM (.ch ss.length)) := by
      show ((keepT _ _ _).modify s.top (addC _)).map mbOf = _
      rw [map_modify' mb_add, keepT_map, h]
    have et : (s.step (.ch c)).top = s.top := rfl
    rw [e, et] at a2 a3 a4
    refine ⟨a1, a2, a3, ?_⟩
    show (fillM r ⟨ss ++ [c], _⟩ s.top).ss = _
    rw [a4]
    simp [Nd.toks, chars, Tok.c]
  | .mk d r, s, ss, h => by
    obtain ⟨a1, a2, a3, a4⟩ := run_fill (a := r) (s := s.step (.mk d)) (ss := ss) (by simp [BS.step, h])
    have e : (s.step (.mk d)).bs.map mbOf = (s.bs.map mbOf).modify s.top (addM (.mk d)) := by
      show ((keepT _ _ _).modify s.top (addC _)).map mbOf = _
      rw [map_modify' mb_add, keepT_map]
    have et : (s.step (.mk d)).top = s.top := rfl
    rw [e, et] at a2 a3 a4
    refine ⟨a1, a2, a3, ?_⟩
    show (fillM r ⟨ss, _⟩ s.top).ss = _
    rw [a4]
    simp [Nd.toks, chars, Tok.c]
  | .iso d i r, s, ss, h => by
    obtain ⟨a1, a2, a3, a4⟩ := run_fill (a := i) (s := s.step (.op d)) (ss := ss) (by simp [BS.step, h])
    have e : (s.step (.op d)).bs.map mbOf = (s.bs.map mbOf).modify s.top (addM (.iso s.bs.length)) ++ [(d, [])] := by
      show ((keepT _ _ _).modify s.top (addC _) ++ [newB d _ _ _]).map mbOf = _
      rw [List.map_append, map_modify' mb_add, keepT_map]
      rfl
    have et : (s.step (.op d)).top = s.bs.length := by simp [BS.step, BS.top]
    rw [e, et] at a2 a3 a4
    have c1 : (((s.step (.op d)).run i.toks).step .cl).stk = s.stk := by
      show ((s.step (.op d)).run i.toks).stk.dropLast = _
      rw [a1]
      simp [BS.step]
    have c2 : (((s.step (.op d)).run i.toks).step .cl).bs.map mbOf = ((s.step (.op d)).run i.toks).bs.map mbOf := by
      show (keepT _ _ (List.modify _ _ _)).map mbOf = _
      rw [keepT_map]
      refine map_modify_id ?_
      intro x
      rfl
    have c3 : (((s.step (.op d)).run i.toks).step .cl).hom = ((s.step (.op d)).run i.toks).hom := rfl
    obtain ⟨b1, b2, b3, b4⟩ := run_fill (a := r) (s := ((s.step (.op d)).run i.toks).step .cl) (ss := ss ++ chars i.toks) (by rw [c3, a3, a4])
    have ct : (((s.step (.op d)).run i.toks).step .cl).top = s.top := by unfold BS.top; rw [c1]
    have cf : (⟨ss ++ chars i.toks, (((s.step (.op d)).run i.toks).step .cl).bs.map mbOf⟩ : MS) = fillM i ⟨ss, (s.bs.map mbOf).modify s.top (addM (.iso s.bs.length)) ++ [(d, [])]⟩ s.bs.length := by
      rw [c2, a2, ← a4]
    rw [cf, ct] at b2 b3 b4
    have er : s.run (Nd.iso d i r).toks = (((s.step (.op d)).run i.toks).step .cl).run r.toks := by
      rw [Nd.toks, run_cons, run_app, run_cons]
    have ef : fillM (.iso d i r) ⟨ss, s.bs.map mbOf⟩ s.top = fillM r (fillM i ⟨ss, (s.bs.map mbOf).modify s.top (addM (.iso s.bs.length)) ++ [(d, [])]⟩ s.bs.length) s.top := by
      show fillM r (fillM i ⟨ss, (s.bs.map mbOf).modify s.top (addM (.iso (s.bs.map mbOf).length)) ++ [(d, [])]⟩ (s.bs.map mbOf).length) s.top = _
      rw [List.length_map]
    rw [er, ef]
    refine ⟨b1.trans c1, b2, b3, ?_⟩
    rw [b4]
    simp [Nd.toks, chars, Tok.c]
/-- what stands of a model: neighbours, numbers -/
structure MS.Ad (s : MS) : Prop where
  ad : ∀ (j : Nat) (x : Mb), s.ms[j]? = some x → Adj x.2
  rg : ∀ (j : Nat) (x : Mb), s.ms[j]? = some x → ∀ i, Cn.ch i ∈ x.2 → i < s.ss.length
def MS.Lst (s : MS) (b : Nat) : Prop := ∀ (x : Mb) (i : Nat), s.ms[b]? = some x → x.2.getLast? = some (.ch i) → i + 1 = s.ss.length
theorem adj_snoc {l : List Cn} {c : Cn} (h : Adj l) (hc : ∀ i i', l.getLast? = some (.ch i) → c = .ch i' → i' = i + 1) : Adj (l ++ [c]) := by
  intro k i i' h1 h2
  have k2 : k + 1 < l.length + 1 := by
    have := (List.getElem?_eq_some_iff.mp h2).1
    simpa using this
  rw [List.getElem?_append_left (by omega)] at h1
  rcases Nat.lt_or_ge (k + 1) l.length with hk | hk
  · rw [List.getElem?_append_left hk] at h2
    exact h k i i' h1 h2
  · have e : k + 1 = l.length := by omega
    rw [e, List.getElem?_append_right (Nat.le_refl _), Nat.sub_self] at h2
    refine hc i i' ?_ (by simpa using h2)
    rw [List.getLast?_eq_getElem?, ← h1]
    congr 1
    omega
theorem modify_at' {l : List Mb} {b j : Nat} {f : Mb → Mb} {x : Mb} (h : (l.modify b f)[j]? = some x) : ∃ y, l[j]? = some y ∧ x = if b = j then f y else y := by
  rw [List.getElem?_modify] at h
  cases hb : l[j]? with
  | none => rw [hb] at h; cases h
  | some y =>
    rw [hb] at h
    refine ⟨y, rfl, ?_⟩
    by_cases e : b = j
    · simp [e] at h ⊢
      exact h.symm
    · simp [e] at h ⊢
      exact h.symm
theorem MS.Ad.add {s : MS} (g : s.Ad) {b : Nat} {c : Cn} {ss : List Nat} (hl : s.Lst b) (hs : s.ss.length ≤ ss.length) (hc : ∀ i, c = .ch i → i = s.ss.length ∧ i < ss.length) : MS.Ad ⟨ss, s.ms.modify b (addM c)⟩ := by
  refine ⟨fun j x hx => ?_, fun j x hx i hi => ?_⟩
  · obtain ⟨y, y1, rfl⟩ := modify_at' hx
    by_cases e : b = j
    · subst e
      rw [if_pos rfl]
      refine adj_snoc (g.ad b y y1) fun i i' h1 h2 => ?_
      have := hl y i y1 h1
      have := (hc i' h2).1
      omega
    · rw [if_neg e]
      exact g.ad j y y1
  · obtain ⟨y, y1, rfl⟩ := modify_at' hx
    show i < ss.length
    by_cases e : b = j
    · subst e
      rw [if_pos rfl] at hi
      rcases List.mem_append.mp hi with hi | hi
      · have := g.rg b y y1 i hi
        omega
      · have : c = .ch i := (List.mem_singleton.mp hi).symm
        exact (hc i this).2
    · rw [if_neg e] at hi
      have := g.rg j y y1 i hi
      omega
theorem Lst_add {s : MS} {b : Nat} {c : Cn} {ss : List Nat} (hc : ∀ i, c = .ch i → i + 1 = ss.length) : MS.Lst ⟨ss, s.ms.modify b (addM c)⟩ b := fun x i hx hi => by
  obtain ⟨y, y1, rfl⟩ := modify_at' hx
  rw [if_pos rfl] at hi
  simp [addM] at hi
  exact hc i hi
theorem fillM_ad : ∀ {a : Nd} {s : MS} {b : Nat}, s.Ad → s.Lst b → b < s.ms.length → (fillM a s b).Ad ∧ (fillM a s b).Lst b ∧ s.ms.length ≤ (fillM a s b).ms.length ∧ s.ss.length ≤ (fillM a s b).ss.length ∧ ∀ j, j < s.ms.length → j ≠ b → (fillM a s b).ms[j]? = s.ms[j]?
  | .nil, s, b, g, hl, hb => ⟨g, hl, Nat.le_refl _, Nat.le_refl _, fun _ _ _ => rfl⟩
  | .ch c r, s, b, g, hl, hb => by
    obtain ⟨a1, a2, a3, a4, a5⟩ := fillM_ad (a := r) (b := b) (g.add (c := .ch s.ss.length) (ss := s.ss ++ [c]) hl (by simp) (fun i e => by cases e; simp)) (Lst_add fun i e => by cases e; simp) (by simpa using hb)
    refine ⟨a1, a2, by show _ ≤ (fillM r _ b).ms.length; simpa using a3, by simp at a4; show _ ≤ (fillM r _ b).ss.length; omega, fun j hj hn => (a5 j (by simpa using hj) hn).trans ?_⟩
    simp [List.getElem?_modify, Ne.symm hn]
  | .mk d r, s, b, g, hl, hb => by
    obtain ⟨a1, a2, a3, a4, a5⟩ := fillM_ad (a := r) (b := b) (g.add (c := .mk d) (ss := s.ss) hl (Nat.le_refl _) (fun i e => by cases e)) (Lst_add fun i e => by cases e) (by simpa using hb)
    refine ⟨a1, a2, by show _ ≤ (fillM r _ b).ms.length; simpa using a3, a4, fun j hj hn => (a5 j (by simpa using hj) hn).trans ?_⟩
    simp [List.getElem?_modify, Ne.symm hn]
  | .iso d i r, s, b, g, hl, hb => by
    have g1 := g.add (c := .iso s.ms.length) (ss := s.ss) hl (Nat.le_refl _) (fun i e => by cases e)
    have l1 : MS.Lst ⟨s.ss, s.ms.modify b (addM (.iso s.ms.length))⟩ b := Lst_add fun i e => by cases e
    have ln : (s.ms.modify b (addM (.iso s.ms.length))).length = s.ms.length := by simp
    have g2 : MS.Ad ⟨s.ss, s.ms.modify b (addM (.iso s.ms.length)) ++ [(d, [])]⟩ := by
      refine ⟨fun j x hx => ?_, fun j x hx i hi => ?_⟩
      · rcases Nat.lt_or_ge j s.ms.length with hj | hj
        · rw [List.getElem?_append_left (by omega)] at hx
          exact g1.ad j x hx
        · rw [List.getElem?_append_right (by omega)] at hx
          cases hq : j - (s.ms.modify b (addM (.iso s.ms.length))).length with
          | zero => rw [hq] at hx; cases hx; intro k i i' h1; cases h1
          | succ q => rw [hq] at hx; simp at hx
      · rcases Nat.lt_or_ge j s.ms.length with hj | hj
        · rw [List.getElem?_append_left (by omega)] at hx
          exact g1.rg j x hx i hi
        · rw [List.getElem?_append_right (by omega)] at hx
          cases hq : j - (s.ms.modify b (addM (.iso s.ms.length))).length with
          | zero => rw [hq] at hx; cases hx; cases hi
          | succ q => rw [hq] at hx; simp at hx
    have l2 : MS.Lst ⟨s.ss, s.ms.modify b (addM (.iso s.ms.length)) ++ [(d, [])]⟩ s.ms.length := fun x i hx hi => by
      rw [List.getElem?_append_right (by omega), ln, Nat.sub_self] at hx
      cases hx
      cases hi
    obtain ⟨a1, a2, a3, a4, a5⟩ := fillM_ad (a := i) (b := s.ms.length) g2 l2 (by simp)
    have a3' : s.ms.length + 1 ≤ (fillM i ⟨s.ss, s.ms.modify b (addM (.iso s.ms.length)) ++ [(d, [])]⟩ s.ms.length).ms.length := by simpa using a3
    have a5' : (fillM i ⟨s.ss, s.ms.modify b (addM (.iso s.ms.length)) ++ [(d, [])]⟩ s.ms.length).ms[b]? = (s.ms.modify b (addM (.iso s.ms.length)))[b]? := by
      rw [a5 b (by simp; omega) (by omega)]
      rw [List.getElem?_append_left (by omega)]
    obtain ⟨b1, b2, b3, b4, b5⟩ := fillM_ad (a := r) (b := b) a1 (fun x i hx hi => by
      rw [a5'] at hx
      obtain ⟨y, y1, rfl⟩ := modify_at' hx
      rw [if_pos rfl] at hi
      simp [addM] at hi) (by omega)
    refine ⟨b1, b2, by show _ ≤ (fillM r _ b).ms.length; omega, Nat.le_trans a4 b4, fun j hj hn => ?_⟩
    refine (b5 j (by omega) hn).trans ?_
    rw [a5 j (by simp; omega) (by omega), List.getElem?_append_left (by omega)]
    simp [List.getElem?_modify, Ne.symm hn]
theorem model_ad {d : Bool} {a : Nd} : (modelM d a).Ad := by
  refine (fillM_ad (a := a) (s := ⟨[], [(d, [])]⟩) (b := 0) ⟨fun j x hx => ?_, fun j x hx i hi => ?_⟩ (fun x i hx hi => ?_) (by simp)).1
  · cases j with
    | zero => cases hx; intro k i i' h1; cases h1
    | succ j => simp at hx
  · cases j with
    | zero => cases hx; cases hi
    | succ j => simp at hx
  · cases hx
    cases hi
end LB
set_option Elab.async false
set_option linter.all false
set_option maxRecDepth 10000
set_option maxHeartbeats 4000000
/-! PvMod4: nodes give a paragraph within the limits. -/
namespace LB
open PV
theorem chars_cons' {t : Tok} {r : List Tok} : chars (t :: r) = t.c ++ chars r := by simp [chars]
theorem chars_app' {a b : List Tok} : chars (a ++ b) = chars a ++ chars b := by simp [chars]
theorem chars_chs : ∀ {a : Nd}, (chars a.toks).length = a.chs
  | .nil => rfl
  | .ch c r => by rw [Nd.toks, chars_cons', List.length_append, chars_chs (a := r)]; simp [Tok.c, Nd.chs]; omega
  | .mk d r => by rw [Nd.toks, chars_cons', List.length_append, chars_chs (a := r)]; simp [Tok.c, Nd.chs]
  | .iso d i r => by
    rw [Nd.toks, chars_cons', chars_app', chars_cons', List.length_append, List.length_append, List.length_append, chars_chs (a := r), chars_chs (a := i)]
    simp [Tok.c, Nd.chs]
theorem ctls_cons {t : Tok} {r : List Tok} : ctls (t :: r) = (if t.ctl then 1 else 0) + ctls r := by
  simp only [ctls, List.filter_cons]
  split <;> simp <;> omega
theorem ctls_app {a b : List Tok} : ctls (a ++ b) = ctls a + ctls b := by simp [ctls]
theorem ctls_cts : ∀ {a : Nd}, ctls a.toks = a.cts
  | .nil => rfl
  | .ch c r => by rw [Nd.toks, ctls_cons, ctls_cts (a := r)]; simp [Tok.ctl, Nd.cts]
  | .mk d r => by rw [Nd.toks, ctls_cons, ctls_cts (a := r)]; simp [Tok.ctl, Nd.cts]; omega
  | .iso d i r => by
    rw [Nd.toks, ctls_cons, ctls_app, ctls_cons, ctls_cts (a := r), ctls_cts (a := i)]
    simp [Tok.ctl, Nd.cts]
    omega
def DepLe (bs : List Blk) (D : Nat) : Prop := ∀ b ∈ bs, b.dep ≤ D
theorem modify_dep {f : Blk → Blk} (hf : ∀ b, (f b).dep = b.dep) {D : Nat} : ∀ {bs : List Blk} {i : Nat}, DepLe bs D → DepLe (bs.modify i f) D := fun {bs i} h b hb => by
  obtain ⟨j, hj⟩ := List.mem_iff_getElem?.mp hb
  obtain ⟨b0, h0, h1⟩ := mod_get hj
  rcases h1 with rfl | rfl
  · exact h b (List.mem_of_getElem? h0)
  · rw [hf]
    exact h b0 (List.mem_of_getElem? h0)
theorem keepT_dep {t : Tok} {D : Nat} : ∀ {js : List Nat} {bs : List Blk}, DepLe bs D → DepLe (keepT t js bs) D
  | [], bs, h => h
  | j :: js, bs, h => keepT_dep (js := js) (modify_dep (by intro b; rfl) h)
theorem run_dep {D : Nat} : ∀ {a : Nd} {s : BS}, DepLe s.bs D → s.stk.length + a.dp ≤ D → s.stk.length ≤ D → DepLe (s.run a.toks).bs D ∧ (s.run a.toks).stk = s.stk
  | .nil, s, h, _, _ => ⟨h, rfl⟩
  | .ch c r, s, h, hd, h0 => run_dep (a := r) (s := s.step (.ch c)) (modify_dep (by intro b; rfl) (keepT_dep h)) hd h0
  | .mk d r, s, h, hd, h0 => run_dep (a := r) (s := s.step (.mk d)) (modify_dep (by intro b; rfl) (keepT_dep h)) hd h0
  | .iso d i r, s, h, hd, h0 => by
    simp only [Nd.dp] at hd
    have h1 : DepLe (s.step (.op d)).bs D := fun b hb => by
      rcases List.mem_append.mp hb with hb | hb
      · exact modify_dep (by intro b; rfl) (keepT_dep h) b hb
      · have : b = newB d (some s.top) (s.stk.length + 1) s.hom.length := by simpa using hb
        rw [this]
        show s.stk.length + 1 ≤ D
        omega
    have l1 : (s.step (.op d)).stk.length = s.stk.length + 1 := by simp [BS.step]
    obtain ⟨a1, a2⟩ := run_dep (a := i) (s := s.step (.op d)) h1 (by omega) (by omega)
    have c1 : (((s.step (.op d)).run i.toks).step .cl).stk = s.stk := by
      show ((s.step (.op d)).run i.toks).stk.dropLast = _
      rw [a2]
      simp [BS.step]
    have h2 : DepLe (((s.step (.op d)).run i.toks).step .cl).bs D := keepT_dep (modify_dep (by intro b; rfl) a1)
    obtain ⟨b1, b2⟩ := run_dep (a := r) (s := ((s.step (.op d)).run i.toks).step .cl) h2 (by rw [c1]; omega) (by rw [c1]; exact h0)
    rw [Nd.toks, run_cons, run_app, run_cons]
    exact ⟨b1, b2.trans c1⟩
theorem toks_bal {a : Nd} : Bal a.toks := toks_dep
theorem done_dep {d : Bool} {a : Nd} (h : a.dp ≤ 11) : deepest ((BS.init d).run a.toks).done ≤ 12 := by
  have h1 : DepLe ((BS.init d).run a.toks).done 12 := by
    have := (run_dep (D := 12) (a := a) (s := BS.init d) (fun b hb => by
      have : b = newB d none 1 0 := by simpa [BS.init] using hb
      rw [this]
      show 1 ≤ 12
      omega) (by show 1 + a.dp ≤ 12; omega) (by show 1 ≤ 12; omega)).1
    exact modify_dep (by intro b; rfl) this
  have fm : ∀ (l : List Int) (i : Int), i ≤ 12 → (∀ x ∈ l, x ≤ 12) → l.foldl (fun b y => if y > b then y else b) i ≤ 12 := by
    intro l
    induction l with
    | nil => intro i h _; exact h
    | cons x r ih =>
      intro i h hx
      refine ih _ ?_ fun y hy => hx y (List.mem_cons_of_mem _ hy)
      have := hx x List.mem_cons_self
      show (if x > i then x else i) ≤ 12
      split <;> omega
  unfold deepest
  generalize ((BS.init d).run a.toks).done = bs at h1
  cases bs with
  | nil => show (0 : Int) ≤ 12; omega
  | cons b r =>
    refine fm _ _ ?_ fun x hx => ?_
    · have := h1 b List.mem_cons_self
      omega
    · obtain ⟨y, y1, rfl⟩ := List.mem_map.mp hx
      have := h1 y (List.mem_cons_of_mem _ y1)
      omega
theorem done_mb {d : Bool} {a : Nd} : (((BS.init d).run a.toks).done).map mbOf = (modelM d a).ms ∧ ((BS.init d).run a.toks).hom.length = (modelM d a).ss.length ∧ (modelM d a).ss = chars a.toks := by
  obtain ⟨_, a2, a3, a4⟩ := run_fill (a := a) (s := BS.init d) (ss := []) rfl
  rw [List.nil_append] at a4
  refine ⟨?_, a3, a4⟩
  show (List.modify _ 0 _).map mbOf = _
  refine (map_modify_id ?_).trans a2
  intro x
  rfl
end LB
set_option Elab.async false
set_option linter.all false
set_option maxRecDepth 10000
set_option maxHeartbeats 4000000
/-! PvMod5: items are small data: their repr is defined. -/
namespace LB
open PV
def IsoB (s : MS) (N : Nat) : Prop := ∀ (j : Nat) (x : Mb), s.ms[j]? = some x → ∀ c, Cn.iso c ∈ x.2 → c ≤ N
theorem iso_add {s : MS} {N b : Nat} {c : Cn} {ss : List Nat} (h : IsoB s N) (hc : ∀ i, c = .iso i → i ≤ N + 1) : IsoB ⟨ss, s.ms.modify b (addM c)⟩ (N + 1) := fun j x hx i hi => by
  obtain ⟨y, y1, rfl⟩ := modify_at' hx
  by_cases e : b = j
  · rw [if_pos e] at hi
    rcases List.mem_append.mp hi with hi | hi
    · have := h j y y1 i hi
      omega
    · exact hc i (List.mem_singleton.mp hi).symm
  · rw [if_neg e] at hi
    have := h j y y1 i hi
    omega
theorem fillM_iso : ∀ {a : Nd} {s : MS} {b N : Nat}, s.Ok N → IsoB s N → IsoB (fillM a s b) (N + a.chs + a.cts)
  | .nil, s, b, N, g, h => by simpa [fillM, Nd.chs, Nd.cts] using h
  | .ch c r, s, b, N, g, h => by
    have g1 := g.add (b := b) (c := .ch s.ss.length) (ss := s.ss ++ [c]) (by have := g.sl; simp; omega)
    have := fillM_iso (a := r) (b := b) g1 (iso_add h fun i e => by cases e)
    rw [show N + (Nd.ch c r).chs + (Nd.ch c r).cts = N + 1 + r.chs + r.cts by simp [Nd.chs, Nd.cts]; omega]
    exact this
  | .mk d r, s, b, N, g, h => by
    have g1 := g.add (b := b) (c := .mk d) (ss := s.ss) (by have := g.sl; omega)
    have := fillM_iso (a := r) (b := b) g1 (iso_add h fun i e => by cases e)
    rw [show N + (Nd.mk d r).chs + (Nd.mk d r).cts = N + 1 + r.chs + r.cts by simp [Nd.chs, Nd.cts]; omega]
    exact this
  | .iso d i r, s, b, N, g, h => by
    have g1 := g.new (b := b) (c := .iso s.ms.length) (d := d)
    have h1 : IsoB ⟨s.ss, s.ms.modify b (addM (.iso s.ms.length)) ++ [(d, [])]⟩ (N + 1) := fun j x hx q hq => by
      have h0 := iso_add (b := b) (c := .iso s.ms.length) (ss := s.ss) h fun i e => by
        cases e
        exact g.ml
      rcases Nat.lt_or_ge j (s.ms.modify b (addM (.iso s.ms.length))).length with hj | hj
      · rw [List.getElem?_append_left hj] at hx
        exact h0 j x hx q hq
      · rw [List.getElem?_append_right hj] at hx
        cases hz : j - (s.ms.modify b (addM (.iso s.ms.length))).length with
        | zero => rw [hz] at hx; cases hx; cases hq
        | succ z => rw [hz] at hx; simp at hx
    have x1 := (fillM_ok (a := i) (b := s.ms.length) g1).1
    have h2 := fillM_iso (a := i) (b := s.ms.length) g1 h1
    have := fillM_iso (a := r) (b := b) x1 h2
    rw [show N + (Nd.iso d i r).chs + (Nd.iso d i r).cts = N + 1 + i.chs + i.cts + r.chs + r.cts by simp [Nd.chs, Nd.cts]; omega]
    exact this
theorem model_iso {d : Bool} {a : Nd} : IsoB (modelM d a) (a.chs + a.cts) := by
  have g : MS.Ok ⟨[], [(d, [])]⟩ 0 := ⟨by simp, by simp, by simp, fun j x hx => by
    cases j with
    | zero => cases hx; simp
    | succ j => simp at hx⟩
  have := fillM_iso (a := a) (b := 0) g (fun j x hx c hc => by
    cases j with
    | zero => cases hx; cases hc
    | succ j => simp at hx)
  rw [Nat.zero_add] at this
  exact this
/-- the numbers in an item -/
def bdI (M : Nat) : It → Prop
  | .num a b => a ≤ M ∧ b ≤ M
  | .lt i | .ne i | .iso i => i ≤ M
  | .mk _ => True
def bdC (M : Nat) : Cn → Prop
  | .ch i | .iso i => i ≤ M
  | .mk _ => True
theorem items_bd {pl : List Nat} {M : Nat} : ∀ {n : Nat} {l : List Cn}, (∀ x ∈ l, bdC M x) → l.length ≤ M → ∀ it ∈ itemsF pl n l, bdI (2 * M + 1) it
  | 0, _, _, _, it, h => by cases h
  | _ + 1, [], _, _, it, h => by cases h
  | n + 1, x :: r, hb, hl, it, h => by
    simp at hl
    unfold itemsF at h
    have tl := numT_le (l := r.map (kn pl))
    simp at tl
    have hx := hb x List.mem_cons_self
    split at h
    · rename_i hd
      rcases List.mem_cons.mp h with rfl | h
      · obtain ⟨i, rfl⟩ := kn_ch hd
        have : i ≤ M := hx
        simp only [bdI, Cn.i]
        omega
      · exact items_bd (n := n) (fun y hy => hb y (List.mem_cons_of_mem _ (List.mem_of_mem_drop hy))) (by simp; omega) it h
    · rcases List.mem_cons.mp h with rfl | h
      · cases x with
        | ch i =>
          have : i ≤ M := hx
          simp only [oneI]
          split <;> simp only [bdI] <;> omega
        | iso i =>
          have : i ≤ M := hx
          simp only [oneI, bdI]
          omega
        | mk d => trivial
      · exact items_bd (n := n) (fun y hy => hb y (List.mem_cons_of_mem _ hy)) (by omega) it h
theorem sm_nat {i : Nat} (h : i ≤ 100000) : (i : Int).natAbs.log2 < 1920 := by
  have : (i : Int).natAbs = i := by omega
  rw [this]
  rcases Nat.eq_zero_or_pos i with rfl | hp
  · decide
  · have : i < 2 ^ 17 := by omega
    have := (Nat.log2_lt (by omega)).mpr this
    omega
theorem pure_it {x : It} (h : bdI 100000 x) : pureD x.d = true ∧ datD x.d = true ∧ smI x.d = true ∧ wt x.d ≤ 5000 ∧ depD x.d ≤ 2 := by
  cases x with
  | num a b =>
    obtain ⟨h1, h2⟩ := h
    simp [It.d, pureD, puresD, datD, datDs, smI, smIs, wt, wts, depD, depDs]
    exact ⟨sm_nat h1, sm_nat h2⟩
  | lt i =>
    simp [It.d, pureD, puresD, datD, datDs, smI, smIs, wt, wts, depD, depDs]
    exact sm_nat h
  | ne i =>
    simp [It.d, pureD, puresD, datD, datDs, smI, smIs, wt, wts, depD, depDs]
    exact sm_nat h
  | iso i =>
    simp [It.d, pureD, puresD, datD, datDs, smI, smIs, wt, wts, depD, depDs]
    exact sm_nat h
  | mk d => cases d <;> simp [It.d, pureD, puresD, datD, datDs, smI, smIs, wt, wts, depD, depDs, dirS]
theorem pure_its : ∀ {l : List It}, (∀ x ∈ l, bdI 100000 x) → puresD (l.map It.d) = true ∧ datDs (l.map It.d) = true ∧ smIs (l.map It.d) = true ∧ wts (l.map It.d) ≤ 5002 * l.length ∧ depDs (l.map It.d) ≤ 2
  | [], _ => by simp [puresD, datDs, smIs, wts, depDs]
  | t :: ts, h => by
    obtain ⟨a1, a0, a2, a3, a4⟩ := pure_it (h t List.mem_cons_self)
    obtain ⟨b1, b0, b2, b3, b4⟩ := pure_its (l := ts) fun u hu => h u (List.mem_cons_of_mem _ hu)
    simp only [List.map_cons, puresD, datDs, smIs, wts, depDs, a1, a0, a2, b1, b0, b2, List.length_cons, Bool.and_self, true_and]
    omega
theorem rep_its {l : List It} (h : ∀ x ∈ l, bdI 100000 x) (hl : l.length ≤ 1000) : ∃ x, repD (.frz (l.map It.d)) = some x := by
  obtain ⟨b1, b0, b2, b3, b4⟩ := pure_its h
  exact rep_ok (by simp only [datD, b0]) (by simp only [smI, b2]) (by simp only [wt]; unfold LIM; omega) (by simp only [depD]; omega)
end LB
set_option Elab.async false
set_option linter.all false
set_option maxRecDepth 10000
set_option maxHeartbeats 4000000
namespace K12
open PV LB
theorem need_par_body {Φ : Prog} {Wf : Nat} (hc : tyIn Φ.cls (.own "Paragraph") = true) {p : Nat} {st : Store} {ts : List Tok} {txt pl : List Nat} {base : Bool} {Q : D → Store → Prop} {E : Exn → Store → Prop} (hp : st[p]? = some (paraH p ts txt base pl)) (h : Q .non st) : (bodyR Φ Wf P.f_need_paragraph [.ref p] st).W Q E := by
  apply body_W
  simp [P.f_need_paragraph, startE, hp, paraH, hc, isTy, fin]
  exact h
def figI (st : Store) (b k : Nat) (ds : List D) (σ : Env) (S : Store) : Prop := ∃ (a : Nd) (B : Bx) (j : Nat) (o2 o3 : Option D), a.chs + 2 * ds.length ≤ 40 ∧ a.cts + ds.length ≤ 20 ∧ a.dp ≤ 1 ∧ a.ok = true ∧ B.Ok j ∧ j + 2 * ds.length ≤ k + 41 ∧
  S = st.set b B.o ++ [.lst a.data] ∧ σ = [some (.ref b), some (.ref st.length), o2, o3]
theorem figures_body {Φ : Prog} {Wf : Nat} (ht : TakeOk Φ) {b : Nat} {B : Bx} {k : Nat} {st : Store} {Q : D → Store → Prop} {E : Exn → Store → Prop} (hb : st[b]? = some B.o) (hB : B.Ok k) (hk : k ≤ 2 ^ 30)
    (h : ∀ (a : Nd) (B' : Bx), a.chs ≤ 40 → a.cts ≤ 40 → a.dp ≤ 11 → a.ok = true → B'.Ok (k + 50) → Q (.frz a.data) (st.set b B'.o)) : (bodyR Φ Wf G.fddlaw_figures [.ref b] st).W Q E := by
  apply body_W
  have bl := ix_lt hb
  simp [G.fddlaw_figures, startE, LIM]
  refine ht (k := k) (B := B) (by rw [st_getb' bl]; exact hb) hB (by omega) (by omega) (by omega) fun v B1 v0 v1 hB1 => ?_
  rw [st_setb' bl]
  simp [inR_of (i := v) (by omega) (by omega)]
  refine forL_W (figI st b k) ⟨.nil, B1, k + 1, none, none, by simp [Nd.chs, rangeL_len]; omega, by simp [Nd.cts, rangeL_len]; omega, by simp [Nd.dp], rfl, hB1, by simp [rangeL_len]; omega, rfl, rfl⟩ ?_ ?_
  · rintro d r σ S ⟨a, B2, j, o2, o3, p1, p2, p3, p4, p5, p6, rfl, rfl⟩
    simp at p1 p2 p6
    have al : a.data.length < LIM := by have := data_len (a := a); unfold LIM; omega
    simp
    refine ht (k := j) (B := B2) (st_getb bl) p5 (by omega) (by omega) (by omega) fun w B3 w0 w1 hB3 => ?_
    rw [st_setb bl]
    have out : ∀ (it : Nd) (x : D) (B4 : Bx) (o2 o3 : Option D), it.data = [x] → it.chs ≤ 2 → it.cts ≤ 1 → it.dp ≤ 1 → it.ok = true → B4.Ok (j + 1 + 1) → figI st b k r [some (.ref b), some (.ref st.length), o2, o3] (st.set b B4.o ++ [.lst (a.data ++ [x])]) := fun it x B4 o2 o3 i1 i2 i3 i4 i5 i6 =>
      ⟨a.app it, B4, j + 1 + 1, o2, o3, by simp; omega, by simp; omega, by simp; omega, by simp [p4, i5], i6, by omega, by simp [i1], rfl⟩
    by_cases c1 : w < 12
    · simp [c1, st_get0]
      obtain ⟨x, x1, x2⟩ := getI_lt (xs := [D.str [55], D.str [46], D.str [48], D.str [44], D.str [51], D.str [46], D.str [57], D.str [45], D.str [58], D.str [47], D.str [43], D.str [36]]) w0 (by simpa using c1)
      have x3 : x ∈ [55, 46, 48, 44, 51, 46, 57, 45, 58, 47, 43, 36].map fun c => D.str [c] := x2
      obtain ⟨c, y1, rfl⟩ := List.mem_map.mp x3
      simp [x1, al, st_get0]
      exact out (.ch c .nil) _ B3 _ _ rfl (by simp [Nd.chs]) (by simp [Nd.cts]) (by simp [Nd.dp]) (by simp only [Nd.ok, (by decide : ∀ c ∈ [55, 46, 48, 44, 51, 46, 57, 45, 58, 47, 43, 36], isC c = true) c y1]; rfl) (hB3.mono (by omega))
    · simp [c1, st_get0]
      refine ht (k := j + 1) (B := B3) (st_getb bl) hB3 (by omega) (by omega) (by omega) fun z B4 z0 z1 hB4 => ?_
      rw [st_setb bl]
      have zc : z = 0 ∨ z = 1 := by omega
      have wc : w = 12 ∨ w = 13 ∨ w = 14 := by omega
      have hm : ∃ y : Nd, y.chs ≤ 1 ∧ y.cts = 0 ∧ y.dp = 0 ∧ y.ok = true ∧ ∀ S : Store, binop false .mul (.frz [D.str [53]]) (.int z) S = .ok (.frz y.data) S := by
        rcases zc with rfl | rfl
        · exact ⟨.nil, by simp [Nd.chs], rfl, rfl, rfl, fun S => by simp [binop, mulD, asL, small, mk, LIM, Nd.data]⟩
        · exact ⟨.ch 53 .nil, by simp [Nd.chs], rfl, rfl, by decide, fun S => by simp [binop, mulD, asL, small, mk, LIM, Nd.data]⟩
      obtain ⟨y, y1, y2, y3, y4, y5⟩ := hm
      rw [y5]
      rcases wc with rfl | rfl | rfl
      · have g : ∀ x y z : D, getI [x, y, z] (12 - 12) = some x := fun x y z => rfl
        simp [g, st_get0, al]
        exact out (.mk false .nil) _ B4 _ _ rfl (by simp [Nd.chs]) (by simp [Nd.cts]) (by simp [Nd.dp]) rfl (hB4.mono (by omega))
      · have g : ∀ x y z : D, getI [x, y, z] (13 - 12) = some y := fun x y z => rfl
        simp [g, st_get0, al]
        exact out (.iso true y .nil) _ B4 _ _ rfl (by simp [Nd.chs]; omega) (by simp [Nd.cts, y2]) (by simp [Nd.dp, y3]) (by simp [Nd.ok, y4]) (hB4.mono (by omega))
      · have g : ∀ x y z : D, getI [x, y, z] (14 - 12) = some z := fun x y z => rfl
        simp [g, st_get0, al]
        exact out (.iso false (.ch 55 (.ch 46 .nil)) .nil) _ B4 _ _ rfl (by simp [Nd.chs]) (by simp [Nd.cts]) (by simp [Nd.dp]) (by decide) (hB4.mono (by omega))
  · rintro σ S ⟨a, B2, j, o2, o3, p1, p2, p3, p4, p5, p6, rfl, rfl⟩
    simp at p1 p2 p6
    simp [fin]
    rw [gcbl (Nat.le_refl _) (by rw [st_get0]; rfl) refs_data refs_bx]
    exact h a B2 (by omega) (by omega) (by omega) p4 (p5.mono (by omega))
end K12
set_option Elab.async false
set_option linter.all false
set_option maxRecDepth 10000
set_option maxHeartbeats 4000000
namespace K12
open PV LB
def InitOk (Φ : Prog) : Prop := ∀ {st : Store} {ts : List Tok} {base : Bool} {Q : D → Store → Prop} {E : Exn → Store → Prop}, Good ts → Bal ts → ts.length ≤ 1000 → (chars ts).length ≤ 40 → ctls ts ≤ 40 → deepest ((BS.init base).run ts).done ≤ 12 →
  Q .non (st ++ paraS st.length ts (fmt ts) base (chars ts) ((BS.init base).run ts).stk ((BS.init base).run ts).hom ((BS.init base).run ts).done) → (Φ.call "Paragraph" "__init__" [.ref st.length, .str (fmt ts)] [("base", .str (dirS base))] (st ++ [.ins "Paragraph" []])).W Q E
def ItemsOk (Φ : Prog) : Prop := ∀ {st : Store} {p j : Nat} {ts : List Tok} {txt pl hom : List Nat} {base : Bool} {bs : List Blk} {b : Blk} {Q : D → Store → Prop} {E : Exn → Store → Prop}, ParaAt st p ts txt base pl hom bs → bs[j]? = some b → pl.length ≤ LIM → hom.length = pl.length → (∀ i, Cn.ch i ∈ b.con → i < pl.length) → (∀ c ∈ pl, isC c = true) → b.con.length ≤ 10000 →
  Q (.ref st.length) (st ++ [.lst ((itemsP pl b.con).map It.d)]) → (Φ.call "" "items" [.ref p, .int (j : Nat)] [] st).W Q E
def LItemsOk (Φ : Prog) : Prop := ∀ {st : Store} {n j : Nat} {s : MS} {b : Mb} {Q : D → Store → Prop} {E : Exn → Store → Prop}, ModAt st n s → s.ms[j]? = some b → (∀ i, Cn.ch i ∈ b.2 → i < s.ss.length) → Adj b.2 → b.2.length ≤ 10000 →
  Q (.frz ((itemsP s.ss b.2).map It.d)) st → (Φ.call "" "_law_items" [.ref (n + 4), .int (j : Nat)] [] st).W Q E
structure RightT (Φ : Prog) : Prop where
  mod : ModelOk Φ 11
  txt : TxtOk Φ 11
  init : InitOk Φ
  items : ItemsOk Φ
  litems : LItemsOk Φ
  rep : Φ.rep = repD
def rtI (st : Store) (d : Bool) (a : Nd) (p : Nat) (S0 : Store) (K : Nat) (ds : List D) (σ : Env) (S : Store) : Prop := ∃ (j : Nat) (g : Store) (o2 o5 o6 o7 : Option D), ds = rangeL j K ∧ S = S0 ++ g ∧ σ = [some (.str (dirS d)), some (.frz a.data), o2, some (.ref (st.length + 4)), some (.ref p), o5, o6, o7]
def riI (st : Store) (d : Bool) (a : Nd) (p : Nat) (S0 : Store) (j : Nat) (its : List It) (ds : List D) (σ : Env) (S : Store) : Prop := ∃ (g : Store) (o6 o7 : Option D), S = S0 ++ g ∧ σ = [some (.str (dirS d)), some (.frz a.data), some (.int (j : Nat)), some (.ref (st.length + 4)), some (.ref p), some (.frz (its.map It.d)), o6, o7]
theorem itemsF_len {pl : List Nat} : ∀ {n : Nat} {l : List Cn}, (itemsF pl n l).length ≤ n
  | 0, _ => Nat.le_refl _
  | _ + 1, [] => Nat.zero_le _
  | n + 1, x :: r => by
    unfold itemsF
    split
    · have := itemsF_len (pl := pl) (n := n) (l := r.drop (numT (r.map (kn pl))))
      simp
      omega
    · have := itemsF_len (pl := pl) (n := n) (l := r)
      simp
      omega
theorem itemsP_len {pl : List Nat} {con : List Cn} : (itemsP pl con).length ≤ con.length := itemsF_len
theorem chars_ok {a : Nd} (h : a.ok = true) : ∀ c ∈ chars a.toks, isC c = true := fun c hc => by
  obtain ⟨t, t1, t2⟩ := List.mem_flatMap.mp hc
  have g := toks_good h t t1
  cases t with
  | ch e =>
    have : c = e := by simpa [Tok.c] using t2
    rw [this]
    exact g
  | _ => simp [Tok.c] at t2
theorem right_body {Φ : Prog} {Wf : Nat} (T : RightT Φ) {d : Bool} {a : Nd} {st : Store} {Q : D → Store → Prop} {E : Exn → Store → Prop} (h1 : a.chs ≤ 40) (h2 : a.cts ≤ 40) (h3 : a.dp ≤ 11) (h4 : a.ok = true) (h : Q (.bl true) st) :
    (bodyR Φ Wf G.fddlaw_right [.str (dirS d), .frz a.data] st).W Q E := by
  apply body_W
  have tl := toks_len (a := a)
  have mk := modelM_ok (d := d) (a := a)
  obtain ⟨e1, e2, e3⟩ := done_mb (d := d) (a := a)
  have ad := model_ad (d := d) (a := a)
  have ib := model_iso (d := d) (a := a)
  have ch := chars_chs (a := a)
  simp [G.fddlaw_right, startE]
  refine T.mod h3 (by omega) ?_
  refine T.txt h3 (by omega) ?_
  have hM0 : ModAt (st ++ (modelM d a).S st.length) st.length (modelM d a) := modS_at rfl mk.ne
  obtain ⟨S1, hS1⟩ : ∃ S1, S1 = st ++ (modelM d a).S st.length := ⟨_, rfl⟩
  rw [← hS1] at hM0 ⊢
  refine newR_W ?_
  refine T.init (toks_good h4) toks_bal (by omega) (by omega) (by rw [ctls_cts]; omega) (done_dep h3) ⟨rfl, ?_⟩
  have hP := paraS_at (st := S1) (ts := a.toks) (txt := fmt a.toks) (base := d) (pl := chars a.toks) (stk := ((BS.init d).run a.toks).stk) (hom := ((BS.init d).run a.toks).hom) (bs := ((BS.init d).run a.toks).done)
  have hM := hM0.app (l := paraS S1.length a.toks (fmt a.toks) d (chars a.toks) ((BS.init d).run a.toks).stk ((BS.init d).run a.toks).hom ((BS.init d).run a.toks).done)
  have hS0 : ∃ l, S1 ++ paraS S1.length a.toks (fmt a.toks) d (chars a.toks) ((BS.init d).run a.toks).stk ((BS.init d).run a.toks).hom ((BS.init d).run a.toks).done = st ++ l := ⟨_, by rw [hS1, List.append_assoc]⟩
  clear hS1
  generalize S1 ++ paraS S1.length a.toks (fmt a.toks) d (chars a.toks) ((BS.init d).run a.toks).stk ((BS.init d).run a.toks).hom ((BS.init d).run a.toks).done = S0 at hP hM hS0
  have kl := mk.ml
  simp [hM.g4, mDc, isKey, dget, hM.g3, mBl, inR_of (i := ((modelM d a).ms.length : Int)) (by omega) (by omega)]
  refine forL_W (rtI st d a S1.length S0 (modelM d a).ms.length) ⟨0, [], _, _, _, _, rfl, by simp, rfl⟩ ?_ ?_
  · rintro x r σ S ⟨j, g, o2, o5, o6, o7, p1, rfl, rfl⟩
    have hj : j < (modelM d a).ms.length := by
      rcases Nat.lt_or_ge j (modelM d a).ms.length with h | h
      · exact h
      · rw [rangeL_nil (by omega)] at p1; cases p1
    rw [rangeL_cons (by omega)] at p1
    simp only [List.cons.injEq] at p1
    obtain ⟨rfl, rfl⟩ := p1
    obtain ⟨b, hb⟩ : ∃ b, ((BS.init d).run a.toks).done[j]? = some b := by
      have : j < ((BS.init d).run a.toks).done.length := by
        have := congrArg List.length e1
        simp at this
        omega
      exact ⟨_, List.getElem?_eq_getElem this⟩
    have hm : (modelM d a).ms[j]? = some (b.d, b.con) := by
      rw [← e1, List.getElem?_map, hb]
      rfl
    have hcl := mk.cl j _ hm
    have hrg := ad.rg j _ hm
    have hiso := ib j _ hm
    have hbd : ∀ it ∈ itemsP (chars a.toks) b.con, bdI 100000 it := fun it hit => by
      have := items_bd (pl := chars a.toks) (M := 100) (l := b.con) (fun y hy => by
        cases y with
        | ch i =>
          have := hrg i hy
          have := mk.sl
          show i ≤ 100
          omega
        | iso c =>
          have := hiso c hy
          show c ≤ 100
          omega
        | mk q => trivial) (by simp at hcl; omega) it hit
      cases it <;> simp [bdI] at this ⊢ <;> omega
    simp at hcl
    simp
    refine T.litems hM.app hm hrg (ad.ad j _ hm) (by simp; omega) ?_
    simp [inR_of (i := 2) (by omega) (by omega)]
    rw [e3]
    obtain ⟨y, hy⟩ := rep_its hbd (Nat.le_trans itemsP_len (by omega))
    refine forL_W (riI st d a S1.length S0 j (itemsP (chars a.toks) b.con)) ⟨g, o6, o7, rfl, rfl⟩ ?_ ?_
    · rintro x r σ S ⟨g, o6, o7, rfl, rfl⟩
      simp
      refine T.items hP.app hb (by unfold LIM; omega) (by rw [e2, e3]) (by rw [← e3]; exact hrg) (fun c hc => chars_ok h4 c hc) (by omega) ?_
      have il : (itemsP (chars a.toks) b.con).length < LIM := by have := itemsP_len (pl := chars a.toks) (con := b.con); unfold LIM; omega
      simp [tyIn, isTy, T.rep, hy, il]
      exact ⟨_, some x, _, rfl, rfl⟩
    · rintro σ S ⟨g, o6, o7, rfl, rfl⟩
      exact ⟨j + 1, g, _, _, _, _, by simp, rfl, rfl⟩
  · rintro σ S ⟨j, g, o2, o5, o6, o7, p1, rfl, rfl⟩
    obtain ⟨l, rfl⟩ := hS0
    simp [fin]
    exact h
end K12
set_option Elab.async false
set_option linter.all false
set_option maxRecDepth 10000
set_option maxHeartbeats 4000000
namespace K12
open PV LB
theorem gc_fst_bl {frz : Bool} {st₀ st : Store} {b : Bool} : (gc frz st₀ st (.bl b)).1 = .bl b := by
  unfold gc
  have e : (if frz then fz st₀.length st 4 (.bl b) else .bl b) = D.bl b := by split
                                                                              · exact fz_id rfl
                                                                              · rfl
  simp only [e]
  split <;> rfl
def FigOk (Φ : Prog) : Prop := ∀ {b : Nat} {B : Bx} {k : Nat} {st : Store} {Q : D → Store → Prop} {E : Exn → Store → Prop}, st[b]? = some B.o → B.Ok k → k ≤ 2 ^ 30 →
  (∀ (a : Nd) (B' : Bx), a.chs ≤ 40 → a.cts ≤ 40 → a.dp ≤ 11 → a.ok = true → B'.Ok (k + 50) → Q (.frz a.data) (st.set b B'.o)) → (Φ.call "" "_law_figures" [.ref b] [] st).W Q E
def RightOk (Φ : Prog) : Prop := ∀ {d : Bool} {a : Nd} {st : Store} {Q : D → Store → Prop} {E : Exn → Store → Prop}, a.chs ≤ 40 → a.cts ≤ 40 → a.dp ≤ 11 → a.ok = true → Q (.bl true) st → (Φ.call "" "_law_right" [.str (dirS d), .frz a.data] [] st).W Q E
structure LawT (Φ : Prog) : Prop where
  cell : CellOk Φ
  box : BoxOk Φ
  drawn : DrawnOk Φ
  fig : FigOk Φ
  right : RightOk Φ
def lawI (ns : List Int) (N : Int) (ds : List D) (σ : Env) (st' : Store) : Prop := ∃ (i : Nat) (o1 o2 o3 o4 : Option D), ds = rangeL i N ∧ σ = [some (.scr ns), o1, o2, o3, o4]
theorem law_body {Φ : Prog} {Wf : Nat} (H : LawT Φ) {ns : List Int} : (bodyR Φ Wf G.f_law [.scr ns] []).W (fun d _ => d = .bl true) noE := by
  apply body_W
  simp [G.f_law, startE]
  have hN : ∃ N : Int, (if (2 : Int) < if (ns.length : Int) < 6 then (ns.length : Int) else 6 then if (ns.length : Int) < 6 then (ns.length : Int) else 6 else 2) = N ∧ 0 ≤ N ∧ N ≤ 6 := ⟨_, rfl, by split <;> (try split) <;> omega, by split <;> (try split) <;> omega⟩
  obtain ⟨N, e, n0, n1⟩ := hN
  rw [e]
  simp [inR_of (i := N) (by omega) (by omega)]
  refine forL_W (lawI ns N) ⟨0, none, none, none, none, rfl, rfl⟩ ?_ ?_
  · rintro d r σ st ⟨i, o1, o2, o3, o4, e1, rfl⟩
    have hi : (i : Int) < N := by
      rcases Int.lt_or_le (i : Int) N with h | h
      · exact h
      · rw [rangeL_nil h] at e1; cases e1
    rw [rangeL_cons hi] at e1
    simp only [List.cons.injEq] at e1
    obtain ⟨rfl, rfl⟩ := e1
    simp
    refine H.cell fun c => ?_
    try simp
    refine H.box fun B hB => ?_
    try simp
    refine H.drawn (k := 0) (B := B) end_get hB (by omega) fun a q B1 a1 a2 a3 a4 hB1 => ?_
    rw [end_set]
    try simp
    refine H.right a1 a2 a3 a4 ?_
    simp
    refine H.fig (k := 0 + 9000) (B := B1) end_get hB1 (by omega) fun a' B2 b1 b2 b3 b4 hB2 => ?_
    rw [end_set]
    try simp
    refine H.right b1 b2 b3 b4 ?_
    simp
    exact ⟨i + 1, _, _, _, _, by simp, rfl⟩
  · rintro σ st ⟨i, o1, o2, o3, o4, e1, rfl⟩
    simp [fin, gc_fst_bl]
end K12
set_option Elab.async false
set_option linter.all false
set_option maxRecDepth 10000
set_option maxHeartbeats 4000000
namespace K12
open PV LB
abbrev W0 : Nat := 100000
abbrev Ph (n : Nat) : Prog := G.tab.prog (callN G.tab W0 n)
theorem paraC (n : Nat) : ParaC (Ph n) := ⟨rfl, rfl, rfl, rfl, rfl, rfl, rfl, rfl, rfl, rfl, rfl, rfl, rfl, rfl, rfl, rfl⟩
theorem paraT (n : Nat) : ParaT (Ph n) := ⟨rfl, rfl, rfl, rfl, rfl⟩
theorem paraM (n : Nat) : ParaM (Ph n) := ⟨rfl, rfl, rfl, rfl⟩
theorem kindG (n : Nat) : KindG (Ph n) := ⟨rfl, rfl, rfl, rfl⟩
theorem signsT (n : Nat) : SignsT (Ph n) := ⟨rfl⟩
theorem dirsG (n : Nat) : (Ph n).glob "DIRECTIONS" = some (.tup [.str sLtr, .str sRtl]) := rfl
theorem take {N : Nat} (h : 1 ≤ N) : TakeOk (Ph N) := by
  obtain ⟨n, rfl⟩ : ∃ n, N = n + 1 := ⟨N - 1, by omega⟩
  exact fun hb hB hk w0 w1 h => call_W (T := G.tab) (Wf := W0) (fn := G.fddlaw_take) rfl rfl (take_body (p := 8311) (q := 239) (ps := ["_law_box_here", "_law_many"]) (by decide) (by decide) (by decide) (by decide) hb hB hk w0 w1 h)
theorem box {N : Nat} (h : 1 ≤ N) : BoxOk (Ph N) := by
  obtain ⟨n, rfl⟩ : ∃ n, N = n + 1 := ⟨N - 1, by omega⟩
  exact fun h => call_W (T := G.tab) (Wf := W0) (fn := G.fddlaw_box) rfl rfl (box_body (ps := ["_law_cell_here"]) h)
theorem cell {N : Nat} (h : 1 ≤ N) : CellOk (Ph N) := by
  obtain ⟨n, rfl⟩ : ∃ n, N = n + 1 := ⟨N - 1, by omega⟩
  exact fun h => call_W (T := G.tab) (Wf := W0) (fn := G.fddlaw_cell) rfl rfl (cell_body (p := 8311) (q := 239) (ps := ["_law_script", "_law_k"]) (by decide) (by decide) h)
theorem isCh {N : Nat} (h : 1 ≤ N) : IsCharOk (Ph N) := by
  obtain ⟨n, rfl⟩ : ∃ n, N = n + 1 := ⟨N - 1, by omega⟩
  exact fun h => call_W (T := G.tab) (Wf := W0) (fn := G.f_is_character) rfl rfl (is_character_body h)
theorem tokens {N : Nat} (h : 2 ≤ N) : TokensOk (Ph N) true := by
  obtain ⟨n, rfl⟩ : ∃ n, N = n + 1 := ⟨N - 1, by omega⟩
  refine fun {ts} _ _ _ hg hb hl h' => call_W (T := G.tab) (Wf := W0) (fn := G.f_tokens) rfl rfl (tokens_any (fz := true) (signsT _) (isCh (by omega)) rfl (by omega) (by show _ < 100000; omega) (fun us hu => ?_) (fun p hp => ?_))
  · rw [parse_fmt hg hb] at hu
    cases hu
    exact h'
  · rw [parse_fmt hg hb] at hp
    cases hp
theorem isDir {N : Nat} (h : 1 ≤ N) (d : Bool) : Pure1 (Ph N) "is_direction" (.str (dirS d)) (.bl true) := by
  obtain ⟨n, rfl⟩ : ∃ n, N = n + 1 := ⟨N - 1, by omega⟩
  refine fun h => call_W (T := G.tab) (Wf := W0) (fn := G.f_is_direction) rfl rfl ?_
  apply body_W
  cases d <;> (simp [G.f_is_direction, P.f_is_direction, startE, tyIn, isTy, fin, dirsG, dirS]; exact h)
theorem needDir {N : Nat} (h : 2 ≤ N) : NeedDirOk (Ph N) := by
  obtain ⟨n, rfl⟩ : ∃ n, N = n + 1 := ⟨N - 1, by omega⟩
  refine fun h' => call_W (T := G.tab) (Wf := W0) (fn := G.f_need_direction) rfl rfl ?_
  apply body_W
  simp [G.f_need_direction, P.f_need_direction, startE]
  refine isDir (by omega) _ ?_
  simp [fin]
  exact h'
theorem recI {N : Nat} (h : 1 ≤ N) : RecOk (Ph N) := by
  obtain ⟨n, rfl⟩ : ∃ n, N = n + 1 := ⟨N - 1, by omega⟩
  exact fun hm h => call_W (T := G.tab) (Wf := W0) (fn := G.m_BlockRecord_init) rfl rfl (record_body (paraC _) hm h)
theorem keep {N : Nat} (h : 1 ≤ N) : KeepOk (Ph N) := by
  obtain ⟨n, rfl⟩ : ∃ n, N = n + 1 := ⟨N - 1, by omega⟩
  exact fun hs hb h => call_W (T := G.tab) (Wf := W0) (fn := G.m_Paragraph_keep_token) rfl rfl (keep_body (paraC _) hs hb h)
theorem build {N : Nat} (h : 2 ≤ N) : BuildOk (Ph N) := by
  obtain ⟨n, rfl⟩ : ∃ n, N = n + 1 := ⟨N - 1, by omega⟩
  exact fun hb hl h' => call_W (T := G.tab) (Wf := W0) (fn := G.m_Paragraph_build) rfl rfl (build_body (paraC _) (keep (by omega)) (recI (by omega)) hb hl h')
theorem ctl {N : Nat} (h : 1 ≤ N) : CtlOk (Ph N) := by
  obtain ⟨n, rfl⟩ : ∃ n, N = n + 1 := ⟨N - 1, by omega⟩
  exact fun {st _ _ _ _ _} hf hn hl h => call_W (T := G.tab) (Wf := W0) (fn := G.m_Paragraph_control_count) rfl rfl (ctl_body (l := st) (paraC _) hf hn hl h)
theorem initOk {N : Nat} (h : 3 ≤ N) : InitOk (Ph N) := by
  obtain ⟨n, rfl⟩ : ∃ n, N = n + 1 := ⟨N - 1, by omega⟩
  exact fun g b hl c1 c2 c3 h' => call_W (T := G.tab) (Wf := W0) (fn := G.m_Paragraph_init) rfl rfl (init_body (paraC _) (paraT _) (tokens (by omega)) (needDir (by omega)) (ctl (by omega)) (build (by omega)) g b hl (fun _ _ _ => h') (fun q => by omega) (fun _ q => by omega) (fun _ _ q => by omega))
theorem sign {N : Nat} (h : 2 ≤ N) : SignOk (Ph N) := by
  obtain ⟨n, rfl⟩ : ∃ n, N = n + 1 := ⟨N - 1, by omega⟩
  exact fun hb hB hk h' => call_W (T := G.tab) (Wf := W0) (fn := G.fddlaw_sign) rfl rfl (sign_body (take (by omega)) hb hB hk h')
theorem nodes : ∀ (m N : Nat), m ≤ 11 → m + 3 ≤ N → NodesOk (Ph N) m
  | 0, N, hm, h => by
    obtain ⟨n, rfl⟩ : ∃ n, N = n + 1 := ⟨N - 1, by omega⟩
    exact fun hn hb hl hB hk c0 c1 e0 e1 h' => call_W (T := G.tab) (Wf := W0) (fn := G.fddlaw_nodes) rfl rfl (nodes_body (take (by omega)) (sign (by omega)) (fun j e => by cases e) hm hn hb hl hB hk c0 c1 e0 e1 h')
  | m + 1, N, hm, h => by
    obtain ⟨n, rfl⟩ : ∃ n, N = n + 1 := ⟨N - 1, by omega⟩
    exact fun hn hb hl hB hk c0 c1 e0 e1 h' => call_W (T := G.tab) (Wf := W0) (fn := G.fddlaw_nodes) rfl rfl (nodes_body (take (by omega)) (sign (by omega)) (fun j e => by cases e; exact nodes m n (by omega) (by omega)) hm hn hb hl hB hk c0 c1 e0 e1 h')
theorem drawn {N : Nat} (h : 15 ≤ N) : DrawnOk (Ph N) := by
  obtain ⟨n, rfl⟩ : ∃ n, N = n + 1 := ⟨N - 1, by omega⟩
  exact fun hb hB hk h' => call_W (T := G.tab) (Wf := W0) (fn := G.fddlaw_drawn) rfl rfl (drawn_body (take (by omega)) (nodes 11 n (by omega) (by omega)) hb hB hk h')
theorem figs {N : Nat} (h : 2 ≤ N) : FigOk (Ph N) := by
  obtain ⟨n, rfl⟩ : ∃ n, N = n + 1 := ⟨N - 1, by omega⟩
  exact fun hb hB hk h' => call_W (T := G.tab) (Wf := W0) (fn := G.fddlaw_figures) rfl rfl (figures_body (take (by omega)) hb hB hk h')
theorem text : ∀ (m N : Nat), m + 1 ≤ N → TxtOk (Ph N) m
  | 0, N, h => by
    obtain ⟨n, rfl⟩ : ∃ n, N = n + 1 := ⟨N - 1, by omega⟩
    exact fun hd hl h' => call_W (T := G.tab) (Wf := W0) (fn := G.fddlaw_text) rfl rfl (text_body (fun j e => by cases e) hd hl h')
  | m + 1, N, h => by
    obtain ⟨n, rfl⟩ : ∃ n, N = n + 1 := ⟨N - 1, by omega⟩
    exact fun hd hl h' => call_W (T := G.tab) (Wf := W0) (fn := G.fddlaw_text) rfl rfl (text_body (fun j e => by cases e; exact text m n (by omega)) hd hl h')
theorem fill : ∀ (m N : Nat), m + 1 ≤ N → FillOk (Ph N) m
  | 0, N, h => by
    obtain ⟨n, rfl⟩ : ∃ n, N = n + 1 := ⟨N - 1, by omega⟩
    exact fun hp hs hb hN hd h' => call_W (T := G.tab) (Wf := W0) (fn := G.fddlaw_fill) rfl rfl (fill_body (fun j e => by cases e) hp hs hb hN hd h')
  | m + 1, N, h => by
    obtain ⟨n, rfl⟩ : ∃ n, N = n + 1 := ⟨N - 1, by omega⟩
    exact fun hp hs hb hN hd h' => call_W (T := G.tab) (Wf := W0) (fn := G.fddlaw_fill) rfl rfl (fill_body (fun j e => by cases e; exact fill m n (by omega)) hp hs hb hN hd h')
theorem model {N : Nat} (h : 13 ≤ N) : ModelOk (Ph N) 11 := by
  obtain ⟨n, rfl⟩ : ∃ n, N = n + 1 := ⟨N - 1, by omega⟩
  exact fun hd hN h' => call_W (T := G.tab) (Wf := W0) (fn := G.fddlaw_model) rfl rfl (model_body (fill 11 n (by omega)) hd hN h')
theorem isInt {N : Nat} (h : 1 ≤ N) : IsIntOk (Ph N) := by
  obtain ⟨n, rfl⟩ : ∃ n, N = n + 1 := ⟨N - 1, by omega⟩
  exact fun h' => call_W (T := G.tab) (Wf := W0) (fn := G.f_is_integer) rfl rfl (is_integer_body h')
theorem recOf {N : Nat} (h : 2 ≤ N) : RecOfOk (Ph N) := by
  obtain ⟨n, rfl⟩ : ∃ n, N = n + 1 := ⟨N - 1, by omega⟩
  exact fun hp hj h' => call_W (T := G.tab) (Wf := W0) (fn := G.m_Paragraph_record_of) rfl rfl (record_of_body (paraC _) (isInt (by omega)) hp hj h')
theorem cont {N : Nat} (h : 3 ≤ N) : ContOk (Ph N) := by
  obtain ⟨n, rfl⟩ : ∃ n, N = n + 1 := ⟨N - 1, by omega⟩
  exact fun hp hb h' => call_W (T := G.tab) (Wf := W0) (fn := G.m_Paragraph_contents) rfl rfl (contents_body (paraC _) (paraM _) (recOf (by omega)) hp hb h')
theorem needNum {N : Nat} (h : 2 ≤ N) : NeedNumOk (Ph N) := by
  obtain ⟨n, rfl⟩ : ∃ n, N = n + 1 := ⟨N - 1, by omega⟩
  exact fun hp hj h' => call_W (T := G.tab) (Wf := W0) (fn := G.m_Paragraph_need_number) rfl rfl (need_number_body (paraC _) (isInt (by omega)) hp hj h')
theorem charAt {N : Nat} (h : 3 ≤ N) : CharAtOk (Ph N) := by
  obtain ⟨n, rfl⟩ : ∃ n, N = n + 1 := ⟨N - 1, by omega⟩
  exact fun hp hj hc hl h' => call_W (T := G.tab) (Wf := W0) (fn := G.m_Paragraph_character) rfl rfl (character_body (paraC _) (paraM _) (needNum (by omega)) hp hj hc hl h')
theorem needCh {N : Nat} (h : 2 ≤ N) : NeedChOk (Ph N) := by
  obtain ⟨n, rfl⟩ : ∃ n, N = n + 1 := ⟨N - 1, by omega⟩
  exact fun h1 h' => call_W (T := G.tab) (Wf := W0) (fn := G.f_need_character) rfl rfl (need_character_body (isCh (by omega)) h1 h')
theorem kind {N : Nat} (h : 3 ≤ N) : KindOk (Ph N) := by
  obtain ⟨n, rfl⟩ : ∃ n, N = n + 1 := ⟨N - 1, by omega⟩
  exact fun h1 h' => call_W (T := G.tab) (Wf := W0) (fn := G.f_character_kind) rfl rfl (character_kind_body (kindG _) (needCh (by omega)) h1 h')
theorem contK {N : Nat} (h : 4 ≤ N) : ContKOk (Ph N) := by
  obtain ⟨n, rfl⟩ : ∃ n, N = n + 1 := ⟨N - 1, by omega⟩
  exact fun hp hl hh hx hi h' => call_W (T := G.tab) (Wf := W0) (fn := G.f_content_kind) rfl rfl (content_kind_body (paraM _) (kind (by omega)) (charAt (by omega)) hp hl hh hx hi h')
theorem numStop {N : Nat} (h : 1 ≤ N) : NumStopOk (Ph N) := by
  obtain ⟨n, rfl⟩ : ∃ n, N = n + 1 := ⟨N - 1, by omega⟩
  exact fun hs hl h' => call_W (T := G.tab) (Wf := W0) (fn := G.f_number_stop) rfl rfl (number_stop_body hs hl (by show _ < 100000; omega) h')
theorem items {N : Nat} (h : 5 ≤ N) : ItemsOk (Ph N) := by
  obtain ⟨n, rfl⟩ : ∃ n, N = n + 1 := ⟨N - 1, by omega⟩
  refine fun hp hb hl hh hx hi hcl h' => call_W (T := G.tab) (Wf := W0) (fn := G.f_items) rfl rfl (items_body (paraM _) ?_ (cont (by omega)) (contK (by omega)) (numStop (by omega)) hp hb hl hh hx hi hcl (by show _ < 100000; omega) ?_)
  · intro p st ts txt pl base Q E hp hq
    obtain ⟨k, rfl⟩ : ∃ k, n = k + 1 := ⟨n - 1, by omega⟩
    exact call_W (T := G.tab) (Wf := W0) (fn := G.f_need_paragraph) rfl rfl (need_par_body rfl hp hq)
  · rw [gc_own (Nat.le_refl _)]
    exact h'
theorem lkind {N : Nat} (h : 1 ≤ N) : LKindOk (Ph N) := by
  obtain ⟨n, rfl⟩ : ∃ n, N = n + 1 := ⟨N - 1, by omega⟩
  exact fun h' => call_W (T := G.tab) (Wf := W0) (fn := G.fddlaw_kind) rfl rfl (lkind_body h')
theorem litems {N : Nat} (h : 2 ≤ N) : LItemsOk (Ph N) := by
  obtain ⟨n, rfl⟩ : ∃ n, N = n + 1 := ⟨N - 1, by omega⟩
  exact fun hm hb hx ad hcl h' => call_W (T := G.tab) (Wf := W0) (fn := G.fddlaw_items) rfl rfl (litems_body (lkind (by omega)) hm hb hx ad hcl h')
theorem right {N : Nat} (h : 20 ≤ N) : RightOk (Ph N) := by
  obtain ⟨n, rfl⟩ : ∃ n, N = n + 1 := ⟨N - 1, by omega⟩
  exact fun h1 h2 h3 h4 h' => call_W (T := G.tab) (Wf := W0) (fn := G.fddlaw_right) rfl rfl (right_body ⟨model (by omega), text 11 n (by omega), initOk (by omega), items (by omega), litems (by omega), rfl⟩ h1 h2 h3 h4 h')
theorem lawT {N : Nat} (h : 30 ≤ N) : LawT (Ph N) := ⟨cell (by omega), box (by omega), drawn (by omega), figs (by omega), right (by omega)⟩
end K12
theorem LawRight.all (ns : List Int) (h : ns.length ≤ 63) : ∃ st, PV.callN G.tab 100000 60 "" "law" [.scr ns] [] [] = .ok (.bl true) st := by
  have q : (PV.callN G.tab 100000 60 "" "law" [.scr ns] [] []).W (fun d _ => d = .bl true) PV.noE :=
    PV.callN_W (n := 59) (fn := G.f_law) rfl rfl (K12.law_body (K12.lawT (N := 59) (by omega)))
  obtain ⟨d, st, e, rfl⟩ := q.ok
  exact ⟨st, e⟩
open PySem PySem.W PySem.Calls PyProof.Rows
theorem PySem.Challenge.cw_bidiplan_k12_items_of_blocks_holds : PySem.Challenge.rw_bidiplan_k12_items_of_blocks.Holds := by
  w_on; o_law
  refine HandSHeadRun.head_any (r := OpenLaw.row PySem.Challenge.rw_bidiplan_k12_items_of_blocks) (q := view (OpenLaw.row PySem.Challenge.rw_bidiplan_k12_items_of_blocks).prog [52]) (H := Hd.hk) (ob := Hd.ob) (M := 20000) (loose := Hd.loose) (d := HandSHeadRun.topDef (OpenLaw.row PySem.Challenge.rw_bidiplan_k12_items_of_blocks).prog 52) (kwd := []) Hd.ob_eq
    (by kernel_rfl) (fun s => by kernel_rfl) Hd.run (by kernel_rfl) (by kernel_rfl) (by kernel_rfl) (by rfl) (by first | assumption | decide +kernel) (by decide +kernel) ⟨rfl, rfl, rfl, rfl, rfl, by decide +kernel⟩ ?hw ?hc
  case hw => w_witness2
  case hc =>
    exact PV.walk_tab (l := PySem.Challenge.rw_bidiplan_k12_items_of_blocks) (N := 63) (n := 60) (Wf := 100000) rfl (by decide) (by kernel_rfl) (by kernel_rfl) ⟨rfl, by decide, by decide⟩ Hd.stat Hd.xst Hd.bnd Hd.hex (by decide +kernel) (by decide +kernel) LawRight.all
