import PyProof.Rows.All
import Wide.All
import OpenK.AllK
import Wide.FinOn
import HandS.ForMost
import HandS.Exc
import HandS.ExcOwn
import HandS.TryOnly
import HandS.WordsExc
import HandS.Deep
import KE.KDictKeyed
import HandS.Star
import PyProof.Rows.SeqRoads
import HandS.TupAny
import HandS.TupMul
import HandS.Codes
import HandS.Strs
import HandS.Conv
import HandS.Style
import HandS.Wide
import PyProof.AutoSeq1
import HandS.SortInts
import HandS.RaiseMore
import HandS.Iter
import HandS.ExcIs
import HandS.Zip
import HandS.Rev
import KE.GoesMore
import PyProof.EnumMake
import HandS.IsInst
import HandS.Dict
import HandS.Ends
import PyProof.ReprBulk
import PySem.Challenge.RW_spansay_k07_whole_ways_behind_ways
set_option Elab.async false
set_option linter.all false
set_option maxRecDepth 100000
/-! ZA: abstract values, a small language, its interpreter. -/
namespace Z
open PySem

/-- a value: tuples and frozen lists are trees, what may change has a number -/
inductive AV where
  | non | bl (b : Bool) | int (i : Int) | str (x : Str)
  | tup (xs : List AV) | lst (xs : List AV) | ext (xs : List AV)
  | ref (n : Nat) | exn (c : Str) | rep (d : PyData)
  | wlk (k n : Nat)

/-- what stands at a number -/
inductive AO where
  | lst (xs : List AV)
  | dct (kvs : List (NestedKey × AV))
  | ins (C : Str) (fs : List (Str × AV))

abbrev AH := List AO
/-- an exception: its class -/
structure Ex where
  cls : Str

inductive Out (α : Type) where
  | ok (a : α) (h : AH)
  | exc (x : Ex) (h : AH)
abbrev M (α : Type) := AH → Option (Out α)
def ret {α : Type} (a : α) : M α := fun h => some (.ok a h)
def stuck {α : Type} : M α := fun _ => none
def bnd {α β : Type} (m : M α) (k : α → M β) : M β := fun h => match m h with
  | some (.ok a h') => k a h'
  | some (.exc x h') => some (.exc x h')
  | none => none
def wp {α : Type} (m : M α) (Q : α → AH → Prop) (E : Ex → AH → Prop) (h : AH) : Prop := match m h with
  | some (.ok a h') => Q a h'
  | some (.exc x h') => E x h'
  | none => False
theorem wp_ret {α : Type} {a : α} {Q : α → AH → Prop} {E : Ex → AH → Prop} {h : AH} : wp (ret a) Q E h = Q a h := rfl
theorem wp_stuck {α : Type} {Q : α → AH → Prop} {E : Ex → AH → Prop} {h : AH} : wp (stuck : M α) Q E h = False := rfl
theorem wp_bnd {α β : Type} {m : M α} {k : α → M β} {Q : β → AH → Prop} {E : Ex → AH → Prop} {h : AH} : wp (bnd m k) Q E h = wp m (fun a h' => wp (k a) Q E h') E h := by
  unfold wp bnd
  cases m h with
  | none => rfl
  | some o => cases o <;> rfl
theorem wp_mono {α : Type} {m : M α} {Q Q' : α → AH → Prop} {E E' : Ex → AH → Prop} {h : AH} (x : wp m Q E h) (q : ∀ a h', Q a h' → Q' a h') (e : ∀ a h', E a h' → E' a h') : wp m Q' E' h := by
  unfold wp at x ⊢
  cases hm : m h with
  | none => rw [hm] at x; exact x
  | some o =>
    rw [hm] at x
    cases o with
    | ok a h' => exact q _ _ x
    | exc a h' => exact e _ _ x

theorem bnd_assoc {α β γ : Type} (m : M α) (k : α → M β) (k' : β → M γ) : bnd (bnd m k) k' = bnd m fun a => bnd (k a) k' := by
  funext h
  unfold bnd
  cases m h with
  | none => rfl
  | some o => cases o <;> rfl
theorem ret_bnd {α β : Type} (a : α) (k : α → M β) : bnd (ret a) k = k a := rfl
theorem stuck_bnd {α β : Type} (k : α → M β) : bnd stuck k = stuck := rfl

/-! ### what the operations do -/
def big : Nat := 16777216
def cut {α : Type} (xs : List α) (lo hi : Option Int) : List α :=
  (xs.drop (HT.sIx xs.length 0 lo)).take (HT.sIx xs.length xs.length hi - HT.sIx xs.length 0 lo)
/-- a list's items -/
def getL (h : AH) : AV → Option (List AV)
  | .lst xs => some xs
  | .ext xs => some xs
  | .ref n => match h[n]? with
    | some (.lst xs) => some xs
    | _ => none
  | _ => none
/-- .. of a list that is not locked -/
def getM (h : AH) : AV → Option (List AV)
  | .ext _ => none
  | v => getL h v
/-- the items of a list or tuple -/
def getS (h : AH) : AV → Option (List AV)
  | .tup xs => some xs
  | v => getL h v
/-! ### dicts: keys are ints, texts, or tuples of such -/
mutual
/-- a value as a key -/
def keyA : AV → Option NestedKey
  | .non => some .none
  | .int i => some (.num i)
  | .str x => some (.text x)
  | .tup xs => (keysA xs).map NestedKey.tup
  | _ => none
def keysA : List AV → Option (List NestedKey)
  | [] => some []
  | x :: xs => match keyA x, keysA xs with
    | some k, some ks => some (k :: ks)
    | _, _ => none
end
mutual
/-- a key as a value -/
def kav : NestedKey → AV
  | .none => .non
  | .num i => .int i
  | .text x => .str x
  | .tup ks => .tup (kavs ks)
def kavs : List NestedKey → List AV
  | [] => []
  | k :: ks => kav k :: kavs ks
end
mutual
theorem keyA_kav : ∀ {v : AV} {k : NestedKey}, keyA v = some k → v = kav k
  | .non, _, e => by cases e; rfl
  | .int _, _, e => by cases e; rfl
  | .str _, _, e => by cases e; rfl
  | .tup xs, k, e => by
    simp only [keyA, Option.map_eq_some_iff] at e
    obtain ⟨ks, e1, rfl⟩ := e
    rw [keysA_kavs e1]; rfl
  | .bl _, _, e | .lst _, _, e | .ext _, _, e | .ref _, _, e | .exn _, _, e | .rep _, _, e | .wlk _ _, _, e => by cases e
theorem keysA_kavs : ∀ {vs : List AV} {ks : List NestedKey}, keysA vs = some ks → vs = kavs ks
  | [], _, e => by cases e; rfl
  | x :: xs, _, e => by
    simp only [keysA] at e
    split at e
    · rename_i k ks h1 h2
      cases e
      rw [keyA_kav h1, keysA_kavs h2]; rfl
    · cases e
end
mutual
theorem kav_keyA : ∀ (k : NestedKey), keyA (kav k) = some k
  | .none => rfl
  | .num _ => rfl
  | .text _ => rfl
  | .tup ks => by simp only [kav, keyA, kavs_keysA ks, Option.map_some]
theorem kavs_keysA : ∀ (ks : List NestedKey), keysA (kavs ks) = some ks
  | [] => rfl
  | k :: ks => by simp only [kavs, keysA, kav_keyA k, kavs_keysA ks]
end
def isTk : NestedKey → Bool
  | .tup _ => true
  | _ => false
/-- .. of a dict -/
def dkey (v : AV) : Option NestedKey := (keyA v).bind fun k => if k.depth ≤ 8 ∧ k ≠ .none then some k else none
/-- keys of one sort -/
def fits (kvs : List (NestedKey × AV)) (k : NestedKey) : Bool := kvs.all fun p => isTk p.1 == isTk k
def getN (kvs : List (NestedKey × AV)) (k : NestedKey) : Option AV := (kvs.find? fun p => decide (p.1 = k)).map (·.2)
def putN (kvs : List (NestedKey × AV)) (k : NestedKey) (v : AV) : List (NestedKey × AV) :=
  if (kvs.any fun p => decide (p.1 = k)) = true then kvs.map (fun p => if p.1 = k then (p.1, v) else p) else kvs ++ [(k, v)]
def getD (h : AH) : AV → Option (List (NestedKey × AV))
  | .ref n => match h[n]? with
    | some (.dct kvs) => some kvs
    | _ => none
  | _ => none
/-- what a dict holds at a key -/
def dgetA (kvs : List (NestedKey × AV)) (b : AV) : Option (Option AV) := (dkey b).bind fun k => if fits kvs k = true then some (getN kvs k) else none
def dixV (h : AH) (a b : AV) : Option AV := (getD h a).bind fun kvs => (dgetA kvs b).bind id
mutual
/-- as plain data -/
def toD (h : AH) : AV → Option PyData
  | .non => some .none
  | .bl b => some (.bool b)
  | .int i => some (.int i)
  | .str x => some (.str x)
  | .tup xs => (toDs h xs).map PyData.tuple
  | .lst xs => (toDs h xs).map PyData.list
  | _ => none
def toDs (h : AH) : List AV → Option (List PyData)
  | [] => some []
  | x :: xs => match toD h x, toDs h xs with
    | some d, some ds => some (d :: ds)
    | _, _ => none
end
mutual
/-- .. where lists of the heap may stand -/
def toD1 (h : AH) : AV → Option PyData
  | .non => some .none
  | .bl b => some (.bool b)
  | .int i => some (.int i)
  | .str x => some (.str x)
  | .tup xs => (toD1s h xs).map PyData.tuple
  | .lst xs => (toD1s h xs).map PyData.list
  | .ref n => match h[n]? with
    | some (.lst xs) => (toDs h xs).map PyData.list
    | _ => none
  | _ => none
def toD1s (h : AH) : List AV → Option (List PyData)
  | [] => some []
  | x :: xs => match toD1 h x, toD1s h xs with
    | some d, some ds => some (d :: ds)
    | _, _ => none
end
mutual
theorem toD_toD1 {h : AH} : ∀ {v : AV} {d : PyData}, toD h v = some d → toD1 h v = some d
  | .non, _, e => e
  | .bl _, _, e => e
  | .int _, _, e => e
  | .str _, _, e => e
  | .tup xs, d, e => by
    simp only [toD, Option.map_eq_some_iff] at e
    obtain ⟨ds, e1, rfl⟩ := e
    simp only [toD1, toDs_toD1s e1, Option.map_some]
  | .lst xs, d, e => by
    simp only [toD, Option.map_eq_some_iff] at e
    obtain ⟨ds, e1, rfl⟩ := e
    simp only [toD1, toDs_toD1s e1, Option.map_some]
  | .ext _, _, e => by cases e
  | .ref _, _, e => by cases e
  | .exn _, _, e => by cases e
  | .rep _, _, e => by cases e
  | .wlk _ _, _, e => by cases e
theorem toDs_toD1s {h : AH} : ∀ {xs : List AV} {ds : List PyData}, toDs h xs = some ds → toD1s h xs = some ds
  | [], _, e => e
  | x :: xs, _, e => by
    simp only [toDs] at e
    split at e
    · rename_i d ds h1 h2
      cases e
      simp only [toD1s, toD_toD1 h1, toDs_toD1s h2]
    · cases e
end
mutual
/-- no number from n on is in it -/
def AV.lt (n : Nat) : AV → Prop
  | .tup xs => ltAll n xs
  | .lst xs => ltAll n xs
  | .ext xs => ltAll n xs
  | .ref k => k < n
  | _ => True
def ltAll (n : Nat) : List AV → Prop
  | [] => True
  | x :: xs => x.lt n ∧ ltAll n xs
end
def AO.lt (n : Nat) : AO → Prop
  | .lst xs => ltAll n xs
  | .dct kvs => ∀ p ∈ kvs, p.2.lt n
  | .ins _ fs => ∀ p ∈ fs, p.2.lt n
/-- the heap h' has below h's end what h has, or things without newer numbers -/
def okPre (h h' : AH) : Prop := h.length ≤ h'.length ∧ ∀ i, i < h.length → h'[i]? = h[i]? ∨ ∃ o, h'[i]? = some o ∧ o.lt h.length

inductive BO where | add | sub | mul | mod | fdiv | pow
  deriving DecidableEq
inductive CO where | lt | le | gt | ge | eq | ne | isIn | notIn | isN | notN
  deriving DecidableEq
inductive Bf where | len | tuple | list | int | abs | all | any | sum | repr | min2 | max2 | bool | sorted | max1 | min1
  deriving DecidableEq
inductive Md where | append | extend | index | get | pop | update
  deriving DecidableEq

def smallI (i : Int) : Prop := -(2 ^ 64) < i ∧ i < 2 ^ 64
instance {i : Int} : Decidable (smallI i) := inferInstanceAs (Decidable (_ ∧ _))
def binV (h : AH) (o : BO) (a b : AV) : Option AV := match o, a, b with
  | .add, .int i, .int j => some (.int (i + j))
  | .sub, .int i, .int j => some (.int (i - j))
  | .mul, .int i, .int j => if smallI i ∨ smallI j then some (.int (i * j)) else none
  | .mod, .int i, .int j => if 0 < j then some (.int (i % j)) else if j < 0 then some (.int (i.fmod j)) else none
  | .fdiv, .int i, .int j => if 0 < j ∧ j < 1606938044258990275541962092341162602522202993782792835301376 then some (.int (i / j)) else if j < 0 ∧ -1606938044258990275541962092341162602522202993782792835301376 < j then some (.int (i.fdiv j)) else none
  | .pow, .int i, .int j => if 0 ≤ j ∧ j ≤ 1000000 ∧ i.natAbs < 2 ^ 64 then some (.int (i ^ j.toNat)) else none
  | .add, .str x, .str y => if x.length + y.length ≤ big then some (.str (x ++ y)) else none
  | .add, .tup xs, .tup ys => if xs.length + ys.length ≤ big then some (.tup (xs ++ ys)) else none
  | .add, x, y => match getM h x, getM h y with
    | some xs, some ys => if xs.length + ys.length ≤ big then some (.lst (xs ++ ys)) else none
    | _, _ => none
  | .mul, .tup xs, .int k => if xs ≠ [] ∧ 1 ≤ k ∧ k ≤ 1000 ∧ xs.length ≤ 1000 then some (.tup (List.replicate k.toNat xs).flatten) else none
  | .mul, .lst xs, .int k => if 0 ≤ k ∧ k < 2 ^ 63 ∧ xs.length * k.toNat ≤ big then some (.lst (List.replicate k.toNat xs).flatten) else none
  | _, _, _ => none
def isScal : AV → Bool
  | .non | .bl _ | .int _ | .str _ => true
  | _ => false
/-- == : of two scalars of one kind, or of data not too deep -/
def eqD (h : AH) (a b : AV) : Option Bool := match toD1 h a, toD1 h b with
  | some d, some e => if min d.depth e.depth ≤ 64 then some (PyData.eqv d e) else none
  | _, _ => none
open Classical in
/-- .. or of two shown texts: told where they show the same -/
noncomputable def eqV (h : AH) (a b : AV) : Option Bool := match a, b with
  | .rep d, .rep e => if d = e then some true else none
  | a, b => eqD h a b
/-- x in a list or a tuple -/
def inV (h : AH) (x : AV) (ys : List AV) : Option Bool := match toD1 h x, toDs h ys with
  | some d, some es => if min d.depth (PyData.depthAll es) ≤ 64 then some (es.any fun z => PyData.eqv z d) else none
  | _, _ => none
noncomputable def cmpV (h : AH) (o : CO) (a b : AV) : Option Bool := match o, a, b with
  | .lt, .int i, .int j => some (decide (i < j))
  | .le, .int i, .int j => some (decide (i ≤ j))
  | .gt, .int i, .int j => some (decide (j < i))
  | .ge, .int i, .int j => some (decide (j ≤ i))
  | .eq, x, y => eqV h x y
  | .ne, x, y => (eqV h x y).map (!·)
  | .isIn, .str x, .str y => some (!(Builtin.Str.occurrences y x 0 y.length 1).isEmpty)
  | .notIn, .str x, .str y => some (!(!(Builtin.Str.occurrences y x 0 y.length 1).isEmpty))
  | .isIn, x, y => match getS h y with
    | some ys => inV h x ys
    | none => (getD h y).bind fun kvs => (dgetA kvs x).map (·.isSome)
  | .notIn, x, y => match getS h y with
    | some ys => (inV h x ys).map (!·)
    | none => (getD h y).bind fun kvs => (dgetA kvs x).map fun o => !o.isSome
  | .isN, x, .non => some (match x with | .non => true | _ => false)
  | .isN, .bl a, .bl b => some (decide (a = b))
  | .notN, x, .non => some (!(match x with | .non => true | _ => false))
  | _, _, _ => none
def ixV (h : AH) (a b : AV) : Option AV := match a, b with
  | .str x, .int i => (L2.atI x.cps.toList i).map fun c => .str ⟨#[c]⟩
  | a, .int i => match getS h a with
    | some xs => L2.atI xs i
    | none => dixV h a (.int i)
  | a, b => dixV h a b
def slV (h : AH) (a : AV) (lo hi : Option Int) : Option AV := match a with
  | .tup xs => some (.tup (cut xs lo hi))
  | .str x => some (.str ⟨(cut x.cps.toList lo hi).toArray⟩)
  | a => (getL h a).map fun xs => .lst (cut xs lo hi)
def asB : AV → Option Bool
  | .bl b => some b
  | _ => none
def asI : AV → Option Int
  | .int b => some b
  | _ => none
def allB : List AV → Option (List Bool)
  | [] => some []
  | x :: xs => match asB x, allB xs with
    | some b, some bs => some (b :: bs)
    | _, _ => none
def allI : List AV → Option (List Int)
  | [] => some []
  | x :: xs => match asI x, allI xs with
    | some b, some bs => some (b :: bs)
    | _, _ => none
/-- ints in order -/
def insI (n : Int) : List Int → List Int
  | [] => [n]
  | m :: r => if n ≤ m then n :: m :: r else m :: insI n r
def sortI (ns : List Int) : List Int := ns.foldr insI []
def bf1 (h : AH) : Bf → AV → Option AV
  | .len, .str x => some (.int x.length)
  | .len, v => match getS h v with
    | some xs => some (.int xs.length)
    | none => (getD h v).map fun kvs => .int kvs.length
  | .tuple, v => (getS h v).map .tup
  | .list, v => (getS h v).map .lst
  | .int, .int i => some (.int i)
  | .int, .bl b => some (.int (if b then 1 else 0))
  | .bool, .bl b => some (.bl b)
  | .abs, .int i => some (.int (if i < 0 then -i else i))
  | .all, v => ((getL h v).bind allB).map fun bs => .bl (bs.all id)
  | .any, v => ((getL h v).bind allB).map fun bs => .bl (bs.any id)
  | .sum, v => ((getL h v).bind allI).map fun ns => .int ns.sum
  | .sorted, v => ((getL h v).bind allI).map fun ns => .lst ((sortI ns).map .int)
  | .max1, v => ((getL h v).bind allI).bind fun ns => match ns with
    | [] => none
    | n :: ns => some (.int (ns.foldl max n))
  | .min1, v => ((getL h v).bind allI).bind fun ns => match ns with
    | [] => none
    | n :: ns => some (.int (ns.foldl min n))
  | .repr, v => (toD1 h v).bind fun d => if d.depth ≤ 64 ∧ d.showable = true ∧ d.shown.length ≤ big then some (.rep d) else none
  | _, _ => none
def bf2 : Bf → AV → AV → Option AV
  | .min2, .int i, .int j => some (.int (if j < i then j else i))
  | .max2, .int i, .int j => some (.int (if j > i then j else i))
  | _, _, _ => none
def bfV (h : AH) (f : Bf) : List AV → Option AV
  | [v] => bf1 h f v
  | [v, u] => bf2 f v u
  | _ => none

/-! ### the language -/
inductive Tg where
  | var (i : Nat) | nil | cons (t u : Tg)
inductive E where
  | var (i : Nat) | non | bl (b : Bool) | int (i : Int) | str (x : Str) | glb (x : Str)
  | nil | cons (e es : E) | star (e es : E)
  | tup (es : E) | lst (es : E) | own (e : E)
  | bin (o : BO) (a b : E) | neg (a : E)
  | cmp (o : CO) (a b : E) | chain (a l : E) | lnk (o : CO) (b l : E)
  | not (a : E) | band (es : E) | bor (es : E) | ite (c a b : E)
  | idx (a b : E) | slc (a lo hi : E) | rev (a : E)
  | call (tr : Bool) (f : Str) (es : E)
  | bf (f : Bf) (es : E) | md (m : Md) (a es : E)
  | fld (C f : Str) (a : E) | mcl (tr : Bool) (C m : Str) (a es : E) 
  | rgl (k : Bool) (lo hi : E)
  | rng (es : E) | enum (a : E) | zip (a b : E) | rvd (a : E) | rngc (a b c : E)
  | comp (vs : List Nat) (elt : E) (t : Tg) (src cond : E)
  | comp2 (vs vs1 : List Nat) (elt : E) (t : Tg) (src : E) (t1 : Tg) (src1 cond : E)
  | isx (x : E) (cs : List Str)
  | isb (x : E) (ts : List Str)
  | dsel (tab : List (Str × Str)) (a : E)
  | dget (tab : List (Str × Int)) (a : E) (d : Int)
  | gsel (x : Str) (a : E)
  | dsp (ks : List Str) (es : E) | dgt (a k x : E) | isv (x : E)
inductive S where
  | nil | seq (s t : S)
  | asg (t : Tg) (e : E) | sub (o i e : E) | att (C f : Str) (o e : E)
  | aug (i : Nat) (o : BO) (e : E) | aatt (C f : Str) (o : E) (p : BO) (e : E) | asub (o i : E) (p : BO) (e : E)
  | par (i j : Nat) (es : E)
  | exp (e : E) | ret (e : E) | retN | ite (c : E) (s t : S)
  | for (t : Tg) (src : E) (s : S) | while (c : E) (s : S)
  | brk | cnt | pass | raise (C : Str)
  | try (s h : S) | hnd (C : Str) (i : Option Nat) (u r : S)
  | opq
structure Df where
  n : Nat
  slots : Nat
  body : S

/-- the text around: constants of the module, the program's defs by name (a method's name is C.m), its exception classes with what they are -/
structure Tb where
  glb : Str → Option AV
  df : Str → Option Df
  isA : Str → Str → Option Bool
  gd : Str → Option (List (Str × AV))
  cls : Str → Bool
  isV : Str → Bool

/-- a table of the text, asked -/
def gselV : List (Str × AV) → AV → Option AV
  | tab, .str z => tab.lookup z
  | _, _ => none
abbrev AEnv := List (Option AV)
def look (ρ : AEnv) (i : Nat) : M AV := fun h => match ρ[i]? with
  | some (some v) => some (.ok v h)
  | _ => none
def lift {α : Type} (f : AH → Option α) : M α := fun h => match f h with
  | some v => some (.ok v h)
  | none => none
def push (o : AO) : M AV := fun h => some (.ok (.ref h.length) (h ++ [o]))
def wipeA (ρ : AEnv) : List Nat → AEnv
  | [] => ρ
  | v :: vs => (wipeA ρ vs).set v none
/-- items to a target (a nested one: tuples alone) -/
def bindT : Tg → AV → AEnv → Option AEnv
  | .var i, v, ρ => if i < ρ.length then some (ρ.set i (some v)) else none
  | .nil, .tup [], ρ => some ρ
  | .cons t u, .tup (x :: xs), ρ => match bindT t x ρ with
    | some ρ' => bindT u (.tup xs) ρ'
    | none => none
  | _, _, _ => none
def enumA (xs : List AV) : List AV := xs.zipIdx.map fun p => .tup [.int p.2, p.1]
def zipA (xs ys : List AV) : List AV := (xs.zip ys).map fun p => .tup [p.1, p.2]
def zipT : AV → AV → Option (List AV)
  | .tup xs, .tup ys => some (zipA xs ys)
  | _, _ => none
def rngA (lo : Int) (n : Nat) : List AV := (List.range n).map fun (i : Nat) => .int (lo + i)
def rngcA (lo c : Int) (n : Nat) : List AV := (List.range n).map fun (i : Nat) => .int (lo + i * c)
def rngOf : List AV → Option (List AV)
  | [.int j] => if -(2 ^ 62) ≤ j ∧ j < 2 ^ 62 then some (rngA 0 j.toNat) else none
  | [.int i, .int j] => if -(2 ^ 62) ≤ i ∧ i < 2 ^ 62 ∧ -(2 ^ 62) ≤ j ∧ j < 2 ^ 62 then some (rngA i (j - i).toNat) else none
  | _ => none
/-- list(range(..)), tuple(range(..)) -/
def rglV (k : Bool) : AV → AV → Option AV
  | .int i, .int j => if -(2 ^ 62) ≤ i ∧ i < 2 ^ 62 ∧ -(2 ^ 62) ≤ j ∧ j < 2 ^ 62 ∧ (j - i).toNat ≤ 2 ^ 24 then some (if k = true then .tup (rngA i (j - i).toNat) else .lst (rngA i (j - i).toNat)) else none
  | _, _ => none
def strItems (x : Str) : List AV := x.cps.toList.map fun c => .str ⟨#[c]⟩
/-- what a plain iterable gives -/
def itemsOf (h : AH) : AV → Option (List AV)
  | .str x => some (strItems x)
  | v => getS h v
/-- what a walk of kind k gives of a list: 0 its enumeration, 1 the list from its end -/
def wlkA (k : Nat) (xs : List AV) : Option (List AV) := match k with
  | 0 => some (enumA xs)
  | 1 => some xs.reverse
  | _ => none
def wlkS (k : Nat) : AV → AV
  | .ref n => .wlk k n
  | _ => .non
/-- .. as what is walked -/
def wlkV (h : AH) (k : Nat) (v : AV) : Option (AV × List AV) := match getS h v with
  | some xs => (wlkA k xs).map fun ys => (wlkS k v, ys)
  | none => none
/-- range(a, b, -1) -/
def rngCV : AV → AV → AV → Option (List AV)
  | .int i, .int j, .int c => if -(2 ^ 62) ≤ i ∧ i < 2 ^ 62 ∧ -(2 ^ 62) ≤ j ∧ j < 2 ^ 62 ∧ c = -1 then some (rngcA i (-1) (i - j).toNat) else none
  | _, _, _ => none
open Classical in
/-- a list at a number stands as it stood (asked at each turn of a loop over it) -/
noncomputable def stands (v : AV) (xs : List AV) : M Unit := fun h => match v with
  | .ref n => match h[n]? with
    | some (.lst ys) => if ys = xs then some (.ok () h) else none
    | _ => none
  | .wlk k n => match h[n]? with
    | some (.lst ys) => if wlkA k ys = some xs then some (.ok () h) else none
    | _ => none
  | _ => some (.ok () h)

/-- isinstance of a class's exception -/
def isL (T : Tb) (x : Str) (cs : List Str) : Option Bool := (cs.mapM fun d => T.isA x d).map fun bs => bs.any id
/-- the built-in type of a value -/
def kindA (h : AH) : AV → Option String
  | .non => some "NoneType"
  | .bl _ => some "bool"
  | .int _ => some "int"
  | .str _ => some "str"
  | .rep _ => some "str"
  | .tup _ => some "tuple"
  | .lst _ => some "list"
  | .ext _ => some "list"
  | .ref n => match h[n]? with
    | some (.lst _) => some "list"
    | _ => none
  | .exn _ => none
  | .wlk _ _ => none
def tyN (x : Str) : Option String := if x = "bool" then some "bool" else if x = "int" then some "int" else if x = "str" then some "str" else if x = "tuple" then some "tuple" else if x = "list" then some "list" else none
def kB (a b : String) : Bool := decide (a = b) || (decide (a = "bool") && decide (b = "int"))
/-- isinstance of built-in types -/
def isB (h : AH) (v : AV) (ts : List Str) : Option Bool := match kindA h v with
  | some a => some (ts.any fun t => match tyN t with
    | some b => kB a b
    | none => false)
  | none => none
/-- how calls are run: thaw, name, arguments -/
abbrev Rec := Bool → Str → List AV → M AV

def tbl1 (T : Tb) (x : Str) : M AV := fun h => match T.glb x with
  | some v => some (.ok v h)
  | none => none
def fldV (C f : Str) (v : AV) (h : AH) : Option AV := match v with
  | .ref n => match h[n]? with
    | some (.ins D fs) => if D = C then fs.lookup f else none
    | _ => none
  | _ => none
/-- an instance of C, with no attribute m -/
def insV (C m : Str) (v : AV) (h : AH) : Option Unit := match v with
  | .ref n => match h[n]? with
    | some (.ins D fs) => if D = C ∧ fs.lookup m = none then some () else none
    | _ => none
  | _ => none
/-- a new instance of C, then __init__ -/
def newC (R : Rec) (C : Str) (vs : List AV) : M AV :=
  bnd (push (.ins C [])) fun r => bnd (R false (C ++ ".__init__") (r :: vs)) fun z => match z with
    | .non => ret r
    | _ => stuck
def mdV (m : Md) (a : AV) (vs : List AV) : M AV := fun h => match m, a, vs with
  | .append, .ref n, [v] => match h[n]? with
    | some (.lst xs) => if xs.length < big then some (.ok .non (h.set n (.lst (xs ++ [v])))) else none
    | _ => none
  | .extend, .ref n, [.tup ys] => match h[n]? with
    | some (.lst xs) => if xs.length + ys.length ≤ big then some (.ok .non (h.set n (.lst (xs ++ ys)))) else none
    | _ => none
  | .extend, .ref n, [v] => match h[n]?, getM h v with
    | some (.lst xs), some ys => if xs.length + ys.length ≤ big then (match v with
      | .ref m => if m = n then none else some (.ok .non (h.set n (.lst (xs ++ ys))))
      | _ => some (.ok .non (h.set n (.lst (xs ++ ys))))) else none
    | _, _ => none
  | .index, a, [v] => match getS h a with
    | some xs => match toD1 h v, toDs h xs with
      | some d, some es => if min d.depth (PyData.depthAll es) ≤ 64 then (match es.findIdx? (fun z => PyData.eqv z d) with
        | some j => some (.ok (.int (j : Nat)) h)
        | none => none) else none
      | _, _ => none
    | none => none
  | .pop, .ref n, [] => match h[n]? with
    | some (.lst xs) => match xs[xs.length - 1]? with
      | some y => some (.ok y (h.set n (.lst xs.dropLast)))
      | none => none
    | _ => none
  | _, _, _ => none
/-- which objects have the method -/
def mdPre (h : AH) (m : Md) (x : AV) : Option Unit := match m with
  | .get | .update => none
  | m => match x with
    | .tup _ => if m = .index then some () else none
    | x => (getL h x).map fun _ => ()
/-- no exception may leave -/
def noX {α : Type} (m : M α) : M α := fun h => match m h with
  | some (.exc _ _) => none
  | r => r
theorem wp_noX {α : Type} {m : M α} {Q : α → AH → Prop} {E : Ex → AH → Prop} {h : AH} : wp (noX m) Q E h ↔ wp m Q (fun _ _ => False) h := by
  unfold wp noX
  cases m h with
  | none => exact Iff.rfl
  | some o => cases o <;> exact Iff.rfl
/-- a comprehension's turns -/
def compL (bind : AV → Option AEnv) (cond : AEnv → M Bool) (elt : AEnv → M AV) (st : M Unit) : List AV → List AV → M (List AV)
  | acc, [] => bnd st fun _ => ret acc
  | acc, x :: xs => bnd st fun _ => match bind x with
    | none => stuck
    | some ρ => bnd (cond ρ) fun b => if b = true then bnd (elt ρ) fun v => compL bind cond elt st (acc ++ [v]) xs else compL bind cond elt st acc xs
/-- .. of two fors: the inner source is asked anew in each turn -/
def compO (bind : AV → Option AEnv) (src : AEnv → M (AV × List AV)) (inner : AEnv → AV → List AV → List AV → M (List AV)) (st : M Unit) : List AV → List AV → M (List AV)
  | acc, [] => bnd st fun _ => ret acc
  | acc, x :: xs => bnd st fun _ => match bind x with
    | none => stuck
    | some ρ => bnd (src ρ) fun p => if acc.length + p.2.length ≤ big then bnd (inner ρ p.1 acc p.2) fun acc' => compO bind src inner st acc' xs else stuck
/-- a new list gets a number -/
def ownK : AV → M AV
  | .lst xs => push (.lst xs)
  | _ => stuck
/-- all that the interpreter tells of one term: as a value, as a list of parts, as operands of and | or, as a test, .. -/
structure EvR where
  e : AEnv → M AV
  a : AEnv → M (List AV)
  an : AEnv → M AV
  or : AEnv → M AV
  t : AEnv → M Bool
  ta : AEnv → M Bool
  to : AEnv → M Bool
  c : AEnv → M Bool
  p : AEnv → M (Option Int)
  i : AEnv → M (AV × List AV)
  ch : AV → AEnv → M AV
def tOfE (e : AEnv → M AV) : AEnv → M Bool := fun ρ => bnd (e ρ) fun v => match v with
  | .bl b => ret b
  | _ => stuck
def EvR.of (e : AEnv → M AV) : EvR where
  e := e
  a := fun _ => stuck
  an := fun _ => stuck
  or := fun _ => stuck
  t := tOfE e
  ta := fun _ => stuck
  to := fun _ => stuck
  c := tOfE e
  p := fun ρ => bnd (e ρ) fun v => match v with
    | .int i => ret (some i)
    | _ => stuck
  i := fun ρ => bnd (e ρ) fun v => lift fun h => (itemsOf h v).map fun xs => (v, xs)
  ch := fun _ _ => stuck
def EvR.test (e : AEnv → M AV) (t : AEnv → M Bool) : EvR := { EvR.of e with t := t, c := t }
noncomputable def ev (T : Tb) (R : Rec) : E → EvR
  | .var i => .of fun ρ => look ρ i
  | .non => { EvR.of (fun _ => ret .non) with p := fun _ => ret none }
  | .bl b => .of fun _ => ret (.bl b)
  | .int i => .of fun _ => ret (.int i)
  | .str x => .of fun _ => ret (.str x)
  | .glb x => .of fun _ => tbl1 T x
  | .nil => { EvR.of (fun _ => stuck) with a := fun _ => ret [], c := fun _ => ret true }
  | .cons e es => { EvR.of (fun _ => stuck) with
      a := fun ρ => bnd ((ev T R e).e ρ) fun v => bnd ((ev T R es).a ρ) fun vs => ret (v :: vs)
      an := fun ρ => match es with
        | .nil => (ev T R e).e ρ
        | _ => bnd ((ev T R e).e ρ) fun v => match v with
          | .bl true => (ev T R es).an ρ
          | .bl false => ret (.bl false)
          | _ => stuck
      or := fun ρ => match es with
        | .nil => (ev T R e).e ρ
        | _ => bnd ((ev T R e).e ρ) fun v => match v with
          | .bl false => (ev T R es).or ρ
          | .bl true => ret (.bl true)
          | _ => stuck
      ta := fun ρ => match es with
        | .nil => (ev T R e).t ρ
        | _ => bnd ((ev T R e).t ρ) fun b => if b = true then (ev T R es).ta ρ else ret false
      to := fun ρ => match es with
        | .nil => (ev T R e).t ρ
        | _ => bnd ((ev T R e).t ρ) fun b => if b = true then ret true else (ev T R es).to ρ }
  | .star e es => { EvR.of (fun _ => stuck) with
      a := fun ρ => bnd ((ev T R e).e ρ) fun v => bnd (lift fun h => getS h v) fun us => bnd ((ev T R es).a ρ) fun vs => ret (us ++ vs) }
  | .tup es => .of fun ρ => bnd ((ev T R es).a ρ) fun vs => if vs.length ≤ big then ret (.tup vs) else stuck
  | .lst es => .of fun ρ => bnd ((ev T R es).a ρ) fun vs => if vs.length ≤ big then ret (.lst vs) else stuck
  | .own e => .of fun ρ => bnd ((ev T R e).e ρ) ownK
  | .bin o a b => .of fun ρ => bnd ((ev T R a).e ρ) fun x => bnd ((ev T R b).e ρ) fun y => lift fun h => binV h o x y
  | .neg a => .of fun ρ => bnd ((ev T R a).e ρ) fun x => match x with
    | .int i => ret (.int (-i))
    | _ => stuck
  | .cmp o a b => .of fun ρ => bnd ((ev T R a).e ρ) fun x => bnd ((ev T R b).e ρ) fun y => lift fun h => (cmpV h o x y).map .bl
  | .chain a l => .of fun ρ => bnd ((ev T R a).e ρ) fun x => (ev T R l).ch x ρ
  | .lnk o b l => { EvR.of (fun _ => stuck) with
      ch := fun x ρ => match l with
        | .nil => bnd ((ev T R b).e ρ) fun y => lift fun h => (cmpV h o x y).map .bl
        | _ => bnd ((ev T R b).e ρ) fun y => bnd (lift fun h => cmpV h o x y) fun k => if k = true then (ev T R l).ch y ρ else ret (.bl false) }
  | .not a => .test (fun ρ => bnd ((ev T R a).e ρ) fun x => match x with
    | .bl b => ret (.bl (!b))
    | _ => stuck) (fun ρ => bnd ((ev T R a).t ρ) fun b => ret (!b))
  | .band es => .test (ev T R es).an (ev T R es).ta
  | .bor es => .test (ev T R es).or (ev T R es).to
  | .ite c a b => .of fun ρ => bnd ((ev T R c).t ρ) fun k => if k = true then (ev T R a).e ρ else (ev T R b).e ρ
  | .idx a b => .of fun ρ => bnd ((ev T R a).e ρ) fun x => bnd ((ev T R b).e ρ) fun y => lift fun h => ixV h x y
  | .slc a lo hi => .of fun ρ => bnd ((ev T R a).e ρ) fun x => bnd ((ev T R lo).p ρ) fun l => bnd ((ev T R hi).p ρ) fun u => lift fun h => slV h x l u
  | .rev a => .of fun ρ => bnd ((ev T R a).e ρ) fun x => match x with
    | .tup xs => ret (.tup xs.reverse)
    | _ => stuck
  | .call tr f es => .of fun ρ => bnd ((ev T R es).a ρ) fun vs => R tr f vs
  | .bf f es => .of fun ρ => bnd ((ev T R es).a ρ) fun vs => lift fun h => bfV h f vs
  | .md m a es => .of fun ρ => bnd ((ev T R a).e ρ) fun x => bnd (lift fun h => mdPre h m x) fun _ => bnd ((ev T R es).a ρ) fun vs => mdV m x vs
  | .fld C f a => .of fun ρ => bnd ((ev T R a).e ρ) fun x => lift fun h => fldV C f x h
  | .mcl tr C m a es => .of fun ρ => bnd ((ev T R a).e ρ) fun x => bnd (lift fun h => insV C m x h) fun _ => bnd ((ev T R es).a ρ) fun vs => R tr (C ++ "." ++ m) (x :: vs)
  | .comp vs elt t src cond => .of fun ρ => bnd ((ev T R src).i ρ) fun p =>
      if p.2.length ≤ big then bnd (noX (compL (fun x => bindT t x (wipeA ρ vs)) (ev T R cond).c (ev T R elt).e (stands p.1 p.2) [] p.2)) fun ys => ret (.lst ys) else stuck
  | .comp2 vs vs1 elt t src t1 src1 cond => .of fun ρ => bnd ((ev T R src).i ρ) fun p =>
      bnd (noX (compO (fun x => bindT t x (wipeA ρ vs)) (ev T R src1).i
        (fun ρ1 v1 acc ys => compL (fun y => bindT t1 y (wipeA ρ1 vs1)) (ev T R cond).c (ev T R elt).e (stands v1 ys) acc ys) (stands p.1 p.2) [] p.2)) fun ys => ret (.lst ys)
  | .isx x cs => .of fun ρ => bnd ((ev T R x).e ρ) fun v => match v with
    | .exn c => lift fun _ => (isL T c cs).map .bl
    | _ => stuck
  | .isb x ts => .of fun ρ => bnd ((ev T R x).e ρ) fun v => lift fun h => (isB h v ts).map .bl
  | .dsel tab a => .of fun ρ => bnd ((ev T R a).e ρ) fun v => match v with
    | .str x => match tab.lookup x with
      | some y => ret (.str y)
      | none => stuck
    | _ => stuck
  | .dget tab a d => .of fun ρ => bnd ((ev T R a).e ρ) fun v => match v with
    | .str x => ret (.int ((tab.lookup x).getD d))
    | _ => stuck
  | .gsel x a => .of fun ρ => match T.gd x with
    | some tab => bnd ((ev T R a).e ρ) fun v => lift fun _ => gselV tab v
    | none => stuck
  | .isv x => .of fun ρ => bnd ((ev T R x).e ρ) fun v => match v with
    | .exn c => lift fun _ => if T.isV c = true then some (.bl true) else none
    | _ => stuck
  | .dsp ks es => .of fun ρ => bnd (noX ((ev T R es).a ρ)) fun vs => if vs.length = ks.length ∧ ks.length ≤ 15 ∧ ks.Nodup then push (.dct ((ks.map NestedKey.text).zip vs)) else stuck
  | .dgt a k x => .of fun ρ => bnd ((ev T R a).e ρ) fun d => bnd (lift fun h => (getD h d).map fun _ => ()) fun _ => bnd ((ev T R k).e ρ) fun y => bnd ((ev T R x).e ρ) fun z => lift fun h => (getD h d).bind fun kvs => (dgetA kvs y).map fun o => o.getD z
  | .rng es => { EvR.of (fun _ => stuck) with i := fun ρ => bnd ((ev T R es).a ρ) fun vs => lift fun _ => (rngOf vs).map fun xs => (.non, xs) }
  | .rgl k lo hi => .of fun ρ => match lo with
    | .nil => bnd ((ev T R hi).e ρ) fun y => lift fun _ => rglV k (.int 0) y
    | _ => bnd ((ev T R lo).e ρ) fun x => bnd ((ev T R hi).e ρ) fun y => lift fun _ => rglV k x y
  | .enum a => { EvR.of (fun _ => stuck) with i := fun ρ => bnd ((ev T R a).e ρ) fun x => lift fun h => wlkV h 0 x }
  | .zip a b => { EvR.of (fun _ => stuck) with i := fun ρ => bnd ((ev T R a).e ρ) fun x => bnd ((ev T R b).e ρ) fun y => lift fun _ => (zipT x y).map fun xs => (.non, xs) }
  | .rvd a => { EvR.of (fun _ => stuck) with i := fun ρ => bnd ((ev T R a).e ρ) fun x => lift fun h => wlkV h 1 x }
  | .rngc a b c => { EvR.of (fun _ => stuck) with i := fun ρ => bnd ((ev T R a).e ρ) fun x => bnd ((ev T R b).e ρ) fun y => bnd ((ev T R c).e ρ) fun z => lift fun _ => (rngCV x y z).map fun xs => (.non, xs) }
noncomputable abbrev evE (T : Tb) (R : Rec) (e : E) : AEnv → M AV := (ev T R e).e
noncomputable abbrev evA (T : Tb) (R : Rec) (e : E) : AEnv → M (List AV) := (ev T R e).a
noncomputable abbrev evAnd (T : Tb) (R : Rec) (e : E) : AEnv → M AV := (ev T R e).an
noncomputable abbrev evOr (T : Tb) (R : Rec) (e : E) : AEnv → M AV := (ev T R e).or
noncomputable abbrev evT (T : Tb) (R : Rec) (e : E) : AEnv → M Bool := (ev T R e).t
noncomputable abbrev evTA (T : Tb) (R : Rec) (e : E) : AEnv → M Bool := (ev T R e).ta
noncomputable abbrev evTO (T : Tb) (R : Rec) (e : E) : AEnv → M Bool := (ev T R e).to
noncomputable abbrev evC (T : Tb) (R : Rec) (e : E) : AEnv → M Bool := (ev T R e).c
noncomputable abbrev evP (T : Tb) (R : Rec) (e : E) : AEnv → M (Option Int) := (ev T R e).p
noncomputable abbrev evI (T : Tb) (R : Rec) (e : E) : AEnv → M (AV × List AV) := (ev T R e).i
noncomputable abbrev evCh (T : Tb) (R : Rec) (e : E) : AV → AEnv → M AV := (ev T R e).ch

/-! ### statements -/
/-- a, b = x, y -/
def parA (i j : Nat) : List AV → AEnv → Option AEnv
  | [x, y], ρ => if i < ρ.length ∧ j < ρ.length then some ((ρ.set i (some x)).set j (some y)) else none
  | _, _ => none
inductive Fl where | nx | bk | ct | rt (v : AV) | ex (x : Ex)
abbrev MS := AH → Option (Fl × AEnv × AH)
/-- an expression's value, or its exception as a way out -/
def useE {α : Type} (m : M α) (ρ : AEnv) (k : α → MS) : MS := fun h => match m h with
  | some (.ok a h') => k a h'
  | some (.exc x h') => some (.ex x, ρ, h')
  | none => none
def done (f : Fl) (ρ : AEnv) : MS := fun h => some (f, ρ, h)
def stuckS : MS := fun _ => none
def seqS (m : MS) (k : AEnv → MS) : MS := fun h => match m h with
  | some (.nx, ρ, h') => k ρ h'
  | r => r
def setA (o i v : AV) : M Unit := fun h => match o with
  | .ref n => match h[n]? with
    | some (.lst xs) => (match i with
      | .int k => match L2.ixN xs.length k with
        | some j => some (.ok () (h.set n (.lst (xs.set j v))))
        | none => none
      | _ => none)
    | some (.dct kvs) => (match dkey i with
      | some k => if fits kvs k = true ∧ kvs.length < big then some (.ok () (h.set n (.dct (putN kvs k v)))) else none
      | none => none)
    | _ => none
  | _ => none
def putA (f : Str) (v : AV) : List (Str × AV) → List (Str × AV)
  | [] => [(f, v)]
  | (g, w) :: r => if g = f then (f, v) :: r else (g, w) :: putA f v r
def attA (C f : Str) (o v : AV) : M Unit := fun h => match o with
  | .ref n => match h[n]? with
    | some (.ins D fs) => if D = C ∧ fs.length < 1000 then some (.ok () (h.set n (.ins D (putA f v fs)))) else none
    | _ => none
  | _ => none
/-- the turns of a for -/
def forL (bind : AV → AEnv → Option AEnv) (body : AEnv → MS) (st : M Unit) : List AV → AEnv → MS
  | [], ρ => useE st ρ fun _ => done .nx ρ
  | x :: xs, ρ => useE st ρ fun _ => match bind x ρ with
    | none => stuckS
    | some ρ1 => fun h => match body ρ1 h with
      | some (.nx, ρ2, h2) => forL bind body st xs ρ2 h2
      | some (.ct, ρ2, h2) => forL bind body st xs ρ2 h2
      | some (.bk, ρ2, h2) => some (.nx, ρ2, h2)
      | r => r
/-- the turns of a while, at most n -/
def whlN (c : AEnv → M Bool) (body : AEnv → MS) : Nat → AEnv → MS
  | 0, _ => stuckS
  | n + 1, ρ => useE (c ρ) ρ fun b => if b = true then fun h => match body ρ h with
      | some (.nx, ρ2, h2) => whlN c body n ρ2 h2
      | some (.ct, ρ2, h2) => whlN c body n ρ2 h2
      | some (.bk, ρ2, h2) => some (.nx, ρ2, h2)
      | r => r
    else done .nx ρ
open Classical in
/-- .. as many as it takes -/
noncomputable def whl (c : AEnv → M Bool) (body : AEnv → MS) (ρ : AEnv) : MS := fun h =>
  if x : ∃ n r, whlN c body n ρ h = some r then some x.choose_spec.choose else none
def setSlot (ρ : AEnv) (i : Nat) (v : AV) : MS := if i < ρ.length then done .nx (ρ.set i (some v)) else stuckS
def augV (o : BO) (x y : AV) : Option AV := match o, x, y with
  | .add, .int i, .int j => some (.int (i + j))
  | .sub, .int i, .int j => some (.int (i - j))
  | _, _, _ => none
mutual
/-- no exception is in it -/
def AV.clean : AV → Bool
  | .tup xs => cleanAll xs
  | .lst xs => cleanAll xs
  | .ext xs => cleanAll xs
  | .exn _ => false
  | _ => true
def cleanAll : List AV → Bool
  | [] => true
  | x :: xs => x.clean && cleanAll xs
end
def cleanEnv (ρ : AEnv) : Bool := ρ.all fun o => match o with
  | some v => v.clean
  | none => true
open Classical in
/-- behind a suite with a name: nothing but its value is left -/
noncomputable def suiteA (i : Nat) (ρ : AEnv) (h : AH) : Option (Fl × AEnv × AH) → Option (Fl × AEnv × AH)
  | some (.rt v, _, h2) => if h2 = h ∧ v.clean = true then some (.rt v, ρ.set i none, h) else none
  | some (.nx, ρ2, h2) => if h2 = h ∧ cleanEnv (ρ2.set i none) = true then some (.nx, ρ2.set i none, h) else none
  | _ => none
/-- .. without one -/
def suiteB : Option (Fl × AEnv × AH) → Option (Fl × AEnv × AH)
  | some (.ex _, _, _) => none
  | r => r
/-- what a statement does, and what it does as a row of except clauses -/
structure SvR where
  s : AEnv → MS
  h : Ex → AEnv → MS
def only (f : AEnv → MS) : SvR := ⟨f, fun _ _ => stuckS⟩
noncomputable def sv (T : Tb) (R : Rec) : S → SvR
  | .nil => ⟨fun ρ => done .nx ρ, fun x ρ => done (.ex x) ρ⟩
  | .seq s t => only fun ρ => seqS ((sv T R s).s ρ) fun ρ' => (sv T R t).s ρ'
  | .asg t e => only fun ρ => useE (evE T R e ρ) ρ fun v => match bindT t v ρ with
    | some ρ' => done .nx ρ'
    | none => stuckS
  | .sub o i e => only fun ρ => useE (evE T R e ρ) ρ fun v => useE (evE T R o ρ) ρ fun x => useE (evE T R i ρ) ρ fun k => useE (setA x k v) ρ fun _ => done .nx ρ
  | .att C f o e => only fun ρ => useE (evE T R e ρ) ρ fun v => useE (evE T R o ρ) ρ fun x => useE (attA C f x v) ρ fun _ => done .nx ρ
  | .aug i o e => only fun ρ => useE (look ρ i) ρ fun x => useE (evE T R e ρ) ρ fun y => useE (lift fun _ => augV o x y) ρ fun z => setSlot ρ i z
  | .aatt C f o p e => only fun ρ => useE (evE T R o ρ) ρ fun x => useE (lift fun h => fldV C f x h) ρ fun y => useE (evE T R e ρ) ρ fun z =>
      useE (lift fun _ => augV p y z) ρ fun w => useE (attA C f x w) ρ fun _ => done .nx ρ
  | .asub o i p e => only fun ρ => useE (evE T R o ρ) ρ fun x => useE (evE T R i ρ) ρ fun k => useE (lift fun h => dixV h x k) ρ fun y => useE (evE T R e ρ) ρ fun z =>
      useE (lift fun _ => augV p y z) ρ fun w => useE (setA x k w) ρ fun _ => done .nx ρ
  | .par i j es => only fun ρ => useE (evA T R es ρ) ρ fun vs => match parA i j vs ρ with
    | some ρ' => done .nx ρ'
    | none => stuckS
  | .exp e => only fun ρ => useE (evE T R e ρ) ρ fun _ => done .nx ρ
  | .ret e => only fun ρ => useE (evE T R e ρ) ρ fun v => done (.rt v) ρ
  | .retN => only fun ρ => done (.rt .non) ρ
  | .ite c s t => only fun ρ => useE (evT T R c ρ) ρ fun b => if b = true then (sv T R s).s ρ else (sv T R t).s ρ
  | .for t src s => only fun ρ => useE (evI T R src ρ) ρ fun p => forL (fun x ρ => bindT t x ρ) (fun ρ => (sv T R s).s ρ) (stands p.1 p.2) p.2 ρ
  | .while c s => only fun ρ => whl (fun ρ => evT T R c ρ) (fun ρ => (sv T R s).s ρ) ρ
  | .brk => only fun ρ => done .bk ρ
  | .cnt => only fun ρ => done .ct ρ
  | .pass => only fun ρ => done .nx ρ
  | .raise C => only fun ρ => done (.ex ⟨C⟩) ρ
  | .try s h => only fun ρ h0 => match (sv T R s).s ρ h0 with
    | some (.ex x, ρ2, h2) => (sv T R h).h x ρ2 h2
    | r => r
  | .hnd C i u r => ⟨fun _ => stuckS, fun x ρ => match T.isA x.cls C with
    | some true => (match i with
      | some i => fun h => if i < ρ.length then suiteA i ρ h ((sv T R u).s (ρ.set i (some (.exn x.cls))) h) else none
      | none => fun h => suiteB ((sv T R u).s ρ h))
    | some false => (sv T R r).h x ρ
    | none => stuckS⟩
  | _ => only fun _ => stuckS
noncomputable abbrev evS (T : Tb) (R : Rec) (s : S) : AEnv → MS := (sv T R s).s
noncomputable abbrev evH (T : Tb) (R : Rec) (s : S) : Ex → AEnv → MS := (sv T R s).h

/-! ### calls -/
open Classical in
/-- a call's end: what the callee made and nobody can name is gone -/
noncomputable def fin (tr : Bool) (h : AH) (v : AV) (h' : AH) : Option (Out AV) :=
  if okPre h h' then
    if v.lt h.length then some (.ok v (h'.take h.length))
    else match v with
      | .ref n => match h'[n]? with
        | some (.lst xs) => if ltAll h.length xs then (if tr = true then some (.ok (.ref h.length) (h'.take h.length ++ [.lst xs])) else some (.ok (.lst xs) (h'.take h.length))) else some (.ok v h')
        | some (.dct kvs) => if (AO.dct kvs).lt h.length then some (.ok (.ref h.length) (h'.take h.length ++ [.dct kvs])) else some (.ok v h')
        | _ => some (.ok v h')
      | _ => some (.ok v h')
  else some (.ok v h')
open Classical in
noncomputable def finX (h : AH) (x : Ex) (h' : AH) : Option (Out AV) := if okPre h h' then some (.exc x (h'.take h.length)) else some (.exc x h')
noncomputable def runD (T : Tb) (R : Rec) (tr : Bool) (d : Df) (vs : List AV) : M AV := fun h =>
  if vs.length = d.n then
    match evS T R d.body (vs.map some ++ List.replicate (d.slots - d.n) none) h with
    | some (.nx, _, h') => fin tr h .non h'
    | some (.rt v, _, h') => fin tr h v h'
    | some (.ex x, _, h') => finX h x h'
    | _ => none
  else none
/-- a call, its depth bounded -/
noncomputable def callN (T : Tb) : Nat → Rec
  | 0 => fun _ _ _ => stuck
  | n + 1 => fun tr f vs => match T.df f with
    | some d => runD T (callN T n) tr d vs
    | none => if T.cls f = true then newC (callN T n) f vs else stuck
end Z

set_option Elab.async false
set_option linter.all false
set_option maxRecDepth 100000
set_option autoImplicit false
/-! ZB: how abstract values and heaps stand for the layer's. -/
namespace Z
open PySem PySem.Spec PyProof.Rows L2

/-- a tuple of the written part -/
def SqTK (K : PySem.W.Frag) (a : Addr) (xs : List V) : Prop :=
  ∃ (o : Obj) (its : Array Value) (n : Nat), K.lookup a = some o ∧ o.cls = .type "tuple" ∧ o.data = .seq its n ∧ its.size ≤ sizeLine ∧ Vals xs its.toList ∧ o.dict = none
theorem SqTK.sq {K : PySem.W.Frag} {a : Addr} {xs : List V} (h : SqTK K a xs) : ∃ (o : Obj) (its : Array Value) (n : Nat), K.lookup a = some o ∧ o.cls = .type "tuple" ∧ o.data = .seq its n ∧ its.size ≤ sizeLine ∧ Vals xs its.toList := by
  obtain ⟨o, its, n, h1, h2, h3, h4, h5, _⟩ := h
  exact ⟨o, its, n, h1, h2, h3, h4, h5⟩
/-- the addresses of the numbered things, and those of hidden ones (a comprehension's list, while it is made) -/
structure Mu where
  n : List Addr
  h : List Addr
instance : Membership Addr Mu := ⟨fun μ a => a ∈ μ.n ∨ a ∈ μ.h⟩
def Mu.add (μ : Mu) (p : Addr) : Mu := ⟨μ.n ++ [p], μ.h⟩
def Mu.hide (μ : Mu) (p : Addr) : Mu := ⟨μ.n, p :: μ.h⟩
theorem Mu.mem_add {μ : Mu} {a p : Addr} : a ∈ μ.add p ↔ a ∈ μ ∨ a = p := by
  show (a ∈ μ.n ++ [p] ∨ a ∈ μ.h) ↔ ((a ∈ μ.n ∨ a ∈ μ.h) ∨ a = p)
  rw [List.mem_append, List.mem_singleton]
  constructor
  · rintro ((h | h) | h)
    · exact .inl (.inl h)
    · exact .inr h
    · exact .inl (.inr h)
  · rintro ((h | h) | h)
    · exact .inl (.inl h)
    · exact .inr h
    · exact .inl (.inr h)
theorem Mu.mem_hide {μ : Mu} {a p : Addr} : a ∈ μ.hide p ↔ a ∈ μ ∨ a = p := by
  show (a ∈ μ.n ∨ a ∈ p :: μ.h) ↔ ((a ∈ μ.n ∨ a ∈ μ.h) ∨ a = p)
  rw [List.mem_cons]
  constructor
  · rintro (h | h | h)
    · exact .inl (.inl h)
    · exact .inr h
    · exact .inl (.inr h)
  · rintro ((h | h) | h)
    · exact .inl h
    · exact .inr (.inr h)
    · exact .inr (.inl h)
/-- a list of the written part -/
def SqLK (K : PySem.W.Frag) (a : Addr) (xs : List V) : Prop :=
  ∃ (o : Obj) (its : Array Value) (n : Nat), K.lookup a = some o ∧ o.cls = .type "list" ∧ o.dict = none ∧ o.data = .seq its n ∧ its.size ≤ sizeLine ∧ Vals xs its.toList
/-- what does not change: the written part, the classes' addresses, the exceptions at hand -/
structure Ct where
  K : PySem.W.Frag
  CA : Str → Option Addr
  XS : Addr → Str → Prop
  w : World

mutual
inductive RV (c : Ct) (H : Hp) (μ : Mu) : V → AV → Prop
  | non : RV c H μ .non .non
  | bl (b : Bool) : RV c H μ (.bl b) (.bl b)
  | int (i : Int) : RV c H μ (.int i) (.int i)
  | str (x : Str) (h : PyData.strOk x = true) (hz : x.length ≤ sizeLine) : RV c H μ (.str x) (.str x)
  | tup {a : Addr} {o : Obj} {vs : List V} {xs : List AV} : H a = some (.frz o (.tup vs)) → o.dict = none → a ∉ μ → vs.length ≤ sizeLine → RVs c H μ vs xs → RV c H μ (.ref a) (.tup xs)
  | tupK {a : Addr} {vs : List V} {xs : List AV} : SqTK c.K a vs → vs.length ≤ sizeLine → RVs c H μ vs xs → RV c H μ (.ref a) (.tup xs)
  | lst {a : Addr} {vs : List V} {xs : List AV} : H a = some (.lst vs) → a ∉ μ → vs.length ≤ sizeLine → RVs c H μ vs xs → RV c H μ (.ref a) (.lst xs)
  | ext {a : Addr} {o : Obj} {vs : List V} {xs : List AV} : H a = some (.frz o (.lst vs)) → a ∉ μ → vs.length ≤ sizeLine → RVs c H μ vs xs → RV c H μ (.ref a) (.ext xs)
  | extK {a : Addr} {vs : List V} {xs : List AV} : SqLK c.K a vs → vs.length ≤ sizeLine → RVs c H μ vs xs → RV c H μ (.ref a) (.ext xs)
  | ref {a : Addr} {n : Nat} : μ.n[n]? = some a → RV c H μ (.ref a) (.ref n)
  | exn {a : Addr} {x : Str} : c.XS a x → RV c H μ (.ref a) (.exn x)
  | rep (d : PyData) : RV c H μ (.str d.shown) (.rep d)
inductive RVs (c : Ct) (H : Hp) (μ : Mu) : List V → List AV → Prop
  | nil : RVs c H μ [] []
  | cons {v : V} {vs : List V} {x : AV} {xs : List AV} : RV c H μ v x → RVs c H μ vs xs → RVs c H μ (v :: vs) (x :: xs)
end

/-- later than: the numbered things are still these, all else that was tracked is as it was -/
structure ExtW (H : Hp) (μ : Mu) (H' : Hp) (μ' : Mu) : Prop where
  pre : ∃ r, μ'.n = μ.n ++ r
  keep : ∀ a o, H a = some o → a ∉ μ → H' a = some o
  new : ∀ a, a ∈ μ' → a ∉ μ → H a = none
/-- .. and what is hidden is as it was -/
structure Ext (H : Hp) (μ : Mu) (H' : Hp) (μ' : Mu) : Prop where
  w : ExtW H μ H' μ'
  hid : μ'.h = μ.h
  hk : ∀ a, a ∈ μ.h → H' a = H a
section
variable {H H1 H2 : Hp} {μ μ1 μ2 : Mu}
theorem ExtW.refl : ExtW H μ H μ := ⟨⟨[], by simp⟩, fun _ _ h _ => h, fun _ h n => absurd h n⟩
theorem Ext.refl : Ext H μ H μ := ⟨.refl, rfl, fun _ _ => rfl⟩
theorem ExtW.notin (x : ExtW H μ H1 μ1) {a : Addr} {o : HO} (h : H a = some o) (n : a ∉ μ) : a ∉ μ1 := fun m => by
  rw [x.new a m n] at h
  cases h
theorem Ext.keep (x : Ext H μ H1 μ1) (a : Addr) (o : HO) (h : H a = some o) (n : a ∉ μ) : H1 a = some o := x.w.keep a o h n
theorem Ext.notin (x : Ext H μ H1 μ1) {a : Addr} {o : HO} (h : H a = some o) (n : a ∉ μ) : a ∉ μ1 := x.w.notin h n
theorem ExtW.trans (x : ExtW H μ H1 μ1) (y : ExtW H1 μ1 H2 μ2) : ExtW H μ H2 μ2 where
  pre := by
    obtain ⟨r, h1⟩ := x.pre
    obtain ⟨t, h2⟩ := y.pre
    exact ⟨r ++ t, by rw [h2, h1, List.append_assoc]⟩
  keep := fun a o h n => y.keep a o (x.keep a o h n) (x.notin h n)
  new := fun a m n => by
    by_cases q : a ∈ μ1
    · exact x.new a q n
    · cases e : H a with
      | none => rfl
      | some o =>
        have z := y.new a m q
        rw [x.keep a o e n] at z
        cases z
theorem Ext.trans (x : Ext H μ H1 μ1) (y : Ext H1 μ1 H2 μ2) : Ext H μ H2 μ2 :=
  ⟨x.w.trans y.w, y.hid.trans x.hid, fun a h => (y.hk a (by rw [x.hid]; exact h)).trans (x.hk a h)⟩
theorem ExtW.at (x : ExtW H μ H1 μ1) {n : Nat} {a : Addr} (h : μ.n[n]? = some a) : μ1.n[n]? = some a := by
  obtain ⟨r, e⟩ := x.pre
  obtain ⟨hl, _⟩ := List.getElem?_eq_some_iff.mp h
  rw [e, List.getElem?_append_left hl]
  exact h
/-- a new thing that is not numbered -/
theorem Ext.laid {p : Addr} {o : HO} (h : H p = none) (hh : p ∉ μ) : Ext H μ (upd H p o) μ :=
  ⟨⟨⟨[], by simp⟩, fun a q e _ => by rw [upd_ne (ne_of_none e h)]; exact e, fun _ m n => absurd m n⟩, rfl, fun a m => upd_ne fun z => hh (.inr (z ▸ m))⟩
/-- a numbered thing is written -/
theorem Ext.wrote {a : Addr} {o : HO} (h : a ∈ μ.n) (hh : a ∉ μ.h) : Ext H μ (upd H a o) μ :=
  ⟨⟨⟨[], by simp⟩, fun b q e n => by rw [upd_ne (fun z => by subst z; exact n (.inl h))]; exact e, fun _ m n => absurd m n⟩, rfl, fun b m => upd_ne fun z => hh (z ▸ m)⟩
/-- a new thing is numbered -/
theorem Ext.named {p : Addr} {u : HO} (h : H p = none) (hh : p ∉ μ) : Ext H μ (upd H p u) (μ.add p) :=
  ⟨⟨⟨[p], rfl⟩, fun a o e _ => by rw [upd_ne (ne_of_none e h)]; exact e, fun a m n => by
    rcases Mu.mem_add.mp m with m | m
    · exact absurd m n
    · rw [m]
      exact h⟩, rfl, fun a m => upd_ne fun z => hh (.inr (z ▸ m))⟩
end

section
variable {c : Ct} {H H' : Hp} {μ μ' : Mu}
mutual
theorem RV.monoW (x : ExtW H μ H' μ') : ∀ {v : V} {a : AV}, RV c H μ v a → RV c H' μ' v a
  | _, _, .non => .non
  | _, _, .bl b => .bl b
  | _, _, .int i => .int i
  | _, _, .str s h hz => .str s h hz
  | _, _, .tup h d n l r => .tup (x.keep _ _ h n) d (x.notin h n) l (RVs.monoW x r)
  | _, _, .tupK h l r => .tupK h l (RVs.monoW x r)
  | _, _, .lst h n l r => .lst (x.keep _ _ h n) (x.notin h n) l (RVs.monoW x r)
  | _, _, .ext h n l r => .ext (x.keep _ _ h n) (x.notin h n) l (RVs.monoW x r)
  | _, _, .extK h l r => .extK h l (RVs.monoW x r)
  | _, _, .ref h => .ref (x.at h)
  | _, _, .exn h => .exn h
  | _, _, .rep d => .rep d
theorem RVs.monoW (x : ExtW H μ H' μ') : ∀ {v : List V} {a : List AV}, RVs c H μ v a → RVs c H' μ' v a
  | _, _, .nil => .nil
  | _, _, .cons h t => .cons (RV.monoW x h) (RVs.monoW x t)
end
theorem RV.mono (x : Ext H μ H' μ') {v : V} {a : AV} (r : RV c H μ v a) : RV c H' μ' v a := r.monoW x.w
theorem RVs.mono (x : Ext H μ H' μ') {v : List V} {a : List AV} (r : RVs c H μ v a) : RVs c H' μ' v a := r.monoW x.w
theorem RVs.length : ∀ {vs : List V} {xs : List AV}, RVs c H μ vs xs → vs.length = xs.length
  | _, _, .nil => rfl
  | _, _, .cons _ t => by simp [RVs.length t]
theorem RVs.append : ∀ {vs : List V} {xs : List AV} {ws : List V} {ys : List AV}, RVs c H μ vs xs → RVs c H μ ws ys → RVs c H μ (vs ++ ws) (xs ++ ys)
  | _, _, _, _, .nil, t => t
  | _, _, _, _, .cons h r, t => .cons h (RVs.append r t)
theorem RVs.get : ∀ {vs : List V} {xs : List AV} {i : Nat} {x : AV}, RVs c H μ vs xs → xs[i]? = some x → ∃ v, vs[i]? = some v ∧ RV c H μ v x
  | _, _, _, _, .nil, e => by simp at e
  | _, _, 0, _, .cons h _, e => by simp at e; subst e; exact ⟨_, rfl, h⟩
  | _, _, i + 1, x, .cons _ t, e => by
    obtain ⟨v, h1, h2⟩ := RVs.get (i := i) (x := x) t (by simpa using e)
    exact ⟨v, by simpa using h1, h2⟩
theorem RVs.take : ∀ {vs : List V} {xs : List AV} (n : Nat), RVs c H μ vs xs → RVs c H μ (vs.take n) (xs.take n)
  | _, _, 0, _ => .nil
  | _, _, _ + 1, .nil => .nil
  | _, _, n + 1, .cons h t => .cons h (RVs.take n t)
theorem RVs.drop : ∀ {vs : List V} {xs : List AV} (n : Nat), RVs c H μ vs xs → RVs c H μ (vs.drop n) (xs.drop n)
  | _, _, 0, r => r
  | _, _, _ + 1, .nil => .nil
  | _, _, n + 1, .cons _ t => RVs.drop n t
theorem RVs.set {v : V} {x : AV} (r : RV c H μ v x) : ∀ {vs : List V} {xs : List AV} (i : Nat), RVs c H μ vs xs → RVs c H μ (vs.set i v) (xs.set i x)
  | _, _, _, .nil => .nil
  | _, _, 0, .cons _ t => .cons r t
  | _, _, i + 1, .cons h t => .cons h (RVs.set r i t)
theorem RVs.dropLast {vs : List V} {xs : List AV} (r : RVs c H μ vs xs) : RVs c H μ vs.dropLast xs.dropLast := by
  rw [List.dropLast_eq_take, List.dropLast_eq_take, r.length]
  exact r.take _
theorem RVs.reverse : ∀ {vs : List V} {xs : List AV}, RVs c H μ vs xs → RVs c H μ vs.reverse xs.reverse
  | _, _, .nil => .nil
  | _, _, .cons h t => by
    rw [List.reverse_cons, List.reverse_cons]
    exact t.reverse.append (.cons h .nil)
theorem RVs.rep {vs : List V} {xs : List AV} (r : RVs c H μ vs xs) : ∀ k : Nat, RVs c H μ (List.replicate k vs).flatten (List.replicate k xs).flatten
  | 0 => .nil
  | k + 1 => by
    rw [List.replicate_succ, List.replicate_succ, List.flatten_cons, List.flatten_cons]
    exact r.append (r.rep k)
theorem RVs.cut {vs : List V} {xs : List AV} (r : RVs c H μ vs xs) (lo hi : Option Int) : RVs c H μ (cutV vs lo hi) (cut xs lo hi) := by
  unfold cutV Z.cut
  rw [r.length]
  exact (r.drop _).take _
theorem RVs.atI {vs : List V} {xs : List AV} {i : Int} {x : AV} (r : RVs c H μ vs xs) (h : L2.atI xs i = some x) : ∃ v, L2.atI vs i = some v ∧ RV c H μ v x := by
  unfold L2.atI at h ⊢
  rw [r.length]
  cases e : ixN xs.length i with
  | none => rw [e] at h; simp at h
  | some j =>
    rw [e] at h
    exact r.get h

def keyN : Key → NestedKey
  | .inl i => .num i
  | .inr x => .text x
/-- an entry of a dict whose keys are tuples -/
def entN (w : World) (x : NestedKey × Addr × Value) : DictEntry := ⟨x.1.hash w, .ref x.2.1, x.2.2⟩
/-- what stands at an address for a thing of the heap -/
inductive RO (c : Ct) (H : Hp) (μ : Mu) (a : Addr) : AO → Prop
  | lst {vs : List V} {xs : List AV} : H a = some (.lst vs) → vs.length ≤ sizeLine → RVs c H μ vs xs → RO c H μ a (.lst xs)
  | dctK {ks : List (Key × V)} {kvs : List (NestedKey × AV)} : H a = some (.dK ks) → ks.map (fun p => keyN p.1) = kvs.map (·.1) → RVs c H μ (ks.map fun p => kV p.1) (kvs.map fun p => kav p.1) → RVs c H μ (ks.map (·.2)) (kvs.map (·.2)) → RO c H μ a (.dct kvs)
  | dctT {o : Obj} {es : Array DictEntry} {ep : Nat} {xs : List (NestedKey × Addr × Value)} {us : List V} {kvs : List (NestedKey × AV)} : H a = some (.ext fun h => h.get? a = some o) → o.ExactDict → o.data = .dict es ep → es.toList = xs.map (entN c.w) → (xs.map (·.1)).Nodup → (a == sysModules) = false → kvs ≠ [] → xs.length ≤ sizeLine →
      xs.map (·.1) = kvs.map (·.1) → (∀ p ∈ kvs, p.1.depth ≤ 8 ∧ isTk p.1 = true) → RVs c H μ (xs.map fun x => V.ref x.2.1) (kvs.map fun p => kav p.1) → Vals us (xs.map (·.2.2)) → RVs c H μ us (kvs.map (·.2)) → RO c H μ a (.dct kvs)
  | ins {C : Str} {Ca dx : Addr} {gs : List (Str × V)} {fs : List (Str × AV)} : c.CA C = some Ca → H a = some (.ins Ca dx gs) → H dx = some (.own a) → dx ∉ μ → gs.map (·.1) = fs.map (·.1) → RVs c H μ (gs.map (·.2)) (fs.map (·.2)) → RO c H μ a (.ins C fs)
structure RH (c : Ct) (H : Hp) (h : AH) (μ : Mu) : Prop where
  len : μ.n.length = h.length
  nd : μ.n.Nodup
  thing : ∀ (n : Nat) (o : AO), h[n]? = some o → ∃ a, μ.n[n]? = some a ∧ RO c H μ a o
  hid : ∀ a, a ∈ μ.h → a ∉ μ.n ∧ ∃ u, H a = some u
theorem RO.ok {a : Addr} {o : AO} (r : RO c H μ a o) : ∃ u, H a = some u := by
  cases r with
  | lst h _ _ => exact ⟨_, h⟩
  | dctK h _ _ _ => exact ⟨_, h⟩
  | dctT h _ _ _ _ _ _ _ _ _ _ _ _ => exact ⟨_, h⟩
  | ins _ h _ _ _ _ => exact ⟨_, h⟩
theorem RO.monoW {a : Addr} {o : AO} (r : RO c H μ a o) (x : ExtW H μ H' μ') (h : H' a = H a) : RO c H' μ' a o := by
  cases r with
  | lst e l r => exact .lst (h.trans e) l (r.monoW x)
  | dctK e k rk r => exact .dctK (h.trans e) k (rk.monoW x) (r.monoW x)
  | dctT e e1 e2 e3 e4 e5 e6 e7 e8 e9 rk v r => exact .dctT (h.trans e) e1 e2 e3 e4 e5 e6 e7 e8 e9 (rk.monoW x) v (r.monoW x)
  | ins C e d n k r => exact .ins C (h.trans e) (x.keep _ _ d n) (x.notin d n) k (r.monoW x)
theorem RO.mono {a : Addr} {o : AO} (r : RO c H μ a o) (x : Ext H μ H' μ') (h : H' a = H a) : RO c H' μ' a o := r.monoW x.w h
theorem RH.mem {h : AH} (r : RH c H h μ) {a : Addr} (m : a ∈ μ) : ∃ u, H a = some u := by
  rcases m with m | m
  · obtain ⟨n, hn, e⟩ := List.getElem_of_mem m
    have hl : n < h.length := by rw [← r.len]; exact hn
    obtain ⟨b, hb, ro⟩ := r.thing n h[n] (List.getElem?_eq_getElem hl)
    rw [List.getElem?_eq_getElem hn] at hb
    cases hb
    rw [← e]
    exact ro.ok
  · exact (r.hid a m).2
theorem RH.free {h : AH} (r : RH c H h μ) {p : Addr} (e : H p = none) : p ∉ μ := fun m => by
  obtain ⟨u, q⟩ := r.mem m
  rw [e] at q
  cases q
theorem RH.offH {h : AH} (r : RH c H h μ) {n : Nat} {a : Addr} (hn : μ.n[n]? = some a) : a ∉ μ.h := fun m => (r.hid a m).1 (List.mem_of_getElem? hn)
/-- a new thing that is not numbered -/
theorem RH.laid {h : AH} (r : RH c H h μ) {p : Addr} {o : HO} (e : H p = none) : RH c (upd H p o) h μ :=
  ⟨r.len, r.nd, fun n a q => by
    obtain ⟨b, hb, ro⟩ := r.thing n a q
    obtain ⟨u, hu⟩ := ro.ok
    exact ⟨b, hb, ro.mono (Ext.laid e (r.free e)) (upd_ne (ne_of_none hu e))⟩, fun a m => by
    obtain ⟨h1, u, h2⟩ := r.hid a m
    exact ⟨h1, u, by rw [upd_ne (ne_of_none h2 e)]; exact h2⟩⟩
theorem RH.ext {h : AH} (r : RH c H h μ) {p : Addr} {o : HO} (e : H p = none) : Ext H μ (upd H p o) μ := Ext.laid e (r.free e)
theorem RH.extN {h : AH} (r : RH c H h μ) {p : Addr} {o : HO} (e : H p = none) : Ext H μ (upd H p o) (μ.add p) := Ext.named e (r.free e)
/-- a new thing is numbered -/
theorem RH.named {h : AH} (r : RH c H h μ) {p : Addr} {o : AO} {w : HO} (e : H p = none) (n : RO c (upd H p w) (μ.add p) p o) : RH c (upd H p w) (h ++ [o]) (μ.add p) := by
  have x : Ext H μ (upd H p w) (μ.add p) := r.extN e
  refine ⟨by show (μ.n ++ [p]).length = _; rw [List.length_append, List.length_append, r.len]; rfl, ?_, fun m q hq => ?_, fun a m => ?_⟩
  · show (μ.n ++ [p]).Nodup
    rw [List.nodup_append]
    refine ⟨r.nd, by simp, fun a ha b hb => ?_⟩
    rw [List.mem_singleton.mp hb]
    exact fun z => r.free e (z ▸ .inl ha)
  · by_cases hm : m < h.length
    · rw [List.getElem?_append_left hm] at hq
      obtain ⟨b, hb, ro⟩ := r.thing m q hq
      obtain ⟨u, hu⟩ := ro.ok
      exact ⟨b, x.w.at hb, ro.mono x (upd_ne (ne_of_none hu e))⟩
    · have hm' : m = h.length := by
        have := (List.getElem?_eq_some_iff.mp hq).1
        rw [List.length_append] at this
        simp at this
        omega
      subst hm'
      rw [List.getElem?_append_right (Nat.le_refl _)] at hq
      simp at hq
      subst hq
      refine ⟨p, ?_, n⟩
      show (μ.n ++ [p])[h.length]? = some p
      rw [← r.len, List.getElem?_append_right (Nat.le_refl _)]
      simp
  · obtain ⟨h1, u, h2⟩ := r.hid a m
    refine ⟨fun z => ?_, u, by rw [upd_ne (ne_of_none h2 e)]; exact h2⟩
    rcases List.mem_append.mp z with z | z
    · exact h1 z
    · rw [List.mem_singleton.mp z, e] at h2
      cases h2
theorem RH.extW {h : AH} (r : RH c H h μ) {n : Nat} {a : Addr} {u : HO} (hn : μ.n[n]? = some a) : Ext H μ (upd H a u) μ := Ext.wrote (List.mem_of_getElem? hn) (r.offH hn)
/-- a numbered thing is written -/
theorem RH.wrote {h : AH} (r : RH c H h μ) {n : Nat} {a : Addr} {u : HO} {o : AO} (hn : μ.n[n]? = some a) (new : RO c (upd H a u) μ a o) : RH c (upd H a u) (h.set n o) μ := by
  have x : Ext H μ (upd H a u) μ := r.extW hn
  refine ⟨by rw [List.length_set]; exact r.len, r.nd, fun m q hq => ?_, fun b m => ?_⟩
  · by_cases e : m = n
    · subst e
      have hl : m < h.length := by
        have := (List.getElem?_eq_some_iff.mp hq).1
        rw [List.length_set] at this
        exact this
      rw [List.getElem?_set_self hl] at hq
      cases hq
      exact ⟨a, hn, new⟩
    · rw [List.getElem?_set_ne (Ne.symm e)] at hq
      obtain ⟨b, hb, ro⟩ := r.thing m q hq
      have ne : b ≠ a := fun z => by
        subst z
        obtain ⟨h1, e1⟩ := List.getElem?_eq_some_iff.mp hb
        obtain ⟨h2, e2⟩ := List.getElem?_eq_some_iff.mp hn
        exact e ((List.getElem_inj r.nd).mp (e1.trans e2.symm))
      exact ⟨b, hb, ro.mono x (upd_ne ne)⟩
  · obtain ⟨h1, u, h2⟩ := r.hid b m
    have hm := List.mem_of_getElem? hn
    exact ⟨h1, u, by rw [upd_ne (fun (z : b = a) => h1 (by rw [z]; exact hm))]; exact h2⟩

/-- the slots -/
def RE (c : Ct) (H : Hp) (μ : Mu) (σ : L2.St) (ρ : AEnv) : Prop := σ.length = ρ.length ∧ ∀ (i : Nat) (v : AV), ρ[i]? = some (some v) → ∃ u, σ[i]? = some (some u) ∧ RV c H μ u v
theorem RE.mono {σ : L2.St} {ρ : AEnv} (r : RE c H μ σ ρ) (x : Ext H μ H' μ') : RE c H' μ' σ ρ := ⟨r.1, fun i v e => by
  obtain ⟨u, h1, h2⟩ := r.2 i v e
  exact ⟨u, h1, h2.mono x⟩⟩
theorem RE.set {σ : L2.St} {ρ : AEnv} (r : RE c H μ σ ρ) {i : Nat} {u : V} {v : AV} (h : RV c H μ u v) : RE c H μ (σ.set i (some u)) (ρ.set i (some v)) := by
  refine ⟨by simp [r.1], fun j w e => ?_⟩
  by_cases q : j = i
  · subst q
    have hl : j < ρ.length := by
      have := (List.getElem?_eq_some_iff.mp e).1
      simpa using this
    rw [List.getElem?_set_self hl] at e
    cases e
    exact ⟨u, by rw [List.getElem?_set_self (by rw [r.1]; exact hl)], h⟩
  · rw [List.getElem?_set_ne (Ne.symm q)] at e
    obtain ⟨w', h1, h2⟩ := r.2 j w e
    exact ⟨w', by rw [List.getElem?_set_ne (Ne.symm q)]; exact h1, h2⟩
theorem RE.unset {σ : L2.St} {ρ : AEnv} (r : RE c H μ σ ρ) {i : Nat} : RE c H μ (σ.set i none) (ρ.set i none) := by
  refine ⟨by simp [r.1], fun j w e => ?_⟩
  by_cases q : j = i
  · subst q
    have hl : j < ρ.length := by
      have := (List.getElem?_eq_some_iff.mp e).1
      simpa using this
    rw [List.getElem?_set_self hl] at e
    cases e
  · rw [List.getElem?_set_ne (Ne.symm q)] at e
    obtain ⟨w', h1, h2⟩ := r.2 j w e
    exact ⟨w', by rw [List.getElem?_set_ne (Ne.symm q)]; exact h1, h2⟩
theorem RE.wipe {σ : L2.St} {ρ : AEnv} (r : RE c H μ σ ρ) : ∀ vs : List Nat, RE c H μ (L2.wipe σ vs) (wipeA ρ vs)
  | [] => r
  | _ :: vs => (r.wipe vs).unset

/-! ### lists and tuples to be read -/
theorem getL_sq {h : AH} (rh : RH c H h μ) {v : V} {x : AV} {xs : List AV} (r : RV c H μ v x) (e : getL h x = some xs) : ∃ a vs, v = .ref a ∧ SqL c.K H a vs ∧ vs.length ≤ sizeLine ∧ RVs c H μ vs xs := by
  cases r with
  | lst ha n l q => cases e; exact ⟨_, _, rfl, .inl (.inl ha), l, q⟩
  | ext ha n l q => cases e; exact ⟨_, _, rfl, .inl (.inr ⟨_, ha⟩), l, q⟩
  | extK ha l q => cases e; exact ⟨_, _, rfl, .inr ha, l, q⟩
  | ref hn =>
    simp only [getL] at e
    split at e
    · rename_i n ys hy
      cases e
      obtain ⟨b, hb, ro⟩ := rh.thing _ _ hy
      rw [hn] at hb
      cases hb
      cases ro with
      | lst ha l q => exact ⟨_, _, rfl, .inl (.inl ha), l, q⟩
    · cases e
  | _ => cases e
/-- .. that is tracked as a list (the script is not) -/
theorem RV.tupS {v : V} {xs : List AV} (r : RV c H μ v (.tup xs)) : ∃ a vs, v = .ref a ∧ SqT c.K H a vs ∧ vs.length ≤ sizeLine ∧ RVs c H μ vs xs := by
  cases r with
  | tup ha _ n l q => exact ⟨_, _, rfl, .inl (.inr ⟨_, ha⟩), l, q⟩
  | tupK ha l q => exact ⟨_, _, rfl, .inr ha.sq, l, q⟩
theorem getS_sq {h : AH} (rh : RH c H h μ) {v : V} {x : AV} {xs : List AV} (r : RV c H μ v x) (e : getS h x = some xs) : ∃ a vs, v = .ref a ∧ (SqL c.K H a vs ∨ SqT c.K H a vs) ∧ vs.length ≤ sizeLine ∧ RVs c H μ vs xs := by
  cases x with
  | tup ys =>
    cases e
    obtain ⟨a, vs, h1, h2, h3⟩ := r.tupS
    exact ⟨a, vs, h1, .inr h2, h3⟩
  | _ =>
    obtain ⟨a, vs, h1, h2, h3⟩ := getL_sq rh r e
    exact ⟨a, vs, h1, .inl h2, h3⟩

/-! ### plain data -/
mutual
theorem toD_dp {h : AH} : ∀ {v : V} {x : AV} {d : PyData}, RV c H μ v x → toD h x = some d → Dp c.K H v d
  | _, _, _, .non, e => by cases e; exact .non
  | _, _, _, .bl b, e => by cases e; exact .bl b
  | _, _, _, .int i, e => by cases e; exact .int i
  | _, _, _, .str s _ _, e => by cases e; exact .str s
  | _, .tup xs, _, .tup ha _ _ _ q, e => by
    simp only [toD, Option.map_eq_some_iff] at e
    obtain ⟨ds, e1, rfl⟩ := e
    exact .tup (.inl (.inr ⟨_, ha⟩)) (toDs_dp q e1)
  | _, .tup xs, _, .tupK ha _ q, e => by
    simp only [toD, Option.map_eq_some_iff] at e
    obtain ⟨ds, e1, rfl⟩ := e
    exact .tup (.inr ha.sq) (toDs_dp q e1)
  | _, .lst xs, _, .lst ha _ _ q, e => by
    simp only [toD, Option.map_eq_some_iff] at e
    obtain ⟨ds, e1, rfl⟩ := e
    exact .lst (.inl (.inl ha)) (toDs_dp q e1)
  | _, _, _, .ext _ _ _ _, e => by cases e
  | _, _, _, .extK _ _ _, e => by cases e
  | _, _, _, .ref _, e => by cases e
  | _, _, _, .exn _, e => by cases e
  | _, _, _, .rep _, e => by cases e
theorem toDs_dp {h : AH} : ∀ {vs : List V} {xs : List AV} {ds : List PyData}, RVs c H μ vs xs → toDs h xs = some ds → DpAll c.K H vs ds
  | _, _, _, .nil, e => by cases e; exact .nil
  | _, _, _, .cons (x := x) (xs := xs) r t, e => by
    simp only [toDs] at e
    split at e
    · rename_i d ds h1 h2
      cases e
      exact .cons (toD_dp r h1) (toDs_dp t h2)
    · cases e
end
mutual
theorem toD_ok {h : AH} : ∀ {v : V} {x : AV} {d : PyData}, RV c H μ v x → toD h x = some d → d.canLay0 = true
  | _, _, _, .non, e => by cases e; rfl
  | _, _, _, .bl b, e => by cases e; rfl
  | _, _, _, .int i, e => by cases e; rfl
  | _, _, _, .str s hs _, e => by cases e; exact hs
  | _, .tup xs, _, .tup ha _ _ _ q, e => by
    simp only [toD, Option.map_eq_some_iff] at e
    obtain ⟨ds, e1, rfl⟩ := e
    exact toDs_ok q e1
  | _, .tup xs, _, .tupK ha _ q, e => by
    simp only [toD, Option.map_eq_some_iff] at e
    obtain ⟨ds, e1, rfl⟩ := e
    exact toDs_ok q e1
  | _, .lst xs, _, .lst ha _ _ q, e => by
    simp only [toD, Option.map_eq_some_iff] at e
    obtain ⟨ds, e1, rfl⟩ := e
    exact toDs_ok q e1
  | _, _, _, .ext _ _ _ _, e => by cases e
  | _, _, _, .extK _ _ _, e => by cases e
  | _, _, _, .ref _, e => by cases e
  | _, _, _, .exn _, e => by cases e
  | _, _, _, .rep _, e => by cases e
theorem toDs_ok {h : AH} : ∀ {vs : List V} {xs : List AV} {ds : List PyData}, RVs c H μ vs xs → toDs h xs = some ds → PyData.canLayAll0 ds = true
  | _, _, _, .nil, e => by cases e; rfl
  | _, _, _, .cons (x := x) (xs := xs) r t, e => by
    simp only [toDs] at e
    split at e
    · rename_i d ds h1 h2
      cases e
      simp only [PyData.canLayAll0, toD_ok r h1, toDs_ok t h2, Bool.and_self]
    · cases e
end
mutual
theorem toD1_dp {h : AH} (rh : RH c H h μ) : ∀ {v : V} {x : AV} {d : PyData}, RV c H μ v x → toD1 h x = some d → Dp c.K H v d ∧ d.canLay0 = true
  | _, _, _, .non, e => by cases e; exact ⟨.non, rfl⟩
  | _, _, _, .bl b, e => by cases e; exact ⟨.bl b, rfl⟩
  | _, _, _, .int i, e => by cases e; exact ⟨.int i, rfl⟩
  | _, _, _, .str s hs _, e => by cases e; exact ⟨.str s, hs⟩
  | _, .tup xs, _, .tup ha _ _ _ q, e => by
    simp only [toD1, Option.map_eq_some_iff] at e
    obtain ⟨ds, e1, rfl⟩ := e
    exact ⟨.tup (.inl (.inr ⟨_, ha⟩)) (toD1s_dp rh q e1).1, (toD1s_dp rh q e1).2⟩
  | _, .tup xs, _, .tupK ha _ q, e => by
    simp only [toD1, Option.map_eq_some_iff] at e
    obtain ⟨ds, e1, rfl⟩ := e
    exact ⟨.tup (.inr ha.sq) (toD1s_dp rh q e1).1, (toD1s_dp rh q e1).2⟩
  | _, .lst xs, _, .lst ha _ _ q, e => by
    simp only [toD1, Option.map_eq_some_iff] at e
    obtain ⟨ds, e1, rfl⟩ := e
    exact ⟨.lst (.inl (.inl ha)) (toD1s_dp rh q e1).1, (toD1s_dp rh q e1).2⟩
  | _, _, _, .ext _ _ _ _, e => by cases e
  | _, _, _, .extK _ _ _, e => by cases e
  | _, _, _, .ref hn, e => by
    simp only [toD1] at e
    split at e
    · rename_i ys hy
      simp only [Option.map_eq_some_iff] at e
      obtain ⟨ds, e1, rfl⟩ := e
      obtain ⟨b, hb, ro⟩ := rh.thing _ _ hy
      rw [hn] at hb
      cases hb
      cases ro with
      | lst ha l q => exact ⟨.lst (.inl (.inl ha)) (toDs_dp q e1), toDs_ok q e1⟩
    · cases e
  | _, _, _, .exn _, e => by cases e
  | _, _, _, .rep _, e => by cases e
theorem toD1s_dp {h : AH} (rh : RH c H h μ) : ∀ {vs : List V} {xs : List AV} {ds : List PyData}, RVs c H μ vs xs → toD1s h xs = some ds → DpAll c.K H vs ds ∧ PyData.canLayAll0 ds = true
  | _, _, _, .nil, e => by cases e; exact ⟨.nil, rfl⟩
  | _, _, _, .cons (x := x) (xs := xs) r t, e => by
    simp only [toD1s] at e
    split at e
    · rename_i d ds h1 h2
      cases e
      obtain ⟨a1, a2⟩ := toD1_dp rh r h1
      obtain ⟨b1, b2⟩ := toD1s_dp rh t h2
      exact ⟨.cons a1 b1, by simp only [PyData.canLayAll0, a2, b2, Bool.and_self]⟩
    · cases e
end
end
end Z

set_option Elab.async false
set_option linter.all false
set_option maxRecDepth 100000
set_option autoImplicit false
/-! ZBD: dicts. -/
namespace Z
open PySem PySem.Spec PyProof.Rows L2

/-! ### keys -/
section
variable {X : Cx} {c : Ct} {pins : List (Addr × Obj)} {σ : L2.St} {H : Hp} {s : Shared} {μ : Mu}
mutual
theorem key_is (hK : c.K = X.K) (I : L2.Inv X pins σ H s) : ∀ {v : V} {u : Value} (k : NestedKey), RV c H μ v (kav k) → RelV v u → NestedIs s.heap k u
  | _, _, .none, r, ru => by cases r; cases ru; exact .none
  | _, _, .num i, r, ru => by cases r; obtain ⟨t, rfl⟩ := ru; exact .int i t
  | _, _, .text x, r, ru => by cases r; obtain ⟨t, rfl⟩ := ru; exact .text x t
  | v, u, .tup ks, r, ru => by
    have r : RV c H μ v (.tup (kavs ks)) := r
    cases r with
    | tup ha hd _ _ rs =>
      cases ru
      obtain ⟨e1, _, its, rv, ob, e2, hc, n, hdat⟩ := I.hok _ _ ha
      rw [e1] at e2
      cases e2
      exact .tup e1 hc hdat (by simpa using key_iss hK I ks rs rv)
    | tupK ha _ rs =>
      cases ru
      obtain ⟨o, its, n, hk, hc, hdat, _, rv, _⟩ := ha
      rw [hK] at hk
      exact .tup (I.kIn _ _ hk) hc hdat (key_iss hK I ks rs rv)
theorem key_iss (hK : c.K = X.K) (I : L2.Inv X pins σ H s) : ∀ {vs : List V} {us : List Value} (ks : List NestedKey), RVs c H μ vs (kavs ks) → Vals vs us → NestedAll s.heap ks us
  | _, _, [], r, ru => by cases r; cases ru; exact .nil
  | _, _, k :: ks, r, ru => by
    cases r with
    | cons h t =>
      cases ru with
      | cons h2 t2 => exact .cons (key_is hK I k h h2) (key_iss hK I ks t t2)
end
/-- a key of a dict, as the model takes it -/
theorem dkey_some {v : AV} {k : NestedKey} (e : dkey v = some k) : v = kav k ∧ k.depth ≤ 8 ∧ k ≠ .none := by
  unfold dkey at e
  simp only [Option.bind_eq_some_iff] at e
  obtain ⟨k', e1, e2⟩ := e
  split at e2
  · rename_i h
    cases e2
    exact ⟨keyA_kav e1, h.1, h.2⟩
  · cases e2
theorem dkey_kav {k : NestedKey} (h : k.depth ≤ 8) (hn : k ≠ .none) : dkey (kav k) = some k := by
  unfold dkey
  rw [kav_keyA]
  show (if k.depth ≤ 8 ∧ k ≠ .none then some k else none) = some k
  rw [if_pos ⟨h, hn⟩]
/-- a plain key: an int or a text -/
def keyK : NestedKey → Option Key
  | .num i => some (.inl i)
  | .text x => some (.inr x)
  | _ => none
theorem plain_key {v : V} {k : NestedKey} (r : RV c H μ v (kav k)) (n : k ≠ .none) (t : isTk k = false) : ∃ q : Key, v = kV q ∧ keyN q = k := by
  cases k with
  | none => exact absurd rfl n
  | num i => cases r; exact ⟨.inl i, rfl, rfl⟩
  | text x => cases r; exact ⟨.inr x, rfl, rfl⟩
  | tup ks => cases t
theorem tup_key {v : V} {k : NestedKey} (r : RV c H μ v (kav k)) (t : isTk k = true) : ∃ b, v = .ref b := by
  cases k with
  | none => cases t
  | num i => cases t
  | text x => cases t
  | tup ks =>
    have r : RV c H μ v (.tup (kavs ks)) := r
    cases r <;> exact ⟨_, rfl⟩
theorem keyN_inj {a b : Key} (e : keyN a = keyN b) : a = b := by
  cases a <;> cases b <;> cases e <;> rfl
theorem keyN_isTk {a : Key} : isTk (keyN a) = false := by cases a <;> rfl
/-! ### look-ups alike -/
theorem get_rel : ∀ {ks : List (Key × V)} {kvs : List (NestedKey × AV)} {q : Key}, ks.map (fun p => keyN p.1) = kvs.map (·.1) → RVs c H μ (ks.map (·.2)) (kvs.map (·.2)) →
    (∀ w, getN kvs (keyN q) = some w → ∃ v, valV ks q = some v ∧ RV c H μ v w) ∧ (getN kvs (keyN q) = none → valV ks q = none)
  | [], [], _, _, _ => ⟨fun _ e => by (cases e), fun _ => rfl⟩
  | [], _ :: _, _, e, _ => by cases e
  | _ :: _, [], _, e, _ => by cases e
  | p :: ks, p' :: kvs, q, e, r => by
    rw [List.map_cons, List.map_cons] at e r
    injection e with e1 e2
    cases r with
    | cons h t =>
    by_cases z : p.1 = q
    · have z' : p'.1 = keyN q := by rw [← e1, z]
      rw [valV_pos z]
      have : getN (p' :: kvs) (keyN q) = some p'.2 := by simp [getN, List.find?_cons, z']
      rw [this]
      exact ⟨fun w ew => by cases ew; exact ⟨_, rfl, h⟩, fun z => by cases z⟩
    · have z' : ¬ p'.1 = keyN q := fun y => z (keyN_inj (e1.trans y))
      rw [valV_neg z]
      have : getN (p' :: kvs) (keyN q) = getN kvs (keyN q) := by simp [getN, List.find?_cons, z']
      rw [this]
      exact get_rel e2 t
theorem get_isSome {ks : List (Key × V)} {kvs : List (NestedKey × AV)} {q : Key} (e : ks.map (fun p => keyN p.1) = kvs.map (·.1)) (r : RVs c H μ (ks.map (·.2)) (kvs.map (·.2))) : (valV ks q).isSome = (getN kvs (keyN q)).isSome := by
  obtain ⟨h1, h2⟩ := get_rel (q := q) e r
  cases z : getN kvs (keyN q) with
  | none => rw [h2 z]; rfl
  | some w => obtain ⟨v, e, _⟩ := h1 w z; rw [e]; rfl
theorem put_rel {v : V} {w : AV} (rv : RV c H μ v w) {ks : List (Key × V)} {kvs : List (NestedKey × AV)} {q : Key} (rq : RV c H μ (kV q) (kav (keyN q))) (e : ks.map (fun p => keyN p.1) = kvs.map (·.1)) (rk : RVs c H μ (ks.map fun p => kV p.1) (kvs.map fun p => kav p.1)) (r : RVs c H μ (ks.map (·.2)) (kvs.map (·.2))) :
    (putK ks q v).map (fun p => keyN p.1) = (putN kvs (keyN q) w).map (·.1) ∧ RVs c H μ ((putK ks q v).map fun p => kV p.1) ((putN kvs (keyN q) w).map fun p => kav p.1) ∧ RVs c H μ ((putK ks q v).map (·.2)) ((putN kvs (keyN q) w).map (·.2)) := by
  have any : ∀ {ks : List (Key × V)} {kvs : List (NestedKey × AV)}, ks.map (fun p => keyN p.1) = kvs.map (·.1) → (ks.any fun p => decide (p.1 = q)) = kvs.any fun p => decide (p.1 = keyN q) := by
    intro ks
    induction ks with
    | nil => intro kvs e; cases kvs with
      | nil => rfl
      | cons _ _ => cases e
    | cons p ks ih => intro kvs e; cases kvs with
      | nil => cases e
      | cons p' kvs =>
        rw [List.map_cons, List.map_cons] at e
        injection e with e1 e2
        rw [List.any_cons, List.any_cons, ih e2, ← e1]
        congr 1
        by_cases z : p.1 = q
        · rw [decide_eq_true z, decide_eq_true (by rw [z])]
        · rw [decide_eq_false z, decide_eq_false (fun y => z (keyN_inj y))]
  unfold putK putN
  rw [any e]
  by_cases z : (kvs.any fun p => decide (p.1 = keyN q)) = true
  · rw [if_pos z, if_pos z]
    clear z
    have m1 : ∀ ks : List (Key × V), (ks.map fun kv => if kv.1 = q then (kv.1, v) else kv).map (fun p => keyN p.1) = ks.map fun p => keyN p.1 := fun ks => by
      rw [List.map_map]; exact List.map_congr_left fun p _ => by by_cases y : p.1 = q <;> simp [y]
    have m2 : ∀ kvs : List (NestedKey × AV), (kvs.map fun p => if p.1 = keyN q then (p.1, w) else p).map (·.1) = kvs.map (·.1) := fun kvs => by
      rw [List.map_map]; exact List.map_congr_left fun p _ => by by_cases y : p.1 = keyN q <;> simp [y]
    have m3 : (ks.map fun kv => if kv.1 = q then (kv.1, v) else kv).map (fun p => kV p.1) = ks.map fun p => kV p.1 := by
      rw [List.map_map]; exact List.map_congr_left fun p _ => by by_cases y : p.1 = q <;> simp [y]
    have m4 : (kvs.map fun p => if p.1 = keyN q then (p.1, w) else p).map (fun p => kav p.1) = kvs.map fun p => kav p.1 := by
      rw [List.map_map]; exact List.map_congr_left fun p _ => by by_cases y : p.1 = keyN q <;> simp [y]
    refine ⟨by rw [m1, m2, e], by rw [m3, m4]; exact rk, ?_⟩
    clear rk m3 m4
    induction ks generalizing kvs with
    | nil => cases kvs with
      | nil => exact .nil
      | cons _ _ => cases e
    | cons p ks ih => cases kvs with
      | nil => cases e
      | cons p' kvs =>
        rw [List.map_cons, List.map_cons] at e r
        injection e with e1 e2
        cases r with
        | cons h t =>
        rw [List.map_cons, List.map_cons, List.map_cons, List.map_cons]
        refine .cons ?_ (ih e2 t)
        by_cases y : p.1 = q
        · rw [if_pos y, if_pos (by rw [← e1, y])]; exact rv
        · rw [if_neg y, if_neg (fun z => y (keyN_inj (e1.trans z)))]; exact h
  · rw [if_neg z, if_neg z]
    refine ⟨by simp [e], ?_, ?_⟩
    · rw [List.map_append, List.map_append]; exact rk.append (.cons rq .nil)
    · rw [List.map_append, List.map_append]; exact r.append (.cons rv .nil)
end

/-! ### tuple keys -/
section
variable {X : Cx} {c : Ct} {pins : List (Addr × Obj)} {σ : L2.St} {H : Hp} {s : Shared} {μ : Mu}
theorem entN_eq {P : Program} {w : World} : (entN w) = entryOfKey (nestedKind P w) := rfl
theorem keys_are (hK : c.K = X.K) (I : L2.Inv X pins σ H s) : ∀ {xs : List (NestedKey × Addr × Value)} {kvs : List (NestedKey × AV)}, xs.map (·.1) = kvs.map (·.1) → (∀ p ∈ kvs, p.1.depth ≤ 8 ∧ isTk p.1 = true) → RVs c H μ (xs.map fun x => V.ref x.2.1) (kvs.map fun p => kav p.1) → ∀ x ∈ xs, (nestedKind X.prog X.w).is s.heap x.1 x.2.1
  | [], _, _, _, _, x, m => by cases m
  | y :: xs, [], e, _, _, _, _ => by cases e
  | y :: xs, p :: kvs, e, d, r, x, m => by
    rw [List.map_cons, List.map_cons] at e r
    injection e with e1 e2
    cases r with
    | cons h t =>
    rcases List.mem_cons.mp m with rfl | m
    · exact ⟨key_is (v := .ref x.2.1) hK I x.1 (by rw [e1]; exact h) rfl, by rw [e1]; exact (d p (by simp)).1⟩
    · exact keys_are hK I e2 (fun p hp => d p (by simp [hp])) t x m
theorem getT_rel : ∀ {xs : List (NestedKey × Addr × Value)} {us : List V} {kvs : List (NestedKey × AV)} {k : NestedKey}, xs.map (·.1) = kvs.map (·.1) → Vals us (xs.map (·.2.2)) → RVs c H μ us (kvs.map (·.2)) →
    (∀ w, getN kvs k = some w → ∃ p v, atKey xs k = some p ∧ RelV v p.2 ∧ RV c H μ v w) ∧ (getN kvs k = none → atKey xs k = none)
  | [], _, [], _, _, _, _ => ⟨fun _ e => by (cases e), fun _ => rfl⟩
  | [], _, _ :: _, _, e, _, _ => by cases e
  | _ :: _, _, [], _, e, _, _ => by cases e
  | x :: xs, us, p :: kvs, k, e, vs, r => by
    rw [List.map_cons, List.map_cons] at e
    rw [List.map_cons] at vs r
    injection e with e1 e2
    cases vs with
    | cons h t =>
    cases r with
    | cons h' t' =>
    by_cases z : x.1 = k
    · have : getN (p :: kvs) k = some p.2 := by simp [getN, List.find?_cons, ← e1, z]
      rw [this]
      have : atKey (x :: xs) k = some x.2 := by simp [atKey, List.find?_cons, z]
      rw [this]
      exact ⟨fun w ew => by cases ew; exact ⟨_, _, rfl, h, h'⟩, fun z => by cases z⟩
    · have : getN (p :: kvs) k = getN kvs k := by simp [getN, List.find?_cons, ← e1, z]
      rw [this]
      have : atKey (x :: xs) k = atKey xs k := by simp [atKey, List.find?_cons, z]
      rw [this]
      exact getT_rel e2 t t'
theorem putT_rel {v : V} {w : AV} {u : Value} {b : Addr} {k : NestedKey} (rv : RV c H μ v w) (ru : RelV v u) (rk0 : RV c H μ (.ref b) (kav k)) {xs : List (NestedKey × Addr × Value)} {us : List V} {kvs : List (NestedKey × AV)} (e : xs.map (·.1) = kvs.map (·.1)) (rk : RVs c H μ (xs.map fun x => V.ref x.2.1) (kvs.map fun p => kav p.1))
    (vs : Vals us (xs.map (·.2.2))) (r : RVs c H μ us (kvs.map (·.2))) :
    (storedH xs k b u).map (·.1) = (putN kvs k w).map (·.1) ∧ RVs c H μ ((storedH xs k b u).map fun x => V.ref x.2.1) ((putN kvs k w).map fun p => kav p.1) ∧ ∃ us', Vals us' ((storedH xs k b u).map (·.2.2)) ∧ RVs c H μ us' ((putN kvs k w).map (·.2)) := by
  have any : (atKey xs k).isSome = kvs.any fun p => decide (p.1 = k) := by
    obtain ⟨h1, h2⟩ := getT_rel (k := k) e vs r
    have ga : (getN kvs k).isSome = kvs.any fun p => decide (p.1 = k) := by
      unfold getN
      rw [Option.isSome_map, Bool.eq_iff_iff, List.find?_isSome, List.any_eq_true]
    rw [← ga]
    cases z : getN kvs k with
    | none => rw [h2 z]; rfl
    | some w => obtain ⟨p, v, e, _⟩ := h1 w z; rw [e]; rfl
  unfold storedH putN
  rw [any]
  by_cases z : (kvs.any fun p => decide (p.1 = k)) = true
  · rw [if_pos z, if_pos z]
    clear z any
    have m1 : ∀ xs : List (NestedKey × Addr × Value), (xs.map (putAt k u)).map (·.1) = xs.map (·.1) := fun xs => by
      rw [List.map_map]; exact List.map_congr_left fun x _ => by unfold putAt; by_cases y : x.1 = k <;> simp [y]
    have m2 : ∀ kvs : List (NestedKey × AV), (kvs.map fun p => if p.1 = k then (p.1, w) else p).map (·.1) = kvs.map (·.1) := fun kvs => by
      rw [List.map_map]; exact List.map_congr_left fun p _ => by by_cases y : p.1 = k <;> simp [y]
    have m3 : (xs.map (putAt k u)).map (fun x => V.ref x.2.1) = xs.map fun x => V.ref x.2.1 := by
      rw [List.map_map]; exact List.map_congr_left fun x _ => by unfold putAt; by_cases y : x.1 = k <;> simp [y]
    have m4 : (kvs.map fun p => if p.1 = k then (p.1, w) else p).map (fun p => kav p.1) = kvs.map fun p => kav p.1 := by
      rw [List.map_map]; exact List.map_congr_left fun p _ => by by_cases y : p.1 = k <;> simp [y]
    refine ⟨by rw [m1, m2, e], by rw [m3, m4]; exact rk, ?_⟩
    clear rk m3 m4
    induction xs generalizing kvs us with
    | nil => cases kvs with
      | nil => exact ⟨[], .nil, .nil⟩
      | cons _ _ => cases e
    | cons x xs ih => cases kvs with
      | nil => cases e
      | cons p kvs =>
        rw [List.map_cons, List.map_cons] at e
        rw [List.map_cons] at vs r
        injection e with e1 e2
        cases vs with
        | @cons v0 _ _ _ h t =>
        cases r with
        | cons h' t' =>
        obtain ⟨us', q1, q2⟩ := ih e2 t t'
        rw [List.map_cons, List.map_cons, List.map_cons, List.map_cons]
        by_cases y : x.1 = k
        · refine ⟨v :: us', .cons ?_ q1, .cons ?_ q2⟩
          · unfold putAt; rw [if_pos y]; exact ru
          · rw [if_pos (by rw [← e1, y])]; exact rv
        · refine ⟨v0 :: us', .cons ?_ q1, .cons ?_ q2⟩
          · unfold putAt; rw [if_neg y]; exact h
          · rw [if_neg (fun z => y (e1.trans z))]; exact h'
  · rw [if_neg z, if_neg z]
    refine ⟨by simp [e], ?_, us ++ [v], ?_, ?_⟩
    · rw [List.map_append, List.map_append]; exact rk.append (.cons rk0 .nil)
    · rw [List.map_append]; exact vs.append (.cons ru .nil)
    · rw [List.map_append]; exact r.append (.cons rv .nil)
end

/-! ### what a dict does -/
section
variable {X : Cx} {c : Ct} {pins : List (Addr × Obj)} {σ : L2.St} {H : Hp} {s : Shared} {μ : Mu} {a : Addr} {kvs : List (NestedKey × AV)} {k : NestedKey} {y : V} {u : Value} {ka : AV}
theorem dictH (hK : c.K = X.K) (hw : c.w = X.w) (I : L2.Inv X pins σ H s) {o : Obj} {es : Array DictEntry} {ep : Nat} {xs : List (NestedKey × Addr × Value)} (h : H a = some (.ext fun h => h.get? a = some o)) (h1 : o.ExactDict) (h2 : o.data = .dict es ep) (h3 : es.toList = xs.map (entN c.w)) (h4 : (xs.map (·.1)).Nodup)
    (e : xs.map (·.1) = kvs.map (·.1)) (d : ∀ p ∈ kvs, p.1.depth ≤ 8 ∧ isTk p.1 = true) (rk : RVs c H μ (xs.map fun x => V.ref x.2.1) (kvs.map fun p => kav p.1)) : s.heap.DictOfH (nestedKind X.prog X.w) a xs := by
  obtain ⟨g, _, _⟩ := I.hok _ _ h
  rw [hw] at h3
  exact ⟨o, es, ep, g, h1, h2, h3, keys_are hK I e d rk, h4⟩
/-- an empty one is of either sort -/
theorem dictH0 (I : L2.Inv X pins σ H s) (h : H a = some (.dK [])) : (a == sysModules) = false ∧ s.heap.DictOfH (nestedKind X.prog X.w) a [] := by
  obtain ⟨z, hd, vs, rel, o, es, ep, g, h1, h2, _, h3, _⟩ := dk_of I.hok h
  cases rel
  have e : es.toList = [] := by
    cases ee : es.toList with
    | nil => rfl
    | cons _ _ => rw [ee] at h3; cases h3
  exact ⟨hd, o, es, ep, g, h1, h2, e, fun x m => (by simp at m), List.nodup_nil⟩
/-- the sorts of a dict, asked with a key -/
inductive DSort (X : Cx) (c : Ct) (H : Hp) (s : Shared) (μ : Mu) (a : Addr) (kvs : List (NestedKey × AV)) (k : NestedKey) (y : V) (u : Value) : Prop where
  | kk (ks : List (Key × V)) (q : Key) : H a = some (.dK ks) → y = kV q → keyN q = k → ks.map (fun p => keyN p.1) = kvs.map (·.1) → RVs c H μ (ks.map fun p => kV p.1) (kvs.map fun p => kav p.1) → RVs c H μ (ks.map (·.2)) (kvs.map (·.2)) → DSort X c H s μ a kvs k y u
  | tt (b : Addr) (xs : List (NestedKey × Addr × Value)) (us : List V) : y = .ref b → u = .ref b → isTk k = true → (nestedKind X.prog X.w).is s.heap k b → Mut (H a) → (a == sysModules) = false → s.heap.DictOfH (nestedKind X.prog X.w) a xs → xs.length ≤ sizeLine → xs.map (·.1) = kvs.map (·.1) → (∀ p ∈ kvs, p.1.depth ≤ 8 ∧ isTk p.1 = true) →
      RVs c H μ (xs.map fun x => V.ref x.2.1) (kvs.map fun p => kav p.1) → Vals us (xs.map (·.2.2)) → RVs c H μ us (kvs.map (·.2)) → DSort X c H s μ a kvs k y u
theorem dsort (hK : c.K = X.K) (hw : c.w = X.w) (I : L2.Inv X pins σ H s) (ro : RO c H μ a (.dct kvs)) (ra : RV c H μ y ka) (ek : dkey ka = some k) (ft : fits kvs k = true) (ry : L2.RelV y u) : DSort X c H s μ a kvs k y u := by
  obtain ⟨rfl, dp, nn⟩ := dkey_some ek
  have ft : ∀ p ∈ kvs, isTk p.1 = isTk k := fun p hp => by
    have := List.all_eq_true.mp ft p hp
    simpa using this
  cases ro with
  | @dctK ks _ h e rk r =>
    cases t : isTk k with
    | false =>
      obtain ⟨q, rfl, rfl⟩ := plain_key ra nn t
      exact .kk ks q h rfl rfl e rk r
    | true =>
      have kn : kvs = [] := by
        cases kvs with
        | nil => rfl
        | cons p kvs =>
          cases ks with
          | nil => cases e
          | cons p' ks =>
            rw [List.map_cons, List.map_cons] at e
            injection e with e1 e2
            have := ft p (by simp)
            rw [← e1, keyN_isTk, t] at this
            cases this
      subst kn
      have : ks = [] := by cases ks with
        | nil => rfl
        | cons _ _ => cases e
      subst this
      obtain ⟨b, rfl⟩ := tup_key ra t
      cases ry
      obtain ⟨hd, dd⟩ := dictH0 I h
      exact .tt b [] [] rfl rfl t ⟨key_is hK I k ra rfl, dp⟩ (by rw [h]; exact trivial) hd dd (Nat.zero_le _) rfl (fun p m => by cases m) .nil .nil .nil
  | @dctT o es ep xs us _ h h1 h2 h3 h4 h5 h6 h7 e d rk vs r =>
    have t : isTk k = true := by
      cases kvs with
      | nil => exact absurd rfl h6
      | cons p kvs => rw [← ft p (by simp)]; exact (d p (by simp)).2
    obtain ⟨b, rfl⟩ := tup_key ra t
    cases ry
    exact .tt b xs us rfl rfl t ⟨key_is hK I k ra rfl, dp⟩ (by rw [h]; exact trivial) h5 (dictH hK hw I h h1 h2 h3 h4 e d rk) h7 e d rk vs r
theorem isD_type (hK : c.K = X.K) (hw : c.w = X.w) (I : L2.Inv X pins σ H s) (ro : RO c H μ a (.dct kvs)) : s.TypeIs (.ref a) "dict" ∧ (∀ b, Value.ref a = .ref b → ∃ ob, s.heap.get? b = some ob ∧ ob.dict = none) ∧ (a == sysModules) = false := by
  cases ro with
  | dctK h e rk r => exact isD_at I (.inl ⟨_, .inl h⟩)
  | dctT h h1 h2 h3 h4 h5 h6 h7 e d rk vs r =>
    obtain ⟨g, _, _⟩ := I.hok _ _ h
    refine ⟨⟨_, g, h1.1⟩, fun b q => ?_, h5⟩
    cases q
    exact ⟨_, g, h1.2.1⟩
variable {A : Around} {E : Value → Shared → Prop}
theorem room8 (hu : A.units + 9 < cLine) {P : Program} {w : World} : (nestedKind P w).room A.in1 := by
  show A.units + 1 + 8 < cLine
  omega
theorem dct_getItem {w : AV} {Q : Value → Shared → Prop} (hu : A.units + 9 < cLine) (I : L2.Inv X pins σ H s) (ds : DSort X c H s μ a kvs k y u) (ry : L2.RelV y u) (e : getN kvs k = some w) (h : ∀ v w' s', L2.Inv X pins σ H s' → L2.RelV v w' → RV c H μ v w → Q w' s') : wpAny (model X.prog X.w) A (getItem (.ref a) u) Q E s := by
  cases ds with
  | kk ks q hd ey eq em rk r =>
    subst ey eq
    obtain ⟨v, e1, rv⟩ := (get_rel em r).1 w e
    exact d_getItem (by omega) I (.inl ⟨ks, q, .inl hd, rfl, e1.symm⟩) ry fun w' s' I' r' => h v w' s' I' r' rv
  | tt b xs us ey eu t is mu hd dd l em d rk vs r =>
    subst ey eu
    obtain ⟨p, v, e1, e2, rv⟩ := (getT_rel em vs r).1 w e
    exact wpAny_getItem_heap (room8 hu) is dd e1 (h v _ _ (I.tok _) e2 rv)
theorem dct_in {Q : Value → Shared → Prop} (hu : A.units + 9 < cLine) (I : L2.Inv X pins σ H s) (ds : DSort X c H s μ a kvs k y u) (ry : L2.RelV y u) (h : ∀ s', L2.Inv X pins σ H s' → Q (.bool (getN kvs k).isSome) s') : wpAny (model X.prog X.w) A (compareOp .In u (.ref a)) Q E s := by
  cases ds with
  | kk ks q hd ey eq em rk r =>
    subst ey eq
    rw [← get_isSome em r] at h
    exact d_in (by omega) I (.inl ⟨ks, q, .inl hd, rfl, rfl⟩) ry h
  | tt b xs us ey eu t is mu hd dd l em d rk vs r =>
    subst ey eu
    refine wpAny_in_heap (room8 hu) is hd dd ?_
    have e : (atKey xs k).isSome = (getN kvs k).isSome := by
      obtain ⟨h1, h2⟩ := getT_rel (k := k) em vs r
      cases z : getN kvs k with
      | none => rw [h2 z]; rfl
      | some w => obtain ⟨p, v, e, _⟩ := h1 w z; rw [e]; rfl
    rw [e]
    exact h _ (I.tok _)
theorem dct_notIn {Q : Value → Shared → Prop} (hu : A.units + 9 < cLine) (I : L2.Inv X pins σ H s) (ds : DSort X c H s μ a kvs k y u) (ry : L2.RelV y u) (h : ∀ s', L2.Inv X pins σ H s' → Q (.bool (!(getN kvs k).isSome)) s') : wpAny (model X.prog X.w) A (compareOp .NotIn u (.ref a)) Q E s := by
  cases ds with
  | kk ks q hd ey eq em rk r =>
    subst ey eq
    rw [← get_isSome em r] at h
    exact d_notIn (by omega) I (.inl ⟨ks, q, .inl hd, rfl, rfl⟩) ry h
  | tt b xs us ey eu t is mu hd dd l em d rk vs r =>
    subst ey eu
    refine wpAny_notIn_heap (room8 hu) is hd dd ?_
    have e : (atKey xs k).isSome = (getN kvs k).isSome := by
      obtain ⟨h1, h2⟩ := getT_rel (k := k) em vs r
      cases z : getN kvs k with
      | none => rw [h2 z]; rfl
      | some w => obtain ⟨p, v, e, _⟩ := h1 w z; rw [e]; rfl
    rw [e]
    exact h _ (I.tok _)
theorem dct_get2 {d : V} {dv : AV} {r : Value} {Q : Value → Shared → Prop} (hu : A.units + 9 < cLine) (I : L2.Inv X pins σ H s) (ds : DSort X c H s μ a kvs k y u) (ry : L2.RelV y u) (rd : L2.RelV d r) (rdv : RV c H μ d dv) (h : ∀ v w' s', L2.Inv X pins σ H s' → L2.RelV v w' → RV c H μ v ((getN kvs k).getD dv) → Q w' s') :
    wpAny (model X.prog X.w) A (call (.builtin "dict.get") [.ref a, u, r]) Q E s := by
  cases ds with
  | kk ks q hd ey eq em rk r' =>
    subst ey eq
    refine d_get2 (by omega) I (.inl ⟨ks, q, .inl hd, rfl, rfl⟩) ry rd fun w' s' I' rr => h _ w' s' I' rr ?_
    obtain ⟨h1, h2⟩ := get_rel (q := q) em r'
    cases z : getN kvs (keyN q) with
    | none => rw [h2 z]; exact rdv
    | some w => obtain ⟨v, e, rv⟩ := h1 w z; rw [e]; exact rv
  | tt b xs us ey eu t is mu hd dd l em de rk vs r' =>
    subst ey eu
    refine call_meetsIn PySem.F.slot_dict_get dd.typeIs PySem.F.entry_dict_get (PySem.F.args_dict_get_3 _ _ _) (meetsH_dict_get_default (nestedKind X.prog X.w) a b hd r) ⟨room8 hu, k, xs, is, dd, ?_⟩
    obtain ⟨h1, h2⟩ := getT_rel (k := k) em vs r'
    cases z : getN kvs k with
    | none =>
      rw [h2 z]
      exact h d _ _ (I.tok _) rd (by rw [z]; exact rdv)
    | some w =>
      obtain ⟨p, v, e, e2, rv⟩ := h1 w z
      rw [e]
      exact h v _ _ (I.tok _) e2 (by rw [z]; exact rv)
theorem dct_setItem {v : V} {w : AV} {r : Value} {Q : Unit → Shared → Prop} (hw : c.w = X.w) (hu : A.units + 9 < cLine) (I : L2.Inv X pins σ H s) (ds : DSort X c H s μ a kvs k y u) (dk : k.depth ≤ 8) (ry : L2.RelV y u) (ra : RV c H μ y (kav k)) (rv : RV c H μ v w) (rr : L2.RelV v r) (hl : kvs.length < sizeLine)
    (h : ∀ s' o, L2.Inv X pins σ (upd H a o) s' → (∀ μ', (ExtW H μ (upd H a o) μ') → RO c (upd H a o) μ' a (.dct (putN kvs k w))) → Q () s') : wpAny (model X.prog X.w) A (setItem (.ref a) u r) Q E s := by
  cases ds with
  | kk ks q hd ey eq em rk r' =>
    subst ey eq
    have hl' : ks.length < sizeLine := by rw [show ks.length = kvs.length from by simpa using congrArg List.length em]; exact hl
    obtain ⟨p1, p2, p3⟩ := put_rel rv (q := q) ra em rk r'
    exact d_setItem (by omega) I (.inl ⟨ks, q, hd, rfl, hl', rfl⟩) ry rr fun s' I' => h s' _ I' fun μ' x => .dctK upd_same p1 (p2.monoW x) (p3.monoW x)
  | tt b xs us ey eu t is mu hd dd l em de rk vs r' =>
    subst ey eu
    have hl' : xs.length < sizeLine := by rw [show xs.length = kvs.length from by simpa using congrArg List.length em]; exact hl
    refine wpAny_setItem_heap (hsz := l) (room8 hu) is dd fun h' dd' hs => ?_
    obtain ⟨o, es, ep, g, h1, h2, h3, h4, h5⟩ := id dd'
    obtain ⟨p1, p2, us', p3, p4⟩ := putT_rel rv rr ra em rk vs r'
    refine h _ (.ext fun h => h.get? a = some o) (d_write I mu hs ⟨o, g⟩ ⟨g, ⟨o, g⟩, fun h1 h2 e k => k _ e⟩) fun μ' x => ?_
    have ln : (putN kvs k w).length ≤ kvs.length + 1 := by
      unfold putN
      split
      · rw [List.length_map]; omega
      · rw [List.length_append]; simp
    refine .dctT upd_same h1 h2 (by rw [hw]; exact h3) h5 hd (fun z => ?_) ?_ p1 (fun p hp => ?_) (p2.monoW x) p3 (p4.monoW x)
    · have := congrArg List.length p1
      rw [z] at this
      unfold putN at z
      split at z
      · rename_i q
        have := List.map_eq_nil_iff.mp z
        subst this
        cases q
      · simp at z
    · rw [show (storedH xs k b r).length = (putN kvs k w).length from by simpa using congrArg List.length p1]
      rw [show kvs.length = xs.length from by simpa using (congrArg List.length em).symm] at ln
      omega
    · unfold putN at hp
      split at hp
      · obtain ⟨p', m, rfl⟩ := List.mem_map.mp hp
        have := de p' m
        by_cases q : p'.1 = k <;> simp [q] <;> first | exact this | (rw [← q]; exact this)
      · rcases List.mem_append.mp hp with m | m
        · exact de p m
        · rw [List.mem_singleton.mp m]; exact ⟨dk, t⟩
theorem dct_len {Q : Value → Shared → Prop} (hK : c.K = X.K) (hw : c.w = X.w) (I : L2.Inv X pins σ H s) (ro : RO c H μ a (.dct kvs)) (h : ∀ t s', L2.Inv X pins σ H s' → Q (.int kvs.length t) s') : wpAny (model X.prog X.w) A (call (.builtin "len") [.ref a]) Q E s := by
  cases ro with
  | @dctK ks _ hd e rk r =>
    have : ks.length = kvs.length := by simpa using congrArg List.length e
    rw [← this] at h
    exact d_len I (.inl hd) h
  | @dctT o es ep xs us _ hh h1 h2 h3 h4 h5 h6 h7 e d rk vs r =>
    have dd := dictH hK hw I hh h1 h2 h3 h4 e d rk
    have l : xs.length = kvs.length := by simpa using congrArg List.length e
    have hm : s.heap.DictKeyed (nestedKind X.prog X.w) a (pairsH xs) := ⟨xs, dd, rfl⟩
    have l2 : (pairsH xs).length = kvs.length := by rw [pairsH_length, l]
    refine PyProof.Rows.call_len_slot (n := (pairsH xs).length) hm.typeIs PySem.F.slot_dict_len (fun Q' hq => len_keyed h5 hm hq) (by omega) (by rw [l2, ← l]; rw [sizeLine_eq] at h7; omega) ?_
    rw [l2]
    exact h _ _ (I.tok _)
end
section
variable {c : Ct} {H : Hp} {μ : Mu} {h : AH}
theorem getD_at (rh : RH c H h μ) {v : V} {b : AV} {kvs : List (NestedKey × AV)} (r : RV c H μ v b) (e : getD h b = some kvs) : ∃ a n, v = .ref a ∧ b = .ref n ∧ h[n]? = some (.dct kvs) ∧ μ.n[n]? = some a ∧ RO c H μ a (.dct kvs) := by
  cases r with
  | ref hn =>
    simp only [getD] at e
    split at e
    · rename_i hy
      cases e
      obtain ⟨a', hb, ro⟩ := rh.thing _ _ hy
      rw [hn] at hb
      cases hb
      exact ⟨_, _, rfl, rfl, hy, hn, ro⟩
    · cases e
  | _ => cases e
theorem dgetA_some {kvs : List (NestedKey × AV)} {ka : AV} {o : Option AV} (e : dgetA kvs ka = some o) : ∃ k, dkey ka = some k ∧ fits kvs k = true ∧ o = getN kvs k := by
  unfold dgetA at e
  simp only [Option.bind_eq_some_iff] at e
  obtain ⟨k, e1, e2⟩ := e
  split at e2
  · rename_i hf
    cases e2
    exact ⟨k, e1, hf, rfl⟩
  · cases e2
end
end Z

set_option Elab.async false
set_option linter.all false
set_option maxRecDepth 100000
set_option autoImplicit false
/-! ZC: the operations by values are the interpreter's. -/
namespace Z
open PySem PySem.Spec PyProof.Rows L2

theorem big_eq : big = sizeLine := by rw [sizeLine_eq]; rfl
/-- what is wanted of a value and a heap, carried over -/
def okP (c : Ct) (H : Hp) (μ : Mu) (Q : V → Hp → Prop) : AV → AH → Prop := fun v h' => ∀ V H' μ', Ext H μ H' μ' → RH c H' h' μ' → RV c H' μ' V v → Q V H'
/-- an exception's class and its dict -/
def RX (c : Ct) (x : Ex) (cls : Value) (d : Option Addr) (H : Hp) : Prop := ∃ Ca, c.CA x.cls = some Ca ∧ cls = .ref Ca ∧ d = none
def exP (c : Ct) (H : Hp) (μ : Mu) (W : Value → Option Addr → Hp → Prop) : Ex → AH → Prop := fun x h' => ∀ H' μ', Ext H μ H' μ' → RH c H' h' μ' → ∀ cls d, RX c x cls d H' → W cls d H'
theorem okP.now {c : Ct} {H : Hp} {μ : Mu} {Q : V → Hp → Prop} {v : AV} {h : AH} (q : okP c H μ Q v h) (rh : RH c H h μ) {V : V} (r : RV c H μ V v) : Q V H := q V H μ .refl rh r
/-- a new object that is not numbered -/
theorem okP.new {c : Ct} {H : Hp} {μ : Mu} {Q : V → Hp → Prop} {v : AV} {h : AH} (q : okP c H μ Q v h) (rh : RH c H h μ) {p : Addr} {o : HO} (e : H p = none) (r : RV c (upd H p o) μ (.ref p) v) : Q (.ref p) (upd H p o) :=
  q _ _ _ (rh.ext e) (rh.laid e) r

theorem strOk_append {x y : Str} (hx : PyData.strOk x = true) (hy : PyData.strOk y = true) : PyData.strOk (x ++ y) = true := by
  unfold PyData.strOk at *
  rw [show (x ++ y).cps = x.cps ++ y.cps from rfl, Array.all_append, hx, hy]
  rfl
theorem strOk_iff {x : Str} : PyData.strOk x = true ↔ ∀ c ∈ x.cps.toList, c < 0x110000 := by
  unfold PyData.strOk
  rw [← Array.all_toList, List.all_eq_true]
  simp

section
variable {c : Ct} {H : Hp} {μ : Mu} {h : AH}
theorem getM_sq (rh : RH c H h μ) {v : V} {x : AV} {xs : List AV} (r : RV c H μ v x) (e : getM h x = some xs) : ∃ a vs, v = .ref a ∧ H a = some (.lst vs) ∧ vs.length ≤ sizeLine ∧ RVs c H μ vs xs := by
  cases r with
  | lst ha n l q => cases e; exact ⟨_, _, rfl, ha, l, q⟩
  | ref hn =>
    simp only [getM, getL] at e
    split at e
    · rename_i n ys hy
      cases e
      obtain ⟨b, hb, ro⟩ := rh.thing _ _ hy
      rw [hn] at hb
      cases hb
      cases ro with
      | lst ha l q => exact ⟨_, _, rfl, ha, l, q⟩
    · cases e
  | _ => cases e
end

/-! ### tuples, known to the object: they have no dict -/
def tupObj (its : List Value) : Obj := { cls := .type "tuple", data := .seq its.toArray }
section
variable {X : Cx} {pins : List (Addr × Obj)} {σ : L2.St} {H : Hp} {s : Shared}
theorem newTup (I : L2.Inv X pins σ H s) {xs : List V} {its : List Value} {t' : Nat} (r : Vals xs its) (l : xs.length ≤ sizeLine) : L2.Inv X pins σ (upd H s.heap.objs.size (.frz (tupObj its) (.tup xs))) { s with heap := s.heap.push { cls := .type "tuple", data := .seq its.toArray }, toks := t' } :=
  I.laid (t' := t') (fun b ob q => Heap.get?_push_of_some _ q) (Nat.le_refl _) ⟨Heap.get?_push_size _ rfl, l, its, r, IsTup.new _ _⟩
/-- what a new tuple asks -/
abbrev tupQ (H : Hp) (Q : VK) (xs : List V) : Prop := ∀ p o, H p = none → o.dict = none → Q (.ref p) (upd H p (.frz o (.tup xs)))
theorem tupEP (I : L2.Inv X pins σ H s) {Q : VK} {xs : List V} {its : List Value} {t' : Nat} (r : Vals xs its) (l : xs.length ≤ sizeLine) (q : tupQ H Q xs) : EP X pins σ Q (.ref s.heap.objs.size) { s with heap := s.heap.push { cls := .type "tuple", data := .seq its.toArray }, toks := t' } :=
  ⟨.ref s.heap.objs.size, _, newTup I r l, rfl, q _ _ (I.hok.fresh (Nat.le_refl _)) rfl⟩
end
section
variable {X : Cx}
theorem pe_tupF {es : List Expr} {t : TA} {x1 : Nat} {pos : Pos} (h : PA X es t) : PE X (.Tuple es x1 pos) (fun σ H Q => t σ H fun xs H1 => xs.length ≤ sizeLine ∧ tupQ H1 Q xs) := by
  refine ⟨fun pins s σ H Q I w => wpAny_Tuple_spliced (thn (h.run pos pins s σ H _ I w) fun us s1 hh => ?_)⟩
  obtain ⟨xs, H1, I1, r, z, q⟩ := hh
  exact ⟨by rw [← r.length]; exact z, tupEP (t' := s1.toks) I1 r z q⟩
theorem op_catF : OpR X (binaryOp .Add) (fun x y H Q => ∃ a b xs ys, x = .ref a ∧ y = .ref b ∧ SqT X.K H a xs ∧ SqT X.K H b ys ∧ xs.length + ys.length ≤ sizeLine ∧
    (xs = [] → Q (.ref b) H) ∧ (xs ≠ [] → ys = [] → Q (.ref a) H) ∧ (xs ≠ [] → ys ≠ [] → tupQ H Q (xs ++ ys))) := by
  intro pins s σ H x y v u Q I rx ry h
  obtain ⟨a, b, xs, ys, rfl, rfl, ha, hb, hz, q0, q1, q2⟩ := h
  by_cases e1 : xs = []
  · exact op_catA pins s σ H _ _ v u Q I rx ry ⟨a, b, xs, ys, rfl, rfl, ha, hb, hz, q0, fun z => absurd e1 z, fun z => absurd e1 z⟩
  · by_cases e2 : ys = []
    · exact op_catA pins s σ H _ _ v u Q I rx ry ⟨a, b, xs, ys, rfl, rfl, ha, hb, hz, fun z => absurd z e1, q1, fun _ z => absurd e2 z⟩
    · cases rx
      cases ry
      obtain ⟨its, r1, p1, _⟩ := I.tuple ha
      obtain ⟨jts, r2, p2, _⟩ := I.tuple hb
      exact HT.cat_tup p1 p2 (fun z => e1 (r1.nil_iff.mp z)) (fun z => absurd (r2.nil_iff.mp z) e2) (fun _ => tupEP (t' := s.toks) I (r1.append r2) (by rw [List.length_append]; exact hz) (q2 e1 e2)) (by rw [← r1.length, ← r2.length]; exact hz)
theorem sl_tupF : SlR X (fun x lo hi H Q => ∃ a xs, x = .ref a ∧ SqT X.K H a xs ∧ (HT.sIx xs.length 0 lo = 0 ∧ HT.sIx xs.length xs.length hi = xs.length → Q (.ref a) H) ∧
    (¬ (HT.sIx xs.length 0 lo = 0 ∧ HT.sIx xs.length xs.length hi = xs.length) → tupQ H Q (cutV xs lo hi))) := by
  intro pins s σ H x v vl vu lo hi sl Q I rx hs pl pu h
  obtain ⟨a, xs, rfl, hx, q1, q2⟩ := h
  by_cases hw : HT.sIx xs.length 0 lo = 0 ∧ HT.sIx xs.length xs.length hi = xs.length
  · exact sl_tupA pins s σ H _ v vl vu lo hi sl Q I rx hs pl pu ⟨a, xs, rfl, hx, q1, fun z => absurd hw z⟩
  · cases rx
    obtain ⟨its, r, ht, hz⟩ := I.tuple hx
    have hl : its.toArray.size = xs.length := by rw [List.size_toArray]; exact r.length.symm
    refine ⟨"tuple", _, PyProof.Rows.slot_tuple_getitem.lookup, ht.typeIs, HT.getItem_tuple_cut ht hs pl pu (by rw [hl]; exact hw) ?_ (by rw [hl]; exact hz)⟩
    rw [hl]
    exact tupEP (t' := s.toks) I ((r.drop _).take _) (Nat.le_trans (cutV_length xs lo hi) hz) (q2 hw)
theorem call_tupF : CallR X (.type "tuple") (fun xs H Q => ∃ p ys, xs = [.ref p] ∧ SqL X.K H p ys ∧ tupQ H Q ys) := by
  intro pins s σ H xs us Q I r h
  obtain ⟨p, ys, rfl, hq, q⟩ := h
  obtain ⟨u, rfl, rx⟩ := vals1 r
  cases rx
  obtain ⟨its, r', pl, hz⟩ := I.list hq
  have hl := r'.length
  refine call_tuple_list pl.isList (fun h' kp => ?_) (by simp only [List.size_toArray] <;> omega)
  have I1 : L2.Inv X pins σ H { s with heap := h' } := I.kept (t' := s.toks) kp
  exact tupEP (s := { s with heap := h' }) (t' := s.toks) I1 r' hz q
theorem tuple_mul1 (l : Addr) (items : Array Value) (n : Nat) (dd : Option Addr) (sl : Array (Option Value)) (u : Tok) :
    Meets (Builtin.«tuple.__mul__» ⟨[.ref l, .int 1 u], []⟩) (fun _ R s => s.heap.get? l = some { cls := .type "tuple", dict := dd, data := .seq items n, slots := sl } ∧ R (.ok (.ret (Value.ref l))) s) :=
  .of_wp fun prog w A R s h => by
    obtain ⟨hp, g, d, tk, os⟩ := s
    obtain ⟨hl, h⟩ := h
    have f1 := AutoSeq1.idx_int
    have c1 : (items.isEmpty || (1 : Int) == 1) = true := by simp
    wp_walk using wpAny_loadPart' hl
    repeat (first
      | (refine wpAny_ite_true (decide_eq_true c1) ?_; wp_walk using wpAny_loadPart' hl)
      | (refine wpAny_ite_false (decide_eq_false (by decide)) ?_; wp_walk using wpAny_loadPart' hl))
    exact ⟨_, rfl, h⟩
theorem op_rep1 : OpR X (binaryOp .Mult) (fun x y H Q => ∃ l xs, x = .ref l ∧ y = .int 1 ∧ SqT X.K H l xs ∧ Q (.ref l) H) := by
  intro pins s σ H x y v u Q I rx ry h
  obtain ⟨l, xs, rfl, rfl, hT, q⟩ := h
  cases rx
  obtain ⟨t, rfl⟩ := ry
  obtain ⟨its, r, ⟨⟨cls, dd, data, sl⟩, ho, hc, n, hd⟩, _⟩ := I.tuple hT
  simp only at hc hd
  subst hc hd
  refine wpAny_binaryOp_repeat_ref (T := "tuple") (U := "int") (by decide) ⟨_, ho, rfl⟩ (fun s' => typeIs_int s' 1 t) noFill_tuple_mul F.fills_int_mul F.slot_int_rmul repeat_tuple F.slot_int_index.lookup ?_
  refine call_meets F.slot_int_rmul (typeIs_int s 1 t) F.entry_int_rmul (F.args_int_rmul_2 _ _) (int_rmul_tuple 1 t l its.toArray n dd sl) ⟨ho, rfl, ⟨_, ho, rfl⟩, ?_⟩
  refine call_meets F.slot_tuple_mul ⟨_, ho, rfl⟩ F.entry_tuple_mul (F.args_tuple_mul_2 _ _) (tuple_mul1 l its.toArray n dd sl t) ⟨ho, ?_⟩
  exact ⟨.ref l, H, I, rfl, q⟩
theorem op_repF : OpR X (binaryOp .Mult) (fun x y H Q => ∃ l k xs, x = .ref l ∧ y = .int k ∧ SqT X.K H l xs ∧ xs ≠ [] ∧ 2 ≤ k ∧ k ≤ 1000 ∧ xs.length ≤ 1000 ∧ tupQ H Q (List.replicate k.toNat xs).flatten) := by
  intro pins s σ H x y v u Q I rx ry h
  obtain ⟨l, k, xs, rfl, rfl, hT, hne, k2, k3, hz, q⟩ := h
  cases rx
  obtain ⟨t, rfl⟩ := ry
  obtain ⟨its, r, ⟨⟨cls, dd, data, sl⟩, ho, hc, n, hd⟩, _⟩ := I.tuple hT
  simp only at hc hd
  subst hc hd
  have len : its.length = xs.length := r.length.symm
  have pos : its ≠ [] := fun e => by
    subst e
    exact hne (List.eq_nil_of_length_eq_zero len.symm)
  have nonE : its.toArray.isEmpty = false := by cases its <;> simp_all
  have sz : its.toArray.size = xs.length := by rw [List.size_toArray, len]
  have nat : k.toNat * xs.length ≤ 1000000 := by
    have a1 : k.toNat * xs.length ≤ 1000 * 1000 := Nat.mul_le_mul (by omega) hz
    omega
  have prod : ((its.toArray.size : Nat) : Int) * k ≤ 1000000 := by
    rw [sz]
    have a1 : ((xs.length : Nat) : Int) * k = ((xs.length * k.toNat : Nat) : Int) := by
      rw [Int.natCast_mul, Int.toNat_of_nonneg (by omega)]
    have a2 : xs.length * k.toNat ≤ 1000000 := by rw [Nat.mul_comm]; exact nat
    rw [a1]
    omega
  have fl : (List.replicate k.toNat its).flatten.length ≤ sizeLine := by
    rw [PyProof.Rows.lm_len_rep_flat, len, sizeLine_eq]
    omega
  have b0 : (decide (k < -(2 ^ 63)) || decide (k ≥ 2 ^ 63)) = false := by simp only [Bool.or_eq_false_iff, decide_eq_false_iff_not]; omega
  have b1 : (its.toArray.isEmpty || k == 1) = false := by rw [nonE]; simp; omega
  have b2 : (decide (k ≤ 0) || its.toArray.isEmpty) = false := by rw [nonE]; simp; omega
  have b4 : Builtin.Tuple.tupleTooMany (((its.toArray.size : Nat) : Int) * k) = false := by
    unfold Builtin.Tuple.tupleTooMany
    rw [sizeLine_eq, decide_eq_false_iff_not]
    omega
  refine wpAny_binaryOp_repeat_ref (T := "tuple") (U := "int") (by decide) ⟨_, ho, rfl⟩ (fun s' => typeIs_int s' k t) noFill_tuple_mul F.fills_int_mul F.slot_int_rmul repeat_tuple F.slot_int_index.lookup ?_
  refine call_meets F.slot_int_rmul (typeIs_int s k t) F.entry_int_rmul (F.args_int_rmul_2 _ _) (int_rmul_tuple k t l its.toArray n dd sl) ⟨ho, rfl, ⟨_, ho, rfl⟩, ?_⟩
  refine call_meets F.slot_tuple_mul ⟨_, ho, rfl⟩ F.entry_tuple_mul (F.args_tuple_mul_2 _ _) (tuple_mulW l its.toArray n dd sl k t b0 b1 b2 (by omega) b4 (by rw [size_rep, List.size_toArray]; exact fl)) ⟨ho, ?_⟩
  rw [size_rep]
  exact tupEP (t' := s.toks) I (r.rep k.toNat) (by rw [PyProof.Rows.lm_len_rep_flat, sizeLine_eq]; omega) q
end

theorem wide_log {n : Nat} (h : n < 1606938044258990275541962092341162602522202993782792835301376) : n.log2 < 9000 := by
  refine Nat.lt_of_lt_of_le (PySem.Flt.log2_lt_of (k := 200) (by decide) (Nat.lt_of_lt_of_le h (by decide))) (by decide)
theorem op_fdivNW {X : Cx} : OpR X (binaryOp .FloorDiv) (rI (fun _ j => j ≠ 0 ∧ j.natAbs.log2 < 9000) fun i j => .int (i.fdiv j)) := opI fun _ _ _ _ _ _ _ hc q => floordiv_int hc.1 q (.inl (PyProof.noPylong_of_log2 hc.2))
def BO.op : BO → Operator
  | .add => .Add | .sub => .Sub | .mul => .Mult | .mod => .Mod | .fdiv => .FloorDiv | .pow => .Pow
section
variable {X : Cx} {c : Ct}
/-- what a rule by values asks: abstract values for both, the answer's -/
def rBin (c : Ct) (f : AH → AV → AV → Option AV) : R2 := fun x y H Q => ∃ h μ a b v, RH c H h μ ∧ RV c H μ x a ∧ RV c H μ y b ∧ f h a b = some v ∧ okP c H μ Q v h

theorem or_bin (hK : c.K = X.K) (o : BO) : OpR X (binaryOp o.op) (rBin c fun h => binV h o) := by
  intro pins s σ H x y v u Q I rx ry hh
  obtain ⟨h, μ, a, b, w, rh, ra, rb, e, q⟩ := hh
  have byLists : ∀ {f : AV}, o = .add → (match getM h a, getM h b with | some xs, some ys => if xs.length + ys.length ≤ big then some (AV.lst (xs ++ ys)) else none | _, _ => none) = some w → wpAny (model X.prog X.w) X.A (binaryOp o.op v u) (EP X pins σ Q) X.xe s := by
    rintro _ rfl e
    split at e
    · rename_i xs ys h1 h2
      split at e
      · rename_i hz
        cases e
        obtain ⟨p, vs, rfl, hp, l1, r1⟩ := getM_sq rh ra h1
        obtain ⟨p2, vs2, rfl, hp2, l2, r2⟩ := getM_sq rh rb h2
        have hz' : vs.length + vs2.length ≤ sizeLine := by rw [r1.length, r2.length, ← big_eq]; exact hz
        refine op_cat pins s σ H _ _ v u Q I rx ry ⟨p, p2, vs, vs2, rfl, rfl, hp, hp2, hz', fun t ht => ?_⟩
        have x := rh.ext (o := .lst (vs ++ vs2)) ht
        exact q.new rh ht (.lst upd_same (rh.free ht) (by rw [List.length_append]; exact hz') ((r1.append r2).mono x))
      · cases e
    · cases e
  cases o with
  | add =>
    cases a <;> cases b <;> first
      | (rename_i i j
         cases e; cases ra; cases rb
         exact op_add pins s σ H _ _ v u Q I rx ry ⟨i, j, rfl, rfl, q.now rh (.int _)⟩)
      | (rename_i i j
         simp only [binV] at e
         split at e
         · rename_i hz
           cases e
           cases ra with
           | str _ o1 _ =>
             cases rb with
             | str _ o2 _ => 
               exact op_add_str pins s σ H _ _ v u Q I rx ry ⟨i, j, rfl, rfl, by rw [← big_eq]; exact hz, q.now rh (.str _ (strOk_append o1 o2) (by rw [Str.length_append, ← big_eq]; exact hz))⟩
         · cases e)
      | (rename_i xs ys
         simp only [binV] at e
         split at e
         · rename_i hz
           cases e
           obtain ⟨p, vs, rfl, hp, l1, r1⟩ := ra.tupS
           obtain ⟨p2, vs2, rfl, hp2, l2, r2⟩ := rb.tupS
           rw [hK] at hp hp2
           have hz' : vs.length + vs2.length ≤ sizeLine := by rw [r1.length, r2.length, ← big_eq]; exact hz
           refine op_catF pins s σ H _ _ v u Q I rx ry ⟨p, p2, vs, vs2, rfl, rfl, hp, hp2, hz', fun z => ?_, fun _ z => ?_, fun _ _ t o ht hd => ?_⟩
           · subst z
             cases r1
             exact q.now rh rb
           · subst z
             cases r2
             rw [List.append_nil] at q
             exact q.now rh ra
           · have x := rh.ext (o := .frz o (.tup (vs ++ vs2))) ht
             exact q.new rh ht (.tup upd_same hd (rh.free ht) (by rw [List.length_append]; exact hz') ((r1.append r2).mono x))
         · cases e)
      | exact byLists (f := .non) rfl e
  | sub =>
    cases a <;> cases b <;> try (simp only [binV] at e; cases e; done)
    rename_i i j
    cases e; cases ra; cases rb
    exact op_sub pins s σ H _ _ v u Q I rx ry ⟨i, j, rfl, rfl, q.now rh (.int _)⟩
  | mul =>
    cases a <;> cases b <;> try (simp only [binV] at e; cases e; done)
    · rename_i i j
      simp only [binV] at e
      split at e
      · rename_i hz
        cases e; cases ra; cases rb
        exact op_mul pins s σ H _ _ v u Q I rx ry ⟨i, j, rfl, rfl, hz, q.now rh (.int _)⟩
      · cases e
    · rename_i xs k
      simp only [binV] at e
      split at e
      · rename_i hz
        cases e; cases rb
        obtain ⟨p, vs, rfl, hp, l1, r1⟩ := ra.tupS
        rw [hK] at hp
        have hne : vs ≠ [] := fun z => by subst z; cases r1; exact hz.1 rfl
        have hl : (List.replicate k.toNat vs).flatten.length ≤ sizeLine := by
          rw [PyProof.Rows.lm_len_rep_flat, r1.length, sizeLine_eq]
          have a1 : k.toNat * xs.length ≤ 1000 * 1000 := Nat.mul_le_mul (by omega) hz.2.2.2
          omega
        by_cases k1 : k = 1
        · subst k1
          refine op_rep1 pins s σ H _ _ v u Q I rx ry ⟨p, vs, rfl, rfl, hp, ?_⟩
          have e1 : (List.replicate (1 : Int).toNat xs).flatten = xs := by simp
          rw [e1] at q
          exact q.now rh ra
        refine op_repF pins s σ H _ _ v u Q I rx ry ⟨p, k, vs, rfl, rfl, hp, hne, by omega, hz.2.2.1, by rw [r1.length]; exact hz.2.2.2, fun t o ht hd => ?_⟩
        exact q.new rh ht (.tup upd_same hd (rh.free ht) hl ((r1.rep _).mono (rh.ext ht)))
      · cases e
    · rename_i xs k
      simp only [binV] at e
      split at e
      · rename_i hz
        cases e; cases rb
        cases ra with
        | @lst a0 vs0 _ hp n l1 r1 =>
          have hl : (List.replicate k.toNat vs0).flatten.length ≤ sizeLine := by
            rw [PyProof.Rows.lm_len_rep_flat, r1.length, ← big_eq, Nat.mul_comm]
            exact hz.2.2
          refine op_rep pins s σ H _ _ v u Q I rx ry ⟨a0, k, vs0, rfl, rfl, hp, by omega, hz.2.1, by rw [r1.length, ← big_eq]; exact hz.2.2, fun t ht => ?_⟩
          exact q.new rh ht (.lst upd_same (rh.free ht) hl ((r1.rep _).mono (rh.ext ht)))
      · cases e
  | mod =>
    cases a <;> cases b <;> try (simp only [binV] at e; cases e; done)
    rename_i i j
    simp only [binV] at e
    split at e
    · rename_i hz
      cases e; cases ra; cases rb
      exact op_mod pins s σ H _ _ v u Q I rx ry ⟨i, j, rfl, rfl, hz, q.now rh (.int _)⟩
    · split at e
      · rename_i hz
        cases e; cases ra; cases rb
        exact op_modN pins s σ H _ _ v u Q I rx ry ⟨i, j, rfl, rfl, by omega, q.now rh (.int _)⟩
      · cases e
  | fdiv =>
    cases a <;> cases b <;> try (simp only [binV] at e; cases e; done)
    rename_i i j
    simp only [binV] at e
    split at e
    · rename_i hz
      cases e; cases ra; cases rb
      exact op_fdivW pins s σ H _ _ v u Q I rx ry ⟨i, j, rfl, rfl, ⟨hz.1, wide_log (by omega)⟩, q.now rh (.int _)⟩
    · split at e
      · rename_i hz
        cases e; cases ra; cases rb
        exact op_fdivNW pins s σ H _ _ v u Q I rx ry ⟨i, j, rfl, rfl, ⟨by omega, wide_log (by omega)⟩, q.now rh (.int _)⟩
      · cases e
  | pow =>
    cases a <;> cases b <;> try (simp only [binV] at e; cases e; done)
    rename_i i j
    simp only [binV] at e
    split at e
    · rename_i hz
      cases e; cases ra; cases rb
      exact op_pow pins s σ H _ _ v u Q I rx ry ⟨i, j, rfl, rfl, hz, q.now rh (.int _)⟩
    · cases e

def CO.op : CO → CmpOp
  | .lt => .Lt | .le => .LtE | .gt => .Gt | .ge => .GtE | .eq => .Eq | .ne => .NotEq | .isIn => .In | .notIn => .NotIn | .isN => .Is | .notN => .IsNot
theorem dpRead {h : AH} {μ : Mu} {pins : List (Addr × Obj)} {s : Shared} {σ : L2.St} {H : Hp} (hK : c.K = X.K) (I : Inv X pins σ H s) (rh : RH c H h μ) {x : V} {v : Value} {a : AV} {d : PyData} (ra : RV c H μ x a) (rx : RelV x v) (e : toD1 h a = some d) :
    (∃ as, Reads s.heap v d as) ∧ d.canLay0 = true := by
  obtain ⟨h1, h2⟩ := toD1_dp rh ra e
  rw [hK] at h1
  exact ⟨Dp.reads I d x v h1 rx, h2⟩
theorem or_cmp (hK : c.K = X.K) (hw : c.w = X.w) (hu : X.A.units + 66 < cLine) (o : CO) : OpR X (compareOp o.op) (rBin c fun h a b => (cmpV h o a b).map .bl) := by
  intro pins s σ H x y v u Q I rx ry hh
  obtain ⟨h, μ, a, b, w, rh, ra, rb, e, q⟩ := hh
  simp only [Option.map_eq_some_iff] at e
  obtain ⟨k, e, rfl⟩ := e
  have fin : Q (.bl k) H := q.now rh (.bl k)
  have eqs : ∀ k', eqV h a b = some k' → wpAny (model X.prog X.w) X.A (compareOp .Eq v u) (fun z s' => z = .bool k' ∧ L2.Inv X pins σ H s') X.xe s ∧ wpAny (model X.prog X.w) X.A (compareOp .NotEq v u) (fun z s' => z = .bool (!k') ∧ L2.Inv X pins σ H s') X.xe s := by
    intro k' e
    by_cases hrep : ∃ d e', a = .rep d ∧ b = .rep e'
    · obtain ⟨d, e', rfl, rfl⟩ := hrep
      simp only [eqV] at e
      split at e
      · rename_i hde
        cases e
        subst hde
        cases ra; cases rb
        obtain ⟨t, rfl⟩ := rx
        obtain ⟨t', rfl⟩ := ry
        have e1 : decide (V.str d.shown = V.str d.shown) = true := decide_eq_true rfl
        refine ⟨thn (op_eq (X := X) pins s σ H (.str d.shown) (.str d.shown) _ _ (fun z H1 => z = .bl true ∧ H1 = H) I ⟨t, rfl⟩ ⟨t', rfl⟩ ⟨rfl, by rw [e1], rfl⟩) fun z s' hz => ?_, thn (op_ne (X := X) pins s σ H (.str d.shown) (.str d.shown) _ _ (fun z H1 => z = .bl false ∧ H1 = H) I ⟨t, rfl⟩ ⟨t', rfl⟩ ⟨rfl, by rw [e1]; rfl, rfl⟩) fun z s' hz => ?_⟩
        all_goals
          obtain ⟨v1, H1, I1, r1, rfl, rfl⟩ := hz
          exact ⟨r1, I1⟩
      · cases e
    have e : eqD h a b = some k' := by
      cases a <;> cases b <;> first | exact e | exact absurd ⟨_, _, rfl, rfl⟩ hrep
    unfold eqD at e
    split at e
    · rename_i d d2 h1 h2
      split at e
      · rename_i hz
        cases e
        obtain ⟨⟨as, r1⟩, c1⟩ := dpRead hK I rh ra rx h1
        obtain ⟨⟨bs, r2⟩, c2⟩ := dpRead hK I rh rb ry h2
        exact ⟨SeqAt.compareEq_reads r1 r2 c1 c2 (by omega) ⟨rfl, I⟩, SeqAt.compareNe_reads r1 r2 c1 c2 (by omega) ⟨rfl, I⟩⟩
      · cases e
    · cases e
  have ins : ∀ ys k', getS h b = some ys → inV h a ys = some k' → wpAny (model X.prog X.w) X.A (compareOp .In v u) (fun z s' => z = .bool k' ∧ s' = s) X.xe s ∧ wpAny (model X.prog X.w) X.A (compareOp .NotIn v u) (fun z s' => z = .bool (!k') ∧ s' = s) X.xe s := by
    intro ys k' eg e
    unfold inV at e
    split at e
    · rename_i d es h1 h2
      split at e
      · rename_i hz
        cases e
        obtain ⟨⟨as, r1⟩, c1⟩ := dpRead hK I rh ra rx h1
        obtain ⟨p, vs, rfl, hsq, l, r2⟩ := getS_sq rh rb eg
        have dp := toDs_dp r2 h2
        have c2 := toDs_ok r2 h2
        rw [hK] at hsq dp
        rcases hsq with hsq | hsq
        · obtain ⟨bs, rr⟩ := Dp.reads I (.list es) _ u (.lst hsq dp) ry
          exact ⟨SeqAt.in_list_reads rr r1 c2 c1 (by omega) ⟨rfl, rfl⟩, SeqAt.notIn_list_reads rr r1 c2 c1 (by omega) ⟨rfl, rfl⟩⟩
        · obtain ⟨bs, rr⟩ := Dp.reads I (.tuple es) _ u (.tup hsq dp) ry
          exact ⟨SeqAt.in_tuple_reads rr r1 c2 c1 (by omega) ⟨rfl, rfl⟩, SeqAt.notIn_tuple_reads rr r1 c2 c1 (by omega) ⟨rfl, rfl⟩⟩
      · cases e
    · cases e
  cases o with
  | lt =>
    cases a <;> cases b <;> try (simp only [cmpV] at e; cases e; done)
    cases e; cases ra; cases rb
    exact op_lt pins s σ H _ _ v u Q I rx ry ⟨_, _, rfl, rfl, fin⟩
  | le =>
    cases a <;> cases b <;> try (simp only [cmpV] at e; cases e; done)
    cases e; cases ra; cases rb
    exact op_le pins s σ H _ _ v u Q I rx ry ⟨_, _, rfl, rfl, fin⟩
  | gt =>
    cases a <;> cases b <;> try (simp only [cmpV] at e; cases e; done)
    cases e; cases ra; cases rb
    exact op_gt pins s σ H _ _ v u Q I rx ry ⟨_, _, rfl, rfl, fin⟩
  | ge =>
    cases a <;> cases b <;> try (simp only [cmpV] at e; cases e; done)
    cases e; cases ra; cases rb
    exact op_ge pins s σ H _ _ v u Q I rx ry ⟨_, _, rfl, rfl, fin⟩
  | eq => exact thn (eqs k (by cases a <;> exact e)).1 fun z s' ⟨h1, h2⟩ => by subst h1; exact ⟨.bl k, H, h2, rfl, fin⟩
  | ne =>
    have e2 : (eqV h a b).map (!·) = some k := by cases a <;> exact e
    simp only [Option.map_eq_some_iff] at e2
    obtain ⟨k', e3, rfl⟩ := e2
    exact thn (eqs k' e3).2 fun z s' ⟨h1, h2⟩ => by subst h1; exact ⟨.bl _, H, h2, rfl, fin⟩
  | isIn =>
    by_cases hs : ∃ x' y', a = .str x' ∧ b = .str y'
    · obtain ⟨x', y', rfl, rfl⟩ := hs
      cases e; cases ra; cases rb
      exact op_in_str pins s σ H _ _ v u Q I rx ry ⟨_, _, rfl, rfl, fin⟩
    · have e : (match getS h b with | some ys => inV h a ys | none => (getD h b).bind fun kvs => (dgetA kvs a).map (·.isSome)) = some k := by
        cases a <;> cases b <;> first | exact e | exact absurd ⟨_, _, rfl, rfl⟩ hs
      split at e
      · rename_i ys hy
        exact thn (ins ys k hy e).1 fun z s' ⟨h1, h2⟩ => by subst h1 h2; exact ⟨.bl k, H, I, rfl, fin⟩
      · simp only [Option.bind_eq_some_iff, Option.map_eq_some_iff] at e
        obtain ⟨kvs, e1, o, e2, rfl⟩ := e
        obtain ⟨a', n, rfl, rfl, hn, hm, ro⟩ := getD_at rh rb e1
        obtain ⟨k', e3, e4, rfl⟩ := dgetA_some e2
        cases ry
        exact dct_in (by omega) I (dsort hK hw I ro ra e3 e4 rx) rx fun s' I' => ⟨.bl _, H, I', rfl, fin⟩
  | notIn =>
    by_cases hs : ∃ x' y', a = .str x' ∧ b = .str y'
    · obtain ⟨x', y', rfl, rfl⟩ := hs
      cases e; cases ra; cases rb
      exact op_notin_str pins s σ H _ _ v u Q I rx ry ⟨_, _, rfl, rfl, fin⟩
    · have e : (match getS h b with | some ys => (inV h a ys).map (!·) | none => (getD h b).bind fun kvs => (dgetA kvs a).map fun o => !o.isSome) = some k := by
        cases a <;> cases b <;> first | exact e | exact absurd ⟨_, _, rfl, rfl⟩ hs
      split at e
      · rename_i ys hy
        simp only [Option.map_eq_some_iff] at e
        obtain ⟨k', e3, rfl⟩ := e
        exact thn (ins ys k' hy e3).2 fun z s' ⟨h1, h2⟩ => by subst h1 h2; exact ⟨.bl _, H, I, rfl, fin⟩
      · simp only [Option.bind_eq_some_iff, Option.map_eq_some_iff] at e
        obtain ⟨kvs, e1, o, e2, rfl⟩ := e
        obtain ⟨a', n, rfl, rfl, hn, hm, ro⟩ := getD_at rh rb e1
        obtain ⟨k', e3, e4, rfl⟩ := dgetA_some e2
        cases ry
        exact dct_notIn (by omega) I (dsort hK hw I ro ra e3 e4 rx) rx fun s' I' => ⟨.bl _, H, I', rfl, fin⟩
  | isN =>
    by_cases hs : ∃ x' y', a = .bl x' ∧ b = .bl y'
    · obtain ⟨x', y', rfl, rfl⟩ := hs
      cases e; cases ra; cases rb
      exact op_isBl pins s σ H _ _ v u Q I rx ry ⟨_, _, rfl, rfl, fin⟩
    cases b <;> try (cases a <;> first | exact absurd ⟨_, _, rfl, rfl⟩ hs | (simp only [cmpV] at e <;> cases e); done)
    cases rb
    refine op_isN pins s σ H _ _ v u Q I rx ry ⟨rfl, ?_⟩
    have : decide (x = V.non) = k := by cases ra <;> (cases e; first | rfl | exact decide_eq_false (fun z => by cases z))
    rw [this]
    exact fin
  | notN =>
    cases b <;> try (cases a <;> simp only [cmpV] at e <;> cases e; done)
    cases rb
    refine op_notN pins s σ H _ _ v u Q I rx ry ⟨rfl, ?_⟩
    have : (!decide (x = V.non)) = k := by cases ra <;> (cases e; first | rfl | (rw [decide_eq_false (fun z => by cases z)]; rfl))
    rw [this]
    exact fin
end
end Z

set_option Elab.async false
set_option linter.all false
set_option maxRecDepth 100000
set_option autoImplicit false
/-! ZD: subscripts, slices, built-ins, methods by values. -/
namespace Z
open PySem PySem.Spec PyProof.Rows L2

section
variable {c : Ct} {H : Hp} {μ : Mu} {h : AH}
/-- where a new list goes: frozen, or numbered -/
def okL (own : Bool) (c : Ct) (H : Hp) (μ : Mu) (Q : V → Hp → Prop) (xs : List AV) (h : AH) : Prop := match own with
  | false => okP c H μ Q (.lst xs) h
  | true => okP c H μ Q (.ref h.length) (h ++ [.lst xs])
theorem okP.own {Q : V → Hp → Prop} {xs : List AV} (q : okP c H μ Q (.ref h.length) (h ++ [.lst xs])) (rh : RH c H h μ) {t : Addr} {vs : List V} (e : H t = none) (l : vs.length ≤ sizeLine) (r : RVs c H μ vs xs) : Q (.ref t) (upd H t (.lst vs)) := by
  refine q _ _ (μ.add t) (rh.extN e) (rh.named e (.lst upd_same l (r.mono (rh.extN e)))) (.ref ?_)
  show (μ.n ++ [t])[h.length]? = _
  rw [← rh.len, List.getElem?_append_right (Nat.le_refl _)]
  simp
theorem okL.new {own : Bool} {Q : V → Hp → Prop} {xs : List AV} (q : okL own c H μ Q xs h) (rh : RH c H h μ) {t : Addr} {vs : List V} (e : H t = none) (l : vs.length ≤ sizeLine) (r : RVs c H μ vs xs) : Q (.ref t) (upd H t (.lst vs)) := by
  cases own with
  | false => exact okP.new q rh e (.lst upd_same (rh.free e) l (r.mono (rh.ext e)))
  | true => exact okP.own q rh e l r
end

theorem strOk_get {x : Str} (hx : PyData.strOk x = true) {i : Int} {k : Nat} (h : L2.atI x.cps.toList i = some k) : PyData.strOk ⟨#[k]⟩ = true := by
  obtain ⟨j, _, e, _⟩ := L2.atI_get h
  have m := List.mem_of_getElem? e
  have := strOk_iff.mp hx k m
  exact strOk_iff.mpr fun c hc => by simp at hc; subst hc; exact this
theorem strOk_cut {x : Str} (hx : PyData.strOk x = true) (lo hi : Option Int) : PyData.strOk ⟨(cut x.cps.toList lo hi).toArray⟩ = true :=
  strOk_iff.mpr fun c hc => strOk_iff.mp hx c (by
    have hc : c ∈ cut x.cps.toList lo hi := by simpa using hc
    unfold cut at hc
    exact List.mem_of_mem_drop (List.mem_of_mem_take hc))
theorem cutS_cut (x : Str) (lo hi : Option Int) : L2.cutS x lo hi = ⟨(cut x.cps.toList lo hi).toArray⟩ := by
  unfold L2.cutS cut Str.length
  rw [Array.length_toList]

section
variable {X : Cx} {c : Ct}
theorem ir_ix (hK : c.K = X.K) (hw : c.w = X.w) (hu : X.A.units + 66 < cLine) : IxR X (rBin c ixV) := by
  intro ve se pins s σ H x y v u Q I rx ry hh hsub
  obtain ⟨h, μ, a, b, w, rh, ra, rb, e, q⟩ := hh
  have dict : dixV h a b = some w → wpAny (model X.prog X.w) X.A (subscriptTail ve se v u) (EP X pins σ Q) X.xe s := fun e => by
    unfold dixV at e
    simp only [Option.bind_eq_some_iff] at e
    obtain ⟨kvs, e1, o, e2, e3⟩ := e
    obtain ⟨a', n, rfl, rfl, hn, hm, ro⟩ := getD_at rh ra e1
    obtain ⟨k', e4, e5, rfl⟩ := dgetA_some e2
    cases rx
    exact tail_any (isD_type hK hw I ro).1 slot_dict_getitem.lookup (dct_getItem (by omega) I (dsort hK hw I ro rb e4 e5 ry) ry e3 fun v' w' s' I' r' rv => ⟨v', H, I', r', q.now rh rv⟩) hsub
  cases b with
  | int i =>
    cases rb
    by_cases hs : ∃ z, a = .str z
    · obtain ⟨z, rfl⟩ := hs
      simp only [ixV, Option.map_eq_some_iff] at e
      obtain ⟨k, e, rfl⟩ := e
      cases ra with
      | str _ o l => exact ix_str ve se pins s σ H _ _ v u Q I rx ry ⟨z, i, k, rfl, rfl, l, e, q.now rh (.str _ (strOk_get o e) (by show 1 ≤ _; rw [sizeLine_eq]; omega))⟩ hsub
    · have e : (match getS h a with | some xs => L2.atI xs i | none => dixV h a (.int i)) = some w := by
        cases a <;> first | exact e | exact absurd ⟨_, rfl⟩ hs
      split at e
      · rename_i xs hx
        obtain ⟨p, vs, rfl, sq, l, r⟩ := getS_sq rh ra hx
        obtain ⟨z, hz, rz⟩ := r.atI e
        rw [hK] at sq
        rcases sq with sq | sq
        · exact ix_list ve se pins s σ H _ _ v u Q I rx ry ⟨p, vs, i, z, rfl, rfl, sq, hz, q.now rh rz⟩ hsub
        · exact ix_tup ve se pins s σ H _ _ v u Q I rx ry ⟨p, vs, i, z, rfl, rfl, sq, hz, q.now rh rz⟩ hsub
      · exact dict e
  | _ => exact dict (by cases a <;> exact e)

/-- slices -/
def rSl (c : Ct) (own : Bool) : V → Option Int → Option Int → Hp → VK → Prop := fun x lo hi H Q => ∃ h μ a w, RH c H h μ ∧ RV c H μ x a ∧ slV h a lo hi = some w ∧ (match own with
  | false => okP c H μ Q w h
  | true => ∃ xs, w = .lst xs ∧ okP c H μ Q (.ref h.length) (h ++ [.lst xs]))
theorem sr_sl (hK : c.K = X.K) (own : Bool) : SlR X (rSl c own) := by
  intro pins s σ H x v vl vu lo hi sl Q I rx hs pl pu hh
  obtain ⟨h, μ, a, w, rh, ra, e, q⟩ := hh
  by_cases ht : ∃ xs, a = .tup xs
  · obtain ⟨xs, rfl⟩ := ht
    cases e
    obtain ⟨p, vs, rfl, sq, l, r⟩ := ra.tupS
    rw [hK] at sq
    have q : okP c H μ Q (.tup (cut xs lo hi)) h := by
      cases own with
      | false => exact q
      | true => obtain ⟨_, z, _⟩ := q; cases z
    refine sl_tupF pins s σ H _ v vl vu lo hi sl Q I rx hs pl pu ⟨p, vs, rfl, sq, fun z => ?_, fun _ t o ht hd => ?_⟩
    · have hw : cut xs lo hi = xs := by
        unfold cut
        rw [← r.length, z.1, z.2, Nat.sub_zero, List.drop_zero, r.length, List.take_length]
      rw [hw] at q
      exact q.now rh ra
    · exact q.new rh ht (.tup upd_same hd (rh.free ht) (Nat.le_trans (cutV_length _ _ _) l) ((r.cut lo hi).mono (rh.ext ht)))
  · by_cases hst : ∃ z, a = .str z
    · obtain ⟨z, rfl⟩ := hst
      cases e
      have q : okP c H μ Q (.str ⟨(cut z.cps.toList lo hi).toArray⟩) h := by
        cases own with
        | false => exact q
        | true => obtain ⟨_, z, _⟩ := q; cases z
      cases ra with
      | str _ o l =>
        refine sl_str pins s σ H _ v vl vu lo hi sl Q I rx hs pl pu ⟨z, rfl, l, ?_⟩
        have len := cutS_length z lo hi
        rw [cutS_cut] at len ⊢
        exact q.now rh (.str _ (strOk_cut o lo hi) (Nat.le_trans len l))
    · have e2 : (getL h a).map (fun xs => AV.lst (cut xs lo hi)) = some w := by
        cases a <;> first | exact e | exact absurd ⟨_, rfl⟩ ht | exact absurd ⟨_, rfl⟩ hst
      simp only [Option.map_eq_some_iff] at e2
      obtain ⟨xs, e3, rfl⟩ := e2
      obtain ⟨p, vs, rfl, sq, l, r⟩ := getL_sq rh ra e3
      rw [hK] at sq
      have q : okL own c H μ Q (cut xs lo hi) h := by
        cases own with
        | false => exact q
        | true => obtain ⟨_, z, q⟩ := q; cases z; exact q
      exact sl_list pins s σ H _ v vl vu lo hi sl Q I rx hs pl pu ⟨p, vs, rfl, sq, fun t ht => q.new rh ht (Nat.le_trans (cutV_length _ _ _) l) (r.cut lo hi)⟩

/-- lists made by + and * of lists, numbered -/
theorem or_binO (o : BO) : OpR X (binaryOp o.op) (fun x y H Q => ∃ h μ a b xs, RH c H h μ ∧ RV c H μ x a ∧ RV c H μ y b ∧ binV h o a b = some (.lst xs) ∧ okP c H μ Q (.ref h.length) (h ++ [.lst xs])) := by
  intro pins s σ H x y v u Q I rx ry hh
  obtain ⟨h, μ, a, b, zs, rh, ra, rb, e, q⟩ := hh
  cases o with
  | add =>
    have e2 : (match getM h a, getM h b with | some xs, some ys => if xs.length + ys.length ≤ big then some (AV.lst (xs ++ ys)) else none | _, _ => none) = some (AV.lst zs) := by
      cases a <;> cases b <;> first | exact e | (simp only [binV] at e; split at e <;> cases e) | (simp only [binV] at e; cases e)
    split at e2
    · rename_i xs ys h1 h2
      split at e2
      · rename_i hz
        cases e2
        obtain ⟨p, vs, rfl, hp, l1, r1⟩ := getM_sq rh ra h1
        obtain ⟨p2, vs2, rfl, hp2, l2, r2⟩ := getM_sq rh rb h2
        have hz' : vs.length + vs2.length ≤ sizeLine := by rw [r1.length, r2.length, ← big_eq]; exact hz
        exact op_cat pins s σ H _ _ v u Q I rx ry ⟨p, p2, vs, vs2, rfl, rfl, hp, hp2, hz', fun t ht => q.own rh ht (by rw [List.length_append]; exact hz') (r1.append r2)⟩
      · cases e2
    · cases e2
  | mul =>
    cases a <;> cases b <;> first
      | (simp only [binV] at e; cases e; done)
      | (simp only [binV] at e; split at e <;> cases e; done)
      | skip
    rename_i xs k
    simp only [binV] at e
    split at e
    · rename_i hz
      cases e; cases rb
      cases ra with
      | @lst a0 vs0 _ hp n l1 r1 =>
        have hl : (List.replicate k.toNat vs0).flatten.length ≤ sizeLine := by
          rw [PyProof.Rows.lm_len_rep_flat, r1.length, ← big_eq, Nat.mul_comm]
          exact hz.2.2
        exact op_rep pins s σ H _ _ v u Q I rx ry ⟨a0, k, vs0, rfl, rfl, hp, by omega, hz.2.1, by rw [r1.length, ← big_eq]; exact hz.2.2, fun t ht => q.own rh ht hl (r1.rep _)⟩
    · cases e
  | sub => cases a <;> cases b <;> simp only [binV] at e <;> cases e
  | mod => cases a <;> cases b <;> simp only [binV] at e <;> first | cases e | (repeat' (split at e)) <;> cases e
  | fdiv => cases a <;> cases b <;> simp only [binV] at e <;> first | cases e | (repeat' (split at e)) <;> cases e
  | pow => cases a <;> cases b <;> simp only [binV] at e <;> first | cases e | (split at e <;> cases e)

/-! ### built-ins -/
theorem vals1V {x : V} {us : List Value} (r : Vals [x] us) : ∃ u, us = [u] ∧ RelV x u := vals1 r
theorem RVs.one {H : Hp} {μ : Mu} {vs : List V} {a : AV} (r : RVs c H μ vs [a]) : ∃ v, vs = [v] ∧ RV c H μ v a := by
  cases r with
  | cons h t => cases t; exact ⟨_, rfl, h⟩
theorem RVs.two {H : Hp} {μ : Mu} {vs : List V} {a b : AV} (r : RVs c H μ vs [a, b]) : ∃ v w, vs = [v, w] ∧ RV c H μ v a ∧ RV c H μ w b := by
  cases r with
  | cons h t => 
    cases t with
    | cons h2 t => cases t; exact ⟨_, _, rfl, h, h2⟩
theorem RVs.bools {H : Hp} {μ : Mu} : ∀ {vs : List V} {xs : List AV} {bs : List Bool}, RVs c H μ vs xs → allB xs = some bs → vs = bs.map V.bl
  | _, _, _, .nil, e => by cases e; rfl
  | _, _, _, .cons (x := x) r t, e => by
    simp only [allB] at e
    split at e
    · rename_i b bs h1 h2
      cases e
      cases x <;> simp only [asB] at h1 <;> cases h1
      cases r
      rw [RVs.bools t h2]
      rfl
    · cases e
theorem RVs.intsA {H : Hp} {μ : Mu} : ∀ {vs : List V} {xs : List AV} {ns : List Int}, RVs c H μ vs xs → allI xs = some ns → vs = ns.map V.int
  | _, _, _, .nil, e => by cases e; rfl
  | _, _, _, .cons (x := x) r t, e => by
    simp only [allI] at e
    split at e
    · rename_i b bs h1 h2
      cases e
      cases x <;> simp only [asI] at h1 <;> cases h1
      cases r
      rw [RVs.intsA t h2]
      rfl
    · cases e
def Bf.val : Bf → Value
  | .len => .builtin "len" | .tuple => .type "tuple" | .list => .type "list" | .int => .type "int" | .abs => .builtin "abs" | .all => .builtin "all" | .any => .builtin "any"
  | .sum => .builtin "sum" | .repr => .builtin "repr" | .min2 => .builtin "min" | .max2 => .builtin "max" | .bool => .type "bool" | .sorted => .builtin "sorted" | .max1 => .builtin "max" | .min1 => .builtin "min"
def Bf.calm : Bf → Bool
  | .all | .any | .sum | .min2 | .max2 | .max1 | .min1 => true
  | _ => false
/-- what a built-in asks -/
def rBf (c : Ct) (f : Bf) (own : Bool) : List V → Hp → VK → Prop := fun vs H Q => ∃ h μ as w, RH c H h μ ∧ RVs c H μ vs as ∧ bfV h f as = some w ∧ (match own with
  | false => okP c H μ Q w h
  | true => ∃ xs, w = .lst xs ∧ okP c H μ Q (.ref h.length) (h ++ [.lst xs]))
end
end Z

set_option Elab.async false
set_option linter.all false
set_option maxRecDepth 100000
set_option autoImplicit false
/-! ZE: built-ins and methods of built-in types by values. -/
namespace Z
open PySem PySem.Spec PyProof.Rows L2
section
variable {X : Cx} {c : Ct}
theorem cr_repr (hK : c.K = X.K) (hu : X.A.units + 130 < cLine) (hgd : X.A.guards = some []) : CallR X (.builtin "repr") (rBf c .repr false) := by
  intro pins s σ H xs us Q I r hh
  obtain ⟨h, μ, as, w, rh, ra, e, q⟩ := hh
  match as, ra, e with
  | [a], ra, e =>
    obtain ⟨v, rfl, rv⟩ := ra.one
    obtain ⟨u, rfl, ru⟩ := vals1 r
    simp only [bfV, bf1, Option.bind_eq_some_iff] at e
    obtain ⟨d, hd, e⟩ := e
    split at e
    · rename_i hz
      cases e
      obtain ⟨⟨bs, rd⟩, cl⟩ := dpRead hK I rh rv ru hd
      have nod : d.hasDict = true → sysModules ∉ bs := fun z => by
        have : ∀ d : PyData, d.canLay0 = true → d.hasDict = false := by
          intro d
          refine PyData.rec (motive_1 := fun d => d.canLay0 = true → d.hasDict = false) (motive_2 := fun ds => PyData.canLayAll0 ds = true → PyData.hasDictAll ds = false) (motive_3 := fun _ => True) (motive_4 := fun _ => True) ?_ ?_ ?_ ?_ ?_ ?_ ?_ ?_ ?_ ?_ ?_ ?_ d <;> intros <;> simp_all [PyData.canLay0, PyData.hasDict, PyData.canLayAll0, PyData.hasDictAll]
        rw [this d cl] at z
        cases z
      have fin : ∀ h' u' tk, (∀ b o, s.heap.get? b = some o → h'.get? b = some o) → EP X pins σ Q (.str d.shown u') { s with heap := h', toks := tk } := fun h' u' tk k =>
        ⟨.str d.shown, H, I.kept k, ⟨u', rfl⟩, q.now rh (.rep d)⟩
      rw [big_eq] at hz
      cases rd with
      | none => exact P.repr_of_none (fin _ _ _ fun _ _ z => z)
      | bool b => exact P.repr_of_bool (fin _ _ _ fun _ _ z => z)
      | int i t => exact PySem.P.repr_of_int (by simpa [PyData.showable] using hz.2.1) (fin _ _ _ fun _ _ z => z)
      | str x t => exact P.repr_of_str (fin _ _ _ fun _ _ z => z) hz.2.2
      | list h1 h2 h3 h4 => exact PySem.repr_of_reads' (.list h1 h2 h3 h4) hz.2.1 nod hgd (by omega) (fun _ _ z => z) (fun h' u' tk k => fin h' u' tk k) hz.2.2
      | tuple h1 h2 h3 h4 => exact PySem.repr_of_reads' (.tuple h1 h2 h3 h4) hz.2.1 nod hgd (by omega) (fun _ _ z => z) (fun h' u' tk k => fin h' u' tk k) hz.2.2
      | dict => cases cl
    · cases e
  | [], ra, e => cases e
  | [a, b], ra, e => simp [bfV, bf2] at e
  | a :: b :: d :: r', ra, e => cases e
/-- a list's or tuple's length, a text's -/
theorem cr_len (hK : c.K = X.K) (hw : c.w = X.w) : CallR X (.builtin "len") (rBf c .len false) := by
  intro pins s σ H xs us Q I r hh
  obtain ⟨h, μ, as, w, rh, ra, e, q⟩ := hh
  match as, ra, e with
  | [a], ra, e =>
    obtain ⟨v, rfl, rv⟩ := ra.one
    by_cases hs : ∃ z, a = .str z
    · obtain ⟨z, rfl⟩ := hs
      cases e
      cases rv with
      | str _ o l => exact call_len pins s σ H _ us Q I r ⟨.str z, z.length, rfl, ⟨l, rfl⟩, q.now rh (.int _)⟩
    · have e2 : (match getS h a with | some xs => some (AV.int xs.length) | none => (getD h a).map fun kvs => AV.int kvs.length) = some w := by
        cases a <;> first | exact e | exact absurd ⟨_, rfl⟩ hs
      split at e2
      · rename_i ys e3
        cases e2
        obtain ⟨p, vs, rfl, sq, l, r'⟩ := getS_sq rh rv e3
        rw [hK] at sq
        have e4 : (vs.length : Int) = ys.length := by rw [r'.length]
        refine call_len_seq pins s σ H _ us Q I r ⟨p, vs, rfl, sq, ?_⟩
        rw [e4]
        exact q.now rh (.int _)
      · simp only [Option.map_eq_some_iff] at e2
        obtain ⟨kvs, e1, rfl⟩ := e2
        obtain ⟨a', n, rfl, rfl, hn, hm, ro⟩ := getD_at rh rv e1
        obtain ⟨u, rfl, ru⟩ := vals1 r
        cases ru
        exact dct_len hK hw I ro fun t s' I' => ⟨.int kvs.length, H, I', ⟨t, rfl⟩, q.now rh (.int _)⟩
  | [], ra, e => cases e
  | [a, b], ra, e => simp [bfV, bf2] at e
  | a :: b :: d :: r', ra, e => cases e
theorem cr_tuple (hK : c.K = X.K) : CallR X (.type "tuple") (rBf c .tuple false) := by
  intro pins s σ H xs us Q I r hh
  obtain ⟨h, μ, as, w, rh, ra, e, q⟩ := hh
  match as, ra, e with
  | [a], ra, e =>
    obtain ⟨v, rfl, rv⟩ := ra.one
    simp only [bfV, bf1, Option.map_eq_some_iff] at e
    obtain ⟨ys, e3, rfl⟩ := e
    obtain ⟨p, vs, rfl, sq, l, r'⟩ := getS_sq rh rv e3
    by_cases ht : ∃ zs, a = .tup zs
    · obtain ⟨zs, rfl⟩ := ht
      cases e3
      obtain ⟨p', vs', e5, sq', _⟩ := rv.tupS
      cases e5
      rw [hK] at sq'
      exact call_tupleT pins s σ H _ us Q I r ⟨p, vs', rfl, sq', q.now rh rv⟩
    · have e4 : getL h a = some ys := by cases a <;> first | exact e3 | exact absurd ⟨_, rfl⟩ ht
      obtain ⟨p', vs', e5, sq', l', r2⟩ := getL_sq rh rv e4
      cases e5
      rw [hK] at sq'
      exact call_tupF pins s σ H _ us Q I r ⟨p, vs', rfl, sq', fun t o ht hd => q.new rh ht (.tup upd_same hd (rh.free ht) l' (r2.mono (rh.ext ht)))⟩
  | [], ra, e => cases e
  | [a, b], ra, e => simp [bfV, bf2] at e
  | a :: b :: d :: r', ra, e => cases e
theorem ints_rv {H : Hp} {μ : Mu} : ∀ ns : List Int, RVs c H μ (ns.map V.int) (ns.map AV.int)
  | [] => .nil
  | n :: ns => .cons (.int n) (ints_rv ns)
theorem cr_list (hK : c.K = X.K) (own : Bool) : CallR X (.type "list") (rBf c .list own) := by
  intro pins s σ H xs us Q I r hh
  obtain ⟨h, μ, as, w, rh, ra, e, q⟩ := hh
  match as, ra, e with
  | [a], ra, e =>
    obtain ⟨v, rfl, rv⟩ := ra.one
    simp only [bfV, bf1, Option.map_eq_some_iff] at e
    obtain ⟨ys, e3, rfl⟩ := e
    obtain ⟨p, vs, rfl, sq, l, r'⟩ := getS_sq rh rv e3
    rw [hK] at sq
    have q : okL own c H μ Q ys h := by
      cases own with
      | false => exact q
      | true => obtain ⟨_, z, q⟩ := q; cases z; exact q
    exact call_list_of pins s σ H _ us Q I r ⟨p, vs, rfl, sq, fun t ht => q.new rh ht l r'⟩
  | [], ra, e => cases e
  | [a, b], ra, e => simp [bfV, bf2] at e
  | a :: b :: d :: r', ra, e => cases e
theorem cr_int : CallR X (.type "int") (rBf c .int false) := by
  intro pins s σ H xs us Q I r hh
  obtain ⟨h, μ, as, w, rh, ra, e, q⟩ := hh
  match as, ra, e with
  | [a], ra, e =>
    obtain ⟨v, rfl, rv⟩ := ra.one
    cases a <;> simp only [bfV, bf1, bf2] at e <;> cases e
    · cases rv
      exact call_int1 pins s σ H _ us Q I r (.inr ⟨_, rfl, q.now rh (.int _)⟩)
    · cases rv
      exact call_int1 pins s σ H _ us Q I r (.inl ⟨_, rfl, q.now rh (.int _)⟩)
  | [], ra, e => cases e
  | [a, b], ra, e => simp [bfV, bf2] at e
  | a :: b :: d :: r', ra, e => cases e
theorem cr_bool : CallR X (.type "bool") (rBf c .bool false) := by
  intro pins s σ H xs us Q I r hh
  obtain ⟨h, μ, as, w, rh, ra, e, q⟩ := hh
  match as, ra, e with
  | [a], ra, e =>
    obtain ⟨v, rfl, rv⟩ := ra.one
    cases a <;> simp only [bfV, bf1, bf2] at e <;> cases e
    cases rv
    exact call_bool1 pins s σ H _ us Q I r (.inr ⟨_, rfl, q.now rh (.bl _)⟩)
  | [], ra, e => cases e
  | [a, b], ra, e => simp [bfV, bf2] at e
  | a :: b :: d :: r', ra, e => cases e
theorem cr_abs : CallR X (.builtin "abs") (rBf c .abs false) := by
  intro pins s σ H xs us Q I r hh
  obtain ⟨h, μ, as, w, rh, ra, e, q⟩ := hh
  match as, ra, e with
  | [a], ra, e =>
    obtain ⟨v, rfl, rv⟩ := ra.one
    cases a <;> simp only [bfV, bf1, bf2] at e <;> cases e
    cases rv
    exact call_abs pins s σ H _ us Q I r ⟨_, rfl, q.now rh (.int _)⟩
  | [], ra, e => cases e
  | [a, b], ra, e => simp [bfV, bf2] at e
  | a :: b :: d :: r', ra, e => cases e
theorem cr_min2 (hc : X.calm = true) : CallR X (.builtin "min") (rBf c .min2 false) := by
  intro pins s σ H xs us Q I r hh
  obtain ⟨h, μ, as, w, rh, ra, e, q⟩ := hh
  match as, ra, e with
  | [a, b], ra, e =>
    obtain ⟨v, v', rfl, rv, rv'⟩ := ra.two
    cases a <;> cases b <;> simp only [bfV, bf1, bf2] at e <;> cases e
    cases rv; cases rv'
    exact call_min2 hc pins s σ H _ us Q I r ⟨_, _, rfl, q.now rh (.int _)⟩
  | [], ra, e => cases e
  | [a], ra, e => simp [bfV, bf1] at e
  | a :: b :: d :: r', ra, e => cases e
theorem cr_max2 (hc : X.calm = true) : CallR X (.builtin "max") (rBf c .max2 false) := by
  intro pins s σ H xs us Q I r hh
  obtain ⟨h, μ, as, w, rh, ra, e, q⟩ := hh
  match as, ra, e with
  | [a, b], ra, e =>
    obtain ⟨v, v', rfl, rv, rv'⟩ := ra.two
    cases a <;> cases b <;> simp only [bfV, bf1, bf2] at e <;> cases e
    cases rv; cases rv'
    exact call_max2 hc pins s σ H _ us Q I r ⟨_, _, rfl, q.now rh (.int _)⟩
  | [], ra, e => cases e
  | [a], ra, e => simp [bfV, bf1] at e
  | a :: b :: d :: r', ra, e => cases e
theorem cr_allA (hK : c.K = X.K) (hc : X.calm = true) : CallR X (.builtin "all") (rBf c .all false) := by
  intro pins s σ H xs us Q I r hh
  obtain ⟨h, μ, as, w, rh, ra, e, q⟩ := hh
  match as, ra, e with
  | [a], ra, e =>
    obtain ⟨v, rfl, rv⟩ := ra.one
    simp only [bfV, bf1, Option.map_eq_some_iff, Option.bind_eq_some_iff] at e
    obtain ⟨bs, ⟨ys, e1, e2⟩, rfl⟩ := e
    obtain ⟨p, vs, rfl, sq, l, r'⟩ := getL_sq rh rv e1
    rw [hK, r'.bools e2] at sq
    exact cr_all hc pins s σ H _ us Q I r ⟨p, bs, rfl, sq, q.now rh (.bl _)⟩
  | [], ra, e => cases e
  | [a, b], ra, e => simp [bfV, bf2] at e
  | a :: b :: d :: r', ra, e => cases e
theorem cr_anyA (hK : c.K = X.K) (hc : X.calm = true) : CallR X (.builtin "any") (rBf c .any false) := by
  intro pins s σ H xs us Q I r hh
  obtain ⟨h, μ, as, w, rh, ra, e, q⟩ := hh
  match as, ra, e with
  | [a], ra, e =>
    obtain ⟨v, rfl, rv⟩ := ra.one
    simp only [bfV, bf1, Option.map_eq_some_iff, Option.bind_eq_some_iff] at e
    obtain ⟨bs, ⟨ys, e1, e2⟩, rfl⟩ := e
    obtain ⟨p, vs, rfl, sq, l, r'⟩ := getL_sq rh rv e1
    rw [hK, r'.bools e2] at sq
    exact cr_any hc pins s σ H _ us Q I r ⟨p, bs, rfl, sq, q.now rh (.bl _)⟩
  | [], ra, e => cases e
  | [a, b], ra, e => simp [bfV, bf2] at e
  | a :: b :: d :: r', ra, e => cases e
theorem cr_sumA (hK : c.K = X.K) (hc : X.calm = true) : CallR X (.builtin "sum") (rBf c .sum false) := by
  intro pins s σ H xs us Q I r hh
  obtain ⟨h, μ, as, w, rh, ra, e, q⟩ := hh
  match as, ra, e with
  | [a], ra, e =>
    obtain ⟨v, rfl, rv⟩ := ra.one
    simp only [bfV, bf1, Option.map_eq_some_iff, Option.bind_eq_some_iff] at e
    obtain ⟨bs, ⟨ys, e1, e2⟩, rfl⟩ := e
    obtain ⟨p, vs, rfl, sq, l, r'⟩ := getL_sq rh rv e1
    rw [hK, r'.intsA e2] at sq
    exact cr_sum hc pins s σ H _ us Q I r ⟨p, bs, rfl, sq, q.now rh (.int _)⟩
  | [], ra, e => cases e
  | [a, b], ra, e => simp [bfV, bf2] at e
  | a :: b :: d :: r', ra, e => cases e
theorem fold_max : ∀ {ns : List Int} {n : Int}, (∀ y ∈ n :: ns, y ≤ ns.foldl max n) ∧ ns.foldl max n ∈ n :: ns
  | [], n => ⟨fun y hy => by rw [List.mem_singleton.mp hy]; exact Int.le_refl _, by simp⟩
  | m :: ns, n => by
    obtain ⟨h1, h2⟩ := fold_max (ns := ns) (n := max n m)
    have hm := h1 (max n m) (by simp)
    refine ⟨fun y hy => ?_, ?_⟩
    · show y ≤ ns.foldl max (max n m)
      rcases List.mem_cons.mp hy with z | z
      · omega
      · rcases List.mem_cons.mp z with z | z
        · omega
        · exact h1 y (List.mem_cons_of_mem _ z)
    · show ns.foldl max (max n m) ∈ _
      rcases List.mem_cons.mp h2 with z | z
      · rw [z]
        by_cases c : n ≤ m
        · rw [show max n m = m by omega]; simp
        · rw [show max n m = n by omega]; simp
      · exact List.mem_cons_of_mem _ (List.mem_cons_of_mem _ z)
theorem max_is {ns : List Int} {n m : Int} (hm : m ∈ n :: ns) (hle : ∀ y ∈ n :: ns, y ≤ m) : m = ns.foldl max n := by
  obtain ⟨h1, h2⟩ := fold_max (ns := ns) (n := n)
  have := h1 m hm
  have := hle _ h2
  omega
theorem fold_min : ∀ {ns : List Int} {n : Int}, (∀ y ∈ n :: ns, ns.foldl min n ≤ y) ∧ ns.foldl min n ∈ n :: ns
  | [], n => ⟨fun y hy => by rw [List.mem_singleton.mp hy]; exact Int.le_refl _, by simp⟩
  | m :: ns, n => by
    obtain ⟨h1, h2⟩ := fold_min (ns := ns) (n := min n m)
    have hm := h1 (min n m) (by simp)
    refine ⟨fun y hy => ?_, ?_⟩
    · show ns.foldl min (min n m) ≤ y
      rcases List.mem_cons.mp hy with z | z
      · omega
      · rcases List.mem_cons.mp z with z | z
        · omega
        · exact h1 y (List.mem_cons_of_mem _ z)
    · show ns.foldl min (min n m) ∈ _
      rcases List.mem_cons.mp h2 with z | z
      · rw [z]
        by_cases c : n ≤ m
        · rw [show min n m = n by omega]; simp
        · rw [show min n m = m by omega]; simp
      · exact List.mem_cons_of_mem _ (List.mem_cons_of_mem _ z)
theorem min_is {ns : List Int} {n m : Int} (hm : m ∈ n :: ns) (hle : ∀ y ∈ n :: ns, m ≤ y) : m = ns.foldl min n := by
  obtain ⟨h1, h2⟩ := fold_min (ns := ns) (n := n)
  have := h1 m hm
  have := hle _ h2
  omega
theorem cr_max1 (hK : c.K = X.K) (hc : X.calm = true) : CallR X (.builtin "max") (rBf c .max1 false) := by
  intro pins s σ H xs us Q I r hh
  obtain ⟨h, μ, as, w, rh, ra, e, q⟩ := hh
  match as, ra, e with
  | [a], ra, e =>
    obtain ⟨v, rfl, rv⟩ := ra.one
    simp only [bfV, bf1, Option.bind_eq_some_iff] at e
    obtain ⟨bs, ⟨ys, e1, e2⟩, e3⟩ := e
    cases bs with
    | nil => cases e3
    | cons n ns =>
      cases e3
      obtain ⟨p, vs, rfl, sq, l, r'⟩ := getL_sq rh rv e1
      rw [hK, r'.intsA e2] at sq
      exact cr_max hc pins s σ H _ us Q I r ⟨p, n :: ns, rfl, sq, by simp, fun m hm hle => by
        have e := max_is hm hle
        rw [e]
        exact q.now rh (.int _)⟩
  | [], ra, e => cases e
  | [a, b], ra, e => simp [bfV, bf2] at e
  | a :: b :: d :: r', ra, e => cases e
theorem cr_min1 (hK : c.K = X.K) (hc : X.calm = true) : CallR X (.builtin "min") (rBf c .min1 false) := by
  intro pins s σ H xs us Q I r hh
  obtain ⟨h, μ, as, w, rh, ra, e, q⟩ := hh
  match as, ra, e with
  | [a], ra, e =>
    obtain ⟨v, rfl, rv⟩ := ra.one
    simp only [bfV, bf1, Option.bind_eq_some_iff] at e
    obtain ⟨bs, ⟨ys, e1, e2⟩, e3⟩ := e
    cases bs with
    | nil => cases e3
    | cons n ns =>
      cases e3
      obtain ⟨p, vs, rfl, sq, l, r'⟩ := getL_sq rh rv e1
      rw [hK, r'.intsA e2] at sq
      exact cr_min hc pins s σ H _ us Q I r ⟨p, n :: ns, rfl, sq, by simp, fun m hm hle => by
        have e := min_is hm hle
        rw [e]
        exact q.now rh (.int _)⟩
  | [], ra, e => cases e
  | [a, b], ra, e => simp [bfV, bf2] at e
  | a :: b :: d :: r', ra, e => cases e
/-- all of them -/
theorem insI_perm (n : Int) : ∀ r : List Int, (insI n r).Perm (n :: r)
  | [] => .refl _
  | m :: r => by
    unfold insI
    split
    · exact .refl _
    · exact ((insI_perm n r).cons m).trans (.swap n m r)
theorem sortI_perm : ∀ ns : List Int, (sortI ns).Perm ns
  | [] => .refl _
  | n :: ns => (insI_perm n (sortI ns)).trans ((sortI_perm ns).cons n)
theorem insI_ord (n : Int) : ∀ {r : List Int}, r.Pairwise (· ≤ ·) → (insI n r).Pairwise (· ≤ ·)
  | [], _ => by simp [insI]
  | m :: r, h => by
    unfold insI
    obtain ⟨h1, h2⟩ := List.pairwise_cons.mp h
    split
    · rename_i z
      exact List.pairwise_cons.mpr ⟨fun x hx => by
        rcases List.mem_cons.mp hx with e | e
        · rw [e]; exact z
        · exact Int.le_trans z (h1 x e), h⟩
    · rename_i z
      refine List.pairwise_cons.mpr ⟨fun x hx => ?_, insI_ord n h2⟩
      rcases List.mem_cons.mp ((insI_perm n r).mem_iff.mp hx) with e | e
      · rw [e]; omega
      · exact h1 x e
theorem sortI_ord : ∀ ns : List Int, (sortI ns).Pairwise (· ≤ ·)
  | [] => .nil
  | n :: ns => insI_ord n (sortI_ord ns)
theorem ord_unique : ∀ {a b : List Int}, a.Perm b → a.Pairwise (· ≤ ·) → b.Pairwise (· ≤ ·) → a = b
  | [], b, p, _, _ => (List.nil_perm.mp p).symm
  | x :: a, [], p, _, _ => absurd (List.perm_nil.mp p) (by simp)
  | x :: a, y :: b, p, h1, h2 => by
    obtain ⟨h3, h4⟩ := List.pairwise_cons.mp h1
    obtain ⟨h5, h6⟩ := List.pairwise_cons.mp h2
    have e1 : x ∈ y :: b := p.mem_iff.mp List.mem_cons_self
    have e2 : y ∈ x :: a := p.mem_iff.mpr List.mem_cons_self
    have e : x = y := by
      rcases List.mem_cons.mp e1 with e | e
      · exact e
      · rcases List.mem_cons.mp e2 with f | f
        · exact f.symm
        · exact Int.le_antisymm (h3 y f) (h5 x e)
    subst e
    rw [ord_unique ((List.perm_cons x).mp p) h4 h6]
theorem cr_sortedA (hK : c.K = X.K) (own : Bool) : CallR X (.builtin "sorted") (rBf c .sorted own) := by
  intro pins s σ H xs us Q I r hh
  obtain ⟨h, μ, as, w, rh, ra, e, q⟩ := hh
  match as, ra, e with
  | [a], ra, e =>
    obtain ⟨v, rfl, rv⟩ := ra.one
    simp only [bfV, bf1, Option.map_eq_some_iff, Option.bind_eq_some_iff] at e
    obtain ⟨ns, ⟨ys, e1, e2⟩, rfl⟩ := e
    obtain ⟨p, vs, rfl, sq, l, r'⟩ := getL_sq rh rv e1
    have ev := r'.intsA e2
    rw [hK, ev] at sq
    refine cr_sortedI pins s σ H _ us Q I r ⟨p, ns, rfl, sq, fun ns' t pm pw ht => ?_⟩
    have en : ns' = sortI ns := ord_unique (pm.trans (sortI_perm ns).symm) pw (sortI_ord ns)
    have q : okL own c H μ Q ((sortI ns).map .int) h := by
      cases own with
      | false => exact q
      | true => obtain ⟨_, z, q⟩ := q; cases z; exact q
    have hl : ((sortI ns).map V.int).length ≤ sizeLine := by
      rw [List.length_map, (sortI_perm ns).length_eq]
      rw [ev, List.length_map] at l
      exact l
    rw [en]
    exact q.new rh ht hl (ints_rv _)
  | [], ra, e => cases e
  | [a, b], ra, e => simp [bfV, bf2] at e
  | a :: b :: d :: r', ra, e => cases e
theorem cr_ownA (hK : c.K = X.K) {f : Bf} (hf : f = .list ∨ f = .sorted) : CallR X f.val (rBf c f true) := by
  rcases hf with rfl | rfl
  · exact cr_list hK true
  · exact cr_sortedA hK true
theorem cr_bf (hK : c.K = X.K) (hw : c.w = X.w) (hu : X.A.units + 130 < cLine) (hgd : X.A.guards = some []) (f : Bf) (hc : f.calm = true → X.calm = true) : CallR X f.val (rBf c f false) := by
  cases f with
  | len => exact cr_len hK hw
  | tuple => exact cr_tuple hK
  | list => exact cr_list hK false
  | int => exact cr_int
  | abs => exact cr_abs
  | all => exact cr_allA hK (hc rfl)
  | any => exact cr_anyA hK (hc rfl)
  | sum => exact cr_sumA hK (hc rfl)
  | repr => exact cr_repr hK hu hgd
  | min2 => exact cr_min2 (hc rfl)
  | max2 => exact cr_max2 (hc rfl)
  | bool => exact cr_bool
  | sorted => exact cr_sortedA hK false
  | max1 => exact cr_max1 hK (hc rfl)
  | min1 => exact cr_min1 hK (hc rfl)

/-! ### methods of lists and tuples -/
def Md.name : Md → Str
  | .append => "append" | .extend => "extend" | .index => "index" | .get => "get" | .pop => "pop" | .update => "update"
/-- what a method of a built-in type asks -/
def rMd (c : Ct) (m : Md) (tup : Bool) : V → List V → Hp → VK → Prop := fun x vs H Q => ∃ h μ a as w h', RH c H h μ ∧ RV c H μ x a ∧ RVs c H μ vs as ∧ ((∃ ys, a = .tup ys) ↔ tup = true) ∧ mdV m a as h = some (.ok w h') ∧ okP c H μ Q w h'
/-- a list that is written -/
theorem okP.wrote {H : Hp} {μ : Mu} {h : AH} {Q : V → Hp → Prop} {n : Nat} {w : AV} {ys : List AV} (q : okP c H μ Q w (h.set n (.lst ys))) (rh : RH c H h μ) {a : Addr} {vs : List V} (hn : μ.n[n]? = some a) (l : vs.length ≤ sizeLine) (r : RVs c H μ vs ys) {v : V} (rv : RV c (upd H a (.lst vs)) μ v w) : Q v (upd H a (.lst vs)) := by
  exact q v _ μ (rh.extW hn) (rh.wrote hn (.lst upd_same l (r.mono (rh.extW hn)))) rv
theorem RH.lst {H : Hp} {μ : Mu} {h : AH} (rh : RH c H h μ) {n : Nat} {xs : List AV} (e : h[n]? = some (.lst xs)) {v : V} (r : RV c H μ v (.ref n)) : ∃ a vs, v = .ref a ∧ μ.n[n]? = some a ∧ H a = some (.lst vs) ∧ vs.length ≤ sizeLine ∧ RVs c H μ vs xs := by
  cases r with
  | ref hn =>
    obtain ⟨b, hb, ro⟩ := rh.thing _ _ e
    rw [hn] at hb
    cases hb
    cases ro with
    | lst ha l q => exact ⟨_, _, rfl, hn, ha, l, q⟩
theorem mr_append : MtR X "list.append" (rMd c .append false) := by
  intro pins s σ H x xs v us Q I rx rs hh
  obtain ⟨h, μ, a, as, w, h', rh, ra, ras, _, e, q⟩ := hh
  match a, as, ras, e with
  | .ref n, [b], ras, e =>
    simp only [mdV] at e
    split at e
    · rename_i ys hy
      split at e
      · rename_i hz
        cases e
        obtain ⟨z, rfl, rz⟩ := ras.one
        obtain ⟨p, vs, rfl, hn, hp, l, r⟩ := rh.lst hy ra
        have l2 : (vs ++ [z]).length ≤ sizeLine := by rw [List.length_append, r.length, ← big_eq]; simp; omega
        exact mt_append pins s σ H _ _ v us Q I rx rs ⟨p, vs, z, rfl, rfl, hp, by rw [r.length, ← big_eq]; exact hz, q.wrote rh hn l2 (r.append (.cons rz .nil)) .non⟩
      · cases e
    · cases e
  | .ref n, [], ras, e => cases e
  | .ref n, _ :: _ :: _, ras, e => cases e
  | .non, _, _, e | .bl _, _, _, e | .int _, _, _, e | .str _, _, _, e | .tup _, _, _, e | .lst _, _, _, e | .ext _, _, _, e | .exn _, _, _, e | .rep _, _, _, e => cases e
theorem extend_tup (l : Addr) (items : Array Value) (n : Nat) (b : Addr) (items2 : Array Value) (n2 : Nat) (dd : Option Addr) (sl : Array (Option Value)) (hs0 : ¬(!items.isEmpty && Builtin.List.listTooLong (items.size + items2.size)) = true) (hs1 : items.size ≤ sizeLine) (hs2 : items.size + items2.size ≤ sizeLine + 1) :
    Meets (Builtin.«list.extend» ⟨[.ref l, .ref b], []⟩) (fun _ R s => s.heap.get? l = some { cls := .type "list", dict := none, data := .seq items n, slots := #[] } ∧ s.heap.get? b = some { cls := .type "tuple", dict := dd, data := .seq items2 n2, slots := sl } ∧ R (.ok (.ret Value.none)) { s with heap := s.heap.update l (Obj.mapSeq fun x => x ++ items2), toks := s.toks }) :=
  .of_wp fun prog w A R s h => by
    obtain ⟨hp, g, d, tk, os⟩ := s; obtain ⟨hl, hb, h⟩ := h; have f1 := AutoSeq1.idx_int; have f2 := AutoSeq1.sub_tuple_tuple; have f3 := AutoSeq1.sub_list_list; have f4 := AutoSeq1.sub_tuple_list; have f5 := AutoSeq1.sub_list_tuple
    have hz' : (items ++ items2).size ≤ sizeLine + 1 := by rw [Array.size_append]; exact hs2
    wp_walk using (wpAny_updateSeq hl rfl (hz := hs1) (_hz' := hz')), AutoSeq1.wpAny_loadPart' hl, AutoSeq1.wpAny_loadPart' hb; exact ⟨_, rfl, h⟩
theorem mt_extendT {X : Cx} : MtM X "list.extend" (fun x vs H Q => ∃ l b xs zs, x = .ref l ∧ vs = [.ref b] ∧ H l = some (.lst xs) ∧ SqT X.K H b zs ∧ xs.length + zs.length ≤ sizeLine ∧ Q .non (upd H l (.lst (xs ++ zs)))) := by
  intro pins s σ H x vs v us Q I rx rv h
  obtain ⟨l, b, xs, zs, rfl, rfl, hH, hB, hz, q⟩ := h
  cases rx
  obtain ⟨u, rfl, ru⟩ := rv.one
  cases ru
  obtain ⟨z, its, n, r, hl, e⟩ := I.lstM hH
  obtain ⟨its2, r2, ⟨⟨cls, dd, data, sl⟩, ho, hc, n2, hd⟩, hl2⟩ := I.tuple hB
  simp only at hc hd
  subst hc hd
  have len := r.length
  have len2 := r2.length
  have hsz : its.toArray.size + its2.toArray.size ≤ sizeLine := by rw [List.size_toArray, List.size_toArray]; omega
  have hlong : ¬ (!its.toArray.isEmpty && Builtin.List.listTooLong (its.toArray.size + its2.toArray.size)) = true := by
    rw [notLongL hsz, Bool.and_false]
    exact Bool.false_ne_true
  refine call_meets F.slot_list_extend ⟨_, e, rfl⟩ F.entry_list_extend (F.args_list_extend_2 _ _)
    (extend_tup l its.toArray n b its2.toArray n2 dd sl hlong (by rw [List.size_toArray]; omega) (by omega)) ⟨e, ho, ?_⟩
  refine ⟨.non, _, I.lset (its' := its ++ its2) hH e (by simp) (r.append r2) ?_, rfl, q⟩
  rw [List.length_append]
  omega
theorem mr_extend (hK : c.K = X.K) : MtR X "list.extend" (rMd c .extend false) := by
  intro pins s σ H x xs v us Q I rx rs hh
  obtain ⟨h, μ, a, as, w, h', rh, ra, ras, _, e, q⟩ := hh
  match a, as, ras, e with
  | .ref n, [b], ras, e =>
    by_cases ht : ∃ zs, b = .tup zs
    · obtain ⟨zs, rfl⟩ := ht
      simp only [mdV] at e
      split at e
      · rename_i ys hy
        split at e
        · rename_i hl
          cases e
          obtain ⟨z, rfl, rz⟩ := ras.one
          obtain ⟨p, vs, rfl, hn, hp, l, r⟩ := rh.lst hy ra
          obtain ⟨p2, vs2, rfl, sq, l2, r2⟩ := rz.tupS
          rw [hK] at sq
          have l3 : vs.length + vs2.length ≤ sizeLine := by rw [r.length, r2.length, ← big_eq]; exact hl
          exact mt_extendT pins s σ H _ _ v us Q I rx rs ⟨p, p2, vs, vs2, rfl, rfl, hp, sq, l3, q.wrote rh hn (by rw [List.length_append]; exact l3) (r.append r2) .non⟩
        · cases e
      · cases e
    · have e : (match h[n]?, getM h b with
          | some (.lst xs), some ys => if xs.length + ys.length ≤ big then (match b with
            | .ref m => if m = n then none else some (Out.ok AV.non (h.set n (.lst (xs ++ ys))))
            | _ => some (.ok .non (h.set n (.lst (xs ++ ys))))) else none
          | _, _ => none) = some (.ok w h') := by
        cases b <;> first | exact absurd ⟨_, rfl⟩ ht | exact e
      split at e
      · rename_i ys zs hy hz
        split at e
        · rename_i hl
          have e2 : w = .non ∧ h' = h.set n (.lst (ys ++ zs)) := by
            split at e
            · split at e
              · cases e
              · cases e; exact ⟨rfl, rfl⟩
            · cases e; exact ⟨rfl, rfl⟩
          obtain ⟨rfl, rfl⟩ := e2
          obtain ⟨z, rfl, rz⟩ := ras.one
          obtain ⟨p, vs, rfl, hn, hp, l, r⟩ := rh.lst hy ra
          obtain ⟨p2, vs2, rfl, hp2, l2, r2⟩ := getM_sq rh rz hz
          have l3 : vs.length + vs2.length ≤ sizeLine := by rw [r.length, r2.length, ← big_eq]; exact hl
          exact mt_extend pins s σ H _ _ v us Q I rx rs ⟨p, p2, vs, vs2, rfl, rfl, hp, hp2, l3, q.wrote rh hn (by rw [List.length_append]; exact l3) (r.append r2) .non⟩
        · cases e
      · cases e
  | .ref n, [], ras, e => cases e
  | .ref n, b1 :: _ :: _, ras, e => cases b1 <;> cases e
  | .non, _, _, e | .bl _, _, _, e | .int _, _, _, e | .str _, _, _, e | .tup _, _, _, e | .lst _, _, _, e | .ext _, _, _, e | .exn _, _, _, e | .rep _, _, _, e => cases e
theorem mr_pop : MtR X "list.pop" (rMd c .pop false) := by
  intro pins s σ H x xs v us Q I rx rs hh
  obtain ⟨h, μ, a, as, w, h', rh, ra, ras, _, e, q⟩ := hh
  match a, as, ras, e with
  | .ref n, [], ras, e =>
    simp only [mdV] at e
    split at e
    · rename_i ys hy
      split at e
      · rename_i y hz
        cases e
        cases ras
        obtain ⟨p, vs, rfl, hn, hp, l, r⟩ := rh.lst hy ra
        obtain ⟨z, hz', rz⟩ := r.get hz
        exact mt_pop pins s σ H _ _ v us Q I rx rs ⟨p, vs, z, rfl, rfl, hp, by rw [r.length]; exact hz', q.wrote rh hn (by rw [List.length_dropLast]; omega) r.dropLast (rz.mono (rh.extW hn))⟩
      · cases e
    · cases e
  | .ref n, _ :: _, ras, e => cases e
  | .non, _, _, e | .bl _, _, _, e | .int _, _, _, e | .str _, _, _, e | .tup _, _, _, e | .lst _, _, _, e | .ext _, _, _, e | .exn _, _, _, e | .rep _, _, _, e => cases e
theorem findIdx_facts {α : Type} {p : α → Bool} : ∀ {l : List α} {j : Nat}, l.findIdx? p = some j → (∃ z, l[j]? = some z ∧ p z = true) ∧ ∀ (m : Nat) (z : α), m < j → l[m]? = some z → p z = false := fun {l j} e => by
  rw [List.findIdx?_eq_some_iff_getElem] at e
  obtain ⟨h1, h2, h3⟩ := e
  refine ⟨⟨l[j], List.getElem?_eq_getElem h1, h2⟩, fun m z hm hz => ?_⟩
  obtain ⟨hl, rfl⟩ := List.getElem?_eq_some_iff.mp hz
  simpa using h3 m hm
theorem idx_of {h h' : AH} {a b w : AV} (e : mdV .index a [b] h = some (.ok w h')) : ∃ ys d es j, getS h a = some ys ∧ toD1 h b = some d ∧ toDs h ys = some es ∧ min d.depth (PyData.depthAll es) ≤ 64 ∧ es.findIdx? (fun z => PyData.eqv z d) = some j ∧ w = .int (j : Nat) ∧ h' = h := by
  have e : (match getS h a with
    | some xs => match toD1 h b, toDs h xs with
      | some d, some es => if min d.depth (PyData.depthAll es) ≤ 64 then (match es.findIdx? (fun z => PyData.eqv z d) with
        | some j => some (.ok (.int (j : Nat)) h)
        | none => none) else none
      | _, _ => none
    | none => none) = some (Out.ok w h') := by cases a <;> exact e
  split at e
  · rename_i ys hy
    split at e
    · rename_i d es h1 h2
      split at e
      · rename_i hz
        split at e
        · rename_i j hj
          cases e
          exact ⟨ys, d, es, j, hy, h1, h2, hz, hj, rfl, rfl⟩
        · cases e
      · cases e
    · cases e
  · cases e
theorem idx_one {h : AH} {a w : AV} {as : List AV} {h' : AH} (e : mdV .index a as h = some (.ok w h')) : ∃ b, as = [b] := by
  match as, e with
  | [b], _ => exact ⟨b, rfl⟩
  | [], e => cases a <;> cases e
  | _ :: _ :: _, e => cases a <;> cases e
/-- where equal ones stand among what is read -/
theorem reads_items {s : Shared} {its : List Value} {ds : List PyData} {as bs : List Addr} {u : Value} {d : PyData} {j : Nat} (h4 : ReadsAll s.heap its ds as) (hxs : PyData.canLayAll0 ds = true)
    (hj : ds.findIdx? (fun z => PyData.eqv z d) = some j) : its.length = ds.length ∧ ∃ hl : j < its.toArray.size, PyData.eqv (SeqAt.readOf s.heap its.toArray[j]) d = true ∧ ∀ m (hm : m < its.toArray.size), m < j → PyData.eqv (SeqAt.readOf s.heap its.toArray[m]) d = false := by
  have hn : its.length = ds.length := SeqAt.ReadsAll.length ds its as h4
  have hmap : its.map (SeqAt.readOf s.heap) = ds := SeqAt.readsAll_map ds its as hxs h4
  obtain ⟨⟨z, hz, hzd⟩, hno⟩ := findIdx_facts hj
  have hjl : j < its.length := by rw [hn]; exact (List.getElem?_eq_some_iff.mp hz).1
  have val : ∀ (m : Nat) (hm : m < its.length), ds[m]? = some (SeqAt.readOf s.heap its[m]) := fun m hm => by
    rw [← hmap, List.getElem?_map, List.getElem?_eq_getElem hm]
    rfl
  refine ⟨hn, by simpa using hjl, ?_, fun m hm hmj => ?_⟩
  · have := val j hjl
    rw [hz] at this
    cases this
    simpa using hzd
  · have hm' : m < its.length := by simpa using hm
    have := hno m _ hmj (val m hm')
    simpa using this
theorem mr_index (hK : c.K = X.K) (hu : X.A.units + 130 < cLine) : MtR X "list.index" (rMd c .index false) := by
  intro pins s σ H x xs v us Q I rx rs hh
  obtain ⟨h, μ, a, as, w, h', rh, ra, ras, ht, e, q⟩ := hh
  obtain ⟨b, rfl⟩ := idx_one e
  obtain ⟨ys, d, es, j, hy, h1, h2, hz, hj, rfl, rfl⟩ := idx_of e
  have e4 : getL h' a = some ys := by cases a <;> first | exact hy | (have := ht.mp ⟨_, rfl⟩; cases this)
  obtain ⟨p, vs, rfl, sq, l, r⟩ := getL_sq rh ra e4
  obtain ⟨z, rfl, rz⟩ := ras.one
  obtain ⟨u, rfl, ru⟩ := vals1 rs
  obtain ⟨⟨bs, rd⟩, cd⟩ := dpRead hK I rh rz ru h1
  have dp := toDs_dp r h2
  have c2 := toDs_ok r h2
  rw [hK] at sq dp
  cases rx
  obtain ⟨its, rv, ⟨⟨cls, dd, data, sls⟩, n, ho, hc, hdn, hdt⟩, hlen⟩ := I.list sq
  simp only at hc hdt
  subst hc hdt
  obtain ⟨cs, h4⟩ := Dp.readsAll I es _ its dp rv
  obtain ⟨hn, hjl, h5, h6⟩ := reads_items (u := u) (bs := bs) h4 c2 hj
  have sz : its.toArray.size ≤ sizeLine := by rw [List.size_toArray, ← rv.length]; exact l
  rw [sizeLine_eq] at sz
  refine call_meets PySem.F.slot_list_index ⟨_, ho, rfl⟩ PySem.F.entry_list_index (PySem.F.args_list_index_2 _ _)
    (SeqAt.list_indexAt p its.toArray n dd sls u (fun y => PyData.eqv (SeqAt.readOf s.heap y) d) j hjl (by omega) h5 h6) ⟨ho, SeqAt.items_eqAt (vs := its.toArray) (show ReadsAll s.heap its.toArray.toList es cs from h4) rd c2 cd (by show X.A.units + 1 + min (PyData.depthAll es) d.depth < cLine; omega), ?_⟩
  exact ⟨.int (j : Nat), H, I.tok _, ⟨_, rfl⟩, q.now rh (.int _)⟩
theorem mr_tindex (hK : c.K = X.K) (hu : X.A.units + 130 < cLine) : MtR X "tuple.index" (rMd c .index true) := by
  intro pins s σ H x xs v us Q I rx rs hh
  obtain ⟨h, μ, a, as, w, h', rh, ra, ras, ht, e, q⟩ := hh
  obtain ⟨b, rfl⟩ := idx_one e
  obtain ⟨ys, d, es, j, hy, h1, h2, hz, hj, rfl, rfl⟩ := idx_of e
  obtain ⟨zs, rfl⟩ := ht.mpr rfl
  cases hy
  obtain ⟨p, vs, rfl, sq, l, r⟩ := ra.tupS
  obtain ⟨z, rfl, rz⟩ := ras.one
  obtain ⟨u, rfl, ru⟩ := vals1 rs
  obtain ⟨⟨bs, rd⟩, cd⟩ := dpRead hK I rh rz ru h1
  have dp := toDs_dp r h2
  have c2 := toDs_ok r h2
  rw [hK] at sq dp
  cases rx
  obtain ⟨its, rv, ⟨⟨cls, dd, data, sls⟩, ho, hc, n, hdt⟩, hlen⟩ := I.tuple sq
  simp only at hc hdt
  subst hc hdt
  obtain ⟨cs, h4⟩ := Dp.readsAll I es _ its dp rv
  obtain ⟨hn, hjl, h5, h6⟩ := reads_items (u := u) (bs := bs) h4 c2 hj
  refine call_meets PySem.F.slot_tuple_index ⟨_, ho, rfl⟩ PySem.F.entry_tuple_index (PySem.F.args_tuple_index_2 _ _)
    (TI.tuple_indexAt p its.toArray n dd sls u (fun y => PyData.eqv (SeqAt.readOf s.heap y) d) j hjl h5 h6) ⟨ho, SeqAt.items_eqAt (vs := its.toArray) (show ReadsAll s.heap its.toArray.toList es cs from h4) rd c2 cd (by show X.A.units + 1 + min (PyData.depthAll es) d.depth < cLine; omega), ?_⟩
  exact ⟨.int (j : Nat), H, I.tok _, ⟨_, rfl⟩, q.now rh (.int _)⟩
end
end Z

set_option Elab.async false
set_option linter.all false
set_option maxRecDepth 100000
set_option autoImplicit false
/-! ZF: readings by the interpreter; calls; the check of a text against the small language. -/
namespace Z
open PySem PySem.Spec PyProof.Rows L2

/-! ### readings -/
def okG {α β : Type} (c : Ct) (R : Hp → Mu → β → α → Prop) (H : Hp) (μ : Mu) (Q : β → Hp → Prop) : α → AH → Prop :=
  fun a h' => ∀ b H' μ', Ext H μ H' μ' → RH c H' h' μ' → R H' μ' b a → Q b H'
/-- the reading of an interpreter's term -/
def SG {α β : Type} (c : Ct) (R : Hp → Mu → β → α → Prop) (W : WX) (m : AEnv → M α) : L2.St → Hp → (β → Hp → Prop) → Prop :=
  fun σ H Q => ∃ ρ h μ, RE c H μ σ ρ ∧ RH c H h μ ∧ wp (m ρ) (okG c R H μ Q) (exP c H μ fun cls d H' => W cls d σ H') h
def RVg (c : Ct) : Hp → Mu → V → AV → Prop := fun H μ V v => RV c H μ V v
def RVsg (c : Ct) : Hp → Mu → List V → List AV → Prop := fun H μ V v => RVs c H μ V v
def REq {α : Type} : Hp → Mu → α → α → Prop := fun _ _ a b => a = b
abbrev SE (c : Ct) (W : WX) (m : AEnv → M AV) : TE := SG c (RVg c) W m
abbrev SA (c : Ct) (W : WX) (m : AEnv → M (List AV)) : TA := SG c (RVsg c) W m
abbrev SB (c : Ct) (W : WX) (m : AEnv → M Bool) : TT := SG c REq W m

section
variable {α β γ δ : Type} {c : Ct} {W : WX} {R : Hp → Mu → β → α → Prop} {R' : Hp → Mu → δ → γ → Prop}
theorem SG.mono {m : AEnv → M α} {σ : L2.St} {H : Hp} {Q Q' : β → Hp → Prop} (x : SG c R W m σ H Q) (q : ∀ b H', Q b H' → Q' b H') : SG c R W m σ H Q' := by
  obtain ⟨ρ, h, μ, re, rh, w⟩ := x
  exact ⟨ρ, h, μ, re, rh, wp_mono w (fun a h' k b H' μ' e r r' => q _ _ (k b H' μ' e r r')) fun _ _ e => e⟩
theorem okG.later {H H1 : Hp} {μ μ1 : Mu} {Q : β → Hp → Prop} {a : α} {h : AH} (k : okG c R H μ Q a h) (x : Ext H μ H1 μ1) : okG c R H1 μ1 Q a h := fun b H' μ' e r r' => k b H' μ' (x.trans e) r r'
theorem exP.later {H H1 : Hp} {μ μ1 : Mu} {E : Value → Option Addr → Hp → Prop} {a : Ex} {h : AH} (k : exP c H μ E a h) (x : Ext H μ H1 μ1) : exP c H1 μ1 E a h := fun H' μ' e r cls d r' => k H' μ' (x.trans e) r cls d r'
/-- one step: a part, then the rest from what it gives -/
theorem step {m : AEnv → M α} {k : α → M γ} {σ : L2.St} {ρ : AEnv} {H : Hp} {h : AH} {μ : Mu} {Q : δ → Hp → Prop} (re : RE c H μ σ ρ) (rh : RH c H h μ)
    (w : wp (bnd (m ρ) k) (okG c R' H μ Q) (exP c H μ fun cls d H' => W cls d σ H') h) :
    SG c R W m σ H (fun b H1 => ∃ h1 μ1 a, Ext H μ H1 μ1 ∧ RE c H1 μ1 σ ρ ∧ RH c H1 h1 μ1 ∧ R H1 μ1 b a ∧ wp (k a) (okG c R' H1 μ1 Q) (exP c H1 μ1 fun cls d H' => W cls d σ H') h1) := by
  rw [wp_bnd] at w
  refine ⟨ρ, h, μ, re, rh, wp_mono w (fun a h' k1 b H' μ' e r r' => ?_) fun _ _ e => e⟩
  exact ⟨h', μ', a, e, re.mono e, r, r', wp_mono k1 (fun _ _ q => q.later e) fun _ _ q => q.later e⟩
/-- what is told without a state -/
theorem wp_lift {f : AH → Option α} {h : AH} {Q : α → AH → Prop} {E : Ex → AH → Prop} (w : wp (lift f) Q E h) : ∃ v, f h = some v ∧ Q v h := by
  unfold wp lift at w
  cases e : f h with
  | none => rw [e] at w; exact w.elim
  | some v => rw [e] at w; exact ⟨v, rfl, w⟩
end

/-! ### calls -/
/-- a def of the text, called where no builtin's text is being shown -/
structure FnG (P : Program) (w : World) (K : PySem.W.Frag) (mg : Str → Option Value) (base : Heap) (CX : CXT) (k : Nat) (f : Addr) (fd : FuncData) (ps : List Str) (sp : Sp) : Prop where
  len : ∀ vs H Q E, sp vs H Q E → vs.length = ps.length
  go : ∀ (A : Around) (outer : List Env) (s : Shared) (H : Hp) (args : Args) (us : List Value) (vs : List V) (Q : VK) (E : XK), Room k A → A.guards = some [] → Env0 P w K mg base A outer s H → BindsTo s fd args (ps.zip us) → Vals vs us → sp vs H Q E →
    codeAny (model P w) A (.call (.ref f) args) (CR CX outer P w H s Q E) s
/-- the promise of a def: what the interpreter tells of it -/
def spF (c : Ct) (R : Rec) (f : Str) (m : Nat) : Sp := fun vs H Q E => vs.length = m ∧ ∃ tr h μ as, RH c H h μ ∧ RVs c H μ vs as ∧ wp (R tr f as) (okP c H μ Q) (exP c H μ E) h

/-- what a text is checked by -/
structure Ck where
  N : List Str
  sc : Scope
  cm : Bool
  fl : Str → Bool
  B : Str → Bool
  D : Str → Bool
  X : Str → Bool
  I : Str → Bool
  F : Str → Str → Bool
  M : Str → Str → Bool
def Ck.blk (k : Ck) (s : Scope) : Ck := { k with sc := relS s k.sc, fl := fun x => s.names.lookup x == some .cell }
def Ck.suite (k : Ck) : Ck := { k with cm := false, D := fun _ => false, M := fun _ _ => false }
/-- an exception class of the text, at Ca -/
structure ClsOk (X : Cx) (x : Str) (Ca : Addr) : Prop where
  mg : X.mg x = some (.ref Ca)
  keep : PySem.W.keepIn X.K (.ref Ca) = true
  raises : Raises X (.ref Ca)
  facts : ∃ B newId initId bmB, ExcBaseFacts B newId initId bmB ∧ PySem.W.excIn X.K Ca bmB newId = true
  is : ExcC X.K Ca

/-- a call's end in a body -/
theorem run_g {X : Cx} {c : Ct} {R : Rec} {f : Str} {n : Nat} {fa : Addr} {fd : FuncData} {ps : List Str} {W : WX} (F : FnG X.prog X.w X.K X.mg X.base (L2.CX X.prog X.w) n fa fd ps (spF c R f ps.length)) (hr : Room n X.A) (hg : X.A.guards = some []) (hb : Binds X.K fd ps []) (tk : Takes X W)
    {pins : List (Addr × Obj)} {σ : L2.St} {H : Hp} {s : Shared} {Q : VK} {us : List Value} {vs : List V} (I : Inv X pins σ H s) (r : Vals vs us) (hs : spF c R f ps.length vs H Q (fun cls d H' => W cls d σ H')) :
    wpAny (model X.prog X.w) X.A (call (.ref fa) us) (EP X pins σ Q) X.xe s := by
  have lu : (us ++ []).length = ps.length := by rw [List.append_nil, ← r.length]; exact F.len _ _ _ _ hs
  have bt := hb s us I.kIn lu
  rw [List.append_nil] at bt
  refine wpAny_call (codeAny_mono (F.go X.A X.stack s H _ us vs Q _ hr hg I.env0 bt r hs) fun fl s' z => ?_)
  match fl, z with
  | .error e, z => exact passAt tk σ pins H s e s' I z
  | .ok (.ret u), z => exact I.after z
  | .ok .next, z => exact z.elim
  | .ok .brk, z => exact z.elim
  | .ok .cont, z => exact z.elim

/-- what is called by name, or as a method: a def -/
structure RunD (X : Cx) (c : Ct) (R : Rec) (cm : Bool) (f : Str) (fa : Addr) (m : Nat) : Prop where
  go : ∃ n fd ps, ps.length = m ∧ Binds X.K fd ps [] ∧ FnG X.prog X.w X.K X.mg X.base (L2.CX X.prog X.w) n fa fd ps (spF c R f ps.length) ∧ (cm = true → Room n X.A)
/-- .. or a class: a new instance, and its __init__ -/
structure RunC (X : Cx) (c : Ct) (R : Rec) (cm : Bool) (f : Str) (fa : Addr) (m : Nat) : Prop where
  go : ∃ n fI fd ps R', ps.length = m + 1 ∧ Binds X.K fd ps [] ∧ FnG X.prog X.w X.K X.mg X.base (L2.CX X.prog X.w) n fI fd ps (spF c R' (f ++ ".__init__") ps.length) ∧ (cm = true → Room (n + 1) X.A) ∧ Mk X.K fa fI ∧ c.CA f = some fa ∧ ∀ tr as, R tr f as = newC R' f as
structure Runs (X : Cx) (c : Ct) (R : Rec) (cm : Bool) (f : Str) (fa : Addr) (m : Nat) : Prop where
  ar : ∀ tr as h, R tr f as h ≠ none → as.length = m
  how : RunD X c R cm f fa m ∨ RunC X c R cm f fa m ∨ ∀ tr as h, R tr f as h = none
theorem make_guards {A : Around} {C : Addr} {us : List Value} {kw : List (Str × Value)} (h : A.guards = some []) : (A.under (.builtin "type.__call__" ⟨.ref C :: us, kw⟩)).guards = some [] := by
  first | exact h | (simpa [Around.under, Code.isGuard, guardIds] using h)
theorem Runs.run {X : Cx} {c : Ct} {R : Rec} {cm : Bool} {f : Str} {fa : Addr} {m : Nat} (F : Runs X c R cm f fa m) (hc : cm = true) (hg : X.A.guards = some []) {W : WX} (tk : Takes X W) {pins : List (Addr × Obj)} {σ : L2.St} {H : Hp} {s : Shared} {Q : VK} {us : List Value} {vs : List V} (I : Inv X pins σ H s) (r : Vals vs us)
    (hs : spF c R f m vs H Q (fun cls d H' => W cls d σ H')) : wpAny (model X.prog X.w) X.A (call (.ref fa) us) (EP X pins σ Q) X.xe s := by
  rcases F.how with ⟨n, fd, ps, hm, hb, G, hr⟩ | ⟨n, fI, fd, ps, R', hm, hb, G, hr, M, hC, eR⟩ | dead
  · rw [← hm] at hs
    exact run_g G (hr hc) hg hb tk I r hs
  · obtain ⟨hl, tr, h, μ, as, rh, ra, w⟩ := hs
    rw [eR] at w
    have hdx : H s.heap.objs.size = none := I.hok.fresh (Nat.le_refl _)
    have hx : H (s.heap.objs.size + 1) = none := I.hok.fresh (Nat.le_succ _)
    have ne : s.heap.objs.size ≠ s.heap.objs.size + 1 := Nat.ne_of_lt (Nat.lt_succ_self _)
    have I2 := Inv.made (C := fa) I
    -- the new heap
    have rh1 : RH c (upd H s.heap.objs.size (.own (s.heap.objs.size + 1))) h μ := rh.laid hdx
    have hx1 : upd H s.heap.objs.size (.own (s.heap.objs.size + 1)) (s.heap.objs.size + 1) = none := by rw [upd_ne (Ne.symm ne)]; exact hx
    have x1 := rh.ext (o := .own (s.heap.objs.size + 1)) hdx
    have x2 := rh1.extN (o := .ins fa s.heap.objs.size []) hx1
    have x := x1.trans x2
    have rh2 : RH c (upd (upd H s.heap.objs.size (.own (s.heap.objs.size + 1))) (s.heap.objs.size + 1) (.ins fa s.heap.objs.size [])) (h ++ [.ins f []]) (μ.add (s.heap.objs.size + 1)) :=
      rh1.named hx1 (.ins hC upd_same (by rw [upd_ne ne, upd_same]) (fun z => by
        rcases Mu.mem_add.mp z with z | z
        · exact rh.free hdx z
        · exact ne z) rfl .nil)
    have at0 : (μ.add (s.heap.objs.size + 1)).n[h.length]? = some (s.heap.objs.size + 1) := by
      show (μ.n ++ [s.heap.objs.size + 1])[h.length]? = _
      rw [← rh.len, List.getElem?_append_right (Nat.le_refl _)]
      simp
    have w : wp (bnd (push (.ins f [])) fun r => bnd (R' false (f ++ ".__init__") (r :: as)) fun z => match z with | .non => ret r | _ => stuck) (okP c H μ Q) (exP c H μ fun cls d H' => W cls d σ H') h := w
    rw [wp_bnd] at w
    have w : wp (bnd (R' false (f ++ ".__init__") (.ref h.length :: as)) fun z => match z with | .non => ret (.ref h.length) | _ => stuck) (okP c H μ Q) (exP c H μ fun cls d H' => W cls d σ H') (h ++ [.ins f []]) := w
    rw [wp_bnd] at w
    have r2 : Vals (V.ref (s.heap.objs.size + 1) :: vs) (Value.ref (s.heap.objs.size + 1) :: us) := .cons rfl r
    have sp : spF c R' (f ++ ".__init__") ps.length (.ref (s.heap.objs.size + 1) :: vs) (upd (upd H s.heap.objs.size (.own (s.heap.objs.size + 1))) (s.heap.objs.size + 1) (.ins fa s.heap.objs.size [])) (fun v H2 => v = .non ∧ Q (.ref (s.heap.objs.size + 1)) H2) (fun cls d H' => W cls d σ H') :=
      ⟨by rw [List.length_cons, hl, hm], false, _, _, .ref h.length :: as, rh2, .cons (.ref at0) (ra.mono x), wp_mono w (fun z h' q V H' μ' x' rh' rv => by
        cases rv <;> first | exact q.elim | skip
        exact ⟨rfl, q _ _ _ (x.trans x') rh' (.ref (x'.w.at at0))⟩) fun y h' q => q.later x⟩
    have hl2 : (Value.ref (s.heap.objs.size + 1) :: us ++ []).length = ps.length := by
      have e := r2.length
      rw [G.len _ _ _ _ sp] at e
      rw [List.append_nil]
      exact e.symm
    have bt := hb _ (Value.ref (s.heap.objs.size + 1) :: us) I2.kIn hl2
    rw [List.append_nil] at bt
    have hr' := hr hc
    refine wpAny_call (make_map (f := fI) I.kIn M.makes M.init (beq_iff_eq.mp M.fn) (codeAny_mono (G.go _ X.stack _ _ ⟨Value.ref (s.heap.objs.size + 1) :: us, []⟩ (Value.ref (s.heap.objs.size + 1) :: us) _ _ _ (hr'.make fa us []) (make_guards hg)
      (I2.env0.make fa us []) bt r2 sp) fun r s' hq' => ?_))
    cases r with
    | error e => exact passAt tk σ pins _ _ e s' I2 hq'
    | ok fl =>
      cases fl with
      | ret u =>
        obtain ⟨v, H', I3, rv, ev, q3⟩ := I2.after hq'
        subst ev
        exact ⟨rv, ⟨V.ref (s.heap.objs.size + 1), H', I3, rfl, q3⟩⟩
      | next => exact hq'.elim
      | brk => exact hq'.elim
      | cont => exact hq'.elim
  · obtain ⟨_, _, _, _, _, _, _, w⟩ := hs
    unfold wp at w
    rw [dead] at w
    exact w.elim
structure Gd (X : Cx) (c : Ct) (T : Tb) (R : Rec) (k : Ck) : Prop where
  K : c.K = X.K
  w : c.w = X.w
  nd : X.N.Nodup
  N : k.N = X.N
  sc : k.sc = X.env.scope
  cm : k.cm = true → X.calm = true
  fl : ∀ x, k.fl x = true → X.fn x = true
  un : X.A.units + 130 < cLine
  gd : X.A.guards = some []
  glb : ∀ x v, T.glb x = some v → ∃ V u, X.mg x = some u ∧ RelV V u ∧ ∀ H μ, RV c H μ V v
  gdc : ∀ x tab, T.gd x = some tab → ∃ p, X.mg x = some (.ref p) ∧ ∀ z v, tab.lookup z = some v → ∃ V, KDct X.K X.w p z V ∧ ∀ H μ, RV c H μ V v
  blt : ∀ x, k.B x = true → X.mg x = none
  ex : ∀ x, k.X x = true → ∃ Ca, c.CA x = some Ca ∧ ClsOk X x Ca
  im : ∀ x, k.I x = true → ∃ Ca, c.CA x = some Ca ∧ X.mg x = some (.ref Ca)
  isa : ∀ x y b, T.isA x y = some b → ∃ Cx Cy, c.CA x = some Cx ∧ c.CA y = some Cy ∧ PySem.W.exmOne X.K (.ref Cx) (.ref Cy) = some b ∧ PySem.W.kitOne X.K (.ref Cx) (.ref Cy) = some b ∧ ExcC X.K Cx
  isv : ∀ x, T.isV x = true → ∃ Cx, c.CA x = some Cx ∧ PySem.W.kitOne X.K (.ref Cx) (.type "ValueError") = some true ∧ ExcC X.K Cx
  xs : ∀ a x, c.XS a x → k.cm = false ∧ ∃ oe Ca, c.CA x = some Ca ∧ (a, oe) ∈ X.pn ∧ Zc (.ref Ca) none oe ∧ ∃ vs, oe.data = .fields vs
  df : ∀ f, k.D f = true → ∃ fa m, X.mg f = some (.ref fa) ∧ PySem.W.keepIn X.K (.ref fa) = true ∧ Runs X c R k.cm f fa m
  mt : ∀ C m, k.M C m = true → ∃ Ca fa n, c.CA C = some Ca ∧ Cls X.K Ca ∧ Meth X.K Ca m fa ∧ Runs X c R k.cm (C ++ "." ++ m) fa n
  fd : ∀ C f, k.F C f = true → ∃ Ca, c.CA C = some Ca ∧ Cls X.K Ca ∧ NoAttr X.K Ca f
theorem wp_some {α : Type} {m : M α} {Q : α → AH → Prop} {E : Ex → AH → Prop} {h : AH} (w : wp m Q E h) : m h ≠ none := fun z => by
  unfold wp at w
  rw [z] at w
  exact w
/-! ### the check -/
def plainE : Expr → Bool
  | .Starred .. => false
  | _ => true
def isVis (sc : Scope) (x : Str) : Bool := match sc.names.lookup x with
  | some .local => true
  | some .cell => true
  | some .free => true
  | _ => false
def isGl (sc : Scope) (x : Str) : Bool := match sc.names.lookup x with
  | some .globalImplicit => true
  | _ => false
def isDbg (x : Str) : Bool := x == "__debug__" || x == "__classdict__" || x == "__name__"
def BO.isOp : BO → Operator → Bool
  | .add, .Add | .sub, .Sub | .mul, .Mult | .mod, .Mod | .fdiv, .FloorDiv | .pow, .Pow => true
  | _, _ => false
def CO.isOp : CO → CmpOp → Bool
  | .lt, .Lt | .le, .LtE | .gt, .Gt | .ge, .GtE | .eq, .Eq | .ne, .NotEq | .isIn, .In | .notIn, .NotIn | .isN, .Is | .notN, .IsNot => true
  | _, _ => false
def notSet : Expr → Bool
  | .Set .. => false
  | _ => true
/-- tests whose value is asked as it stands -/
def plainT : Expr → Bool
  | .UnaryOp .Not _ _ => false
  | .BoolOp .. | .IfExp .. | .Compare .. => false
  | _ => true
def notSlice : Expr → Bool
  | .Slice .. => false
  | _ => true
/-- an expression whose attribute is read plainly -/
def plainB : Expr → Bool
  | .Call (.Name _ _) [] [] _ => false
  | _ => true
def Bf.word : Bf → Str
  | .len => "len" | .tuple => "tuple" | .list => "list" | .int => "int" | .abs => "abs" | .all => "all" | .any => "any" | .sum => "sum" | .repr => "repr" | .min2 => "min" | .max2 => "max" | .bool => "bool" | .sorted => "sorted" | .max1 => "max" | .min1 => "min"
def tgSlots : Tg → List Nat
  | .var i => [i]
  | .nil => []
  | .cons t u => tgSlots t ++ tgSlots u
/-- targets: one, or the rest of a row -/
structure TgR where
  one : Ck → Expr → Bool
  row : Ck → List Expr → Bool
def ckTg : Tg → TgR
  | .var i => { row := fun _ _ => false, one := fun k p => match p with
    | .Name x _ => decide (k.N[i]? = some x) && (match k.sc.names.lookup x with
      | some .local => true
      | some .cell => k.fl x
      | _ => false)
    | _ => false }
  | .nil => ⟨fun k p => (match p with
      | .Tuple [] _ _ => k.cm
      | _ => false), fun _ l => (match l with
      | [] => true
      | _ => false)⟩
  | .cons t u => ⟨fun k p => (match p with
      | .Tuple (q :: qs) _ _ => k.cm && (ckTg t).one k q && (ckTg u).row k qs
      | _ => false), fun k l => (match l with
      | q :: qs => (ckTg t).one k q && (ckTg u).row k qs
      | [] => false)⟩
abbrev chkTg (k : Ck) (t : Tg) (p : Expr) : Bool := (ckTg t).one k p
abbrev chkTgs (k : Ck) (t : Tg) (p : List Expr) : Bool := (ckTg t).row k p
def ownOf (N : List Str) (vs : List Nat) : List (Str × Nat) := vs.map fun i => (N.getD i Str.empty, i)
/-- the checks of one term: as a value, as a list of parts, as operands (values, tests), as links, as a test, .. -/
structure CkR where
  e : Ck → Expr → Bool
  o : Ck → Expr → Bool
  a : Ck → List Expr → Bool
  v : Ck → List Expr → Bool
  u : Ck → List Expr → Bool
  l : Ck → List CmpOp → List Expr → Bool
  t : Ck → Expr → Bool
  c : Ck → List Expr → Bool
  p : Ck → Option Expr → Bool
  i : Ck → Expr → Bool
def CkR.of (e : Ck → Expr → Bool) (o : Ck → Expr → Bool := fun _ _ => false) : CkR where
  e := e
  o := o
  a := fun _ _ => false
  v := fun _ _ => false
  u := fun _ _ => false
  l := fun _ _ _ => false
  t := fun k p => plainT p && e k p
  c := fun k l => match l with
    | [p] => plainT p && e k p
    | _ => false
  p := fun k l => match l with
    | some p => e k p
    | none => false
  i := e
def CkR.test (e t : Ck → Expr → Bool) : CkR := { CkR.of e with t := t, c := fun k l => match l with
    | [p] => t k p
    | _ => false }
def isNil : E → Bool
  | .nil => true
  | _ => false
def clsL (k : Ck) : List Str → List Expr → Bool
  | [], [] => true
  | x :: cs, .Name z _ :: l => decide (x = z) && isGl k.sc z && !isDbg z && k.I z && clsL k cs l
  | _, _ => false
def clsC (k : Ck) (cs : List Str) : Expr → Bool
  | .Name z _ => decide (cs = [z]) && isGl k.sc z && !isDbg z && k.I z
  | .Tuple (q :: l) _ _ => clsL k cs (q :: l) && decide (l.length < 100)
  | _ => false
/-- a written dict of texts -/
def dselC : List (Str × Str) → List (Option Expr) → List Expr → Bool
  | [], [], [] => true
  | p :: t, some (.Constant (.str a) _ _) :: ks, .Constant (.str b) _ _ :: vs => decide (p.1 = a) && decide (p.2 = b) && PyData.strOk b && decide (b.length ≤ 1000) && dselC t ks vs
  | _, _, _ => false
/-- .. to ints -/
def dgetC : List (Str × Int) → List (Option Expr) → List Expr → Bool
  | [], [], [] => true
  | p :: t, some (.Constant (.str a) _ _) :: ks, .Constant (.int b) _ _ :: vs => decide (p.1 = a) && decide (p.2 = b) && dgetC t ks vs
  | _, _, _ => false
def tysL (k : Ck) : List Str → List Expr → Bool
  | [], [] => true
  | x :: cs, .Name z _ :: l => decide (x = z) && isGl k.sc z && k.B z && (tyN z).isSome && tysL k cs l
  | _, _ => false
def tysC (k : Ck) (cs : List Str) : Expr → Bool
  | .Name z _ => decide (cs = [z]) && isGl k.sc z && k.B z && (tyN z).isSome
  | .Tuple (q :: l) _ _ => tysL k cs (q :: l) && decide (l.length < 100)
  | _ => false
/-- the arguments of a range -/
def rgC (a b : Ck → Expr → Bool) (none : Bool) (k : Ck) : List Expr → Bool
  | [q] => none && b k q
  | [r, q] => !none && a k r && b k q
  | _ => false
/-- what gives pairs is walked by a tuple target alone -/
def pairOk (e : E) (tg : Expr) : Bool := match e with
  | .zip _ _ | .enum _ => match tg with
    | .Tuple _ _ _ => true
    | _ => false
  | _ => true
/-- a display's keys: texts -/
def dspC : List Str → List (Option Expr) → Bool
  | [], [] => true
  | a :: t, some (.Constant (.str b) _ _) :: ks => decide (a = b) && PyData.strOk b && decide (b.length ≤ 1000) && dspC t ks
  | _, _ => false
def ck : E → CkR
  | .var i => .of fun k p => match p with
    | .Name x _ => decide (k.N[i]? = some x) && isVis k.sc x && !isDbg x
    | _ => false
  | .non => { CkR.of (fun _ p => match p with
      | .Constant .none _ _ => true
      | _ => false) with p := fun _ l => match l with
        | none => true
        | _ => false }
  | .bl b => .of fun _ p => match p with
    | .Constant (.bool d) _ _ => b == d
    | _ => false
  | .int i => .of fun _ p => match p with
    | .Constant (.int j) _ _ => i == j
    | _ => false
  | .str x => .of fun _ p => match p with
    | .Constant (.str y) _ _ => decide (x = y) && PyData.strOk y && decide (y.length ≤ 1000)
    | _ => false
  | .glb x => .of fun k p => match p with
    | .Name y _ => decide (x = y) && isGl k.sc y && !isDbg y
    | _ => false
  | .nil => { CkR.of (fun _ _ => false) with
      a := fun _ l => match l with
        | [] => true
        | _ => false
      c := fun _ l => match l with
        | [] => true
        | _ => false }
  | .cons e es => { CkR.of (fun _ _ => false) with
      a := fun k l => match l with
        | p :: ps => plainE p && (ck e).e k p && (ck es).a k ps
        | [] => false
      v := fun k l => match l with
        | [p] => isNil es && (ck e).e k p
        | p :: q :: ps => !isNil es && (ck e).e k p && (ck es).v k (q :: ps)
        | [] => false
      u := fun k l => match l with
        | [p] => isNil es && (ck e).t k p
        | p :: q :: ps => !isNil es && (ck e).t k p && (ck es).u k (q :: ps)
        | [] => false }
  | .star e es => { CkR.of (fun _ _ => false) with
      a := fun k l => match l with
        | .Starred p _ :: ps => (ck e).e k p && (ck es).a k ps
        | _ => false }
  | .tup es => .of fun k p => match p with
    | .Tuple l _ _ => (ck es).a k l
    | _ => false
  | .lst es =>
    let f : Ck → Expr → Bool := fun k p => match p with
      | .List l _ => (ck es).a k l
      | _ => false
    .of f f
  | .own e => .of (ck e).o
  | .bin o a b =>
    let f : Ck → Expr → Bool := fun k p => match p with
      | .BinOp q op r _ => o.isOp op && (ck a).e k q && (ck b).e k r
      | _ => false
    .of f f
  | .neg a => .of fun k p => match p with
    | .UnaryOp .USub q _ => (ck a).e k q
    | _ => false
  | .cmp o a b =>
    let f : Ck → Expr → Bool := fun k p => match p with
      | .Compare q [op] [r] _ => o.isOp op && notSet r && (ck a).e k q && (ck b).e k r
      | _ => false
    .test f f
  | .chain a l =>
    let f : Ck → Expr → Bool := fun k p => match p with
      | .Compare q (o1 :: o2 :: ops) (r1 :: r2 :: rs) _ => (ck a).e k q && (ck l).l k (o1 :: o2 :: ops) (r1 :: r2 :: rs)
      | _ => false
    .test f f
  | .lnk o b l => { CkR.of (fun _ _ => false) with
      l := fun k ops rs => match ops, rs with
        | [op], [r] => isNil l && o.isOp op && notSet r && (ck b).e k r
        | op :: op2 :: os, r :: r2 :: rs => !isNil l && o.isOp op && notSet r && (ck b).e k r && (ck l).l k (op2 :: os) (r2 :: rs)
        | _, _ => false }
  | .not a => .test (fun k p => match p with
    | .UnaryOp .Not q _ => (ck a).e k q
    | _ => false) (fun k p => match p with
    | .UnaryOp .Not q _ => (ck a).t k q
    | _ => false)
  | .band es => .test (fun k p => match p with
    | .BoolOp .And l _ => (ck es).v k l
    | _ => false) (fun k p => match p with
    | .BoolOp .And l _ => (ck es).u k l
    | _ => false)
  | .bor es => .test (fun k p => match p with
    | .BoolOp .Or l _ => (ck es).v k l
    | _ => false) (fun k p => match p with
    | .BoolOp .Or l _ => (ck es).u k l
    | _ => false)
  | .ite t a b => .of fun k p => match p with
    | .IfExp q r s _ => (ck t).t k q && (ck a).e k r && (ck b).e k s
    | _ => false
  | .idx a b => .of fun k p => match p with
    | .Subscript q r _ => notSlice r && (ck a).e k q && (ck b).e k r
    | _ => false
  | .slc a lo hi =>
    let f : Ck → Expr → Bool := fun k p => match p with
      | .Subscript q (.Slice l u none _) _ => (ck a).e k q && (ck lo).p k l && (ck hi).p k u
      | _ => false
    .of f f
  | .call _ f es => .of fun k p => match p with
    | .Call (.Name x _) (q :: l) [] _ => k.cm && decide (f = x) && isGl k.sc x && !isDbg x && k.D x && plainE q && l.all plainE && (ck es).a k (q :: l)
    | .Call (.Name x _) [] [] _ => k.cm && decide (f = x) && isGl k.sc x && !isDbg x && k.D x && isNil es
    | _ => false
  | .bf f es =>
    let g : Ck → Expr → Bool := fun k p => match p with
      | .Call (.Name x _) (q :: l) [] _ => (!f.calm || k.cm) && decide (f.word = x) && isGl k.sc x && k.B x && plainE q && l.all plainE && (ck es).a k (q :: l)
      | _ => false
    .of g fun k p => (decide (f = .list) || decide (f = .sorted)) && g k p
  | .md m a es => .of fun k p => match p with
    | .Call (.Attribute o x ap) l [] pos => decide (m.name = x) && plainB o && (ap.endLine == pos.line) && l.all plainE && decide (l.length < 20) && (ck a).e k o && (ck es).a k l
    | _ => false
  | .comp vs elt t src cond =>
    let f : Ck → Expr → Bool := fun k p => match p with
      | .ListComp q [⟨tg, iter, ifs, 0⟩] s _ => k.cm && blkC k.N k.sc s (ownOf k.N vs) && notSet iter && (tgSlots t).all (fun i => vs.contains i) && (pairOk src tg && (ck src).i k iter) && chkTg (k.blk s) t tg && (ck cond).c (k.blk s) ifs && (ck elt).e (k.blk s) q
      | _ => false
    .of f f
  | .isx x cs => .of fun k p => match p with
    | .Call (.Name y _) [q, r] [] _ => decide (y = "isinstance") && isGl k.sc y && k.B y && plainE q && clsC k cs r && (ck x).e k q
    | _ => false
  | .isb x ts => .of fun k p => match p with
    | .Call (.Name y _) [q, r] [] _ => decide (y = "isinstance") && isGl k.sc y && k.B y && plainE q && tysC k ts r && (ck x).e k q
    | _ => false
  | .dsel tab a => .of fun k p => match p with
    | .Subscript (.Dict keys values _) q _ => notSlice q && dselC tab keys values && decide (tab ≠ []) && decide (tab.length ≤ 15) && decide ((tab.map (·.1)).Nodup) && (ck a).e k q
    | _ => false
  | .gsel x a => .of fun k p => match p with
    | .Subscript (.Name y _) q _ => decide (x = y) && isGl k.sc y && !isDbg y && notSlice q && (ck a).e k q
    | _ => false
  | .dget tab a d => .of fun k p => match p with
    | .Call (.Attribute (.Dict keys values _) nm ap) [q, .Constant (.int j) _ _] [] pos => decide (nm = "get") && dgetC tab keys values && decide (tab ≠ []) && decide (tab.length ≤ 15) && decide ((tab.map (·.1)).Nodup) && plainE q && (ap.endLine == pos.line) && decide (j = d) && (ck a).e k q
    | _ => false
  | .rev a => .of fun k p => match p with
    | .Subscript q (.Slice none none (some (.UnaryOp .USub (.Constant (.int 1) _ _) _)) _) _ => (ck a).e k q
    | _ => false
  | .rgl t lo hi =>
    let g : Ck → Expr → Bool := fun k p => match p with
      | .Call (.Name x _) [.Call (.Name y _) l [] _] [] _ => k.cm && decide (x = (if t then "tuple" else "list")) && isGl k.sc x && k.B x && decide (y = "range") && isGl k.sc y && k.B y && l.all plainE && rgC (ck lo).e (ck hi).e (isNil lo) k l
      | _ => false
    .of g fun k p => !t && g k p
  | .rng es => { CkR.of (fun _ _ => false) with
      i := fun k p => match p with
        | .Call (.Name x _) l [] _ => decide (x = "range") && isGl k.sc x && k.B x && l.all plainE && (match l with | [_] => true | [_, _] => true | _ => false) && (ck es).a k l
        | _ => false }
  | .zip a b => { CkR.of (fun _ _ => false) with
      i := fun k p => match p with
        | .Call (.Name x _) [q, r] [] _ => decide (x = "zip") && isGl k.sc x && k.B x && plainE q && plainE r && (ck a).e k q && (ck b).e k r
        | _ => false }
  | .enum a => { CkR.of (fun _ _ => false) with
      i := fun k p => match p with
        | .Call (.Name x _) [q] [] _ => decide (x = "enumerate") && isGl k.sc x && k.B x && plainE q && (ck a).e k q
        | _ => false }
  | .rvd a => { CkR.of (fun _ _ => false) with
      i := fun k p => match p with
        | .Call (.Name x _) [q] [] _ => decide (x = "reversed") && isGl k.sc x && k.B x && plainE q && (ck a).e k q
        | _ => false }
  | .rngc a b c => { CkR.of (fun _ _ => false) with
      i := fun k p => match p with
        | .Call (.Name x _) [q, r, s] [] _ => decide (x = "range") && isGl k.sc x && k.B x && plainE q && plainE r && plainE s && (ck a).e k q && (ck b).e k r && (ck c).e k s
        | _ => false }
  | .comp2 vs vs1 elt t src t1 src1 cond =>
    let f : Ck → Expr → Bool := fun k p => match p with
      | .ListComp q [⟨tg, iter, [], 0⟩, ⟨tg1, iter1, ifs, 0⟩] s _ => k.cm && blkC k.N k.sc s (ownOf k.N vs) && notSet iter && notSet iter1 && (tgSlots t).all (fun i => vs.contains i) && (tgSlots t1).all (fun i => vs1.contains i) && vs1.all (fun i => vs.contains i) &&
          (pairOk src tg && (ck src).i k iter) && (pairOk src1 tg1 && (ck src1).i (k.blk s) iter1) && chkTg (k.blk s) t tg && chkTg (k.blk s) t1 tg1 && (ck cond).c (k.blk s) ifs && (ck elt).e (k.blk s) q
      | _ => false
    .of f f
  | .fld C f a => .of fun k p => match p with
    | .Attribute q x _ => decide (f = x) && plainB q && k.F C f && (ck a).e k q
    | _ => false
  | .mcl _ C m a es => .of fun k p => match p with
    | .Call (.Attribute o x ap) (q :: l) [] pos => k.cm && decide (m = x) && plainB o && (ap.endLine == pos.line) && k.M C m && plainE q && l.all plainE && decide (l.length < 15) && (ck a).e k o && (ck es).a k (q :: l)
    | .Call (.Attribute o x ap) [] [] pos => k.cm && decide (m = x) && plainB o && (ap.endLine == pos.line) && k.M C m && (ck a).e k o && isNil es
    | _ => false
  | .isv x => .of fun k p => match p with
    | .Call (.Name y _) [q, .Name z _] [] _ => decide (y = "isinstance") && isGl k.sc y && k.B y && plainE q && decide (z = "ValueError") && isGl k.sc z && k.B z && (ck x).e k q
    | _ => false
  | .dsp ks es => .of fun k p => match p with
    | .Dict keys values _ => decide (ks.length = values.length) && decide (ks.length ≤ 15) && dspC ks keys && values.all plainE && (ck es).a k values
    | _ => false
  | .dgt a b d => .of fun k p => match p with
    | .Call (.Attribute o x ap) [q, r] [] pos => decide (x = "get") && plainB o && (ap.endLine == pos.line) && plainE q && plainE r && (ck a).e k o && (ck b).e k q && (ck d).e k r
    | _ => false
abbrev chkE (k : Ck) (e : E) (p : Expr) : Bool := (ck e).e k p
abbrev chkO (k : Ck) (e : E) (p : Expr) : Bool := (ck e).o k p
abbrev chkA (k : Ck) (e : E) (l : List Expr) : Bool := (ck e).a k l
abbrev chkV (k : Ck) (e : E) (l : List Expr) : Bool := (ck e).v k l
abbrev chkU (k : Ck) (e : E) (l : List Expr) : Bool := (ck e).u k l
abbrev chkL (k : Ck) (e : E) (o : List CmpOp) (l : List Expr) : Bool := (ck e).l k o l
abbrev chkT (k : Ck) (e : E) (p : Expr) : Bool := (ck e).t k p
abbrev chkC (k : Ck) (e : E) (l : List Expr) : Bool := (ck e).c k l
abbrev chkP (k : Ck) (e : E) (l : Option Expr) : Bool := (ck e).p k l
abbrev chkI (k : Ck) (e : E) (p : Expr) : Bool := (ck e).i k p
end Z

set_option Elab.async false
set_option linter.all false
set_option maxRecDepth 100000
set_option autoImplicit false
/-! ZG: the expressions of a checked text give what the interpreter tells. -/
namespace Z
open PySem PySem.Spec PyProof.Rows L2

section
variable {X : Cx} {e : Expr}
theorem pe_imp {t t' : TE} (h : PE X e t) (f : ∀ σ H Q, t' σ H Q → t σ H Q) : PE X e t' := ⟨fun pins s σ H Q I w => h.run pins s σ H Q I (f _ _ _ w)⟩
theorem pt_imp {t t' : TT} (h : PT X e t) (f : ∀ σ H Q, t' σ H Q → t σ H Q) : PT X e t' := ⟨fun pins s σ H Q I w => h.run pins s σ H Q I (f _ _ _ w)⟩
theorem pw_imp {t t' : TT} (h : PW X e t) (f : ∀ σ H Q, t' σ H Q → t σ H Q) : PW X e t' := ⟨fun wh pins s σ H Q I w => h.run wh pins s σ H Q I (f _ _ _ w)⟩
theorem pa_imp {l : List Expr} {t t' : TA} (h : PA X l t) (f : ∀ σ H Q, t' σ H Q → t σ H Q) : PA X l t' := ⟨fun pos pins s σ H Q I w => h.run pos pins s σ H Q I (f _ _ _ w)⟩
theorem po_imp {l : Option Expr} {t t' : TO} (h : PO X l t) (f : ∀ σ H Q, t' σ H Q → t σ H Q) : PO X l t' := ⟨fun pins s σ H Q I w => h.run pins s σ H Q I (f _ _ _ w)⟩
theorem pi_imp {tg : Expr} {t t' : TI} (h : PI X tg e t) (f : ∀ σ H Q, t' σ H Q → t σ H Q) : PI X tg e t' := ⟨fun pins s σ H Q I w => h.run pins s σ H Q I (f _ _ _ w)⟩
theorem pts_imp {l : List Expr} {t t' : TT} (h : PTs X l t) (f : ∀ σ H Q, t' σ H Q → t σ H Q) : PTs X l t' := ⟨fun pins s σ H Q I w => h.run pins s σ H Q I (f _ _ _ w)⟩
end

/-! ### what is walked -/
/-- an iterator that gives these items while what is walked stands -/
structure Yl (c : Ct) (J : It) (v : AV) (xs : List AV) (H0 : Hp) (μ0 : Mu) : Prop where
  go : ∀ i H h μ, ExtW H0 μ0 H μ → RH c H h μ → stands v xs h = some (.ok () h) → i < xs.length → J.go i H
  stop : ∀ H h μ, ExtW H0 μ0 H μ → RH c H h μ → stands v xs h = some (.ok () h) → J.stop xs.length H
  yld : ∀ i H h μ x H', ExtW H0 μ0 H μ → RH c H h μ → stands v xs h = some (.ok () h) → i < xs.length → J.yld i H x H' → ∃ a, xs[i]? = some a ∧ Ext H μ H' μ ∧ RH c H' h μ ∧ RV c H' μ x a
def RYl (c : Ct) : Hp → Mu → It → AV × List AV → Prop := fun H μ J p => Yl c J p.1 p.2 H μ
theorem Yl.later {c : Ct} {J : It} {v : AV} {xs : List AV} {H0 H1 : Hp} {μ0 μ1 : Mu} (y : Yl c J v xs H0 μ0) (x : Ext H0 μ0 H1 μ1) : Yl c J v xs H1 μ1 :=
  ⟨fun i H h μ e => y.go i H h μ (x.w.trans e), fun H h μ e => y.stop H h μ (x.w.trans e), fun i H h μ z H' e => y.yld i H h μ z H' (x.w.trans e)⟩
abbrev SI (c : Ct) (W : WX) (m : AEnv → M (AV × List AV)) : TI := SG c (RYl c) W m

theorem stands_lst {v : AV} {xs : List AV} {h : AH} {n : Nat} (e : v = .ref n) (s : stands v xs h = some (.ok () h)) : h[n]? = some (.lst xs) := by
  subst e
  unfold stands at s
  simp only at s
  split at s
  · rename_i ys hy
    split at s
    · rename_i z
      rw [hy, z]
    · cases s
  · cases s

section
variable {c : Ct} {K : PySem.W.Frag}
/-- a list's walk -/
theorem yl_list {H0 : Hp} {μ0 : Mu} {h0 : AH} {v : AV} {xs : List AV} {a : Addr} (hK : c.K = K) (rh : RH c H0 h0 μ0) (rv : RV c H0 μ0 (.ref a) v) (e : getL h0 v = some xs) : Yl c (Itl K a) v xs H0 μ0 := by
  have now : ∀ H h μ, ExtW H0 μ0 H μ → RH c H h μ → stands v xs h = some (.ok () h) → ∃ vs, SqL K H a vs ∧ RVs c H μ vs xs := fun H h μ x r s => by
    have e2 : getL h v = some xs := by
      cases v with
      | ref n => simp only [getL, stands_lst rfl s]
      | lst ys => exact e
      | ext ys => exact e
      | _ => cases e
    obtain ⟨a', vs, ea, sq, _, r2⟩ := getL_sq r (rv.monoW x) e2
    cases ea
    rw [hK] at sq
    exact ⟨vs, sq, r2⟩
  refine ⟨fun i H h μ x r s hi => ?_, fun H h μ x r s => ?_, fun i H h μ z H' x r s hi y => ?_⟩
  · obtain ⟨vs, sq, r2⟩ := now H h μ x r s
    have hl : i < vs.length := by rw [r2.length]; exact hi
    exact ⟨vs, vs[i], sq, List.getElem?_eq_getElem hl⟩
  · obtain ⟨vs, sq, r2⟩ := now H h μ x r s
    exact ⟨vs, sq, Nat.le_of_eq r2.length⟩
  · obtain ⟨vs, sq, r2⟩ := now H h μ x r s
    obtain ⟨rfl, y⟩ := y
    have ez := y vs sq
    have hl : i < xs.length := by rw [← r2.length]; exact (List.getElem?_eq_some_iff.mp ez).1
    obtain ⟨w, hw, rw'⟩ := r2.get (List.getElem?_eq_getElem hl)
    rw [ez] at hw
    cases hw
    exact ⟨xs[i], List.getElem?_eq_getElem hl, .refl, r, rw'⟩
theorem yl_tup {H0 : Hp} {μ0 : Mu} {xs : List AV} {a : Addr} (hK : c.K = K) (rv : RV c H0 μ0 (.ref a) (.tup xs)) : Yl c (Itt K a) (.tup xs) xs H0 μ0 := by
  have now : ∀ H μ, ExtW H0 μ0 H μ → ∃ vs, SqT K H a vs ∧ RVs c H μ vs xs := fun H μ x => by
    obtain ⟨a', vs, ea, sq, _, r2⟩ := (rv.monoW x).tupS
    cases ea
    rw [hK] at sq
    exact ⟨vs, sq, r2⟩
  refine ⟨fun i H h μ x r s hi => ?_, fun H h μ x r s => ?_, fun i H h μ z H' x r s hi y => ?_⟩
  · obtain ⟨vs, sq, r2⟩ := now H μ x
    have hl : i < vs.length := by rw [r2.length]; exact hi
    exact ⟨vs, vs[i], sq, List.getElem?_eq_getElem hl⟩
  · obtain ⟨vs, sq, r2⟩ := now H μ x
    exact ⟨vs, sq, Nat.le_of_eq r2.length⟩
  · obtain ⟨vs, sq, r2⟩ := now H μ x
    obtain ⟨rfl, y⟩ := y
    have ez := y vs sq
    have hl : i < xs.length := by rw [← r2.length]; exact (List.getElem?_eq_some_iff.mp ez).1
    obtain ⟨w, hw, rw'⟩ := r2.get (List.getElem?_eq_getElem hl)
    rw [ez] at hw
    cases hw
    exact ⟨xs[i], List.getElem?_eq_getElem hl, .refl, r, rw'⟩
theorem yl_range {H0 : Hp} {μ0 : Mu} {lo : Int} {n : Nat} {v : AV} : Yl c (Itr lo n) v (rngA lo n) H0 μ0 := by
  have len : (rngA lo n).length = n := by unfold rngA; simp
  refine ⟨fun i H h μ x r s hi => by rw [len] at hi; exact hi, fun H h μ x r s => by rw [len]; exact Nat.le_refl _, fun i H h μ z H' x r s hi y => ?_⟩
  obtain ⟨rfl, rfl⟩ := y
  rw [len] at hi
  refine ⟨.int (lo + i), ?_, .refl, r, .int _⟩
  unfold rngA
  rw [List.getElem?_map, List.getElem?_range hi]
  rfl
theorem yl_str {H0 : Hp} {μ0 : Mu} {x : Str} {v : AV} (hx : PyData.strOk x = true) : Yl c (Its x) v (strItems x) H0 μ0 := by
  have len : (strItems x).length = x.cps.size := by unfold strItems; simp
  refine ⟨fun i H h μ _ r s hi => by rw [len] at hi; exact hi, fun H h μ _ r s => by rw [len]; exact Nat.le_refl _, fun i H h μ z H' _ r s hi y => ?_⟩
  obtain ⟨rfl, k, hk, rfl⟩ := y
  have hk' : x.cps.toList[i]? = some k := by simpa using hk
  refine ⟨.str ⟨#[k]⟩, by unfold strItems; rw [List.getElem?_map, hk']; rfl, .refl, r, .str _ ?_ (by show 1 ≤ _; rw [sizeLine_eq]; omega)⟩
  have := strOk_iff.mp hx k (List.mem_of_getElem? hk')
  exact strOk_iff.mpr fun c hc => by simp at hc; subst hc; exact this
end

/-! ### zip of tuples -/
open RZ
/-- the tuples at a and b as they stand at each turn, the items in new frozen pairs -/
def ItzF (K : PySem.W.Frag) (a b : Addr) : It :=
  ⟨fun i H => ∃ (xs ys : List V) (x y : V), SqT K H a xs ∧ SqT K H b ys ∧ xs[i]? = some x ∧ ys[i]? = some y,
    fun i H v H' => ∃ T o x y, v = .ref T ∧ o.dict = none ∧ H T = none ∧ H' = upd H T (.frz o (.tup [x, y])) ∧ (∀ xs, SqT K H a xs → xs[i]? = some x) ∧ ∀ ys, SqT K H b ys → ys[i]? = some y,
    fun i H => ∃ xs ys : List V, SqT K H a xs ∧ SqT K H b ys ∧ (xs.length ≤ i ∨ ys.length ≤ i)⟩
theorem turn_zipF {P : Program} {w : World} {K : PySem.W.Frag} {elts : List Expr} {kk : Nat} {tpos : Pos} {a b z TI TO i1 i2 : Addr} (D : ZipApart z TI TO i1 i2 a b) :
    Turn P w K (.Tuple elts kk tpos) (ItzF K a b) [z, TI, TO, i1, i2] z (fun i h => IsZip h z TI TO .none ∧ IsPair h TI (.ref i1) (.ref i2) ∧ (∃ x y, IsPair h TO x y) ∧ h.IsTupleIter i1 a i ∧ h.IsTupleIter i2 b i) where
  mem := by simp
  obj := fun i h st c hc => by
    obtain ⟨hz, hTI, ⟨x, y, hTO⟩, ⟨o1, e1, _, d1⟩, ⟨o2, e2, _, d2⟩⟩ := st
    have e' : c = z ∨ c = TI ∨ c = TO ∨ c = i1 ∨ c = i2 := by simpa using hc
    rcases e' with q | q | q | q | q
    · rw [q]; exact ⟨_, hz, fun v q => nomatch q⟩
    · rw [q]; exact ⟨_, hTI, fun v q => nomatch q⟩
    · rw [q]; exact ⟨_, hTO, fun v q => nomatch q⟩
    · rw [q]; exact ⟨o1, e1, fun v q => by rw [d1] at q; cases q⟩
    · rw [q]; exact ⟨o2, e2, fun v q => by rw [d2] at q; cases q⟩
  keep := fun i h h' st k => by
    obtain ⟨hz, hTI, ⟨x, y, hTO⟩, h1, h2⟩ := st
    exact ⟨k z (by simp) _ hz, k TI (by simp) _ hTI, ⟨x, y, k TO (by simp) _ hTO⟩, h1.at fun o q => k i1 (by simp) o q, h2.at fun o q => k i2 (by simp) o q⟩
  item := by
    intro X hP hw hK hc i pins s σ H E I hf st hg
    subst hP hw hK
    obtain ⟨hz, hTI, ⟨x0, y0, hTO⟩, h1, h2⟩ := st
    obtain ⟨xs, ys, x, y, hqx, hqy, hx, hy⟩ := hg
    obtain ⟨its, rv, p, _⟩ := I.tuple hqx
    obtain ⟨its2, rv2, p2, _⟩ := I.tuple hqy
    obtain ⟨u, hu, ru⟩ := rv.get hx
    obtain ⟨u2, hu2, ru2⟩ := rv2.get hy
    have hzl : z < s.heap.objs.size := Heap.lt_size hz
    refine pyNext_zipT_item D hz hTI hTO h1 h2 p p2 (x := u) (y := u2) (by simpa using hu) (by simpa using hu2) fun h' z' TO' h1' h2' hT hsz hk => ?_
    refine ⟨_, rfl, wpAny_letOwnedTupleGo_zip (s := { s with heap := h' }) z' fun h'' z'' sb => ?_⟩
    have hT2 : h''.get? s.heap.objs.size = some { cls := .type "tuple", data := .seq #[u, u2] } := (sb.2 _ (Nat.ne_of_gt hzl)).trans hT
    have new : ObjOk X.prog X.w (upd H s.heap.objs.size (.frz { cls := .type "tuple", data := .seq #[u, u2] } (.tup [x, y]))) h'' s.heap.objs.size (.frz { cls := .type "tuple", data := .seq #[u, u2] } (.tup [x, y])) :=
      ⟨hT2, by show 2 ≤ sizeLine; decide, [u, u2], .cons ru (.cons ru2 .nil), ⟨_, hT2, rfl, _, rfl⟩⟩
    have I1 : Inv X pins σ (upd H s.heap.objs.size (.frz { cls := .type "tuple", data := .seq #[u, u2] } (.tup [x, y]))) { s with heap := h'' } :=
      I.turnedNew (t' := s.toks) (ch := [z, TI, TO, i1, i2]) (fun c o hb q => (sb.2 c (fun q' => hb (by simp [q']))).trans (hk c o (fun q' => hb (by simp [q'])) (fun q' => hb (by simp [q'])) (fun q' => hb (by simp [q'])) (fun q' => hb (by simp [q'])) q)) hf (Nat.le_refl _) new
    refine ⟨.ref s.heap.objs.size, _, I1, rfl, ⟨_, _, x, y, rfl, rfl, I.hok.fresh (Nat.le_refl _), rfl, fun l hl => by rw [I.tuple_inj hl hqx]; exact hx, fun l hl => by rw [I.tuple_inj hl hqy]; exact hy⟩, ⟨z'', ?_, ⟨u, u2, ?_⟩, ?_, ?_⟩, fun c hcm => ?_⟩
    · exact (sb.2 _ D.TIz).trans (hk _ _ D.TIz D.TITO D.TIi1 D.TIi2 hTI)
    · exact (sb.2 _ D.TOz).trans TO'
    · exact h1'.at fun o q => (sb.2 _ D.i1z).trans q
    · exact h2'.at fun o q => (sb.2 _ D.i2z).trans q
    · have hlt : c < s.heap.objs.size := by
        have e' : c = z ∨ c = TI ∨ c = TO ∨ c = i1 ∨ c = i2 := by simpa using hcm
        rcases e' with q | q | q | q | q
        · rw [q]; exact hzl
        · rw [q]; exact Heap.lt_size hTI
        · rw [q]; exact Heap.lt_size hTO
        · rw [q]; obtain ⟨_, e1, _⟩ := h1; exact Heap.lt_size e1
        · rw [q]; obtain ⟨_, e2, _⟩ := h2; exact Heap.lt_size e2
      rw [upd_ne (Nat.ne_of_lt hlt)]
      exact (hf c hcm).1
  done := by
    intro X hP hw hK hc i pins s σ H E I hf st hg
    subst hP hw hK
    obtain ⟨hz, hTI, ⟨x0, y0, hTO⟩, h1, h2⟩ := st
    obtain ⟨xs, ys, hqx, hqy, hend⟩ := hg
    obtain ⟨its, rv, p, _⟩ := I.tuple hqx
    obtain ⟨its2, rv2, p2, _⟩ := I.tuple hqy
    have l1 := rv.length
    have l2 := rv2.length
    have he : its.toArray[i]? = none ∨ its2.toArray[i]? = none := by
      rcases hend with q | q
      · exact .inl (by simp; omega)
      · exact .inr (by simp; omega)
    exact pyNext_zipT_end (I.ok.hd hc) D hz hTI hTO h1 h2 p p2 he fun h' hk => ⟨rfl, I.turnedL (t' := s.toks) (ch := [z, TI, TO, i1, i2]) (fun c o hb q =>
      hk c o (fun q' => hb (by simp [q'])) (fun q' => hb (by simp [q'])) (fun q' => hb (by simp [q'])) (fun q' => hb (by simp [q'])) q) hf⟩
  self := fun A i s Q E st h => wpAny_pyIter_zip st.1 h


/-- zip of two tuples, its pairs frozen -/
theorem pi_zipF {X : Cx} {e e2 : Expr} {ta : TA} {p pos tpos : Pos} {elts : List Expr} {kk : Nat} (hg : Gl X "zip") (hm : X.mg "zip" = none) (ha : PA X [e, e2] ta)
    (hs : starEach [e, e2] X.env = (false, eval e X.env) :: starEach [e2] X.env := by rfl) (hpl : (backTo pos (starEach [e2] X.env)).any (·.1) = false := by rfl) :
    PI X (.Tuple elts kk tpos) (.Call (.Name "zip" p) [e, e2] [] pos) (fun σ H R => ta σ H fun vs H1 => ∃ a b xs ys, vs = [.ref a, .ref b] ∧ SqT X.K H1 a xs ∧ SqT X.K H1 b ys ∧ R (ItzF X.K a b) H1) := by
  refine ⟨fun pins s σ H R I h => ?_⟩
  refine Call_ (ld_blt I hg hm PyProof.Rows.boot_zip (PyProof.Rows.callWith_type1 (thn (ha.run pos pins s σ H _ I h) fun us s1 ⟨vs, H1, I1, r1, q1⟩ => ?_) hs hpl))
  obtain ⟨a, b, xs, ys, ex, hqx, hqy, q⟩ := q1
  subst ex
  cases r1 with
  | cons r rr =>
    cases rr with
    | cons r' rr =>
      cases rr
      cases r
      cases r'
      have fresh5 : ∀ c, c ∈ [s1.heap.objs.size + 4, s1.heap.objs.size + 2, s1.heap.objs.size + 3, s1.heap.objs.size, s1.heap.objs.size + 1] → FpOk X pins H1 c := fun c hcm => by
        have hle : s1.heap.objs.size ≤ c := by
          simp only [List.mem_cons, List.not_mem_nil, or_false] at hcm
          omega
        exact I1.fpOk hle (I1.hok.fresh hle)
      obtain ⟨its, rv, p1, _⟩ := I1.tuple hqx
      obtain ⟨its2, rv2, p2, _⟩ := I1.tuple hqy
      obtain ⟨o1, ho1, _⟩ := id p1
      obtain ⟨o2, ho2, _⟩ := id p2
      refine RZ.call_zipT (show s1.heap.IsTuple a its.toArray from p1) (show s1.heap.IsTuple b its2.toArray from p2) fun h' hz hTI hTO h1 h2 hsz hk => wpAny_pyIter_zip hz ?_
      have I2 : Inv X pins σ H1 { s1 with heap := h' } := I1.kept (t' := s1.toks) hk
      exact ⟨s1.heap.objs.size + 4, [s1.heap.objs.size + 4, s1.heap.objs.size + 2, s1.heap.objs.size + 3, s1.heap.objs.size, s1.heap.objs.size + 1], _, _, H1, rfl, I2, turn_zipF (PySem.W.ktu_apart s1.heap.objs.size a b (Heap.lt_size ho1) (Heap.lt_size ho2)), ⟨hz, hTI, ⟨_, _, hTO⟩, h1, h2⟩, fresh5, q⟩
section
variable {c : Ct} {K : PySem.W.Frag}
theorem yl_zip {H0 : Hp} {μ0 : Mu} {xs ys : List AV} {a b : Addr} {v : AV} (hK : c.K = K) (ra : RV c H0 μ0 (.ref a) (.tup xs)) (rb : RV c H0 μ0 (.ref b) (.tup ys)) : Yl c (ItzF K a b) v (zipA xs ys) H0 μ0 := by
  have now : ∀ {a : Addr} {xs : List AV}, RV c H0 μ0 (.ref a) (.tup xs) → ∀ H μ, ExtW H0 μ0 H μ → ∃ vs, SqT K H a vs ∧ RVs c H μ vs xs := fun rv H μ x => by
    obtain ⟨a', vs, ea, sq, _, r2⟩ := (rv.monoW x).tupS
    cases ea
    rw [hK] at sq
    exact ⟨vs, sq, r2⟩
  have len : (zipA xs ys).length = min xs.length ys.length := by simp [zipA]
  refine ⟨fun i H h μ x r s hi => ?_, fun H h μ x r s => ?_, fun i H h μ z H' x r s hi y => ?_⟩
  · obtain ⟨vs, sq, r2⟩ := now ra H μ x
    obtain ⟨us, sq3, r3⟩ := now rb H μ x
    have hl : i < vs.length := by rw [r2.length]; omega
    have hl2 : i < us.length := by rw [r3.length]; omega
    exact ⟨vs, us, vs[i], us[i], sq, sq3, List.getElem?_eq_getElem hl, List.getElem?_eq_getElem hl2⟩
  · obtain ⟨vs, sq, r2⟩ := now ra H μ x
    obtain ⟨us, sq3, r3⟩ := now rb H μ x
    refine ⟨vs, us, sq, sq3, ?_⟩
    rw [r2.length, r3.length, len]
    omega
  · obtain ⟨vs, sq, r2⟩ := now ra H μ x
    obtain ⟨us, sq3, r3⟩ := now rb H μ x
    obtain ⟨t, o, p, q, rfl, hd, ht, rfl, e1, e2⟩ := y
    have ep := e1 vs sq
    have eq := e2 us sq3
    have hl : i < xs.length := by omega
    have hl2 : i < ys.length := by omega
    obtain ⟨u1, g1, s1⟩ := r2.get (List.getElem?_eq_getElem hl)
    obtain ⟨u2, g2, s2⟩ := r3.get (List.getElem?_eq_getElem hl2)
    rw [ep] at g1
    rw [eq] at g2
    cases g1
    cases g2
    have ex := r.ext (o := .frz o (.tup [p, q])) ht
    refine ⟨.tup [xs[i], ys[i]], ?_, ex, r.laid ht, .tup upd_same hd (r.free ht) (by show 2 ≤ sizeLine; decide) (RVs.mono ex (.cons s1 (.cons s2 .nil)))⟩
    unfold zipA
    rw [List.getElem?_map, List.getElem?_eq_getElem (by rw [List.length_zip]; omega), List.getElem_zip]
    rfl
end

section
variable {X : Cx} {tg : Expr}
/-- a list, a tuple or a text is walked -/
theorem pi_any {l : Expr} {tl : TE} (hl : PE X l tl) : PI X tg l (fun σ H R => tl σ H fun x H1 => (∃ a, x = .ref a ∧ (∃ xs, SqL X.K H1 a xs) ∧ R (Itl X.K a) H1) ∨ (∃ a, x = .ref a ∧ (∃ xs, SqT X.K H1 a xs) ∧ R (Itt X.K a) H1) ∨ ∃ z, x = .str z ∧ R (Its z) H1) := by
  refine ⟨fun pins s σ H R I w => ?_⟩
  refine thn (hl.run pins s σ H _ I w) fun v s1 ⟨x, H1, I1, r1, q1⟩ => ?_
  have new : ∀ {b : Addr}, b ∈ [s1.heap.objs.size] → FpOk X pins H1 b := fun {b} hb => by
    rw [List.mem_singleton.mp hb]
    exact I1.fpOk (Nat.le_refl _) (I1.hok.fresh (Nat.le_refl _))
  have kept : ∀ o : Obj, Inv X pins σ H1 { s1 with heap := s1.heap.push o } := fun o => I1.kept (t' := s1.toks) fun b ob z => Heap.get?_push_of_some _ z
  rcases q1 with ⟨a, rfl, ⟨xs, hq⟩, q⟩ | ⟨a, rfl, ⟨xs, hq⟩, q⟩ | ⟨z, rfl, q⟩
  · cases r1
    obtain ⟨its, _, p, _⟩ := I1.list hq
    exact wpAny_pyIter_list p.isList ⟨_, _, _, _, H1, rfl, kept _, turn_list a _, ⟨_, Heap.get?_push_size _ rfl, rfl, rfl⟩, fun b hb => new hb, q⟩
  · cases r1
    obtain ⟨its, _, p, _⟩ := I1.tuple hq
    exact wpAny_pyIter_tuple (show s1.heap.IsTuple a its.toArray from p) ⟨_, _, _, _, H1, rfl, kept _, turn_tuple a _, ⟨_, Heap.get?_push_size _ rfl, rfl, rfl⟩, fun b hb => new hb, q⟩
  · obtain ⟨t, rfl⟩ := r1
    cases ha : z.cps.all (· < 128)
    · exact wpAny_pyIter_wide ha ⟨_, _, _, _, H1, rfl, kept _, turn_str _ z t "str_iterator" (.inr rfl), ⟨_, Heap.get?_push_size _ rfl, rfl, rfl⟩, fun b hb => new hb, q⟩
    · exact wpAny_pyIter_ascii ha ⟨_, _, _, _, H1, rfl, kept _, turn_str _ z t "str_ascii_iterator" (.inl rfl), ⟨_, Heap.get?_push_size _ rfl, rfl, rfl⟩, fun b hb => new hb, q⟩
end

/-! ### plain facts of texts -/
theorem star_plain {env : Env} : ∀ {l : List Expr}, l.all plainE = true → starEach l env = l.map fun e => (false, eval e env)
  | [], _ => rfl
  | e :: l, h => by
    simp only [List.all_cons, Bool.and_eq_true] at h
    have ih := star_plain (env := env) h.2
    cases e <;> first | (simp [plainE] at h; done) | (simp only [starEach, List.map_cons, ih])
theorem star_cons {env : Env} {e : Expr} {l : List Expr} (h : plainE e = true) : starEach (e :: l) env = (false, eval e env) :: starEach l env := by
  cases e <;> first | (simp [plainE] at h; done) | rfl
theorem back_plain {env : Env} {pos : Pos} {l : List Expr} (h : l.all plainE = true) : (backTo pos (starEach l env)).any (·.1) = false := by
  rw [star_plain h]
  unfold backTo
  rw [List.map_map, List.any_map]
  exact List.any_eq_false.mpr fun e _ => by simp
theorem set_plain {iter : Expr} {env : Env} (h : notSet iter = true) : ∀ x, foldedSetIterable iter env x = pure x := by
  intro x
  cases iter <;> first | rfl | (simp [notSet] at h; done)
theorem mark_plain {op : CmpOp} {e : Expr} (h : notSet e = true) : behindInMarks op e = false := by
  cases e <;> first | rfl | (simp [notSet] at h; done)
theorem marks_plain : ∀ {ops : List CmpOp} {l : List Expr}, l.all notSet = true → lastMarks ops l = false
  | [], [], _ => rfl
  | [], [_], _ => rfl
  | [], _ :: _ :: _, _ => rfl
  | [_], [], _ => rfl
  | [op], [e], h => by
    simp only [List.all_cons, Bool.and_eq_true] at h
    exact mark_plain h.1
  | [op], a :: b :: l, h => by
    simp only [List.all_cons, Bool.and_eq_true] at h
    show lastMarks [] (b :: l) = false
    cases l <;> rfl
  | _ :: _ :: _, [], _ => rfl
  | _ :: o2 :: os, _ :: l, h => by
    simp only [List.all_cons, Bool.and_eq_true] at h
    show lastMarks (o2 :: os) l = false
    exact marks_plain h.2
theorem true_plain {e : Expr} {env : Env} (h : plainT e = true) : ∀ whole, isTrue e env whole = (do let v ← whole; standAt e.pos; holding [v] (truthy v)) := by
  intro whole
  cases e <;> first | rfl | (simp [plainT] at h; done) | skip
  rename_i op a p
  cases op <;> first | rfl | (simp [plainT] at h; done)
theorem attr_plain {e : Expr} {f : Str} {env : Env} (h : plainB e = true) : attributeBase e f env (eval e env) = eval e env := by
  cases e <;> first | rfl | skip
  rename_i fn args kws pos
  cases fn <;> first | rfl | skip
  cases args <;> cases kws <;> first | rfl | (simp [plainB] at h; done)
theorem sub_plain {e : Expr} (h : notSlice e = true) : PlainIx e := by
  intro o i
  cases e <;> first | rfl | (simp [notSlice] at h; done)
theorem BO.of_isOp {o : BO} {op : Operator} (h : o.isOp op = true) : op = o.op := by
  cases o <;> cases op <;> first | rfl | (simp [BO.isOp] at h; done)
theorem CO.of_isOp {o : CO} {op : CmpOp} (h : o.isOp op = true) : op = o.op := by
  cases o <;> cases op <;> first | rfl | (simp [CO.isOp] at h; done)
theorem vis_of {sc : Scope} {x : Str} (h : isVis sc x = true) : Vis sc x := by
  unfold isVis at h
  split at h
  · exact .inl (by assumption)
  · exact .inr (.inl (by assumption))
  · exact .inr (.inr (by assumption))
  · cases h
theorem gl_of {X : Cx} {x : Str} (h : isGl X.env.scope x = true) : Gl X x := by
  unfold isGl at h
  split at h
  · assumption
  · cases h
theorem dbg_of {x : Str} (h : (!isDbg x) = true) : (x == ("__debug__" : Str)) = false ∧ (x == ("__classdict__" : Str)) = false ∧ x ≠ "__name__" := by
  unfold isDbg at h
  simp only [Bool.not_or, Bool.and_eq_true, Bool.not_eq_true'] at h
  exact ⟨h.1.1, h.1.2, by intro z; rw [z] at h; exact absurd h.2 (by decide)⟩
theorem bf_boot (f : Bf) : bootBuiltins f.word = some f.val ∧ f.word ≠ "__name__" ∧ (f.word == ("__debug__" : Str)) = false := by
  cases f <;> exact ⟨by decide +kernel, by decide, by decide⟩
end Z

set_option Elab.async false
set_option linter.all false
set_option maxRecDepth 100000
set_option autoImplicit false
set_option maxHeartbeats 1000000
/-! ZGA: enumerate, reversed, range by -1. -/
namespace Z
open PySem
open AutoSeq1 (wpAny_loadPart')
theorem meets_enumerate_newT (l : Addr) (items : Array Value) (n : Nat) (dct : Option Addr) (sl : Array (Option Value)) :
    Meets (Builtin.«enumerate.__new__» ⟨[.type "enumerate", .ref l], []⟩) (fun _ R s => s.heap.get? l = some { cls := .type "tuple", dict := dct, data := .seq items n, slots := sl } ∧
      R (.ok (.ret (.ref (s.heap.push { cls := .type "tuple_iterator", data := .fields #[.ref l, .int 0 0] }).objs.size)))
        { s with heap := (s.heap.push { cls := .type "tuple_iterator", data := .fields #[.ref l, .int 0 0] }).push { cls := .type "enumerate", data := .fields #[.none, .bool false, .ref s.heap.objs.size, rawInt 0, .none, .none] } }) :=
  .of_wp fun prog w A R s h => by
    obtain ⟨hp, g, d, tk, os⟩ := s; obtain ⟨hl, h⟩ := h
    have hsub := sub_enumerate
    have hL : Heap.IsTuple (Shared.heap ⟨hp, g, d, tk, os⟩) l items := ⟨_, hl, rfl, n, rfl⟩
    wp_walk using wpAny_loadPart' hl
    refine wpAny_stack_any fun st => wpAny_pure ?_
    split
    · rename_i c _ _ _ _ _
      cases (c == Value.type "enumerate")
      · wp_walk using wpAny_loadPart' hl, wpAny_pyIter_tuple hL
        exact ⟨_, rfl, h⟩
      · wp_walk using wpAny_loadPart' hl, wpAny_pyIter_tuple hL
        exact ⟨_, rfl, h⟩
    · wp_walk using wpAny_loadPart' hl, wpAny_pyIter_tuple hL
      exact ⟨_, rfl, h⟩
section
variable {prog : Program} {w : World} {A : Around} {E : Value → Shared → Prop} {s : Shared}
theorem call_enumerate_tup {l : Addr} {items : Array Value} {Q : Value → Shared → Prop} (hL : s.heap.IsTuple l items)
    (h : ∀ h', IsEnum h' (s.heap.objs.size + 1) s.heap.objs.size 0 .none → h'.IsTupleIter s.heap.objs.size l 0 → h'.objs.size = s.heap.objs.size + 2 →
      (∀ b o, s.heap.get? b = some o → h'.get? b = some o) → Q (.ref (s.heap.objs.size + 1)) { s with heap := h' }) :
    wpAny (model prog w) A (call (.type "enumerate") [.ref l]) Q E s := by
  obtain ⟨⟨c, dct, dt, sl⟩, hl, hc, n, hd⟩ := hL
  replace hc : c = .type "tuple" := hc
  replace hd : dt = .seq items n := hd
  subst hc hd
  refine callType_new F.called_enumerate (by decide) (F.typeCall_enumerate_1 _) (F.newCall_enumerate_1 _) (fun obj => F.args_object_init_2 obj _) F.entry_enumerate_new
    (meets_enumerate_newT l items n dct sl) ⟨hl, ?_⟩
  have hz : (s.heap.push { cls := .type "tuple_iterator", data := .fields #[.ref l, .int 0 0] }).objs.size = s.heap.objs.size + 1 := Heap.size_push ..
  show _ ∧ _
  rw [hz]
  have he : IsEnum ((s.heap.push { cls := .type "tuple_iterator", data := .fields #[.ref l, .int 0 0] }).push
      { cls := .type "enumerate", data := .fields #[.none, .bool false, .ref s.heap.objs.size, rawInt 0, .none, .none] }) (s.heap.objs.size + 1) s.heap.objs.size 0 .none := by
    have := Heap.get?_push_size (s.heap.push { cls := .type "tuple_iterator", data := .fields #[.ref l, .int 0 0] })
      (o := { cls := .type "enumerate", data := .fields #[.none, .bool false, .ref s.heap.objs.size, rawInt 0, .none, .none] }) rfl
    rw [hz] at this; exact this
  refine ⟨⟨_, he, rfl⟩, h _ he ⟨_, Heap.get?_push_of_some _ (Heap.get?_push_size _ rfl), rfl, rfl⟩ (by rw [Heap.size_push, hz]) fun b o x => Heap.get?_push_of_some _ (Heap.get?_push_of_some _ x)⟩
end
open PySem.Spec PyProof.Rows L2
/-! ### enumerate -/
/-- the items of the list (or the tuple) at a as it stands at each turn, in new frozen pairs -/
def ItL (K : PySem.W.Frag) (tup : Bool) (H : Hp) (a : Addr) (xs : List V) : Prop := if tup = true then SqT K H a xs else SqL K H a xs
def IteF (K : PySem.W.Frag) (tup : Bool) (a : Addr) : It :=
  ⟨fun i H => ∃ (xs : List V) (x : V), ItL K tup H a xs ∧ xs[i]? = some x,
    fun i H v H' => ∃ T o x, v = .ref T ∧ o.dict = none ∧ H T = none ∧ H' = upd H T (.frz o (.tup [.int (i : Nat), x])) ∧ ∀ xs, ItL K tup H a xs → xs[i]? = some x,
    fun i H => ∃ xs : List V, ItL K tup H a xs ∧ xs.length = i⟩
theorem turn_enumL {P : Program} {w : World} {K : PySem.W.Frag} {elts : List Expr} {kk : Nat} {tpos : Pos} (a e it : Addr) :
    Turn P w K (.Tuple elts kk tpos) (IteF K false a) [e, it] e (fun i h => (∃ old, IsEnum h e it ((i : Nat) : Int) old) ∧ h.IsListIter it a i ∧ e ≠ it) where
  mem := by simp
  obj := fun i h st b hb => by
    obtain ⟨⟨old, he⟩, ⟨o, ho, hc, hd⟩, _⟩ := st
    have e' : b = e ∨ b = it := by simpa using hb
    rcases e' with z | z
    · rw [z]; exact ⟨_, he, fun v q => nomatch q⟩
    · rw [z]; exact ⟨o, ho, fun v q => by rw [hd] at q; cases q⟩
  keep := fun i h h' st k => let ⟨⟨old, he⟩, hi, hne⟩ := st; ⟨⟨old, k e (by simp) _ he⟩, hi.at fun o q => k it (by simp) o q, hne⟩
  item := by
    intro X hP hw hK hc i pins s σ H E I hf st hg
    subst hP hw hK
    obtain ⟨⟨old, he⟩, hit, hne⟩ := st
    obtain ⟨xs, x, hq, hx⟩ := hg
    have hq : SqL X.K H a xs := hq
    obtain ⟨its, rv, p, hz⟩ := I.list hq
    obtain ⟨u, hu, ru⟩ := rv.get hx
    have hel : e < s.heap.objs.size := Heap.lt_size he
    have hil : it < s.heap.objs.size := by obtain ⟨_, q, _⟩ := hit; exact Heap.lt_size q
    refine wpAny_pyNext_enum_item he hit p.isList (x := u) (by simpa using hu) hne fun h' ho hit' hT hsz hk => ?_
    refine ⟨_, rfl, wpAny_letOwnedTupleGo_enum (s := { s with heap := h', toks := s.toks + 1 }) ho fun h'' he' sb => ?_⟩
    have hT2 : h''.get? s.heap.objs.size = some { cls := .type "tuple", data := .seq #[.int i s.toks, u] } := (sb.2 _ (Nat.ne_of_gt hel)).trans hT
    have new : ObjOk X.prog X.w (upd H s.heap.objs.size (.frz { cls := .type "tuple", data := .seq #[.int i s.toks, u] } (.tup [.int (i : Nat), x]))) h'' s.heap.objs.size (.frz { cls := .type "tuple", data := .seq #[.int i s.toks, u] } (.tup [.int (i : Nat), x])) :=
      ⟨hT2, by show 2 ≤ sizeLine; decide, [.int i s.toks, u], .cons ⟨_, rfl⟩ (.cons ru .nil), ⟨_, hT2, rfl, _, rfl⟩⟩
    have I1 : Inv X pins σ (upd H s.heap.objs.size (.frz { cls := .type "tuple", data := .seq #[.int i s.toks, u] } (.tup [.int (i : Nat), x]))) { s with heap := h'', toks := s.toks + 1 } :=
      I.turnedNew (ch := [e, it]) (fun b ob hb q => (sb.2 b (fun z => hb (by simp [z]))).trans (hk b ob (fun z => hb (by simp [z])) (fun z => hb (by simp [z])) q)) hf (Nat.le_refl _) new
    refine ⟨.ref s.heap.objs.size, _, I1, rfl, ⟨_, _, x, rfl, rfl, I.hok.fresh (Nat.le_refl _), rfl, fun ys hy => by rw [I.list_inj (show SqL X.K H a ys from hy) hq]; exact hx⟩, ⟨⟨u, ?_⟩, hit'.at fun o q => (sb.2 it (Ne.symm hne)).trans q, hne⟩, fun b hb => ?_⟩
    · have e1 : ((i + 1 : Nat) : Int) = (i : Int) + 1 := by omega
      rw [e1]; exact he'
    · have hb' : b < s.heap.objs.size := by
        have e' : b = e ∨ b = it := by simpa using hb
        rcases e' with z | z
        · rw [z]; exact hel
        · rw [z]; exact hil
      rw [upd_ne (Nat.ne_of_lt hb')]
      exact (hf b hb).1
  done := by
    intro X hP hw hK hc i pins s σ H E I hf st hg
    subst hP hw hK
    obtain ⟨⟨old, he⟩, hit, hne⟩ := st
    obtain ⟨xs, hq, hx⟩ := hg
    have hq : SqL X.K H a xs := hq
    obtain ⟨its, rv, p, hz⟩ := I.list hq
    obtain ⟨f0, f1, f2, f3, f4, f5⟩ := hf it (by simp)
    have hl := rv.length
    exact wpAny_pyNext_enum_end (I.ok.hd hc) he hit p.isList (by simp; omega) fun h' eb => ⟨rfl, I.turned (t' := s.toks) (fun b o hb q => eb b o hb q) f0 f1 f3 f4 f5⟩
  self := fun A i s Q E st h => let ⟨⟨_, he⟩, _⟩ := st; wpAny_pyIter_enum he h
theorem turn_enumT {P : Program} {w : World} {K : PySem.W.Frag} {elts : List Expr} {kk : Nat} {tpos : Pos} (a e it : Addr) :
    Turn P w K (.Tuple elts kk tpos) (IteF K true a) [e, it] e (fun i h => (∃ old, IsEnum h e it ((i : Nat) : Int) old) ∧ h.IsTupleIter it a i ∧ e ≠ it ∧ a ≠ it ∧ e ≠ a) where
  mem := by simp
  obj := fun i h st b hb => by
    obtain ⟨⟨old, he⟩, ⟨o, ho, hc, hd⟩, _⟩ := st
    have e' : b = e ∨ b = it := by simpa using hb
    rcases e' with z | z
    · rw [z]; exact ⟨_, he, fun v q => nomatch q⟩
    · rw [z]; exact ⟨o, ho, fun v q => by rw [hd] at q; cases q⟩
  keep := fun i h h' st k => let ⟨⟨old, he⟩, hi, hne⟩ := st; ⟨⟨old, k e (by simp) _ he⟩, hi.at fun o q => k it (by simp) o q, hne⟩
  item := by
    intro X hP hw hK hc i pins s σ H E I hf st hg
    subst hP hw hK
    obtain ⟨⟨old, he⟩, hit, hne, hai, hea⟩ := st
    obtain ⟨xs, x, hq, hx⟩ := hg
    have hq : SqT X.K H a xs := hq
    obtain ⟨its, rv, p, hz⟩ := I.tuple hq
    obtain ⟨u, hu, ru⟩ := rv.get hx
    have hel : e < s.heap.objs.size := Heap.lt_size he
    have hil : it < s.heap.objs.size := by obtain ⟨_, q, _⟩ := hit; exact Heap.lt_size q
    have hi : i < its.toArray.size := by
      have := (List.getElem?_eq_some_iff.mp hu).1
      simpa using this
    refine wpAny_pyNext_enum_itemD (Draws.tuple (A := X.A.in1) (I.ok.hd hc) it a hai its.toArray) he ⟨hit, p⟩ hi hne (by simp [hne, hea]) fun x' h' tk hx' ho hit' hT hsz hk => ?_
    have ex : x' = u := by
      have h1 : its.toArray[i]? = some x' := hx'
      rw [List.getElem?_toArray, hu] at h1
      exact (Option.some.inj h1).symm
    subst ex
    refine ⟨_, rfl, wpAny_letOwnedTupleGo_enum (s := { s with heap := h', toks := tk + 1 }) ho fun h'' he' sb => ?_⟩
    have hT2 : h''.get? s.heap.objs.size = some { cls := .type "tuple", data := .seq #[.int i tk, x'] } := (sb.2 _ (Nat.ne_of_gt hel)).trans hT
    have new : ObjOk X.prog X.w (upd H s.heap.objs.size (.frz { cls := .type "tuple", data := .seq #[.int i tk, x'] } (.tup [.int (i : Nat), x]))) h'' s.heap.objs.size (.frz { cls := .type "tuple", data := .seq #[.int i tk, x'] } (.tup [.int (i : Nat), x])) :=
      ⟨hT2, by show 2 ≤ sizeLine; decide, [.int i tk, x'], .cons ⟨_, rfl⟩ (.cons ru .nil), ⟨_, hT2, rfl, _, rfl⟩⟩
    have I1 : Inv X pins σ (upd H s.heap.objs.size (.frz { cls := .type "tuple", data := .seq #[.int i tk, x'] } (.tup [.int (i : Nat), x]))) { s with heap := h'', toks := tk + 1 } :=
      I.turnedNew (ch := [e, it]) (fun b ob hb q => (sb.2 b (fun z => hb (by simp [z]))).trans (hk b ob (fun z => hb (by simp [z])) (fun z => hb (by simp [z])) q)) hf (Nat.le_refl _) new
    refine ⟨.ref s.heap.objs.size, _, I1, rfl, ⟨_, _, x, rfl, rfl, I.hok.fresh (Nat.le_refl _), rfl, fun ys hy => by rw [I.tuple_inj (show SqT X.K H a ys from hy) hq]; exact hx⟩, ⟨⟨x', ?_⟩, hit'.1.at fun o q => (sb.2 it (Ne.symm hne)).trans q, hne, hai, hea⟩, fun b hb => ?_⟩
    · have e1 : ((i + 1 : Nat) : Int) = (i : Int) + 1 := by omega
      rw [e1]; exact he'
    · have hb' : b < s.heap.objs.size := by
        have e' : b = e ∨ b = it := by simpa using hb
        rcases e' with z | z
        · rw [z]; exact hel
        · rw [z]; exact hil
      rw [upd_ne (Nat.ne_of_lt hb')]
      exact (hf b hb).1
  done := by
    intro X hP hw hK hc i pins s σ H E I hf st hg
    subst hP hw hK
    obtain ⟨⟨old, he⟩, hit, hne, hai, hea⟩ := st
    obtain ⟨xs, hq, hx⟩ := hg
    have hq : SqT X.K H a xs := hq
    obtain ⟨its, rv, p, hz⟩ := I.tuple hq
    obtain ⟨f0, f1, f2, f3, f4, f5⟩ := hf it (by simp)
    have hl := rv.length
    have en : i = its.toArray.size := by simp; omega
    subst en
    exact wpAny_pyNext_enum_endD (Draws.tuple (A := X.A.in1) (I.ok.hd hc) it a hai its.toArray) he ⟨hit, p⟩ fun h' eb => ⟨rfl, I.turned (t' := s.toks) (fun b o hb q => eb b o hb q) f0 f1 f3 f4 f5⟩
  self := fun A i s Q E st h => let ⟨⟨_, he⟩, _⟩ := st; wpAny_pyIter_enum he h
section
variable {X : Cx}
/-- enumerate of a list or a tuple -/
theorem pi_enumF {e : Expr} {te : TE} {p pos tpos : Pos} {elts : List Expr} {kk : Nat} (hg : Gl X "enumerate") (hm : X.mg "enumerate" = none) (he : PE X e te) (hs : starEach [e] X.env = (false, eval e X.env) :: starEach [] X.env) :
    PI X (.Tuple elts kk tpos) (.Call (.Name "enumerate" p) [e] [] pos) (fun σ H R => te σ H fun v H1 => ∃ a tup xs, v = .ref a ∧ ItL X.K tup H1 a xs ∧ R (IteF X.K tup a) H1) := by
  refine ⟨fun pins s σ H R I h => ?_⟩
  refine Call_ (ld_blt I hg hm boot_enumerate (PyProof.Rows.callWith_type1 (args_cons (thn (he.run pins s σ H _ I h) fun u s1 ⟨v, H1, I1, r1, q1⟩ => args_nil ?_) hs) hs rfl))
  obtain ⟨a, tup, xs, ev, hq, q⟩ := q1
  subst ev
  obtain rfl : u = Value.ref a := r1
  have fresh : ∀ b, b ∈ [s1.heap.objs.size + 1, s1.heap.objs.size] → FpOk X pins H1 b := fun b hb => by
    have e' : b = s1.heap.objs.size + 1 ∨ b = s1.heap.objs.size := by simpa using hb
    have hle : s1.heap.objs.size ≤ b := by omega
    exact I1.fpOk hle (I1.hok.fresh hle)
  cases tup with
  | false =>
    have hq : SqL X.K H1 a xs := hq
    obtain ⟨its, rv, p', hz⟩ := I1.list hq
    refine call_enumerate_list p'.isList fun h' he hit hsz hk => wpAny_pyIter_enum he ?_
    have I2 : Inv X pins σ H1 { s1 with heap := h' } := I1.kept (t' := s1.toks) hk
    exact ⟨s1.heap.objs.size + 1, [s1.heap.objs.size + 1, s1.heap.objs.size], _, _, H1, rfl, I2, turn_enumL a (s1.heap.objs.size + 1) s1.heap.objs.size, ⟨⟨.none, he⟩, hit, Nat.succ_ne_self _⟩, fresh, q⟩
  | true =>
    have hq : SqT X.K H1 a xs := hq
    obtain ⟨its, rv, p', hz⟩ := I1.tuple hq
    obtain ⟨o1, ho1, _⟩ := id p'
    have hl := Heap.lt_size ho1
    refine call_enumerate_tup (show s1.heap.IsTuple a its.toArray from p') fun h' he hit hsz hk => wpAny_pyIter_enum he ?_
    have I2 : Inv X pins σ H1 { s1 with heap := h' } := I1.kept (t' := s1.toks) hk
    exact ⟨s1.heap.objs.size + 1, [s1.heap.objs.size + 1, s1.heap.objs.size], _, _, H1, rfl, I2, turn_enumT a (s1.heap.objs.size + 1) s1.heap.objs.size, ⟨⟨.none, he⟩, hit, Nat.succ_ne_self _, Nat.ne_of_lt hl, fun z => by subst z; exact absurd hl (Nat.not_lt.mpr (Nat.le_succ _))⟩, fresh, q⟩
end
/-! ### what they give -/
section
variable {c : Ct} {K : PySem.W.Frag}
theorem stands_wlk {k n : Nat} {zs : List AV} {h : AH} (s : stands (.wlk k n) zs h = some (.ok () h)) : ∃ ys, h[n]? = some (.lst ys) ∧ wlkA k ys = some zs := by
  unfold stands at s
  simp only at s
  split at s
  · rename_i ys hy
    split at s
    · rename_i z
      exact ⟨ys, hy, z⟩
    · cases s
  · cases s
theorem RV.getSq {H : Hp} {μ : Mu} {h : AH} {x : V} {v : AV} {xs : List AV} (rh : RH c H h μ) (rv : RV c H μ x v) (e : getS h v = some xs) : ∃ a vs tup, x = .ref a ∧ ItL c.K tup H a vs ∧ RVs c H μ vs xs ∧ (tup = true ↔ ∃ ys, v = .tup ys) := by
  by_cases ht : ∃ ys, v = .tup ys
  · obtain ⟨ys, rfl⟩ := ht
    cases e
    obtain ⟨a, vs, rfl, sq, _, r⟩ := rv.tupS
    exact ⟨a, vs, true, rfl, sq, r, by simp⟩
  · have e4 : getL h v = some xs := by cases v <;> first | exact e | exact absurd ⟨_, rfl⟩ ht
    obtain ⟨a, vs, rfl, sq, _, r⟩ := getL_sq rh rv e4
    exact ⟨a, vs, false, rfl, sq, r, by simp [ht]⟩
/-- what a walk of kind k of v needs at each turn: the row that it began with -/
theorem wlk_now {H0 : Hp} {μ0 : Mu} {h0 : AH} {v : AV} {xs zs : List AV} {a : Addr} {tup : Bool} {k : Nat} (rh : RH c H0 h0 μ0) (rv : RV c H0 μ0 (.ref a) v) (e : getS h0 v = some xs) (ht : tup = true ↔ ∃ ys, v = .tup ys) (ez : wlkA k xs = some zs) (inj : ∀ ys, wlkA k ys = some zs → ys = xs)
    {H : Hp} {h : AH} {μ : Mu} (x : ExtW H0 μ0 H μ) (r : RH c H h μ) (s : stands (wlkS k v) zs h = some (.ok () h)) : ∃ vs, ItL c.K tup H a vs ∧ RVs c H μ vs xs := by
  have e2 : getS h v = some xs := by
    cases v with
    | ref n =>
      obtain ⟨ys, h1, h2⟩ := stands_wlk s
      have := inj ys h2
      subst this
      simp [getS, getL, h1]
    | tup ys => exact e
    | lst ys => exact e
    | ext ys => exact e
    | _ => cases e
  obtain ⟨a', vs, t2, ea, sq, r2, ht2⟩ := (rv.monoW x).getSq r e2
  cases ea
  have : t2 = tup := by
    have : t2 = true ↔ tup = true := ht2.trans ht.symm
    cases t2 <;> cases tup <;> simp at this ⊢
  subst this
  exact ⟨vs, sq, r2⟩
theorem enumA_len {xs : List AV} : (enumA xs).length = xs.length := by simp [enumA]
theorem enumA_get {xs : List AV} {i : Nat} {x : AV} (e : xs[i]? = some x) : (enumA xs)[i]? = some (.tup [.int (i : Nat), x]) := by
  unfold enumA
  rw [List.getElem?_map, List.getElem?_zipIdx, e]
  simp
theorem enumA_inj {xs ys : List AV} (e : enumA ys = enumA xs) : ys = xs := by
  have l : ys.length = xs.length := by rw [← enumA_len, e, enumA_len]
  refine List.ext_getElem? fun i => ?_
  by_cases hi : i < xs.length
  · have h1 := enumA_get (List.getElem?_eq_getElem hi)
    have h2 := enumA_get (List.getElem?_eq_getElem (show i < ys.length by omega))
    rw [e, h1] at h2
    simp only [Option.some.injEq, AV.tup.injEq, List.cons.injEq, and_true, true_and] at h2
    rw [List.getElem?_eq_getElem hi, List.getElem?_eq_getElem (show i < ys.length by omega), h2]
  · rw [List.getElem?_eq_none (by omega), List.getElem?_eq_none (by omega)]
theorem yl_enum {H0 : Hp} {μ0 : Mu} {h0 : AH} {v : AV} {xs : List AV} {a : Addr} {tup : Bool} (hK : c.K = K) (rh : RH c H0 h0 μ0) (rv : RV c H0 μ0 (.ref a) v) (e : getS h0 v = some xs) (ht : tup = true ↔ ∃ ys, v = .tup ys) :
    Yl c (IteF K tup a) (wlkS 0 v) (enumA xs) H0 μ0 := by
  subst hK
  have now : ∀ H h μ, ExtW H0 μ0 H μ → RH c H h μ → stands (wlkS 0 v) (enumA xs) h = some (.ok () h) → ∃ vs, ItL c.K tup H a vs ∧ RVs c H μ vs xs :=
    fun H h μ x r s => wlk_now rh rv e ht (k := 0) rfl (fun ys z => enumA_inj (Option.some.inj z)) x r s
  refine ⟨fun i H h μ x r s hi => ?_, fun H h μ x r s => ?_, fun i H h μ z H' x r s hi y => ?_⟩
  · obtain ⟨vs, sq, r2⟩ := now H h μ x r s
    rw [enumA_len] at hi
    have hl : i < vs.length := by rw [r2.length]; exact hi
    exact ⟨vs, vs[i], sq, List.getElem?_eq_getElem hl⟩
  · obtain ⟨vs, sq, r2⟩ := now H h μ x r s
    exact ⟨vs, sq, by rw [enumA_len]; exact r2.length⟩
  · obtain ⟨vs, sq, r2⟩ := now H h μ x r s
    obtain ⟨t, o, p, rfl, hd, htt, rfl, e1⟩ := y
    rw [enumA_len] at hi
    have ep := e1 vs sq
    obtain ⟨u1, g1, s1⟩ := r2.get (List.getElem?_eq_getElem hi)
    rw [ep] at g1
    cases g1
    have ex := r.ext (o := .frz o (.tup [.int (i : Nat), p])) htt
    exact ⟨_, enumA_get (List.getElem?_eq_getElem hi), ex, r.laid htt, .tup upd_same hd (r.free htt) (by show 2 ≤ sizeLine; decide) (RVs.mono ex (.cons (.int _) (.cons s1 .nil)))⟩
theorem yl_revL {H0 : Hp} {μ0 : Mu} {h0 : AH} {v : AV} {xs : List AV} {vs0 : List V} {a : Addr} (hK : c.K = K) (rh : RH c H0 h0 μ0) (rv : RV c H0 μ0 (.ref a) v) (e : getS h0 v = some xs) (ht : ¬ ∃ ys, v = .tup ys) (hl0 : vs0.length = xs.length) :
    Yl c (Itv K a vs0.length) (wlkS 1 v) xs.reverse H0 μ0 := by
  subst hK
  have now : ∀ H h μ, ExtW H0 μ0 H μ → RH c H h μ → stands (wlkS 1 v) xs.reverse h = some (.ok () h) → ∃ vs, SqL c.K H a vs ∧ RVs c H μ vs xs :=
    fun H h μ x r s => wlk_now (tup := false) rh rv e (by simp [ht]) (k := 1) rfl (fun ys z => List.reverse_inj.mp (Option.some.inj z)) x r s
  refine ⟨fun i H h μ x r s hi => ?_, fun H h μ x r s => by show vs0.length ≤ _; rw [List.length_reverse]; omega, fun i H h μ z H' x r s hi y => ?_⟩
  · obtain ⟨vs, sq, r2⟩ := now H h μ x r s
    rw [List.length_reverse] at hi
    have hl : vs0.length - 1 - i < vs.length := by rw [r2.length]; omega
    exact ⟨by omega, vs, _, sq, List.getElem?_eq_getElem hl⟩
  · obtain ⟨vs, sq, r2⟩ := now H h μ x r s
    obtain ⟨rfl, e1⟩ := y
    rw [List.length_reverse] at hi
    have ep := e1 vs sq
    have hl : vs0.length - 1 - i < xs.length := by omega
    obtain ⟨u1, g1, s1⟩ := r2.get (List.getElem?_eq_getElem hl)
    rw [ep] at g1
    cases g1
    refine ⟨_, ?_, .refl, r, s1⟩
    rw [List.getElem?_reverse hi, ← hl0, List.getElem?_eq_getElem hl]
theorem yl_revT {H0 : Hp} {μ0 : Mu} {h0 : AH} {v : AV} {xs : List AV} {vs0 : List V} {a : Addr} (hK : c.K = K) (rh : RH c H0 h0 μ0) (rv : RV c H0 μ0 (.ref a) v) (e : getS h0 v = some xs) (ht : ∃ ys, v = .tup ys) (hl0 : vs0.length = xs.length) :
    Yl c (RT.ItvT K a vs0.length) (wlkS 1 v) xs.reverse H0 μ0 := by
  subst hK
  have now : ∀ H h μ, ExtW H0 μ0 H μ → RH c H h μ → stands (wlkS 1 v) xs.reverse h = some (.ok () h) → ∃ vs, SqT c.K H a vs ∧ RVs c H μ vs xs :=
    fun H h μ x r s => wlk_now (tup := true) rh rv e (by simp [ht]) (k := 1) rfl (fun ys z => List.reverse_inj.mp (Option.some.inj z)) x r s
  refine ⟨fun i H h μ x r s hi => ?_, fun H h μ x r s => by show vs0.length ≤ _; rw [List.length_reverse]; omega, fun i H h μ z H' x r s hi y => ?_⟩
  · obtain ⟨vs, sq, r2⟩ := now H h μ x r s
    rw [List.length_reverse] at hi
    have hl : vs0.length - 1 - i < vs.length := by rw [r2.length]; omega
    exact ⟨by omega, vs, _, sq, List.getElem?_eq_getElem hl⟩
  · obtain ⟨vs, sq, r2⟩ := now H h μ x r s
    obtain ⟨rfl, e1⟩ := y
    rw [List.length_reverse] at hi
    have ep := e1 vs sq
    have hl : vs0.length - 1 - i < xs.length := by omega
    obtain ⟨u1, g1, s1⟩ := r2.get (List.getElem?_eq_getElem hl)
    rw [ep] at g1
    cases g1
    refine ⟨_, ?_, .refl, r, s1⟩
    rw [List.getElem?_reverse hi, ← hl0, List.getElem?_eq_getElem hl]
theorem yl_rangeC {H0 : Hp} {μ0 : Mu} {lo d : Int} {n : Nat} {v : AV} : Yl c (Itc lo d n) v (rngcA lo d n) H0 μ0 := by
  have len : (rngcA lo d n).length = n := by unfold rngcA; simp
  refine ⟨fun i H h μ x r s hi => by rw [len] at hi; exact hi, fun H h μ x r s => by rw [len]; exact Nat.le_refl _, fun i H h μ z H' x r s hi y => ?_⟩
  obtain ⟨rfl, rfl⟩ := y
  rw [len] at hi
  refine ⟨.int (lo + i * d), ?_, .refl, r, .int _⟩
  unfold rngcA
  rw [List.getElem?_map, List.getElem?_range hi]
  rfl
end
end Z

set_option Elab.async false
set_option linter.all false
set_option maxRecDepth 100000
set_option autoImplicit false
set_option maxHeartbeats 1000000
/-! ZH: expressions, by induction on the small language. -/
namespace Z
open PySem PySem.Spec PyProof.Rows L2

/-- a chain's links, as a value or as a test -/
def LkE (X : Cx) (c : Ct) (W : WX) (m : AV → AEnv → M AV) (ops : List CmpOp) (rs : List Expr) : Prop :=
  ∀ (pos : Pos) (pins : List (Addr × Obj)) (s : Shared) (σ : L2.St) (H : Hp) (x : V) (v : Value) (a : AV) (ρ : AEnv) (h : AH) (μ : Mu), Inv X pins σ H s → RelV x v → RE c H μ σ ρ → RH c H h μ → RV c H μ x a →
    (∀ (Q : V → Hp → Prop), wp (m a ρ) (okP c H μ Q) (exP c H μ fun cls d H' => W cls d σ H') h → wpAny (model X.prog X.w) X.A (compareChain pos v ops (evalEach rs X.env)) (EP X pins σ Q) X.xe s) ∧
    (∀ (Q : Bool → Hp → Prop), wp (bnd (m a ρ) fun v => match v with | .bl b => ret b | _ => stuck) (okG c REq H μ Q) (exP c H μ fun cls d H' => W cls d σ H') h → wpAny (model X.prog X.w) X.A (testChain pos v ops (evalEach rs X.env)) (TP X pins σ Q) X.xe s)

structure Snd (T : Tb) (R : Rec) (e : E) : Prop where
  pe : ∀ {X : Cx} {c : Ct} {k : Ck} {W : WX} {p : Expr}, Gd X c T R k → Takes X W → chkE k e p = true → PE X p (SE c W (evE T R e))
  pa : ∀ {X : Cx} {c : Ct} {k : Ck} {W : WX} {l : List Expr}, Gd X c T R k → Takes X W → chkA k e l = true → PA X l (SA c W (evA T R e))
  pv : ∀ {X : Cx} {c : Ct} {k : Ck} {W : WX} {l : List Expr} {pos : Pos}, Gd X c T R k → Takes X W → chkV k e l = true → PE X (.BoolOp .And l pos) (SE c W (evAnd T R e)) ∧ PE X (.BoolOp .Or l pos) (SE c W (evOr T R e))
  pt : ∀ {X : Cx} {c : Ct} {k : Ck} {W : WX} {p : Expr}, Gd X c T R k → Takes X W → chkT k e p = true → PT X p (SB c W (evT T R e))
  pu : ∀ {X : Cx} {c : Ct} {k : Ck} {W : WX} {l : List Expr} {pos : Pos}, Gd X c T R k → Takes X W → chkU k e l = true → PW X (.BoolOp .And l pos) (SB c W (evTA T R e)) ∧ PW X (.BoolOp .Or l pos) (SB c W (evTO T R e))
  pl : ∀ {X : Cx} {c : Ct} {k : Ck} {W : WX} {ops : List CmpOp} {rs : List Expr}, Gd X c T R k → Takes X W → chkL k e ops rs = true → rs.all notSet = true ∧ LkE X c W (evCh T R e) ops rs
  pc : ∀ {X : Cx} {c : Ct} {k : Ck} {W : WX} {l : List Expr}, Gd X c T R k → Takes X W → chkC k e l = true → PTs X l (SB c W (evC T R e))
  pp : ∀ {X : Cx} {c : Ct} {k : Ck} {W : WX} {l : Option Expr}, Gd X c T R k → Takes X W → chkP k e l = true → PO X l (SG c REq W (evP T R e))
  pi : ∀ {X : Cx} {c : Ct} {k : Ck} {W : WX} {p tg : Expr}, Gd X c T R k → Takes X W → chkI k e p = true → pairOk e tg = true → PI X tg p (SI c W (evI T R e))
  po : ∀ {X : Cx} {c : Ct} {k : Ck} {W : WX} {p : Expr}, Gd X c T R k → Takes X W → chkO k e p = true → PE X p (SE c W (evE T R (.own e)))

section
variable {X : Cx} {c : Ct} {T : Tb} {R : Rec} {k : Ck} {W : WX}
/-- a test by its value -/
theorem test_of {m : AEnv → M AV} {p : Expr} (hp : plainT p = true) (h : PE X p (SE c W m)) : PT X p (SB c W fun ρ => bnd (m ρ) fun v => match v with | .bl b => ret b | _ => stuck) := by
  refine pt_imp (pt_val h (true_plain hp)) fun σ H Q ⟨ρ, h, μ, re, rh, w⟩ => ?_
  refine (step re rh w).mono fun b H1 ⟨h1, μ1, a, x, re1, rh1, ra, w1⟩ => ?_
  have ra : RV c H1 μ1 b a := ra
  cases ra with
  | bl b => exact ⟨b, rfl, w1 _ _ _ .refl rh1 rfl⟩
  | _ => exact w1.elim
theorem iter_of {m : AEnv → M AV} {p tg : Expr} (hK : c.K = X.K) (h : PE X p (SE c W m)) : PI X tg p (SI c W fun ρ => bnd (m ρ) fun v => lift fun h => (itemsOf h v).map fun xs => (v, xs)) := by
  refine pi_imp (pi_any h) fun σ H Q ⟨ρ, h, μ, re, rh, w⟩ => ?_
  refine (step re rh w).mono fun b H1 ⟨h1, μ1, a, x, re1, rh1, ra, w1⟩ => ?_
  have ra : RV c H1 μ1 b a := ra
  obtain ⟨v, e, q⟩ := wp_lift w1
  simp only [Option.map_eq_some_iff] at e
  obtain ⟨xs, e, rfl⟩ := e
  by_cases hs : ∃ z, a = .str z
  · obtain ⟨z, rfl⟩ := hs
    cases e
    cases ra with
    | str _ o l => exact .inr (.inr ⟨z, rfl, q _ _ _ .refl rh1 (yl_str o)⟩)
  · by_cases ht : ∃ ys, a = .tup ys
    · obtain ⟨ys, rfl⟩ := ht
      cases e
      obtain ⟨p, vs, rfl, sq, _⟩ := ra.tupS
      rw [hK] at sq
      exact .inr (.inl ⟨p, rfl, ⟨vs, sq⟩, q _ _ _ .refl rh1 (yl_tup hK ra)⟩)
    · have e2 : getL h1 a = some xs := by
        cases a <;> first | exact e | exact absurd ⟨_, rfl⟩ hs | exact absurd ⟨_, rfl⟩ ht
      obtain ⟨p, vs, rfl, sq, _⟩ := getL_sq rh1 ra e2
      rw [hK] at sq
      exact .inl ⟨p, rfl, ⟨vs, sq⟩, q _ _ _ .refl rh1 (yl_list hK rh1 ra e2)⟩
theorem part_of {m : AEnv → M AV} {p : Expr} (h : PE X p (SE c W m)) : PO X (some p) (SG c REq W fun ρ => bnd (m ρ) fun v => match v with | .int i => ret (some i) | _ => stuck) := by
  refine po_imp (po_some h) fun σ H Q ⟨ρ, h, μ, re, rh, w⟩ => ?_
  refine (step re rh w).mono fun b H1 ⟨h1, μ1, a, x, re1, rh1, ra, w1⟩ => ?_
  have ra : RV c H1 μ1 b a := ra
  cases ra with
  | int i => exact ⟨i, rfl, w1 _ _ _ .refl rh1 rfl⟩
  | _ => exact w1.elim
end

/-- an expression that is no list of parts, no test of its own form -/
theorem Snd.of {T : Tb} {R : Rec} {e : E} (pe : ∀ {X : Cx} {c : Ct} {k : Ck} {W : WX} {p : Expr}, Gd X c T R k → Takes X W → chkE k e p = true → PE X p (SE c W (evE T R e)))
    (po : ∀ {X : Cx} {c : Ct} {k : Ck} {W : WX} {p : Expr}, Gd X c T R k → Takes X W → chkO k e p = true → PE X p (SE c W (evE T R (.own e))))
    (hA : ∀ k l, chkA k e l = false) (hV : ∀ k l, chkV k e l = false) (hU : ∀ k l, chkU k e l = false) (hL : ∀ k o l, chkL k e o l = false)
    (hT : ∀ k p, chkT k e p = (plainT p && chkE k e p)) (hC : ∀ k l, chkC k e l = match l with | [p] => chkT k e p | _ => false)
    (hP : ∀ k l, chkP k e l = match l with | some p => chkE k e p | none => false) (hI : ∀ k p, chkI k e p = chkE k e p)
    (eT : ∀ ρ, evT T R e ρ = bnd (evE T R e ρ) fun v => match v with | .bl b => ret b | _ => stuck)
    (eC : ∀ ρ, evC T R e ρ = evT T R e ρ) (eP : ∀ ρ, evP T R e ρ = bnd (evE T R e ρ) fun v => match v with | .int i => ret (some i) | _ => stuck)
    (eI : ∀ ρ, evI T R e ρ = bnd (evE T R e ρ) fun v => lift fun h => (itemsOf h v).map fun xs => (v, xs)) : Snd T R e := by
  have pt : ∀ {X : Cx} {c : Ct} {k : Ck} {W : WX} {p : Expr}, Gd X c T R k → Takes X W → chkT k e p = true → PT X p (SB c W (evT T R e)) := fun {X c k W p} G tk h => by
    rw [hT, Bool.and_eq_true] at h
    have := test_of h.1 (pe G tk h.2)
    rw [← funext eT] at this
    exact this
  refine ⟨pe, fun G tk h => ?_, fun G tk h => ?_, pt, fun G tk h => ?_, fun G tk h => ?_, fun {X c k W l} G tk h => ?_, fun {X c k W l} G tk h => ?_, fun G tk h _ => ?_, po⟩
  · rw [hA] at h; cases h
  · rw [hV] at h; cases h
  · rw [hU] at h; cases h
  · rw [hL] at h; cases h
  · rw [hC] at h
    split at h
    · rw [funext eC]
      exact pts_one (pt G tk h)
    · cases h
  · rw [hP] at h
    split at h
    · rw [funext eP]
      exact part_of (pe G tk h)
    · cases h
  · rw [hI] at h
    rw [funext eI]
    exact iter_of G.K (pe G tk h)

section
variable {T : Tb} {R : Rec}
theorem s_var (i : Nat) : Snd T R (.var i) := by
  refine .of (fun {X c k W p} G tk h => ?_) (fun _ _ h => absurd h Bool.false_ne_true) (fun _ _ => rfl) (fun _ _ => rfl) (fun _ _ => rfl) (fun _ _ _ => rfl) (fun _ _ => rfl) (fun _ _ => rfl) (fun _ _ => rfl) (fun _ _ => rfl) (fun _ => rfl) (fun _ => rfl) (fun _ => rfl) (fun _ => rfl)
  simp only [chkE, ck, CkR.of] at h
  split at h
  · simp only [Bool.and_eq_true, decide_eq_true_eq] at h
    obtain ⟨⟨h1, h2⟩, h3⟩ := h
    rw [G.N] at h1
    rw [G.sc] at h2
    obtain ⟨d1, d2, _⟩ := dbg_of h3
    refine pe_imp (pe_var h1 (vis_of h2) d1 d2) fun σ H Q ⟨ρ, h, μ, re, rh, w⟩ => ?_
    unfold wp at w
    simp only [evE, ev, EvR.of, look] at w
    cases e : ρ[i]? with
    | none => rw [e] at w; exact w.elim
    | some o =>
      cases o with
      | none => rw [e] at w; exact w.elim
      | some v =>
        rw [e] at w
        obtain ⟨u, h4, h5⟩ := re.2 i v e
        exact ⟨u, h4, w _ _ _ .refl rh h5⟩
  · cases h
theorem s_non : Snd T R .non := by
  have pe : ∀ {X : Cx} {c : Ct} {k : Ck} {W : WX} {p : Expr}, Gd X c T R k → Takes X W → chkE k .non p = true → PE X p (SE c W (evE T R .non)) := fun {X c k W p} G tk h => by
    simp only [chkE, ck, CkR.of] at h
    split at h
    · exact pe_imp pe_non fun σ H Q ⟨ρ, h, μ, re, rh, w⟩ => w _ _ _ .refl rh .non
    · cases h
  refine ⟨pe, fun _ _ h => absurd h Bool.false_ne_true, fun _ _ h => absurd h Bool.false_ne_true, fun {X c k W p} G tk h => ?_, fun _ _ h => absurd h Bool.false_ne_true, fun _ _ h => absurd h Bool.false_ne_true, fun {X c k W l} G tk h => ?_, fun {X c k W l} G tk h => ?_, fun G tk h _ => ?_, fun _ _ h => absurd h Bool.false_ne_true⟩
  · have h : (plainT p && chkE k .non p) = true := h
    rw [Bool.and_eq_true] at h
    exact test_of h.1 (pe G tk h.2)
  · match l, h with
    | [p], h =>
      have h : (plainT p && chkE k .non p) = true := h
      rw [Bool.and_eq_true] at h
      exact pts_one (test_of h.1 (pe G tk h.2))
    | [], h => exact absurd h Bool.false_ne_true
    | _ :: _ :: _, h => exact absurd h Bool.false_ne_true
  · match l, h with
    | none, _ => exact po_imp po_none fun σ H Q ⟨ρ, h, μ, re, rh, w⟩ => w _ _ _ .refl rh rfl
    | some _, h => exact absurd h Bool.false_ne_true
  · exact iter_of G.K (pe G tk h)
theorem s_bl (b : Bool) : Snd T R (.bl b) := by
  refine .of (fun {X c k W p} G tk h => ?_) (fun _ _ h => absurd h Bool.false_ne_true) (fun _ _ => rfl) (fun _ _ => rfl) (fun _ _ => rfl) (fun _ _ _ => rfl) (fun _ _ => rfl) (fun _ _ => rfl) (fun _ _ => rfl) (fun _ _ => rfl) (fun _ => rfl) (fun _ => rfl) (fun _ => rfl) (fun _ => rfl)
  simp only [chkE, ck, CkR.of] at h
  split at h
  · have h := eq_of_beq h
    subst h
    exact pe_imp pe_bl fun σ H Q ⟨ρ, h, μ, re, rh, w⟩ => w _ _ _ .refl rh (.bl b)
  · cases h
theorem s_int (b : Int) : Snd T R (.int b) := by
  refine .of (fun {X c k W p} G tk h => ?_) (fun _ _ h => absurd h Bool.false_ne_true) (fun _ _ => rfl) (fun _ _ => rfl) (fun _ _ => rfl) (fun _ _ _ => rfl) (fun _ _ => rfl) (fun _ _ => rfl) (fun _ _ => rfl) (fun _ _ => rfl) (fun _ => rfl) (fun _ => rfl) (fun _ => rfl) (fun _ => rfl)
  simp only [chkE, ck, CkR.of] at h
  split at h
  · have h := eq_of_beq h
    subst h
    exact pe_imp pe_int fun σ H Q ⟨ρ, h, μ, re, rh, w⟩ => w _ _ _ .refl rh (.int b)
  · cases h
theorem s_str (b : Str) : Snd T R (.str b) := by
  refine .of (fun {X c k W p} G tk h => ?_) (fun _ _ h => absurd h Bool.false_ne_true) (fun _ _ => rfl) (fun _ _ => rfl) (fun _ _ => rfl) (fun _ _ _ => rfl) (fun _ _ => rfl) (fun _ _ => rfl) (fun _ _ => rfl) (fun _ _ => rfl) (fun _ => rfl) (fun _ => rfl) (fun _ => rfl) (fun _ => rfl)
  simp only [chkE, ck, CkR.of] at h
  split at h
  · simp only [Bool.and_eq_true, decide_eq_true_eq] at h
    obtain ⟨⟨h1, h2⟩, h3⟩ := h
    subst h1
    exact pe_imp pe_str fun σ H Q ⟨ρ, h, μ, re, rh, w⟩ => w _ _ _ .refl rh (.str b h2 (by rw [sizeLine_eq]; omega))
  · cases h
theorem s_glb (x : Str) : Snd T R (.glb x) := by
  refine .of (fun {X c k W p} G tk h => ?_) (fun _ _ h => absurd h Bool.false_ne_true) (fun _ _ => rfl) (fun _ _ => rfl) (fun _ _ => rfl) (fun _ _ _ => rfl) (fun _ _ => rfl) (fun _ _ => rfl) (fun _ _ => rfl) (fun _ _ => rfl) (fun _ => rfl) (fun _ => rfl) (fun _ => rfl) (fun _ => rfl)
  simp only [chkE, ck, CkR.of] at h
  split at h
  · simp only [Bool.and_eq_true, decide_eq_true_eq] at h
    obtain ⟨⟨h1, h2⟩, h3⟩ := h
    subst h1
    rw [G.sc] at h2
    obtain ⟨d1, d2, _⟩ := dbg_of h3
    cases e : T.glb x with
    | none =>
      refine ⟨fun pins s σ H Q I ⟨ρ, h, μ, re, rh, w⟩ => ?_⟩
      unfold wp at w
      simp only [evE, ev, EvR.of, tbl1, e] at w
    | some v =>
      obtain ⟨V, u, h4, h5, h6⟩ := G.glb x v e
      refine pe_imp (pe_glob (gl_of h2) h4 h5 d1) fun σ H Q ⟨ρ, h, μ, re, rh, w⟩ => ?_
      unfold wp at w
      simp only [evE, ev, EvR.of, tbl1, e] at w
      exact w _ _ _ .refl rh (h6 H μ)
  · cases h

def plain_args : Unit := ()
/-- the parts' places of an ordinary term -/
theorem Snd.plain {e : E} {f : Ck → Expr → Bool} {g : Ck → Expr → Bool} {m : AEnv → M AV} (h1 : ck e = CkR.of f g) (h2 : ev T R e = EvR.of m)
    (pe : ∀ {X : Cx} {c : Ct} {k : Ck} {W : WX} {p : Expr}, Gd X c T R k → Takes X W → f k p = true → PE X p (SE c W m))
    (po : ∀ {X : Cx} {c : Ct} {k : Ck} {W : WX} {p : Expr}, Gd X c T R k → Takes X W → g k p = true → PE X p (SE c W (evE T R (.own e)))) : Snd T R e := by
  refine .of (fun {X c k W p} G tk h => ?_) (fun {X c k W p} G tk h => ?_) (fun _ _ => by show (ck e).a _ _ = _; rw [h1]; rfl) (fun _ _ => by show (ck e).v _ _ = _; rw [h1]; rfl) (fun _ _ => by show (ck e).u _ _ = _; rw [h1]; rfl) (fun _ _ _ => by show (ck e).l _ _ _ = _; rw [h1]; rfl)
    (fun _ _ => by show (ck e).t _ _ = (_ && (ck e).e _ _); rw [h1]; rfl) (fun k l => ?_) (fun k l => ?_) (fun _ _ => by show (ck e).i _ _ = (ck e).e _ _; rw [h1]; rfl)
    (fun _ => by show (ev T R e).t _ = bnd ((ev T R e).e _) _; rw [h2]; rfl) (fun _ => by show (ev T R e).c _ = (ev T R e).t _; rw [h2]; rfl) (fun _ => by show (ev T R e).p _ = bnd ((ev T R e).e _) _; rw [h2]; rfl) (fun _ => by show (ev T R e).i _ = bnd ((ev T R e).e _) _; rw [h2]; rfl)
  · have h : (ck e).e k p = true := h
    rw [h1] at h
    show PE X p (SE c W (ev T R e).e)
    rw [h2]
    exact pe G tk h
  · have h : (ck e).o k p = true := h
    rw [h1] at h
    exact po G tk h
  · show (ck e).c k l = match l with | [p] => (ck e).t k p | _ => false
    rw [h1]
    match l with
    | [p] => rfl
    | [] => rfl
    | _ :: _ :: _ => rfl
  · show (ck e).p k l = match l with | some p => (ck e).e k p | none => false
    rw [h1]
    cases l <;> rfl
theorem s_tup {es : E} (a : Snd T R es) : Snd T R (.tup es) := by
  refine .plain rfl rfl (fun {X c k W p} G tk h => ?_) (fun _ _ h => absurd h Bool.false_ne_true)
  split at h
  · refine pe_imp (pe_tupF (a.pa G tk h)) fun σ H Q ⟨ρ, h, μ, re, rh, w⟩ => ?_
    refine (step re rh w).mono fun xs H1 ⟨h1, μ1, vs, x, re1, rh1, ra, w1⟩ => ?_
    have ra : RVs c H1 μ1 xs vs := ra
    split at w1
    · rename_i hz
      have hl : xs.length ≤ sizeLine := by rw [ra.length, ← big_eq]; exact hz
      exact ⟨hl, fun t o ht hd => okP.new w1 rh1 ht (.tup upd_same hd (rh1.free ht) hl (ra.mono (rh1.ext ht)))⟩
    · exact w1.elim
  · cases h
theorem s_lst {es : E} (a : Snd T R es) : Snd T R (.lst es) := by
  refine .plain rfl rfl (fun {X c k W p} G tk h => ?_) (fun {X c k W p} G tk h => ?_)
  · split at h
    · refine pe_imp (pe_lst (a.pa G tk h)) fun σ H Q ⟨ρ, h, μ, re, rh, w⟩ => ?_
      refine (step re rh w).mono fun xs H1 ⟨h1, μ1, vs, x, re1, rh1, ra, w1⟩ => ?_
      have ra : RVs c H1 μ1 xs vs := ra
      split at w1
      · rename_i hz
        have hl : xs.length ≤ sizeLine := by rw [ra.length, ← big_eq]; exact hz
        exact ⟨hl, fun t ht => okL.new (own := false) w1 rh1 ht hl ra⟩
      · exact w1.elim
    · cases h
  · split at h
    · refine pe_imp (pe_lst (a.pa G tk h)) fun σ H Q ⟨ρ, h, μ, re, rh, w⟩ => ?_
      have w : wp (bnd (bnd ((ev T R es).a ρ) fun vs => if vs.length ≤ big then ret (AV.lst vs) else stuck) ownK) (okP c H μ Q) (exP c H μ fun cls d H' => W cls d σ H') h := w
      rw [bnd_assoc] at w
      refine (step re rh w).mono fun xs H1 ⟨h1, μ1, vs, x, re1, rh1, ra, w1⟩ => ?_
      have ra : RVs c H1 μ1 xs vs := ra
      split at w1
      · rename_i hz
        have hl : xs.length ≤ sizeLine := by rw [ra.length, ← big_eq]; exact hz
        exact ⟨hl, fun t ht => okL.new (own := true) w1 rh1 ht hl ra⟩
      · exact w1.elim
    · cases h
theorem s_bin (o : BO) {a b : E} (sa : Snd T R a) (sb : Snd T R b) : Snd T R (.bin o a b) := by
  refine .plain rfl rfl (fun {X c k W p} G tk h => ?_) (fun {X c k W p} G tk h => ?_)
  · split at h
    · simp only [Bool.and_eq_true] at h
      rw [BO.of_isOp h.1.1]
      refine pe_imp (pe_op (or_bin G.K o) (sa.pe G tk h.1.2) (sb.pe G tk h.2)) fun σ H Q ⟨ρ, h, μ, re, rh, w⟩ => ?_
      refine (step re rh w).mono fun x H1 ⟨h1, μ1, va, x1, re1, rh1, ra, w1⟩ => (step re1 rh1 w1).mono fun y H2 ⟨h2, μ2, vb, x2, re2, rh2, rb, w2⟩ => ?_
      obtain ⟨v, e, q⟩ := wp_lift w2
      exact ⟨h2, μ2, va, vb, v, rh2, RV.mono x2 ra, rb, e, q⟩
    · cases h
  · split at h
    · simp only [Bool.and_eq_true] at h
      rw [BO.of_isOp h.1.1]
      refine pe_imp (pe_op (or_binO (c := c) o) (sa.pe G tk h.1.2) (sb.pe G tk h.2)) fun σ H Q ⟨ρ, h, μ, re, rh, w⟩ => ?_
      have w : wp (bnd (bnd (evE T R a ρ) fun x => bnd (evE T R b ρ) fun y => lift fun h => binV h o x y) ownK) (okP c H μ Q) (exP c H μ fun cls d H' => W cls d σ H') h := w
      rw [bnd_assoc] at w
      refine (step re rh w).mono fun x H1 ⟨h1, μ1, va, x1, re1, rh1, ra, w1⟩ => ?_
      rw [bnd_assoc] at w1
      refine (step re1 rh1 w1).mono fun y H2 ⟨h2, μ2, vb, x2, re2, rh2, rb, w2⟩ => ?_
      rw [wp_bnd] at w2
      obtain ⟨v, e, q⟩ := wp_lift w2
      cases v with
      | lst xs => exact ⟨h2, μ2, va, vb, xs, rh2, RV.mono x2 ra, rb, e, q⟩
      | _ => exact q.elim
    · cases h
theorem s_neg {a : E} (sa : Snd T R a) : Snd T R (.neg a) := by
  refine .plain rfl rfl (fun {X c k W p} G tk h => ?_) (fun _ _ h => absurd h Bool.false_ne_true)
  split at h
  · refine pe_imp (pe_un un_neg (sa.pe G tk h)) fun σ H Q ⟨ρ, h, μ, re, rh, w⟩ => ?_
    refine (step re rh w).mono fun x H1 ⟨h1, μ1, va, x1, re1, rh1, ra, w1⟩ => ?_
    have ra : RV c H1 μ1 x va := ra
    cases ra with
    | int i => exact ⟨i, rfl, w1 _ _ _ .refl rh1 (.int _)⟩
    | _ => exact w1.elim
  · cases h
theorem un65 {X : Cx} {c : Ct} {k : Ck} (G : Gd X c T R k) : X.A.units + 66 < cLine := by have := G.un; omega
theorem s_cmp (o : CO) {a b : E} (sa : Snd T R a) (sb : Snd T R b) : Snd T R (.cmp o a b) := by
  have run : ∀ {X : Cx} {c : Ct} {W : WX} {σ : L2.St} {H : Hp} {Q : V → Hp → Prop}, SE c W (evE T R (.cmp o a b)) σ H Q → tOp (rBin c fun h a b => (cmpV h o a b).map .bl) (SE c W (evE T R a)) (SE c W (evE T R b)) σ H Q := fun {X c W σ H Q} ⟨ρ, h, μ, re, rh, w⟩ => by
    refine (step re rh w).mono fun x H1 ⟨h1, μ1, va, x1, re1, rh1, ra, w1⟩ => (step re1 rh1 w1).mono fun y H2 ⟨h2, μ2, vb, x2, re2, rh2, rb, w2⟩ => ?_
    obtain ⟨v, e, q⟩ := wp_lift w2
    exact ⟨h2, μ2, va, vb, v, rh2, RV.mono x2 ra, rb, e, q⟩
  have pe : ∀ {X : Cx} {c : Ct} {k : Ck} {W : WX} {p : Expr}, Gd X c T R k → Takes X W → chkE k (.cmp o a b) p = true → PE X p (SE c W (evE T R (.cmp o a b))) := fun {X c k W p} G tk h => by
    simp only [chkE, ck, CkR.test, CkR.of] at h
    split at h
    · simp only [Bool.and_eq_true] at h
      obtain ⟨⟨⟨h1, h2⟩, h3⟩, h4⟩ := h
      rw [CO.of_isOp h1]
      exact pe_imp (pe_cmpR (or_cmp G.K G.w (un65 G) o) (sa.pe G tk h3) (sb.pe G tk h4) (mark_plain h2)) fun σ H Q w => run (X := X) w
    · cases h
  have pt : ∀ {X : Cx} {c : Ct} {k : Ck} {W : WX} {p : Expr}, Gd X c T R k → Takes X W → chkT k (.cmp o a b) p = true → PT X p (SB c W (evT T R (.cmp o a b))) := fun {X c k W p} G tk h => by
    simp only [chkT, ck, CkR.test, CkR.of] at h
    split at h
    · simp only [Bool.and_eq_true] at h
      obtain ⟨⟨⟨h1, h2⟩, h3⟩, h4⟩ := h
      rw [CO.of_isOp h1]
      refine pt_imp (pt_cmpR (or_cmp G.K G.w (un65 G) o) (sa.pe G tk h3) (sb.pe G tk h4) (mark_plain h2)) fun σ H Q ⟨ρ, h, μ, re, rh, w⟩ => run (X := X) ?_
      have w : wp (bnd (evE T R (.cmp o a b) ρ) fun v => match v with | .bl b => ret b | _ => stuck) (okG c REq H μ Q) (exP c H μ fun cls d H' => W cls d σ H') h := w
      refine (step (R := RVg c) re rh w).mono fun x H1 ⟨h1, μ1, va, x1, re1, rh1, ra, w1⟩ => ?_
      have ra : RV c H1 μ1 x va := ra
      cases ra with
      | bl i => exact ⟨i, rfl, w1 _ _ _ .refl rh1 rfl⟩
      | _ => exact w1.elim
    · cases h
  refine ⟨pe, fun _ _ h => absurd h Bool.false_ne_true, fun _ _ h => absurd h Bool.false_ne_true, pt, fun _ _ h => absurd h Bool.false_ne_true, fun _ _ h => absurd h Bool.false_ne_true, fun {X c k W l} G tk h => ?_, fun {X c k W l} G tk h => ?_, fun G tk h _ => iter_of G.K (pe G tk h), fun _ _ h => absurd h Bool.false_ne_true⟩
  · match l, h with
    | [p], h => exact pts_one (pt G tk h)
    | [], h => exact absurd h Bool.false_ne_true
    | _ :: _ :: _, h => exact absurd h Bool.false_ne_true
  · match l, h with
    | none, h => exact absurd h Bool.false_ne_true
    | some _, h => exact part_of (pe G tk h)
end
end Z

set_option Elab.async false
set_option linter.all false
set_option maxRecDepth 100000
set_option autoImplicit false
set_option maxHeartbeats 1000000
/-! ZI: expressions, further terms. -/
namespace Z
open PySem PySem.Spec PyProof.Rows L2
section
variable {T : Tb} {R : Rec}
/-- a term that is no value: only parts, operands or links -/
theorem Snd.rows {e : E} (hE : ∀ k p, chkE k e p = false) (hO : ∀ k p, chkO k e p = false) (hT : ∀ k p, chkT k e p = false) (hP : ∀ k l, chkP k e l = false)
    (pa : ∀ {X : Cx} {c : Ct} {k : Ck} {W : WX} {l : List Expr}, Gd X c T R k → Takes X W → chkA k e l = true → PA X l (SA c W (evA T R e)))
    (pv : ∀ {X : Cx} {c : Ct} {k : Ck} {W : WX} {l : List Expr} {pos : Pos}, Gd X c T R k → Takes X W → chkV k e l = true → PE X (.BoolOp .And l pos) (SE c W (evAnd T R e)) ∧ PE X (.BoolOp .Or l pos) (SE c W (evOr T R e)))
    (pu : ∀ {X : Cx} {c : Ct} {k : Ck} {W : WX} {l : List Expr} {pos : Pos}, Gd X c T R k → Takes X W → chkU k e l = true → PW X (.BoolOp .And l pos) (SB c W (evTA T R e)) ∧ PW X (.BoolOp .Or l pos) (SB c W (evTO T R e)))
    (pl : ∀ {X : Cx} {c : Ct} {k : Ck} {W : WX} {ops : List CmpOp} {rs : List Expr}, Gd X c T R k → Takes X W → chkL k e ops rs = true → rs.all notSet = true ∧ LkE X c W (evCh T R e) ops rs)
    (pc : ∀ {X : Cx} {c : Ct} {k : Ck} {W : WX} {l : List Expr}, Gd X c T R k → Takes X W → chkC k e l = true → PTs X l (SB c W (evC T R e)))
    (pi : ∀ {X : Cx} {c : Ct} {k : Ck} {W : WX} {p tg : Expr}, Gd X c T R k → Takes X W → chkI k e p = true → PI X tg p (SI c W (evI T R e))) : Snd T R e :=
  ⟨fun {X c k W p} _ _ h => (by rw [hE] at h; cases h), pa, pv, fun {X c k W p} _ _ h => (by rw [hT] at h; cases h), pu, pl, pc, fun {X c k W p} _ _ h => (by rw [hP] at h; cases h), fun G tk h _ => pi G tk h, fun {X c k W p} _ _ h => (by rw [hO] at h; cases h)⟩
theorem of_rows {k : Ck} : (CkR.of (fun _ _ => false)).e k = fun _ => false := rfl
theorem s_nil : Snd T R .nil := by
  refine .rows (fun _ _ => rfl) (fun _ _ => rfl) (fun _ p => by show (plainT p && false) = false; rw [Bool.and_false]) (fun _ l => by cases l <;> rfl) (fun {X c k W l} G tk h => ?_) (fun _ _ h => absurd h Bool.false_ne_true) (fun _ _ h => absurd h Bool.false_ne_true)
    (fun _ _ h => absurd h Bool.false_ne_true) (fun {X c k W l} G tk h => ?_) (fun _ _ h => absurd h Bool.false_ne_true)
  · match l, h with
    | [], _ => exact pa_imp pa_nil fun σ H Q ⟨ρ, h, μ, re, rh, w⟩ => w _ _ _ .refl rh .nil
    | _ :: _, h => exact absurd h Bool.false_ne_true
  · match l, h with
    | [], _ => exact pts_imp pts_nil fun σ H Q ⟨ρ, h, μ, re, rh, w⟩ => w _ _ _ .refl rh rfl
    | _ :: _, h => exact absurd h Bool.false_ne_true
theorem s_star {e es : E} (a : Snd T R e) (b : Snd T R es) : Snd T R (.star e es) := by
  refine .rows (fun _ _ => rfl) (fun _ _ => rfl) (fun _ p => by show (plainT p && false) = false; rw [Bool.and_false]) (fun _ l => by cases l <;> rfl) (fun {X c k W l} G tk h => ?_) (fun _ _ h => absurd h Bool.false_ne_true) (fun _ _ h => absurd h Bool.false_ne_true)
    (fun _ _ h => absurd h Bool.false_ne_true) (fun {X c k W l} G tk h => ?_) (fun _ _ h => absurd h Bool.false_ne_true)
  · simp only [chkA, ck] at h
    split at h
    · rename_i p pos ps
      rw [Bool.and_eq_true] at h
      refine pa_imp (StX.pa_star (a.pe G tk h.1) (b.pa G tk h.2)) fun σ H Q ⟨ρ, h, μ, re, rh, w⟩ => ?_
      refine (step re rh w).mono fun x H1 ⟨h1, μ1, va, x1, re1, rh1, ra, w1⟩ => ?_
      have ra : RV c H1 μ1 x va := ra
      rw [wp_bnd] at w1
      obtain ⟨us, e, q⟩ := wp_lift w1
      obtain ⟨p, vs, rfl, sq, l, r⟩ := getS_sq rh1 ra e
      rw [G.K] at sq
      refine ⟨p, vs, rfl, sq.symm, (step (R := RVsg c) re1 rh1 q).mono fun ys H2 ⟨h2, μ2, bs, x2, re2, rh2, rb, w2⟩ => ?_⟩
      have rb : RVs c H2 μ2 ys bs := rb
      exact w2 _ _ _ .refl rh2 ((r.mono x2).append rb)
    · cases h
  · match l, h with
    | [p], h =>
      have h : (plainT p && false) = true := h
      rw [Bool.and_false] at h; cases h
    | [], h => exact absurd h Bool.false_ne_true
    | _ :: _ :: _, h => exact absurd h Bool.false_ne_true
theorem s_cons {e es : E} (a : Snd T R e) (b : Snd T R es) : Snd T R (.cons e es) := by
  refine .rows (fun _ _ => rfl) (fun _ _ => rfl) (fun _ p => by show (plainT p && false) = false; rw [Bool.and_false]) (fun _ l => by cases l <;> rfl) (fun {X c k W l} G tk h => ?_) (fun {X c k W l pos} G tk h => ?_) (fun {X c k W l pos} G tk h => ?_)
    (fun _ _ h => absurd h Bool.false_ne_true) (fun {X c k W l} G tk h => ?_) (fun _ _ h => absurd h Bool.false_ne_true)
  · simp only [chkA, ck] at h
    split at h
    · rename_i p ps
      simp only [Bool.and_eq_true] at h
      refine pa_imp (pa_cons (a.pe G tk h.1.2) (b.pa G tk h.2) (star_cons h.1.1)) fun σ H Q ⟨ρ, h, μ, re, rh, w⟩ => ?_
      refine (step re rh w).mono fun x H1 ⟨h1, μ1, va, x1, re1, rh1, ra, w1⟩ => (step re1 rh1 w1).mono fun ys H2 ⟨h2, μ2, bs, x2, re2, rh2, rb, w2⟩ => ?_
      exact w2 _ _ _ .refl rh2 (.cons (RV.mono x2 ra) rb)
    · cases h
  · simp only [chkV, ck] at h
    split at h
    · rename_i p
      simp only [Bool.and_eq_true] at h
      have en : es = .nil := by cases es <;> first | rfl | (exact absurd h.1 Bool.false_ne_true)
      subst en
      exact ⟨pe_one (a.pe G tk h.2), pe_one (a.pe G tk h.2)⟩
    · rename_i p q ps
      simp only [Bool.and_eq_true] at h
      have hn : isNil es = false := by have := h.1.1; cases hh : isNil es <;> simp_all
      obtain ⟨b1, b2⟩ := b.pv (pos := pos) G tk h.2
      have e1 : evAnd T R (.cons e es) = fun ρ => bnd (evE T R e ρ) fun v => match v with | .bl true => evAnd T R es ρ | .bl false => ret (.bl false) | _ => stuck := by
        cases es <;> first | rfl | (simp [isNil] at hn; done)
      have e2 : evOr T R (.cons e es) = fun ρ => bnd (evE T R e ρ) fun v => match v with | .bl false => evOr T R es ρ | .bl true => ret (.bl true) | _ => stuck := by
        cases es <;> first | rfl | (simp [isNil] at hn; done)
      rw [e1, e2]
      refine ⟨pe_imp (pe_and (a.pe G tk h.1.2) b1) fun σ H Q ⟨ρ, h, μ, re, rh, w⟩ => ?_, pe_imp (pe_or (a.pe G tk h.1.2) b2) fun σ H Q ⟨ρ, h, μ, re, rh, w⟩ => ?_⟩
      · refine (step re rh w).mono fun x H1 ⟨h1, μ1, va, x1, re1, rh1, ra, w1⟩ => ?_
        have ra : RV c H1 μ1 x va := ra
        cases ra with
        | bl i =>
          refine ⟨i, rfl, ?_⟩
          cases i with
          | true => exact ⟨ρ, h1, μ1, re1, rh1, w1⟩
          | false => exact w1 _ _ _ .refl rh1 (.bl _)
        | _ => exact w1.elim
      · refine (step re rh w).mono fun x H1 ⟨h1, μ1, va, x1, re1, rh1, ra, w1⟩ => ?_
        have ra : RV c H1 μ1 x va := ra
        cases ra with
        | bl i =>
          refine ⟨i, rfl, ?_⟩
          cases i with
          | false => exact ⟨ρ, h1, μ1, re1, rh1, w1⟩
          | true => exact w1 _ _ _ .refl rh1 (.bl _)
        | _ => exact w1.elim
    · cases h
  · simp only [chkU, ck] at h
    split at h
    · rename_i p
      simp only [Bool.and_eq_true] at h
      have en : es = .nil := by cases es <;> first | rfl | (exact absurd h.1 Bool.false_ne_true)
      subst en
      exact ⟨pw_and1 (a.pt G tk h.2), pw_or1 (a.pt G tk h.2)⟩
    · rename_i p q ps
      simp only [Bool.and_eq_true] at h
      have hn : isNil es = false := by have := h.1.1; cases hh : isNil es <;> simp_all
      obtain ⟨b1, b2⟩ := b.pu (pos := pos) G tk h.2
      have e1 : evTA T R (.cons e es) = fun ρ => bnd (evT T R e ρ) fun b => if b = true then evTA T R es ρ else ret false := by
        cases es <;> first | rfl | (simp [isNil] at hn; done)
      have e2 : evTO T R (.cons e es) = fun ρ => bnd (evT T R e ρ) fun b => if b = true then ret true else evTO T R es ρ := by
        cases es <;> first | rfl | (simp [isNil] at hn; done)
      rw [e1, e2]
      refine ⟨pw_imp (pw_and (a.pt G tk h.1.2) b1) fun σ H Q ⟨ρ, h, μ, re, rh, w⟩ => ?_, pw_imp (pw_or (a.pt G tk h.1.2) b2) fun σ H Q ⟨ρ, h, μ, re, rh, w⟩ => ?_⟩
      · refine (step re rh w).mono fun x H1 ⟨h1, μ1, va, x1, re1, rh1, ra, w1⟩ => ?_
        have ra : x = va := ra
        subst ra
        cases x with
        | true => exact ⟨ρ, h1, μ1, re1, rh1, w1⟩
        | false => exact w1 _ _ _ .refl rh1 rfl
      · refine (step re rh w).mono fun x H1 ⟨h1, μ1, va, x1, re1, rh1, ra, w1⟩ => ?_
        have ra : x = va := ra
        subst ra
        cases x with
        | false => exact ⟨ρ, h1, μ1, re1, rh1, w1⟩
        | true => exact w1 _ _ _ .refl rh1 rfl
    · cases h
  · match l, h with
    | [p], h =>
      have h : (plainT p && false) = true := h
      rw [Bool.and_false] at h; cases h
    | [], h => exact absurd h Bool.false_ne_true
    | _ :: _ :: _, h => exact absurd h Bool.false_ne_true
/-- a term with a test of its own -/
theorem Snd.tested {e : E} {f g : Ck → Expr → Bool} {m : AEnv → M AV} {t : AEnv → M Bool} (h1 : ck e = CkR.test f g) (h2 : ev T R e = EvR.test m t)
    (pe : ∀ {X : Cx} {c : Ct} {k : Ck} {W : WX} {p : Expr}, Gd X c T R k → Takes X W → f k p = true → PE X p (SE c W m))
    (pt : ∀ {X : Cx} {c : Ct} {k : Ck} {W : WX} {p : Expr}, Gd X c T R k → Takes X W → g k p = true → PT X p (SB c W t)) : Snd T R e := by
  have z : ∀ {X : Cx} {c : Ct} {k : Ck} {W : WX} {p : Expr}, Gd X c T R k → Takes X W → chkE k e p = true → PE X p (SE c W (evE T R e)) := fun {X c k W p} G tk h => by
    have h : (ck e).e k p = true := h
    rw [h1] at h
    show PE X p (SE c W (ev T R e).e)
    rw [h2]
    exact pe G tk h
  have zt : ∀ {X : Cx} {c : Ct} {k : Ck} {W : WX} {p : Expr}, Gd X c T R k → Takes X W → chkT k e p = true → PT X p (SB c W (evT T R e)) := fun {X c k W p} G tk h => by
    have h : (ck e).t k p = true := h
    rw [h1] at h
    show PT X p (SB c W (ev T R e).t)
    rw [h2]
    exact pt G tk h
  refine ⟨z, fun {X c k W l} _ _ h => ?_, fun {X c k W l pos} _ _ h => ?_, zt, fun {X c k W l pos} _ _ h => ?_, fun {X c k W o l} _ _ h => ?_, fun {X c k W l} G tk h => ?_, fun {X c k W l} G tk h => ?_, fun {X c k W p tg} G tk h _ => ?_, fun {X c k W l} _ _ h => ?_⟩
  · have h : (ck e).a k l = true := h
    rw [h1] at h; exact absurd h Bool.false_ne_true
  · have h : (ck e).v k l = true := h
    rw [h1] at h; exact absurd h Bool.false_ne_true
  · have h : (ck e).u k l = true := h
    rw [h1] at h; exact absurd h Bool.false_ne_true
  · have h : (ck e).l k o l = true := h
    rw [h1] at h; exact absurd h Bool.false_ne_true
  · have h : (ck e).c k l = true := h
    rw [h1] at h
    show PTs X l (SB c W (ev T R e).c)
    rw [h2]
    match l, h with
    | [p], h => exact pts_one (pt G tk h)
    | [], h => exact absurd h Bool.false_ne_true
    | _ :: _ :: _, h => exact absurd h Bool.false_ne_true
  · have h : (ck e).p k l = true := h
    rw [h1] at h
    show PO X l (SG c REq W (ev T R e).p)
    rw [h2]
    match l, h with
    | some p, h => exact part_of (pe G tk h)
    | none, h => exact absurd h Bool.false_ne_true
  · have h : (ck e).i k p = true := h
    rw [h1] at h
    show PI X tg p (SI c W (ev T R e).i)
    rw [h2]
    exact iter_of G.K (pe G tk h)
  · have h : (ck e).o k l = true := h
    rw [h1] at h; exact absurd h Bool.false_ne_true
theorem s_not {a : E} (sa : Snd T R a) : Snd T R (.not a) := by
  refine .tested rfl rfl (fun {X c k W p} G tk h => ?_) (fun {X c k W p} G tk h => ?_)
  · split at h
    · refine pe_imp (pe_not (sa.pe G tk h)) fun σ H Q ⟨ρ, h, μ, re, rh, w⟩ => ?_
      refine (step re rh w).mono fun x H1 ⟨h1, μ1, va, x1, re1, rh1, ra, w1⟩ => ?_
      have ra : RV c H1 μ1 x va := ra
      cases ra with
      | bl i => exact ⟨i, rfl, w1 _ _ _ .refl rh1 (.bl _)⟩
      | _ => exact w1.elim
    · cases h
  · split at h
    · refine pt_imp (pt_not (sa.pt G tk h)) fun σ H Q ⟨ρ, h, μ, re, rh, w⟩ => ?_
      refine (step re rh w).mono fun x H1 ⟨h1, μ1, va, x1, re1, rh1, ra, w1⟩ => ?_
      have ra : x = va := ra
      subst ra
      exact w1 _ _ _ .refl rh1 rfl
    · cases h
theorem s_band {a : E} (sa : Snd T R a) : Snd T R (.band a) := by
  refine .tested rfl rfl (fun {X c k W p} G tk h => ?_) (fun {X c k W p} G tk h => ?_)
  · split at h
    · exact (sa.pv G tk h).1
    · cases h
  · split at h
    · exact (sa.pu G tk h).1.pt
    · cases h
theorem s_bor {a : E} (sa : Snd T R a) : Snd T R (.bor a) := by
  refine .tested rfl rfl (fun {X c k W p} G tk h => ?_) (fun {X c k W p} G tk h => ?_)
  · split at h
    · exact (sa.pv G tk h).2
    · cases h
  · split at h
    · exact (sa.pu G tk h).2.pt
    · cases h
theorem s_ite {t a b : E} (st : Snd T R t) (sa : Snd T R a) (sb : Snd T R b) : Snd T R (.ite t a b) := by
  refine .plain rfl rfl (fun {X c k W p} G tk h => ?_) (fun _ _ h => absurd h Bool.false_ne_true)
  split at h
  · simp only [Bool.and_eq_true] at h
    refine pe_imp (pe_ifExp (st.pt G tk h.1.1) (sa.pe G tk h.1.2) (sb.pe G tk h.2)) fun σ H Q ⟨ρ, h, μ, re, rh, w⟩ => ?_
    refine (step re rh w).mono fun x H1 ⟨h1, μ1, va, x1, re1, rh1, ra, w1⟩ => ?_
    have ra : x = va := ra
    subst ra
    cases x with
    | true => exact ⟨ρ, h1, μ1, re1, rh1, w1⟩
    | false => exact ⟨ρ, h1, μ1, re1, rh1, w1⟩
  · cases h
theorem s_idx {a b : E} (sa : Snd T R a) (sb : Snd T R b) : Snd T R (.idx a b) := by
  refine .plain rfl rfl (fun {X c k W p} G tk h => ?_) (fun _ _ h => absurd h Bool.false_ne_true)
  split at h
  · simp only [Bool.and_eq_true] at h
    refine pe_imp (pe_ix (ir_ix G.K G.w (un65 G)) (sa.pe G tk h.1.2) (sb.pe G tk h.2) (sub_plain h.1.1)) fun σ H Q ⟨ρ, h, μ, re, rh, w⟩ => ?_
    refine (step re rh w).mono fun x H1 ⟨h1, μ1, va, x1, re1, rh1, ra, w1⟩ => (step re1 rh1 w1).mono fun y H2 ⟨h2, μ2, vb, x2, re2, rh2, rb, w2⟩ => ?_
    obtain ⟨v, e, q⟩ := wp_lift w2
    exact ⟨h2, μ2, va, vb, v, rh2, RV.mono x2 ra, rb, e, q⟩
  · cases h
theorem s_slc {a lo hi : E} (sa : Snd T R a) (sl : Snd T R lo) (su : Snd T R hi) : Snd T R (.slc a lo hi) := by
  refine .plain rfl rfl (fun {X c k W p} G tk h => ?_) (fun {X c k W p} G tk h => ?_)
  · split at h
    · simp only [Bool.and_eq_true] at h
      refine pe_imp (pe_slice (sr_sl G.K false) (sa.pe G tk h.1.1) (sl.pp G tk h.1.2) (su.pp G tk h.2)) fun σ H Q ⟨ρ, h, μ, re, rh, w⟩ => ?_
      refine (step re rh w).mono fun x H1 ⟨h1, μ1, va, x1, re1, rh1, ra, w1⟩ => (step re1 rh1 w1).mono fun y H2 ⟨h2, μ2, vb, x2, re2, rh2, rb, w2⟩ => (step re2 rh2 w2).mono fun z H3 ⟨h3, μ3, vz, x3, re3, rh3, rz, w3⟩ => ?_
      have rb : y = vb := rb
      have rz : z = vz := rz
      subst rb rz
      obtain ⟨v, e, q⟩ := wp_lift w3
      exact ⟨h3, μ3, va, v, rh3, RV.mono (x2.trans x3) ra, e, q⟩
    · cases h
  · split at h
    · simp only [Bool.and_eq_true] at h
      refine pe_imp (pe_slice (sr_sl (c := c) G.K true) (sa.pe G tk h.1.1) (sl.pp G tk h.1.2) (su.pp G tk h.2)) fun σ H Q ⟨ρ, h, μ, re, rh, w⟩ => ?_
      have w : wp (bnd (bnd (evE T R a ρ) fun x => bnd (evP T R lo ρ) fun l => bnd (evP T R hi ρ) fun u => lift fun h => slV h x l u) ownK) (okP c H μ Q) (exP c H μ fun cls d H' => W cls d σ H') h := w
      rw [bnd_assoc] at w
      refine (step re rh w).mono fun x H1 ⟨h1, μ1, va, x1, re1, rh1, ra, w1⟩ => ?_
      rw [bnd_assoc] at w1
      refine (step re1 rh1 w1).mono fun y H2 ⟨h2, μ2, vb, x2, re2, rh2, rb, w2⟩ => ?_
      rw [bnd_assoc] at w2
      refine (step re2 rh2 w2).mono fun z H3 ⟨h3, μ3, vz, x3, re3, rh3, rz, w3⟩ => ?_
      have rb : y = vb := rb
      have rz : z = vz := rz
      subst rb rz
      rw [wp_bnd] at w3
      obtain ⟨v, e, q⟩ := wp_lift w3
      cases v with
      | lst xs => exact ⟨h3, μ3, va, _, rh3, RV.mono (x2.trans x3) ra, e, xs, rfl, q⟩
      | _ => exact q.elim
    · cases h
end
end Z

set_option Elab.async false
set_option linter.all false
set_option maxRecDepth 100000
set_option autoImplicit false
set_option maxHeartbeats 1000000
/-! ZJ: chains, calls, methods, comprehensions. -/
namespace Z
open PySem PySem.Spec PyProof.Rows L2
section
variable {T : Tb} {R : Rec}
/-- a value taken as a test -/
def boolK : AV → M Bool := fun v => match v with | .bl b => ret b | _ => stuck
theorem no_rows {e : E} (h : ∃ p, ck e = { CkR.of (fun _ _ => false) with l := p }) : ∀ k l, chkC k e l = false := fun k l => by
  obtain ⟨p, h⟩ := h
  show (ck e).c k l = false
  rw [h]
  match l with
  | [p] => show (plainT p && false) = false; rw [Bool.and_false]
  | [] => rfl
  | _ :: _ :: _ => rfl
theorem s_lnk (o : CO) {b l : E} (sb : Snd T R b) (sl : Snd T R l) : Snd T R (.lnk o b l) := by
  refine .rows (fun _ _ => rfl) (fun _ _ => rfl) (fun _ p => by show (plainT p && false) = false; rw [Bool.and_false]) (fun _ l => by cases l <;> rfl) (fun _ _ h => absurd h Bool.false_ne_true) (fun _ _ h => absurd h Bool.false_ne_true) (fun _ _ h => absurd h Bool.false_ne_true)
    (fun {X c k W ops rs} G tk h => ?_) (fun {X c k W l} _ _ h => by rw [no_rows ⟨_, rfl⟩] at h; cases h) (fun _ _ h => absurd h Bool.false_ne_true)
  simp only [chkL, ck] at h
  split at h
  · rename_i op r
    simp only [Bool.and_eq_true] at h
    obtain ⟨⟨⟨h1, h2⟩, h3⟩, h4⟩ := h
    have en : l = .nil := by cases l <;> first | rfl | (exact absurd h1 Bool.false_ne_true)
    subst en
    rw [CO.of_isOp h2]
    refine ⟨by simp [h3], fun pos pins s σ H x v a ρ h μ I rx re rh ra => ⟨fun Q w => ?_, fun Q w => ?_⟩⟩
    · refine chain_last (thn ((sb.pe G tk h4).run pins s σ H _ I (step re rh w)) fun u s1 ⟨y, H1, I1, ry, h1, μ1, vb, x1, re1, rh1, rb, w1⟩ => ?_)
      obtain ⟨z, e, q⟩ := wp_lift w1
      exact or_cmp G.K G.w (un65 G) o pins s1 σ H1 x y v u _ I1 rx ry ⟨h1, μ1, a, vb, z, rh1, ra.mono x1, rb, e, q⟩
    · have w : wp (bnd (bnd (evE T R b ρ) fun y => lift fun h => (cmpV h o a y).map .bl) boolK) (okG c REq H μ Q) (exP c H μ fun cls d H' => W cls d σ H') h := w
      rw [bnd_assoc] at w
      refine test_last (thn ((sb.pe G tk h4).run pins s σ H _ I (step re rh w)) fun u s1 ⟨y, H1, I1, ry, h1, μ1, vb, x1, re1, rh1, rb, w1⟩ => ?_)
      rw [wp_bnd] at w1
      obtain ⟨z, e, q⟩ := wp_lift w1
      have e' := e
      simp only [Option.map_eq_some_iff] at e'
      obtain ⟨t, _, rfl⟩ := e'
      have q : okG c REq H1 μ1 Q t h1 := q
      refine thn (or_cmp G.K G.w (un65 G) o pins s1 σ H1 x y v u (fun z H2 => ∃ k, z = .bl k ∧ Q k H2) I1 rx ry ⟨h1, μ1, a, vb, .bl t, rh1, ra.mono x1, rb, e, fun V H2 μ2 x2 r2 rv => ?_⟩) fun cv s2 ⟨z, H2, I2, rz, t', ez, q2⟩ => ?_
      · cases rv
        exact ⟨t, rfl, q t H2 μ2 x2 r2 rfl⟩
      · subst ez
        cases rz
        exact wpAny_truthy_bool ⟨H2, I2, q2⟩
  · rename_i op op2 os r r2 rs
    simp only [Bool.and_eq_true] at h
    obtain ⟨⟨⟨⟨h1, h2⟩, h3⟩, h4⟩, h5⟩ := h
    have hn : isNil l = false := by cases hh : isNil l <;> simp_all
    have ev1 : evCh T R (.lnk o b l) = fun x ρ => bnd (evE T R b ρ) fun y => bnd (lift fun h => cmpV h o x y) fun k => if k = true then evCh T R l y ρ else ret (.bl false) := by
      cases l <;> first | rfl | (simp [isNil] at hn; done)
    obtain ⟨hs, lk⟩ := sl.pl G tk h5
    rw [ev1, CO.of_isOp h2]
    refine ⟨by rw [List.all_cons, h3, hs]; rfl, fun pos pins s σ H x v a ρ h μ I rx re rh ra => ⟨fun Q w => ?_, fun Q w => ?_⟩⟩
    · show wpAny _ _ (compareChain pos v (o.op :: op2 :: os) (eval r X.env :: eval r2 X.env :: evalEach rs X.env)) _ _ s
      refine chain_link (thn ((sb.pe G tk h4).run pins s σ H _ I (step re rh w)) fun u s1 ⟨y, H1, I1, ry, h1, μ1, vb, x1, re1, rh1, rb, w1⟩ => ?_)
      rw [wp_bnd] at w1
      obtain ⟨t, e, q⟩ := wp_lift w1
      refine thn (or_cmp G.K G.w (un65 G) o pins s1 σ H1 x y v u (fun z H2 => z = .bl t ∧ ∃ μ2, Ext H1 μ1 H2 μ2 ∧ RH c H2 h1 μ2) I1 rx ry ⟨h1, μ1, a, vb, .bl t, rh1, ra.mono x1, rb, by show (cmpV h1 o a vb).map AV.bl = _; rw [e]; rfl, fun V H2 μ2 x2 r2 rv => ?_⟩) fun cv s2 ⟨z, H2, I2, rz, ez, μ2, x2, r2⟩ => ?_
      · cases rv
        exact ⟨rfl, μ2, x2, r2⟩
      · subst ez
        cases rz
        refine wpAny_truthy_bool ?_
        have q := wp_mono q (fun _ _ z => okG.later (R := RVg c) z x2) (fun _ _ z => exP.later z x2)
        cases t with
        | true => exact ite_tt ((lk pos pins s2 σ H2 y u vb ρ h1 μ2 I2 ry (re1.mono x2) r2 (RV.mono x2 rb)).1 Q q)
        | false => exact ite_ff ⟨.bl false, H2, I2, rfl, q _ _ _ .refl r2 (.bl _)⟩
    · show wpAny _ _ (testChain pos v (o.op :: op2 :: os) (eval r X.env :: eval r2 X.env :: evalEach rs X.env)) _ _ s
      have w : wp (bnd (bnd (evE T R b ρ) fun y => bnd (lift fun h => cmpV h o a y) fun k => if k = true then evCh T R l y ρ else ret (.bl false)) boolK) (okG c REq H μ Q) (exP c H μ fun cls d H' => W cls d σ H') h := w
      rw [bnd_assoc] at w
      refine test_link (thn ((sb.pe G tk h4).run pins s σ H _ I (step re rh w)) fun u s1 ⟨y, H1, I1, ry, h1, μ1, vb, x1, re1, rh1, rb, w1⟩ => ?_)
      rw [bnd_assoc, wp_bnd] at w1
      obtain ⟨t, e, q⟩ := wp_lift w1
      refine thn (or_cmp G.K G.w (un65 G) o pins s1 σ H1 x y v u (fun z H2 => z = .bl t ∧ ∃ μ2, Ext H1 μ1 H2 μ2 ∧ RH c H2 h1 μ2) I1 rx ry ⟨h1, μ1, a, vb, .bl t, rh1, ra.mono x1, rb, by show (cmpV h1 o a vb).map AV.bl = _; rw [e]; rfl, fun V H2 μ2 x2 r2 rv => ?_⟩) fun cv s2 ⟨z, H2, I2, rz, ez, μ2, x2, r2⟩ => ?_
      · cases rv
        exact ⟨rfl, μ2, x2, r2⟩
      · subst ez
        cases rz
        refine wpAny_truthy_bool ?_
        have q := wp_mono q (fun _ _ z => okG.later (R := REq) z x2) (fun _ _ z => exP.later z x2)
        cases t with
        | true => exact ite_tt ((lk pos pins s2 σ H2 y u vb ρ h1 μ2 I2 ry (re1.mono x2) r2 (RV.mono x2 rb)).2 Q q)
        | false => exact ite_ff ⟨H2, I2, q _ _ _ .refl r2 rfl⟩
  · cases h
theorem s_chain {a l : E} (sa : Snd T R a) (sl : Snd T R l) : Snd T R (.chain a l) := by
  have pe : ∀ {X : Cx} {c : Ct} {k : Ck} {W : WX} {p : Expr}, Gd X c T R k → Takes X W → chkE k (.chain a l) p = true → PE X p (SE c W (evE T R (.chain a l))) := fun {X c k W p} G tk h => by
    simp only [chkE, ck, CkR.test, CkR.of] at h
    split at h
    · rename_i q o1 o2 ops r1 r2 rs pos
      simp only [Bool.and_eq_true] at h
      obtain ⟨hs, lk⟩ := sl.pl G tk h.2
      refine ⟨fun pins s σ H Q I ⟨ρ, h0, μ, re, rh, w⟩ => ?_⟩
      refine Compare_chain (thn ((sa.pe G tk h.1).run pins s σ H _ I (step re rh w)) fun v s1 ⟨x, H1, I1, rx, h1, μ1, va, x1, re1, rh1, ra, w1⟩ => ?_) (marks_plain hs)
      exact (lk pos pins s1 σ H1 x v va ρ h1 μ1 I1 rx re1 rh1 ra).1 Q w1
    · cases h
  have pt : ∀ {X : Cx} {c : Ct} {k : Ck} {W : WX} {p : Expr}, Gd X c T R k → Takes X W → chkT k (.chain a l) p = true → PT X p (SB c W (evT T R (.chain a l))) := fun {X c k W p} G tk h => by
    simp only [chkT, ck, CkR.test, CkR.of] at h
    split at h
    · rename_i q o1 o2 ops r1 r2 rs pos
      simp only [Bool.and_eq_true] at h
      obtain ⟨hs, lk⟩ := sl.pl G tk h.2
      refine ⟨fun pins s σ H Q I ⟨ρ, h0, μ, re, rh, w⟩ => ?_⟩
      have w : wp (bnd (bnd (evE T R a ρ) fun x => evCh T R l x ρ) boolK) (okG c REq H μ Q) (exP c H μ fun cls d H' => W cls d σ H') h0 := w
      rw [bnd_assoc] at w
      refine isTrue_chain (thn ((sa.pe G tk h.1).run pins s σ H _ I (step re rh w)) fun v s1 ⟨x, H1, I1, rx, h1, μ1, va, x1, re1, rh1, ra, w1⟩ => ?_) (marks_plain hs)
      exact (lk pos pins s1 σ H1 x v va ρ h1 μ1 I1 rx re1 rh1 ra).2 Q w1
    · cases h
  refine ⟨pe, fun _ _ h => absurd h Bool.false_ne_true, fun _ _ h => absurd h Bool.false_ne_true, pt, fun _ _ h => absurd h Bool.false_ne_true, fun _ _ h => absurd h Bool.false_ne_true, fun {X c k W l} G tk h => ?_, fun {X c k W l} G tk h => ?_, fun G tk h _ => iter_of G.K (pe G tk h), fun _ _ h => absurd h Bool.false_ne_true⟩
  · match l, h with
    | [p], h => exact pts_one (pt G tk h)
    | [], h => exact absurd h Bool.false_ne_true
    | _ :: _ :: _, h => exact absurd h Bool.false_ne_true
  · match l, h with
    | none, h => exact absurd h Bool.false_ne_true
    | some _, h => exact part_of (pe G tk h)

/-! ### calls -/
theorem s_call (tr : Bool) (f : Str) {es : E} (a : Snd T R es) : Snd T R (.call tr f es) := by
  refine .plain rfl rfl (fun {X c k W p} G tk h => ?_) (fun _ _ h => absurd h Bool.false_ne_true)
  split at h
  · rename_i x xp q l pos
    simp only [Bool.and_eq_true, decide_eq_true_eq] at h
    obtain ⟨⟨⟨⟨⟨⟨⟨h1, h2⟩, h3⟩, h4⟩, h5⟩, h6⟩, h7⟩, h8⟩ := h
    subst h2
    rw [G.sc] at h3
    obtain ⟨fa, n, hm, hk, F⟩ := G.df f h5
    refine ⟨fun pins s σ H Q I ⟨ρ, h0, μ, re, rh, w⟩ => ?_⟩
    refine wpAny_Call_Name_kw (ld_glob I (gl_of h3) hm ?_ (dbg_of h4).1)
    refine PySem.W.callWith_K (h₀ := X.base) I.ok.mod.kin hk (thn ((a.pa G tk h8).run pos pins s σ H _ I (step re rh w)) fun us s1 ⟨vs, H1, I1, r, h1', μ1, as, x1, re1, rh1, ra, w1⟩ => ⟨I1.kIn, ?_⟩) (star_cons h6) (back_plain h7)
    have ra : RVs c H1 μ1 vs as := ra
    have hl : vs.length = n := by rw [ra.length]; exact F.ar _ _ _ (wp_some w1)
    exact F.run h1 G.gd tk I1 r ⟨hl, tr, h1', μ1, as, rh1, ra, w1⟩
  · rename_i x xp pos
    simp only [Bool.and_eq_true, decide_eq_true_eq] at h
    obtain ⟨⟨⟨⟨⟨h1, h2⟩, h3⟩, h4⟩, h5⟩, h6⟩ := h
    subst h2
    have en : es = .nil := by cases es <;> first | rfl | (exact absurd h6 Bool.false_ne_true)
    subst en
    rw [G.sc] at h3
    obtain ⟨fa, n, hm, hk, F⟩ := G.df f h5
    refine ⟨fun pins s σ H Q I ⟨ρ, h0, μ, re, rh, w⟩ => ?_⟩
    refine wpAny_Call_Name_kw (ld_glob I (gl_of h3) hm ?_ (dbg_of h4).1)
    have w : wp (R tr f []) (okP c H μ Q) (exP c H μ fun cls d H' => W cls d σ H') h0 := w
    have hl := F.ar _ _ _ (wp_some w)
    exact PySem.W.callWith_K0 I.kIn hk (F.run (us := []) h1 G.gd tk I .nil ⟨hl, tr, h0, μ, [], rh, .nil, w⟩)
  · cases h

/-! ### attributes, methods -/
theorem RO.insAt {c : Ct} {H : Hp} {μ : Mu} {h : AH} (rh : RH c H h μ) {n : Nat} {C : Str} {fs : List (Str × AV)} (e : h[n]? = some (.ins C fs)) {v : V} (r : RV c H μ v (.ref n)) :
    ∃ a Ca dx gs, v = .ref a ∧ μ.n[n]? = some a ∧ c.CA C = some Ca ∧ H a = some (.ins Ca dx gs) ∧ H dx = some (.own a) ∧ dx ∉ μ ∧ gs.map (·.1) = fs.map (·.1) ∧ RVs c H μ (gs.map (·.2)) (fs.map (·.2)) := by
  cases r with
  | ref hn =>
    obtain ⟨b, hb, ro⟩ := rh.thing _ _ e
    rw [hn] at hb
    cases hb
    cases ro with
    | ins hC ha hd hdn k q => exact ⟨_, _, _, _, rfl, hn, hC, ha, hd, hdn, k, q⟩
theorem look_rel {c : Ct} {H : Hp} {μ : Mu} {f : Str} : ∀ {gs : List (Str × V)} {fs : List (Str × AV)}, gs.map (·.1) = fs.map (·.1) → RVs c H μ (gs.map (·.2)) (fs.map (·.2)) →
    (∀ w, fs.lookup f = some w → ∃ v, gs.lookup f = some v ∧ RV c H μ v w) ∧ (fs.lookup f = none → gs.lookup f = none)
  | [], [], _, _ => ⟨fun _ e => by (cases e), fun _ => rfl⟩
  | [], _ :: _, e, _ => by cases e
  | _ :: _, [], e, _ => by cases e
  | (g, v) :: gs, (g', w) :: fs, e, r => by
    rw [List.map_cons, List.map_cons] at e r
    injection e with e1 e2
    have e1 : g = g' := e1
    subst e1
    cases r with
    | cons h t =>
    rw [List.lookup_cons, List.lookup_cons]
    cases z : f == g with
    | true => exact ⟨fun w ew => by cases ew; exact ⟨_, rfl, h⟩, fun z => by cases z⟩
    | false => exact look_rel e2 t
theorem put_fld {c : Ct} {H : Hp} {μ : Mu} {f : Str} {v : V} {w : AV} (rv : RV c H μ v w) : ∀ {gs : List (Str × V)} {fs : List (Str × AV)}, gs.map (·.1) = fs.map (·.1) → RVs c H μ (gs.map (·.2)) (fs.map (·.2)) →
    (putF f v gs).map (·.1) = (putA f w fs).map (·.1) ∧ RVs c H μ ((putF f v gs).map (·.2)) ((putA f w fs).map (·.2))
  | [], [], _, _ => ⟨rfl, .cons rv .nil⟩
  | [], _ :: _, e, _ => by cases e
  | _ :: _, [], e, _ => by cases e
  | (g, x) :: gs, (g', y) :: fs, e, r => by
    rw [List.map_cons, List.map_cons] at e r
    injection e with e1 e2
    have e1 : g = g' := e1
    subst e1
    cases r with
    | cons h t =>
    obtain ⟨i1, i2⟩ := put_fld rv e2 t
    unfold putF putA
    by_cases z : g = f
    · rw [if_pos z, if_pos z]
      exact ⟨by rw [List.map_cons, List.map_cons, e2, z], .cons rv t⟩
    · rw [if_neg z, if_neg z]
      exact ⟨by rw [List.map_cons, List.map_cons, i1], .cons h i2⟩
theorem s_fld (C f : Str) {a : E} (sa : Snd T R a) : Snd T R (.fld C f a) := by
  refine .plain rfl rfl (fun {X c k W p} G tk h => ?_) (fun _ _ h => absurd h Bool.false_ne_true)
  split at h
  · rename_i q x pos
    simp only [Bool.and_eq_true, decide_eq_true_eq] at h
    obtain ⟨⟨⟨h1, h2⟩, h3⟩, h4⟩ := h
    subst h1
    obtain ⟨Ca, g1, g2, g3⟩ := G.fd C f h3
    refine pe_imp (pe_fld (sa.pe G tk h4) (attr_plain h2)) fun σ H Q ⟨ρ, h, μ, re, rh, w⟩ => ?_
    refine (step re rh w).mono fun x H1 ⟨h1, μ1, va, x1, re1, rh1, ra, w1⟩ => ?_
    obtain ⟨v, e, q⟩ := wp_lift w1
    have ra : RV c H1 μ1 x va := ra
    unfold fldV at e
    split at e
    · split at e
      · rename_i n _ D fs hn
        split at e
        · rename_i hD
          subst hD
          obtain ⟨a', Ca', dx, gs, rfl, hm, hC, ha, hd, hdn, km, rr⟩ := RO.insAt rh1 hn ra
          rw [g1] at hC
          cases hC
          obtain ⟨v', e1, rv⟩ := (look_rel km rr).1 v e
          exact ⟨a', Ca, dx, gs, v', rfl, ha, g2, g3, e1, q _ _ _ .refl rh1 rv⟩
        · cases e
      · cases e
    · cases e
  · cases h
theorem s_bf (f : Bf) {es : E} (a : Snd T R es) : Snd T R (.bf f es) := by
  have gen : ∀ {X : Cx} {c : Ct} {k : Ck} {W : WX} {x : Str} {xp pos : Pos} {q : Expr} {l : List Expr} {r : List V → Hp → VK → Prop} {t : TE}, Gd X c T R k → Takes X W → (!f.calm || k.cm) = true → decide (f.word = x) = true → isGl k.sc x = true → k.B x = true → plainE q = true → l.all plainE = true → chkA k es (q :: l) = true →
      CallR X f.val r → (∀ σ H Q, t σ H Q → SA c W (evA T R es) σ H fun vs H1 => r vs H1 Q) → PE X (.Call (.Name x xp) (q :: l) [] pos) t := fun {X c k W x xp pos q l r t} G tk h1 h2 h3 h4 h5 h6 h7 hr ht => by
    have h2 := of_decide_eq_true h2
    subst h2
    rw [G.sc] at h3
    obtain ⟨b1, b2, b3⟩ := bf_boot f
    have tyc : ∀ T', f.val = .type T' → PE X (.Call (.Name f.word xp) (q :: l) [] pos) t := fun T' e => by
      rw [e] at b1 hr
      exact pe_imp (pe_callTy hr (gl_of h3) (G.blt _ h4) b1 (a.pa G tk h7) b2 b3 (star_cons h5) (back_plain h6)) ht
    have bic : ∀ T', f.val = .builtin T' → PE X (.Call (.Name f.word xp) (q :: l) [] pos) t := fun T' e => by
      rw [e] at b1 hr
      exact pe_imp (pe_callB hr (gl_of h3) (G.blt _ h4) b1 (a.pa G tk h7) b2 b3 (star_cons h5) (back_plain h6)) ht
    cases f <;> first | exact bic _ rfl | exact tyc _ rfl
  refine .plain rfl rfl (fun {X c k W p} G tk h => ?_) (fun {X c k W p} G tk h => ?_)
  · split at h
    · simp only [Bool.and_eq_true] at h
      obtain ⟨⟨⟨⟨⟨⟨h1, h2⟩, h3⟩, h4⟩, h5⟩, h6⟩, h7⟩ := h
      have hc : f.calm = true → X.calm = true := fun z => G.cm (by rw [z] at h1; simpa using h1)
      refine gen G tk h1 h2 h3 h4 h5 h6 h7 (cr_bf G.K G.w G.un G.gd f hc) fun σ H Q ⟨ρ, h, μ, re, rh, w⟩ => ?_
      refine (step re rh w).mono fun vs H1 ⟨h1, μ1, as, x1, re1, rh1, ra, w1⟩ => ?_
      obtain ⟨v, e, q⟩ := wp_lift w1
      exact ⟨h1, μ1, as, v, rh1, ra, e, q⟩
    · cases h
  · rw [Bool.and_eq_true] at h
    obtain ⟨h0, h⟩ := h
    have h0 : f = .list ∨ f = .sorted := by simpa using h0
    dsimp only at h
    split at h
    · simp only [Bool.and_eq_true] at h
      obtain ⟨⟨⟨⟨⟨⟨h1, h2⟩, h3⟩, h4⟩, h5⟩, h6⟩, h7⟩ := h
      refine gen (r := rBf c f true) G tk h1 h2 h3 h4 h5 h6 h7 (cr_ownA G.K h0) fun σ H Q ⟨ρ, h, μ, re, rh, w⟩ => ?_
      have w : wp (bnd (bnd (evA T R es ρ) fun vs => lift fun h => bfV h f vs) ownK) (okP c H μ Q) (exP c H μ fun cls d H' => W cls d σ H') h := w
      rw [bnd_assoc] at w
      refine (step re rh w).mono fun vs H1 ⟨h1, μ1, as, x1, re1, rh1, ra, w1⟩ => ?_
      rw [wp_bnd] at w1
      obtain ⟨v, e, q⟩ := wp_lift w1
      cases v with
      | lst xs => exact ⟨h1, μ1, as, _, rh1, ra, e, xs, rfl, q⟩
      | _ => exact q.elim
    · cases h

/-! ### methods of built-in types -/
/-- where a method is found, and that it does what the interpreter tells -/
structure MdOn (X : Cx) (c : Ct) (m : Md) (tup : Bool) : Prop where
  on : ∃ T id, PlainAttrs T ∧ Slot T m.name id ∧ typeOf (.builtin id) = pure (.type "method_descriptor") ∧ T = (if tup then "tuple" else "list") ∧ MtR X id (rMd c m tup)
theorem md_on {X : Cx} {c : Ct} (hK : c.K = X.K) (hu : X.A.units + 130 < cLine) {m : Md} {tup : Bool} {a : AV} {h : AH} (e : mdPre h m a = some ()) (ht : (∃ ys, a = .tup ys) ↔ tup = true) : MdOn X c m tup := by
  cases tup with
  | true =>
    obtain ⟨ys, rfl⟩ := ht.mpr rfl
    cases m <;> first | (cases e; done) | exact ⟨_, _, PySem.F.plainAttrs_tuple, PySem.F.slot_tuple_index, PySem.F.type_tuple_index, rfl, mr_tindex hK hu⟩
  | false =>
    cases m with
    | append => exact ⟨_, _, PySem.F.plainAttrs_list, PySem.F.slot_list_append, PySem.F.type_list_append, rfl, mr_append⟩
    | extend => exact ⟨_, _, PySem.F.plainAttrs_list, PySem.F.slot_list_extend, PySem.F.type_list_extend, rfl, mr_extend hK⟩
    | pop => exact ⟨_, _, PySem.F.plainAttrs_list, PySem.F.slot_list_pop, PySem.F.type_list_pop, rfl, mr_pop⟩
    | index => exact ⟨_, _, PySem.F.plainAttrs_list, PySem.F.slot_list_index, PySem.F.type_list_index, rfl, mr_index hK hu⟩
    | get => cases e
    | update => cases e
/-- the object of a method call: a list or a tuple at an address -/
theorem md_type {X : Cx} {c : Ct} {pins : List (Addr × Obj)} {σ : L2.St} {H : Hp} {s : Shared} {h : AH} {μ : Mu} (hK : c.K = X.K) (I : Inv X pins σ H s) (rh : RH c H h μ) {x : V} {v : Value} {a : AV} {ys : List AV} {tup : Bool} (rx : RelV x v) (ra : RV c H μ x a) (e : getS h a = some ys) (ht : (∃ ys, a = .tup ys) ↔ tup = true) :
    s.TypeIs v (if tup then "tuple" else "list") ∧ ∀ p, v = .ref p → ∃ ob, s.heap.get? p = some ob ∧ ob.dict = none := by
  cases tup with
  | true =>
    obtain ⟨zs, rfl⟩ := ht.mpr rfl
    have obj : ∃ p o, x = .ref p ∧ s.heap.get? p = some o ∧ o.cls = .type "tuple" ∧ o.dict = none := by
      cases ra with
      | tup ha hd _ _ _ =>
        obtain ⟨e1, _, its, _, ob, e2, hc, _⟩ := I.hok _ _ ha
        rw [e1] at e2
        cases e2
        exact ⟨_, _, rfl, e1, hc, hd⟩
      | tupK ha _ _ =>
        obtain ⟨o, its, n, hk, hc, _, _, _, hd⟩ := ha
        rw [hK] at hk
        exact ⟨_, o, rfl, I.kIn _ _ hk, hc, hd⟩
    obtain ⟨p, o, rfl, e1, hc, hd⟩ := obj
    cases rx
    refine ⟨⟨o, e1, hc⟩, fun p' z => ?_⟩
    cases z
    exact ⟨o, e1, hd⟩
  | false =>
    have e4 : getL h a = some ys := by cases a <;> first | exact e | (have := ht.mp ⟨_, rfl⟩; cases this)
    obtain ⟨p, vs, rfl, sq, _, _⟩ := getL_sq rh ra e4
    rw [hK] at sq
    cases rx
    obtain ⟨its, _, pl, _⟩ := I.list sq
    refine ⟨pl.isList.typeIs, fun p' z => ?_⟩
    cases z
    obtain ⟨o, n, e, _, hd, _⟩ := pl
    exact ⟨o, e, hd⟩
theorem md_seq {m : Md} {a : AV} {h : AH} (e : mdPre h m a = some ()) : ∃ ys, getS h a = some ys := by
  by_cases ht : ∃ ys, a = .tup ys
  · obtain ⟨ys, rfl⟩ := ht
    exact ⟨ys, rfl⟩
  · have e2 : (getL h a).map (fun _ => ()) = some () := by
      cases m <;> first | (cases e; done) | (cases a <;> first | exact e | exact absurd ⟨_, rfl⟩ ht)
    simp only [Option.map_eq_some_iff] at e2
    obtain ⟨ys, e3, _⟩ := e2
    refine ⟨ys, ?_⟩
    cases a <;> first | exact e3 | exact absurd ⟨_, rfl⟩ ht
theorem isTup_ex (a : AV) : ∃ tup : Bool, (∃ ys, a = .tup ys) ↔ tup = true := by
  cases a <;> first | exact ⟨true, ⟨fun _ => rfl, fun _ => ⟨_, rfl⟩⟩⟩ | exact ⟨false, ⟨(fun ⟨_, z⟩ => AV.noConfusion z), (fun z => absurd z Bool.false_ne_true)⟩⟩
theorem few_plain {env : Env} {pos : Pos} {l : List Expr} (h : l.all plainE = true) (n : l.length < 20) :
    ((backTo pos (starEach l env)).all (fun x => !x.1) && (backToKw pos (keywordEach [] env)).all (fun x => x.1.isSome) && decide (l.length + ([] : List Keyword).length + (if ([] : List Keyword).isEmpty then 0 else 1) < 30)) = true := by
  rw [star_plain h]
  unfold backTo
  rw [List.map_map, List.all_map]
  simp only [Bool.and_eq_true]
  refine ⟨⟨List.all_eq_true.mpr fun _ _ => rfl, rfl⟩, decide_eq_true ?_⟩
  show l.length + 0 + 0 < 30
  omega
theorem wp_res {α : Type} {m : M α} {h : AH} {Q : α → AH → Prop} {E : Ex → AH → Prop} (w : wp m Q E h) : (∃ v h', m h = some (.ok v h') ∧ Q v h') ∨ ∃ x h', m h = some (.exc x h') := by
  unfold wp at w
  cases e : m h with
  | none => rw [e] at w; exact w.elim
  | some o =>
    rw [e] at w
    cases o with
    | ok v h' => exact .inl ⟨v, h', rfl, w⟩
    | exc x h' => exact .inr ⟨x, h', rfl⟩
theorem mdV_noexc {m : Md} {a : AV} {as : List AV} {h : AH} {x : Ex} {h' : AH} (e : mdV m a as h = some (.exc x h')) : False := by
  unfold mdV at e
  repeat' (split at e)
  all_goals first | cases e | (simp at e; done)
/-- a method call of an instance -/
theorem methCall_late {prog : Program} {w : World} {A : Around} {E : Value → Shared → Prop} {s : Shared} {env : Env} {o : Expr} {name : Str} {apos pos : Pos} {args : List Expr} {Q : Value → Shared → Prop} (hbase : attributeBase o name env (eval o env) = eval o env)
    (hfew : ((backTo pos (starEach args env)).all (fun x => !x.1) && (backToKw pos (keywordEach [] env)).all (fun x => x.1.isSome) && decide (args.length + ([] : List Keyword).length + (if ([] : List Keyword).isEmpty then 0 else 1) < 30)) = true) (hline : (apos.endLine == pos.line) = true)
    (h : wpAny (model prog w) A (eval o env) (fun ov s₁ => ∀ pl : Sem Bool, wpAny (model prog w) A (getMethod ov name pl) (fun fx s₂ => wpAny (model prog w) A (callWith pos fx.1 fx.2 (backTo pos (starEach args env)) (backToKw pos (keywordEach [] env))) Q E s₂) E s₁) E s) :
    wpAny (model prog w) A (eval (.Call (.Attribute o name apos) args [] pos) env) Q E s := by
  rw [arm_eval_Call, hbase]
  refine wpAny_bind (wpAny_mono h (fun ov s₁ h₁ => ?_) fun _ _ e => e)
  refine wpAny_bind (wpAny_standAt ?_)
  have hform : methodCallForm (args.length + ([] : List Keyword).length) (backTo pos (starEach args env)) (backToKw pos (keywordEach [] env)) = true := hfew
  have hpos : methodCallPos true o env apos pos = pure pos := by unfold methodCallPos; simp [hline]
  unfold methodCall
  rw [hform]
  refine wpAny_bind (wpAny_holding (wpAny_mono (h₁ _) (fun fx s₂ h₂ => ?_) fun _ _ e => e))
  exact wpAny_bind (wpAny_of_eq hpos h₂)
theorem s_mcl (tr : Bool) (C m : Str) {a es : E} (sa : Snd T R a) (se : Snd T R es) : Snd T R (.mcl tr C m a es) := by
  refine .plain rfl rfl (fun {X c k W p} G tk h => ?_) (fun _ _ h => absurd h Bool.false_ne_true)
  have obj : ∀ {H : Hp} {h : AH} {μ : Mu} {v : V} {va : AV} {Ca : Addr} {u : Unit}, insV C m va h = some u → RH c H h μ → RV c H μ v va → c.CA C = some Ca → ∃ a dx gs, v = .ref a ∧ H a = some (.ins Ca dx gs) ∧ gs.lookup m = none := fun {H h μ v va Ca u} e rh ra hC => by
    unfold insV at e
    split at e
    · split at e
      · rename_i n _ D fs hn
        split at e
        · rename_i hD
          obtain ⟨rfl, hl⟩ := hD
          obtain ⟨a', Ca', dx, gs, rfl, hm, hC', ha, hd, hdn, km, rr⟩ := RO.insAt rh hn ra
          rw [hC] at hC'
          cases hC'
          exact ⟨a', dx, gs, rfl, ha, (look_rel km rr).2 hl⟩
        · cases e
      · cases e
    · cases e
  split at h
  · rename_i o x ap q l pos
    simp only [Bool.and_eq_true, decide_eq_true_eq] at h
    obtain ⟨⟨⟨⟨⟨⟨⟨⟨⟨h1, h2⟩, h3⟩, h3'⟩, h4⟩, h5⟩, h6⟩, h6'⟩, h7⟩, h8⟩ := h
    subst h2
    obtain ⟨Ca, fa, n, g1, g2, g3, F⟩ := G.mt C m h4
    refine ⟨fun pins s σ H Q I ⟨ρ, h0, μ, re, rh, w⟩ => ?_⟩
    refine methCall_late (attr_plain h3) (few_plain (l := q :: l) (by rw [List.all_cons, h5, h6]; rfl) (by rw [List.length_cons]; omega)) h3' (thn ((sa.pe G tk h7).run pins s σ H _ I (step re rh w)) fun u s1 ⟨x, H1, I1, rx, h1', μ1, va, x1, re1, rh1, ra, w1⟩ => fun pl => ?_)
    have ra : RV c H1 μ1 x va := ra
    rw [wp_bnd] at w1
    obtain ⟨_, e, w1⟩ := wp_lift w1
    obtain ⟨a', dx, gs, rfl, ha, hl⟩ := obj e rh1 ra g1
    cases rx
    refine getmeth_ok I1 ha g2 g3 hl ?_
    refine PySem.W.callWith_K (first := [.ref a']) (h₀ := X.base) I.ok.mod.kin g3.kp (thn ((se.pa G tk h8).run pos pins s1 σ H1 _ I1 (step re1 rh1 w1)) fun us s2 ⟨vs, H2, I2, r, h2', μ2, as, x2, re2, rh2, ras, w2⟩ => ⟨I2.kIn, ?_⟩) (star_cons h5) (back_plain h6)
    have ras : RVs c H2 μ2 vs as := ras
    have r2 : RVs c H2 μ2 (.ref a' :: vs) (va :: as) := .cons (ra.mono x2) ras
    have hl : (V.ref a' :: vs).length = n := by rw [r2.length]; exact F.ar _ _ _ (wp_some w2)
    exact F.run (us := .ref a' :: us) h1 G.gd tk I2 (show Vals (V.ref a' :: vs) (Value.ref a' :: us) from .cons rfl r) ⟨hl, tr, h2', μ2, _, rh2, r2, w2⟩
  · rename_i o x ap pos
    simp only [Bool.and_eq_true, decide_eq_true_eq] at h
    obtain ⟨⟨⟨⟨⟨⟨h1, h2⟩, h3⟩, h3'⟩, h4⟩, h7⟩, h8⟩ := h
    subst h2
    have en : es = .nil := by cases es <;> first | rfl | (exact absurd h8 Bool.false_ne_true)
    subst en
    obtain ⟨Ca, fa, n, g1, g2, g3, F⟩ := G.mt C m h4
    refine ⟨fun pins s σ H Q I ⟨ρ, h0, μ, re, rh, w⟩ => ?_⟩
    refine methCall_late (attr_plain h3) (few_plain (l := []) rfl (by decide)) h3' (thn ((sa.pe G tk h7).run pins s σ H _ I (step re rh w)) fun u s1 ⟨x, H1, I1, rx, h1', μ1, va, x1, re1, rh1, ra, w1⟩ => fun pl => ?_)
    have ra : RV c H1 μ1 x va := ra
    rw [wp_bnd] at w1
    obtain ⟨_, e, w1⟩ := wp_lift w1
    obtain ⟨a', dx, gs, rfl, ha, hl⟩ := obj e rh1 ra g1
    cases rx
    refine getmeth_ok I1 ha g2 g3 hl ?_
    have w1 : wp (R tr (C ++ "." ++ m) [va]) (okP c H1 μ1 Q) (exP c H1 μ1 fun cls d H' => W cls d σ H') h1' := w1
    have hl := F.ar _ _ _ (wp_some w1)
    exact PySem.W.callWith_K0 (first := [.ref a']) I1.kIn g3.kp (F.run (us := [.ref a']) h1 G.gd tk I1 (show Vals [V.ref a'] [Value.ref a'] from .cons rfl .nil) ⟨hl, tr, h1', μ1, _, rh1, .cons ra .nil, w1⟩)
  · cases h
/-- d.get(k, x) -/
theorem s_dgt {a b d : E} (sa : Snd T R a) (sb : Snd T R b) (sd : Snd T R d) : Snd T R (.dgt a b d) := by
  refine .plain rfl rfl (fun {X c k W p} G tk h => ?_) (fun _ _ h => absurd h Bool.false_ne_true)
  split at h
  · rename_i o x ap q r pos
    simp only [Bool.and_eq_true, decide_eq_true_eq] at h
    obtain ⟨⟨⟨⟨⟨⟨⟨h1, h2⟩, h3⟩, h4⟩, h5⟩, h6⟩, h7⟩, h8⟩ := h
    subst h1
    have trees : backTo pos (starEach [q, r] X.env) = [(false, eval q X.env), (false, eval r X.env)] ∨ True := .inr trivial
    refine ⟨fun pins s σ H Q I ⟨ρ, h0, μ, re, rh, w⟩ => ?_⟩
    refine wpAny_Call_method (attr_plain h2) (few_plain (l := [q, r]) (by simp [h4, h5]) (by simp)) h3 PySem.F.plainAttrs_dict PySem.F.slot_dict_get PySem.F.type_dict_get (thn ((sa.pe G tk h6).run pins s σ H _ I (step re rh w)) fun u s1 ⟨x, H1, I1, rx, h1', μ1, va, x1, re1, rh1, ra, w1⟩ => ?_)
    have ra : RV c H1 μ1 x va := ra
    rw [wp_bnd] at w1
    obtain ⟨_, e, w1⟩ := wp_lift w1
    simp only [Option.map_eq_some_iff] at e
    obtain ⟨kvs, e, _⟩ := e
    obtain ⟨a', n, rfl, rfl, hn, hm, ro⟩ := getD_at rh1 ra e
    cases rx
    obtain ⟨t1, t2, _⟩ := isD_type G.K G.w I1 ro
    refine ⟨t1, t2, ?_⟩
    have A := (pa_cons (sb.pe G tk h7) (pa_cons (sd.pe G tk h8) pa_nil (star_cons h5)) (star_cons h4)).run pos pins s1 σ H1 (fun vs H3 => ∃ y z h3 μ3 vb vd, vs = [y, z] ∧ Ext H1 μ1 H3 μ3 ∧ RH c H3 h3 μ3 ∧ RV c H3 μ3 y vb ∧ RV c H3 μ3 z vd ∧
      wp (lift fun h => (getD h (.ref n)).bind fun kvs => (dgetA kvs vb).map fun o => o.getD vd) (okP c H3 μ3 Q) (exP c H3 μ3 fun cls d H' => W cls d σ H') h3) I1
      ((step re1 rh1 w1).mono fun y H2 ⟨h2', μ2, vb, x2, re2, rh2, rb, w2⟩ => (step re2 rh2 w2).mono fun z H3 ⟨h3', μ3, vd, x3, re3, rh3, rd, w3⟩ => ⟨y, z, h3', μ3, vb, vd, rfl, x2.trans x3, rh3, RV.mono x3 rb, rd, w3⟩)
    rw [star_cons h4] at A ⊢
    refine Calls.callWith_builtin (by show (false || (backTo pos (starEach [r] X.env)).any (·.1)) = false; rw [back_plain (by simp [h5])] <;> rfl) (Calls.evalArgs_plain (thn A fun us s3 ⟨vs, H3, I3, r3, y, z, h3, μ3, vb, vd, ev, x3, rh3, rb, rd, w3⟩ => ?_))
    subst ev
    obtain ⟨v, e3, q3⟩ := wp_lift w3
    simp only [Option.bind_eq_some_iff, Option.map_eq_some_iff] at e3
    obtain ⟨kvs3, e4, o, e5, rfl⟩ := e3
    obtain ⟨a'', n', ea, en, hn3, hm3, ro3⟩ := getD_at rh3 (ra.mono x3) e4
    cases ea
    cases en
    obtain ⟨k', e6, e7, rfl⟩ := dgetA_some e5
    obtain ⟨u1, u2, rfl, r1, r2⟩ := vals2 r3
    exact dct_get2 (by have := G.un; omega) I3 (dsort G.K G.w I3 ro3 rb e6 e7 r1) r1 r2 rd fun v' w' s' I' r' rv => ⟨v', H3, I', r', q3.now rh3 rv⟩
  · cases h

theorem s_md (m : Md) {a es : E} (sa : Snd T R a) (se : Snd T R es) : Snd T R (.md m a es) := by
  refine .plain rfl rfl (fun {X c k W p} G tk h => ?_) (fun _ _ h => absurd h Bool.false_ne_true)
  split at h
  · rename_i o x ap l pos
    simp only [Bool.and_eq_true, decide_eq_true_eq] at h
    obtain ⟨⟨⟨⟨⟨⟨h1, h2⟩, h3⟩, h4⟩, h5⟩, h6⟩, h7⟩ := h
    subst h1
    refine ⟨fun pins s σ H Q I ⟨ρ, h0, μ, re, rh, w⟩ => ?_⟩
    refine wpAny_Call_method_late (attr_plain h2) (few_plain h4 h5) h3 rfl (thn ((sa.pe G tk h6).run pins s σ H _ I (step re rh w)) fun v s1 ⟨x, H1, I1, rx, h1, μ1, va, x1, re1, rh1, ra, w1⟩ => ?_)
    have ra : RV c H1 μ1 x va := ra
    rw [wp_bnd] at w1
    obtain ⟨u, e, w1⟩ := wp_lift w1
    obtain ⟨ys, hy⟩ := md_seq e
    obtain ⟨tup, ht⟩ := isTup_ex va
    obtain ⟨T', id, pa, sl, ty, hT, mr⟩ := md_on G.K G.un e ht
    obtain ⟨t1, t2⟩ := md_type G.K I1 rh1 rx ra hy ht
    rw [← hT] at t1
    refine ⟨T', id, pa, sl, ty, t1, t2, ?_⟩
    have fin : ∀ {us : List Value} {s2 : Shared} {vs : List V} {H2 : Hp} {h2 : AH} {μ2 : Mu} {as : List AV}, Inv X pins σ H2 s2 → Vals vs us → Ext H1 μ1 H2 μ2 → RH c H2 h2 μ2 → RVs c H2 μ2 vs as → wp (mdV m va as) (okP c H2 μ2 Q) (exP c H2 μ2 fun cls d H' => W cls d σ H') h2 → wpAny (model X.prog X.w) X.A (call (.builtin id) (v :: us)) (EP X pins σ Q) X.xe s2 :=
      fun {us s2 vs H2 h2 μ2 as} I2 r2 x2 rh2 ras w2 => by
        rcases wp_res w2 with ⟨z, h', e, q⟩ | ⟨z, h', e⟩
        · exact mr pins s2 σ H2 x vs v us Q I2 rx r2 ⟨h2, μ2, va, as, z, h', rh2, ra.mono x2, ras, ht, e, q⟩
        · exact (mdV_noexc e).elim
    cases l with
    | nil =>
      have A := se.pa G tk h7
      refine Calls.callWith_builtin rfl (PySem.evalArgs_none ?_)
      have z := A.run pos pins s1 σ H1 _ I1 (step re1 rh1 w1)
      have en : es = .nil := by
        cases es <;> first | rfl | (exact absurd h7 Bool.false_ne_true)
      subst en
      exact fin I1 .nil .refl rh1 .nil w1
    | cons e1 l =>
      simp only [List.all_cons, Bool.and_eq_true] at h4
      have A := (se.pa G tk h7).run pos pins s1 σ H1 _ I1 (step re1 rh1 w1)
      rw [star_cons h4.1] at A ⊢
      refine Calls.callWith_builtin (by show (false || (backTo pos (starEach l X.env)).any (·.1)) = false; rw [back_plain h4.2] <;> rfl) (Calls.evalArgs_plain (thn A fun us s2 ⟨vs, H2, I2, r2, h2, μ2, as, x2, re2, rh2, ras, w2⟩ => ?_))
      exact fin I2 r2 x2 rh2 ras w2
  · cases h
/-- the length of a row of arguments -/
def lenE : E → Option Nat
  | .nil => some 0
  | .cons _ es => (lenE es).map (· + 1)
  | _ => none
theorem lenE_chk {k : Ck} : ∀ {es : E} {l : List Expr}, chkA k es l = true → l.all plainE = true → lenE es = some l.length
  | .nil, [], _, _ => rfl
  | .cons e es, p :: ps, h, hp => by
    have h : (plainE p && (ck e).e k p && (ck es).a k ps) = true := h
    simp only [List.all_cons, Bool.and_eq_true] at h hp
    simp only [lenE, lenE_chk (es := es) h.2 hp.2, Option.map_some, List.length_cons]
  | .star e es, p :: ps, h, hp => by
    cases p <;> first | (exact absurd h Bool.false_ne_true) | skip
    simp [plainE] at hp
  | .cons e es, [], h, _ => absurd h Bool.false_ne_true
  | .nil, _ :: _, h, _ => absurd h Bool.false_ne_true
  | .star _ _, [], h, _ => absurd h Bool.false_ne_true
  | .var _, _, h, _ | .non, _, h, _ | .bl _, _, h, _ | .int _, _, h, _ | .str _, _, h, _ | .glb _, _, h, _ | .tup _, _, h, _ | .lst _, _, h, _ | .own _, _, h, _ | .bin _ _ _, _, h, _ | .neg _, _, h, _ | .cmp _ _ _, _, h, _ | .chain _ _, _, h, _ | .lnk _ _ _, _, h, _ | .not _, _, h, _ | .band _, _, h, _ | .bor _, _, h, _ | .ite _ _ _, _, h, _ | .idx _ _, _, h, _ | .slc _ _ _, _, h, _ | .rgl _ _ _, _, h, _ | .rev _, _, h, _ | .call _ _ _, _, h, _ | .bf _ _, _, h, _ | .md _ _ _, _, h, _ | .fld _ _ _, _, h, _ | .mcl _ _ _ _ _, _, h, _ | .dsp _ _, _, h, _ | .isv _, _, h, _ | .dgt _ _ _, _, h, _ | .rng _, _, h, _ | .enum _, _, h, _ | .zip _ _, _, h, _ | .rvd _, _, h, _ | .rngc _ _ _, _, h, _ | .comp _ _ _ _ _, _, h, _ | .comp2 _ _ _ _ _ _ _ _, _, h, _ | .isx _ _, _, h, _ | .isb _ _, _, h, _ | .dsel _ _, _, h, _ | .dget _ _ _, _, h, _ | .gsel _ _, _, h, _ => absurd h Bool.false_ne_true
theorem evA_len {ρ : AEnv} : ∀ {es : E} {n : Nat} {h h' : AH} {vs : List AV}, lenE es = some n → evA T R es ρ h = some (.ok vs h') → vs.length = n
  | .nil, n, h, h', vs, e, g => by
    cases e
    cases g
    rfl
  | .cons a es, n, h, h', vs, e, g => by
    simp only [lenE, Option.map_eq_some_iff] at e
    obtain ⟨m, e, rfl⟩ := e
    have g : bnd (evE T R a ρ) (fun v => bnd (evA T R es ρ) fun vs => ret (v :: vs)) h = some (.ok vs h') := g
    unfold bnd at g
    split at g
    · dsimp only at g
      split at g
      · rename_i ws h2 g2
        cases g
        rw [List.length_cons, evA_len e g2]
      · cases g
      · cases g
    · cases g
    · cases g
  | .star _ _, _, _, _, _, e, _ | .var _, _, _, _, _, e, _ | .non, _, _, _, _, e, _ | .bl _, _, _, _, _, e, _ | .int _, _, _, _, _, e, _ | .str _, _, _, _, _, e, _ | .glb _, _, _, _, _, e, _ | .tup _, _, _, _, _, e, _ | .lst _, _, _, _, _, e, _ | .own _, _, _, _, _, e, _ | .bin _ _ _, _, _, _, _, e, _ | .neg _, _, _, _, _, e, _ | .cmp _ _ _, _, _, _, _, e, _ | .chain _ _, _, _, _, _, e, _ | .lnk _ _ _, _, _, _, _, e, _ | .not _, _, _, _, _, e, _ | .band _, _, _, _, _, e, _ | .bor _, _, _, _, _, e, _ | .ite _ _ _, _, _, _, _, e, _ | .idx _ _, _, _, _, _, e, _ | .slc _ _ _, _, _, _, _, e, _ | .rgl _ _ _, _, _, _, _, e, _ | .rev _, _, _, _, _, e, _ | .call _ _ _, _, _, _, _, e, _ | .bf _ _, _, _, _, _, e, _ | .md _ _ _, _, _, _, _, e, _ | .fld _ _ _, _, _, _, _, e, _ | .mcl _ _ _ _ _, _, _, _, _, e, _ | .rng _, _, _, _, _, e, _ | .enum _, _, _, _, _, e, _ | .zip _ _, _, _, _, _, e, _ | .rvd _, _, _, _, _, e, _ | .rngc _ _ _, _, _, _, _, e, _ | .comp _ _ _ _ _, _, _, _, _, e, _ | .comp2 _ _ _ _ _ _ _ _, _, _, _, _, e, _ | .isx _ _, _, _, _, _, e, _ | .isb _ _, _, _, _, _, e, _ | .dsel _ _, _, _, _, _, e, _ | .dget _ _ _, _, _, _, _, e, _ | .gsel _ _, _, _, _, _, e, _ => by cases e
theorem wp_lenA {ρ : AEnv} {es : E} {n : Nat} {h : AH} {Q : List AV → AH → Prop} {E : Ex → AH → Prop} (e : lenE es = some n) (w : wp (evA T R es ρ) Q E h) : wp (evA T R es ρ) (fun vs h => vs.length = n ∧ Q vs h) E h := by
  unfold wp at w ⊢
  cases m : evA T R es ρ h with
  | none => rw [m] at w; exact w
  | some o =>
    rw [m] at w
    cases o with
    | ok a h' => exact ⟨evA_len e m, w⟩
    | exc a h' => exact w
theorem rng_one {as xs : List AV} (e : rngOf as = some xs) (n : as.length = 1) : ∃ j, as = [.int j] ∧ -(2 ^ 62) ≤ j ∧ j < 2 ^ 62 ∧ xs = rngA 0 j.toNat := by
  match as, n with
  | [a], _ =>
    cases a with
    | int j =>
      simp only [rngOf] at e
      split at e
      · rename_i hz
        cases e
        exact ⟨j, rfl, hz.1, hz.2, rfl⟩
      · cases e
    | _ => cases e
theorem rng_two {as xs : List AV} (e : rngOf as = some xs) (n : as.length = 2) : ∃ i j, as = [.int i, .int j] ∧ (-(2 ^ 62) ≤ i ∧ i < 2 ^ 62 ∧ -(2 ^ 62) ≤ j ∧ j < 2 ^ 62) ∧ xs = rngA i (j - i).toNat := by
  match as, n with
  | [a, b], _ =>
    cases a with
    | int i =>
      cases b with
      | int j =>
        simp only [rngOf] at e
        split at e
        · rename_i hz
          cases e
          exact ⟨i, j, rfl, hz, rfl⟩
        · cases e
      | _ => cases e
    | _ => cases e
/-- range, as what is walked -/
theorem s_rng {es : E} (a : Snd T R es) : Snd T R (.rng es) := by
  refine .rows (fun _ _ => rfl) (fun _ _ => rfl) (fun _ p => by show (plainT p && false) = false; rw [Bool.and_false]) (fun _ l => by cases l <;> rfl) (fun _ _ h => absurd h Bool.false_ne_true) (fun _ _ h => absurd h Bool.false_ne_true) (fun _ _ h => absurd h Bool.false_ne_true)
    (fun _ _ h => absurd h Bool.false_ne_true) (fun {X c k W l} _ _ h => ?_) (fun {X c k W p tg} G tk h => ?_)
  · match l, h with
    | [p], h =>
      have h : (plainT p && false) = true := h
      rw [Bool.and_false] at h; cases h
    | [], h => exact absurd h Bool.false_ne_true
    | _ :: _ :: _, h => exact absurd h Bool.false_ne_true
  · simp only [chkI, ck] at h
    split at h
    · rename_i x xp l pos
      simp only [Bool.and_eq_true, decide_eq_true_eq] at h
      obtain ⟨⟨⟨⟨⟨h1, h2⟩, h3⟩, h4⟩, h5⟩, h6⟩ := h
      subst h1
      rw [G.sc] at h2
      have gl := gl_of h2
      have mg := G.blt _ h3
      match l, h4, h5, h6 with
      | [q], h4, _, h6 =>
        refine pi_imp (pi_range1 gl mg (a.pa G tk h6) (star_plain h4)) fun σ H Q ⟨ρ, h, μ, re, rh, w⟩ => ?_
        have w : wp (bnd (evA T R es ρ) fun vs => lift fun h => (rngOf vs).map fun xs => ((.non : AV), xs)) (okG c (RYl c) H μ Q) (exP c H μ fun cls d H' => W cls d σ H') h := w
        rw [wp_bnd] at w
        have w2 := wp_lenA (lenE_chk h6 h4) w
        refine (show SA c W (evA T R es) σ H _ from ⟨ρ, h, μ, re, rh, wp_mono w2 (fun as h1 k1 vs H1 μ1 e r1 ra => ?_) fun _ _ z => z⟩)
        obtain ⟨p, e2, q⟩ := wp_lift k1.2
        simp only [Option.map_eq_some_iff] at e2
        obtain ⟨xs, e2, rfl⟩ := e2
        obtain ⟨j, rfl, z1, z2, rfl⟩ := rng_one e2 k1.1
        obtain ⟨v, rfl, rv⟩ := RVs.one ra
        cases rv
        exact ⟨j, rfl, z1, z2, q _ _ _ e r1 yl_range⟩
      | [q, q2], h4, _, h6 =>
        have h4' : ([q2] : List Expr).all plainE = true := by
          simp only [List.all_cons, Bool.and_eq_true] at h4 ⊢
          exact h4.2
        refine pi_imp (pi_range2 gl mg (a.pa G tk h6) (star_plain h4) (star_plain h4')) fun σ H Q ⟨ρ, h, μ, re, rh, w⟩ => ?_
        have w : wp (bnd (evA T R es ρ) fun vs => lift fun h => (rngOf vs).map fun xs => ((.non : AV), xs)) (okG c (RYl c) H μ Q) (exP c H μ fun cls d H' => W cls d σ H') h := w
        rw [wp_bnd] at w
        have w2 := wp_lenA (lenE_chk h6 h4) w
        refine (show SA c W (evA T R es) σ H _ from ⟨ρ, h, μ, re, rh, wp_mono w2 (fun as h1 k1 vs H1 μ1 e r1 ra => ?_) fun _ _ z => z⟩)
        obtain ⟨p, e2, q⟩ := wp_lift k1.2
        simp only [Option.map_eq_some_iff] at e2
        obtain ⟨xs, e2, rfl⟩ := e2
        obtain ⟨i, j, rfl, z1, rfl⟩ := rng_two e2 k1.1
        obtain ⟨v, u, rfl, rv, ru⟩ := RVs.two ra
        cases rv
        cases ru
        exact ⟨i, j, rfl, z1, q _ _ _ e r1 yl_range⟩
    · cases h
/-- zip of two tuples, as what is walked -/
theorem s_zip {a b : E} (sa : Snd T R a) (sb : Snd T R b) : Snd T R (.zip a b) := by
  refine ⟨fun _ _ h => absurd h Bool.false_ne_true, fun {X c k W l} _ _ h => ?_, fun _ _ h => absurd h Bool.false_ne_true, fun {X c k W p} _ _ h => ?_, fun _ _ h => absurd h Bool.false_ne_true, fun _ _ h => absurd h Bool.false_ne_true, fun {X c k W l} _ _ h => ?_, fun {X c k W l} _ _ h => ?_, fun {X c k W p tg} G tk h po => ?_, fun _ _ h => absurd h Bool.false_ne_true⟩
  · match l, h with
    | [], h => exact absurd h Bool.false_ne_true
    | _ :: _, h => exact absurd h Bool.false_ne_true
  · have h : (plainT p && false) = true := h
    rw [Bool.and_false] at h; cases h
  · match l, h with
    | [p], h =>
      have h : (plainT p && false) = true := h
      rw [Bool.and_false] at h; cases h
    | [], h => exact absurd h Bool.false_ne_true
    | _ :: _ :: _, h => exact absurd h Bool.false_ne_true
  · match l, h with
    | some _, h => exact absurd h Bool.false_ne_true
    | none, h => exact absurd h Bool.false_ne_true
  · simp only [chkI, ck] at h
    split at h
    · rename_i x xp q r pos
      simp only [Bool.and_eq_true, decide_eq_true_eq] at h
      obtain ⟨⟨⟨⟨⟨⟨h1, h2⟩, h3⟩, h4⟩, h5⟩, h6⟩, h7⟩ := h
      subst h1
      rw [G.sc] at h2
      cases tg <;> first | exact absurd po Bool.false_ne_true | skip
      rename_i elts kk tpos
      have P : [q, r].all plainE = true := by simp [h4, h5]
      have P' : ([r] : List Expr).all plainE = true := by simp [h5]
      have s1 : starEach [q, r] X.env = (false, eval q X.env) :: starEach [r] X.env := by rw [star_plain P, star_plain P']; rfl
      have s2 : starEach [r] X.env = (false, eval r X.env) :: starEach [] X.env := by rw [star_plain P']; rfl
      refine pi_imp (pi_zipF (gl_of h2) (G.blt _ h3) (pa_cons (sa.pe G tk h6) (pa_cons (sb.pe G tk h7) pa_nil s2) s1) s1 (back_plain P')) fun σ H Q ⟨ρ, h, μ, re, rh, w⟩ => ?_
      have w : wp (bnd (evE T R a ρ) fun x => bnd (evE T R b ρ) fun y => lift fun _ => (zipT x y).map fun xs => ((.non : AV), xs)) (okG c (RYl c) H μ Q) (exP c H μ fun cls d H' => W cls d σ H') h := w
      refine (step re rh w).mono fun x1 H1 ⟨h1, μ1, v1, x, re1, rh1, ra, w1⟩ => ?_
      have ra : RV c H1 μ1 x1 v1 := ra
      refine (step re1 rh1 w1).mono fun x2 H2 ⟨h2', μ2, v2, y, re2, rh2, rb, w2⟩ => ?_
      have rb : RV c H2 μ2 x2 v2 := rb
      obtain ⟨p, e2, q⟩ := wp_lift w2
      simp only [Option.map_eq_some_iff] at e2
      obtain ⟨xs, e2, rfl⟩ := e2
      cases v1 <;> first | (cases e2; done) | skip
      cases v2 <;> first | (cases e2; done) | skip
      cases e2
      obtain ⟨a1, vs1, rfl, sq1, _, _⟩ := (ra.mono y).tupS
      obtain ⟨a2, vs2, rfl, sq2, _, _⟩ := rb.tupS
      rw [G.K] at sq1 sq2
      exact ⟨a1, a2, vs1, vs2, rfl, sq1, sq2, q _ _ _ .refl rh2 (yl_zip G.K (ra.mono y) rb)⟩
    · cases h
/-- what is walked alone -/
theorem Snd.src {e : E} {f : Ck → Expr → Bool} (he : ck e = { CkR.of (fun _ _ => false) with i := f })
    (pi : ∀ {X : Cx} {c : Ct} {k : Ck} {W : WX} {p tg : Expr}, Gd X c T R k → Takes X W → f k p = true → pairOk e tg = true → PI X tg p (SI c W (evI T R e))) : Snd T R e := by
  refine ⟨fun {X c k W p} _ _ h => ?_, fun {X c k W l} _ _ h => ?_, fun {X c k W l pos} _ _ h => ?_, fun {X c k W p} _ _ h => ?_, fun {X c k W l pos} _ _ h => ?_, fun {X c k W o l} _ _ h => ?_, fun {X c k W l} _ _ h => ?_, fun {X c k W l} _ _ h => ?_, fun {X c k W p tg} G tk h po => ?_, fun {X c k W p} _ _ h => ?_⟩
  · simp only [chkE, he] at h; exact absurd h Bool.false_ne_true
  · simp only [chkA, he] at h; exact absurd h Bool.false_ne_true
  · simp only [chkV, he] at h; exact absurd h Bool.false_ne_true
  · simp only [chkT, he] at h
    have h : (plainT p && false) = true := h
    rw [Bool.and_false] at h; cases h
  · simp only [chkU, he] at h; exact absurd h Bool.false_ne_true
  · simp only [chkL, he] at h; exact absurd h Bool.false_ne_true
  · rw [show chkC k e l = (ck e).c k l from rfl, he] at h
    match l, h with
    | [p], h =>
      have h : (plainT p && false) = true := h
      rw [Bool.and_false] at h; cases h
    | [], h => exact absurd h Bool.false_ne_true
    | _ :: _ :: _, h => exact absurd h Bool.false_ne_true
  · rw [show chkP k e l = (ck e).p k l from rfl, he] at h
    match l, h with
    | some _, h => exact absurd h Bool.false_ne_true
    | none, h => exact absurd h Bool.false_ne_true
  · simp only [chkI, he] at h
    exact pi G tk h po
  · simp only [chkO, he] at h; exact absurd h Bool.false_ne_true
theorem wlkV_of {h : AH} {k : Nat} {v : AV} {p : AV × List AV} (e : wlkV h k v = some p) : ∃ xs ys, getS h v = some xs ∧ wlkA k xs = some ys ∧ p = (wlkS k v, ys) := by
  unfold wlkV at e
  split at e
  · rename_i xs hx
    rw [Option.map_eq_some_iff] at e
    obtain ⟨ys, e1, e2⟩ := e
    exact ⟨xs, ys, hx, e1, e2.symm⟩
  · cases e
theorem s_enum {a : E} (sa : Snd T R a) : Snd T R (.enum a) := by
  refine .src rfl fun {X c k W p tg} G tk h po => ?_
  split at h
  · rename_i x xp q pos
    simp only [Bool.and_eq_true, decide_eq_true_eq] at h
    obtain ⟨⟨⟨⟨rfl, h2⟩, h3⟩, h4⟩, h5⟩ := h
    rw [G.sc] at h2
    cases tg <;> first | exact absurd po Bool.false_ne_true | skip
    rename_i elts kk tpos
    refine pi_imp (pi_enumF (gl_of h2) (G.blt _ h3) (sa.pe G tk h5) (star_cons h4)) fun σ H Q ⟨ρ, h, μ, re, rh, w⟩ => ?_
    have w : wp (bnd (evE T R a ρ) fun x => lift fun h => wlkV h 0 x) (okG c (RYl c) H μ Q) (exP c H μ fun cls d H' => W cls d σ H') h := w
    refine (step re rh w).mono fun x1 H1 ⟨h1, μ1, v1, x, re1, rh1, ra, w1⟩ => ?_
    have ra : RV c H1 μ1 x1 v1 := ra
    obtain ⟨p, e2, q⟩ := wp_lift w1
    obtain ⟨xs, ys, e3, e4, rfl⟩ := wlkV_of e2
    cases e4
    obtain ⟨a1, vs, tup, rfl, sq, _, ht⟩ := ra.getSq rh1 e3
    rw [G.K] at sq
    exact ⟨a1, tup, vs, rfl, sq, q _ _ _ .refl rh1 (yl_enum G.K rh1 ra e3 ht)⟩
  · cases h
theorem s_rvd {a : E} (sa : Snd T R a) : Snd T R (.rvd a) := by
  refine .src rfl fun {X c k W p tg} G tk h _ => ?_
  split at h
  · rename_i x xp q pos
    simp only [Bool.and_eq_true, decide_eq_true_eq] at h
    obtain ⟨⟨⟨⟨rfl, h2⟩, h3⟩, h4⟩, h5⟩ := h
    rw [G.sc] at h2
    refine pi_imp (RT.pi_revA (gl_of h2) (G.blt _ h3) (sa.pe G tk h5) (star_cons h4)) fun σ H Q ⟨ρ, h, μ, re, rh, w⟩ => ?_
    have w : wp (bnd (evE T R a ρ) fun x => lift fun h => wlkV h 1 x) (okG c (RYl c) H μ Q) (exP c H μ fun cls d H' => W cls d σ H') h := w
    refine (step re rh w).mono fun x1 H1 ⟨h1, μ1, v1, x, re1, rh1, ra, w1⟩ => ?_
    have ra : RV c H1 μ1 x1 v1 := ra
    obtain ⟨p, e2, q⟩ := wp_lift w1
    obtain ⟨xs, ys, e3, e4, rfl⟩ := wlkV_of e2
    cases e4
    obtain ⟨a1, vs, tup, rfl, sq, r2, ht⟩ := ra.getSq rh1 e3
    rw [G.K] at sq
    cases tup with
    | false => exact ⟨a1, vs, rfl, .inl ⟨sq, q _ _ _ .refl rh1 (yl_revL G.K rh1 ra e3 (fun z => absurd (ht.mpr z) (by decide)) r2.length)⟩⟩
    | true => exact ⟨a1, vs, rfl, .inr ⟨sq, q _ _ _ .refl rh1 (yl_revT G.K rh1 ra e3 (ht.mp rfl) r2.length)⟩⟩
  · cases h
theorem rngC_of {x y z : AV} {xs : List AV} (e : rngCV x y z = some xs) : ∃ i j, x = .int i ∧ y = .int j ∧ z = .int (-1) ∧ (-(2 ^ 62) ≤ i ∧ i < 2 ^ 62 ∧ -(2 ^ 62) ≤ j ∧ j < 2 ^ 62) ∧ xs = rngcA i (-1) (i - j).toNat := by
  cases x <;> first | (cases e; done) | skip
  cases y <;> first | (cases e; done) | skip
  cases z <;> first | (cases e; done) | skip
  simp only [rngCV] at e
  split at e
  · rename_i hz
    cases e
    obtain ⟨h1, h2, h3, h4, rfl⟩ := hz
    exact ⟨_, _, rfl, rfl, rfl, ⟨h1, h2, h3, h4⟩, rfl⟩
  · cases e
theorem s_rngc {a b d : E} (sa : Snd T R a) (sb : Snd T R b) (sd : Snd T R d) : Snd T R (.rngc a b d) := by
  refine .src rfl fun {X c k W p tg} G tk h _ => ?_
  split at h
  · rename_i x xp q r s pos
    simp only [Bool.and_eq_true, decide_eq_true_eq] at h
    obtain ⟨⟨⟨⟨⟨⟨⟨⟨rfl, h2⟩, h3⟩, h4⟩, h5⟩, h6⟩, h7⟩, h8⟩, h9⟩ := h
    rw [G.sc] at h2
    have P : [q, r, s].all plainE = true := by simp [h4, h5, h6]
    have P1 : ([r, s] : List Expr).all plainE = true := by simp [h5, h6]
    have P2 : ([s] : List Expr).all plainE = true := by simp [h6]
    have s1 : starEach [q, r, s] X.env = (false, eval q X.env) :: starEach [r, s] X.env := by rw [star_plain P, star_plain P1]; rfl
    have s2 : starEach [r, s] X.env = (false, eval r X.env) :: starEach [s] X.env := by rw [star_plain P1, star_plain P2]; rfl
    have s3 : starEach [s] X.env = (false, eval s X.env) :: starEach [] X.env := by rw [star_plain P2]; rfl
    refine pi_imp (pi_range3 (gl_of h2) (G.blt _ h3) (pa_cons (sa.pe G tk h7) (pa_cons (sb.pe G tk h8) (pa_cons (sd.pe G tk h9) pa_nil s3) s2) s1) s1 (back_plain P1)) fun σ H Q ⟨ρ, h, μ, re, rh, w⟩ => ?_
    have w : wp (bnd (evE T R a ρ) fun x => bnd (evE T R b ρ) fun y => bnd (evE T R d ρ) fun z => lift fun _ => (rngCV x y z).map fun xs => ((.non : AV), xs)) (okG c (RYl c) H μ Q) (exP c H μ fun cls d H' => W cls d σ H') h := w
    refine (step re rh w).mono fun x1 H1 ⟨h1, μ1, v1, x, re1, rh1, ra, w1⟩ => ?_
    refine (step re1 rh1 w1).mono fun x2 H2 ⟨h2', μ2, v2, y, re2, rh2, rb, w2⟩ => ?_
    refine (step re2 rh2 w2).mono fun x3 H3 ⟨h3', μ3, v3, z, re3, rh3, rd, w3⟩ => ?_
    have ra : RV c H1 μ1 x1 v1 := ra
    have rb : RV c H2 μ2 x2 v2 := rb
    have rd : RV c H3 μ3 x3 v3 := rd
    obtain ⟨p, e2, q⟩ := wp_lift w3
    simp only [Option.map_eq_some_iff] at e2
    obtain ⟨xs, e2, rfl⟩ := e2
    obtain ⟨i, j, rfl, rfl, rfl, hz, rfl⟩ := rngC_of e2
    cases ra
    cases rb
    cases rd
    exact ⟨i, j, -1, (i - j).toNat, rfl, RgC.neg hz.1 hz.2.1 hz.2.2.1 hz.2.2.2, q _ _ _ .refl rh3 yl_rangeC⟩
  · cases h
/-! ### isinstance of a caught exception -/
/-- the classes' values -/
def clsV (c : Ct) : List Str → Option (List V)
  | [] => some []
  | x :: cs => match c.CA x, clsV c cs with
    | some a, some vs => some (.ref a :: vs)
    | _, _ => none
theorem clsL_pa {X : Cx} {c : Ct} {k : Ck} (G : Gd X c T R k) : ∀ {cs : List Str} {l : List Expr}, clsL k cs l = true → ∃ vs, clsV c cs = some vs ∧ vs.length = l.length ∧ PA X l (fun _ H Q => Q vs H)
  | [], [], _ => ⟨[], rfl, rfl, pa_imp pa_nil fun _ _ _ q => q⟩
  | [], _ :: _, h => absurd h Bool.false_ne_true
  | x :: cs, [], h => absurd h Bool.false_ne_true
  | x :: cs, e :: l, h => by
    cases e <;> first | exact absurd h Bool.false_ne_true | skip
    rename_i z zp
    have h : (decide (x = z) && isGl k.sc z && !isDbg z && k.I z && clsL k cs l) = true := h
    simp only [Bool.and_eq_true, decide_eq_true_eq] at h
    obtain ⟨⟨⟨⟨rfl, h2⟩, h3⟩, h4⟩, h5⟩ := h
    obtain ⟨vs, e1, el, A⟩ := clsL_pa G h5
    obtain ⟨Ca, e2, M⟩ := G.im _ h4
    rw [G.sc] at h2
    refine ⟨.ref Ca :: vs, by simp only [clsV, e2, e1], by rw [List.length_cons, List.length_cons, el], pa_imp (pa_cons (pe_glob (gl_of h2) M (show RelV (.ref Ca) _ from rfl) (dbg_of h3).1) A) fun σ H Q q => ?_⟩
    exact q
theorem isL_cons {x d : Str} {cs : List Str} {b : Bool} (e : isL T x (d :: cs) = some b) : ∃ b1 b2, T.isA x d = some b1 ∧ isL T x cs = some b2 ∧ b = (b1 || b2) := by
  unfold isL at e ⊢
  rw [List.mapM_cons] at e
  cases e1 : T.isA x d with
  | none => rw [e1] at e; simp at e
  | some b1 =>
    cases e2 : cs.mapM (fun d => T.isA x d) with
    | none => rw [e1, e2] at e; simp at e
    | some bs =>
      rw [e1, e2] at e
      simp at e
      exact ⟨b1, bs.any id, rfl, by simp, by simpa using e.symm⟩
theorem kit_all {X : Cx} {c : Ct} {k : Ck} (G : Gd X c T R k) {x : Str} {Ca : Addr} (hx : c.CA x = some Ca) : ∀ {cs : List Str} {vs : List V} {us : List Value} {b : Bool}, clsV c cs = some vs → Vals vs us → isL T x cs = some b → PySem.W.kitAny X.K (.ref Ca) us = some b
  | [], vs, us, b, e, r, h => by
    cases e
    cases r
    cases h
    rfl
  | d :: cs, vs, us, b, e, r, h => by
    simp only [clsV] at e
    split at e
    · rename_i Cd ws e1 e2
      cases e
      cases r with
      | cons r1 r2 =>
        cases r1
        obtain ⟨b1, b2, h1, h2, rfl⟩ := isL_cons h
        obtain ⟨Cx, Cy, f1, f2, _, f4, _⟩ := G.isa _ _ _ h1
        rw [hx] at f1
        rw [e1] at f2
        cases f1
        cases f2
        have ih := kit_all G hx e2 r2 h2
        unfold PySem.W.kitAny
        rw [f4]
        cases b1 with
        | true => rfl
        | false => rw [ih]; rfl
    · cases e
/-- isinstance(e, C) or isinstance(e, (C, ..)) -/
theorem isx_call {X : Cx} {c : Ct} {k : Ck} (G : Gd X c T R k) {x : Str} {cs : List Str} {b : Bool} {vs : List V} {pins : List (Addr × Obj)} {σ : L2.St} {H : Hp} {s : Shared} {μ : Mu} {V1 : V} {u1 : Value} {Q : VK} (I : Inv X pins σ H s) (hv : clsV c cs = some vs) (r1 : RelV V1 u1) (ra : RV c H μ V1 (.exn x)) (hb : isL T x cs = some b) (q : ∀ H', H' = H → Q (.bl b) H') :
    (∀ Cz, vs = [.ref Cz] → wpAny (model X.prog X.w) X.A (call (.builtin "isinstance") [u1, .ref Cz]) (EP X pins σ Q) X.xe s) ∧
    (∀ tp, cs ≠ [] → SqT X.K H tp vs → wpAny (model X.prog X.w) X.A (call (.builtin "isinstance") [u1, .ref tp]) (EP X pins σ Q) X.xe s) := by
  cases ra with
  | exn hx =>
  rename_i a
  cases r1
  obtain ⟨_, oe, Ca, h1, h2, h3, h4⟩ := G.xs a x hx
  have J : PySem.W.InstAt s.heap a oe Ca none := by
    obtain ⟨hget, _⟩ := I.pin (a, oe) (List.mem_append.mpr (.inl h2))
    obtain ⟨fv, hf⟩ := h4
    obtain ⟨oc, od, oda, osl⟩ := oe
    obtain ⟨z1, z2⟩ := h3
    dsimp only at z1 z2 hf
    subst z1 z2 hf
    exact ⟨hget, rfl, rfl, trivial⟩
  have EC : cs ≠ [] → ExcC X.K Ca := fun hn => by
    cases cs with
    | nil => exact absurd rfl hn
    | cons d cs =>
      obtain ⟨b1, b2, z1, _, _⟩ := isL_cons hb
      obtain ⟨Cx, Cy, f1, _, _, _, f5⟩ := G.isa _ _ _ z1
      rw [h1] at f1
      cases f1
      exact f5
  refine ⟨fun Cz e => ?_, fun tp hn hq => ?_⟩
  · subst e
    have hn : cs ≠ [] := fun z => by rw [z] at hv; cases hv
    have C := EC hn
    have e := kit_all G h1 hv (.cons rfl .nil) hb
    have e : PySem.W.kitOne X.K (.ref Ca) (.ref Cz) = some b := by
      unfold PySem.W.kitAny at e
      cases z : PySem.W.kitOne X.K (.ref Ca) (.ref Cz) with
      | none => rw [z] at e; cases e
      | some b1 =>
        rw [z] at e
        cases b1 with
        | true => exact e
        | false => exact e
    exact PySem.W.kia_one (PySem.W.handS_kitx_exc C.hg C.hk C.hs C.hd C.ha C.hn C.ht C.hm) I.kIn J e (fun z => nomatch z) fun tk => ⟨.bl b, H, I.kept (t' := tk) fun _ _ z => z, rfl, q H rfl⟩
  · have C := EC hn
    obtain ⟨its, rv, ⟨o, e1, e2, n, e3⟩, _⟩ := I.tuple hq
    have e := kit_all G h1 hv rv hb
    obtain ⟨oc, od, oda, osl⟩ := o
    dsimp only at e2 e3
    subst e2 e3
    exact PySem.W.kia_tup (PySem.W.handS_kitx_exc C.hg C.hk C.hs C.hd C.ha C.hn C.ht C.hm) I.kIn J e1 e (fun z => nomatch z) fun tk => ⟨.bl b, H, I.kept (t' := tk) fun _ _ z => z, rfl, q H rfl⟩
/-- isinstance(x, ValueError) -/
theorem s_isv {x : E} (a : Snd T R x) : Snd T R (.isv x) := by
  refine .plain rfl rfl (fun {X c k W p} G tk h => ?_) (fun _ _ h => absurd h Bool.false_ne_true)
  split at h
  · rename_i y yp q z zp pos
    simp only [Bool.and_eq_true, decide_eq_true_eq] at h
    obtain ⟨⟨⟨⟨⟨⟨⟨rfl, h2⟩, h3⟩, h4⟩, rfl⟩, h5⟩, h6⟩, h7⟩ := h
    rw [G.sc] at h2 h5
    have hpa := pa_cons (a.pe G tk h7) (pa_cons (pe_bltn (v := .ty "ValueError") (pos := zp) (gl_of h5) (G.blt _ h6) (u := .type "ValueError") (by decide +kernel) rfl) pa_nil (star_cons rfl)) (star_cons h4)
    refine ⟨fun pins s σ H Q I ⟨ρ, h, μ, re, rh, w⟩ => ?_⟩
    refine wpAny_Call_Name_kw (ld_blt I (gl_of h2) (G.blt _ h3) PyProof.Rows.boot_isinstance ?_ (by decide) (by decide))
    refine PyProof.Rows.callWith_builtin1 (thn (hpa.run pos pins s σ H (fun us H1 => ∃ V1 h1 μ1 v, us = [V1, .ty "ValueError"] ∧ Ext H μ H1 μ1 ∧ RH c H1 h1 μ1 ∧ RV c H1 μ1 V1 v ∧ wp (match v with | .exn c => lift fun _ => if T.isV c = true then some (AV.bl true) else none | _ => stuck) (okP c H1 μ1 Q) (exP c H1 μ1 fun cls d H' => W cls d σ H') h1) I ?_) fun us s1 ⟨vs', H1, I1, r1, V1, h1, μ1, v, ev, x1, rh1, rv, w1⟩ => ?_) (star_cons h4) (back_plain (by rfl))
    · refine (step (R := RVg c) re rh w).mono fun V1 H1 ⟨h1, μ1, v, x1, re1, rh1, rv, w1⟩ => ?_
      exact ⟨V1, h1, μ1, v, rfl, x1, rh1, rv, w1⟩
    · subst ev
      cases r1 with
      | cons ru r1 =>
        cases r1 with
        | cons rw2 r1 =>
          cases r1
          cases rw2
          cases v with
          | exn y =>
            obtain ⟨b, eb, q⟩ := wp_lift w1
            split at eb
            · rename_i hv
              cases eb
              cases rv with
              | exn hx =>
              rename_i a
              cases ru
              obtain ⟨_, oe, Ca, g1, g2, g3, g4⟩ := G.xs a y hx
              obtain ⟨Cx, f1, f2, C⟩ := G.isv y hv
              rw [g1] at f1
              cases f1
              have J : PySem.W.InstAt s1.heap a oe Ca none := by
                obtain ⟨hget, _⟩ := I1.pin (a, oe) (List.mem_append.mpr (.inl g2))
                obtain ⟨fv, hf⟩ := g4
                obtain ⟨oc, od, oda, osl⟩ := oe
                obtain ⟨z1, z2⟩ := g3
                dsimp only at z1 z2 hf
                subst z1 z2 hf
                exact ⟨hget, rfl, rfl, trivial⟩
              exact PySem.W.kia_one (PySem.W.handS_kitx_exc C.hg C.hk C.hs C.hd C.ha C.hn C.ht C.hm) I1.kIn J f2 (fun z => nomatch z) fun tk => ⟨.bl true, H1, I1.kept (t' := tk) fun _ _ z => z, rfl, q _ _ _ .refl (rh1) (.bl _)⟩
            · cases eb
          | _ => exact w1.elim
  · cases h
theorem s_isx {x : E} (cs : List Str) (a : Snd T R x) : Snd T R (.isx x cs) := by
  refine .plain rfl rfl (fun {X c k W p} G tk h => ?_) (fun _ _ h => absurd h Bool.false_ne_true)
  split at h
  · rename_i y yp q r pos
    simp only [Bool.and_eq_true, decide_eq_true_eq] at h
    obtain ⟨⟨⟨⟨⟨rfl, h2⟩, h3⟩, h4⟩, h5⟩, h6⟩ := h
    rw [G.sc] at h2
    have gl := gl_of h2
    have mg := G.blt _ h3
    have nc : cs ≠ [] := fun z => by
      subst z
      cases r <;> first | exact absurd h5 Bool.false_ne_true | skip
      rename_i l _ _
      cases l with
      | nil => exact absurd h5 Bool.false_ne_true
      | cons e l => cases e <;> exact absurd h5 Bool.false_ne_true
    have pr : plainE r = true := by
      cases r <;> first | rfl | exact absurd h5 Bool.false_ne_true
    -- the second argument
    obtain ⟨vs, hv, tr, pe, hr⟩ : ∃ vs, clsV c cs = some vs ∧ ∃ tr : TE, PE X r tr ∧ ∀ σ H Q, (∀ V H', (∃ Cz, vs = [.ref Cz] ∧ V = .ref Cz ∧ H' = H) ∨ (∃ tp o, V = .ref tp ∧ H tp = none ∧ H' = upd H tp (.frz o (.tup vs))) → Q V H') → tr σ H Q := by
      cases r <;> first | exact absurd h5 Bool.false_ne_true | skip
      · rename_i z zp
        have h5 : (decide (cs = [z]) && isGl k.sc z && !isDbg z && k.I z) = true := h5
        simp only [Bool.and_eq_true, decide_eq_true_eq] at h5
        obtain ⟨⟨⟨rfl, g2⟩, g3⟩, g4⟩ := h5
        obtain ⟨Ca, e2, M⟩ := G.im _ g4
        rw [G.sc] at g2
        refine ⟨[.ref Ca], by simp only [clsV, e2], _, pe_glob (gl_of g2) M (show RelV (.ref Ca) _ from rfl) (dbg_of g3).1, fun σ H Q q => q _ _ (.inl ⟨Ca, rfl, rfl, rfl⟩)⟩
      · rename_i l _ _
        cases l with
        | nil => exact absurd h5 Bool.false_ne_true
        | cons e l =>
          have h5 : (clsL k cs (e :: l) && decide (l.length < 100)) = true := h5
          rw [Bool.and_eq_true, decide_eq_true_eq] at h5
          obtain ⟨vs, e1, el, A⟩ := clsL_pa G h5.1
          refine ⟨vs, e1, _, pe_tupF A, fun σ H Q q => ⟨by rw [el, sizeLine_eq]; simp only [List.length_cons]; omega, fun p o e2 _ => q _ _ (.inr ⟨p, o, rfl, e2, rfl⟩)⟩⟩
    have hpa := pa_cons (a.pe G tk h6) (pa_cons pe pa_nil (star_cons pr)) (star_cons h4)
    refine ⟨fun pins s σ H Q I ⟨ρ, h, μ, re, rh, w⟩ => ?_⟩
    refine wpAny_Call_Name_kw (ld_blt I gl mg PyProof.Rows.boot_isinstance ?_ (by decide) (by decide))
    refine PyProof.Rows.callWith_builtin1 (thn (hpa.run pos pins s σ H (fun us H1 => ∃ V1 V2 h1 μ1 v, us = [V1, V2] ∧ Ext H μ H1 μ1 ∧ RH c H1 h1 μ1 ∧ RV c H1 μ1 V1 v ∧ wp (match v with | .exn x => lift fun _ => (isL T x cs).map .bl | _ => stuck) (okP c H1 μ1 Q) (exP c H1 μ1 fun cls d H' => W cls d σ H') h1 ∧
      ((∃ Cz, vs = [.ref Cz] ∧ V2 = .ref Cz) ∨ ∃ tp o, V2 = .ref tp ∧ H1 tp = some (.frz o (.tup vs)))) I ?_) fun us s1 ⟨vs', H1, I1, r1, V1, V2, h1, μ1, v, ev, x1, rh1, rv, w1, hc⟩ => ?_) (star_cons h4) (back_plain (by rw [List.all_cons, pr]; rfl))
    · refine (step (R := RVg c) re rh w).mono fun V1 H1 ⟨h1, μ1, v, x1, re1, rh1, rv, w1⟩ => ?_
      refine hr _ _ _ fun V2 H2 hc => ?_
      rcases hc with ⟨Cz, e1, e2, e3⟩ | ⟨tp, o, e1, e2, e3⟩
      · subst e3
        exact ⟨V1, V2, h1, μ1, v, rfl, x1, rh1, rv, w1, .inl ⟨Cz, e1, e2⟩⟩
      · subst e3
        have xl := rh1.ext (o := .frz o (.tup vs)) e2
        exact ⟨V1, V2, h1, μ1, v, rfl, x1.trans xl, rh1.laid e2, RV.mono xl rv, wp_mono w1 (fun _ _ z => okG.later (R := RVg c) z xl) (fun _ _ z => exP.later z xl), .inr ⟨tp, o, e1, upd_same⟩⟩
    · subst ev
      cases r1 with
      | cons ru r1 =>
        cases r1 with
        | cons rw2 r1 =>
          cases r1
          cases v with
          | exn y =>
            obtain ⟨z, ez, q⟩ := wp_lift w1
            simp only [Option.map_eq_some_iff] at ez
            obtain ⟨b, eb, rfl⟩ := ez
            have main := isx_call G I1 hv ru rv eb (Q := Q) fun H' e => by
              subst e
              exact q _ _ _ .refl rh1 (.bl _)
            rcases hc with ⟨Cz, e1, e2⟩ | ⟨tp, o, e1, e2⟩
            · subst e2
              cases rw2
              exact main.1 Cz e1
            · subst e1
              cases rw2
              exact main.2 tp nc (.inl (.inr ⟨o, e2⟩))
          | _ => exact w1.elim
  · cases h
/-! ### list(range(..)), tuple(range(..)) -/
theorem rg_eq {c : Ct} {H : Hp} {μ : Mu} (a b : Int) : RVs c H μ (rgV a b) (rngA a (b - a).toNat) := by
  unfold rgV rngA
  generalize (b - a).toNat = n
  have go : ∀ l : List Nat, RVs c H μ (l.map fun i => V.int (a + (i : Nat))) (l.map fun (i : Nat) => AV.int (a + i)) := fun l => by
    induction l with
    | nil => exact .nil
    | cons i l ih => exact .cons (.int _) ih
  exact go _
theorem pe_tupRgF {X : Cx} {e : Expr} {te : L2.St → Hp → (Int → Int → Hp → Prop) → Prop} {p pos : Pos} (hc : X.calm = true) (hg : Gl X "tuple") (hm : X.mg "tuple" = none) (he : PRg X e te) (na : starEach [e] X.env = (false, eval e X.env) :: starEach [] X.env) :
    PE X (.Call (.Name "tuple" p) [e] [] pos) (fun σ H Q => te σ H fun a b H1 => RgOk a b ∧ tupQ H1 Q (rgV a b)) := by
  refine ⟨fun pins s σ H Q I w => Call_ (ld_blt I hg hm boot_tuple (PyProof.Rows.callWith_type1 (args_cons (thn (he pins s σ H _ I w) fun x s1 hh => args_nil ?_) na) na))⟩
  obtain ⟨r, a, b, t, u, v, H1, rfl, hr, I1, ok, q⟩ := hh
  refine call_tuple_range (n := (b - a).toNat) (I1.ok.hd hc) hr (small_one ok.1 ok.2.1 ok.2.2.1 ok.2.2.2.1) (rangeSize_nat a b) ok.2.2.2.2 fun h' tk acc hk hi => ?_
  have I2 : Inv X pins σ H1 { s1 with heap := h', toks := tk } := I1.kept hk
  have z := tupEP (t' := tk) I2 (vals_rg hi) (by rw [rgV_length, sizeLine_eq]; have := ok.2.2.2.2; omega) q
  rw [Array.toArray_toList] at z
  exact z
/-- the bounds of a range -/
noncomputable def rgE (T : Tb) (R : Rec) (lo hi : E) (ρ : AEnv) (k : AV → AV → M AV) : M AV := match lo with
  | .nil => bnd (evE T R hi ρ) fun y => k (.int 0) y
  | _ => bnd (evE T R lo ρ) fun x => bnd (evE T R hi ρ) fun y => k x y
theorem rgE_some {lo hi : E} {ρ : AEnv} {k : AV → AV → M AV} (h : isNil lo = false) : rgE T R lo hi ρ k = bnd (evE T R lo ρ) fun x => bnd (evE T R hi ρ) fun y => k x y := by
  cases lo <;> first | rfl | (simp [isNil] at h; done)
theorem rgE_bnd {lo hi : E} {ρ : AEnv} {k : AV → AV → M AV} {g : AV → M AV} : bnd (rgE T R lo hi ρ k) g = rgE T R lo hi ρ fun x y => bnd (k x y) g := by
  unfold rgE
  split
  · rw [bnd_assoc]
  · rw [bnd_assoc]
    congr 1
    funext x
    rw [bnd_assoc]
theorem prg_of {lo hi : E} (sl : Snd T R lo) (sh : Snd T R hi) {X : Cx} {c : Ct} {k : Ck} {W : WX} {l : List Expr} {yp pos : Pos} (G : Gd X c T R k) (tk : Takes X W) (h1 : isGl k.sc "range" = true) (h2 : k.B "range" = true) (hp : l.all plainE = true)
    (h3 : rgC (ck lo).e (ck hi).e (isNil lo) k l = true) (kk : AV → AV → M AV) (Q : VK) : PRg X (.Call (.Name "range" yp) l [] pos) (fun σ H P => ∃ ρ h μ, RE c H μ σ ρ ∧ RH c H h μ ∧ wp (rgE T R lo hi ρ kk) (okP c H μ Q) (exP c H μ fun cls d H' => W cls d σ H') h ∧
          ∀ i j H' h' μ', RH c H' h' μ' → Ext H μ H' μ' → wp (kk i j) (okP c H' μ' Q) (exP c H' μ' fun cls d H' => W cls d σ H') h' → ∃ a b, i = .int a ∧ j = .int b ∧ P a b H') := by
  rw [G.sc] at h1
  have gl := gl_of h1
  have mg := G.blt _ h2
  match l, hp, h3 with
  | [q], hp, h3 =>
    have h3 : (isNil lo && (ck hi).e k q) = true := h3
    simp only [Bool.and_eq_true] at h3
    have en : lo = .nil := by cases lo <;> first | rfl | exact absurd h3.1 Bool.false_ne_true
    subst en
    intro pins s σ H P I ⟨ρ, h, μ, re, rh, w, f⟩
    refine prg_1 gl mg (sh.pe G tk h3.2) (star_plain hp) pins s σ H P I ?_
    refine (step (R := RVg c) re rh w).mono fun x H1 ⟨h1, μ1, a, x1, re1, rh1, ra, w1⟩ => ?_
    obtain ⟨i, j, e1, rfl, p⟩ := f _ _ H1 h1 μ1 rh1 x1 w1
    cases e1
    have ra : RV c H1 μ1 x (.int j) := ra
    cases ra
    exact ⟨j, rfl, p⟩
  | [r, q], hp, h3 =>
    have h3 : (!isNil lo && (ck lo).e k r && (ck hi).e k q) = true := h3
    simp only [Bool.and_eq_true, Bool.not_eq_true'] at h3
    simp only [List.all_cons, Bool.and_eq_true] at hp
    intro pins s σ H P I ⟨ρ, h, μ, re, rh, w, f⟩
    rw [rgE_some h3.1.1] at w
    refine prg_2 gl mg (sl.pe G tk h3.1.2) (sh.pe G tk h3.2) (star_cons hp.1) (star_cons hp.2.1) (back_plain (by simp [hp.2.1])) pins s σ H P I ?_
    refine (step (R := RVg c) re rh w).mono fun x H1 ⟨h1, μ1, a, x1, re1, rh1, ra, w1⟩ => (step (R := RVg c) re1 rh1 w1).mono fun y H2 ⟨h2, μ2, b, x2, re2, rh2, rb, w2⟩ => ?_
    obtain ⟨i, j, rfl, rfl, p⟩ := f _ _ H2 h2 μ2 rh2 (x1.trans x2) w2
    have ra : RV c H1 μ1 x (.int i) := ra
    have rb : RV c H2 μ2 y (.int j) := rb
    cases ra
    cases rb
    exact ⟨i, j, rfl, rfl, p⟩
  | [], _, h3 => exact absurd h3 Bool.false_ne_true
  | _ :: _ :: _ :: _, _, h3 => exact absurd h3 Bool.false_ne_true
theorem rgl_v {t : Bool} {x y v : AV} (e : rglV t x y = some v) : ∃ i j, x = .int i ∧ y = .int j ∧ RgOk i j ∧ v = if t = true then .tup (rngA i (j - i).toNat) else .lst (rngA i (j - i).toNat) := by
  cases x with
  | int i =>
    cases y with
    | int j =>
      simp only [rglV] at e
      split at e
      · rename_i h
        cases e
        exact ⟨i, j, rfl, rfl, h, rfl⟩
      · cases e
    | _ => cases e
  | _ => cases e
theorem s_rgl (t : Bool) {lo hi : E} (sl : Snd T R lo) (sh : Snd T R hi) : Snd T R (.rgl t lo hi) := by
  have fin : ∀ {c : Ct} {own : Bool} {Q : VK} {i j : Int} {H : Hp} {h : AH} {μ : Mu} {p : Addr}, RgOk i j → RH c H h μ → okL own c H μ Q (rngA i (j - i).toNat) h → H p = none → Q (.ref p) (upd H p (.lst (rgV i j))) := fun {c own Q i j H h μ p} ok rh q e =>
    q.new rh e (by rw [rgV_length, sizeLine_eq]; have := ok.2.2.2.2; omega) (rg_eq i j)
  refine .plain rfl rfl (fun {X c k W p} G tk h => ?_) (fun {X c k W p} G tk h => ?_)
  · split at h
    · rename_i x xp y yp l pos pos2
      simp only [Bool.and_eq_true, decide_eq_true_eq] at h
      obtain ⟨⟨⟨⟨⟨⟨⟨⟨hc, h1⟩, h2⟩, h3⟩, rfl⟩, h5⟩, h6⟩, h7⟩, h8⟩ := h
      rw [G.sc] at h2
      refine ⟨fun pins s σ H Q I ⟨ρ, h, μ, re, rh, w⟩ => ?_⟩
      have P := prg_of (yp := yp) (pos := pos) sl sh G tk h5 h6 h7 h8 (fun x y => lift fun _ => rglV t x y) Q
      have w : wp (rgE T R lo hi ρ fun x y => lift fun _ => rglV t x y) (okP c H μ Q) (exP c H μ fun cls d H' => W cls d σ H') h := w
      cases t with
      | true =>
        have h1 : x = "tuple" := h1
        subst h1
        refine (pe_tupRgF (G.cm hc) (gl_of h2) (G.blt _ h3) P rfl).run pins s σ H Q I ⟨ρ, h, μ, re, rh, w, fun i j H' h' μ' rh' x' w' => ?_⟩
        obtain ⟨v, e, q⟩ := wp_lift w'
        obtain ⟨a, b, rfl, rfl, ok, rfl⟩ := rgl_v e
        exact ⟨a, b, rfl, rfl, ok, fun p o e1 e2 => okP.new q rh' e1 (.tup upd_same e2 (rh'.free e1) (by rw [rgV_length, sizeLine_eq]; have := ok.2.2.2.2; omega) (rg_eq a b))⟩
      | false =>
        have h1 : x = "list" := h1
        subst h1
        refine (pe_listRg (G.cm hc) (gl_of h2) (G.blt _ h3) P rfl).run pins s σ H Q I ⟨ρ, h, μ, re, rh, w, fun i j H' h' μ' rh' x' w' => ?_⟩
        obtain ⟨v, e, q⟩ := wp_lift w'
        obtain ⟨a, b, rfl, rfl, ok, rfl⟩ := rgl_v e
        exact ⟨a, b, rfl, rfl, ok, fun p e1 => fin (own := false) ok rh' q e1⟩
    · cases h
  · rw [Bool.and_eq_true] at h
    obtain ⟨ht, h⟩ := h
    have ht : t = false := by simpa using ht
    subst ht
    dsimp only at h
    split at h
    · rename_i x xp y yp l pos pos2
      simp only [Bool.and_eq_true, decide_eq_true_eq] at h
      obtain ⟨⟨⟨⟨⟨⟨⟨⟨hc, h1⟩, h2⟩, h3⟩, rfl⟩, h5⟩, h6⟩, h7⟩, h8⟩ := h
      have h1 : x = "list" := h1
      subst h1
      rw [G.sc] at h2
      refine ⟨fun pins s σ H Q I ⟨ρ, h, μ, re, rh, w⟩ => ?_⟩
      have P := prg_of (yp := yp) (pos := pos) sl sh G tk h5 h6 h7 h8 (fun x y => bnd (lift fun _ => rglV false x y) ownK) Q
      have w : wp (bnd (rgE T R lo hi ρ fun x y => lift fun _ => rglV false x y) ownK) (okP c H μ Q) (exP c H μ fun cls d H' => W cls d σ H') h := w
      rw [rgE_bnd] at w
      refine (pe_listRg (G.cm hc) (gl_of h2) (G.blt _ h3) P rfl).run pins s σ H Q I ⟨ρ, h, μ, re, rh, w, fun i j H' h' μ' rh' x' w' => ?_⟩
      rw [wp_bnd] at w'
      obtain ⟨v, e, q⟩ := wp_lift w'
      obtain ⟨a, b, rfl, rfl, ok, rfl⟩ := rgl_v e
      exact ⟨a, b, rfl, rfl, ok, fun p e1 => fin (own := true) ok rh' q e1⟩
    · cases h
end
end Z

set_option Elab.async false
set_option linter.all false
set_option maxRecDepth 100000
set_option autoImplicit false
/-! ZV: t[::-1] of tuples; isinstance of built-in types. -/
namespace Z
open PySem PySem.Spec PyProof.Rows L2
section
variable {prog : Program} {w : World} {A : Around} {E : Value → Shared → Prop} {s : Shared}
theorem adjust_back (n : Nat) : Builtin.Slice.sliceAdjust none none (-1) (n : Int) = ((n : Int) - 1, -1) := by
  unfold Builtin.Slice.sliceAdjust
  simp
theorem places_back (n : Nat) : Builtin.Slice.slicePlaces ((n : Int) - 1) (-1) (-1) = n := by
  unfold Builtin.Slice.slicePlaces
  simp
  omega
theorem applied_back {sl : Addr} {vs : Value} {n : Nat} {Q : Int × Int × Nat → Shared → Prop} (hs : s.heap.IsSliceOf sl .none .none vs) (ps : IsPart vs (some (-1)))
    (h : Q ((n : Int) - 1, -1, n) s) : wpAny (model prog w) A (Builtin.Slice.sliceApplied (.ref sl) (pure (n : Int))) Q E s := by
  obtain ⟨os, hos, hcs, hds⟩ := id hs
  unfold Builtin.Slice.sliceApplied Builtin.Slice.sliceFields
  refine wpAny_bind (wpAny_bind (wpAny_field hos hds (x := .none) rfl (wpAny_bind (wpAny_field hos hds (x := .none) rfl (wpAny_bind (wpAny_field hos hds (x := vs) rfl (wpAny_pure ?_)))))))
  refine wpAny_bind (HT.slicePart_ ps ?_)
  show wpAny _ _ (if ((-1 : Int) == 0) = true then _ else _) _ _ s
  rw [if_neg (by decide)]
  refine wpAny_bind (HT.slicePart_ .none (wpAny_bind (HT.slicePart_ .none (wpAny_bind (wpAny_pure ?_)))))
  show wpAny _ _ (match Builtin.Slice.sliceAdjust none none (-1) (n : Int) with | (lo, hi) => pure (lo, (-1 : Int), Builtin.Slice.slicePlaces lo hi (-1))) _ _ s
  rw [adjust_back n]
  show wpAny _ _ (pure (((n : Int) - 1), (-1 : Int), Builtin.Slice.slicePlaces ((n : Int) - 1) (-1) (-1))) _ _ s
  rw [places_back]
  exact wpAny_pure h
theorem filterMap_some {α β : Type} {f : α → Option β} {g : α → β} : ∀ {l : List α}, (∀ x ∈ l, f x = some (g x)) → l.filterMap f = l.map g
  | [], _ => rfl
  | x :: l, h => by
    rw [List.filterMap_cons, h x (by simp), filterMap_some fun y hy => h y (by simp [hy])]
    rfl
theorem pick_back (xs : Array Value) : ((List.range xs.size).filterMap fun (k : Nat) => xs[(((xs.size : Int) - 1) + (k : Int) * (-1)).toNat]?).toArray = xs.toList.reverse.toArray := by
  congr 1
  apply List.ext_getElem?
  intro i
  have e : (List.range xs.size).filterMap (fun (k : Nat) => xs[(((xs.size : Int) - 1) + (k : Int) * (-1)).toNat]?) = (List.range xs.size).map (fun k => xs.toList[xs.size - 1 - k]?.getD .none) := by
    refine filterMap_some fun k hk => ?_
    have hk := List.mem_range.mp hk
    have e1 : (((xs.size : Int) - 1) + (k : Int) * (-1)).toNat = xs.size - 1 - k := by omega
    rw [e1, ← Array.getElem?_toList, List.getElem?_eq_getElem (by rw [Array.length_toList]; omega)]
    rfl
  rw [e, List.getElem?_map]
  by_cases hi : i < xs.size
  · rw [List.getElem?_range hi, List.getElem?_reverse (by rw [Array.length_toList]; exact hi), Array.length_toList, List.getElem?_eq_getElem (by rw [Array.length_toList]; omega)]
    show some (xs.toList[xs.size - 1 - i]?.getD Value.none) = _
    rw [List.getElem?_eq_getElem (by rw [Array.length_toList]; omega)]
    rfl
  · rw [List.getElem?_eq_none (by simpa using hi), List.getElem?_eq_none (by simpa using hi)]
    rfl
theorem getItem_back {t sl : Addr} {items : Array Value} {vs : Value} {Q : Value → Shared → Prop} (ht : IsTup s.heap t items) (hs : s.heap.IsSliceOf sl .none .none vs) (ps : IsPart vs (some (-1)))
    (h : Q (.ref s.heap.objs.size) { s with heap := s.heap.push { cls := .type "tuple", data := .seq items.toList.reverse.toArray } })
    (hsz : items.size ≤ sizeLine) : wpAny (model prog w) A (getItem (.ref t) (.ref sl)) Q E s := by
  have htake : sizeOk (.seq items.toList.reverse.toArray) := by
    show items.toList.reverse.toArray.size ≤ sizeLine
    rw [List.size_toArray, List.length_reverse, Array.length_toList]
    exact hsz
  obtain ⟨os, hos, hcs, hds⟩ := id hs
  have hTs : s.TypeIs (.ref sl) "slice" := ⟨os, hos, hcs⟩
  unfold getItem
  try with_reducible refine wpAny_holding ?_
  first | refine wpAny_bind (wpAny_pure ?_) | skip
  refine wpAny_bind (wpAny_sequenceKey ht.typeIs (by decide) ?_)
  refine wpAny_bind (wpAny_callSpecial?_slot (name := Str.ofString "__getitem__") ht.typeIs PyProof.Rows.slot_tuple_getitem
    (wpAny_call_entry PyProof.Rows.slot_tuple_getitem ht.typeIs entry_tuple_getitem ?_ (args_tuple_getitem _ _)))
  show wpAny _ _ (Builtin.Tuple.tupleItemsOf (.ref t) >>= _) _ _ s
  refine wpAny_bind (tupleItemsOf_ ht ?_)
  refine wpAny_bind (wpAny_typeOf hTs ?_)
  rw [if_pos (by decide)]
  refine wpAny_bind (applied_back hs ps ?_)
  have hno : ¬ ((((items.size : Int) - 1) == 0 && (-1 : Int) == 1 && items.size == items.size) = true) := by
    intro q
    rw [Bool.and_eq_true, Bool.and_eq_true] at q
    exact absurd (eq_of_beq q.1.2) (by decide)
  show wpAny _ _ (if (((items.size : Int) - 1) == 0 && (-1 : Int) == 1 && items.size == items.size) = true then _ else _) _ _ s
  rw [if_neg hno, pick_back]
  first
    | exact wpAny_bind (m := Builtin.Tuple.tupleExact _) (wpAny_newObj_type (wpAny_pure ⟨_, rfl, wpAny_pure h⟩) htake)
    | exact wpAny_bind (m := Builtin.Tuple.tupleExact _) (wpAny_newObj_type (wpAny_bind (wpAny_pure (wpAny_pure ⟨_, rfl, wpAny_pure h⟩))) htake)
    | exact wpAny_bind (wpAny_bind (m := Builtin.Tuple.tupleExact _) (wpAny_newObj_type (wpAny_pure (wpAny_pure ⟨_, rfl, wpAny_pure h⟩)) htake))
    | exact wpAny_bind (wpAny_bind (m := Builtin.Tuple.tupleExact _) (wpAny_newObj_type (wpAny_pure ⟨_, rfl, wpAny_pure h⟩) htake))
end
section
variable {X : Cx}
theorem pe_backT {e : Expr} {te : TE} {k : Nat} {p1 p2 p3 pos : Pos} (he : PE X e te) : PE X (.Subscript e (.Slice none none (some (.UnaryOp .USub (.Constant (.int 1) k p1) p2)) p3) pos) (fun σ H Q => te σ H fun x H1 => ∃ a xs, x = .ref a ∧ SqT X.K H1 a xs ∧ tupQ H1 Q xs.reverse) := by
  refine ⟨fun pins s σ H Q I h => ?_⟩
  refine Subscript_ (thn (he.run pins s σ H _ I h) fun v s1 ⟨x, H1, I1, r1, q1⟩ => ?_)
  obtain ⟨a, xs, ex, hx, q⟩ := q1
  subst ex
  cases r1
  have hst : PO X (some (.UnaryOp .USub (.Constant (.int 1) k p1) p2)) (tPart (tUn (rU fun i => .int (-i)) (tC (.int 1)))) := po_some (pe_un un_neg pe_int)
  refine wpAny_Slice (thn (po_none.run pins s1 σ H1 (fun o H2 => o = none ∧ H2 = H1) I1 ⟨rfl, rfl⟩) fun vl s2 ⟨l, H2, I2, pl, el, e2⟩ => ?_)
  subst el e2
  refine thn (po_none.run pins s2 σ H2 (fun o H3 => o = none ∧ H3 = H2) I2 ⟨rfl, rfl⟩) fun vu s3 ⟨u, H3, I3, pu, eu, e3⟩ => ?_
  subst eu e3
  refine thn (hst.run pins s3 σ H3 (fun o H4 => o = some (-1) ∧ H4 = H3) I3 ⟨1, rfl, -1, rfl, rfl, rfl⟩) fun vs s4 ⟨o, H4, I4, ps, eo, e4⟩ => ?_
  subst eo e4
  cases pl
  cases pu
  have I5 : Inv X pins σ H4 { s4 with heap := s4.heap.push { cls := .type "slice", data := .fields #[.none, .none, vs] } } := I4.kept (t' := s4.toks) fun b ob q => Heap.get?_push_of_some _ q
  obtain ⟨its, r, ht, hz⟩ := I5.tuple hx
  have hlen := r.length
  show wpAny (model X.prog X.w) X.A (subscriptTail e (.Slice none none (some (.UnaryOp .USub (.Constant (.int 1) k p1) p2)) p3) (.ref a) (.ref s4.heap.objs.size)) (EP X pins σ Q) X.xe { s4 with heap := s4.heap.push { cls := .type "slice", data := .fields #[.none, .none, vs] } }
  refine tail_any (ops := [.ref a, .ref s4.heap.objs.size]) ht.typeIs PyProof.Rows.slot_tuple_getitem.lookup ?_ (by with_unfolding_all rfl)
  exact getItem_back ht (Heap.IsSliceOf.new _ .none .none vs) ps (tupEP (t' := s4.toks) I5 r.reverse (by rw [List.length_reverse]; exact hz) q) (by rw [List.size_toArray]; omega)
end
section
variable {T : Tb} {R : Rec}
theorem s_rev {a : E} (sa : Snd T R a) : Snd T R (.rev a) := by
  refine .plain rfl rfl (fun {X c k W p} G tk h => ?_) (fun _ _ h => absurd h Bool.false_ne_true)
  split at h
  · refine pe_imp (pe_backT (sa.pe G tk h)) fun σ H Q ⟨ρ, h, μ, re, rh, w⟩ => ?_
    refine (step (R := RVg c) re rh w).mono fun x H1 ⟨h1, μ1, va, x1, re1, rh1, ra, w1⟩ => ?_
    cases va with
    | tup xs =>
      have ra : RV c H1 μ1 x (.tup xs) := ra
      obtain ⟨p, vs, rfl, sq, l, r⟩ := ra.tupS
      rw [G.K] at sq
      have q : okP c H1 μ1 Q (.tup xs.reverse) h1 := w1
      exact ⟨p, vs, rfl, sq, fun t o ht hd => q.new rh1 ht (.tup upd_same hd (rh1.free ht) (by rw [List.length_reverse]; exact l) (r.reverse.mono (rh1.ext ht)))⟩
    | _ => exact w1.elim
  · cases h
/-! ### isinstance -/
theorem boot_ty {x : Str} {n : String} (e : tyN x = some n) : bootBuiltins x = some (.type n) ∧ x ≠ "__name__" ∧ (x == ("__debug__" : Str)) = false := by
  unfold tyN at e
  split at e
  · rename_i h; subst h; cases e; decide +kernel
  · split at e
    · rename_i h; subst h; cases e; decide +kernel
    · split at e
      · rename_i h; subst h; cases e; decide +kernel
      · split at e
        · rename_i h; subst h; cases e; decide +kernel
        · split at e
          · rename_i h; subst h; cases e; decide +kernel
          · cases e
theorem tyN_mem {x : Str} {n : String} (e : tyN x = some n) : n ∈ ["bool", "int", "str", "tuple", "list"] := by
  unfold tyN at e
  repeat (split at e; · cases e; decide)
  cases e
theorem kindA_mem {h : AH} {v : AV} {a : String} (e : kindA h v = some a) : a ∈ ["NoneType", "bool", "int", "str", "tuple", "list"] := by
  unfold kindA at e
  split at e <;> first | (cases e; decide) | cases e | skip
  · split at e
    · cases e; decide
    · cases e
theorem kitB_all : ∀ a ∈ ["NoneType", "bool", "int", "str", "tuple", "list"], ∀ b ∈ ["bool", "int", "str", "tuple", "list"], kitB a b = some (kB a b) := by decide +kernel
theorem tyx_of {X : Cx} {c : Ct} {H : Hp} {μ : Mu} {h : AH} {V : V} {v : AV} {a : String} (hK : c.K = X.K) (rh : RH c H h μ) (r : RV c H μ V v) (e : kindA h v = some a) : TyX X.K H V (.type a) := by
  cases r with
  | non => cases e; exact .base .non
  | bl b => cases e; exact .base (.bl b)
  | int b => cases e; exact .base (.int b)
  | str b => cases e; exact .base (.str b)
  | rep d => cases e; exact .base (.str _)
  | tup hH _ _ _ _ => cases e; exact .fTuple hH
  | tupK hk _ _ =>
    cases e
    obtain ⟨o, its, n, h1, h2, _⟩ := hk
    rw [hK] at h1
    exact .kTuple h1 h2
  | lst hH _ _ _ => cases e; exact .base (.lst hH)
  | ext hH _ _ _ => cases e; exact .base (.frz hH)
  | extK hk _ _ =>
    cases e
    obtain ⟨o, its, n, h1, h2, _⟩ := hk
    rw [hK] at h1
    exact .kList h1 h2
  | ref hn =>
    simp only [kindA] at e
    split at e
    · rename_i xs hx
      cases e
      obtain ⟨b, hb, ro⟩ := rh.thing _ _ hx
      rw [hn] at hb
      cases hb
      cases ro with
      | lst hH _ _ => exact .base (.lst hH)
    · cases e
  | exn _ => cases e
def tyVs (ts : List Str) : List String := ts.filterMap tyN
theorem tyVs_cons {x : Str} {n : String} {ts : List Str} (e : tyN x = some n) : tyVs (x :: ts) = n :: tyVs ts := by
  unfold tyVs
  rw [List.filterMap_cons, e]
theorem tysL_pa {X : Cx} {c : Ct} {k : Ck} (G : Gd X c T R k) : ∀ {ts : List Str} {l : List Expr}, tysL k ts l = true → (∀ t ∈ ts, (tyN t).isSome = true) ∧ (tyVs ts).length = l.length ∧ PA X l (fun σ H Q => Q ((tyVs ts).map L2.V.ty) H)
  | [], [], _ => ⟨fun _ z => by simp at z, rfl, pa_nil⟩
  | x :: ts, .Name z p :: l, h => by
    have h : (decide (x = z) && isGl k.sc z && k.B z && (tyN z).isSome && tysL k ts l) = true := h
    simp only [Bool.and_eq_true, decide_eq_true_eq] at h
    obtain ⟨⟨⟨⟨rfl, h2⟩, h3⟩, h4⟩, h5⟩ := h
    obtain ⟨i1, i2, i3⟩ := tysL_pa G h5
    obtain ⟨n, en⟩ := Option.isSome_iff_exists.mp h4
    rw [G.sc] at h2
    obtain ⟨b1, b2, b3⟩ := boot_ty en
    refine ⟨fun t ht => ?_, by rw [tyVs_cons en, List.length_cons, i2, List.length_cons], ?_⟩
    · rcases List.mem_cons.mp ht with rfl | ht
      · exact h4
      · exact i1 t ht
    · rw [tyVs_cons en]
      exact pa_cons (pe_bltn (v := .ty n) (gl_of h2) (G.blt _ h3) b1 (show RelV (.ty n) (.type n) from rfl) b2 b3) i3 (star_cons rfl)
  | [], _ :: _, h => absurd h Bool.false_ne_true
  | _ :: _, [], h => absurd h Bool.false_ne_true
theorem kitAny_ty {K : PySem.W.Frag} {a : String} (ha : a ∈ ["NoneType", "bool", "int", "str", "tuple", "list"]) : ∀ {ts : List Str}, (∀ t ∈ ts, (tyN t).isSome = true) → PySem.W.kitAny K (.type a) ((tyVs ts).map Value.type) = some (ts.any fun t => match tyN t with
    | some b => kB a b
    | none => false)
  | [], _ => rfl
  | t :: ts, h => by
    obtain ⟨n, en⟩ := Option.isSome_iff_exists.mp (h t (by simp))
    rw [tyVs_cons en, List.map_cons, List.any_cons]
    simp only [en]
    have ih := kitAny_ty (K := K) ha (ts := ts) (fun x hx => h x (by simp [hx]))
    have k1 : PySem.W.kitOne K (.type a) (.type n) = some (kB a n) := kit_ty (kitB_all a ha n (tyN_mem en))
    refine kitAny_cons k1 (fun hb => ?_) (fun hb => ?_)
    · rw [ih, hb, Bool.false_or]
    · rw [hb, Bool.true_or]
theorem vals_ty : ∀ {ns : List String} {us : List Value}, Vals (ns.map L2.V.ty) us → us = ns.map Value.type
  | [], us, r => by cases r; rfl
  | n :: ns, us, r => by
    rw [List.map_cons] at r
    cases r with
    | cons h t =>
      rw [vals_ty t]
      cases h
      rfl
theorem s_isb {x : E} (ts : List Str) (a : Snd T R x) : Snd T R (.isb x ts) := by
  refine .plain rfl rfl (fun {X c k W p} G tk h => ?_) (fun _ _ h => absurd h Bool.false_ne_true)
  split at h
  · rename_i y yp q r pos
    simp only [Bool.and_eq_true, decide_eq_true_eq] at h
    obtain ⟨⟨⟨⟨⟨rfl, h2⟩, h3⟩, h4⟩, h5⟩, h6⟩ := h
    rw [G.sc] at h2
    have gl := gl_of h2
    have mg := G.blt _ h3
    have pr : plainE r = true := by
      cases r <;> first | rfl | exact absurd h5 Bool.false_ne_true
    -- the second argument
    obtain ⟨tr, pe, hr⟩ : ∃ tr : TE, PE X r tr ∧ ((∀ t ∈ ts, (tyN t).isSome = true) ∧ ∀ σ H Q, (∀ V H', (∃ n, tyVs ts = [n] ∧ V = .ty n ∧ H' = H) ∨ (∃ tp o, V = .ref tp ∧ H tp = none ∧ H' = upd H tp (.frz o (.tup ((tyVs ts).map L2.V.ty)))) → Q V H') → tr σ H Q) := by
      cases r <;> first | exact absurd h5 Bool.false_ne_true | skip
      · rename_i z zp
        have h5 : (decide (ts = [z]) && isGl k.sc z && k.B z && (tyN z).isSome) = true := h5
        simp only [Bool.and_eq_true, decide_eq_true_eq] at h5
        obtain ⟨⟨⟨rfl, g2⟩, g3⟩, g4⟩ := h5
        obtain ⟨n, en⟩ := Option.isSome_iff_exists.mp g4
        rw [G.sc] at g2
        obtain ⟨b1, b2, b3⟩ := boot_ty en
        refine ⟨_, pe_bltn (v := .ty n) (gl_of g2) (G.blt _ g3) b1 (show RelV (.ty n) (.type n) from rfl) b2 b3, fun t ht => by rw [List.mem_singleton.mp ht]; exact g4, fun σ H Q q => q _ _ (.inl ⟨n, tyVs_cons en, rfl, rfl⟩)⟩
      · rename_i l _ _
        cases l with
        | nil => exact absurd h5 Bool.false_ne_true
        | cons e l =>
          have h5 : (tysL k ts (e :: l) && decide (l.length < 100)) = true := h5
          rw [Bool.and_eq_true, decide_eq_true_eq] at h5
          obtain ⟨i1, i2, A⟩ := tysL_pa G h5.1
          refine ⟨_, pe_tupF A, i1, fun σ H Q q => ⟨by rw [List.length_map, i2, sizeLine_eq]; simp only [List.length_cons]; omega, fun p o e2 _ => q _ _ (.inr ⟨p, o, rfl, e2, rfl⟩)⟩⟩
    obtain ⟨hts, hr⟩ := hr
    have hpa := pa_cons (a.pe G tk h6) (pa_cons pe pa_nil (star_cons pr)) (star_cons h4)
    refine ⟨fun pins s σ H Q I ⟨ρ, h, μ, re, rh, w⟩ => ?_⟩
    refine wpAny_Call_Name_kw (ld_blt I gl mg PyProof.Rows.boot_isinstance ?_ (by decide) (by decide))
    refine PyProof.Rows.callWith_builtin1 (thn (hpa.run pos pins s σ H (fun us H1 => ∃ V1 V2 h1 μ1 v, us = [V1, V2] ∧ Ext H μ H1 μ1 ∧ RH c H1 h1 μ1 ∧ RV c H1 μ1 V1 v ∧ wp (lift fun h => (isB h v ts).map .bl) (okP c H1 μ1 Q) (exP c H1 μ1 fun cls d H' => W cls d σ H') h1 ∧
      ((∃ n, tyVs ts = [n] ∧ V2 = .ty n) ∨ ∃ tp o, V2 = .ref tp ∧ H1 tp = some (.frz o (.tup ((tyVs ts).map L2.V.ty))))) I ?_) fun us s1 ⟨vs', H1, I1, r1, V1, V2, h1, μ1, v, ev, x1, rh1, rv, w1, hc⟩ => ?_) (star_cons h4) (back_plain (by rw [List.all_cons, pr]; rfl))
    · refine (step (R := RVg c) re rh w).mono fun V1 H1 ⟨h1, μ1, v, x1, re1, rh1, rv, w1⟩ => ?_
      refine hr _ _ _ fun V2 H2 hc => ?_
      rcases hc with ⟨n, e1, e2, e3⟩ | ⟨tp, o, e1, e2, e3⟩
      · subst e3
        exact ⟨V1, V2, h1, μ1, v, rfl, x1, rh1, rv, w1, .inl ⟨n, e1, e2⟩⟩
      · subst e3
        have xl := rh1.ext (o := .frz o (.tup ((tyVs ts).map L2.V.ty))) e2
        exact ⟨V1, V2, h1, μ1, v, rfl, x1.trans xl, rh1.laid e2, RV.mono xl rv, wp_mono w1 (fun _ _ z => okG.later (R := RVg c) z xl) (fun _ _ z => exP.later z xl), .inr ⟨tp, o, e1, upd_same⟩⟩
    · subst ev
      cases r1 with
      | cons ru r1 =>
        cases r1 with
        | cons rw2 r1 =>
          cases r1
          obtain ⟨z, ez, q⟩ := wp_lift w1
          simp only [Option.map_eq_some_iff] at ez
          obtain ⟨b, eb, rfl⟩ := ez
          unfold isB at eb
          split at eb
          · rename_i a ea
            cases eb
            have ty := tyx_of G.K rh1 rv ea
            have ka := kitAny_ty (K := X.K) (kindA_mem ea) hts
            obtain ⟨P, Z, pp, hx⟩ := kit_of I1 ru ty
            rcases hc with ⟨n, e1, e2⟩ | ⟨tp, o, e1, e2⟩
            · subst e2
              cases rw2
              rw [e1] at ka
              have k1 : PySem.W.kitOne X.K (.type a) (.type n) = some (ts.any fun t => match tyN t with
                | some b => kB a b
                | none => false) := by
                have ka : PySem.W.kitAny X.K (.type a) [.type n] = _ := ka
                unfold PySem.W.kitAny at ka
                cases z : PySem.W.kitOne X.K (.type a) (.type n) with
                | none => rw [z] at ka; cases ka
                | some b1 =>
                  rw [z] at ka
                  cases b1 with
                  | true => exact ka
                  | false => exact ka
              exact PySem.W.kia_one Z I1.kIn pp k1 hx fun tk => ⟨.bl _, H1, I1.kept (t' := tk) fun _ _ z => z, rfl, q _ _ _ .refl rh1 (.bl _)⟩
            · subst e1
              cases rw2
              obtain ⟨its, rv2, ⟨o2, f1, f2, n, f3⟩, _⟩ := I1.tuple (xs := (tyVs ts).map L2.V.ty) (.inl (.inr ⟨o, e2⟩))
              have e3 := vals_ty rv2
              subst e3
              obtain ⟨oc, od, oda, osl⟩ := o2
              dsimp only at f2 f3
              subst f2 f3
              exact PySem.W.kia_tup Z I1.kIn pp f1 ka hx fun tk => ⟨.bl _, H1, I1.kept (t' := tk) fun _ _ z => z, rfl, q _ _ _ .refl rh1 (.bl _)⟩
          · cases eb
  · cases h
/-! ### a written dict of texts, asked at once -/
def dKv (p : Str × Str) : Key × V := (.inr p.1, .str p.2)
theorem merge_app : ∀ {more kvs : List (Key × V)}, ((kvs ++ more).map (·.1)).Nodup → mergeK kvs more = kvs ++ more
  | [], kvs, _ => (List.append_nil kvs).symm
  | p :: more, kvs, h => by
    show mergeK (putK kvs p.1 p.2) more = _
    have np : ¬ (kvs.any fun kv => decide (kv.1 = p.1)) = true := fun z => by
      rw [List.any_eq_true] at z
      obtain ⟨q, hq, e⟩ := z
      rw [decide_eq_true_eq] at e
      rw [List.map_append, List.map_cons, List.nodup_append] at h
      exact h.2.2 _ (List.mem_map.mpr ⟨q, hq, e⟩) _ (List.mem_cons_self ..) rfl
    have e : putK kvs p.1 p.2 = kvs ++ [p] := by
      unfold putK
      rw [if_neg np]
    rw [e, merge_app (by rw [List.append_assoc]; exact h), List.append_assoc]
    rfl
theorem val_tab {x y : Str} : ∀ {tab : List (Str × Str)}, tab.lookup x = some y → valV (tab.map dKv) (Sum.inr x : Key) = some (.str y)
  | [], h => by cases h
  | p :: t, h => by
    rw [List.lookup_cons] at h
    rw [List.map_cons]
    by_cases e : p.1 = x
    · have : (x == p.1) = true := by rw [e]; exact beq_self_eq_true x
      rw [this] at h
      cases h
      exact valV_pos (by show Sum.inr p.1 = _; rw [e])
    · have : (x == p.1) = false := by simpa using fun z : x = p.1 => e z.symm
      rw [this] at h
      have ih := val_tab h
      unfold valV at *
      rw [List.find?_cons]
      have : decide ((dKv p).1 = (Sum.inr x : Key)) = false := decide_eq_false fun z => e (Sum.inr.inj z)
      rw [this]
      exact ih
theorem dsel_pps {X : Cx} {pos : Pos} : ∀ {tab : List (Str × Str)} {ks : List (Option Expr)} {vs : List Expr}, dselC tab ks vs = true →
    PPs X pos ks vs (tab.map fun p => (tC (.str p.1), tC (.str p.2))) ∧ ks.all (·.isSome) = true ∧ ks.length = tab.length ∧ vs.length = tab.length ∧ ∀ p ∈ tab, PyData.strOk p.2 = true ∧ p.2.length ≤ 1000
  | [], [], [], _ => ⟨pps_nil, rfl, rfl, rfl, fun _ z => by simp at z⟩
  | p :: t, k :: ks, v :: vs, h => by
    unfold dselC at h
    split at h
    · cases ‹_ :: _ = []›
    · rename_i p1 t1 a _ _ ks1 b _ _ vs1 e1 e2 e3
      cases e1
      cases e2
      cases e3
      simp only [Bool.and_eq_true, decide_eq_true_eq] at h
      obtain ⟨⟨⟨⟨h1, h2⟩, h3⟩, h4⟩, h5⟩ := h
      obtain ⟨i1, i2, i3, i4, i5⟩ := dsel_pps (X := X) (pos := pos) h5
      refine ⟨?_, by rw [List.all_cons, i2]; rfl, by rw [List.length_cons, List.length_cons, i3], by rw [List.length_cons, List.length_cons, i4], fun q hq => ?_⟩
      · rw [List.map_cons, h1, h2]
        exact pps_cons pe_str pe_str i1
      · rcases List.mem_cons.mp hq with rfl | hq
        · rw [h2]
          exact ⟨h3, h4⟩
        · exact i5 q hq
    · cases h
  | [], _ :: _, _, h => by unfold dselC at h; exact absurd h Bool.false_ne_true
  | [], [], _ :: _, h => by unfold dselC at h; exact absurd h Bool.false_ne_true
  | _ :: _, [], _, h => by unfold dselC at h; exact absurd h Bool.false_ne_true
  | _ :: _, _ :: _, [], h => by
    unfold dselC at h
    split at h
    · cases ‹_ :: _ = []›
    · cases ‹[] = _ :: _›
    · cases h
theorem dsel_pairs {σ : L2.St} : ∀ {tab : List (Str × Str)} {H : Hp} {Q : List (V × V) → Hp → Prop}, Q (tab.map fun p => (V.str p.1, V.str p.2)) H → tPairs (tab.map fun p => (tC (.str p.1), tC (.str p.2))) σ H Q
  | [], _, _, q => q
  | p :: t, H, Q, q => dsel_pairs (tab := t) (Q := fun ps H3 => Q ((V.str p.1, V.str p.2) :: ps) H3) q
theorem lookup_mem {x y : Str} : ∀ {tab : List (Str × Str)}, tab.lookup x = some y → ∃ p ∈ tab, p.2 = y
  | [], h => by cases h
  | p :: t, h => by
    rw [List.lookup_cons] at h
    split at h
    · cases h
      exact ⟨p, List.mem_cons_self .., rfl⟩
    · obtain ⟨q, hq, e⟩ := lookup_mem h
      exact ⟨q, List.mem_cons_of_mem _ hq, e⟩
theorem s_dsel {a : E} (tab : List (Str × Str)) (sa : Snd T R a) : Snd T R (.dsel tab a) := by
  refine .plain rfl rfl (fun {X c k W p} G tk h => ?_) (fun _ _ h => absurd h Bool.false_ne_true)
  split at h
  · rename_i keys values dpos q pos
    simp only [Bool.and_eq_true, decide_eq_true_eq] at h
    obtain ⟨⟨⟨⟨⟨h1, h2⟩, h3⟩, h4⟩, h5⟩, h6⟩ := h
    obtain ⟨i1, i2, i3, i4, i5⟩ := dsel_pps (X := X) (pos := dpos) h2
    have hu : X.A.units + 1 < cLine := by have := G.un; omega
    have k0 : keys ≠ [] := fun z => h3 (List.eq_nil_of_length_eq_zero (by rw [← i3, z]; rfl))
    refine pe_imp (pe_dget hu (pe_disp i1 i2 (by rw [i3, i4]) k0 (by rw [i3]; exact h4)) (sa.pe G tk h6) (by cases q <;> first | (exact fun _ _ => rfl) | (simp [notSlice] at h1; done))) fun σ H Q ⟨ρ, h, μ, re, rh, w⟩ => ?_
    intro pd hp
    refine dsel_pairs ⟨upd_same, tab.map dKv, by rw [List.map_map]; rfl, by rw [List.length_map]; exact h4, ?_⟩
    rw [upd_upd, merge_app (by
      rw [List.nil_append, List.map_map]
      have e : (tab.map ((·.1) ∘ dKv)) = (tab.map (·.1)).map (Sum.inr : Str → Key) := by rw [List.map_map]; rfl
      rw [e]
      exact List.pairwise_map.mpr (h5.imp fun {a b} ne z => ne (Sum.inr.inj z))), List.nil_append]
    have xl : Ext H μ (upd H pd (.dK (tab.map dKv))) μ := rh.ext hp
    have w' := wp_mono w (fun _ _ z => okG.later (R := RVg c) z xl) (fun _ _ z => exP.later z xl)
    refine (step (R := RVg c) (re.mono xl) (rh.laid hp) w').mono fun y H2 ⟨h2', μ2, va, x2, re2, rh2, ra, w2⟩ => ?_
    cases va with
    | str x =>
      have ra : RV c H2 μ2 y (.str x) := ra
      cases ra with
      | str _ _ _ =>
        have at2 : H2 pd = some (.dK (tab.map dKv)) := x2.keep pd _ upd_same (rh.free hp)
        simp only at w2
        cases el : tab.lookup x with
        | none => rw [el] at w2; exact w2.elim
        | some v =>
          rw [el] at w2
          obtain ⟨p, hp2, e⟩ := lookup_mem el
          have ok := i5 p hp2
          rw [e] at ok
          refine ⟨pd, .str v, rfl, ?_, w2 _ _ _ .refl rh2 (.str v ok.1 (by rw [sizeLine_eq]; omega))⟩
          have := DGet.k (k := (Sum.inr x : Key)) at2
          rw [val_tab el] at this
          exact this
    | _ => exact w2.elim
  · cases h
/-! ### a table of the text, asked -/
theorem s_gsel {a : E} (x : Str) (sa : Snd T R a) : Snd T R (.gsel x a) := by
  refine .plain rfl rfl (fun {X c k W p} G tk h => ?_) (fun _ _ h => absurd h Bool.false_ne_true)
  split at h
  · simp only [Bool.and_eq_true, decide_eq_true_eq] at h
    obtain ⟨⟨⟨⟨h1, h2⟩, h3⟩, h4⟩, h5⟩ := h
    subst h1
    rw [G.sc] at h2
    obtain ⟨d1, d2, _⟩ := dbg_of h3
    cases e : T.gd x with
    | none =>
      refine ⟨fun pins s σ H Q I ⟨ρ, h, μ, re, rh, w⟩ => ?_⟩
      exact (show False from w).elim
    | some tab =>
      obtain ⟨p, h6, h7⟩ := G.gdc x tab e
      refine pe_imp (pe_ix ix_kdict (pe_glob (gl_of h2) h6 (show RelV (.ref p) (.ref p) from rfl) d1) (sa.pe G tk h5) (sub_plain h4)) fun σ H Q ⟨ρ, h, μ, re, rh, w⟩ => ?_
      refine (step re rh w).mono fun y H2 ⟨h2, μ2, vb, x2, re2, rh2, rb, w2⟩ => ?_
      obtain ⟨v, e2, q⟩ := wp_lift w2
      cases vb with
      | str z =>
        cases rb with
        | str _ _ _ =>
          obtain ⟨V, h8, h9⟩ := h7 z v e2
          exact ⟨p, z, V, rfl, rfl, h8, q _ _ _ .refl rh2 (h9 _ _)⟩
      | _ => cases e2
  · cases h
/-! ### a written dict of ints, asked by get -/
def dKi (p : Str × Int) : Key × V := (.inr p.1, .int p.2)
theorem val_tabI {x : Str} {d : Int} : ∀ {tab : List (Str × Int)}, (valV (tab.map dKi) (Sum.inr x : Key)).getD (.int d) = .int ((tab.lookup x).getD d)
  | [] => rfl
  | p :: t => by
    rw [List.lookup_cons, List.map_cons]
    by_cases e : p.1 = x
    · have : (x == p.1) = true := by rw [e]; exact beq_self_eq_true x
      rw [this, valV_pos (by show Sum.inr p.1 = _; rw [e])]
      rfl
    · have : (x == p.1) = false := by simpa using fun z : x = p.1 => e z.symm
      rw [this]
      have ih := val_tabI (x := x) (d := d) (tab := t)
      unfold valV at *
      rw [List.find?_cons]
      have : decide ((dKi p).1 = (Sum.inr x : Key)) = false := decide_eq_false fun z => e (Sum.inr.inj z)
      rw [this]
      exact ih
theorem dget_pps {X : Cx} {pos : Pos} : ∀ {tab : List (Str × Int)} {ks : List (Option Expr)} {vs : List Expr}, dgetC tab ks vs = true →
    PPs X pos ks vs (tab.map fun p => (tC (.str p.1), tC (.int p.2))) ∧ ks.all (·.isSome) = true ∧ ks.length = tab.length ∧ vs.length = tab.length
  | [], [], [], _ => ⟨pps_nil, rfl, rfl, rfl⟩
  | p :: t, k :: ks, v :: vs, h => by
    unfold dgetC at h
    split at h
    · cases ‹_ :: _ = []›
    · rename_i p1 t1 a _ _ ks1 b _ _ vs1 e1 e2 e3
      cases e1
      cases e2
      cases e3
      simp only [Bool.and_eq_true, decide_eq_true_eq] at h
      obtain ⟨⟨h1, h2⟩, h5⟩ := h
      obtain ⟨i1, i2, i3, i4⟩ := dget_pps (X := X) (pos := pos) h5
      refine ⟨?_, by rw [List.all_cons, i2]; rfl, by rw [List.length_cons, List.length_cons, i3], by rw [List.length_cons, List.length_cons, i4]⟩
      rw [List.map_cons, h1, h2]
      exact pps_cons pe_str pe_int i1
    · cases h
  | [], _ :: _, _, h => by unfold dgetC at h; exact absurd h Bool.false_ne_true
  | [], [], _ :: _, h => by unfold dgetC at h; exact absurd h Bool.false_ne_true
  | _ :: _, [], _, h => by unfold dgetC at h; exact absurd h Bool.false_ne_true
  | _ :: _, _ :: _, [], h => by
    unfold dgetC at h
    split at h
    · cases ‹_ :: _ = []›
    · cases ‹[] = _ :: _›
    · cases h
theorem dget_pairs {σ : L2.St} : ∀ {tab : List (Str × Int)} {H : Hp} {Q : List (V × V) → Hp → Prop}, Q (tab.map fun p => (V.str p.1, V.int p.2)) H → tPairs (tab.map fun p => (tC (.str p.1), tC (.int p.2))) σ H Q
  | [], _, _, q => q
  | p :: t, H, Q, q => dget_pairs (tab := t) (Q := fun ps H3 => Q ((V.str p.1, V.int p.2) :: ps) H3) q
theorem s_dget {a : E} (tab : List (Str × Int)) (d : Int) (sa : Snd T R a) : Snd T R (.dget tab a d) := by
  refine .plain rfl rfl (fun {X c k W p} G tk h => ?_) (fun _ _ h => absurd h Bool.false_ne_true)
  split at h
  · rename_i keys values dpos nm ap q j _ _ pos
    simp only [Bool.and_eq_true, decide_eq_true_eq] at h
    obtain ⟨⟨⟨⟨⟨⟨⟨⟨h1, h2⟩, h3⟩, h4⟩, h5⟩, h6⟩, h7⟩, h8⟩, h9⟩ := h
    subst h1 h8
    obtain ⟨i1, i2, i3, i4⟩ := dget_pps (X := X) (pos := dpos) h2
    have hu : X.A.units + 1 < cLine := by have := G.un; omega
    have k0 : keys ≠ [] := fun z => h3 (List.eq_nil_of_length_eq_zero (by rw [← i3, z]; rfl))
    have m2 : ∀ {f : Expr} (hf : plainE f = true), M2 X (.Dict keys values dpos) "get" ap q f pos := fun {f} hf => ⟨attr_plain rfl, few_plain (l := [q, f]) (by simp [h6, hf]) (by simp), h7, by
      rw [star_cons h6, star_cons hf]
      rfl⟩
    refine pe_imp (pe_dget2 hu (pe_disp i1 i2 (by rw [i3, i4]) k0 (by rw [i3]; exact h4)) (sa.pe G tk h9) pe_int (m2 rfl)) fun σ H Q ⟨ρ, h, μ, re, rh, w⟩ => ?_
    intro pd hp
    refine dget_pairs ⟨upd_same, tab.map dKi, by rw [List.map_map]; rfl, by rw [List.length_map]; exact h4, ?_⟩
    rw [upd_upd, merge_app (by
      rw [List.nil_append, List.map_map]
      have e : (tab.map ((·.1) ∘ dKi)) = (tab.map (·.1)).map (Sum.inr : Str → Key) := by rw [List.map_map]; rfl
      rw [e]
      exact List.pairwise_map.mpr (h5.imp fun {a b} ne z => ne (Sum.inr.inj z))), List.nil_append]
    have xl : Ext H μ (upd H pd (.dK (tab.map dKi))) μ := rh.ext hp
    have w' := wp_mono w (fun _ _ z => okG.later (R := RVg c) z xl) (fun _ _ z => exP.later z xl)
    refine ⟨pd, rfl, .inl ⟨_, .inl upd_same⟩, ?_⟩
    refine (step (R := RVg c) (re.mono xl) (rh.laid hp) w').mono fun y H2 ⟨h2', μ2, va, x2, re2, rh2, ra, w2⟩ => ?_
    cases va with
    | str x =>
      have ra : RV c H2 μ2 y (.str x) := ra
      cases ra with
      | str _ _ _ =>
        have at2 : H2 pd = some (.dK (tab.map dKi)) := x2.keep pd _ upd_same (rh.free hp)
        refine ⟨_, DGet.k (k := (Sum.inr x : Key)) at2, ?_⟩
        rw [val_tabI]
        exact w2 _ _ _ .refl rh2 (.int _)
    | _ => exact w2.elim
  · cases h
end
end Z

set_option Elab.async false
set_option linter.all false
set_option maxRecDepth 100000
set_option autoImplicit false
set_option maxHeartbeats 1000000
/-! ZK: targets, comprehensions; every term's reading. -/
namespace Z
open PySem PySem.Spec PyProof.Rows L2
/-! ### targets -/
/-- the slots of a target, set -/
def Same (t : Tg) (σ σ' : L2.St) : Prop := ∀ vs : List Nat, (tgSlots t).all (fun i => vs.contains i) = true → wipe σ' vs = wipe σ vs
theorem wipe_set {σ : L2.St} {i : Nat} {v : Option V} : ∀ {vs : List Nat}, i ∈ vs → wipe (σ.set i v) vs = wipe σ vs
  | [], h => by cases h
  | j :: vs, h => by
    unfold wipe
    by_cases e : i ∈ vs
    · rw [wipe_set e]
    · have ij : i = j := by
        rcases List.mem_cons.mp h with h | h
        · exact h
        · exact absurd h e
      subst ij
      have go : ∀ {vs : List Nat}, i ∉ vs → wipe (σ.set i v) vs = (wipe σ vs).set i v := fun {vs} => by
        induction vs with
        | nil => intro _; rfl
        | cons k vs ih =>
          intro n
          unfold wipe
          rw [ih fun z => n (List.mem_cons_of_mem _ z)]
          exact List.set_comm _ _ fun z => n (by rw [z]; exact List.mem_cons_self)
      rw [go e, List.set_set]
def gT (c : Ct) (t : Tg) : TG := fun v σ H Q => ∃ ρ h μ a ρ', RE c H μ σ ρ ∧ RH c H h μ ∧ RV c H μ v a ∧ bindT t a ρ = some ρ' ∧ ∀ σ', RE c H μ σ' ρ' → Same t σ σ' → Q σ' H
def gTs (c : Ct) (t : Tg) : TGs := fun vs σ H Q => ∃ ρ h μ as ρ', RE c H μ σ ρ ∧ RH c H h μ ∧ RVs c H μ vs as ∧ bindT t (.tup as) ρ = some ρ' ∧ ∀ σ', RE c H μ σ' ρ' → Same t σ σ' → Q σ' H
theorem bindT_len {k : Ck} : ∀ {t : Tg} {l : List Expr} {as : List AV} {ρ ρ' : AEnv}, chkTgs k t l = true → bindT t (.tup as) ρ = some ρ' → as.length = l.length
  | .var _, _, _, _, _, h, _ => absurd h Bool.false_ne_true
  | .nil, [], [], _, _, _, _ => rfl
  | .nil, [], _ :: _, _, _, _, e => by cases e
  | .nil, _ :: _, _, _, _, h, _ => absurd h Bool.false_ne_true
  | .cons t u, [], _, _, _, h, _ => absurd h Bool.false_ne_true
  | .cons t u, q :: qs, [], _, _, _, e => by cases e
  | .cons t u, q :: qs, a :: as, ρ, ρ', h, e => by
    have h : ((ckTg t).one k q && (ckTg u).row k qs) = true := h
    rw [Bool.and_eq_true] at h
    simp only [bindT] at e
    split at e
    · simp only [List.length_cons, bindT_len h.2 e]
    · cases e
theorem asg_plain {env : Env} : ∀ {l : List Expr}, l.all plainE = true → assignEach l env = l.map fun e => (false, assign e env)
  | [], _ => rfl
  | e :: l, h => by
    simp only [List.all_cons, Bool.and_eq_true] at h
    have ih := asg_plain (env := env) h.2
    cases e <;> first | (simp [plainE] at h; done) | (simp only [assignEach, List.map_cons, ih])
theorem tg_plain1 {k : Ck} {t : Tg} {p : Expr} (h : chkTg k t p = true) : plainE p = true := by
  cases p <;> first | rfl | (cases t <;> exact absurd h Bool.false_ne_true)
theorem tgs_plain {k : Ck} : ∀ {t : Tg} {l : List Expr}, chkTgs k t l = true → l.all plainE = true
  | .var _, _, h => absurd h Bool.false_ne_true
  | .nil, [], _ => rfl
  | .nil, _ :: _, h => absurd h Bool.false_ne_true
  | .cons t u, [], h => absurd h Bool.false_ne_true
  | .cons t u, q :: qs, h => by
    have h : ((ckTg t).one k q && (ckTg u).row k qs) = true := h
    rw [Bool.and_eq_true] at h
    rw [List.all_cons, tg_plain1 h.1, tgs_plain h.2]
    rfl
theorem RVs.cons_inv {c : Ct} {H : Hp} {μ : Mu} {vs : List V} {a : AV} {as : List AV} (r : RVs c H μ vs (a :: as)) : ∃ v ws, vs = v :: ws ∧ RV c H μ v a ∧ RVs c H μ ws as := by
  cases r with
  | cons r t => exact ⟨_, _, rfl, r, t⟩
theorem pg_both {T : Tb} {R : Rec} (t : Tg) : (∀ {X : Cx} {c : Ct} {k : Ck} {p : Expr}, Gd X c T R k → chkTg k t p = true → PG X p (gT c t)) ∧ (∀ {X : Cx} {c : Ct} {k : Ck} {l : List Expr}, Gd X c T R k → chkTgs k t l = true → PGs X l (gTs c t)) := by
  have tup : ∀ {X : Cx} {c : Ct} {k : Ck} {t : Tg} {l : List Expr} {n : Nat} {pos : Pos}, Gd X c T R k → k.cm = true → (∀ a ρ ρ', bindT t a ρ = some ρ' → ∃ as, a = .tup as ∨ ∃ i, t = .var i) → (∀ i, t ≠ .var i) → chkTgs k t l = true → PGs X l (gTs c t) → PG X (.Tuple l n pos) (gT c t) := fun {X c k t l n pos} G hm hb hv hc ih => by
    have pl := asg_plain (env := X.env) (tgs_plain hc)
    have base := pg_tup (k := n) (pos := pos) (n := l.length) (G.cm hm) ih (by rw [pl, List.length_map]) (by
      rw [pl, List.findIdx?_eq_none_iff]
      intro x hx
      simp only [List.mem_map] at hx
      obtain ⟨e, _, rfl⟩ := hx
      rfl)
    refine ⟨fun pins s σ H v u Q I r w => base.run pins s σ H v u Q I r ?_⟩
    obtain ⟨ρ, h, μ, a, ρ', re, rh, ra, eb, q⟩ := w
    obtain ⟨as, e⟩ := hb _ _ _ eb
    have e : a = .tup as := by
      rcases e with e | ⟨i, e⟩
      · exact e
      · exact absurd e (hv i)
    subst e
    obtain ⟨p, vs, rfl, sq, _, r2⟩ := ra.tupS
    rw [G.K] at sq
    exact ⟨p, vs, rfl, sq, by rw [r2.length, bindT_len hc eb], ρ, h, μ, as, ρ', re, rh, r2, eb, q⟩
  induction t with
  | var i =>
    refine ⟨fun {X c k p} G h => ?_, fun _ h => absurd h Bool.false_ne_true⟩
    simp only [chkTg, ckTg] at h
    split at h
    · rename_i x pos
      rw [Bool.and_eq_true, decide_eq_true_eq, G.N] at h
      obtain ⟨h1, h2⟩ := h
      have lo : Loc X.env.scope x ∧ (X.fn x = true ∨ X.env.scope.names.lookup x = some .local) := by
        rw [G.sc] at h2
        split at h2
        · rename_i z; exact ⟨.inl z, .inr z⟩
        · rename_i z; exact ⟨.inr z, .inl (G.fl _ h2)⟩
        · cases h2
      have base := pg_name (X := X) (pos := pos) G.nd h1 lo.1 lo.2
      refine ⟨fun pins s σ H v u Q I r w => base.run pins s σ H v u Q I r ?_⟩
      obtain ⟨ρ, h, μ, a, ρ', re, rh, ra, eb, q⟩ := w
      simp only [bindT] at eb
      split at eb
      · cases eb
        exact q _ (re.set ra) fun vs hv => wipe_set (by simpa [tgSlots] using hv)
      · cases eb
    · cases h
  | nil =>
    have two : ∀ {X : Cx} {c : Ct} {k : Ck} {l : List Expr}, Gd X c T R k → chkTgs k .nil l = true → PGs X l (gTs c .nil) := fun {X c k l} G h => by
      match l, h with
      | [], _ =>
        refine ⟨fun pins s σ H v u Q I r w => pgs_nil.run pins s σ H v u Q I r ?_⟩
        obtain ⟨ρ, h, μ, as, ρ', re, rh, ra, eb, q⟩ := w
        match as, eb, ra with
        | [], eb, ra =>
          cases eb
          cases ra
          exact ⟨rfl, q _ re fun _ _ => rfl⟩
        | _ :: _, eb, _ => cases eb
      | _ :: _, h => exact absurd h Bool.false_ne_true
    refine ⟨fun {X c k p} G h => ?_, two⟩
    simp only [chkTg, ckTg] at h
    split at h
    · refine tup G h (fun a ρ ρ' e => ?_) (fun i z => by cases z) (l := []) rfl (two G rfl)
      cases a <;> first | exact ⟨_, .inl rfl⟩ | cases e
    · cases h
  | cons t u iht ihu =>
    have two : ∀ {X : Cx} {c : Ct} {k : Ck} {l : List Expr}, Gd X c T R k → chkTgs k (.cons t u) l = true → PGs X l (gTs c (.cons t u)) := fun {X c k l} G h => by
      match l, h with
      | [], h => exact absurd h Bool.false_ne_true
      | q :: qs, h =>
        have h : ((ckTg t).one k q && (ckTg u).row k qs) = true := h
        rw [Bool.and_eq_true] at h
        have base := pgs_cons (iht.1 G h.1) (ihu.2 G h.2) (by
          rw [asg_plain (tgs_plain h.2)]
          have hp := tg_plain1 h.1
          cases q <;> first | (simp [plainE] at hp; done) | (simp only [assignEach, List.map_cons, asg_plain (tgs_plain h.2)]))
        refine ⟨fun pins s σ H v w Q I r z => base.run pins s σ H v w Q I r ?_⟩
        obtain ⟨ρ, h0, μ, as, ρ', re, rh, ra, eb, q⟩ := z
        match as, eb, ra with
        | [], eb, _ => cases eb
        | a :: as, eb, ra =>
          obtain ⟨v1, ws, rfl, r1, r2⟩ := ra.cons_inv
          simp only [bindT] at eb
          split at eb
          · rename_i ρ1 e1
            refine ⟨v1, ws, rfl, ρ, h0, μ, a, ρ1, re, rh, r1, e1, fun σ1 re1 s1 => ⟨ρ1, h0, μ, as, ρ', re1, rh, r2, eb, fun σ2 re2 s2 => q _ re2 fun vs hv => ?_⟩⟩
            have hv : (tgSlots t ++ tgSlots u).all (fun i => vs.contains i) = true := hv
            rw [List.all_append, Bool.and_eq_true] at hv
            rw [s2 vs hv.2, s1 vs hv.1]
          · cases eb
    refine ⟨fun {X c k p} G h => ?_, two⟩
    simp only [chkTg, ckTg] at h
    split at h
    · simp only [Bool.and_eq_true] at h
      obtain ⟨⟨h1, h2⟩, h3⟩ := h
      have hh : chkTgs k (.cons t u) (_ :: _) = true := (show (_ && _) = true by rw [h2, h3]; rfl)
      refine tup G h1 (fun a ρ ρ' e => ?_) (fun i z => by cases z) hh (two G hh)
      cases a <;> first | exact ⟨_, .inl rfl⟩ | cases e
    · cases h
theorem pg_of {T : Tb} {R : Rec} {t : Tg} {X : Cx} {c : Ct} {k : Ck} {p : Expr} (G : Gd X c T R k) (h : chkTg k t p = true) : PG X p (gT c t) := (pg_both t).1 G h

/-! ### comprehensions -/
theorem Gd.blk {X : Cx} {c : Ct} {T : Tb} {R : Rec} {k : Ck} (G : Gd X c T R k) (hc : k.cm = true) {s : Shared} {H : Hp} {scope : Scope} {cl : List (Str × Addr)} {C : Addr} {fp : List Addr} : Gd (X.blk s H scope (compEnvC scope cl C X.env) fp) c T R (k.blk scope) where
  K := G.K
  w := G.w
  nd := G.nd
  N := G.N
  sc := by
    show relS scope k.sc = relabel scope X.env
    rw [G.sc]
    rfl
  cm := G.cm
  fl := fun x h => h
  un := G.un
  gd := G.gd
  glb := G.glb
  gdc := G.gdc
  blt := G.blt
  df := fun f h => by
    obtain ⟨fa, m, h1, h2, h3, h4⟩ := G.df f h
    refine ⟨fa, m, h1, h2, h3, h4.imp (fun z => ⟨z.go⟩) fun z => z.imp (fun z => ⟨z.go⟩) fun z => z⟩
  mt := fun C m h => by
    obtain ⟨Ca, fa, n, h1, h2, h3, h4, h5⟩ := G.mt C m h
    exact ⟨Ca, fa, n, h1, h2, h3, h4, h5.imp (fun z => ⟨z.go⟩) fun z => z.imp (fun z => ⟨z.go⟩) fun z => z⟩
  fd := G.fd
  ex := fun x h => by
    obtain ⟨Ca, h1, h2, h3, h4, h5, h6⟩ := G.ex x h
    exact ⟨Ca, h1, h2, h3, h4, h5, h6⟩
  im := G.im
  isa := G.isa
  isv := G.isv
  xs := fun a x h => by
    have z := (G.xs a x h).1
    rw [hc] at z
    cases z

theorem ownOf_slots {N : List Str} {vs : List Nat} : (ownOf N vs).map (·.2) = vs := by
  unfold ownOf
  rw [List.map_map]
  show vs.map id = vs
  exact List.map_id _
section
variable {c : Ct} {H H' : Hp} {μ μ' : Mu}
/-- a new list is hidden -/
theorem ExtW.hide {D : Addr} {o : HO} (h : H D = none) : ExtW H μ (upd H D o) (μ.hide D) :=
  ⟨⟨[], by simp [Mu.hide]⟩, fun a q e _ => by rw [upd_ne (ne_of_none e h)]; exact e, fun a m n => by
    rcases Mu.mem_hide.mp m with m | m
    · exact absurd m n
    · rw [m]; exact h⟩
/-- .. is written -/
theorem ExtW.put {D : Addr} {o : HO} (h : D ∈ μ.h) : ExtW H μ (upd H D o) μ :=
  ⟨⟨[], by simp⟩, fun a q e n => by rw [upd_ne (fun (z : a = D) => n (.inr (by rw [z]; exact h)))]; exact e, fun _ m n => absurd m n⟩
theorem RH.hide {h : AH} (r : RH c H h μ) {D : Addr} {o : HO} (e : H D = none) : RH c (upd H D o) h (μ.hide D) := by
  refine ⟨r.len, r.nd, fun n a q => ?_, fun a m => ?_⟩
  · obtain ⟨b, hb, ro⟩ := r.thing n a q
    obtain ⟨u, hu⟩ := ro.ok
    exact ⟨b, hb, ro.monoW (ExtW.hide e) (upd_ne (ne_of_none hu e))⟩
  · rcases List.mem_cons.mp m with m | m
    · subst m
      exact ⟨fun z => r.free e (.inl z), _, upd_same⟩
    · obtain ⟨h1, u, h2⟩ := r.hid a m
      exact ⟨h1, u, by rw [upd_ne (ne_of_none h2 e)]; exact h2⟩
theorem RH.put {h : AH} (r : RH c H h μ) {D : Addr} {o : HO} (e : D ∈ μ.h) : RH c (upd H D o) h μ := by
  refine ⟨r.len, r.nd, fun n a q => ?_, fun a m => ?_⟩
  · obtain ⟨b, hb, ro⟩ := r.thing n a q
    exact ⟨b, hb, ro.monoW (ExtW.put e) (upd_ne fun z => (r.hid D e).1 (z ▸ List.mem_of_getElem? hb))⟩
  · obtain ⟨h1, u, h2⟩ := r.hid a m
    by_cases z : a = D
    · subst z
      exact ⟨h1, _, upd_same⟩
    · exact ⟨h1, u, by rw [upd_ne z]; exact h2⟩
/-- no longer hidden -/
def Mu.bare (μ : Mu) (h : List Addr) : Mu := ⟨μ.n, h⟩
mutual
theorem RV.bare {hs : List Addr} (x : ∀ a, a ∈ hs → a ∈ μ.h) : ∀ {v : V} {a : AV}, RV c H μ v a → RV c H (μ.bare hs) v a
  | _, _, .non => .non
  | _, _, .bl b => .bl b
  | _, _, .int i => .int i
  | _, _, .str s h hz => .str s h hz
  | _, _, .tup h d n l r => .tup h d (fun z => n (z.imp id (x _))) l (RVs.bare x r)
  | _, _, .tupK h l r => .tupK h l (RVs.bare x r)
  | _, _, .lst h n l r => .lst h (fun z => n (z.imp id (x _))) l (RVs.bare x r)
  | _, _, .ext h n l r => .ext h (fun z => n (z.imp id (x _))) l (RVs.bare x r)
  | _, _, .extK h l r => .extK h l (RVs.bare x r)
  | _, _, .ref h => .ref h
  | _, _, .exn h => .exn h
  | _, _, .rep d => .rep d
theorem RVs.bare {hs : List Addr} (x : ∀ a, a ∈ hs → a ∈ μ.h) : ∀ {v : List V} {a : List AV}, RVs c H μ v a → RVs c H (μ.bare hs) v a
  | _, _, .nil => .nil
  | _, _, .cons h t => .cons (RV.bare x h) (RVs.bare x t)
end
theorem RH.bare {hs : List Addr} (x : ∀ a, a ∈ hs → a ∈ μ.h) {h : AH} (r : RH c H h μ) : RH c H h (μ.bare hs) :=
  ⟨r.len, r.nd, fun n o e => by
    obtain ⟨a, h1, h2⟩ := r.thing n o e
    refine ⟨a, h1, ?_⟩
    cases h2 with
    | lst e1 l q => exact .lst e1 l (q.bare x)
    | dctK q1 k rk r => exact .dctK q1 k (rk.bare x) (r.bare x)
    | dctT q1 e1 e2 e3 e4 e5 e6 e7 e8 e9 rk v r => exact .dctT q1 e1 e2 e3 e4 e5 e6 e7 e8 e9 (rk.bare x) v (r.bare x)
    | ins C e1 d n k q => exact .ins C e1 d (fun z => n (z.imp id (x _))) k (q.bare x), fun a m => r.hid a (x a m)⟩
end

theorem RE.monoW {c : Ct} {H H' : Hp} {μ μ' : Mu} {σ : L2.St} {ρ : AEnv} (r : RE c H μ σ ρ) (x : ExtW H μ H' μ') : RE c H' μ' σ ρ := ⟨r.1, fun i v e => by
  obtain ⟨u, h1, h2⟩ := r.2 i v e
  exact ⟨u, h1, h2.monoW x⟩⟩
theorem wipe_wipe {σ : L2.St} : ∀ {vs : List Nat}, wipe (wipe σ vs) vs = wipe σ vs := fun {vs} => by
  have go : ∀ {us : List Nat} {σ : L2.St}, (∀ i ∈ us, i ∈ vs) → wipe (wipe σ us) vs = wipe σ vs := fun {us} => by
    induction us with
    | nil => intro σ _; rfl
    | cons u us ih =>
      intro σ h
      show wipe ((wipe σ us).set u none) vs = _
      rw [wipe_set (h u List.mem_cons_self)]
      exact ih fun i m => h i (List.mem_cons_of_mem _ m)
  exact go fun _ m => m
section
variable {T : Tb} {R : Rec}
/-- the turns of a comprehension, after i of them -/
def CompAt (c : Ct) (T : Tb) (R : Rec) (vs : List Nat) (elt cond : E) (t : Tg) (v : AV) (xs : List AV) (ρ : AEnv) (σ : L2.St) (D : Addr) (H1 : Hp) (μ1 : Mu) (Qa : List AV → AH → Prop) (i : Nat) (H : Hp) : Prop :=
  ∃ h accA accV μ', ExtW H1 μ1 H μ' ∧ μ'.h = D :: μ1.h ∧ (∀ a, a ∈ μ1.h → H a = H1 a) ∧ H D = some (.lst accV) ∧ RH c H h μ' ∧ RVs c H μ' accV accA ∧ accA.length ≤ i ∧
    wp (compL (fun x => bindT t x (wipeA ρ vs)) (evC T R cond) (evE T R elt) (stands v xs) accA (xs.drop i)) Qa (fun _ _ => False) h
theorem stands_wp {v : AV} {xs : List AV} {Q : Unit → AH → Prop} {E : Ex → AH → Prop} {h : AH} (w : wp (stands v xs) Q E h) : stands v xs h = some (.ok () h) ∧ Q () h := by
  unfold wp at w
  have key : stands v xs h = some (.ok () h) ∨ stands v xs h = none := by
    unfold stands
    split
    · split
      · split
        · exact .inl rfl
        · exact .inr rfl
      · exact .inr rfl
    · split
      · split
        · exact .inl rfl
        · exact .inr rfl
      · exact .inr rfl
    · exact .inl rfl
  rcases key with e | e
  · rw [e] at w
    exact ⟨e, w⟩
  · rw [e] at w
    exact w.elim
theorem comp_core {c : Ct} {vs : List Nat} {elt cond : E} {t : Tg} {v : AV} {xs : List AV} {ρ : AEnv} {σ : L2.St} {D : Addr} {H1 : Hp} {μ1 : Mu} {h1 : AH} {Qa : List AV → AH → Prop} {Qd : Hp → Prop} {J : It} (ht : (tgSlots t).all (fun i => vs.contains i) = true)
    (hz : xs.length ≤ big) (re : RE c H1 μ1 σ ρ) (rh : RH c H1 h1 μ1) (hD : H1 D = none) (y : Yl c J v xs H1 μ1)
    (w : wp (compL (fun x => bindT t x (wipeA ρ vs)) (evC T R cond) (evE T R elt) (stands v xs) [] xs) Qa (fun _ _ => False) h1)
    (fin : ∀ H h accA accV μ', ExtW H1 μ1 H μ' → μ'.h = D :: μ1.h → (∀ a, a ∈ μ1.h → H a = H1 a) → H D = some (.lst accV) → RH c H h μ' → RVs c H μ' accV accA → accA.length ≤ big → Qa accA h → Qd H) :
    ∃ W : Nat → Nat → Hp → Prop, (∃ m, W 0 m (upd H1 D (.lst []))) ∧ ∀ i m H, W i m H →
      (J.stop i H ∧ Qd H) ∨ (J.go i H ∧ ∃ Nx : Hp → Prop, (∀ H', Nx H' → ∃ m', m' < m ∧ W (i + 1) m' H') ∧ ∀ x H', J.yld i H x H' → gT c t x (wipe σ vs) H' fun σ2 H2 => wipe σ2 vs = wipe σ vs ∧ SB c (fun _ _ _ _ => False) (evC T R cond) σ2 H2 fun b H3 =>
        if b = true then SE c (fun _ _ _ _ => False) (evE T R elt) σ2 H3 fun y H4 => ∃ acc, H4 D = some (.lst acc) ∧ acc.length < sizeLine ∧ Nx (upd H4 D (.lst (acc ++ [y]))) else Nx H3) := by
  refine ⟨fun i m H => m = xs.length - i ∧ i ≤ xs.length ∧ CompAt c T R vs elt cond t v xs ρ σ D H1 μ1 Qa i H, ⟨xs.length, by simp, Nat.zero_le _, h1, [], [], μ1.hide D, ExtW.hide hD, rfl, fun a m => ?_, upd_same, rh.hide hD, .nil, Nat.le_refl _, w⟩, ?_⟩
  · exact upd_ne fun z => rh.free hD (.inr (z ▸ m))
  rintro i m H ⟨rfl, hi, h, accA, accV, μ', xw, eh, hk, eD, rh', ra, hl, w⟩
  -- what holds without D being hidden
  have off : ∀ a, a ∈ μ1.h → a ∈ μ'.h := fun a m => by rw [eh]; exact List.mem_cons_of_mem _ m
  by_cases hlt : i < xs.length
  · rw [List.drop_eq_getElem_cons hlt] at w
    simp only [compL] at w
    rw [wp_bnd] at w
    obtain ⟨st, w⟩ := stands_wp w
    refine .inr ⟨y.go i H h μ' xw rh' st hlt, CompAt c T R vs elt cond t v xs ρ σ D H1 μ1 Qa (i + 1), fun H' z => ⟨xs.length - (i + 1), by omega, rfl, hlt, z⟩, fun x H' yl => ?_⟩
    obtain ⟨a, ea, x1, rh1, rv⟩ := y.yld i H h μ' x H' xw rh' st hlt yl
    rw [List.getElem?_eq_getElem hlt] at ea
    cases ea
    split at w
    · exact w.elim
    rename_i ρ1 eb
    have xw1 := xw.trans x1.w
    refine ⟨wipeA ρ vs, h, μ', _, ρ1, (RE.monoW re xw1).wipe vs, rh1, rv, eb, fun σ2 re2 sm => ⟨by rw [sm vs ht, wipe_wipe], ?_⟩⟩
    rw [wp_bnd] at w
    refine ⟨ρ1, h, μ', re2, rh1, wp_mono w (fun b h3 w3 b' H3 μ3 x3 rh3 rb => ?_) fun _ _ z => z.elim⟩
    have rb : b' = b := rb
    subst rb
    have re3 := re2.mono x3
    have hold : ∀ {H4 : Hp} {μ4 : Mu}, Ext H' μ' H4 μ4 → ExtW H1 μ1 H4 μ4 ∧ μ4.h = D :: μ1.h ∧ (∀ a, a ∈ μ1.h → H4 a = H1 a) ∧ H4 D = some (.lst accV) ∧ RVs c H4 μ4 accV accA := fun {H4 μ4} x4 => by
      have z := x1.trans x4
      refine ⟨xw.trans z.w, z.hid.trans eh, fun a m => (z.hk a (off a m)).trans (hk a m), (z.hk D (by rw [eh]; exact List.mem_cons_self)).trans eD, ra.mono z⟩
    cases b' with
    | false =>
      obtain ⟨z1, z2, z3, z4, z5⟩ := hold x3
      exact ⟨h3, accA, accV, μ3, z1, z2, z3, z4, rh3, z5, Nat.le_succ_of_le hl, w3⟩
    | true =>
      have w3 : wp (bnd (evE T R elt ρ1) fun v' => compL (fun x => bindT t x (wipeA ρ vs)) (evC T R cond) (evE T R elt) (stands v xs) (accA ++ [v']) (xs.drop (i + 1))) Qa (fun _ _ => False) h3 := w3
      rw [wp_bnd] at w3
      refine ⟨ρ1, h3, μ3, re3, rh3, wp_mono w3 (fun a4 h4 k4 yv H4 μ4 x4 rh4 ry => ?_) fun _ _ z => z.elim⟩
      obtain ⟨z1, z2, z3, z4, z5⟩ := hold (x3.trans x4)
      have hDm : D ∈ μ4.h := by rw [z2]; exact List.mem_cons_self
      have xp : ExtW H4 μ4 (upd H4 D (.lst (accV ++ [yv]))) μ4 := ExtW.put hDm
      have ry : RV c H4 μ4 yv a4 := ry
      refine ⟨accV, z4, by rw [z5.length, ← big_eq]; omega, h4, accA ++ [a4], accV ++ [yv], μ4, z1.trans xp, z2, fun a m => ?_, upd_same, rh4.put hDm, (z5.append (.cons ry .nil)).monoW xp, by rw [List.length_append]; simp; exact hl, k4⟩
      rw [upd_ne fun (z : a = D) => rh.free hD (.inr (by rw [← z]; exact m))]
      exact z3 a m
  · have e : i = xs.length := by omega
    subst e
    rw [List.drop_length] at w
    simp only [compL] at w
    rw [wp_bnd] at w
    obtain ⟨st, w⟩ := stands_wp w
    exact .inl ⟨y.stop H h μ' xw rh' st, fin H h accA accV μ' xw eh hk eD rh' ra (Nat.le_trans hl hz) w⟩
/-- what the block's end leaves, outside it -/
theorem comp_bare {c : Ct} {H1 H : Hp} {μ1 μ' : Mu} {D : Addr} {h : AH} {accA : List AV} {accV : List V} (hD : H1 D = none) (rh1 : ∀ a, a ∈ μ1 → ∃ u, H1 a = some u) (xw : ExtW H1 μ1 H μ') (eh : μ'.h = D :: μ1.h) (hk : ∀ a, a ∈ μ1.h → H a = H1 a) (eD : H D = some (.lst accV)) (rh : RH c H h μ') (ra : RVs c H μ' accV accA) (hl : accA.length ≤ big) :
    Ext H1 μ1 H (μ'.bare μ1.h) ∧ RH c H h (μ'.bare μ1.h) ∧ RV c H (μ'.bare μ1.h) (.ref D) (.lst accA) ∧ RVs c H (μ'.bare μ1.h) accV accA := by
  have off : ∀ a, a ∈ μ1.h → a ∈ μ'.h := fun a m => by rw [eh]; exact List.mem_cons_of_mem _ m
  have ra' := ra.bare off
  refine ⟨⟨⟨xw.pre, xw.keep, fun a m n => xw.new a (m.imp id (off a)) n⟩, rfl, hk⟩, rh.bare off, .lst eD (fun m => ?_) (by rw [ra.length, ← big_eq]; exact hl) ra', ra'⟩
  rcases m with m | m
  · exact (rh.hid D (by rw [eh]; exact List.mem_cons_self)).1 m
  · obtain ⟨u, e⟩ := rh1 D (.inr m)
    rw [hD] at e
    cases e
/-- .. where the list is to be numbered -/
theorem comp_name {c : Ct} {H1 H : Hp} {μ1 μ' : Mu} {D : Addr} {h : AH} {accA : List AV} {accV : List V} (hD : H1 D = none) (rh1 : ∀ a, a ∈ μ1 → ∃ u, H1 a = some u) (xw : ExtW H1 μ1 H μ') (eh : μ'.h = D :: μ1.h) (hk : ∀ a, a ∈ μ1.h → H a = H1 a) (eD : H D = some (.lst accV)) (rh : RH c H h μ') (ra : RVs c H μ' accV accA) (hl : accA.length ≤ big) :
    Ext H1 μ1 H ((μ'.bare μ1.h).add D) ∧ RH c H (h ++ [.lst accA]) ((μ'.bare μ1.h).add D) ∧ RV c H ((μ'.bare μ1.h).add D) (.ref D) (.ref h.length) := by
  have off : ∀ a, a ∈ μ1.h → a ∈ μ'.h := fun a m => by rw [eh]; exact List.mem_cons_of_mem _ m
  have hDm : D ∈ μ'.h := by rw [eh]; exact List.mem_cons_self
  have x2 : ExtW H μ' H ((μ'.bare μ1.h).add D) := ⟨⟨[D], rfl⟩, fun _ _ e _ => e, fun a m n => by
    exfalso
    apply n
    rcases Mu.mem_add.mp m with m | m
    · exact m.imp id (off a)
    · rw [m]; exact .inr hDm⟩
  have x3 := xw.trans x2
  have at' : (μ'.n ++ [D])[h.length]? = some D := by
    rw [← rh.len, List.getElem?_append_right (Nat.le_refl _)]
    simp
  refine ⟨⟨x3, rfl, hk⟩, ⟨?_, ?_, fun n o e => ?_, fun a m => ?_⟩, .ref at'⟩
  · show (μ'.n ++ [D]).length = _
    rw [List.length_append, List.length_append, rh.len]; rfl
  · show (μ'.n ++ [D]).Nodup
    rw [List.nodup_append]
    refine ⟨rh.nd, by simp, fun a ha b hb => ?_⟩
    rw [List.mem_singleton.mp hb]
    exact fun z => (rh.hid D hDm).1 (z ▸ ha)
  · by_cases hm : n < h.length
    · rw [List.getElem?_append_left hm] at e
      obtain ⟨b, hb, ro⟩ := rh.thing n o e
      exact ⟨b, x2.at hb, ro.monoW x2 rfl⟩
    · have hm' : n = h.length := by
        have := (List.getElem?_eq_some_iff.mp e).1
        rw [List.length_append] at this
        simp at this
        omega
      subst hm'
      rw [List.getElem?_append_right (Nat.le_refl _)] at e
      simp at e
      subst e
      exact ⟨D, at', .lst eD (by rw [ra.length, ← big_eq]; exact hl) (ra.monoW x2)⟩
  · obtain ⟨h1, u, h2⟩ := rh.hid a (off a m)
    refine ⟨fun z => ?_, u, h2⟩
    rcases List.mem_append.mp z with z | z
    · exact h1 z
    · obtain ⟨w, e⟩ := rh1 a (.inr m)
      rw [List.mem_singleton.mp z, hD] at e
      cases e
abbrev W0 : WX := fun _ _ _ _ => False
theorem comp_lc {c : Ct} {W : WX} {vs : List Nat} {elt src cond : E} {t : Tg} {e : E} {σ : L2.St} {H : Hp} {Q : VK} (he : e = .comp vs elt t src cond ∨ e = .own (.comp vs elt t src cond)) (ht : (tgSlots t).all (fun i => vs.contains i) = true) (w : SE c W (evE T R e) σ H Q) :
    tLc (SI c W (evI T R src)) (gT c t) (SB c W0 (evC T R cond)) (SE c W0 (evE T R elt)) vs σ H Q := by
  obtain ⟨ρ, h0, μ, re, rh, w⟩ := w
  suffices w : wp (evI T R src ρ) (fun p h => p.2.length ≤ big ∧ wp (compL (fun x => bindT t x (wipeA ρ vs)) (evC T R cond) (evE T R elt) (stands p.1 p.2) [] p.2)
        (fun ys h => ∀ H1 μ1 D, Ext H μ H1 μ1 → H1 D = none → (∀ a, a ∈ μ1 → ∃ u, H1 a = some u) → ∀ H' h' μ' accV, h' = h → ExtW H1 μ1 H' μ' → μ'.h = D :: μ1.h → (∀ a, a ∈ μ1.h → H' a = H1 a) → H' D = some (.lst accV) → RH c H' h μ' → RVs c H' μ' accV ys → ys.length ≤ big → Q (.ref D) H')
        (fun _ _ => False) h) (exP c H μ fun cls d H' => W cls d σ H') h0 by
    refine ⟨ρ, h0, μ, re, rh, wp_mono w (fun p h1 k1 J H1 μ1 x1 rh1 y D hD => ?_) fun _ _ z => z⟩
    have y : Yl c J p.1 p.2 H1 μ1 := y
    refine comp_core (Qd := fun H => Q (.ref D) H) ht k1.1 (re.mono x1) rh1 hD y k1.2 fun H' h' accA accV μ' a1 a2 a3 a4 a5 a6 a7 a8 => ?_
    exact a8 H1 μ1 D x1 hD (fun a m => rh1.mem m) H' h' μ' accV rfl a1 a2 a3 a4 a5 a6 a7
  rcases he with rfl | rfl
  · have w : wp (bnd (evI T R src ρ) fun p => if p.2.length ≤ big then bnd (noX (compL (fun x => bindT t x (wipeA ρ vs)) (evC T R cond) (evE T R elt) (stands p.1 p.2) [] p.2)) fun ys => ret (AV.lst ys) else stuck) (okP c H μ Q) (exP c H μ fun cls d H' => W cls d σ H') h0 := w
    rw [wp_bnd] at w
    refine wp_mono w (fun p h1 k1 => ?_) fun _ _ z => z
    split at k1
    · rename_i hz
      rw [wp_bnd, wp_noX] at k1
      refine ⟨hz, wp_mono k1 (fun ys h2 q H1 μ1 D x1 hD rm H' h' μ' accV _ a1 a2 a3 a4 a5 a6 a7 => ?_) fun _ _ z => z⟩
      obtain ⟨b1, b2, b3, b4⟩ := comp_bare hD rm a1 a2 a3 a4 a5 a6 a7
      exact q _ _ _ (x1.trans b1) b2 b3
    · exact k1.elim
  · have w : wp (bnd (bnd (evI T R src ρ) fun p => if p.2.length ≤ big then bnd (noX (compL (fun x => bindT t x (wipeA ρ vs)) (evC T R cond) (evE T R elt) (stands p.1 p.2) [] p.2)) fun ys => ret (AV.lst ys) else stuck) ownK) (okP c H μ Q) (exP c H μ fun cls d H' => W cls d σ H') h0 := w
    rw [bnd_assoc, wp_bnd] at w
    refine wp_mono w (fun p h1 k1 => ?_) fun _ _ z => z
    split at k1
    · rename_i hz
      rw [bnd_assoc, wp_bnd, wp_noX] at k1
      refine ⟨hz, wp_mono k1 (fun ys h2 q H1 μ1 D x1 hD rm H' h' μ' accV _ a1 a2 a3 a4 a5 a6 a7 => ?_) fun _ _ z => z⟩
      have q : okP c H μ Q (.ref h2.length) (h2 ++ [.lst ys]) := q
      obtain ⟨c1, c2, c3⟩ := comp_name hD rm a1 a2 a3 a4 a5 a6 a7
      exact q _ _ _ (x1.trans c1) c2 c3
    · exact k1.elim
theorem s_comp (vs : List Nat) {elt src cond : E} (t : Tg) (se : Snd T R elt) (ss : Snd T R src) (sc : Snd T R cond) : Snd T R (.comp vs elt t src cond) := by
  have gen : ∀ {X : Cx} {c : Ct} {k : Ck} {W : WX} {p : Expr} {e : E}, (e = .comp vs elt t src cond ∨ e = .own (.comp vs elt t src cond)) → Gd X c T R k → Takes X W → chkE k (.comp vs elt t src cond) p = true → PE X p (SE c W (evE T R e)) := fun {X c k W p e} he G tk h => by
    simp only [chkE, ck, CkR.of] at h
    split at h
    · rename_i q tg iter ifs s pos
      simp only [Bool.and_eq_true] at h
      obtain ⟨⟨⟨⟨⟨⟨⟨h1, h2⟩, h3⟩, h4⟩, h5⟩, h6⟩, h7⟩, h8⟩ := h
      rw [G.N, G.sc] at h2
      have Gb := fun (s1 : Shared) (H : Hp) (C : Addr) (cl : List (Str × Addr)) (fp : List Addr) => G.blk h1 (s := s1) (H := H) (scope := s) (cl := cl) (C := C) (fp := fp)
      have base := pe_lc (pos := pos) (G.cm h1) G.nd (ss.pi (tg := tg) G tk h5.2 h5.1) (blkOk_by h2) (fun s1 H C cl fp => pg_of (Gb s1 H C cl fp) h6) (fun s1 H C cl fp => sc.pc (Gb s1 H C cl fp) takes0 h7) (fun s1 H C cl fp => se.pe (Gb s1 H C cl fp) takes0 h8) (set_plain h3)
      rw [ownOf_slots] at base
      exact pe_imp base fun σ H Q w => comp_lc he h4 w
    · cases h
  exact .plain rfl rfl (fun G tk h => gen (.inl rfl) G tk h) (fun G tk h => gen (.inr rfl) G tk h)
/-! ### comprehensions of two fors -/
/-- where a comprehension of two fors stands -/
structure HidAt (c : Ct) (D : Addr) (H1 : Hp) (μ1 : Mu) (H : Hp) (h : AH) (accA : List AV) (accV : List V) (μ' : Mu) : Prop where
  x : ExtW H1 μ1 H μ'
  eh : μ'.h = D :: μ1.h
  hk : ∀ a, a ∈ μ1.h → H a = H1 a
  eD : H D = some (.lst accV)
  rh : RH c H h μ'
  ra : RVs c H μ' accV accA
section
variable {c : Ct} {D : Addr} {H1 H H4 : Hp} {μ1 μ' μ4 : Mu} {h h4 : AH} {accA : List AV} {accV : List V}
theorem HidAt.mem (z : HidAt c D H1 μ1 H h accA accV μ') : D ∈ μ'.h := by rw [z.eh]; exact List.mem_cons_self
theorem HidAt.later (z : HidAt c D H1 μ1 H h accA accV μ') (x : Ext H μ' H4 μ4) (rh : RH c H4 h4 μ4) : HidAt c D H1 μ1 H4 h4 accA accV μ4 :=
  ⟨z.x.trans x.w, x.hid.trans z.eh, fun a m => (x.hk a (by rw [z.eh]; exact List.mem_cons_of_mem _ m)).trans (z.hk a m), (x.hk D z.mem).trans z.eD, rh, z.ra.mono x⟩
theorem HidAt.put (z : HidAt c D H1 μ1 H h accA accV μ') (hD : D ∉ μ1.h) {y : V} {a : AV} (ry : RV c H μ' y a) : HidAt c D H1 μ1 (upd H D (.lst (accV ++ [y]))) h (accA ++ [a]) (accV ++ [y]) μ' := by
  have xp : ExtW H μ' (upd H D (.lst (accV ++ [y]))) μ' := ExtW.put z.mem
  refine ⟨z.x.trans xp, z.eh, fun b m => ?_, upd_same, z.rh.put z.mem, (z.ra.append (.cons ry .nil)).monoW xp⟩
  rw [upd_ne fun (q : b = D) => hD (by rw [← q]; exact m)]
  exact z.hk b m
end
theorem comp_core2 {c : Ct} {vs vs1 : List Nat} {elt src1 cond : E} {t t1 : Tg} {v : AV} {xs : List AV} {ρ : AEnv} {σ : L2.St} {D : Addr} {H1 : Hp} {μ1 : Mu} {h1 : AH} {Qa : List AV → AH → Prop} {Qd : Hp → Prop} {J : It} (ht : (tgSlots t).all (fun i => vs.contains i) = true) (ht1 : (tgSlots t1).all (fun i => vs1.contains i) = true)
    (re : RE c H1 μ1 σ ρ) (rh : RH c H1 h1 μ1) (hD : H1 D = none) (y : Yl c J v xs H1 μ1)
    (w : wp (compO (fun x => bindT t x (wipeA ρ vs)) (evI T R src1) (fun ρ1 v1 acc ys => compL (fun y => bindT t1 y (wipeA ρ1 vs1)) (evC T R cond) (evE T R elt) (stands v1 ys) acc ys) (stands v xs) [] xs) Qa (fun _ _ => False) h1)
    (fin : ∀ H h accA accV μ', HidAt c D H1 μ1 H h accA accV μ' → accA.length ≤ big → Qa accA h → Qd H) :
    ∃ W : Nat → Nat → Hp → Prop, (∃ m, W 0 m (upd H1 D (.lst []))) ∧ ∀ i m H, W i m H →
      (J.stop i H ∧ Qd H) ∨ (J.go i H ∧ ∃ Nx : Hp → Prop, (∀ H', Nx H' → ∃ m', m' < m ∧ W (i + 1) m' H') ∧ ∀ x H', J.yld i H x H' → gT c t x (wipe σ vs) H' fun σ2 H2 => wipe σ2 vs = wipe σ vs ∧ SB c (fun _ _ _ _ => False) (evC T R .nil) σ2 H2 fun b H3 =>
        if b = true then SI c (fun _ _ _ _ => False) (evI T R src1) σ2 H3 fun J1 H4 => ∃ W1 : Nat → Nat → Hp → Prop, (∃ m, W1 0 m H4) ∧ ∀ j k H, W1 j k H →
          (J1.stop j H ∧ Nx H) ∨ (J1.go j H ∧ ∃ Nx1 : Hp → Prop, (∀ H', Nx1 H' → ∃ k', k' < k ∧ W1 (j + 1) k' H') ∧ ∀ x H', J1.yld j H x H' → gT c t1 x (wipe σ2 vs1) H' fun σ3 H5 => wipe σ3 vs1 = wipe σ2 vs1 ∧ SB c (fun _ _ _ _ => False) (evC T R cond) σ3 H5 fun b H6 =>
            if b = true then SE c (fun _ _ _ _ => False) (evE T R elt) σ3 H6 fun y H7 => ∃ acc, H7 D = some (.lst acc) ∧ acc.length < sizeLine ∧ Nx1 (upd H7 D (.lst (acc ++ [y]))) else Nx1 H6)
        else Nx H3) := by
  have nD : D ∉ μ1.h := fun m => rh.free hD (.inr m)
  refine ⟨fun i m H => m = xs.length - i ∧ i ≤ xs.length ∧ ∃ h accA accV μ', HidAt c D H1 μ1 H h accA accV μ' ∧ accA.length ≤ big ∧
      wp (compO (fun x => bindT t x (wipeA ρ vs)) (evI T R src1) (fun ρ1 v1 acc ys => compL (fun y => bindT t1 y (wipeA ρ1 vs1)) (evC T R cond) (evE T R elt) (stands v1 ys) acc ys) (stands v xs) accA (xs.drop i)) Qa (fun _ _ => False) h,
    ⟨xs.length, by simp, Nat.zero_le _, h1, [], [], μ1.hide D, ⟨ExtW.hide hD, rfl, fun a m => upd_ne fun z => rh.free hD (.inr (z ▸ m)), upd_same, rh.hide hD, .nil⟩, Nat.zero_le _, w⟩, ?_⟩
  rintro i m H ⟨rfl, hi, h, accA, accV, μ', Z, hl, w⟩
  by_cases hlt : i < xs.length
  · rw [List.drop_eq_getElem_cons hlt] at w
    simp only [compO] at w
    rw [wp_bnd] at w
    obtain ⟨st, w⟩ := stands_wp w
    refine .inr ⟨y.go i H h μ' Z.x Z.rh st hlt, fun H' => ∃ h accA accV μ', HidAt c D H1 μ1 H' h accA accV μ' ∧ accA.length ≤ big ∧
      wp (compO (fun x => bindT t x (wipeA ρ vs)) (evI T R src1) (fun ρ1 v1 acc ys => compL (fun y => bindT t1 y (wipeA ρ1 vs1)) (evC T R cond) (evE T R elt) (stands v1 ys) acc ys) (stands v xs) accA (xs.drop (i + 1))) Qa (fun _ _ => False) h,
      fun H' z => ⟨xs.length - (i + 1), by omega, rfl, hlt, z⟩, fun x H' yl => ?_⟩
    obtain ⟨a, ea, x1, rh1, rv⟩ := y.yld i H h μ' x H' Z.x Z.rh st hlt yl
    rw [List.getElem?_eq_getElem hlt] at ea
    cases ea
    split at w
    · exact w.elim
    rename_i ρ1 eb
    have Z1 := Z.later x1 rh1
    refine ⟨wipeA ρ vs, h, μ', _, ρ1, (RE.monoW re Z1.x).wipe vs, rh1, rv, eb, fun σ2 re2 sm => ⟨by rw [sm vs ht, wipe_wipe], ?_⟩⟩
    refine ⟨ρ1, h, μ', re2, rh1, ?_⟩
    show wp (ret true) _ _ h
    rw [wp_ret]
    intro b' H3 μ3 x3 rh3 rb
    have rb : b' = true := rb
    subst rb
    have Z3 := Z1.later x3 rh3
    have re3 := re2.mono x3
    rw [if_pos rfl]
    rw [wp_bnd] at w
    refine ⟨ρ1, h, μ3, re3, rh3, wp_mono w (fun p h4 w4 J1 H4 μ4 x4 rh4 y1 => ?_) fun _ _ z => z.elim⟩
    have y1 : Yl c J1 p.1 p.2 H4 μ4 := y1
    split at w4
    case isFalse => exact w4.elim
    rename_i hz
    have Z4 := Z3.later x4 rh4
    have re4 := re3.mono x4
    rw [wp_bnd] at w4
    -- the inner turns
    refine ⟨fun j k H => k = p.2.length - j ∧ j ≤ p.2.length ∧ ∃ h accA' accV μ', HidAt c D H1 μ1 H h accA' accV μ' ∧ ExtW H4 μ4 H μ' ∧ accA'.length ≤ accA.length + j ∧
        wp (compL (fun y => bindT t1 y (wipeA ρ1 vs1)) (evC T R cond) (evE T R elt) (stands p.1 p.2) accA' (p.2.drop j)) (fun acc' h' => wp (compO (fun x => bindT t x (wipeA ρ vs)) (evI T R src1) (fun ρ1 v1 acc ys => compL (fun y => bindT t1 y (wipeA ρ1 vs1)) (evC T R cond) (evE T R elt) (stands v1 ys) acc ys) (stands v xs) acc' (xs.drop (i + 1))) Qa (fun _ _ => False) h') (fun _ _ => False) h,
      ⟨p.2.length, by simp, Nat.zero_le _, h4, accA, accV, μ4, Z4, ExtW.refl, Nat.le_refl _, w4⟩, ?_⟩
    rintro j k H5 ⟨rfl, hj, h5, accA5, accV5, μ5, Z5, x45, hl5, w5⟩
    by_cases hlt5 : j < p.2.length
    · rw [List.drop_eq_getElem_cons hlt5] at w5
      simp only [compL] at w5
      rw [wp_bnd] at w5
      obtain ⟨st5, w5⟩ := stands_wp w5
      refine .inr ⟨y1.go j H5 h5 μ5 x45 Z5.rh st5 hlt5, fun H => ∃ h accA' accV μ', HidAt c D H1 μ1 H h accA' accV μ' ∧ ExtW H4 μ4 H μ' ∧ accA'.length ≤ accA.length + (j + 1) ∧
        wp (compL (fun y => bindT t1 y (wipeA ρ1 vs1)) (evC T R cond) (evE T R elt) (stands p.1 p.2) accA' (p.2.drop (j + 1))) (fun acc' h' => wp (compO (fun x => bindT t x (wipeA ρ vs)) (evI T R src1) (fun ρ1 v1 acc ys => compL (fun y => bindT t1 y (wipeA ρ1 vs1)) (evC T R cond) (evE T R elt) (stands v1 ys) acc ys) (stands v xs) acc' (xs.drop (i + 1))) Qa (fun _ _ => False) h') (fun _ _ => False) h,
        fun H' z => ⟨p.2.length - (j + 1), by omega, rfl, hlt5, z⟩, fun x5 H6 yl5 => ?_⟩
      obtain ⟨a5, ea5, x6, rh6, rv6⟩ := y1.yld j H5 h5 μ5 x5 H6 x45 Z5.rh st5 hlt5 yl5
      rw [List.getElem?_eq_getElem hlt5] at ea5
      cases ea5
      split at w5
      · exact w5.elim
      rename_i ρ5 eb5
      have Z6 := Z5.later x6 rh6
      refine ⟨wipeA ρ1 vs1, h5, μ5, _, ρ5, (RE.monoW re4 (x45.trans x6.w)).wipe vs1, rh6, rv6, eb5, fun σ3 re6 sm5 => ⟨by rw [sm5 vs1 ht1, wipe_wipe], ?_⟩⟩
      rw [wp_bnd] at w5
      refine ⟨ρ5, h5, μ5, re6, rh6, wp_mono w5 (fun b h7 w7 b' H7 μ7 x7 rh7 rb => ?_) fun _ _ z => z.elim⟩
      have rb : b' = b := rb
      subst rb
      have Z7 := Z6.later x7 rh7
      cases b' with
      | false => exact ⟨h7, accA5, accV5, μ7, Z7, (x45.trans x6.w).trans x7.w, by omega, w7⟩
      | true =>
        have w7 : wp (bnd (evE T R elt ρ5) fun v' => compL (fun y => bindT t1 y (wipeA ρ1 vs1)) (evC T R cond) (evE T R elt) (stands p.1 p.2) (accA5 ++ [v']) (p.2.drop (j + 1))) _ (fun _ _ => False) h7 := w7
        rw [wp_bnd] at w7
        refine ⟨ρ5, h7, μ7, re6.mono x7, rh7, wp_mono w7 (fun a8 h8 k8 yv H8 μ8 x8 rh8 ry => ?_) fun _ _ z => z.elim⟩
        have ry : RV c H8 μ8 yv a8 := ry
        have Z8 := Z7.later x8 rh8
        refine ⟨accV5, Z8.eD, by rw [Z8.ra.length, ← big_eq]; omega, h8, accA5 ++ [a8], accV5 ++ [yv], μ8, Z8.put nD ry, ((x45.trans x6.w).trans (x7.w.trans x8.w)).trans (ExtW.put Z8.mem), by rw [List.length_append]; simp; omega, k8⟩
    · have e : j = p.2.length := by omega
      subst e
      rw [List.drop_length] at w5
      simp only [compL] at w5
      rw [wp_bnd] at w5
      obtain ⟨st5, w5⟩ := stands_wp w5
      exact .inl ⟨y1.stop H5 h5 μ5 x45 Z5.rh st5, h5, accA5, accV5, μ5, Z5, by omega, w5⟩
  · have e : i = xs.length := by omega
    subst e
    rw [List.drop_length] at w
    simp only [compO] at w
    rw [wp_bnd] at w
    obtain ⟨st, w⟩ := stands_wp w
    exact .inl ⟨y.stop H h μ' Z.x Z.rh st, fin H h accA accV μ' Z hl w⟩
theorem comp_lc2 {c : Ct} {W : WX} {vs vs1 : List Nat} {elt src src1 cond : E} {t t1 : Tg} {e : E} {σ : L2.St} {H : Hp} {Q : VK} (he : e = .comp2 vs vs1 elt t src t1 src1 cond ∨ e = .own (.comp2 vs vs1 elt t src t1 src1 cond)) (ht : (tgSlots t).all (fun i => vs.contains i) = true) (ht1 : (tgSlots t1).all (fun i => vs1.contains i) = true) (w : SE c W (evE T R e) σ H Q) :
    tLc2 (SI c W (evI T R src)) (gT c t) (SB c W0 (evC T R .nil)) (SI c W0 (evI T R src1)) (gT c t1) (SB c W0 (evC T R cond)) (SE c W0 (evE T R elt)) vs vs1 σ H Q := by
  obtain ⟨ρ, h0, μ, re, rh, w⟩ := w
  suffices w : wp (evI T R src ρ) (fun p h => wp (compO (fun x => bindT t x (wipeA ρ vs)) (evI T R src1) (fun ρ1 v1 acc ys => compL (fun y => bindT t1 y (wipeA ρ1 vs1)) (evC T R cond) (evE T R elt) (stands v1 ys) acc ys) (stands p.1 p.2) [] p.2)
        (fun ys h => ∀ H1 μ1 D, Ext H μ H1 μ1 → H1 D = none → (∀ a, a ∈ μ1 → ∃ u, H1 a = some u) → ∀ H' μ' accV, HidAt c D H1 μ1 H' h ys accV μ' → ys.length ≤ big → Q (.ref D) H')
        (fun _ _ => False) h) (exP c H μ fun cls d H' => W cls d σ H') h0 by
    refine ⟨ρ, h0, μ, re, rh, wp_mono w (fun p h1 k1 J H1 μ1 x1 rh1 y D hD => ?_) fun _ _ z => z⟩
    have y : Yl c J p.1 p.2 H1 μ1 := y
    exact comp_core2 (Qd := fun H => Q (.ref D) H) ht ht1 (re.mono x1) rh1 hD y k1 fun H' h' accA accV μ' Z hl q => q H1 μ1 D x1 hD (fun a m => rh1.mem m) H' μ' accV Z hl
  rcases he with rfl | rfl
  · have w : wp (bnd (evI T R src ρ) fun p => bnd (noX (compO (fun x => bindT t x (wipeA ρ vs)) (evI T R src1) (fun ρ1 v1 acc ys => compL (fun y => bindT t1 y (wipeA ρ1 vs1)) (evC T R cond) (evE T R elt) (stands v1 ys) acc ys) (stands p.1 p.2) [] p.2)) fun ys => ret (AV.lst ys)) (okP c H μ Q) (exP c H μ fun cls d H' => W cls d σ H') h0 := w
    rw [wp_bnd] at w
    refine wp_mono w (fun p h1 k1 => ?_) fun _ _ z => z
    rw [wp_bnd, wp_noX] at k1
    refine wp_mono k1 (fun ys h2 q H1 μ1 D x1 hD rm H' μ' accV Z hl => ?_) fun _ _ z => z
    obtain ⟨b1, b2, b3, b4⟩ := comp_bare hD rm Z.x Z.eh Z.hk Z.eD Z.rh Z.ra hl
    exact q _ _ _ (x1.trans b1) b2 b3
  · have w : wp (bnd (bnd (evI T R src ρ) fun p => bnd (noX (compO (fun x => bindT t x (wipeA ρ vs)) (evI T R src1) (fun ρ1 v1 acc ys => compL (fun y => bindT t1 y (wipeA ρ1 vs1)) (evC T R cond) (evE T R elt) (stands v1 ys) acc ys) (stands p.1 p.2) [] p.2)) fun ys => ret (AV.lst ys)) ownK) (okP c H μ Q) (exP c H μ fun cls d H' => W cls d σ H') h0 := w
    rw [bnd_assoc, wp_bnd] at w
    refine wp_mono w (fun p h1 k1 => ?_) fun _ _ z => z
    rw [bnd_assoc, wp_bnd, wp_noX] at k1
    refine wp_mono k1 (fun ys h2 q H1 μ1 D x1 hD rm H' μ' accV Z hl => ?_) fun _ _ z => z
    have q : okP c H μ Q (.ref h2.length) (h2 ++ [.lst ys]) := q
    obtain ⟨c1, c2, c3⟩ := comp_name hD rm Z.x Z.eh Z.hk Z.eD Z.rh Z.ra hl
    exact q _ _ _ (x1.trans c1) c2 c3
/-- what a checked comprehension of two fors is -/
structure Cp2 (X : Cx) (c : Ct) (T : Tb) (R : Rec) (k : Ck) (vs vs1 : List Nat) (elt : E) (t : Tg) (src : E) (t1 : Tg) (src1 cond : E) (p : Expr) : Prop where
  ex : ∃ q tg iter tg1 iter1 ifs s pos, p = .ListComp q [⟨tg, iter, [], 0⟩, ⟨tg1, iter1, ifs, 0⟩] s pos ∧ k.cm = true ∧ blkC k.N k.sc s (ownOf k.N vs) = true ∧ notSet iter = true ∧ notSet iter1 = true ∧ (tgSlots t).all (fun i => vs.contains i) = true ∧ (tgSlots t1).all (fun i => vs1.contains i) = true ∧ vs1.all (fun i => vs.contains i) = true ∧
    (pairOk src tg = true ∧ (ck src).i k iter = true) ∧ (pairOk src1 tg1 = true ∧ (ck src1).i (k.blk s) iter1 = true) ∧ chkTg (k.blk s) t tg = true ∧ chkTg (k.blk s) t1 tg1 = true ∧ (ck cond).c (k.blk s) ifs = true ∧ (ck elt).e (k.blk s) q = true
theorem cp2_of {X : Cx} {c : Ct} {k : Ck} {vs vs1 : List Nat} {elt src src1 cond : E} {t t1 : Tg} {p : Expr} (h : chkE k (.comp2 vs vs1 elt t src t1 src1 cond) p = true) : Cp2 X c T R k vs vs1 elt t src t1 src1 cond p := by
  simp only [chkE, ck, CkR.of] at h
  split at h
  · rename_i q tg iter tg1 iter1 ifs s pos
    simp only [Bool.and_eq_true] at h
    obtain ⟨⟨⟨⟨⟨⟨⟨⟨⟨⟨⟨⟨h1, h2⟩, h3⟩, h4⟩, h5⟩, h6⟩, h7⟩, h8⟩, h9⟩, ha⟩, hb⟩, hc⟩, hd⟩ := h
    exact ⟨q, tg, iter, tg1, iter1, ifs, s, pos, rfl, h1, h2, h3, h4, h5, h6, h7, h8, h9, ha, hb, hc, hd⟩
  · cases h
theorem s_comp2 (vs vs1 : List Nat) {elt src src1 cond : E} (t t1 : Tg) (se : Snd T R elt) (ss : Snd T R src) (ss1 : Snd T R src1) (sc : Snd T R cond) : Snd T R (.comp2 vs vs1 elt t src t1 src1 cond) := by
  have gen : ∀ {X : Cx} {c : Ct} {k : Ck} {W : WX} {p : Expr} {e : E}, (e = .comp2 vs vs1 elt t src t1 src1 cond ∨ e = .own (.comp2 vs vs1 elt t src t1 src1 cond)) → Gd X c T R k → Takes X W → chkE k (.comp2 vs vs1 elt t src t1 src1 cond) p = true → PE X p (SE c W (evE T R e)) := fun {X c k W p e} he G tk h => by
    obtain ⟨q, tg, iter, tg1, iter1, ifs, s, pos, rfl, h1, h2, h3, h4, h5, h6, h7, h8, h9, ha, hb, hc, hd⟩ := (cp2_of (X := X) (c := c) (T := T) (R := R) h).ex
    rw [G.N, G.sc] at h2
    have Gb := fun (s1 : Shared) (H : Hp) (C : Addr) (cl : List (Str × Addr)) (fp : List Addr) => G.blk h1 (s := s1) (H := H) (scope := s) (cl := cl) (C := C) (fp := fp)
    have base := pe_lc2 (vs1 := vs1) (pos := pos) (G.cm h1) G.nd (ss.pi (tg := tg) G tk h8.2 h8.1) (blkOk_by h2) (fun i hi => by rw [ownOf_slots]; exact List.contains_iff_mem.mp (List.all_eq_true.mp h7 i hi))
      (fun s1 H C cl fp => pg_of (Gb s1 H C cl fp) ha) (fun s1 H C cl fp => (s_nil (T := T) (R := R)).pc (l := []) (Gb s1 H C cl fp) takes0 rfl) (fun s1 H C cl fp => ss1.pi (tg := tg1) (Gb s1 H C cl fp) takes0 h9.2 h9.1) (fun s1 H C cl fp => pg_of (Gb s1 H C cl fp) hb) (fun s1 H C cl fp => sc.pc (Gb s1 H C cl fp) takes0 hc) (fun s1 H C cl fp => se.pe (Gb s1 H C cl fp) takes0 hd) (set_plain h3) (fun env x => set_plain h4 x)
    rw [ownOf_slots] at base
    exact pe_imp base fun σ H Q w => comp_lc2 he h5 h6 w
  exact .plain rfl rfl (fun G tk h => gen (.inl rfl) G tk h) (fun G tk h => gen (.inr rfl) G tk h)
theorem s_own {e : E} (a : Snd T R e) : Snd T R (.own e) :=
  .plain rfl rfl (fun G tk h => a.po G tk h) (fun _ _ h => absurd h Bool.false_ne_true)
theorem s_no {e : E} {m : AEnv → M AV} (h1 : ck e = CkR.of (fun _ _ => false)) (h2 : ev T R e = EvR.of m) : Snd T R e :=
  .plain h1 h2 (fun _ _ h => absurd h Bool.false_ne_true) (fun _ _ h => absurd h Bool.false_ne_true)
/-! ### dict displays -/
/-- the parts of a row -/
def SndL (T : Tb) (R : Rec) : E → Prop
  | .cons e es => Snd T R e ∧ SndL T R es
  | _ => True
/-- a key and its value's reading, from the left -/
def dspT (c : Ct) (T : Tb) (R : Rec) : List Str → E → List (TE × TE)
  | a :: ks, .cons e es => (tC (.str a), SE c W0 (evE T R e)) :: dspT c T R ks es
  | _, _ => []
theorem dsp_pps {X : Cx} {c : Ct} {k : Ck} {pos : Pos} (G : Gd X c T R k) : ∀ (ks : List Str) (keys : List (Option Expr)) (es : E) (vals : List Expr), SndL T R es → dspC ks keys = true → vals.all plainE = true → chkA k es vals = true → ks.length = vals.length →
    PPs X pos keys vals (dspT c T R ks es) ∧ keys.all (·.isSome) = true ∧ keys.length = ks.length ∧ ∀ a ∈ ks, PyData.strOk a = true ∧ a.length ≤ 1000
  | [], keys, es, vals, sl, h1, h2, h3, h4 => by
    cases keys with
    | nil =>
      cases vals with
      | nil => exact ⟨pps_nil, rfl, rfl, fun _ z => by cases z⟩
      | cons _ _ => cases h4
    | cons _ _ => simp [dspC] at h1
  | a :: ks, keys, es, vals, sl, h1, h2, h3, h4 => by
    cases vals with
    | nil => cases h4
    | cons v vals =>
    simp only [List.all_cons, Bool.and_eq_true] at h2
    unfold dspC at h1
    split at h1
    · cases ‹_ :: _ = []›
    · rename_i a1 t1 b _ _ ks1 e1
      cases e1
      simp only [Bool.and_eq_true, decide_eq_true_eq] at h1
      obtain ⟨⟨⟨g1, g2⟩, g3⟩, g4⟩ := h1
      subst g1
      cases es with
      | cons e es =>
        have h3 : (plainE v && (ck e).e k v && (ck es).a k vals) = true := h3
        simp only [Bool.and_eq_true] at h3
        obtain ⟨i1, i2, i3, i4⟩ := dsp_pps (X := X) (c := c) (k := k) (pos := pos) G ks ks1 es vals sl.2 g4 h2.2 h3.2 (by simpa using h4)
        refine ⟨pps_cons pe_str (sl.1.pe G takes0 h3.1.2) i1, by rw [List.all_cons, i2]; rfl, by rw [List.length_cons, List.length_cons, i3], fun x hx => ?_⟩
        rcases List.mem_cons.mp hx with rfl | hx
        · exact ⟨g2, g3⟩
        · exact i4 x hx
      | star e es => cases v <;> first | exact absurd h2.1 Bool.false_ne_true | exact absurd h3 Bool.false_ne_true
      | _ => exact absurd h3 Bool.false_ne_true
    · cases h1
theorem tPairs_mono {c : Ct} {σ : L2.St} : ∀ {ks : List Str} {es : E} {H : Hp} {Q Q' : List (V × V) → Hp → Prop}, tPairs (dspT c T R ks es) σ H Q → (∀ ps H2, Q ps H2 → Q' ps H2) → tPairs (dspT c T R ks es) σ H Q'
  | [], es, H, Q, Q', x, q => by
    have e : dspT c T R [] es = [] := by cases es <;> rfl
    rw [e] at x ⊢
    exact q _ _ x
  | a :: ks, es, H, Q, Q', x, q => by
    cases es with
    | cons e es => exact SG.mono x fun y H1 z => tPairs_mono (ks := ks) (es := es) z fun ps H2 w => q _ _ w
    | _ => exact q _ _ x
theorem dsp_pairs {c : Ct} {σ : L2.St} : ∀ (ks : List Str) (es : E) {H : Hp} {Q' : List V → Hp → Prop}, lenE es = some ks.length → SA c W0 (evA T R es) σ H Q' → tPairs (dspT c T R ks es) σ H (fun ps H2 => ∃ vs, ps = (ks.map V.str).zip vs ∧ vs.length = ks.length ∧ Q' vs H2)
  | [], es, H, Q', hl, w => by
    have en : es = .nil := by
      cases es <;> first | rfl | (simp [lenE] at hl; done)
    subst en
    obtain ⟨ρ, h, μ, re, rh, w⟩ := w
    exact ⟨[], rfl, rfl, w _ _ _ .refl rh .nil⟩
  | a :: ks, es, H, Q', hl, w => by
    cases es with
    | cons e es =>
      have hl : lenE es = some ks.length := by
        simp only [lenE, Option.map_eq_some_iff] at hl
        obtain ⟨n, e1, e2⟩ := hl
        rw [List.length_cons] at e2
        rw [e1]; congr 1; omega
      obtain ⟨ρ, h, μ, re, rh, w⟩ := w
      show SE c W0 (evE T R e) σ H _
      refine (step re rh w).mono fun x H1 ⟨h1, μ1, va, x1, re1, rh1, ra, w1⟩ => ?_
      have i := dsp_pairs (c := c) (σ := σ) ks es (H := H1) (Q' := fun vs H2 => ∃ h2 μ2 as, Ext H1 μ1 H2 μ2 ∧ RH c H2 h2 μ2 ∧ RVs c H2 μ2 vs as ∧ wp (ret (va :: as)) (okG c (RVsg c) H2 μ2 Q') (exP c H2 μ2 fun cls d H' => W0 cls d σ H') h2) hl
        ((step re1 rh1 w1).mono fun ys H2 ⟨h2, μ2, bs, x2, re2, rh2, rb, w2⟩ => ⟨h2, μ2, bs, x2, rh2, rb, w2⟩)
      refine tPairs_mono i fun ps H2 ⟨vs, e1, e2, h2, μ2, as, x2, rh2, rs, w2⟩ => ⟨x :: vs, by rw [e1]; rfl, by rw [List.length_cons, List.length_cons, e2], ?_⟩
      exact w2 _ _ _ .refl rh2 (.cons (RV.mono x2 ra) rs)
    | nil => simp [lenE] at hl
    | _ => cases hl
/-- addresses that are hidden, numbered -/
def Mu.shown (μ : Mu) (p : Addr) (hs : List Addr) : Mu := ⟨μ.n ++ [p], hs⟩
section
variable {c : Ct} {H : Hp} {μ : Mu}
mutual
theorem RV.renum {μ' : Mu} (m : ∀ a, a ∈ μ' → a ∈ μ) (g : ∀ (n : Nat) a, μ.n[n]? = some a → μ'.n[n]? = some a) : ∀ {v : V} {a : AV}, RV c H μ v a → RV c H μ' v a
  | _, _, .non => .non
  | _, _, .bl b => .bl b
  | _, _, .int i => .int i
  | _, _, .str s h hz => .str s h hz
  | _, _, .tup h d n l r => .tup h d (fun z => n (m _ z)) l (RVs.renum m g r)
  | _, _, .tupK h l r => .tupK h l (RVs.renum m g r)
  | _, _, .lst h n l r => .lst h (fun z => n (m _ z)) l (RVs.renum m g r)
  | _, _, .ext h n l r => .ext h (fun z => n (m _ z)) l (RVs.renum m g r)
  | _, _, .extK h l r => .extK h l (RVs.renum m g r)
  | _, _, .ref h => .ref (g _ _ h)
  | _, _, .exn h => .exn h
  | _, _, .rep d => .rep d
theorem RVs.renum {μ' : Mu} (m : ∀ a, a ∈ μ' → a ∈ μ) (g : ∀ (n : Nat) a, μ.n[n]? = some a → μ'.n[n]? = some a) : ∀ {v : List V} {a : List AV}, RVs c H μ v a → RVs c H μ' v a
  | _, _, .nil => .nil
  | _, _, .cons h t => .cons (RV.renum m g h) (RVs.renum m g t)
end
theorem RO.renum {μ' : Mu} (m : ∀ a, a ∈ μ' → a ∈ μ) (g : ∀ (n : Nat) a, μ.n[n]? = some a → μ'.n[n]? = some a) {a : Addr} {o : AO} (r : RO c H μ a o) : RO c H μ' a o := by
  cases r with
  | lst h l q => exact .lst h l (q.renum m g)
  | dctK e k rk r => exact .dctK e k (rk.renum m g) (r.renum m g)
  | dctT e e1 e2 e3 e4 e5 e6 e7 e8 e9 rk v r => exact .dctT e e1 e2 e3 e4 e5 e6 e7 e8 e9 (rk.renum m g) v (r.renum m g)
  | ins C h d n k q => exact .ins C h d (fun z => n (m _ z)) k (q.renum m g)
/-- a hidden thing is shown -/
theorem RH.shown {h : AH} (r : RH c H h μ) {p : Addr} {hs : List Addr} (eh : μ.h = p :: hs) (np : p ∉ hs) {o : AO} (n : RO c H (μ.shown p hs) p o) : RH c H (h ++ [o]) (μ.shown p hs) := by
  have hp : p ∈ μ.h := by rw [eh]; exact List.mem_cons_self
  have m : ∀ a, a ∈ μ.shown p hs → a ∈ μ := fun a z => by
    rcases z with z | z
    · rcases List.mem_append.mp z with z | z
      · exact .inl z
      · rw [List.mem_singleton.mp z]; exact .inr hp
    · exact .inr (by rw [eh]; exact List.mem_cons_of_mem _ z)
  have g : ∀ (n : Nat) a, μ.n[n]? = some a → (μ.shown p hs).n[n]? = some a := fun n a e => by
    show (μ.n ++ [p])[n]? = _
    rw [List.getElem?_append_left (List.getElem?_eq_some_iff.mp e).1]
    exact e
  refine ⟨by show (μ.n ++ [p]).length = _; rw [List.length_append, List.length_append, r.len]; rfl, ?_, fun k q hq => ?_, fun a ma => ?_⟩
  · show (μ.n ++ [p]).Nodup
    rw [List.nodup_append]
    refine ⟨r.nd, by simp, fun a ha b hb => ?_⟩
    rw [List.mem_singleton.mp hb]
    exact fun z => (r.hid p hp).1 (z ▸ ha)
  · by_cases hk : k < h.length
    · rw [List.getElem?_append_left hk] at hq
      obtain ⟨b, hb, ro⟩ := r.thing k q hq
      exact ⟨b, g _ _ hb, ro.renum m g⟩
    · have hm' : k = h.length := by
        have := (List.getElem?_eq_some_iff.mp hq).1
        rw [List.length_append] at this
        simp at this
        omega
      subst hm'
      rw [List.getElem?_append_right (Nat.le_refl _)] at hq
      simp at hq
      subst hq
      refine ⟨p, ?_, n⟩
      show (μ.n ++ [p])[h.length]? = some p
      rw [← r.len, List.getElem?_append_right (Nat.le_refl _)]
      simp
  · obtain ⟨h1, u, h2⟩ := r.hid a (by rw [eh]; exact List.mem_cons_of_mem _ ma)
    refine ⟨fun z => ?_, u, h2⟩
    rcases List.mem_append.mp z with z | z
    · exact h1 z
    · rw [List.mem_singleton.mp z] at ma
      exact np ma
end
theorem text_keys {c : Ct} {H : Hp} {μ : Mu} : ∀ {ks : List Str}, (∀ a ∈ ks, PyData.strOk a = true ∧ a.length ≤ 1000) → RVs c H μ (ks.map V.str) ((ks.map NestedKey.text).map kav)
  | [], _ => .nil
  | a :: ks, h => .cons (.str a (h a (by simp)).1 (by have := (h a (by simp)).2; rw [sizeLine_eq]; omega)) (text_keys fun b hb => h b (by simp [hb]))
theorem zip_kv : ∀ {ks : List Str} {vs : List V}, (((ks.map (Sum.inr : Str → Key)).zip vs).map fun kv => (kV kv.1, kv.2)) = (ks.map V.str).zip vs
  | [], _ => rfl
  | _ :: _, [] => rfl
  | a :: ks, v :: vs => by
    have := zip_kv (ks := ks) (vs := vs)
    simp only [List.map_cons, List.zip_cons_cons]
    rw [this]; rfl
theorem s_dsp (ks : List Str) {es : E} (sa : Snd T R es) (sl : SndL T R es) : Snd T R (.dsp ks es) := by
  refine .plain rfl rfl (fun {X c k W p} G tk h => ?_) (fun _ _ h => absurd h Bool.false_ne_true)
  split at h
  · rename_i keys values pos
    simp only [Bool.and_eq_true, decide_eq_true_eq] at h
    obtain ⟨⟨⟨⟨hl, k15⟩, h1⟩, h2⟩, h3⟩ := h
    have hle := lenE_chk h3 h2
    · obtain ⟨i1, i2, i3, i4⟩ := dsp_pps (X := X) (c := c) (pos := pos) G ks keys es values sl h1 h2 h3 hl
      -- what a new dict at p answers
      have fin : ∀ {ρ : AEnv} {h0 : AH} {H : Hp} {μ : Mu} {Q : V → Hp → Prop} {σ : L2.St} {pd : Addr} {ws : List V} {H2 : Hp} {h2 : AH} {μ2 : Mu} {as : List AV}, RH c H h0 μ → H pd = none → Ext (upd H pd (.dK [])) (μ.hide pd) H2 μ2 → RH c H2 h2 μ2 → RVs c H2 μ2 ws as → as.length = ks.length → ks.Nodup → okP c H μ Q (.ref h2.length) (h2 ++ [.dct ((ks.map NestedKey.text).zip as)]) →
          Q (.ref pd) (upd H2 pd (.dK ((ks.map Sum.inr).zip ws))) := fun {ρ h0 H μ Q σ pd ws H2 h2 μ2 as} rh hp x rh2 rs hla nd q => by
        have hlw : ws.length = ks.length := by rw [rs.length, hla]
        have eh : μ2.h = pd :: μ.h := x.hid
        have hm : pd ∈ μ2.h := by rw [eh]; exact List.mem_cons_self
        have np : pd ∉ μ.h := fun z => rh.free hp (.inr z)
        have xp : ExtW H2 μ2 (upd H2 pd (.dK ((ks.map Sum.inr).zip ws))) μ2 := ExtW.put hm
        have rh3 : RH c (upd H2 pd (.dK ((ks.map Sum.inr).zip ws))) h2 μ2 := rh2.put hm
        have rs3 := rs.monoW xp
        have mm : ∀ a, a ∈ μ2.shown pd μ.h → a ∈ μ2 := fun a z => by
          rcases z with z | z
          · rcases List.mem_append.mp z with z | z
            · exact .inl z
            · rw [List.mem_singleton.mp z]; exact .inr hm
          · exact .inr (by rw [eh]; exact List.mem_cons_of_mem _ z)
        have gg : ∀ (n : Nat) a, μ2.n[n]? = some a → (μ2.shown pd μ.h).n[n]? = some a := fun n a e => by
          show (μ2.n ++ [pd])[n]? = _
          rw [List.getElem?_append_left (List.getElem?_eq_some_iff.mp e).1]
          exact e
        have ro : RO c (upd H2 pd (.dK ((ks.map Sum.inr).zip ws))) (μ2.shown pd μ.h) pd (.dct ((ks.map NestedKey.text).zip as)) := by
          refine .dctK upd_same ?_ ?_ ?_
          · have e0 : (((ks.map Sum.inr).zip ws).map fun p => keyN p.1) = (ks.map Sum.inr).map keyN := by
              rw [show (fun p : Key × V => keyN p.1) = keyN ∘ Prod.fst from rfl, ← List.map_map, List.map_fst_zip (by simp [hlw])]
            rw [e0, List.map_fst_zip (by simp [hla]), List.map_map]; rfl
          · have e1 : (((ks.map Sum.inr).zip ws).map fun p => kV p.1) = ks.map V.str := by
              rw [show (fun p : Key × V => kV p.1) = kV ∘ Prod.fst from rfl, ← List.map_map, List.map_fst_zip (by simp [hlw]), List.map_map]; rfl
            have e2 : (((ks.map NestedKey.text).zip as).map fun p => kav p.1) = (ks.map NestedKey.text).map kav := by
              rw [show (fun p : NestedKey × AV => kav p.1) = kav ∘ Prod.fst from rfl, ← List.map_map, List.map_fst_zip (by simp [hla])]
            rw [e1, e2]
            exact text_keys i4
          · rw [List.map_snd_zip (by simp [hlw]), List.map_snd_zip (by simp [hla])]
            exact rs3.renum mm gg
        have rh4 := rh3.shown eh np ro
        have xx : Ext H μ (upd H2 pd (.dK ((ks.map Sum.inr).zip ws))) (μ2.shown pd μ.h) := by
          obtain ⟨r, er⟩ := x.w.pre
          refine ⟨⟨⟨r ++ [pd], by show μ2.n ++ [pd] = _; rw [er, List.append_assoc]; rfl⟩, fun a o e n => ?_, fun a m n => ?_⟩, rfl, fun a m => ?_⟩
          · have ne : a ≠ pd := ne_of_none e hp
            rw [upd_ne ne]
            exact x.w.keep a o (by rw [upd_ne ne]; exact e) fun z => by
              rcases Mu.mem_hide.mp z with z | z
              · exact n z
              · exact ne z
          · by_cases ne : a = pd
            · rw [ne]; exact hp
            · have := x.w.new a (mm a m) (fun z => by
                rcases Mu.mem_hide.mp z with z | z
                · exact n z
                · exact ne z)
              rw [upd_ne ne] at this
              exact this
          · have ne : a ≠ pd := fun z => np (z ▸ m)
            rw [upd_ne ne, x.hk a (List.mem_cons_of_mem _ m), upd_ne ne]
        refine q _ _ _ xx rh4 (.ref ?_)
        show (μ2.n ++ [pd])[h2.length]? = _
        rw [← rh2.len, List.getElem?_append_right (Nat.le_refl _)]
        simp
      have parts : ∀ {σ : L2.St} {H : Hp} {Q : V → Hp → Prop}, SE c W (evE T R (.dsp ks es)) σ H Q → ∃ (ρ : AEnv) (h0 : AH) (μ : Mu), RE c H μ σ ρ ∧ RH c H h0 μ ∧ ∀ pd, H pd = none → SA c W0 (evA T R es) σ (upd H pd (.dK [])) fun ws H2 => H2 pd = some (.dK []) ∧ ks.length ≤ 15 ∧ ks.Nodup ∧ Q (.ref pd) (upd H2 pd (.dK ((ks.map Sum.inr).zip ws))) := fun {σ H Q} ⟨ρ, h0, μ, re, rh, w⟩ => by
        refine ⟨ρ, h0, μ, re, rh, fun pd hp => ?_⟩
        have w : wp (bnd (noX (evA T R es ρ)) fun vs => if vs.length = ks.length ∧ ks.length ≤ 15 ∧ ks.Nodup then push (.dct ((ks.map NestedKey.text).zip vs)) else stuck) (okP c H μ Q) (exP c H μ fun cls d H' => W cls d σ H') h0 := w
        rw [wp_bnd, wp_noX] at w
        refine ⟨ρ, h0, μ.hide pd, re.monoW (ExtW.hide hp), rh.hide hp, wp_mono w (fun as h2 w2 ws H2 μ2 x rh2 rs => ?_) fun _ _ z => z.elim⟩
        split at w2
        · rename_i hc
          have w2 : okP c H μ Q (.ref h2.length) (h2 ++ [.dct ((ks.map NestedKey.text).zip as)]) := w2
          refine ⟨?_, hc.2.1, hc.2.2, fin (ρ := ρ) (h0 := h0) (σ := σ) rh hp x rh2 rs hc.1 hc.2.2 w2⟩
          rw [x.hk pd List.mem_cons_self, upd_same]
        · exact w2.elim
      by_cases k0 : keys = []
      · subst k0
        have ke : ks = [] := List.eq_nil_of_length_eq_zero i3.symm
        subst ke
        have ve : values = [] := List.eq_nil_of_length_eq_zero hl.symm
        subst ve
        have en : es = .nil := by
          cases es <;> first | rfl | (simp [lenE] at hle; done)
        subst en
        refine pe_imp pe_dnewK fun σ H Q w => ?_
        obtain ⟨ρ, h0, μ, re, rh, w⟩ := parts w
        intro pd hp
        obtain ⟨ρ2, h2, μ2, re2, rh2, w2⟩ := w pd hp
        obtain ⟨_, _, _, q⟩ := w2 _ _ _ .refl rh2 .nil
        rw [show ((([] : List Str).map (Sum.inr : Str → Key)).zip ([] : List V)) = [] from rfl, upd_upd] at q
        exact q
      · refine pe_imp (pe_disp i1 i2 (by rw [i3, hl]) k0 (by rw [i3]; exact k15)) fun σ H Q w => ?_
        obtain ⟨ρ, h0, μ, re, rh, w⟩ := parts w
        intro pd hp
        refine tPairs_mono (dsp_pairs ks es (by rw [hle, hl]) (w pd hp)) fun ps H2 ⟨vs, e1, e2, q1, q2, q3, q4⟩ => ⟨q1, (ks.map Sum.inr).zip vs, ?_, ?_, ?_⟩
        · rw [e1, ← zip_kv]
        · simp [e2]; omega
        · rw [merge_app (by
            rw [List.nil_append, List.map_fst_zip (by simp [e2])]
            exact List.pairwise_map.mpr (q3.imp fun {a b} ne z => ne (Sum.inr.inj z))), List.nil_append]
          exact q4
  · cases h
theorem snd2 : ∀ e : E, Snd T R e ∧ SndL T R e
  | .var i => ⟨s_var i, trivial⟩
  | .non => ⟨s_non, trivial⟩
  | .bl b => ⟨s_bl b, trivial⟩
  | .int i => ⟨s_int i, trivial⟩
  | .str x => ⟨s_str x, trivial⟩
  | .glb x => ⟨s_glb x, trivial⟩
  | .nil => ⟨s_nil, trivial⟩
  | .cons e es => ⟨s_cons (snd2 e).1 (snd2 es).1, (snd2 e).1, (snd2 es).2⟩
  | .star e es => ⟨s_star (snd2 e).1 (snd2 es).1, trivial⟩
  | .tup es => ⟨s_tup (snd2 es).1, trivial⟩
  | .lst es => ⟨s_lst (snd2 es).1, trivial⟩
  | .own e => ⟨s_own (snd2 e).1, trivial⟩
  | .bin o a b => ⟨s_bin o (snd2 a).1 (snd2 b).1, trivial⟩
  | .neg a => ⟨s_neg (snd2 a).1, trivial⟩
  | .cmp o a b => ⟨s_cmp o (snd2 a).1 (snd2 b).1, trivial⟩
  | .chain a l => ⟨s_chain (snd2 a).1 (snd2 l).1, trivial⟩
  | .lnk o b l => ⟨s_lnk o (snd2 b).1 (snd2 l).1, trivial⟩
  | .not a => ⟨s_not (snd2 a).1, trivial⟩
  | .band es => ⟨s_band (snd2 es).1, trivial⟩
  | .bor es => ⟨s_bor (snd2 es).1, trivial⟩
  | .ite t a b => ⟨s_ite (snd2 t).1 (snd2 a).1 (snd2 b).1, trivial⟩
  | .idx a b => ⟨s_idx (snd2 a).1 (snd2 b).1, trivial⟩
  | .slc a lo hi => ⟨s_slc (snd2 a).1 (snd2 lo).1 (snd2 hi).1, trivial⟩
  | .rev a => ⟨s_rev (snd2 a).1, trivial⟩
  | .call tr f es => ⟨s_call tr f (snd2 es).1, trivial⟩
  | .bf f es => ⟨s_bf f (snd2 es).1, trivial⟩
  | .md m a es => ⟨s_md m (snd2 a).1 (snd2 es).1, trivial⟩
  | .fld C f a => ⟨s_fld C f (snd2 a).1, trivial⟩
  | .mcl tr C m a es => ⟨s_mcl tr C m (snd2 a).1 (snd2 es).1, trivial⟩
  | .rgl t lo hi => ⟨s_rgl t (snd2 lo).1 (snd2 hi).1, trivial⟩
  | .rng es => ⟨s_rng (snd2 es).1, trivial⟩
  | .enum a => ⟨s_enum (snd2 a).1, trivial⟩
  | .zip a b => ⟨s_zip (snd2 a).1 (snd2 b).1, trivial⟩
  | .rvd a => ⟨s_rvd (snd2 a).1, trivial⟩
  | .rngc a b c => ⟨s_rngc (snd2 a).1 (snd2 b).1 (snd2 c).1, trivial⟩
  | .comp vs elt t src cond => ⟨s_comp vs t (snd2 elt).1 (snd2 src).1 (snd2 cond).1, trivial⟩
  | .comp2 vs vs1 elt t src t1 src1 cond => ⟨s_comp2 vs vs1 t t1 (snd2 elt).1 (snd2 src).1 (snd2 src1).1 (snd2 cond).1, trivial⟩
  | .isx x cs => ⟨s_isx cs (snd2 x).1, trivial⟩
  | .isb x ts => ⟨s_isb ts (snd2 x).1, trivial⟩
  | .dsel tab a => ⟨s_dsel tab (snd2 a).1, trivial⟩
  | .dget tab a d => ⟨s_dget tab d (snd2 a).1, trivial⟩
  | .gsel x a => ⟨s_gsel x (snd2 a).1, trivial⟩
  | .isv x => ⟨s_isv (snd2 x).1, trivial⟩
  | .dsp ks es => ⟨s_dsp ks (snd2 es).1 (snd2 es).2, trivial⟩
  | .dgt a b d => ⟨s_dgt (snd2 a).1 (snd2 b).1 (snd2 d).1, trivial⟩
theorem snd (e : E) : Snd T R e := (snd2 e).1
end
end Z

set_option Elab.async false
set_option linter.all false
set_option maxRecDepth 100000
set_option autoImplicit false
set_option maxHeartbeats 1000000
/-! ZL: statements. -/
namespace Z
open PySem PySem.Spec PyProof.Rows L2

/-! ### readings of statements -/
def wpS (m : MS) (P : Fl → AEnv → AH → Prop) (h : AH) : Prop := match m h with
  | some (f, ρ, h') => P f ρ h'
  | none => False
theorem wpS_mono {m : MS} {P P' : Fl → AEnv → AH → Prop} {h : AH} (w : wpS m P h) (q : ∀ f ρ h', P f ρ h' → P' f ρ h') : wpS m P' h := by
  unfold wpS at w ⊢
  cases e : m h with
  | none => rw [e] at w; exact w
  | some r => rw [e] at w; exact q _ _ _ w
theorem wpS_useE {α : Type} {m : M α} {ρ : AEnv} {k : α → MS} {P : Fl → AEnv → AH → Prop} {h : AH} : wpS (useE m ρ k) P h ↔ wp m (fun a h' => wpS (k a) P h') (fun x h' => P (.ex x) ρ h') h := by
  unfold wpS useE wp
  cases m h with
  | none => exact Iff.rfl
  | some o => cases o <;> exact Iff.rfl
theorem wpS_done {f : Fl} {ρ : AEnv} {P : Fl → AEnv → AH → Prop} {h : AH} : wpS (done f ρ) P h = P f ρ h := rfl
/-- what is wanted behind -/
def endP (c : Ct) (W : WX) (D : Ends) (H' : Hp) (μ' : Mu) (σ' : L2.St) : Fl → Prop
  | .nx => D.nx σ' H'
  | .bk => D.bk σ' H'
  | .ct => D.ct σ' H'
  | .rt v => ∀ V, RV c H' μ' V v → D.rt V H'
  | .ex x => ∀ cls d, RX c x cls d H' → W cls d σ' H'
def endS (c : Ct) (W : WX) (D : Ends) (H : Hp) (μ : Mu) : Fl → AEnv → AH → Prop := fun f ρ' h' => ∀ H' μ', Ext H μ H' μ' → RH c H' h' μ' → ∀ σ', RE c H' μ' σ' ρ' → endP c W D H' μ' σ' f
theorem endS.later {c : Ct} {W : WX} {D : Ends} {H H1 : Hp} {μ μ1 : Mu} {f : Fl} {ρ : AEnv} {h : AH} (k : endS c W D H μ f ρ h) (x : Ext H μ H1 μ1) : endS c W D H1 μ1 f ρ h := fun H' μ' e => k H' μ' (x.trans e)
theorem endS.now {c : Ct} {W : WX} {D : Ends} {H : Hp} {μ : Mu} {f : Fl} {ρ : AEnv} {h : AH} (k : endS c W D H μ f ρ h) {σ : L2.St} (re : RE c H μ σ ρ) (rh : RH c H h μ) : endP c W D H μ σ f := k H μ .refl rh σ re
def SS (c : Ct) (W : WX) (m : AEnv → MS) : TS := fun D σ H => ∃ ρ h μ, RE c H μ σ ρ ∧ RH c H h μ ∧ wpS (m ρ) (endS c W D H μ) h
theorem stepS {α β : Type} {c : Ct} {W : WX} {R : Hp → Mu → β → α → Prop} {m : AEnv → M α} {k : α → MS} {σ : L2.St} {ρ : AEnv} {H : Hp} {h : AH} {μ : Mu} {D : Ends} (re : RE c H μ σ ρ) (rh : RH c H h μ) (w : wpS (useE (m ρ) ρ k) (endS c W D H μ) h) :
    SG c R W m σ H (fun b H1 => ∃ h1 μ1 a, Ext H μ H1 μ1 ∧ RE c H1 μ1 σ ρ ∧ RH c H1 h1 μ1 ∧ R H1 μ1 b a ∧ wpS (k a) (endS c W D H1 μ1) h1) := by
  rw [wpS_useE] at w
  refine ⟨ρ, h, μ, re, rh, wp_mono w (fun a h' k1 b H' μ' e r r' => ?_) fun x h' q H' μ' e r cls d rx => ?_⟩
  · exact ⟨h', μ', a, e, re.mono e, r, r', wpS_mono k1 fun _ _ _ q => q.later e⟩
  · exact q H' μ' e r σ (re.mono e) cls d rx

/-- what a statement asks of its context -/
structure Gs (X : Cx) (c : Ct) (T : Tb) (R : Rec) (k : Ck) : Prop where
  g : Gd X c T R k
  st : X.stack = X.env :: X.outer
  fr : X.env.frame = some X.env.locals
  po : k.cm = true → PassesOwn (model X.prog X.w) X.A X.env X.xe
  kd : X.env.scope.kind = .function

/-! ### the check -/
structure SkR where
  one : Ck → Stmt → Bool
  blk : Ck → List Stmt → Bool
  hnd : Ck → List ExceptHandler → Bool := fun _ _ => false
def notComp : Expr → Bool
  | .ListComp .. | .SetComp .. | .DictComp .. => false
  | _ => true
def notTup : Expr → Bool
  | .Tuple .. => false
  | _ => true
/-- a list comprehension that goes straight to a local name -/
def swNow (k : Ck) (y : Str) (py : Pos) : Expr → Bool
  | .ListComp _ _ scope pos => decide (k.sc.names.lookup y = some .local) && (py.line == pos.line) && !(scope.names.any fun (n, k) => n == y && (k == .local || k == .cell))
  | _ => false
/-- .. that does not -/
def swNot (k : Ck) (y : Str) (py : Pos) : Expr → Bool
  | .ListComp _ _ scope pos => !(decide (k.sc.names.lookup y = some .local)) || !(py.line == pos.line) || (scope.names.any fun (n, k) => n == y && (k == .local || k == .cell))
  | .SetComp .. | .DictComp .. => false
  | _ => true
def one0 (f : Ck → Stmt → Bool) : SkR := ⟨f, fun _ _ => false, fun _ _ => false⟩
def isComp : E → Bool
  | .comp .. | .comp2 .. => true
  | .own (.comp ..) | .own (.comp2 ..) => true
  | _ => false
def ckS : S → SkR
  | .nil => ⟨fun _ _ => false, (fun _ l => match l with
    | [] => true
    | _ => false), fun _ l => match l with
    | [] => true
    | _ => false⟩
  | .seq s t => ⟨fun _ _ => false, (fun k l => match l with
    | p :: ps => (ckS s).one k p && (ckS t).blk k ps
    | [] => false), fun _ _ => false⟩
  | .asg t e => one0 fun k p => match p with
    | .Assign [.Name y py] q _ => chkTg k t (.Name y py) && chkE k e q && (swNot k y py q || (swNow k y py q && isComp e))
    | .Assign [.Tuple l n tp] q _ => chkTg k t (.Tuple l n tp) && chkE k e q && notTup q
    | _ => false
  | .sub o i e => one0 fun k p => match p with
    | .Assign [.Subscript q r _] v _ => notSlice r && chkE k o q && chkE k i r && chkE k e v
    | _ => false
  | .asub o i b e => one0 fun k p => match p with
    | .AugAssign (.Subscript q r _) op v _ => notSlice r && (match b, op with
        | .add, .Add => true
        | .sub, .Sub => true
        | _, _ => false) && chkE k o q && chkE k i r && chkE k e v
    | _ => false
  | .att C f o e => one0 fun k p => match p with
    | .Assign [.Attribute q x _] v _ => decide (f = x) && k.F C f && chkE k o q && chkE k e v
    | _ => false
  | .aatt C f o b e => one0 fun k p => match p with
    | .AugAssign (.Attribute q x _) op v _ => decide (f = x) && k.F C f && (match b, op with
        | .add, .Add => true
        | .sub, .Sub => true
        | _, _ => false) && chkE k o q && chkE k e v
    | _ => false
  | .aug i o e => one0 fun k p => match p with
    | .AugAssign (.Name x _) op q _ => decide (k.N[i]? = some x) && (match k.sc.names.lookup x with
      | some .local => true
      | some .cell => k.fl x
      | _ => false) && (match o, op with
        | .add, .Add => true
        | .sub, .Sub => true
        | _, _ => false) && chkE k e q
    | _ => false
  | .par i j es => one0 fun k p => match p with
    | .Assign [.Tuple [.Name x px, .Name y py] _ _] (.Tuple [a, b] _ _) _ => k.cm && decide (i ≠ j) && decide (k.N[i]? = some x) && decide (k.N[j]? = some y) && decide (k.sc.names.lookup x = some .local) && decide (k.sc.names.lookup y = some .local) && decide (x ≠ y) && (py.line == px.line) && plainE a && plainE b && !(foldedForSure 8 a && foldedForSure 8 b) && !(constantsAlone 8 a && constantsAlone 8 b) && (ck es).a k [a, b]
    | _ => false
  | .exp e => one0 fun k p => match p with
    | .Expr q _ => notComp q && chkE k e q
    | _ => false
  | .ret e => one0 fun k p => match p with
    | .Return (some q) _ => chkE k e q
    | _ => false
  | .retN => one0 fun _ p => match p with
    | .Return none _ => true
    | _ => false
  | .ite c s t => one0 fun k p => match p with
    | .If q l r _ => chkT k c q && (ckS s).blk k l && (ckS t).blk k r
    | _ => false
  | .for t src s => one0 fun k p => match p with
    | .For tg iter body [] _ => k.cm && notSet iter && (pairOk src tg && chkI k src iter) && chkTg k t tg && (ckS s).blk k body
    | _ => false
  | .while c s => one0 fun k p => match p with
    | .While q body [] _ => k.cm && chkT k c q && (ckS s).blk k body
    | _ => false
  | .brk => one0 fun _ p => match p with
    | .Break _ => true
    | _ => false
  | .cnt => one0 fun _ p => match p with
    | .Continue _ => true
    | _ => false
  | .pass => one0 fun _ p => match p with
    | .Pass _ => true
    | _ => false
  | .raise C => one0 fun k p => match p with
    | .Raise (some (.Call (.Name x _) [.Constant (.str _) _ _] [] _)) none _ => k.cm && decide (C = x) && isGl k.sc x && !isDbg x && k.X x
    | _ => false
  | .try s h => one0 fun k p => match p with
    | .Try body (h1 :: hs) [] [] _ => k.cm && (ckS s).blk k body && (ckS h).hnd k (h1 :: hs)
    | _ => false
  | .hnd C i u r => ⟨fun _ _ => false, fun _ _ => false, fun k l => match l with
    | .ExceptHandler (some (.Name x _)) on (st :: sts) _ :: hs => decide (C = x) && isGl k.sc x && !isDbg x && k.X x && (match i, on with
      | none, none => true
      | some i, some n => decide (k.N[i]? = some n) && decide (k.sc.names.lookup n = some .local)
      | _, _ => false) && (ckS u).blk k.suite (st :: sts) && (ckS r).hnd k hs
    | _ => false⟩
  | .opq => one0 fun _ _ => true

structure SndS (T : Tb) (R : Rec) (s : S) : Prop where
  ps : ∀ {X : Cx} {c : Ct} {k : Ck} {W : WX} {p : Stmt}, Gs X c T R k → Takes X W → (ckS s).one k p = true → PS X p (SS c W (evS T R s))
  pb : ∀ {X : Cx} {c : Ct} {k : Ck} {W : WX} {l : List Stmt}, Gs X c T R k → Takes X W → (ckS s).blk k l = true → PSs X l (SS c W (evS T R s))

section
variable {X : Cx} {st : Stmt}
theorem ps_imp {t t' : TS} (h : PS X st t) (f : ∀ D σ H, t' D σ H → t D σ H) : PS X st t' := ⟨fun pins s σ H D I w => h.run pins s σ H D I (f _ _ _ w)⟩
theorem pss_imp {l : List Stmt} {t t' : TS} (h : PSs X l t) (f : ∀ D σ H, t' D σ H → t D σ H) : PSs X l t' := ⟨fun pins s σ H D I w => h.run pins s σ H D I (f _ _ _ w)⟩
end
theorem sw_none {e : Expr} {tg : Option Expr} {n : Nat} {env : Env} (h : notComp e = true) : swapsWith e tg n env = pure false := by
  cases e <;> first | rfl | (simp [notComp] at h; done)

section
variable {T : Tb} {R : Rec}
theorem SndS.one {s : S} (h : ∃ f, ckS s = one0 f) (ps : ∀ {X : Cx} {c : Ct} {k : Ck} {W : WX} {p : Stmt}, Gs X c T R k → Takes X W → (ckS s).one k p = true → PS X p (SS c W (evS T R s))) : SndS T R s :=
  ⟨ps, fun {X c k W l} _ _ z => by
    obtain ⟨f, h⟩ := h
    rw [h] at z
    cases z⟩
theorem ss_nil : SndS T R .nil := by
  refine ⟨fun _ _ h => absurd h Bool.false_ne_true, fun {X c k W l} G tk h => ?_⟩
  match l, h with
  | [], _ => exact pss_imp pss_nil fun D σ H ⟨ρ, h, μ, re, rh, w⟩ => endS.now (W := W) (f := .nx) w re rh
  | _ :: _, h => exact absurd h Bool.false_ne_true
theorem wpS_seqS {m : MS} {k : AEnv → MS} {P : Fl → AEnv → AH → Prop} {h : AH} (w : wpS (seqS m k) P h) : wpS m (fun f ρ h' => match f with
    | .nx => wpS (k ρ) P h'
    | f => P f ρ h') h := by
  unfold wpS seqS at w
  unfold wpS
  cases e : m h with
  | none => rw [e] at w; exact w
  | some r =>
    rw [e] at w
    obtain ⟨f, ρ, h'⟩ := r
    cases f <;> exact w
theorem ss_seq {s t : S} (a : SndS T R s) (b : SndS T R t) : SndS T R (.seq s t) := by
  refine ⟨fun _ _ h => absurd h Bool.false_ne_true, fun {X c k W l} G tk h => ?_⟩
  match l, h with
  | [], h => exact absurd h Bool.false_ne_true
  | p :: ps, h =>
    have h : ((ckS s).one k p && (ckS t).blk k ps) = true := h
    rw [Bool.and_eq_true] at h
    refine pss_imp (pss_cons (a.ps G tk h.1) (b.pb G tk h.2)) fun D σ H ⟨ρ, h0, μ, re, rh, w⟩ => ⟨ρ, h0, μ, re, rh, ?_⟩
    refine wpS_mono (wpS_seqS w) fun f ρ' h' q H' μ' x r σ' re' => ?_
    cases f with
    | nx => exact ⟨ρ', h', μ', re', r, wpS_mono q fun _ _ _ z => z.later x⟩
    | bk => exact q H' μ' x r σ' re'
    | ct => exact q H' μ' x r σ' re'
    | rt v => exact q H' μ' x r σ' re'
    | ex x1 => exact q H' μ' x r σ' re'
theorem ss_exp {e : E} : SndS T R (.exp e) := by
  refine .one ⟨_, rfl⟩ fun {X c k W p} G tk h => ?_
  simp only [ckS, one0] at h
  split at h
  · rw [Bool.and_eq_true] at h
    refine ps_imp (ps_expr ((snd e).pe G.g tk h.2) (sw_none h.1)) fun D σ H ⟨ρ, h0, μ, re, rh, w⟩ => ?_
    exact (stepS (R := RVg c) re rh w).mono fun v H1 ⟨h1, μ1, a, x, re1, rh1, ra, w1⟩ => endS.now (W := W) (f := .nx) w1 re1 rh1
  · cases h
theorem ss_ret {e : E} : SndS T R (.ret e) := by
  refine .one ⟨_, rfl⟩ fun {X c k W p} G tk h => ?_
  simp only [ckS, one0] at h
  split at h
  · refine ps_imp (ps_ret ((snd e).pe G.g tk h)) fun D σ H ⟨ρ, h0, μ, re, rh, w⟩ => ?_
    exact (stepS (R := RVg c) re rh w).mono fun v H1 ⟨h1, μ1, a, x, re1, rh1, ra, w1⟩ => endS.now (W := W) (f := .rt a) w1 re1 rh1 v ra
  · cases h
theorem ss_retN : SndS T R .retN := by
  refine .one ⟨_, rfl⟩ fun {X c k W p} G tk h => ?_
  simp only [ckS, one0] at h
  split at h
  · exact ps_imp ps_retN fun D σ H ⟨ρ, h0, μ, re, rh, w⟩ => endS.now (W := W) (f := .rt .non) w re rh _ .non
  · cases h
theorem ss_pass : SndS T R .pass := by
  refine .one ⟨_, rfl⟩ fun {X c k W p} G tk h => ?_
  simp only [ckS, one0] at h
  split at h
  · exact ps_imp ps_pass fun D σ H ⟨ρ, h0, μ, re, rh, w⟩ => endS.now (W := W) (f := .nx) w re rh
  · cases h
theorem ss_brk : SndS T R .brk := by
  refine .one ⟨_, rfl⟩ fun {X c k W p} G tk h => ?_
  simp only [ckS, one0] at h
  split at h
  · exact ps_imp ps_break fun D σ H ⟨ρ, h0, μ, re, rh, w⟩ => endS.now (W := W) (f := .bk) w re rh
  · cases h
theorem ss_cnt : SndS T R .cnt := by
  refine .one ⟨_, rfl⟩ fun {X c k W p} G tk h => ?_
  simp only [ckS, one0] at h
  split at h
  · exact ps_imp ps_continue fun D σ H ⟨ρ, h0, μ, re, rh, w⟩ => endS.now (W := W) (f := .ct) w re rh
  · cases h
theorem ss_ite {c : E} {s t : S} (a : SndS T R s) (b : SndS T R t) : SndS T R (.ite c s t) := by
  refine .one ⟨_, rfl⟩ fun {X ct k W p} G tk h => ?_
  simp only [ckS, one0] at h
  split at h
  · simp only [Bool.and_eq_true] at h
    refine ps_imp (ps_if ((snd c).pt G.g tk h.1.1) (a.pb G tk h.1.2) (b.pb G tk h.2)) fun D σ H ⟨ρ, h0, μ, re, rh, w⟩ => ?_
    refine (stepS (R := REq) re rh w).mono fun v H1 ⟨h1, μ1, a, x, re1, rh1, ra, w1⟩ => ?_
    have ra : v = a := ra
    subst ra
    cases v with
    | true => exact ⟨ρ, h1, μ1, re1, rh1, w1⟩
    | false => exact ⟨ρ, h1, μ1, re1, rh1, w1⟩
  · cases h
theorem notComp_of {k : Ck} {y : Str} {py : Pos} {e : Expr} {n : Nat} {env : Env} (hsc : k.sc = env.scope) (h : swNot k y py e = true) : swapsWith e (some (.Name y py)) n env = pure false := by
  cases e <;> first | rfl | (simp [swNot] at h; done) | skip
  rename_i elt gs scope pos
  have hk : env.kindOf y = k.sc.names.lookup y := by rw [hsc]; rfl
  have h : (!(decide (k.sc.names.lookup y = some .local)) || !(py.line == pos.line) || (scope.names.any fun (n, k) => n == y && (k == .local || k == .cell))) = true := h
  unfold swapsWith
  show (pure (env.blockKind == .function && env.kindOf y == some .local && py.line == pos.line && !(scope.names.any fun (n, k) => n == y && (k == .local || k == .cell))) : Sem Bool) = _
  rw [hk]
  congr 1
  by_cases e1 : k.sc.names.lookup y = some .local
  · by_cases e2 : (py.line == pos.line) = true
    · by_cases e3 : (scope.names.any fun (n, k) => n == y && (k == .local || k == .cell)) = true
      · rw [e3]; simp
      · rw [Bool.not_eq_true] at e3
        rw [e3, e2] at h
        simp [e1] at h
    · rw [Bool.not_eq_true] at e2
      rw [e2]; simp
  · have : (k.sc.names.lookup y == some .local) = false := by
      rw [beq_eq_false_iff_ne]
      exact e1
    rw [this]; simp
theorem loc_of {X : Cx} {c : Ct} {k : Ck} {t : Tg} {y : Str} {py : Pos} (G : Gd X c T R k) (h : chkTg k t (.Name y py) = true) : ∃ i, t = .var i ∧ X.N[i]? = some y ∧ Loc X.env.scope y ∧ (X.fn y = true ∨ X.env.scope.names.lookup y = some .local) := by
  cases t with
  | var i =>
    have h : (decide (k.N[i]? = some y) && (match k.sc.names.lookup y with | some .local => true | some .cell => k.fl y | _ => false)) = true := h
    rw [Bool.and_eq_true, decide_eq_true_eq, G.N] at h
    obtain ⟨h1, h2⟩ := h
    rw [G.sc] at h2
    refine ⟨i, rfl, h1, ?_⟩
    split at h2
    · rename_i z; exact ⟨.inl z, .inr z⟩
    · rename_i z; exact ⟨.inr z, .inl (G.fl _ h2)⟩
    · cases h2
  | nil => exact absurd h Bool.false_ne_true
  | cons _ _ => exact absurd h Bool.false_ne_true
theorem asg_end {c : Ct} {W : WX} {D : Ends} {H1 : Hp} {μ1 : Mu} {h1 : AH} {σ : L2.St} {ρ : AEnv} {a : AV} {v : V} {t : Tg} (re1 : RE c H1 μ1 σ ρ) (rh1 : RH c H1 h1 μ1) (ra : RV c H1 μ1 v a) (w1 : wpS (match bindT t a ρ with | some ρ' => done .nx ρ' | none => stuckS) (endS c W D H1 μ1) h1) : gT c t v σ H1 D.nx := by
  split at w1
  · rename_i ρ' e
    exact ⟨ρ, h1, μ1, a, ρ', re1, rh1, ra, e, fun σ' re' _ => endS.now (W := W) (f := .nx) w1 re' rh1⟩
  · exact w1.elim
theorem swst_none {tg : Expr} {e : Expr} {env : Env} (h : notTup e = true) : swappedStores [tg] e env = pure none := by
  unfold swappedStores
  cases e <;> first | (simp [notTup] at h; done) | (cases tg <;> rfl)
theorem sw_tup {l : List Expr} {n : Nat} {p : Pos} {e : Expr} {m : Nat} {env : Env} : swapsWith e (some (.Tuple l n p)) m env = pure false := by
  cases e <;> rfl
theorem sw_par {env : Env} {x y : Str} {px py pt pt2 : Pos} {kt k2} {a b : Expr} (hk : env.scope.kind = .function) (hx : env.scope.names.lookup x = some .local) (hy : env.scope.names.lookup y = some .local) (hxy : x ≠ y) (hl : (py.line == px.line) = true)
    (ha : plainE a = true) (hb : plainE b = true) (hf : (foldedForSure 8 a && foldedForSure 8 b) = false) (hc : (constantsAlone 8 a && constantsAlone 8 b) = false) :
    swappedStores [.Tuple [.Name x px, .Name y py] kt pt] (.Tuple [a, b] k2 pt2) env = pure (some [x, y]) := by
  have hb' : env.blockKind = .function := by
    unfold Env.blockKind
    rw [hk]
    rfl
  have kx : env.kindOf x = some .local := hx
  have ky : env.kindOf y = some .local := hy
  have ll : (px.line == px.line) = true := by simp
  have ed : [x, y].eraseDups = [x, y] := by
    have : (!y == x) = true := by simp [Ne.symm hxy]
    simp [List.eraseDups_cons, List.filter, this]
  unfold swappedStores
  simp only [List.length_cons, List.length_nil, hb', List.any_cons, List.any_nil, List.head?_cons, Option.map_some, Option.getD_some, List.all_cons, List.all_nil, Bool.and_true, hf, hc]
  have hl' : py.line = px.line := by simpa using hl
  simp
  rw [if_neg]
  · have p1 : (Expr.Name x px).pos.line = px.line := rfl
    simp [kx, ky, hl', p1, ed]
  · rintro (z | z)
    · cases a <;> first | (cases z; done) | (cases ha; done)
    · cases b <;> first | (cases z; done) | (cases hb; done)
theorem ss_par {i j : Nat} {es : E} : SndS T R (.par i j es) := by
  refine .one ⟨_, rfl⟩ fun {X c k W p} G tk h => ?_
  simp only [ckS, one0] at h
  split at h
  · rename_i x px y py _ _ a b _ _ pos
    simp only [Bool.and_eq_true, decide_eq_true_eq, Bool.not_eq_true'] at h
    obtain ⟨⟨⟨⟨⟨⟨⟨⟨⟨⟨⟨⟨h1, h2⟩, h3⟩, h4⟩, h5⟩, h6⟩, h7⟩, h8⟩, h9⟩, h10⟩, h11⟩, h12⟩, h13⟩ := h
    rw [G.g.N] at h3 h4
    rw [G.g.sc] at h5 h6
    refine ps_imp (ps_par (G.g.cm h1) G.g.nd h3 h4 h2 h5 h6 ((snd es).pa G.g tk h13) (sw_par G.kd h5 h6 h7 h8 h9 h10 h11 h12)) fun D σ H ⟨ρ, h0, μ, re, rh, w⟩ => ?_
    refine (stepS (R := RVsg c) re rh w).mono fun vs H1 ⟨h1, μ1, as, x, re1, rh1, ra, w1⟩ => ?_
    have ra : RVs c H1 μ1 vs as := ra
    match as, ra, w1 with
    | [u, v], ra, w1 =>
      cases ra with
      | cons ra1 ra2 =>
        cases ra2 with
        | cons ra2 ra3 =>
          cases ra3
          refine ⟨_, _, rfl, ?_⟩
          have w1 : wpS (match parA i j [u, v] ρ with | some ρ' => done .nx ρ' | none => stuckS) (endS c W D H1 μ1) h1 := w1
          simp only [parA] at w1
          split at w1
          · rename_i ρ' e
            split at e
            · cases e
              exact endS.now (W := W) (f := .nx) w1 ((re1.set ra1).set ra2) rh1
            · cases e
          · exact w1.elim
    | [], _, w1 => exact w1.elim
    | [_], _, w1 => exact w1.elim
    | _ :: _ :: _ :: _, _, w1 => exact w1.elim
  · cases h
theorem ss_asg {t : Tg} {e : E} : SndS T R (.asg t e) := by
  refine .one ⟨_, rfl⟩ fun {X c k W p} G tk h => ?_
  simp only [ckS, one0] at h
  split at h
  · rename_i y py q pos
    simp only [Bool.and_eq_true, Bool.or_eq_true] at h
    obtain ⟨⟨h1, h2⟩, h3⟩ := h
    have pg := pg_of (T := T) (R := R) G.g h1
    rcases h3 with h3 | ⟨h3, h4⟩
    · have sw : swapsWithSole [.Name y py] q pos.line X.env = pure false := notComp_of (n := pos.line) G.g.sc h3
      refine ps_imp (ps_asg ((snd e).pe G.g tk h2) pg sw ?_ ?_) fun D σ H ⟨ρ, h0, μ, re, rh, w⟩ => ?_
      · unfold swappedStores
        cases q <;> rfl
      · rfl
      · exact (stepS (R := RVg c) re rh w).mono fun v H1 ⟨h1, μ1, a, x, re1, rh1, ra, w1⟩ => asg_end re1 rh1 ra w1
    · cases q <;> first | exact absurd h3 Bool.false_ne_true | skip
      rename_i elt gs scope cp
      obtain ⟨i, rfl, hy, hl, hf⟩ := loc_of G.g h1
      have h3 : (decide (k.sc.names.lookup y = some .local) && (py.line == cp.line) && !(scope.names.any fun (n, k) => n == y && (k == .local || k == .cell))) = true := h3
      simp only [Bool.and_eq_true, decide_eq_true_eq, Bool.not_eq_true'] at h3
      obtain ⟨⟨s1, s2⟩, s3⟩ := h3
      rw [G.g.sc] at s1
      have go : ∀ {vs : List Nat} {elt0 : E} {t0 : Tg} {src cond : E}, (e = .comp vs elt0 t0 src cond ∨ e = .own (.comp vs elt0 t0 src cond)) → PS X (.Assign [.Name y py] (.ListComp elt gs scope cp) pos) (SS c W (evS T R (.asg (.var i) e))) := fun {vs elt0 t0 src cond} he => by
        have h2 : chkE k (.comp vs elt0 t0 src cond) (.ListComp elt gs scope cp) = true := by
          rcases he with rfl | rfl <;> exact h2
        simp only [chkE, ck, CkR.of] at h2
        split at h2
        · rename_i q tg iter ifs s pos2 eq
          cases eq
          simp only [Bool.and_eq_true] at h2
          obtain ⟨⟨⟨⟨⟨⟨⟨k1, k2⟩, k3⟩, k4⟩, k5⟩, k6⟩, k7⟩, k8⟩ := h2
          rw [G.g.N, G.g.sc] at k2
          have Gb := fun (s1 : Shared) (H : Hp) (C : Addr) (cl : List (Str × Addr)) (fp : List Addr) => G.g.blk k1 (s := s1) (H := H) (scope := scope) (cl := cl) (C := C) (fp := fp)
          have base := ps_setLc (spos := pos) (G.g.cm k1) G.g.nd hy s1 (sw_true G.kd s1 s2 s3) ((snd src).pi (tg := tg) G.g tk k5.2 k5.1) (blkOk_by k2) (fun s1 H C cl fp => pg_of (Gb s1 H C cl fp) k6) (fun s1 H C cl fp => (snd cond).pc (Gb s1 H C cl fp) takes0 k7) (fun s1 H C cl fp => (snd elt0).pe (Gb s1 H C cl fp) takes0 k8) (set_plain k3)
          rw [ownOf_slots] at base
          refine ps_imp base fun D σ H ⟨ρ, h0, μ, re, rh, w⟩ => ?_
          refine comp_lc he k4 ((stepS (R := RVg c) re rh w).mono fun v H1 ⟨h1, μ1, a, x, re1, rh1, ra, w1⟩ => ?_)
          have w1 : wpS (match bindT (.var i) a ρ with | some ρ' => done .nx ρ' | none => stuckS) (endS c W D H1 μ1) h1 := w1
          simp only [bindT] at w1
          split at w1
          · rename_i ρ' eq
            split at eq
            · cases eq
              exact endS.now (W := W) (f := .nx) w1 (re1.set ra) rh1
            · cases eq
          · exact w1.elim
        · cases h2
      have go2 : ∀ {vs vs1 : List Nat} {elt0 : E} {t0 t1 : Tg} {src src1 cond : E}, (e = .comp2 vs vs1 elt0 t0 src t1 src1 cond ∨ e = .own (.comp2 vs vs1 elt0 t0 src t1 src1 cond)) → PS X (.Assign [.Name y py] (.ListComp elt gs scope cp) pos) (SS c W (evS T R (.asg (.var i) e))) := fun {vs vs1 elt0 t0 t1 src src1 cond} he => by
        have h2 : chkE k (.comp2 vs vs1 elt0 t0 src t1 src1 cond) (.ListComp elt gs scope cp) = true := by
          rcases he with rfl | rfl <;> exact h2
        obtain ⟨q, tg, iter, tg1, iter1, ifs, s, pos2, eq, k1, k2, k3, k4, k5, k6, k7, k8, k9, ka, kb, kc, kd⟩ := (cp2_of (X := X) (c := c) (T := T) (R := R) h2).ex
        cases eq
        rw [G.g.N, G.g.sc] at k2
        have Gb := fun (s1 : Shared) (H : Hp) (C : Addr) (cl : List (Str × Addr)) (fp : List Addr) => G.g.blk k1 (s := s1) (H := H) (scope := scope) (cl := cl) (C := C) (fp := fp)
        have base := ps_setLc2 (vs1 := vs1) (spos := pos) (G.g.cm k1) G.g.nd hy s1 (sw_true G.kd s1 s2 s3) ((snd src).pi (tg := tg) G.g tk k8.2 k8.1) (blkOk_by k2) (fun i hi => by rw [ownOf_slots]; exact List.contains_iff_mem.mp (List.all_eq_true.mp k7 i hi))
          (fun s1 H C cl fp => pg_of (Gb s1 H C cl fp) ka) (fun s1 H C cl fp => (s_nil (T := T) (R := R)).pc (l := []) (Gb s1 H C cl fp) takes0 rfl) (fun s1 H C cl fp => (snd src1).pi (tg := tg1) (Gb s1 H C cl fp) takes0 k9.2 k9.1) (fun s1 H C cl fp => pg_of (Gb s1 H C cl fp) kb) (fun s1 H C cl fp => (snd cond).pc (Gb s1 H C cl fp) takes0 kc) (fun s1 H C cl fp => (snd elt0).pe (Gb s1 H C cl fp) takes0 kd) (set_plain k3) (fun env x => set_plain k4 x)
        rw [ownOf_slots] at base
        refine ps_imp base fun D σ H ⟨ρ, h0, μ, re, rh, w⟩ => ?_
        refine comp_lc2 he k5 k6 ((stepS (R := RVg c) re rh w).mono fun v H1 ⟨h1, μ1, a, x, re1, rh1, ra, w1⟩ => ?_)
        have w1 : wpS (match bindT (.var i) a ρ with | some ρ' => done .nx ρ' | none => stuckS) (endS c W D H1 μ1) h1 := w1
        simp only [bindT] at w1
        split at w1
        · rename_i ρ' eq
          split at eq
          · cases eq
            exact endS.now (W := W) (f := .nx) w1 (re1.set ra) rh1
          · cases eq
        · exact w1.elim
      cases e <;> first | exact absurd h4 Bool.false_ne_true | exact go (.inl rfl) | exact go2 (.inl rfl) | skip
      rename_i e
      cases e <;> first | exact absurd h4 Bool.false_ne_true | exact go (.inr rfl) | exact go2 (.inr rfl)
  · rename_i l n tp q pos
    simp only [Bool.and_eq_true] at h
    obtain ⟨⟨h1, h2⟩, h3⟩ := h
    refine ps_imp (ps_asg ((snd e).pe G.g tk h2) (pg_of (T := T) (R := R) G.g h1) (sw_tup (l := l) (n := n) (p := tp) (m := pos.line) (env := X.env)) (swst_none h3) rfl) fun D σ H ⟨ρ, h0, μ, re, rh, w⟩ => ?_
    exact (stepS (R := RVg c) re rh w).mono fun v H1 ⟨h1, μ1, a, x, re1, rh1, ra, w1⟩ => asg_end re1 rh1 ra w1
  · cases h
theorem swst_sub {o i e : Expr} {p : Pos} {env : Env} : swappedStores [.Subscript o i p] e env = pure none := by
  unfold swappedStores
  cases e <;> rfl
theorem asg_sub {o i : Expr} {pos : Pos} {env : Env} (h : notSlice i = true) : ∀ v, assign (.Subscript o i pos) env v = (do
      let ov ← holding [v] (eval o env)
      let iv ← holding [v, ov] (eval i env)
      standAt pos
      holding [v, ov, iv] (setItem ov iv v)
      release [v, ov, iv] []) := by
  intro v
  cases i <;> first | rfl | (simp [notSlice] at h; done)
/-- a store, by values -/
def rSet (c : Ct) : TSet := fun o i v H Q => ∃ h μ ao ai av h', RH c H h μ ∧ RV c H μ o ao ∧ RV c H μ i ai ∧ RV c H μ v av ∧ setA ao ai av h = some (.ok () h') ∧ ∀ H' μ', Ext H μ H' μ' → RH c H' h' μ' → Q H'
theorem set_any {X : Cx} {c : Ct} (hK : c.K = X.K) (hw : c.w = X.w) (hu : X.A.units + 66 < cLine) : PSet X (rSet c) := by
  intro pins s σ H o i v ov iv u Q I ro ri rv hh
  obtain ⟨h, μ, ao, ai, av, h', rh, rao, rai, rav, e, q⟩ := hh
  unfold setA at e
  cases ao with
  | ref n =>
    simp only at e
    cases e1 : h[n]? with
    | none => rw [e1] at e; cases e
    | some ob =>
      rw [e1] at e
      cases ob with
      | lst xs =>
        simp only at e
        cases ai with
        | int j =>
          simp only at e
          cases e2 : L2.ixN xs.length j with
          | none => rw [e2] at e; cases e
          | some m =>
            rw [e2] at e
            cases e
            obtain ⟨p, vs, rfl, hn, hp, l, r⟩ := RH.lst rh e1 rao
            cases rai
            have xw : Ext H μ (upd H p (.lst (vs.set m v))) μ := rh.extW hn
            have e2' : ixN vs.length j = some m := by rw [r.length]; exact e2
            exact set_list pins s σ H _ _ v ov iv u Q I ro ri rv ⟨p, vs, j, m, rfl, rfl, hp, e2', q _ μ xw (rh.wrote hn (.lst upd_same (by rw [List.length_set]; exact l) ((r.set rav m).mono xw)))⟩
        | _ => cases e
      | dct kvs =>
        simp only at e
        cases ek : dkey ai with
        | none => rw [ek] at e; cases e
        | some k =>
          rw [ek] at e
          simp only at e
          split at e
          · rename_i hc
            cases e
            obtain ⟨ek1, dk, nn⟩ := dkey_some ek
            cases rao with
            | ref hn =>
            obtain ⟨a, hb, rob⟩ := rh.thing _ _ e1
            rw [hn] at hb
            cases hb
            cases ro
            subst ek1
            exact dct_setItem hw (by omega) I (dsort hK hw I rob rai ek hc.1 ri) dk ri rai rav rv (by rw [← big_eq]; exact hc.2) fun s' ob I' ro' => by
              have xw : Ext H μ (upd H _ ob) μ := rh.extW hn
              exact ⟨_, I', q _ μ xw (rh.wrote hn (ro' μ xw.w))⟩
          · cases e
      | ins C fs => cases e
  | _ => cases e
theorem setA_noexc {o i v : AV} {h : AH} {x : Ex} {h' : AH} (e : setA o i v h = some (.exc x h')) : False := by
  unfold setA at e
  repeat' (split at e)
  all_goals first | cases e | (simp at e; done)
/-- a look-up, by values -/
theorem get_any {X : Cx} {c : Ct} (hK : c.K = X.K) (hw : c.w = X.w) (hu : X.A.units + 66 < cLine) : PGet X (rBin c dixV) := by
  intro pins s σ H o i ov iv Q I ro ri hh
  obtain ⟨h, μ, a, b, v, rh, ra, rb, e, q⟩ := hh
  unfold dixV at e
  simp only [Option.bind_eq_some_iff] at e
  obtain ⟨kvs, e1, o, e2, e3⟩ := e
  obtain ⟨a', n, rfl, rfl, hn, hm, rob⟩ := getD_at rh ra e1
  obtain ⟨k', e4, e5, rfl⟩ := dgetA_some e2
  cases ro
  exact dct_getItem (by omega) I (dsort hK hw I rob rb e4 e5 ri) ri e3 fun v' w' s' I' r' rv => ⟨v', H, I', r', q.now rh rv⟩
theorem ss_sub {o i e : E} : SndS T R (.sub o i e) := by
  refine .one ⟨_, rfl⟩ fun {X c k W p} G tk h => ?_
  simp only [ckS, one0] at h
  split at h
  · rename_i q r sp v pos
    simp only [Bool.and_eq_true] at h
    obtain ⟨⟨⟨h1, h3⟩, h4⟩, h5⟩ := h
    have sw : swapsWithSole [.Subscript q r sp] v pos.line X.env = pure false := by cases v <;> rfl
    refine ps_imp (ps_asg ((snd e).pe G.g tk h5) (pg_sub ((snd o).pe G.g tk h3) ((snd i).pe G.g tk h4) (set_any (c := c) G.g.K G.g.w (un65 G.g)) (asg_sub h1)) sw swst_sub rfl) fun D σ H ⟨ρ, h0, μ, re, rh, w⟩ => ?_
    refine (stepS (R := RVg c) re rh w).mono fun v H1 ⟨h1, μ1, a, x1, re1, rh1, ra, w1⟩ => ?_
    refine (stepS (R := RVg c) re1 rh1 w1).mono fun ov H2 ⟨h2, μ2, ao, x2, re2, rh2, ro, w2⟩ => ?_
    refine (stepS (R := RVg c) re2 rh2 w2).mono fun iv H3 ⟨h3, μ3, ai, x3, re3, rh3, ri, w3⟩ => ?_
    rw [wpS_useE] at w3
    have ra : RV c H3 μ3 v a := (RV.mono x2 ra).mono x3
    have ro : RV c H3 μ3 ov ao := RV.mono x3 ro
    have ri : RV c H3 μ3 iv ai := ri
    rcases wp_res w3 with ⟨u, h', e, w4⟩ | ⟨x, h', e⟩
    · exact ⟨h3, μ3, ao, ai, a, h', rh3, ro, ri, ra, e, fun H' μ' x r => endS.now (W := W) (f := .nx) (endS.later w4 x) (re3.mono x) r⟩
    · exact (setA_noexc e).elim
  · cases h
theorem ss_asub {o i e : E} {b : BO} : SndS T R (.asub o i b e) := by
  refine .one ⟨_, rfl⟩ fun {X c k W p} G tk h => ?_
  simp only [ckS, one0] at h
  split at h
  · rename_i q r sp op v pos
    simp only [Bool.and_eq_true] at h
    obtain ⟨⟨⟨⟨h1, h2⟩, h3⟩, h4⟩, h5⟩ := h
    have ha : ∀ ov iv new, augStore r ov iv new = (do holding [new, ov, iv] (setItem ov iv new); release [new, ov, iv] []; pure .next) := fun ov iv new => by
      cases r <;> first | rfl | (simp [notSlice] at h1; done)
    have run : ∀ {D : Ends} {σ : L2.St} {H : Hp} {f : Int → Int → Int}, (∀ x y z, augV b x y = some z → ∃ i j, x = .int i ∧ y = .int j ∧ z = .int (f i j)) → SS c W (evS T R (.asub o i b e)) D σ H →
        tAugS (SE c W (evE T R o)) (SE c W (evE T R i)) (SE c W (evE T R e)) (rBin c dixV) (ipI f) (rSet c) D σ H := fun {D σ H f} hf ⟨ρ, h0, μ, re, rh, w⟩ => by
      refine (stepS (R := RVg c) re rh w).mono fun ov H1 ⟨h1, μ1, ao, x1, re1, rh1, ro, w1⟩ => ?_
      refine (stepS (R := RVg c) re1 rh1 w1).mono fun iv H2 ⟨h2, μ2, ai, x2, re2, rh2, ri, w2⟩ => ?_
      rw [wpS_useE] at w2
      obtain ⟨y, ey, w3⟩ := wp_lift w2
      have ro : RV c H2 μ2 ov ao := RV.mono x2 ro
      have ri : RV c H2 μ2 iv ai := ri
      refine ⟨h2, μ2, ao, ai, y, rh2, ro, ri, ey, fun x H3 μ3 x3 rh3 rx => ?_⟩
      have w3 := wpS_mono w3 fun _ _ _ z => endS.later (μ := μ2) z x3
      refine (stepS (R := RVg c) (re2.mono x3) rh3 w3).mono fun z H4 ⟨h4, μ4, az, x4, re4, rh4, rz, w4⟩ => ?_
      have rz : RV c H4 μ4 z az := rz
      rw [wpS_useE] at w4
      obtain ⟨n, en, w5⟩ := wp_lift w4
      obtain ⟨i1, j1, rfl, rfl, rfl⟩ := hf _ _ _ en
      cases rx
      cases rz
      refine ⟨i1, j1, rfl, rfl, ?_⟩
      rw [wpS_useE] at w5
      rcases wp_res w5 with ⟨u, h', e, w6⟩ | ⟨x, h', e⟩
      · exact ⟨h4, μ4, ao, ai, _, h', rh4, (ro.mono x3).mono x4, (ri.mono x3).mono x4, .int _, e, fun H' μ' x r => endS.now (W := W) (f := .nx) (endS.later w6 x) (re4.mono x) r⟩
      · exact (setA_noexc e).elim
    split at h2
    · exact ps_imp (ps_augS ((snd o).pe G.g tk h3) ((snd i).pe G.g tk h4) (get_any (c := c) G.g.K G.g.w (un65 G.g)) ((snd e).pe G.g tk h5) ip_add (set_any (c := c) G.g.K G.g.w (un65 G.g)) ha) fun D σ H w => run (fun a b z e => by
        cases a <;> cases b <;> first | (cases e; done) | (cases e; exact ⟨_, _, rfl, rfl, rfl⟩)) w
    · exact ps_imp (ps_augS ((snd o).pe G.g tk h3) ((snd i).pe G.g tk h4) (get_any (c := c) G.g.K G.g.w (un65 G.g)) ((snd e).pe G.g tk h5) ip_sub (set_any (c := c) G.g.K G.g.w (un65 G.g)) ha) fun D σ H w => run (fun a b z e => by
        cases a <;> cases b <;> first | (cases e; done) | (cases e; exact ⟨_, _, rfl, rfl, rfl⟩)) w
    · cases h2
  · cases h
/-! ### attributes -/
theorem attA_noexc {C f : Str} {o v : AV} {h : AH} {x : Ex} {h' : AH} (e : attA C f o v h = some (.exc x h')) : False := by
  unfold attA at e
  repeat' (split at e)
  all_goals first | cases e | (simp at e; done)
theorem att_any {X : Cx} {c : Ct} {T : Tb} {R : Rec} {k : Ck} (G : Gd X c T R k) {C f : Str} (hF : k.F C f = true) {H : Hp} {h : AH} {μ : Mu} {o y : V} {ao av : AV} {h' : AH} (rh : RH c H h μ) (ro : RV c H μ o ao) (ry : RV c H μ y av) (e : attA C f ao av h = some (.ok () h')) :
    ∃ a Ca dx gs, o = .ref a ∧ c.CA C = some Ca ∧ H a = some (.ins Ca dx gs) ∧ Cls X.K Ca ∧ NoAttr X.K Ca f ∧ gs.length < 1000 ∧ Ext H μ (upd H a (.ins Ca dx (putF f y gs))) μ ∧ RH c (upd H a (.ins Ca dx (putF f y gs))) h' μ := by
  obtain ⟨Ca, g1, g2, g3⟩ := G.fd C f hF
  unfold attA at e
  split at e
  · split at e
    · rename_i n _ D fs hn
      split at e
      · rename_i hD
        obtain ⟨rfl, hl⟩ := hD
        cases e
        obtain ⟨a', Ca', dx, gs, rfl, hm, hC, ha, hd, hdn, km, rr⟩ := RO.insAt rh hn ro
        rw [g1] at hC
        cases hC
        have xw : Ext H μ (upd H a' (.ins Ca dx (putF f y gs))) μ := rh.extW hm
        obtain ⟨p1, p2⟩ := put_fld (f := f) ry km rr
        have ne : dx ≠ a' := fun z => by rw [z, ha] at hd; cases hd
        refine ⟨a', Ca, dx, gs, rfl, g1, ha, g2, g3, ?_, xw, rh.wrote hm (.ins g1 upd_same (by rw [upd_ne ne]; exact hd) hdn p1 (p2.mono xw))⟩
        rw [show gs.length = fs.length from by simpa using congrArg List.length km]
        exact hl
      · cases e
    · cases e
  · cases e
theorem ss_att {C f : Str} {o e : E} : SndS T R (.att C f o e) := by
  refine .one ⟨_, rfl⟩ fun {X c k W p} G tk h => ?_
  simp only [ckS, one0] at h
  split at h
  · rename_i q x sp v pos
    simp only [Bool.and_eq_true, decide_eq_true_eq] at h
    obtain ⟨⟨⟨h1, h2⟩, h3⟩, h4⟩ := h
    subst h1
    refine ps_imp (ps_fld ((snd o).pe G.g tk h3) ((snd e).pe G.g tk h4) (by cases v <;> rfl)) fun D σ H ⟨ρ, h0, μ, re, rh, w⟩ => ?_
    refine (stepS (R := RVg c) re rh w).mono fun v H1 ⟨h1, μ1, a, x1, re1, rh1, ra, w1⟩ => ?_
    refine (stepS (R := RVg c) re1 rh1 w1).mono fun ov H2 ⟨h2', μ2, ao, x2, re2, rh2, ro, w2⟩ => ?_
    rw [wpS_useE] at w2
    have ra : RV c H2 μ2 v a := RV.mono x2 ra
    rcases wp_res w2 with ⟨u, h', e, w4⟩ | ⟨x, h', e⟩
    · obtain ⟨a', Ca, dx, gs, r1, r0, r2, r3, r4, r5, r6, r7⟩ := att_any G.g h2 rh2 ro ra e
      exact ⟨a', Ca, dx, gs, r1, r2, r3, r4, r5, endS.now (W := W) (f := .nx) (endS.later w4 r6) (re2.mono r6) r7⟩
    · exact (attA_noexc e).elim
  · cases h
theorem ss_aatt {C f : Str} {o e : E} {b : BO} : SndS T R (.aatt C f o b e) := by
  refine .one ⟨_, rfl⟩ fun {X c k W p} G tk h => ?_
  simp only [ckS, one0] at h
  split at h
  · rename_i q x sp op v pos
    simp only [Bool.and_eq_true, decide_eq_true_eq] at h
    obtain ⟨⟨⟨⟨h1, h2⟩, h5⟩, h3⟩, h4⟩ := h
    subst h1
    obtain ⟨Ca, g1, g2, g3⟩ := G.g.fd C f h2
    have run : ∀ {D : Ends} {σ : L2.St} {H : Hp} {g : Int → Int → Int} {rd : V → V → Hp → VK → Prop}, (∀ x y z, augV b x y = some z → ∃ i j, x = .int i ∧ y = .int j ∧ z = .int (g i j)) → (∀ i j H Q, Q (.int (g i j)) H → rd (.int i) (.int j) H Q) → SS c W (evS T R (.aatt C f o b e)) D σ H →
        sFldAug X.K (SE c W (evE T R o)) (SE c W (evE T R e)) rd f D σ H := fun {D σ H g rd} hg hrd ⟨ρ, h0, μ, re, rh, w⟩ => by
      refine (stepS (R := RVg c) re rh w).mono fun ov H1 ⟨h1, μ1, ao, x1, re1, rh1, ro, w1⟩ => ?_
      have ro : RV c H1 μ1 ov ao := ro
      rw [wpS_useE] at w1
      obtain ⟨y, ey, w2⟩ := wp_lift w1
      unfold fldV at ey
      split at ey
      · split at ey
        · rename_i n _ D' fs hn
          split at ey
          · rename_i hD
            subst hD
            obtain ⟨a', Ca', dx, gs, rfl, hm, hC, ha, hd, hdn, km, rr⟩ := RO.insAt rh1 hn ro
            rw [g1] at hC
            cases hC
            obtain ⟨v', e1, rv⟩ := (look_rel km rr).1 y ey
            refine ⟨a', Ca, dx, gs, v', rfl, ha, g2, g3, e1, (stepS (R := RVg c) re1 rh1 w2).mono fun z H2 ⟨h2', μ2, az, x2, re2, rh2, rz, w3⟩ => ?_⟩
            rw [wpS_useE] at w3
            obtain ⟨nw, en, w4⟩ := wp_lift w3
            obtain ⟨i1, j1, rfl, rfl, rfl⟩ := hg _ _ _ en
            have rz : RV c H2 μ2 z (.int j1) := rz
            cases rv
            cases rz
            refine hrd _ _ _ _ ?_
            rw [wpS_useE] at w4
            rcases wp_res w4 with ⟨u, h', e, w5⟩ | ⟨x, h', e⟩
            · obtain ⟨a2, Ca2, dx2, gs2, r1, r0, r2, r3, r4, r5, r6, r7⟩ := att_any G.g h2 rh2 (ro.mono x2) (.int (g i1 j1)) e
              cases r1
              rw [g1] at r0
              cases r0
              exact ⟨dx2, gs2, r2, r5, endS.now (W := W) (f := .nx) (endS.later w5 r6) (re2.mono r6) r7⟩
            · exact (attA_noexc e).elim
          · cases ey
        · cases ey
      · cases ey
    split at h5
    · exact ps_imp (ps_fldaug ((snd o).pe G.g tk h3) ((snd e).pe G.g tk h4) in_add) fun D σ H w => run (rd := rAdd) (g := fun i j => i + j) (fun a b z e => by
        cases a <;> cases b <;> first | (cases e; done) | (cases e; exact ⟨_, _, rfl, rfl, rfl⟩)) (fun i j H Q q => ⟨i, j, rfl, rfl, q⟩) w
    · exact ps_imp (ps_fldaug ((snd o).pe G.g tk h3) ((snd e).pe G.g tk h4) in_sub) fun D σ H w => run (rd := rSub) (g := fun i j => i - j) (fun a b z e => by
        cases a <;> cases b <;> first | (cases e; done) | (cases e; exact ⟨_, _, rfl, rfl, rfl⟩)) (fun i j H Q q => ⟨i, j, rfl, rfl, q⟩) w
    · cases h5
  · cases h
theorem ss_aug {i : Nat} {o : BO} {e : E} : SndS T R (.aug i o e) := by
  refine .one ⟨_, rfl⟩ fun {X c k W p} G tk h => ?_
  simp only [ckS, one0] at h
  split at h
  · rename_i x xp op q pos
    simp only [Bool.and_eq_true, decide_eq_true_eq] at h
    obtain ⟨⟨⟨h1, h2⟩, h3⟩, h4⟩ := h
    rw [G.g.N] at h1
    have lo : Loc X.env.scope x ∧ (X.fn x = true ∨ X.env.scope.names.lookup x = some .local) := by
      rw [G.g.sc] at h2
      split at h2
      · rename_i z; exact ⟨.inl z, .inr z⟩
      · rename_i z; exact ⟨.inr z, .inl (G.g.fl _ h2)⟩
      · cases h2
    have run : ∀ {D : Ends} {σ : L2.St} {H : Hp} {f : Int → Int → Int}, (∀ a b z, augV o a b = some z → ∃ i j, a = .int i ∧ b = .int j ∧ z = .int (f i j)) → SS c W (evS T R (.aug i o e)) D σ H → tAug i (SE c W (evE T R e)) (ipI f) D σ H := fun {D σ H f} hf ⟨ρ, h0, μ, re, rh, w⟩ => by
      have w : wpS (useE (look ρ i) ρ fun x => useE (evE T R e ρ) ρ fun y => useE (lift fun _ => augV o x y) ρ fun z => setSlot ρ i z) (endS c W D H μ) h0 := w
      rw [wpS_useE] at w
      unfold wp look at w
      cases e1 : ρ[i]? with
      | none => rw [e1] at w; exact w.elim
      | some ov =>
        rw [e1] at w
        cases ov with
        | none => exact w.elim
        | some v =>
          obtain ⟨u, hu, ru⟩ := re.2 i v e1
          refine ⟨u, hu, (stepS (R := RVg c) re rh w).mono fun y H1 ⟨h1, μ1, a, x1, re1, rh1, ra, w1⟩ => ?_⟩
          have ra : RV c H1 μ1 y a := ra
          rw [wpS_useE] at w1
          obtain ⟨z, ez, q⟩ := wp_lift w1
          obtain ⟨i1, j1, rfl, rfl, rfl⟩ := hf _ _ _ ez
          cases ru
          cases ra
          refine ⟨i1, j1, rfl, rfl, ?_⟩
          unfold setSlot at q
          split at q
          · exact endS.now (W := W) (f := .nx) q (re1.set (.int _)) rh1
          · exact q.elim
    split at h3
    · exact ps_imp (ps_aug G.g.nd h1 lo.1 ((snd e).pe G.g tk h4) ip_add lo.2) fun D σ H w => run (fun a b z e => by
        cases a <;> cases b <;> first | (cases e; done) | (cases e; exact ⟨_, _, rfl, rfl, rfl⟩)) w
    · exact ps_imp (ps_aug G.g.nd h1 lo.1 ((snd e).pe G.g tk h4) ip_sub lo.2) fun D σ H w => run (fun a b z e => by
        cases a <;> cases b <;> first | (cases e; done) | (cases e; exact ⟨_, _, rfl, rfl, rfl⟩)) w
    · cases h3
  · cases h
/-! ### loops -/
theorem forL_cons {bind : AV → AEnv → Option AEnv} {body : AEnv → MS} {st : M Unit} {x : AV} {xs : List AV} {ρ : AEnv} {P : Fl → AEnv → AH → Prop} {h : AH} (w : wpS (forL bind body st (x :: xs) ρ) P h) :
    wp st (fun _ h1 => ∃ ρ1, bind x ρ = some ρ1 ∧ wpS (body ρ1) (fun f ρ2 h2 => match f with
      | .nx => wpS (forL bind body st xs ρ2) P h2
      | .ct => wpS (forL bind body st xs ρ2) P h2
      | .bk => P .nx ρ2 h2
      | f => P f ρ2 h2) h1) (fun x h' => P (.ex x) ρ h') h := by
  simp only [forL] at w
  rw [wpS_useE] at w
  refine wp_mono w (fun _ h1 w1 => ?_) fun _ _ z => z
  cases e : bind x ρ with
  | none => rw [e] at w1; exact w1.elim
  | some ρ1 =>
    rw [e] at w1
    refine ⟨ρ1, rfl, ?_⟩
    unfold wpS at w1 ⊢
    simp only at w1
    cases e2 : body ρ1 h1 with
    | none => rw [e2] at w1; exact w1.elim
    | some r =>
      rw [e2] at w1
      obtain ⟨f, ρ2, h2⟩ := r
      cases f <;> exact w1
theorem ss_for {t : Tg} {src : E} {s : S} (a : SndS T R s) : SndS T R (.for t src s) := by
  refine .one ⟨_, rfl⟩ fun {X c k W p} G tk h => ?_
  simp only [ckS, one0] at h
  split at h
  · rename_i tg iter body pos
    simp only [Bool.and_eq_true] at h
    obtain ⟨⟨⟨⟨h1, h2⟩, h3⟩, h4⟩, h5⟩ := h
    refine ps_imp (ps_for (G.po h1) (G.g.cm h1) ((snd src).pi (tg := tg) G.g tk h3.2 h3.1) (pg_of (T := T) (R := R) G.g h4) (a.pb G tk h5) (set_plain h2)) fun D σ H ⟨ρ, h0, μ, re, rh, w⟩ => ?_
    refine (stepS (R := RYl c) re rh w).mono fun J H1 ⟨h1', μ1, pr, x1, re1, rh1, y, w1⟩ => ?_
    have y : Yl c J pr.1 pr.2 H1 μ1 := y
    obtain ⟨v, xs⟩ := pr
    refine ⟨fun i m σ H => m = xs.length - i ∧ i ≤ xs.length ∧ ∃ ρ h μ, Ext H1 μ1 H μ ∧ RE c H μ σ ρ ∧ RH c H h μ ∧ wpS (forL (fun x ρ => bindT t x ρ) (fun ρ => evS T R s ρ) (stands v xs) (xs.drop i) ρ) (endS c W D H μ) h,
      ⟨xs.length, by simp, Nat.zero_le _, ρ, h1', μ1, .refl, re1, rh1, w1⟩, ?_⟩
    rintro i m σ H ⟨rfl, hi, ρ, h, μ, x, re, rh, w⟩
    by_cases hlt : i < xs.length
    · rw [List.drop_eq_getElem_cons hlt] at w
      have w := forL_cons w
      obtain ⟨st, ρ1, eb, w⟩ := stands_wp w
      refine .inr ⟨y.go i H h μ x.w rh st hlt, fun σ' H' => ∃ ρ h μ, Ext H1 μ1 H' μ ∧ RE c H' μ σ' ρ ∧ RH c H' h μ ∧ wpS (forL (fun x ρ => bindT t x ρ) (fun ρ => evS T R s ρ) (stands v xs) (xs.drop (i + 1)) ρ) (endS c W D H' μ) h, fun σ' H' z => ⟨xs.length - (i + 1), by omega, rfl, hlt, z⟩, fun z H' yl => ?_⟩
      obtain ⟨a1, ea, x2, rh2, rv⟩ := y.yld i H h μ z H' x.w rh st hlt yl
      rw [List.getElem?_eq_getElem hlt] at ea
      cases ea
      refine ⟨ρ, h, μ, _, ρ1, re.mono x2, rh2, rv, eb, fun σ2 re2 _ => ⟨ρ1, h, μ, re2, rh2, wpS_mono w fun f ρ' h' q H3 μ3 x3 rh3 σ3 re3 => ?_⟩⟩
      have x4 := (x.trans x2).trans x3
      have x5 := x2.trans x3
      cases f with
      | nx => exact ⟨ρ', h', μ3, x4, re3, rh3, wpS_mono q fun _ _ _ z => z.later x5⟩
      | ct => exact ⟨ρ', h', μ3, x4, re3, rh3, wpS_mono q fun _ _ _ z => z.later x5⟩
      | bk =>
        have q : endS c W D H μ .nx ρ' h' := q
        exact q H3 μ3 x5 rh3 σ3 re3
      | rt v => exact q H3 μ3 x5 rh3 σ3 re3
      | ex x => exact q H3 μ3 x5 rh3 σ3 re3
    · have e : i = xs.length := by omega
      subst e
      rw [List.drop_length] at w
      simp only [forL] at w
      rw [wpS_useE] at w
      obtain ⟨st, w⟩ := stands_wp w
      exact .inl ⟨y.stop H h μ x.w rh st, endS.now (W := W) (f := .nx) w re rh⟩
  · cases h
theorem whl_some {cd : AEnv → M Bool} {body : AEnv → MS} {ρ : AEnv} {P : Fl → AEnv → AH → Prop} {h : AH} (w : wpS (whl cd body ρ) P h) : ∃ n, wpS (whlN cd body n ρ) P h := by
  unfold wpS whl at w
  by_cases x : ∃ n r, whlN cd body n ρ h = some r
  · rw [dif_pos x] at w
    refine ⟨x.choose, ?_⟩
    unfold wpS
    rw [x.choose_spec.choose_spec]
    exact w
  · rw [dif_neg x] at w
    exact w.elim
theorem whlN_succ {cd : AEnv → M Bool} {body : AEnv → MS} {n : Nat} {ρ : AEnv} {P : Fl → AEnv → AH → Prop} {h : AH} (w : wpS (whlN cd body (n + 1) ρ) P h) :
    wpS (useE (cd ρ) ρ fun b => if b = true then (fun h => match body ρ h with
      | some (.nx, ρ2, h2) => whlN cd body n ρ2 h2
      | some (.ct, ρ2, h2) => whlN cd body n ρ2 h2
      | some (.bk, ρ2, h2) => some (.nx, ρ2, h2)
      | r => r) else done .nx ρ) P h := w
theorem ss_while {cd : E} {s : S} (a : SndS T R s) : SndS T R (.while cd s) := by
  refine .one ⟨_, rfl⟩ fun {X c k W p} G tk h => ?_
  simp only [ckS, one0] at h
  split at h
  · rename_i q body pos
    simp only [Bool.and_eq_true] at h
    obtain ⟨⟨h1, h2⟩, h3⟩ := h
    refine ps_imp (ps_while (G.po h1) ((snd cd).pt G.g tk h2) (a.pb G tk h3)) fun D σ H ⟨ρ, h0, μ, re, rh, w⟩ => ?_
    obtain ⟨n, w⟩ := whl_some w
    refine ⟨fun m σ H => ∃ ρ h μ, RE c H μ σ ρ ∧ RH c H h μ ∧ wpS (whlN (fun ρ => evT T R cd ρ) (fun ρ => evS T R s ρ) m ρ) (endS c W D H μ) h, ⟨n, ρ, h0, μ, re, rh, w⟩, ?_⟩
    rintro m σ H ⟨ρ, h, μ, re, rh, w⟩
    cases m with
    | zero => exact w.elim
    | succ m =>
      refine (stepS (R := REq) re rh (whlN_succ w)).mono fun b H1 ⟨h1', μ1, b', x1, re1, rh1, rb, w1⟩ => ?_
      have rb : b = b' := rb
      subst rb
      cases b with
      | false => exact endS.now (W := W) (f := .nx) w1 re1 rh1
      | true =>
        refine ⟨fun σ' H' => ∃ ρ h μ, RE c H' μ σ' ρ ∧ RH c H' h μ ∧ wpS (whlN (fun ρ => evT T R cd ρ) (fun ρ => evS T R s ρ) m ρ) (endS c W D H' μ) h, fun σ' H' z => ⟨m, Nat.lt_succ_self m, z⟩, ρ, h1', μ1, re1, rh1, ?_⟩
        have w1 : wpS (fun h => match evS T R s ρ h with
          | some (.nx, ρ2, h2) => whlN (fun ρ => evT T R cd ρ) (fun ρ => evS T R s ρ) m ρ2 h2
          | some (.ct, ρ2, h2) => whlN (fun ρ => evT T R cd ρ) (fun ρ => evS T R s ρ) m ρ2 h2
          | some (.bk, ρ2, h2) => some (.nx, ρ2, h2)
          | r => r) (endS c W D H1 μ1) h1' := w1
        unfold wpS at w1 ⊢
        simp only at w1
        cases e2 : evS T R s ρ h1' with
        | none => rw [e2] at w1; exact w1.elim
        | some r =>
          rw [e2] at w1
          obtain ⟨f, ρ2, h2⟩ := r
          cases f with
          | nx => exact fun H' μ' x r σ' re' => ⟨ρ2, h2, μ', re', r, wpS_mono w1 fun _ _ _ z => z.later x⟩
          | ct => exact fun H' μ' x r σ' re' => ⟨ρ2, h2, μ', re', r, wpS_mono w1 fun _ _ _ z => z.later x⟩
          | bk => exact fun H' μ' x r σ' re' => (show endS c W D H1 μ1 .nx ρ2 h2 from w1) H' μ' x r σ' re'
          | rt v => exact fun H' μ' x r σ' re' => (show endS c W D H1 μ1 (.rt v) ρ2 h2 from w1) H' μ' x r σ' re'
          | ex x => exact fun H' μ' x' r σ' re' => (show endS c W D H1 μ1 (.ex x) ρ2 h2 from w1) H' μ' x' r σ' re'
  · cases h
end
end Z

set_option Elab.async false
set_option linter.all false
set_option maxRecDepth 100000
set_option autoImplicit false
set_option maxHeartbeats 1000000
/-! ZM: several except clauses, each with a name or without. -/
namespace Z
open PySem PySem.Spec PyProof.Rows L2
/-- a suite's ends, the clause's name gone behind it -/
def goneD (D : Ends) (i : Nat) : Ends := { nx := fun σ H => D.nx (σ.set i none) H, rt := D.rt, bk := fun σ H => D.bk (σ.set i none) H, ct := fun σ H => D.ct (σ.set i none) H }
abbrev HTS := Addr → Value → Option Addr → TS
/-- what the clauses ask of an exception, in their order -/
def wHs (K : PySem.W.Frag) (Wout : WX) (D : Ends) : List (Value × Option Nat × HTS) → WX
  | [] => Wout
  | (cv, oi, ts) :: more => fun cls d σ H => ∃ b, PySem.W.exmOne K cls cv = some b ∧ (b = true → ∀ a : Addr, match oi with
      | none => ts a cls d D σ H
      | some i => ts a cls d (goneD D i) (σ.set i (some (.ref a))) H) ∧ (b = false → wHs K Wout D more cls d σ H)
inductive HdsA (X : Cx) : List ExceptHandler → List (Value × Option Nat × HTS) → Prop
  | nil : HdsA X [] []
  | cons {x : Str} {cv : Value} {oi : Option Nat} {on : Option Str} {ts : HTS} {st : Stmt} {sts : List Stmt} {p1 p2 : Pos} {hds : List ExceptHandler} {l : List (Value × Option Nat × HTS)} (nm : Names X x cv)
      (ok : match oi, on with
        | none, none => True
        | some i, some n => X.N.Nodup ∧ X.N[i]? = some n ∧ X.env.kindOf n = some .local
        | _, _ => False)
      (su : ∀ (a : Addr) (oe : Obj) (cls : Value) (d : Option Addr) (pn : List (Addr × Obj)), Zc cls d oe → (∃ fv, oe.data = .fields fv) → PSs (X.suite a ((a, oe) :: pn)) (st :: sts) (ts a cls d))
      (more : HdsA X hds l) : HdsA X (.ExceptHandler (some (.Name x p1)) on (st :: sts) p2 :: hds) ((cv, oi, ts) :: l)

section
variable {X : Cx}
/-- behind a suite that has no name to drop -/
theorem suite_back {pins : List (Addr × Obj)} {D : Ends} {a : Addr} {qo : Addr × Obj} {fl : Flow} {s : Shared} (ok : X.Ok) (z : SP (X.suite a (qo :: (X.pn ++ pins))) [] D fl s) : SP X pins D fl s := by
  cases fl with
  | next => obtain ⟨σ1, H1, J, q⟩ := z; exact ⟨_, _, J.unsuite ok, q⟩
  | brk => obtain ⟨σ1, H1, J, q⟩ := z; exact ⟨_, _, J.unsuite ok, q⟩
  | cont => obtain ⟨σ1, H1, J, q⟩ := z; exact ⟨_, _, J.unsuite ok, q⟩
  | ret u => obtain ⟨v, σ1, H1, J, r, q⟩ := z; exact ⟨_, _, _, J.unsuite ok, r, q⟩
theorem try_back {pins : List (Addr × Obj)} {D : Ends} {xe : Value → Shared → Prop} {fl : Flow} {s : Shared} (ok : X.Ok) (z : SP (X.tr (X.pn ++ pins) xe) [] D fl s) : SP X pins D fl s := by
  cases fl with
  | next => obtain ⟨σ1, H1, J, q⟩ := z; exact ⟨_, _, J.ofTry ok, q⟩
  | brk => obtain ⟨σ1, H1, J, q⟩ := z; exact ⟨_, _, J.ofTry ok, q⟩
  | cont => obtain ⟨σ1, H1, J, q⟩ := z; exact ⟨_, _, J.ofTry ok, q⟩
  | ret u => obtain ⟨v, σ1, H1, J, r, q⟩ := z; exact ⟨_, _, _, J.ofTry ok, r, q⟩
theorem try_many {body : List Stmt} {h1 : ExceptHandler} {hds : List ExceptHandler} {l : List (Value × Option Nat × HTS)} {pos : Pos} {tb : WX → TS} {Wout : WX}
    (hs : X.stack = X.env :: X.outer) (hf : X.env.frame = some X.env.locals) (tk : Takes X Wout)
    (hb : ∀ (W : WX) (pn : List (Addr × Obj)) (xe : Value → Shared → Prop), Takes (X.tr pn xe) W → PassesOwn (model X.prog X.w) X.A X.env xe → PSs (X.tr pn xe) body (tb W))
    (hh : HdsA X (h1 :: hds) l) : PS X (.Try body (h1 :: hds) [] [] pos) (fun D σ H => tb (wHs X.K Wout D l) D σ H) := by
  refine ⟨fun pins s σ H D I w0 => ?_⟩
  have ok := I.ok
  have hfr : X.A.frames = some (X.env :: X.outer) := by rw [ok.frames, hs]
  refine wpAny_Try_except ?_
  let xe : Value → Shared → Prop := fun e s₁ => wpAny (model X.prog X.w) X.A (noteFrame e X.env) (fun _ s₂ => wpAny (model X.prog X.w) X.A (setFlight e none) (fun _ s₃ => wpAny (model X.prog X.w) X.A (handleBy e X.env (h1 :: hds)) (SP X pins D) X.xe s₃) X.xe s₂) X.xe s₁
  have caught : Takes (X.tr (X.pn ++ pins) xe) (wHs X.K Wout D l) := by
    rintro u sx ⟨a, B, sI, pins1, σ1, H1, cls, d, rfl, J0, nb, up, sky, na, os, ag, w⟩
    have J : Inv X pins σ1 H1 sI := J0.ofTry ok
    show wpAny (model X.prog X.w) X.A (noteFrame (.ref a) X.env) _ _ _
    refine Sky.land Zc.steady hfr hf (by rw [← hs]; exact sky) fun hp3 fl3 up3 => ?_
    obtain ⟨oe3, fv3, he3, hz3, hd3⟩ := fl3.there
    have J3 : Inv X pins σ1 H1 { sx with heap := hp3 } := J.landed nb fl3.1 (up.trans up3) os ag
    have off : a ∉ frs (X.env :: X.outer) := fun hm => by
      obtain ⟨_, o', e', hnf⟩ := fl3.2.2.1.mem hm
      rw [he3] at e'
      cases e'
      exact hnf _ hd3
    have offL : a ≠ X.env.locals := fun z => off (List.mem_filterMap.mpr ⟨X.env, List.mem_cons_self, by rw [hf, z]⟩)
    have offF : a ∉ X.fs := fun hm => by
      obtain ⟨e, h2, q⟩ := List.mem_filterMap.mp hm
      exact off (List.mem_filterMap.mpr ⟨e, List.mem_cons_of_mem _ h2, q⟩)
    have S3 := J3.suite he3 hd3 na offL offF
    have go : ∀ {hl : List ExceptHandler} {ls : List (Value × Option Nat × HTS)}, HdsA X hl ls → wHs X.K Wout D ls cls d σ1 H1 → wpAny (model X.prog X.w) X.A (handleBy (.ref a) X.env hl) (SP X pins D) X.xe { sx with heap := hp3 } := by
      intro hl ls hk
      induction hk with
      | nil =>
        intro w
        refine wpAny_handleBy_nil ?_
        obtain ⟨_, _, _, oe, fv, TT, _, _, he, _, hd, hfld, _⟩ := id fl3
        unfold PySem.passOn
        refine wpAny_bind (wpAny_field he hd hfld ?_)
        rw [if_neg (show ¬ ((Value.ref TT == Value.none) = true) from by simp)]
        have out : wpAny (model X.prog X.w) X.A (setFlight (.ref a) X.env.frame) (fun _ s4 => wpAny (model X.prog X.w) X.A (throw (.ref a) : Sem Flow) (SP X pins D) X.xe s4) X.xe { sx with heap := hp3 } := by
          rw [hf]
          refine HandSPX.setFlight_upZ fl3 fun hp4 hh4 up4 => wpAny_throw (tk _ _ ⟨a, B, sI, pins, σ1, H1, cls, d, rfl, J, nb, (up.trans up3).trans up4, .inr (.inr (by rw [hs]; exact hh4)), na, os, ag, w⟩)
        first
          | exact wpAny_bind (wpAny_pure (wpAny_bind out))
          | exact wpAny_bind out
      | @cons x cv oi on ts st sts p1 p2 hds2 l2 nm okn su more ih =>
        rintro ⟨b, hb1, yes, no⟩
        refine wpAny_handleBy_cons (codeAny_handlers_test ?_) (by intro q; cases q)
        have ty : PySem.W.Looks (model X.prog X.w) hp3 (typeOf (.ref a)) cls := fun A Q E s k q => wpAny_typeOf_ref (k _ _ he3) (by rw [hz3.1]; exact q)
        have asked := PySem.W.exm_one (M := model X.prog X.w) J3.kIn ty hb1
        have named : ∀ {Q E : Value → Shared → Prop}, Q cv { sx with heap := hp3 } → wpAny (model X.prog X.w) (X.A.mark (some (.ref a))) (eval (.Name x p1) X.env) Q E { sx with heap := hp3 } := fun {Q E} q => by
          obtain ⟨g1, g2, g3 | ⟨g3, g4, g5⟩⟩ := nm
          · exact ld_glob (X := X.suite a ((a, oe3) :: (X.pn ++ pins))) S3 g1 g3 q g2
          · exact ld_blt (X := X.suite a ((a, oe3) :: (X.pn ++ pins))) S3 g1 g3 g4 q g5 g2
        refine named (asked.here ?_)
        cases b with
        | false => exact ih (no rfl)
        | true =>
          have yes := yes rfl a
          match oi, on, okn, yes with
          | none, none, _, yes =>
            refine codeAny_handlers_suite (HandSPX.lands_againZ fl3 fun hp4 fl4 up4 => ?_)
            obtain ⟨oe4, fv4, he4, hz4, hd4⟩ := fl4.there
            have J4 : Inv X pins σ1 H1 { sx with heap := hp4 } := J.landed nb fl4.1 ((up.trans up3).trans up4) os ag
            refine wpAny_mono ((su a oe4 cls d (X.pn ++ pins) hz4 ⟨_, hd4⟩).run [] _ _ H1 _ (J4.suite he4 hd4 na offL offF) yes) (fun fl s6 z => ?_) (fun _ _ z => False.elim z)
            have back := suite_back (pins := pins) ok z
            cases fl <;> exact back
          | some i, some n, ⟨hN, hi, hln⟩, yes =>
            refine codeAny_handlers_suite_as (HandSPX.lands_againZ fl3 fun hp4 fl4 up4 => ?_)
            obtain ⟨oe4, fv4, he4, hz4, hd4⟩ := fl4.there
            have J4 : Inv X pins σ1 H1 { sx with heap := hp4 } := J.landed nb fl4.1 ((up.trans up3).trans up4) os ag
            refine store_ok (X := X.suite a ((a, oe4) :: (X.pn ++ pins))) (v := .ref a) (J4.suite he4 hd4 na offL offF) hN hi (.inl hln) rfl (fun s5 S5 => ?_) (.inr hln)
            refine wpAny_mono ((su a oe4 cls d (X.pn ++ pins) hz4 ⟨_, hd4⟩).run [] s5 _ H1 _ S5 yes) (fun fl s6 z => ?_) (fun _ _ z => False.elim z)
            have gone : ∀ {σ6 : L2.St} {H6 : Hp} {Q : Shared → Prop}, Inv (X.suite a ((a, oe4) :: (X.pn ++ pins))) [] σ6 H6 s6 → (∀ s7, Inv X pins (σ6.set i none) H6 s7 → Q s7) → wpAny (model X.prog X.w) X.A (do bindName X.env n .none; unbindBehindTheSuite X.env n p2) (fun _ s7 => Q s7) X.xe s6 :=
              fun {σ6 H6 Q} S6 hq => gone_ok (S6.unsuite ok) hN hi hln hq
            cases fl with
            | next => obtain ⟨σ6, H6, S6, q6⟩ := z; exact gone S6 fun s7 J7 => ⟨_, _, J7, q6⟩
            | brk => obtain ⟨σ6, H6, S6, q6⟩ := z; exact gone S6 fun s7 J7 => ⟨_, _, J7, q6⟩
            | cont => obtain ⟨σ6, H6, S6, q6⟩ := z; exact gone S6 fun s7 J7 => ⟨_, _, J7, q6⟩
            | ret u => obtain ⟨v6, σ6, H6, S6, r6, q6⟩ := z; exact gone S6 fun s7 J7 => ⟨_, _, _, J7, r6, q6⟩
          | none, some _, okn, _ => exact okn.elim
          | some _, none, okn, _ => exact okn.elim
    exact go hh w
  refine wpAny_mono ((hb (wHs X.K Wout D l) (X.pn ++ pins) xe caught PassesOwn.looking).run [] s σ H D (I.toTry _) w0) (fun fl s1 z => ?_) (fun e s1 he => he)
  have back := try_back (pins := pins) ok z
  cases fl with
  | next => exact wpAny_execs_nil back
  | brk => exact back
  | cont => exact back
  | ret u => exact back
end
end Z

set_option Elab.async false
set_option linter.all false
set_option maxRecDepth 100000
set_option autoImplicit false
set_option maxHeartbeats 1000000
/-! ZN: raise, try; every statement's reading. -/
namespace Z
open PySem PySem.Spec PyProof.Rows L2
/-- .. where one exception is at hand -/
def Ct.at (c : Ct) (a : Addr) (x : Str) : Ct := { c with XS := fun b y => b = a ∧ y = x }
section
variable {c : Ct} {H : Hp} {μ : Mu}
mutual
theorem RV.at {a0 : Addr} {x0 : Str} (n : ∀ a x, ¬ c.XS a x) : ∀ {v : V} {a : AV}, RV c H μ v a → RV (c.at a0 x0) H μ v a
  | _, _, .non => .non
  | _, _, .bl b => .bl b
  | _, _, .int i => .int i
  | _, _, .str s h hz => .str s h hz
  | _, _, .tup h d n' l r => .tup h d n' l (RVs.at n r)
  | _, _, .tupK h l r => .tupK h l (RVs.at n r)
  | _, _, .lst h n' l r => .lst h n' l (RVs.at n r)
  | _, _, .ext h n' l r => .ext h n' l (RVs.at n r)
  | _, _, .extK h l r => .extK h l (RVs.at n r)
  | _, _, .ref h => .ref h
  | _, _, .exn h => absurd h (n _ _)
  | _, _, .rep d => .rep d
theorem RVs.at {a0 : Addr} {x0 : Str} (n : ∀ a x, ¬ c.XS a x) : ∀ {v : List V} {a : List AV}, RVs c H μ v a → RVs (c.at a0 x0) H μ v a
  | _, _, .nil => .nil
  | _, _, .cons h t => .cons (RV.at n h) (RVs.at n t)
end
mutual
theorem RV.off {a0 : Addr} {x0 : Str} : ∀ {v : V} {a : AV}, RV (c.at a0 x0) H μ v a → a.clean = true → RV c H μ v a
  | _, _, .non, _ => .non
  | _, _, .bl b, _ => .bl b
  | _, _, .int i, _ => .int i
  | _, _, .str s h hz, _ => .str s h hz
  | _, _, .tup h d n' l r, e => .tup h d n' l (RVs.off r e)
  | _, _, .tupK h l r, e => .tupK h l (RVs.off r e)
  | _, _, .lst h n' l r, e => .lst h n' l (RVs.off r e)
  | _, _, .ext h n' l r, e => .ext h n' l (RVs.off r e)
  | _, _, .extK h l r, e => .extK h l (RVs.off r e)
  | _, _, .ref h, _ => .ref h
  | _, _, .exn h, e => absurd e Bool.false_ne_true
  | _, _, .rep d, _ => .rep d
theorem RVs.off {a0 : Addr} {x0 : Str} : ∀ {v : List V} {a : List AV}, RVs (c.at a0 x0) H μ v a → cleanAll a = true → RVs c H μ v a
  | _, _, .nil, _ => .nil
  | _, _, .cons (x := x) (xs := xs) h t, e => by
    have e : (x.clean && cleanAll xs) = true := e
    rw [Bool.and_eq_true] at e
    exact .cons (RV.off h e.1) (RVs.off t e.2)
end
theorem RH.at {h : AH} {a0 : Addr} {x0 : Str} (n : ∀ a x, ¬ c.XS a x) (r : RH c H h μ) : RH (c.at a0 x0) H h μ :=
  ⟨r.len, r.nd, fun m o e => by
    obtain ⟨a, h1, h2⟩ := r.thing m o e
    refine ⟨a, h1, ?_⟩
    cases h2 with
    | lst e1 l q => exact .lst e1 l (q.at n)
    | dctK q1 k rk r => exact .dctK q1 k (rk.at n) (r.at n)
    | dctT q1 e1 e2 e3 e4 e5 e6 e7 e8 e9 rk v r => exact .dctT q1 e1 e2 e3 e4 e5 e6 e7 e8 e9 (rk.at n) v (r.at n)
    | ins C e1 d n' k q => exact .ins C e1 d n' k (q.at n), r.hid⟩
theorem RE.at {σ : L2.St} {ρ : AEnv} {a0 : Addr} {x0 : Str} (n : ∀ a x, ¬ c.XS a x) (r : RE c H μ σ ρ) : RE (c.at a0 x0) H μ σ ρ := ⟨r.1, fun i v e => by
  obtain ⟨u, h1, h2⟩ := r.2 i v e
  exact ⟨u, h1, h2.at n⟩⟩
theorem RE.off {σ : L2.St} {ρ : AEnv} {a0 : Addr} {x0 : Str} (r : RE (c.at a0 x0) H μ σ ρ) (e : cleanEnv ρ = true) : RE c H μ σ ρ := ⟨r.1, fun i v e1 => by
  obtain ⟨u, h1, h2⟩ := r.2 i v e1
  refine ⟨u, h1, h2.off ?_⟩
  have z := List.all_eq_true.mp e (some v) (List.mem_of_getElem? e1)
  exact z⟩
mutual
theorem RV.isClean (n : ∀ a x, ¬ c.XS a x) : ∀ {v : V} {a : AV}, RV c H μ v a → a.clean = true
  | _, _, .non | _, _, .bl _ | _, _, .int _ | _, _, .str _ _ _ | _, _, .ref _ | _, _, .rep _ => rfl
  | _, _, .tup _ _ _ _ r => RVs.isClean n r
  | _, _, .tupK _ _ r => RVs.isClean n r
  | _, _, .lst _ _ _ r => RVs.isClean n r
  | _, _, .ext _ _ _ r => RVs.isClean n r
  | _, _, .extK _ _ r => RVs.isClean n r
  | _, _, .exn h => absurd h (n _ _)
theorem RVs.isClean (n : ∀ a x, ¬ c.XS a x) : ∀ {v : List V} {a : List AV}, RVs c H μ v a → cleanAll a = true
  | _, _, .nil => rfl
  | _, _, .cons (x := x) (xs := xs) h t => by
    show (x.clean && cleanAll xs) = true
    rw [RV.isClean n h, RVs.isClean n t]
    rfl
end
theorem cleanAll_map {α : Type} {f : α → AV} {l : List α} : cleanAll (l.map f) = true ↔ ∀ p ∈ l, (f p).clean = true := by
  induction l with
  | nil => simp [cleanAll]
  | cons p l ih =>
    show ((f p).clean && cleanAll (l.map f)) = true ↔ _
    rw [Bool.and_eq_true, ih]
    simp
theorem dct_clean (n : ∀ a x, ¬ c.XS a x) {a : Addr} {kvs : List (NestedKey × AV)} (r : RO c H μ a (.dct kvs)) : cleanAll (kvs.map fun p => kav p.1) = true ∧ cleanAll (kvs.map (·.2)) = true := by
  cases r with
  | dctK e k rk r => exact ⟨rk.isClean n, r.isClean n⟩
  | dctT q1 e1 e2 e3 e4 e5 e6 e7 e8 e9 rk v r => exact ⟨rk.isClean n, r.isClean n⟩
/-- a heap that is the same has no exception in it -/
theorem RH.off {h : AH} {H' : Hp} {μ' : Mu} {a0 : Addr} {x0 : Str} (n : ∀ a x, ¬ c.XS a x) (r : RH c H h μ) (r' : RH (c.at a0 x0) H' h μ') : RH c H' h μ' :=
  ⟨r'.len, r'.nd, fun m o e => by
    obtain ⟨a, h1, h2⟩ := r'.thing m o e
    obtain ⟨b, _, h4⟩ := r.thing m o e
    refine ⟨a, h1, ?_⟩
    cases h2 with
    | lst e1 l q =>
      cases h4 with
      | lst _ _ q4 => exact .lst e1 l (q.off (q4.isClean n))
    | dctK q1 k rk r => exact .dctK q1 k (rk.off (dct_clean n h4).1) (r.off (dct_clean n h4).2)
    | dctT q1 e1 e2 e3 e4 e5 e6 e7 e8 e9 rk v r => exact .dctT q1 e1 e2 e3 e4 e5 e6 e7 e8 e9 (rk.off (dct_clean n h4).1) v (r.off (dct_clean n h4).2)
    | ins C e1 d n' k q =>
      cases h4 with
      | ins _ _ _ _ _ q4 => exact .ins C e1 d n' k (q.off (q4.isClean n)), r'.hid⟩
end

theorem Gd.tr {X : Cx} {c : Ct} {T : Tb} {R : Rec} {k : Ck} (G : Gd X c T R k) (hc : k.cm = true) {pn : List (Addr × Obj)} {xe : Value → Shared → Prop} : Gd (X.tr pn xe) c T R k where
  K := G.K
  w := G.w
  nd := G.nd
  N := G.N
  sc := G.sc
  cm := G.cm
  fl := G.fl
  un := G.un
  gd := G.gd
  glb := G.glb
  gdc := G.gdc
  blt := G.blt
  df := fun f h => by
    obtain ⟨fa, m, h1, h2, h3, h4⟩ := G.df f h
    refine ⟨fa, m, h1, h2, h3, h4.imp (fun z => ⟨z.go⟩) fun z => z.imp (fun z => ⟨z.go⟩) fun z => z⟩
  mt := fun C m h => by
    obtain ⟨Ca, fa, n, h1, h2, h3, h4, h5⟩ := G.mt C m h
    exact ⟨Ca, fa, n, h1, h2, h3, h4, h5.imp (fun z => ⟨z.go⟩) fun z => z.imp (fun z => ⟨z.go⟩) fun z => z⟩
  fd := G.fd
  ex := fun x h => by
    obtain ⟨Ca, h1, h2, h3, h4, h5, h6⟩ := G.ex x h
    exact ⟨Ca, h1, h2, h3, h4, h5, h6⟩
  im := G.im
  isa := G.isa
  isv := G.isv
  xs := fun a x h => by
    have z := (G.xs a x h).1
    rw [hc] at z
    cases z
theorem Gd.noXS {X : Cx} {c : Ct} {T : Tb} {R : Rec} {k : Ck} (G : Gd X c T R k) (hc : k.cm = true) : ∀ a x, ¬ c.XS a x := fun a x h => by
  have z := (G.xs a x h).1
  rw [hc] at z
  cases z
theorem Gd.inSuite {X : Cx} {c : Ct} {T : Tb} {R : Rec} {k : Ck} (G : Gd X c T R k) (hc : k.cm = true) {pn : List (Addr × Obj)} {a : Addr} {oe : Obj} {x : Str} {Ca : Addr} (hx : c.CA x = some Ca) (hz : Zc (.ref Ca) none oe) (hf : ∃ fv, oe.data = .fields fv) :
    Gd (X.suite a ((a, oe) :: pn)) (c.at a x) T R k.suite where
  K := G.K
  w := G.w
  nd := G.nd
  N := G.N
  sc := G.sc
  cm := fun z => absurd z Bool.false_ne_true
  fl := G.fl
  un := G.un
  gd := G.gd
  glb := fun y v e => by
    obtain ⟨V, u, h1, h2, h3⟩ := G.glb y v e
    exact ⟨V, u, h1, h2, fun H μ => (h3 H μ).at (G.noXS hc)⟩
  gdc := fun y tab e => by
    obtain ⟨p, h1, h2⟩ := G.gdc y tab e
    refine ⟨p, h1, fun z v e => ?_⟩
    obtain ⟨V, h3, h4⟩ := h2 z v e
    exact ⟨V, h3, fun H μ => (h4 H μ).at (G.noXS hc)⟩
  blt := G.blt
  df := fun f z => absurd z Bool.false_ne_true
  mt := fun C m z => absurd z Bool.false_ne_true
  fd := G.fd
  ex := fun x h => by
    obtain ⟨Ca, h1, h2, h3, h4, h5, h6⟩ := G.ex x h
    exact ⟨Ca, h1, h2, h3, h4, h5, h6⟩
  im := G.im
  isa := G.isa
  isv := G.isv
  xs := fun b y h => by
    obtain ⟨rfl, rfl⟩ := h
    exact ⟨rfl, oe, Ca, hx, List.mem_cons_self, hz, hf⟩
theorem Gs.tr {X : Cx} {c : Ct} {T : Tb} {R : Rec} {k : Ck} (G : Gs X c T R k) (hc : k.cm = true) {pn : List (Addr × Obj)} {xe : Value → Shared → Prop} (hp : PassesOwn (model X.prog X.w) X.A X.env xe) : Gs (X.tr pn xe) c T R k := ⟨G.g.tr hc, G.st, G.fr, fun _ => hp, G.kd⟩
theorem Gs.inSuite {X : Cx} {c : Ct} {T : Tb} {R : Rec} {k : Ck} (G : Gs X c T R k) (hc : k.cm = true) {pn : List (Addr × Obj)} {a : Addr} {oe : Obj} {x : Str} {Ca : Addr} (hx : c.CA x = some Ca) (hz : Zc (.ref Ca) none oe) (hf : ∃ fv, oe.data = .fields fv) :
    Gs (X.suite a ((a, oe) :: pn)) (c.at a x) T R k.suite := ⟨G.g.inSuite hc hx hz hf, G.st, G.fr, fun z => absurd z Bool.false_ne_true, G.kd⟩

theorem Gd.inSuite0 {X : Cx} {c : Ct} {T : Tb} {R : Rec} {k : Ck} (G : Gd X c T R k) (hc : k.cm = true) {pn : List (Addr × Obj)} {a : Addr} : Gd (X.suite a pn) c T R k.suite where
  K := G.K
  w := G.w
  nd := G.nd
  N := G.N
  sc := G.sc
  cm := fun z => absurd z Bool.false_ne_true
  fl := G.fl
  un := G.un
  gd := G.gd
  glb := G.glb
  gdc := G.gdc
  blt := G.blt
  df := fun f z => absurd z Bool.false_ne_true
  mt := fun C m z => absurd z Bool.false_ne_true
  fd := G.fd
  ex := fun x h => by
    obtain ⟨Ca, h1, h2, h3, h4, h5, h6⟩ := G.ex x h
    exact ⟨Ca, h1, h2, h3, h4, h5, h6⟩
  im := G.im
  isa := G.isa
  isv := G.isv
  xs := fun b y h => absurd h (G.noXS hc b y)
theorem Gs.inSuite0 {X : Cx} {c : Ct} {T : Tb} {R : Rec} {k : Ck} (G : Gs X c T R k) (hc : k.cm = true) {pn : List (Addr × Obj)} {a : Addr} : Gs (X.suite a pn) c T R k.suite := ⟨G.g.inSuite0 hc, G.st, G.fr, fun z => absurd z Bool.false_ne_true, G.kd⟩
def ctAt (c : Ct) (oi : Option Nat) (a : Addr) (x : Str) : Ct := match oi with
  | none => c
  | some _ => c.at a x
/-- the clauses' wish, from what the interpreter tells -/
structure SndH (T : Tb) (R : Rec) (s : S) : Prop where
  ph : ∀ {X : Cx} {c : Ct} {k : Ck} {l : List ExceptHandler}, Gs X c T R k → k.cm = true → (ckS s).hnd k l = true → ∃ ls, HdsA X l ls ∧ ∀ (W : WX) (D : Ends) (x : Ex) (cls : Value) (d : Option Addr) (ρ : AEnv) (h : AH) (H : Hp) (μ : Mu) (σ : L2.St),
    RX c x cls d H → RE c H μ σ ρ → RH c H h μ → wpS (evH T R s x ρ) (endS c W D H μ) h → wHs X.K W D ls cls d σ H
section
variable {T : Tb} {R : Rec}
theorem SndH.no {s : S} (h : ∀ k l, (ckS s).hnd k l = false) : SndH T R s := ⟨fun {X c k l} _ _ z => by rw [h] at z; cases z⟩
theorem sh_nil : SndH T R .nil := ⟨fun {X c k l} G hc h => by
  match l, h with
  | [], _ => exact ⟨[], .nil, fun W D x cls d ρ h H μ σ rx re rh w => endS.now (W := W) (f := .ex x) w re rh cls d rx⟩
  | _ :: _, h => exact absurd h Bool.false_ne_true⟩
def onR (P : Fl → AEnv → AH → Prop) : Option (Fl × AEnv × AH) → Prop
  | some (f, ρ, h) => P f ρ h
  | none => False
theorem wpS_onR {m : MS} {P : Fl → AEnv → AH → Prop} {h : AH} : wpS m P h ↔ onR P (m h) := by
  unfold wpS
  cases m h with
  | none => exact Iff.rfl
  | some q => exact Iff.rfl
section
variable {x : Ex} {C : Str} {u r : S} {ρ : AEnv} {h : AH}
theorem evH_stuck {oi : Option Nat} (e : T.isA x.cls C = none) : evH T R (.hnd C oi u r) x ρ h = none := by simp only [evH, sv, e]; rfl
theorem evH_false {oi : Option Nat} (e : T.isA x.cls C = some false) : evH T R (.hnd C oi u r) x ρ h = evH T R r x ρ h := by simp only [evH, sv, e]
theorem evH_bare (e : T.isA x.cls C = some true) : evH T R (.hnd C none u r) x ρ h = suiteB (evS T R u ρ h) := by simp only [evH, sv, e]
theorem evH_as {i : Nat} (e : T.isA x.cls C = some true) : evH T R (.hnd C (some i) u r) x ρ h = if i < ρ.length then suiteA i ρ h (evS T R u (ρ.set i (some (.exn x.cls))) h) else none := by simp only [evH, sv, e]
end
theorem suiteB_end {c : Ct} {W : WX} {D : Ends} {H : Hp} {μ : Mu} {r : Option (Fl × AEnv × AH)} (w : onR (endS c W D H μ) (suiteB r)) : onR (endS c W0 D H μ) r := by
  cases r with
  | none => exact w
  | some q =>
    obtain ⟨f, ρ, h⟩ := q
    cases f with
    | ex x => exact w.elim
    | nx => exact w
    | bk => exact w
    | ct => exact w
    | rt v => exact w
theorem suiteA_end {c : Ct} {W : WX} {D : Ends} {H : Hp} {μ : Mu} {σ : L2.St} {r : Option (Fl × AEnv × AH)} {i : Nat} {ρ : AEnv} {h : AH} {a : Addr} {x : Str} (nx : ∀ a x, ¬ c.XS a x) (re : RE c H μ σ ρ) (rh : RH c H h μ)
    (w : onR (endS c W D H μ) (suiteA i ρ h r)) : onR (endS (c.at a x) W0 (goneD D i) H μ) r := by
  cases r with
  | none => exact w
  | some q =>
    obtain ⟨f, ρ2, h2⟩ := q
    cases f with
    | ex x => exact w.elim
    | bk => exact w.elim
    | ct => exact w.elim
    | nx =>
      simp only [suiteA] at w
      by_cases e : h2 = h ∧ cleanEnv (ρ2.set i none) = true
      · rw [if_pos e] at w
        obtain ⟨rfl, e⟩ := e
        intro H' μ' xx rh' σ' re'
        have w : endS c W D H μ .nx (ρ2.set i none) h2 := w
        exact w H' μ' xx (rh.off nx rh') (σ'.set i none) (re'.unset.off e)
      · rw [if_neg e] at w
        exact w.elim
    | rt v =>
      simp only [suiteA] at w
      by_cases e : h2 = h ∧ v.clean = true
      · rw [if_pos e] at w
        obtain ⟨rfl, e⟩ := e
        intro H' μ' xx rh' σ' re' V rv
        have w : endS c W D H μ (.rt v) (ρ.set i none) h2 := w
        exact w H' μ' xx (rh.off nx rh') (σ.set i none) ((re.mono xx).unset) V (rv.off e)
      · rw [if_neg e] at w
        exact w.elim
theorem sh_hnd {C : Str} {oi : Option Nat} {u r : S} (sa : SndS T R u) (b : SndH T R r) : SndH T R (.hnd C oi u r) := ⟨fun {X c k l} G hc h => by
  simp only [ckS] at h
  split at h
  · rename_i x p1 on st sts p2 hs
    simp only [Bool.and_eq_true, decide_eq_true_eq] at h
    obtain ⟨⟨⟨⟨⟨⟨h1, h2⟩, h3⟩, h4⟩, h5⟩, h6⟩, h7⟩ := h
    subst h1
    obtain ⟨ls, hl, hw⟩ := b.ph G hc h7
    obtain ⟨Cx, hC, ok⟩ := G.g.ex C h4
    have nx := G.g.noXS hc
    rw [G.g.sc] at h2
    refine ⟨(.ref Cx, oi, fun a cls d D σ H => ∃ x, RX c x cls d H ∧ SS (ctAt c oi a x.cls) W0 (evS T R u) D σ H) :: ls, .cons ⟨gl_of h2, (dbg_of h3).1, .inl ok.mg⟩ ?_ (fun a oe cls d pn hz hf => ⟨fun pins s σ H D I w => ?_⟩) hl, ?_⟩
    · clear hw
      cases oi <;> cases on <;> first | trivial | exact absurd h5 Bool.false_ne_true | skip
      rename_i i n
      have h5 : (decide (k.N[i]? = some n) && decide (k.sc.names.lookup n = some .local)) = true := h5
      simp only [Bool.and_eq_true, decide_eq_true_eq] at h5
      rw [G.g.N, G.g.sc] at h5
      exact ⟨G.g.nd, h5.1, h5.2⟩
    · obtain ⟨x, ⟨Ca, e1, e2, e3⟩, w⟩ := w
      subst e2 e3
      cases oi with
      | none => exact (sa.pb (G.inSuite0 hc) takes0 h6).run pins s σ H D I w
      | some i => exact (sa.pb (G.inSuite hc e1 hz hf) takes0 h6).run pins s σ H D I w
    · intro W D x cls d ρ h H μ σ rx re rh w
      clear h5
      obtain ⟨Ca, e1, rfl, rfl⟩ := id rx
      rw [wpS_onR] at w
      cases hi : T.isA x.cls C with
      | none =>
        rw [evH_stuck hi] at w
        exact w.elim
      | some bb =>
        obtain ⟨Cx', Cy, f1, f2, f3, _⟩ := G.g.isa _ _ _ hi
        rw [e1] at f1
        rw [hC] at f2
        cases f1
        cases f2
        cases bb with
        | false =>
          rw [evH_false hi, ← wpS_onR] at w
          exact ⟨false, f3, fun z => absurd z (by decide), fun _ => hw W D x _ _ ρ h H μ σ rx re rh w⟩
        | true =>
          refine ⟨true, f3, fun _ a => ?_, fun z => absurd z (by decide)⟩
          cases oi with
          | none =>
            rw [evH_bare hi] at w
            exact ⟨x, rx, ρ, h, μ, re, rh, wpS_onR.mpr (suiteB_end w)⟩
          | some i =>
            rw [evH_as hi] at w
            split at w
            · exact ⟨x, rx, ρ.set i (some (.exn x.cls)), h, μ, (re.at nx).set (.exn ⟨rfl, rfl⟩), rh.at nx, wpS_onR.mpr (suiteA_end nx re rh w)⟩
            · exact w.elim
  · cases h⟩
theorem ss_try {s h : S} (sa : SndS T R s) (b : SndH T R h) : SndS T R (.try s h) := by
  refine .one ⟨_, rfl⟩ fun {X c k W p} G tk hh => ?_
  simp only [ckS, one0] at hh
  split at hh
  · rename_i body h1 hs pos
    simp only [Bool.and_eq_true] at hh
    obtain ⟨⟨hc, g2⟩, g3⟩ := hh
    obtain ⟨ls, hl, hw⟩ := b.ph G hc g3
    refine ps_imp (try_many (tb := fun W => SS c W (evS T R s)) G.st G.fr tk (fun W pn xe tk' po => sa.pb (G.tr hc po) tk' g2) hl) fun D σ H ⟨ρ, h0, μ, re, rh, w⟩ => ⟨ρ, h0, μ, re, rh, ?_⟩
    have w : wpS (fun h0 => match evS T R s ρ h0 with
      | some (.ex x, ρ2, h2) => evH T R h x ρ2 h2
      | r => r) (endS c W D H μ) h0 := w
    unfold wpS at w ⊢
    simp only at w
    cases e : evS T R s ρ h0 with
    | none => rw [e] at w; exact w
    | some q =>
      rw [e] at w
      obtain ⟨f, ρ2, h2⟩ := q
      cases f with
      | nx => exact w
      | bk => exact w
      | ct => exact w
      | rt v => exact w
      | ex x =>
        intro H' μ' xx rh' σ' re' cls d rx
        have w : wpS (evH T R h x ρ2) (endS c W D H μ) h2 := w
        exact hw W D x cls d ρ2 h2 H' μ' σ' rx re' rh' (wpS_mono w fun _ _ _ z => z.later xx)
  · cases hh
theorem ss_raise {C : Str} : SndS T R (.raise C) := by
  refine .one ⟨_, rfl⟩ fun {X c k W p} G tk h => ?_
  simp only [ckS, one0] at h
  split at h
  · rename_i x p1 m j p2 p3 p4
    simp only [Bool.and_eq_true, decide_eq_true_eq] at h
    obtain ⟨⟨⟨⟨hc, h1⟩, h2⟩, h3⟩, h4⟩ := h
    subst h1
    obtain ⟨Cx, hC, ok⟩ := G.g.ex C h4
    obtain ⟨B, newId, initId, bmB, F, q⟩ := ok.facts
    rw [G.g.sc] at h2
    refine ps_imp (ps_raise (G.g.cm hc) tk (pmk_own F q ok.mg ok.keep ok.raises (gl_of h2) (dbg_of h3).1)) fun D σ H ⟨ρ, h0, μ, re, rh, w⟩ => ?_
    exact endS.now (W := W) (f := .ex ⟨C⟩) w re rh _ _ ⟨Cx, hC, rfl, rfl⟩
  · cases h
theorem ss_no {s : S} (h1 : ckS s = one0 fun _ _ => false) : SndS T R s := .one ⟨_, h1⟩ fun {X c k W p} G tk h => by
  rw [h1] at h
  cases h
theorem ss_opq : SndS T R .opq := .one ⟨_, rfl⟩ fun {X c k W p} G tk h => ⟨fun pins s σ H D I ⟨ρ, h0, μ, re, rh, w⟩ => w.elim⟩
theorem sndB : ∀ s : S, SndS T R s ∧ SndH T R s
  | .nil => ⟨ss_nil, sh_nil⟩
  | .seq s t => ⟨ss_seq (sndB s).1 (sndB t).1, .no fun _ _ => rfl⟩
  | .asg t e => ⟨ss_asg, .no fun _ _ => rfl⟩
  | .sub o i e => ⟨ss_sub, .no fun _ _ => rfl⟩
  | .att C f o e => ⟨ss_att, .no fun _ _ => rfl⟩
  | .aug i o e => ⟨ss_aug, .no fun _ _ => rfl⟩
  | .aatt C f o p e => ⟨ss_aatt, .no fun _ _ => rfl⟩
  | .asub o i p e => ⟨ss_asub, .no fun _ _ => rfl⟩
  | .exp e => ⟨ss_exp, .no fun _ _ => rfl⟩
  | .ret e => ⟨ss_ret, .no fun _ _ => rfl⟩
  | .retN => ⟨ss_retN, .no fun _ _ => rfl⟩
  | .ite c s t => ⟨ss_ite (sndB s).1 (sndB t).1, .no fun _ _ => rfl⟩
  | .for t src s => ⟨ss_for (sndB s).1, .no fun _ _ => rfl⟩
  | .while c s => ⟨ss_while (sndB s).1, .no fun _ _ => rfl⟩
  | .brk => ⟨ss_brk, .no fun _ _ => rfl⟩
  | .cnt => ⟨ss_cnt, .no fun _ _ => rfl⟩
  | .par i j es => ⟨ss_par, .no fun _ _ => rfl⟩
  | .pass => ⟨ss_pass, .no fun _ _ => rfl⟩
  | .raise C => ⟨ss_raise, .no fun _ _ => rfl⟩
  | .opq => ⟨ss_opq, .no fun _ _ => rfl⟩
  | .try s h => ⟨ss_try (sndB s).1 (sndB h).2, .no fun _ _ => rfl⟩
  | .hnd C i u r => ⟨⟨fun {X c k W p} _ _ z => absurd z Bool.false_ne_true, fun {X c k W p} _ _ z => absurd z Bool.false_ne_true⟩, sh_hnd (sndB u).1 (sndB r).2⟩
theorem sndS (s : S) : SndS T R s := (sndB s).1
end
end Z

set_option Elab.async false
set_option linter.all false
set_option maxRecDepth 100000
set_option autoImplicit false
set_option maxHeartbeats 1000000
/-! ZO: calls: a def of the text does what the interpreter tells. -/
namespace Z
open PySem PySem.Spec PyProof.Rows L2

/-! ### a call's end -/
section
variable {c : Ct} {H : Hp} {μ μ2 : Mu}
mutual
theorem RV.narrow {k : Nat} (m : ∀ a, a ∈ μ2 → a ∈ μ) (g : ∀ n, n < k → μ2.n[n]? = μ.n[n]?) : ∀ {v : V} {a : AV}, RV c H μ v a → a.lt k → RV c H μ2 v a
  | _, _, .non, _ => .non
  | _, _, .bl b, _ => .bl b
  | _, _, .int i, _ => .int i
  | _, _, .str s h hz, _ => .str s h hz
  | _, _, .tup h d n l r, e => .tup h d (fun z => n (m _ z)) l (RVs.narrow m g r e)
  | _, _, .tupK h l r, e => .tupK h l (RVs.narrow m g r e)
  | _, _, .lst h n l r, e => .lst h (fun z => n (m _ z)) l (RVs.narrow m g r e)
  | _, _, .ext h n l r, e => .ext h (fun z => n (m _ z)) l (RVs.narrow m g r e)
  | _, _, .extK h l r, e => .extK h l (RVs.narrow m g r e)
  | _, _, .ref h, e => .ref ((g _ e).trans h)
  | _, _, .exn h, _ => .exn h
  | _, _, .rep d, _ => .rep d
theorem RVs.narrow {k : Nat} (m : ∀ a, a ∈ μ2 → a ∈ μ) (g : ∀ n, n < k → μ2.n[n]? = μ.n[n]?) : ∀ {v : List V} {a : List AV}, RVs c H μ v a → ltAll k a → RVs c H μ2 v a
  | _, _, .nil, _ => .nil
  | _, _, .cons h t, e => .cons (RV.narrow m g h e.1) (RVs.narrow m g t e.2)
end
mutual
theorem RV.lt : ∀ {v : V} {a : AV}, RV c H μ v a → a.lt μ.n.length
  | _, _, .non | _, _, .bl _ | _, _, .int _ | _, _, .str _ _ _ | _, _, .exn _ | _, _, .rep _ => trivial
  | _, _, .tup _ _ _ _ r => RVs.lt r
  | _, _, .tupK _ _ r => RVs.lt r
  | _, _, .lst _ _ _ r => RVs.lt r
  | _, _, .ext _ _ _ r => RVs.lt r
  | _, _, .extK _ _ r => RVs.lt r
  | _, _, .ref h => (List.getElem?_eq_some_iff.mp h).1
theorem RVs.lt : ∀ {v : List V} {a : List AV}, RVs c H μ v a → ltAll μ.n.length a
  | _, _, .nil => trivial
  | _, _, .cons h t => ⟨RV.lt h, RVs.lt t⟩
end
theorem ltAll_map {α : Type} {k : Nat} {f : α → AV} {l : List α} : ltAll k (l.map f) ↔ ∀ p ∈ l, (f p).lt k := by
  induction l with
  | nil => simp [ltAll]
  | cons p l ih =>
    show ((f p).lt k ∧ ltAll k (l.map f)) ↔ _
    rw [ih]
    simp
mutual
theorem kav_lt {k : Nat} : ∀ q : NestedKey, (kav q).lt k
  | .none | .num _ | .text _ => trivial
  | .tup ks => kavs_lt ks
theorem kavs_lt {k : Nat} : ∀ q : List NestedKey, ltAll k (kavs q)
  | [] => trivial
  | q :: qs => ⟨kav_lt q, kavs_lt qs⟩
end
theorem RO.narrow {k : Nat} {a : Addr} {o : AO} (m : ∀ a, a ∈ μ2 → a ∈ μ) (g : ∀ n, n < k → μ2.n[n]? = μ.n[n]?) (r : RO c H μ a o) (e : o.lt k) : RO c H μ2 a o := by
  cases r with
  | lst h l q => exact .lst h l (q.narrow m g e)
  | dctK q1 k rk r => exact .dctK q1 k (rk.narrow m g (ltAll_map.mpr fun p _ => kav_lt p.1)) (r.narrow m g (ltAll_map.mpr e))
  | dctT q1 e1 e2 e3 e4 e5 e6 e7 e8 e9 rk v r => exact .dctT q1 e1 e2 e3 e4 e5 e6 e7 e8 e9 (rk.narrow m g (ltAll_map.mpr fun p _ => kav_lt p.1)) v (r.narrow m g (ltAll_map.mpr e))
  | ins C h d n' n q => exact .ins C h d (fun z => n' (m _ z)) n (q.narrow m g (ltAll_map.mpr e))
theorem RO.lt {a : Addr} {o : AO} (r : RO c H μ a o) : o.lt μ.n.length := by
  cases r with
  | lst h l q => exact q.lt
  | dctK _ _ _ r => exact ltAll_map.mp r.lt
  | dctT _ _ _ _ _ _ _ _ _ _ _ _ r => exact ltAll_map.mp r.lt
  | ins C h d n' n q => exact ltAll_map.mp q.lt
end
section
variable {c : Ct} {H H' : Hp} {μ μ' : Mu} {h h' : AH}
theorem pre_in (x : Ext H μ H' μ') : ∀ a, a ∈ μ → a ∈ μ' := fun a m => by
  obtain ⟨r, e⟩ := x.w.pre
  rcases m with m | m
  · exact .inl (by rw [e]; exact List.mem_append_left _ m)
  · exact .inr (by rw [x.hid]; exact m)
theorem pre_at (x : Ext H μ H' μ') (n : Nat) (hn : n < μ.n.length) : μ.n[n]? = μ'.n[n]? := by
  obtain ⟨r, e⟩ := x.w.pre
  rw [e, List.getElem?_append_left hn]
/-- the heap cut back to what it had -/
theorem cut_things {μ2 : Mu} (rh : RH c H h μ) (rh' : RH c H' h' μ') (ok : okPre h h') (hm : ∀ a, a ∈ μ2 → a ∈ μ') (hg : ∀ n, n < μ.n.length → μ2.n[n]? = μ'.n[n]?) (hg0 : ∀ n, n < μ.n.length → μ.n[n]? = μ'.n[n]?) :
    ∀ (n : Nat) (o : AO), (h'.take h.length)[n]? = some o → ∃ a, μ2.n[n]? = some a ∧ RO c H' μ2 a o := fun n o e => by
  have hl : (h'.take h.length).length = h.length := by rw [List.length_take]; exact Nat.min_eq_left ok.1
  have hn : n < h.length := by
    have := (List.getElem?_eq_some_iff.mp e).1
    omega
  rw [List.getElem?_take_of_lt hn] at e
  obtain ⟨a, h1, h2⟩ := rh'.thing n o e
  have hn' : n < μ.n.length := by rw [rh.len]; exact hn
  refine ⟨a, (hg n hn').trans h1, ?_⟩
  have lt : o.lt μ.n.length := by
    rcases ok.2 n hn with z | ⟨o', z1, z2⟩
    · rw [e] at z
      obtain ⟨b, _, ro⟩ := rh.thing n o z.symm
      exact ro.lt
    · rw [e] at z1
      cases z1
      rw [rh.len]
      exact z2
  exact h2.narrow hm hg lt
theorem cut_back (x : Ext H μ H' μ') (rh : RH c H h μ) (rh' : RH c H' h' μ') (ok : okPre h h') : Ext H μ H' μ ∧ RH c H' (h'.take h.length) μ := by
  have hl : (h'.take h.length).length = h.length := by rw [List.length_take]; exact Nat.min_eq_left ok.1
  refine ⟨⟨⟨⟨[], by simp⟩, x.keep, fun a m n => absurd m n⟩, rfl, x.hk⟩, by rw [hl]; exact rh.len, rh.nd, cut_things rh rh' ok (pre_in x) (pre_at x) (pre_at x), fun a m => ?_⟩
  obtain ⟨h1, u, h2⟩ := rh.hid a m
  exact ⟨h1, u, (x.hk a m).trans h2⟩
/-- a thing that a call made, and hands out: it gets the next number -/
theorem fin_move (x : Ext H μ H' μ') (rh : RH c H h μ) (rh' : RH c H' h' μ') (ok : okPre h h') {n : Nat} {a : Addr} {o : AO} (hn : μ'.n[n]? = some a) (nlt : ¬ n < h.length) (hx : h'[n]? = some o) (lt : o.lt h.length) :
    ∃ μ2, Ext H μ H' μ2 ∧ RH c H' (h'.take h.length ++ [o]) μ2 ∧ RV c H' μ2 (.ref a) (.ref h.length) := by
  obtain ⟨xb, rb⟩ := cut_back x rh rh' ok
  have len : h.length = μ.n.length := rh.len.symm
  rw [len] at lt
  obtain ⟨b, hb, ro⟩ := rh'.thing n _ hx
  rw [hn] at hb
  cases hb
  have off : a ∉ μ := fun m => by
    rcases m with m | m
    · obtain ⟨i, hi, ei⟩ := List.getElem_of_mem m
      have e1 : μ'.n[i]? = some a := by rw [← pre_at x i hi, List.getElem?_eq_getElem hi, ei]
      obtain ⟨g1, e2⟩ := List.getElem?_eq_some_iff.mp e1
      obtain ⟨g2, e3⟩ := List.getElem?_eq_some_iff.mp hn
      have : i = n := (List.getElem_inj rh'.nd).mp (e2.trans e3.symm)
      exact nlt (show n < h.length by rw [len, ← this]; exact hi)
    · exact (rh'.hid a (by rw [x.hid]; exact m)).1 (List.mem_of_getElem? hn)
  have ha' : H a = none := x.w.new a (.inl (List.mem_of_getElem? hn)) off
  have at' : (μ.n ++ [a])[h.length]? = some a := by
    rw [len, List.getElem?_append_right (Nat.le_refl _)]
    simp
  have am : a ∈ μ' := .inl (List.mem_of_getElem? hn)
  have hin : ∀ b, b ∈ μ.add a → b ∈ μ' := fun b mb => by
    rcases Mu.mem_add.mp mb with mb | mb
    · exact pre_in x b mb
    · rw [mb]; exact am
  have hat : ∀ m, m < μ.n.length → (μ.add a).n[m]? = μ'.n[m]? := fun m hm => by
    show (μ.n ++ [a])[m]? = _
    rw [List.getElem?_append_left hm]
    exact pre_at x m hm
  have hl : (h'.take h.length).length = h.length := by rw [List.length_take]; exact Nat.min_eq_left ok.1
  refine ⟨μ.add a, ⟨⟨⟨[a], rfl⟩, x.keep, fun b mb nb => ?_⟩, rfl, x.hk⟩, ⟨by show (μ.n ++ [a]).length = _; rw [List.length_append, List.length_append, hl, len]; rfl, ?_, fun m o' em => ?_, fun b mb => ?_⟩, .ref at'⟩
  · rcases Mu.mem_add.mp mb with mb | mb
    · exact absurd mb nb
    · rw [mb]; exact ha'
  · show (μ.n ++ [a]).Nodup
    rw [List.nodup_append]
    refine ⟨rb.nd, by simp, fun p hp b hb => ?_⟩
    rw [List.mem_singleton.mp hb]
    exact fun z => off (.inl (z ▸ hp))
  · by_cases hm : m < h.length
    · rw [List.getElem?_append_left (by rw [hl]; exact hm)] at em
      exact cut_things rh rh' ok hin hat (pre_at x) m o' em
    · have hm' : m = h.length := by
        have := (List.getElem?_eq_some_iff.mp em).1
        rw [List.length_append, hl] at this
        simp at this
        omega
      subst hm'
      rw [List.getElem?_append_right (by rw [hl]; exact Nat.le_refl _), hl] at em
      simp at em
      subst em
      exact ⟨a, at', ro.narrow hin hat lt⟩
  · obtain ⟨h1, u, h2⟩ := rb.hid b mb
    refine ⟨fun z => ?_, u, h2⟩
    rcases List.mem_append.mp z with z | z
    · exact h1 z
    · rw [List.mem_singleton.mp z] at mb
      exact off (.inr mb)
theorem fin_ok (x : Ext H μ H' μ') (rh : RH c H h μ) (rh' : RH c H' h' μ') {tr : Bool} {V1 : V} {v v2 : AV} {h2 : AH} (rv : RV c H' μ' V1 v) (e : fin tr h v h' = some (.ok v2 h2)) : ∃ μ2, Ext H μ H' μ2 ∧ RH c H' h2 μ2 ∧ RV c H' μ2 V1 v2 := by
  unfold fin at e
  have whole : some (Out.ok v h') = some (.ok v2 h2) → ∃ μ2, Ext H μ H' μ2 ∧ RH c H' h2 μ2 ∧ RV c H' μ2 V1 v2 := fun z => by
    cases z
    exact ⟨μ', x, rh', rv⟩
  split at e
  · rename_i ok
    obtain ⟨xb, rb⟩ := cut_back x rh rh' ok
    have len : h.length = μ.n.length := rh.len.symm
    split at e
    · rename_i lt
      cases e
      exact ⟨μ, xb, rb, rv.narrow (pre_in x) (fun n hn => pre_at x n hn) (by rw [← len]; exact lt)⟩
    · rename_i nlt
      split at e
      · rename_i n
        split at e
        · rename_i xs hx
          split at e
          · rename_i lt
            rw [len] at lt
            cases rv with
            | ref hn =>
            rename_i a
            obtain ⟨b, hb, ro⟩ := rh'.thing n _ hx
            rw [hn] at hb
            cases hb
            cases ro with
            | lst ha l q =>
            have q2 := q.narrow (pre_in x) (fun n hn => pre_at x n hn) lt
            have off : a ∉ μ := fun m => by
              rcases m with m | m
              · obtain ⟨i, hi, ei⟩ := List.getElem_of_mem m
                have e1 : μ'.n[i]? = some a := by rw [← pre_at x i hi, List.getElem?_eq_getElem hi, ei]
                obtain ⟨g1, e2⟩ := List.getElem?_eq_some_iff.mp e1
                obtain ⟨g2, e3⟩ := List.getElem?_eq_some_iff.mp hn
                have : i = n := (List.getElem_inj rh'.nd).mp (e2.trans e3.symm)
                exact nlt (show n < h.length by rw [len, ← this]; exact hi)
              · exact (rh'.hid a (by rw [x.hid]; exact m)).1 (List.mem_of_getElem? hn)
            split at e
            · cases e
              exact fin_move x rh rh' ok hn nlt hx (show ltAll h.length xs by rw [len]; exact lt)
            · cases e
              exact ⟨μ, xb, rb, .lst ha off l q2⟩
          · exact whole e
        · rename_i kvs hx
          split at e
          · rename_i lt
            cases e
            cases rv with
            | ref hn => exact fin_move x rh rh' ok hn nlt hx lt
          · exact whole e
        · exact whole e
      · exact whole e
  · exact whole e
theorem finX_ok (x : Ext H μ H' μ') (rh : RH c H h μ) (rh' : RH c H' h' μ') {y y2 : Ex} {h2 : AH} (e : finX h y h' = some (.exc y2 h2)) : y2 = y ∧ ∃ μ2, Ext H μ H' μ2 ∧ RH c H' h2 μ2 := by
  unfold finX at e
  split at e
  · rename_i ok
    obtain ⟨xb, rb⟩ := cut_back x rh rh' ok
    cases e
    exact ⟨rfl, μ, xb, rb⟩
  · cases e
    exact ⟨rfl, μ', x, rh'⟩
theorem fin_noexc {tr : Bool} {h : AH} {v : AV} {h' : AH} : ∃ v2 h2, fin tr h v h' = some (.ok v2 h2) := by
  unfold fin
  repeat' split
  all_goals exact ⟨_, _, rfl⟩
theorem finX_exc {h : AH} {y : Ex} {h' : AH} : ∃ h2, finX h y h' = some (.exc y h2) := by
  unfold finX
  split
  · exact ⟨_, rfl⟩
  · exact ⟨_, rfl⟩
end

/-! ### the defs of a text -/
/-- one def at fa, called x: its text, checked against its term -/
structure DefB (K : PySem.W.Frag) (T : Tb) (k : Ck) (x : Str) (fa : Addr) (m : Nat) : Prop where
  ex : ∃ (fd : FuncData) (ps N : List Str) (nm qual : Str) (st : Stmt) (d : Df), ps.length = m ∧ Binds K fd ps [] ∧ Fun K nm qual st fa fd ∧ FnScope N ps (defScope st) ∧ T.df x = some d ∧ d.n = ps.length ∧ d.slots = N.length ∧
    (ckS d.body).blk { k with N := N, sc := defScope st, cm := true, fl := fun _ => true } (defBody st) = true
/-- one def of the top -/
structure DefI (K : PySem.W.Frag) (mg : Str → Option Value) (T : Tb) (k : Ck) (x : Str) : Prop where
  ex : ∃ (fa : Addr) (fd : FuncData) (ps N : List Str) (nm qual : Str) (st : Stmt) (d : Df), mg x = some (.ref fa) ∧ Binds K fd ps [] ∧ Fun K nm qual st fa fd ∧ FnScope N ps (defScope st) ∧ T.df x = some d ∧ d.n = ps.length ∧ d.slots = N.length ∧
    (ckS d.body).blk { k with N := N, sc := defScope st, cm := true, fl := fun _ => true } (defBody st) = true
/-- one class of the top, with its __init__ -/
structure ClsI (K : PySem.W.Frag) (mg : Str → Option Value) (c : Ct) (T : Tb) (k : Ck) (x : Str) : Prop where
  ex : ∃ (Ca fI : Addr) (m : Nat), mg x = some (.ref Ca) ∧ c.CA x = some Ca ∧ Mk K Ca fI ∧ T.df x = none ∧ T.cls x = true ∧ DefB K T k (x ++ ".__init__") fI (m + 1)
theorem DefI.b {K : PySem.W.Frag} {mg : Str → Option Value} {T : Tb} {k : Ck} {x : Str} (d : DefI K mg T k x) : ∃ fa m, mg x = some (.ref fa) ∧ DefB K T k x fa m := by
  obtain ⟨fa, fd, ps, N, nm, qual, st, d, h1, h2, h3, h4, h5, h6, h7, h8⟩ := d.ex
  exact ⟨fa, ps.length, h1, fd, ps, N, nm, qual, st, d, rfl, h2, h3, h4, h5, h6, h7, h8⟩
/-- what the top has written, and what the interpreter takes for it -/
structure Wd (w : World) (K : PySem.W.Frag) (mg : Str → Option Value) (c : Ct) (T : Tb) (k : Ck) : Prop where
  kK : c.K = K
  kw : c.w = w
  xs : ∀ a x, ¬ c.XS a x
  glb : ∀ x v, T.glb x = some v → ∃ V u, mg x = some u ∧ RelV V u ∧ ∀ H μ, RV c H μ V v
  gdc : ∀ x tab, T.gd x = some tab → ∃ p, mg x = some (.ref p) ∧ ∀ z v, tab.lookup z = some v → ∃ V, KDct K w p z V ∧ ∀ H μ, RV c H μ V v
  blt : ∀ x, k.B x = true → mg x = none
  ex : ∀ x, k.X x = true → ∃ Ca, c.CA x = some Ca ∧ ∀ X : Cx, X.K = K → X.mg = mg → ClsOk X x Ca
  im : ∀ x, k.I x = true → ∃ Ca, c.CA x = some Ca ∧ mg x = some (.ref Ca)
  isa : ∀ x y b, T.isA x y = some b → ∃ Cx Cy, c.CA x = some Cx ∧ c.CA y = some Cy ∧ PySem.W.exmOne K (.ref Cx) (.ref Cy) = some b ∧ PySem.W.kitOne K (.ref Cx) (.ref Cy) = some b ∧ ExcC K Cx
  isv : ∀ x, T.isV x = true → ∃ Cx, c.CA x = some Cx ∧ PySem.W.kitOne K (.ref Cx) (.type "ValueError") = some true ∧ ExcC K Cx
  df : ∀ f, k.D f = true → DefI K mg T k f ∨ ClsI K mg c T k f
  mt : ∀ C m, k.M C m = true → ∃ Ca fa n, c.CA C = some Ca ∧ Cls K Ca ∧ Meth K Ca m fa ∧ DefB K T k (C ++ "." ++ m) fa n
  fd : ∀ C f, k.F C f = true → ∃ Ca, c.CA C = some Ca ∧ Cls K Ca ∧ NoAttr K Ca f
/-- what can be called, at a depth -/
structure CallOk (P : Program) (w : World) (K : PySem.W.Frag) (mg : Str → Option Value) (base : Heap) (c : Ct) (R : Rec) (n : Nat) (f : Str) (fa : Addr) (m : Nat) : Prop where
  ar : ∀ tr as h, R tr f as h ≠ none → as.length = m
  how : (∃ fd ps, ps.length = m ∧ Binds K fd ps [] ∧ FnG P w K mg base (L2.CX P w) n fa fd ps (spF c R f ps.length)) ∨
    (∃ n' fI fd ps R', n = n' + 1 ∧ ps.length = m + 1 ∧ Binds K fd ps [] ∧ FnG P w K mg base (L2.CX P w) n' fI fd ps (spF c R' (f ++ ".__init__") ps.length) ∧ Mk K fa fI ∧ c.CA f = some fa ∧ ∀ tr as, R tr f as = newC R' f as) ∨ ∀ tr as h, R tr f as h = none
structure Recs (P : Program) (w : World) (K : PySem.W.Frag) (mg : Str → Option Value) (base : Heap) (c : Ct) (k : Ck) (R : Rec) (n : Nat) : Prop where
  df : ∀ f, k.D f = true → ∃ fa m, mg f = some (.ref fa) ∧ PySem.W.keepIn K (.ref fa) = true ∧ CallOk P w K mg base c R n f fa m
  mt : ∀ C m, k.M C m = true → ∃ Ca fa q, c.CA C = some Ca ∧ Cls K Ca ∧ Meth K Ca m fa ∧ CallOk P w K mg base c R n (C ++ "." ++ m) fa q
theorem RE.start {c : Ct} {H : Hp} {μ : Mu} {vs : List V} {as : List AV} {N : List Str} {n m : Nat} (r : RVs c H μ vs as) (hn : as.length = n) (hm : m = N.length) : RE c H μ (L2.start N vs) (as.map some ++ List.replicate (m - n) none) := by
  subst hm
  unfold L2.start
  refine ⟨by simp [r.length, hn], fun i v e => ?_⟩
  by_cases hi : i < as.length
  · rw [List.getElem?_append_left (by simpa using hi), List.getElem?_map] at e
    cases e1 : as[i]? with
    | none => rw [e1] at e; cases e
    | some a =>
      rw [e1] at e
      cases e
      obtain ⟨u, h1, h2⟩ := r.get e1
      refine ⟨u, ?_, h2⟩
      rw [List.getElem?_append_left (by simp [r.length]; exact hi), List.getElem?_map, h1]
      rfl
  · rw [List.getElem?_append_right (by simpa using hi), List.getElem?_replicate] at e
    split at e <;> cases e
def onO {α : Type} (Q : α → AH → Prop) (E : Ex → AH → Prop) : Option (Out α) → Prop
  | some (.ok a h) => Q a h
  | some (.exc x h) => E x h
  | none => False
theorem wp_onO {α : Type} {m : M α} {Q : α → AH → Prop} {E : Ex → AH → Prop} {h : AH} : wp m Q E h ↔ onO Q E (m h) := by
  unfold wp
  cases m h with
  | none => exact Iff.rfl
  | some o => cases o <;> exact Iff.rfl
theorem runs_of {CX0 : CXT} {P : Program} {w : World} {K : PySem.W.Frag} {mg : Str → Option Value} {base : Heap} {N : List Str} {qual : Str} {sc : Scope} {fa : Addr} {cdv : Value} {A : Around} {outer : List Env} {s : Shared} {H : Hp} {E : XK} {X : Cx} {A' : Around} (hX : cxOf CX0 P w K mg base N qual sc fa cdv A outer s H E = X) (hA : X.A = A')
    {c : Ct} {R : Rec} {n m : Nat} {f : Str} {ga : Addr} (rm : Room n A')
    (h : (∃ fd ps, ps.length = m ∧ Binds K fd ps [] ∧ FnG P w K mg base (L2.CX P w) n ga fd ps (spF c R f ps.length)) ∨
    (∃ n' fI fd ps R', n = n' + 1 ∧ ps.length = m + 1 ∧ Binds K fd ps [] ∧ FnG P w K mg base (L2.CX P w) n' fI fd ps (spF c R' (f ++ ".__init__") ps.length) ∧ Mk K ga fI ∧ c.CA f = some ga ∧ ∀ tr as, R tr f as = newC R' f as) ∨ ∀ tr as h, R tr f as h = none) :
    RunD X c R true f ga m ∨ RunC X c R true f ga m ∨ ∀ tr as h, R tr f as h = none := by
  rcases h with ⟨fd, ps, h1, h2, h3⟩ | ⟨n', fI, fd, ps, R', h0, h1, h2, h3, h4, h5, h6⟩ | z
  · refine .inl ⟨n, fd, ps, h1, ?_, ?_, fun _ => by rw [hA]; exact rm⟩
    · rw [← hX]; exact h2
    · rw [← hX]; exact h3
  · refine .inr (.inl ⟨n', fI, fd, ps, R', h1, ?_, ?_, fun _ => by rw [hA, ← h0]; exact rm, ?_, h5, h6⟩)
    · rw [← hX]; exact h2
    · rw [← hX]; exact h3
    · rw [← hX]; exact h4
  · exact .inr (.inr z)
theorem fnG_of {P : Program} {w : World} {K : PySem.W.Frag} {mg : Str → Option Value} {base : Heap} {c : Ct} {T : Tb} {k : Ck} {R : Rec} {n : Nat} {x : Str} (Wk : Wd w K mg c T k)
    (rec : Recs P w K mg base c k R n)
    {fa : Addr} {fd : FuncData} {ps N : List Str} {nm qual : Str} {st : Stmt} {d : Df} (F : Fun K nm qual st fa fd) (S : FnScope N ps (defScope st)) (e1 : d.n = ps.length) (e2 : d.slots = N.length)
    (chk : (ckS d.body).blk { k with N := N, sc := defScope st, cm := true, fl := fun _ => true } (defBody st) = true) {R' : Rec} (hR : ∀ tr as, R' tr x as = runD T R tr d as) :
    FnG P w K mg base (L2.CX P w) (n + 1) fa fd ps (spF c R' x ps.length) := by
  refine ⟨fun vs H Q E h => h.1, fun A outer s H args us vs Q E hr hg e0 hb r hsp => ?_⟩
  obtain ⟨hl, tr, h, μ, as, rh, ra, w0⟩ := hsp
  obtain ⟨oc, od, kV, doc, pm, an, cdv, ct, osl, rfl, lk, hcd⟩ := F.ex
  have inK : K.In s.heap := e0.mod.kin.keeps fun b o e => (e0.bs b o e).1
  have free : s.heap.NoLimit := e0.mod.nolimit.keeps fun b o e => (e0.bs b o e).1
  have kinds : ∀ y ∈ ps.zip us, (defScope st).names.lookup y.1 = some .local ∨ ((defScope st).names.lookup y.1 = some .cell ∧ ((cellsFrom (s.heap.objs.size + 1) (defScope st).names []).lookup y.1).isSome = true) := fun ⟨m, v⟩ hy =>
    (S.par m (List.of_mem_zip hy).1).imp id fun q => ⟨q, PySem.W.cellsFrom_some _ _ _ (.inl q)⟩
  refine codeAny_call_function hr.depth (inK _ _ lk) rfl S.co S.gen rfl (PySem.W.codeRec_of inK hcd) (hb _ _ _ _ (wpAny_newFunctionEnv_cells S.kind kinds fun env he s1 new => ?_))
  subst he
  refine ⟨free.keeps new.toInCall.keep, codeAny_func ?_⟩
  have I := inv_start (CX := L2.CX P w) (K := K) (mg := mg) (base := base) (E := E) S hr.hd e0 hl r new
  generalize hX : cxOf (L2.CX P w) P w K mg base N qual (defScope st) fa cdv A outer s H E = X at I
  have hA : X.A = A.deeper (envOfC qual (defScope st) s.heap.objs.size fa cdv) := by rw [← hX]; rfl
  have rm := hr.deeper (envOfC qual (defScope st) s.heap.objs.size fa cdv)
  have G : Gd X c T R { k with N := N, sc := defScope st, cm := true, fl := fun _ => true } := {
    K := by rw [← hX]; exact Wk.kK
    w := by rw [← hX]; exact Wk.kw
    nd := by rw [← hX]; exact S.nd
    N := by rw [← hX]; rfl
    sc := by rw [← hX]; rfl
    cm := fun _ => by rw [← hX]; rfl
    fl := fun _ _ => by rw [← hX]; rfl
    un := by rw [hA]; have := rm.un; omega
    gd := by rw [hA]; exact hg
    glb := by rw [← hX]; exact Wk.glb
    gdc := by rw [← hX]; exact Wk.gdc
    blt := by rw [← hX]; exact Wk.blt
    ex := fun y hy => by
      obtain ⟨Ca, h1, h2⟩ := Wk.ex y hy
      exact ⟨Ca, h1, h2 X (by rw [← hX]; rfl) (by rw [← hX]; rfl)⟩
    im := by rw [← hX]; exact Wk.im
    isa := by rw [← hX]; exact Wk.isa
    isv := by rw [← hX]; exact Wk.isv
    xs := fun a y z => absurd z (Wk.xs a y)
    df := fun f hf => by
      obtain ⟨ga, m, g1, g2, g3, g4⟩ := rec.df f hf
      refine ⟨ga, m, by rw [← hX]; exact g1, by rw [← hX]; exact g2, g3, ?_⟩
      exact runs_of hX hA rm g4
    mt := fun C m hm => by
      obtain ⟨Ca, ga, q, g1, g2, g3, g4, g5⟩ := rec.mt C m hm
      refine ⟨Ca, ga, q, g1, by rw [← hX]; exact g2, by rw [← hX]; exact g3, g4, ?_⟩
      exact runs_of hX hA rm g5
    fd := by rw [← hX]; exact Wk.fd }
  have Gx : Gs X c T R { k with N := N, sc := defScope st, cm := true, fl := fun _ => true } := ⟨G, by rw [← hX]; rfl, by rw [← hX]; rfl, fun _ => by rw [← hX]; exact L2.passes_of rfl, by rw [← hX]; exact S.kind⟩
  have tk : Takes X (fun cls d _ H => E cls d H) := by rw [← hX]; exact L2.takes_of rfl rfl rfl rfl
  have run := (sndS (T := T) (R := R) d.body).pb Gx tk chk
  have w0 : wp (runD T R tr d as) (okP c H μ Q) (exP c H μ E) h := by rw [← hR]; exact w0
  have env : codeAny (model P w) (A.deeper (envOfC qual (defScope st) s.heap.objs.size fa cdv)) (.call (.ref fa) args) (CR (L2.CX P w) outer P w H s Q E) s → True := fun _ => trivial
  clear env
  have go : SS c (fun cls d _ H => E cls d H) (evS T R d.body) { nx := fun _ H' => Q .non H', rt := Q } (L2.start N vs) H := by
    rw [wp_onO] at w0
    unfold runD at w0
    by_cases en : as.length = d.n
    · rw [if_pos en] at w0
      refine ⟨_, h, μ, RE.start ra en e2, rh, ?_⟩
      unfold wpS
      cases ev : evS T R d.body (as.map some ++ List.replicate (d.slots - d.n) none) h with
      | none => rw [ev] at w0; exact w0
      | some q =>
        rw [ev] at w0
        obtain ⟨f, ρ', h'⟩ := q
        have back : ∀ {v : AV}, onO (okP c H μ Q) (exP c H μ E) (fin tr h v h') → ∀ H' μ', Ext H μ H' μ' → RH c H' h' μ' → ∀ V, RV c H' μ' V v → Q V H' := fun {v} z H' μ' x r V rv => by
          obtain ⟨v2, h2, ef⟩ := fin_noexc (tr := tr) (h := h) (v := v) (h' := h')
          rw [ef] at z
          obtain ⟨μ2, x2, r2, rv2⟩ := fin_ok x rh r rv ef
          exact z V H' μ2 x2 r2 rv2
        cases f with
        | nx => exact fun H' μ' x r σ' _ => back w0 H' μ' x r _ .non
        | rt v => exact fun H' μ' x r σ' _ V rv => back w0 H' μ' x r V rv
        | bk => exact w0.elim
        | ct => exact w0.elim
        | ex y =>
          intro H' μ' x r σ' _ cls dd rx
          obtain ⟨h2, ef⟩ := finX_exc (h := h) (y := y) (h' := h')
          obtain ⟨_, μ2, x2, r2⟩ := finX_ok x rh r ef
          have w0 : onO (okP c H μ Q) (exP c H μ E) (finX h y h') := w0
          rw [ef] at w0
          exact w0 H' μ2 x2 r2 cls dd rx
    · rw [if_neg en] at w0
      exact w0.elim
  have fin := run.run [] s1 (L2.start N vs) H _ I go
  have ends : ∀ {σ' : L2.St} {H' : Hp} {v : V} {u : Value} {s' : Shared}, Inv X [] σ' H' s' → RelV v u → Q v H' → CE outer P w H s Q u s' := fun {σ' H' v u s'} J rv q => by
    subst hX
    exact ⟨v, H', J.os, J.bare, J.base, J.hok, rv, q⟩
  have xe : X.xe = fun e s' => wpAny (model P w) (A.deeper (envOfC qual (defScope st) s.heap.objs.size fa cdv)) (leaving (envOfC qual (defScope st) s.heap.objs.size fa cdv) e) (fun _ s'' => L2.CX P w outer H s E e s'') (fun e' s'' => L2.CX P w outer H s E e' s'') s' := by
    rw [← hX]; rfl
  have pw : X.prog = P ∧ X.w = w ∧ X.env = envOfC qual (defScope st) s.heap.objs.size fa cdv := by rw [← hX]; exact ⟨rfl, rfl, rfl⟩
  rw [pw.1, pw.2.1, pw.2.2, hA, xe] at fin
  refine wpAny_mono fin (fun fl s' z => ?_) fun e s' z => z
  cases fl with
  | ret u =>
    obtain ⟨v, σ', H', J, rv, q⟩ := z
    exact ends J rv q
  | next =>
    obtain ⟨σ', H', J, q⟩ := z
    exact ends (v := V.non) (u := Value.none) J rfl q
  | brk => obtain ⟨_, _, _, q⟩ := z; exact q.elim
  | cont => obtain ⟨_, _, _, q⟩ := z; exact q.elim
/-- a def at a depth -/
def Lvl (P : Program) (w : World) (K : PySem.W.Frag) (mg : Str → Option Value) (base : Heap) (c : Ct) (T : Tb) (k : Ck) (n : Nat) : Prop := ∀ (x : Str) (fa : Addr) (m : Nat), DefB K T k x fa m →
  (∃ fd ps, ps.length = m ∧ Binds K fd ps [] ∧ FnG P w K mg base (L2.CX P w) n fa fd ps (spF c (callN T n) x ps.length)) ∧ ∀ tr as h, callN T n tr x as h ≠ none → as.length = m
theorem recs_of {P : Program} {w : World} {K : PySem.W.Frag} {mg : Str → Option Value} {base : Heap} {c : Ct} {T : Tb} {k : Ck} (Wk : Wd w K mg c T k) {n : Nat} (L : Lvl P w K mg base c T k n) (L0 : ∀ n', n = n' + 1 → Lvl P w K mg base c T k n') : Recs P w K mg base c k (callN T n) n where
  df := fun f hf => by
    rcases Wk.df f hf with d | d
    · obtain ⟨fa, fd, ps, N, nm, qual, st, d', h1, h2, h3, h4, h5, h6, h7, h8⟩ := d.ex
      obtain ⟨g1, g2⟩ := L f fa ps.length ⟨fd, ps, N, nm, qual, st, d', rfl, h2, h3, h4, h5, h6, h7, h8⟩
      exact ⟨fa, ps.length, h1, h3.kp, g2, .inl g1⟩
    · obtain ⟨Ca, fI, m, h1, h2, h3, h4, h5, h6⟩ := d.ex
      refine ⟨Ca, m, h1, h3.kp, ?_⟩
      cases n with
      | zero => exact ⟨fun tr as h z => absurd rfl z, .inr (.inr fun _ _ _ => rfl)⟩
      | succ n =>
        obtain ⟨⟨fd, ps, g1, g2, g3⟩, g4⟩ := L0 n rfl _ _ _ h6
        have eq : ∀ tr as, callN T (n + 1) tr f as = newC (callN T n) f as := fun tr as => by
          show (match T.df f with | some d => runD T (callN T n) tr d as | none => if T.cls f = true then newC (callN T n) f as else stuck) = _
          rw [h4]
          simp only
          rw [if_pos h5]
        refine ⟨fun tr as h z => ?_, .inr (.inl ⟨n, fI, fd, ps, callN T n, rfl, g1, g2, g3, h3, h2, eq⟩)⟩
        rw [eq] at z
        by_cases q : callN T n false (f ++ ".__init__") (.ref h.length :: as) (h ++ [.ins f []]) = none
        · exfalso
          apply z
          have e0 : newC (callN T n) f as h = bnd (callN T n false (f ++ ".__init__") (AV.ref h.length :: as)) (fun z => match z with | .non => ret (AV.ref h.length) | _ => (stuck : M AV)) (h ++ [.ins f []]) := rfl
          rw [e0]
          unfold bnd
          rw [q]
        · have := g4 _ _ _ q
          rw [List.length_cons] at this
          omega
  mt := fun C m hm => by
    obtain ⟨Ca, fa, q, h1, h2, h3, h4⟩ := Wk.mt C m hm
    obtain ⟨g1, g2⟩ := L _ _ _ h4
    exact ⟨Ca, fa, q, h1, h2, h3, g2, .inl g1⟩
theorem lvl {P : Program} {w : World} {K : PySem.W.Frag} {mg : Str → Option Value} {base : Heap} {c : Ct} {T : Tb} {k : Ck} (Wk : Wd w K mg c T k) (n : Nat) : Lvl P w K mg base c T k n ∧ ∀ n', n = n' + 1 → Lvl P w K mg base c T k n' := by
  induction n with
  | zero =>
    refine ⟨fun x fa m d => ?_, fun n' z => by cases z⟩
    obtain ⟨fd, ps, N, nm, qual, st, d', hm, h2, h3, h4, h5, h6, h7, h8⟩ := d.ex
    refine ⟨⟨fd, ps, hm, h2, ⟨fun vs H Q E h => h.1, fun A outer s H args us vs Q E _ _ _ _ _ z => ?_⟩⟩, fun tr as h z => absurd rfl z⟩
    obtain ⟨_, _, _, _, _, _, _, z⟩ := z
    exact z.elim
  | succ n ih =>
    refine ⟨fun x fa m d => ?_, fun n' z => by cases z; exact ih.1⟩
    have prev := recs_of (P := P) (w := w) (base := base) Wk ih.1 ih.2
    obtain ⟨fd, ps, N, nm, qual, st, d', hm, h2, h3, h4, h5, h6, h7, h8⟩ := d.ex
    have e : ∀ tr as, callN T (n + 1) tr x as = runD T (callN T n) tr d' as := fun tr as => by
      show (match T.df x with | some d => runD T (callN T n) tr d as | none => _) = _
      rw [h5]
    refine ⟨⟨fd, ps, hm, h2, fnG_of Wk prev h3 h4 h6 h7 h8 e⟩, fun tr as h z => ?_⟩
    rw [e] at z
    unfold runD at z
    split at z
    · rename_i q
      rw [q, h6, hm]
    · exact absurd rfl z
/-- every def, at every depth -/
theorem fns {P : Program} {w : World} {K : PySem.W.Frag} {mg : Str → Option Value} {base : Heap} {c : Ct} {T : Tb} {k : Ck} (Wk : Wd w K mg c T k) (n : Nat) : Recs P w K mg base c k (callN T n) n := recs_of Wk (lvl Wk n).1 (lvl Wk n).2
end Z

set_option Elab.async false
set_option linter.all false
set_option maxRecDepth 100000
set_option autoImplicit false
set_option maxHeartbeats 1000000
/-! ZP: the law's own call. -/
namespace Z
open PySem PySem.Spec PyProof.Rows L2

/-- the script, tracked as an object that stays as it is (unless it is one of the module's own) -/
def scriptH (K : PySem.W.Frag) (a : Addr) (vs : List Value) (ns : List Int) : Hp := fun b =>
  if b = a ∧ K.lookup a = none then some (.frz { cls := .type "list", data := .seq vs.toArray } (.lst (ns.map V.int))) else none
theorem scriptH_some {K : PySem.W.Frag} {a b : Addr} {vs : List Value} {ns : List Int} {u : HO} (e : scriptH K a vs ns b = some u) : b = a ∧ K.lookup a = none ∧ u = .frz { cls := .type "list", data := .seq vs.toArray } (.lst (ns.map V.int)) := by
  unfold scriptH at e
  split at e
  · rename_i q
    cases e
    exact ⟨q.1, q.2, rfl⟩
  · cases e
theorem ints_rvs {c : Ct} {H : Hp} {μ : Mu} : ∀ ns : List Int, RVs c H μ (ns.map V.int) (ns.map AV.int)
  | [] => .nil
  | n :: ns => .cons (.int n) (ints_rvs ns)
theorem law_goes {P : Program} {w : World} {K : PySem.W.Frag} {mg mb : Str → Option Value} {k : Nat} {fa a : Addr} {fd : FuncData} {x : Str} {sp : Sp} {s1 : Shared} {vs : List Value} {ns : List Int}
    (inK : K.In s1.heap) (glob : s1.heap.Ns mainGlobals mg) (blt : s1.heap.Ns builtinsNs mb) (boot : ∀ y : Str, y ≠ "__name__" → mb y = bootBuiltins y) (lim : s1.heap.NoLimit) (gens : s1.gens = #[])
    (at_ : s1.heap.get? a = some { cls := .type "list", data := .seq vs.toArray }) (are : IntsAre vs ns) (small : ns.length ≤ sizeLine) (room : Room k callerA)
    (F : ∀ base : Heap, K.In base → base.Ns mainGlobals mg → FnG P w K mg base (L2.CX P w) k fa fd [x] sp) (binds : BindsTo s1 fd ⟨[.ref a], []⟩ [(x, .ref a)])
    (told : ∀ H : Hp, (K.lookup a = none → ∃ o, H a = some (.frz o (.lst (ns.map V.int)))) → (K.lookup a ≠ none → SqLK K a (ns.map V.int)) → sp [.ref a] H (fun v _ => v = .bl true) fun _ _ _ => False) :
    codeAny (model P w) callerA (.call (.ref fa) ⟨[.ref a], []⟩) (fun r s' => r = .ok (.ret (.bool true)) ∧ OldK s1.heap s'.heap ∧ s'.os = s1.os ∧ AllBare s'.gens) s1 := by
  have rv := vals_ints are
  have lenV := are.length
  generalize hH : scriptH K a vs ns = H
  have only : ∀ {b : Addr} {u : HO}, H b = some u → b = a ∧ K.lookup a = none ∧ u = .frz { cls := .type "list", data := .seq vs.toArray } (.lst (ns.map V.int)) := fun {b u} e => scriptH_some (by rw [hH]; exact e)
  have none_of : ∀ {b : Addr}, (∀ u, H b ≠ some u) → H b = none := fun {b} z => by
    cases e : H b with
    | none => rfl
    | some u => exact absurd e (z u)
  have hok : HOk P w H s1.heap := fun b u e => by
    obtain ⟨rfl, _, rfl⟩ := only e
    exact ⟨at_, by rw [List.length_map]; exact small, vs, _, rv, at_⟩
  have bs_dict : ∀ {b : Addr} {o : Obj} {es : Array DictEntry} {ep : Nat}, s1.heap.get? b = some o → o.data = .dict es ep → H b = none := fun {b o es ep} e d => none_of fun u z => by
    obtain ⟨rfl, _, _⟩ := only z
    rw [at_] at e
    cases e
    cases (show Data.seq vs.toArray _ = Data.dict es ep from d)
  have ns_of : ∀ {b : Addr} {m : Str → Option Value}, s1.heap.Ns b m → (hidT s1.heap H).Ns b m := fun {b m} ⟨o, es, ep, e, d, r⟩ => ⟨o, es, ep, hidT_get e (bs_dict e d), d, r⟩
  have inB : K.In (hidT s1.heap H) := fun b o e => hidT_get (inK b o e) (none_of fun u z => by
    obtain ⟨rfl, q, _⟩ := only z
    rw [q] at e
    cases e)
  have md : Mod K mg (hidT s1.heap H) := ⟨inB, ns_of glob, ⟨mb, ns_of blt, boot⟩, by obtain ⟨m, h1, h2⟩ := lim; exact ⟨m, ns_of h1, h2⟩⟩
  have nil_in : ∀ {α : Type} {p : α}, p ∉ ([] : List α) := fun {α p} z => by cases z
  have e0 : Env0 P w K mg (hidT s1.heap H) callerA [] s1 H := ⟨rfl, md, fun b o e => of_hidT e, Nat.le_of_eq (hidT_size _ _), trivial, fun b z => absurd z nil_in, hok, .of_eq gens⟩
  have sure := told H (fun z => ⟨{ cls := .type "list", data := .seq vs.toArray }, by rw [← hH]; exact if_pos ⟨rfl, z⟩⟩) fun z => by
    cases e : K.lookup a with
    | none => exact absurd e z
    | some o =>
      have q := inK a o e
      rw [at_] at q
      cases q
      exact ⟨_, vs.toArray, _, e, rfl, rfl, rfl, by rw [List.size_toArray, lenV]; exact small, by simpa using rv⟩
  refine codeAny_mono ((F _ inB (ns_of glob)).go callerA [] s1 H ⟨[.ref a], []⟩ [.ref a] [.ref a] _ _ room rfl e0 binds (.cons rfl .nil) sure) fun r s' z => ?_
  match r, z with
  | .error e, z =>
    obtain ⟨_, _, _, _, _, _, _, _, _, _, _, _, z⟩ := z
    exact z.elim
  | .ok .next, z => exact z.elim
  | .ok .brk, z => exact z.elim
  | .ok .cont, z => exact z.elim
  | .ok (.ret u), ⟨v, H', os, bare, un, hok', r', q⟩ =>
    have q : v = .bl true := q
    subst q
    have r' : u = Value.bool true := r'
    subst r'
    refine ⟨rfl, OldK.of_keep fun b o e => ?_, os, bare⟩
    cases z : H b with
    | none => exact un.keep b o e z nil_in nil_in
    | some u =>
      obtain ⟨rfl, _, rfl⟩ := only z
      obtain ⟨g, _⟩ := hok' b _ (un.frzs b _ _ z)
      rw [at_] at e
      cases e
      exact g
/-- the goal that the head leaves, from what the interpreter tells of the law -/
theorem walk_goes {l : PySem.W.OpenLaw} {n k : Nat} {q : Program} {loose : List Str} {XP : (Str → Option Value) → Heap → Prop} {YP : World → Heap → Prop} {d : DefRec} {K : Params → PySem.W.Frag} (T : Tb) (ck : Ck)
    (most : l.most = some n) (small : n ≤ sizeLine) (nodf : d.params.defaults = []) (hk : k ≤ 200) (law : ck.D d.name = true) (one : ∃ dl, T.df d.name = some dl ∧ dl.n = 1)
    (hY : ∀ (w : World) (h : Heap), YP w h → (K w.params).In h)
    (W : ∀ (w : World) (mg : Str → Option Value) (h : Heap), (K w.params).In h → h.Ns mainGlobals mg → ∃ c, Wd w (K w.params) mg c T ck)
    (tells : ∀ ns : List Int, ns.length ≤ n → ∃ h, callN T (k + 1) false d.name [.ext (ns.map AV.int)] [] = some (.ok (.bl true) h)) :
    PySem.W.WalkO q loose XP YP l.row.toRowW d [] (fun f vs => PySem.call f vs) := by
  refine Att.attach_call most nodf fun w s0 s1 mg mb fa o pm cd doc a vs ns G Y ho hd hcd hmg hobj hints hlen hg => ?_
  have inK := hY w _ Y
  obtain ⟨c, Wk⟩ := W w mg _ inK G.T.g
  obtain ⟨dl0, one0, one1⟩ := one
  have dfi : DefI (K w.params) mg T ck d.name := by
    rcases Wk.df _ law with z | z
    · exact z
    · obtain ⟨_, _, _, _, _, _, z, _⟩ := z.ex
      rw [one0] at z
      cases z
  obtain ⟨fa', fd, ps, N, nm, qual, st, dl, h1, h2, h3, h4, h5, h6, h7, h8⟩ := dfi.ex
  rw [hmg] at h1
  cases h1
  have h1' : dl.n = 1 := by rw [one0] at h5; cases h5; exact one1
  obtain ⟨y, rfl⟩ : ∃ y, ps = [y] := by
    match ps, h6 with
    | [y], _ => exact ⟨y, rfl⟩
    | [], z => rw [h1'] at z; cases z
    | _ :: _ :: _, z => rw [h1'] at z; simp at z
  have m1 : claimMargin = 300 := by decide
  have m2 : recursionLimit = 1000 := by decide
  have m3 : 5000 < cLine := by decide
  have room : Room (k + 1) callerA := by
    refine ⟨rfl, ?_, ?_⟩
    · show 1 + claimMargin + 3 * (k + 1) + 5 < recursionLimit
      omega
    · show 4 + 16 * (k + 1) + 200 < cLine
      omega
  have e : ∀ tr as, callN T (k + 1) tr d.name as = runD T (callN T k) tr dl as := fun tr as => by
    show (match T.df d.name with | some d => runD T (callN T k) tr d as | none => _) = _
    rw [h5]
  have bind := h2 s1 [.ref a] inK (by rfl)
  have sz : ns.length ≤ sizeLine := Nat.le_trans hlen small
  refine law_goes (sp := spF c (callN T (k + 1)) d.name 1) inK G.T.g G.T.b G.T.builtins G.T.nolimit hg hobj hints sz room (fun base _ _ => fnG_of Wk (fns (P := l.row.toRowW.prog) (w := w) (base := base) Wk k) h3 h4 h6 h7 h8 e) bind fun H r1 r2 => ?_
  obtain ⟨h', ok⟩ := tells ns hlen
  refine ⟨rfl, false, [], ⟨[], []⟩, [.ext (ns.map AV.int)], ⟨rfl, List.nodup_nil, fun n o z => (by simp at z), fun a z => (by cases z)⟩, .cons ?_ .nil, ?_⟩
  · have hz : (ns.map V.int).length ≤ sizeLine := by rw [List.length_map]; exact sz
    cases z : (K w.params).lookup a with
    | none =>
      obtain ⟨o, r⟩ := r1 z
      exact .ext r (fun m => by rcases m with m | m <;> cases m) hz (ints_rvs ns)
    | some o =>
      have r := r2 (by rw [z]; exact fun z => nomatch z)
      rw [← Wk.kK] at r
      exact .extK r hz (ints_rvs ns)
  · rw [wp_onO, ok]
    intro V H' μ' _ _ rv
    cases rv
    rfl
end Z

set_option Elab.async false
set_option linter.all false
set_option maxRecDepth 100000
set_option autoImplicit false
/-! ZQ: the tables of a text. -/
namespace Z
open PySem PySem.Spec PyProof.Rows L2
inductive AllP {α : Type} (P : α → Prop) : List α → Prop
  | nil : AllP P []
  | cons {x : α} {l : List α} : P x → AllP P l → AllP P (x :: l)
theorem AllP.mem {α : Type} {P : α → Prop} : ∀ {l : List α}, AllP P l → ∀ x, x ∈ l → P x
  | _, .cons h t, x, m => by
    rcases List.mem_cons.mp m with e | m
    · rw [e]; exact h
    · exact t.mem x m
theorem AllP.of {P : Str → Prop} {l : List Str} (h : AllP P l) : ∀ x, decide (x ∈ l) = true → P x := fun x m => h.mem x (of_decide_eq_true m)
theorem isTab_of {P : Str → Str → Bool → Prop} {l : List (Str × Str × Bool)} (h : AllP (fun t => P t.1 t.2.1 t.2.2) l) : ∀ x y b, ((l.find? fun t => decide (t.1 = x) && decide (t.2.1 = y)).map fun t => t.2.2) = some b → P x y b := fun x y b e => by
  simp only [Option.map_eq_some_iff] at e
  obtain ⟨t, e, rfl⟩ := e
  have m := List.mem_of_find?_eq_some e
  have q := List.find?_some e
  simp only [Bool.and_eq_true, decide_eq_true_eq] at q
  obtain ⟨rfl, rfl⟩ := q
  exact h.mem t m
theorem kit_self {K : PySem.W.Frag} {C : Addr} : PySem.W.kitOne K (.ref C) (.ref C) = some true := by
  unfold PySem.W.kitOne
  rw [if_pos (by simp)]
theorem gsel_of {P : Str → AV → Prop} {l : List (Str × AV)} (h : AllP (fun t => P t.1 t.2) l) : ∀ x v, l.lookup x = some v → P x v := by
  induction h with
  | nil => intro x v e; cases e
  | @cons p l h _ ih =>
    intro x v e
    obtain ⟨a, b⟩ := p
    rw [List.lookup_cons] at e
    cases q : (x == a) with
    | true =>
      rw [q] at e
      cases e
      rw [beq_iff_eq] at q
      rw [q]; exact h
    | false =>
      rw [q] at e
      exact ih x v e
/-- an exception class that stands on ValueError -/
theorem clsOk {K : PySem.W.Frag} {mg : Str → Option Value} {x : Str} {C : Addr} (Y : Cx) (e1 : Y.K = K) (e2 : Y.mg = mg) (hm : mg x = some (.ref C)) (xk : PySem.W.keepIn K (.ref C) = true)
    (xe : PySem.W.excIn K C [.type "ValueError", .type "Exception", .type "BaseException", .type "object"] "ValueError.__new__" = true) (xs : PySem.W.subIn K (.ref C) (.type "BaseException") = some true) (xt : PySem.W.typeIn K (.ref C) = some (.type "type"))
    (xg : PySem.W.findIn K (.ref C) "__getattribute__" = some (some (.builtin "BaseException.__getattribute__"))) (xh : PySem.W.findIn K (.ref C) "__getattr__" = some none) (xd : PySem.W.hasDictIn K C = true) (xc : PySem.W.findIn K (.ref C) "__class__" = some (some (.builtin "object.__class__")))
    (sn : PySem.W.specialIn K (.builtin "object.__class__") "__get__" = some (some (.builtin "getset_descriptor.__get__"))) (st : PySem.W.takesIn K (.builtin "object.__class__") = some true) (xm : PySem.W.mroIn K C (.type "object") = some true) : ClsOk Y x C := by
  subst e1 e2
  exact ⟨hm, xk, raises_own xs xt, ⟨_, _, _, _, PySem.F.excBase_ValueError, xe⟩, ⟨xg, xh, xs, xd, xc, sn, st, xm⟩⟩
/-- a tuple of words of the written part -/
theorem tupK_strs (ws : List Str) {c : Ct} {a : Addr} {xs : List (Str × Tok)} {n : Nat} {sl : Array (Option Value)} (hw : xs.map (·.1) = ws) (h : c.K.lookup a = some ⟨.type "tuple", none, .seq (xs.map fun p => .str p.1 p.2).toArray n, sl⟩) (ok : (ws.all fun p => PyData.strOk p && decide (p.length ≤ sizeLine)) = true) (few : ws.length ≤ sizeLine) : ∃ V u, some (Value.ref a) = some u ∧ RelV V u ∧ ∀ H μ, RV c H μ V (.tup (ws.map fun p => .str p)) := by
  subst hw
  rw [List.length_map] at few
  refine ⟨.ref a, .ref a, rfl, rfl, fun H μ => .tupK (vs := xs.map fun p => .str p.1) ⟨_, _, _, h, rfl, rfl, by simpa using few, ?_, rfl⟩ (by simpa using few) ?_⟩
  · simp only [List.toList_toArray]
    clear h few
    induction xs with
    | nil => exact .nil
    | cons p t ih =>
      simp only [List.map_cons, List.all_cons, Bool.and_eq_true] at ok
      exact .cons ⟨_, rfl⟩ (ih ok.2)
  · clear h few
    induction xs with
    | nil => exact .nil
    | cons p t ih =>
      simp only [List.map_cons, List.all_cons, Bool.and_eq_true, decide_eq_true_eq] at ok
      exact .cons (.str _ ok.1.1 ok.1.2) (ih ok.2)
theorem AllP.of2 {P : Str → Str → Prop} {l : List (Str × Str)} (h : AllP (fun t => P t.1 t.2) l) : ∀ x y, decide ((x, y) ∈ l) = true → P x y := fun x y m => h.mem (x, y) (of_decide_eq_true m)
/-- a tuple of ints of the written part -/
theorem tupK_ints {c : Ct} {a : Addr} {xs : List (Int × Tok)} {n : Nat} {sl : Array (Option Value)} (ws : List Int) (hw : xs.map (·.1) = ws) (h : c.K.lookup a = some ⟨.type "tuple", none, .seq (xs.map fun p => .int p.1 p.2).toArray n, sl⟩) (few : ws.length ≤ sizeLine) : ∃ V u, some (Value.ref a) = some u ∧ RelV V u ∧ ∀ H μ, RV c H μ V (.tup (ws.map fun p => .int p)) := by
  subst hw
  rw [List.length_map] at few
  refine ⟨.ref a, .ref a, rfl, rfl, fun H μ => .tupK (vs := xs.map fun p => .int p.1) ⟨_, _, _, h, rfl, rfl, by simpa using few, ?_, rfl⟩ (by simpa using few) ?_⟩
  · simp only [List.toList_toArray]
    clear h few
    induction xs with
    | nil => exact .nil
    | cons p t ih => exact .cons ⟨_, rfl⟩ ih
  · clear h few
    induction xs with
    | nil => exact .nil
    | cons p t ih => exact .cons (.int _) ih
end Z

set_option Elab.async false
set_option linter.all false
set_option maxRecDepth 100000
set_option autoImplicit false
set_option maxHeartbeats 1000000
/-! ZR: reckoning with the interpreter, backwards. -/
namespace Z
open PySem
/-- a value that must be there -/
def onS {α : Type} (o : Option α) (P : α → Prop) : Prop := match o with
  | some v => P v
  | none => False
@[simp] theorem onS_some {α : Type} {v : α} {P : α → Prop} : onS (some v) P = P v := (rfl)
@[simp] theorem onS_none {α : Type} {P : α → Prop} : onS none P = False := (rfl)
theorem onS_of {α : Type} {o : Option α} {v : α} {P : α → Prop} (e : o = some v) (p : P v) : onS o P := by rw [e]; exact p
/-! simp looks at what is run next, not at what comes behind it -/
theorem wp_cong {α : Type} {m m' : M α} {Q : α → AH → Prop} {X : Ex → AH → Prop} {h h' : AH} (e : m = m') (f : h = h') : wp m Q X h = wp m' Q X h' := by rw [e, f]
theorem wpS_cong {m m' : MS} {P : Fl → AEnv → AH → Prop} {h h' : AH} (e : m = m') (f : h = h') : wpS m P h = wpS m' P h' := by rw [e, f]
theorem onS_cong {α : Type} {o o' : Option α} {P : α → Prop} (e : o = o') : onS o P = onS o' P := by rw [e]
section
variable {T : Tb} {R : Rec} {ρ : AEnv} {h : AH} {X : Ex → AH → Prop}
theorem wp_lift' {α : Type} {f : AH → Option α} {Q : α → AH → Prop} : wp (lift f) Q X h = onS (f h) fun v => Q v h := by
  unfold wp lift onS
  cases f h <;> rfl
def tB (Q : Bool → AH → Prop) : AV → AH → Prop := fun v h => match v with
  | .bl b => Q b h
  | _ => False
@[simp] theorem tB_bl {Q : Bool → AH → Prop} {b : Bool} : tB Q (.bl b) h = Q b h := (rfl)
section
variable {Q : AV → AH → Prop}
@[simp] theorem w_var {i : Nat} : wp ((ev T R (.var i)).e ρ) Q X h = onS (ρ[i]?.getD none) fun v => Q v h := by
  show wp (look ρ i) Q X h = _
  unfold wp look onS
  cases ρ[i]? with
  | none => rfl
  | some o => cases o <;> rfl
@[simp] theorem w_non : wp ((ev T R .non).e ρ) Q X h = Q .non h := (rfl)
@[simp] theorem w_bl {b : Bool} : wp ((ev T R (.bl b)).e ρ) Q X h = Q (.bl b) h := (rfl)
@[simp] theorem w_int {b : Int} : wp ((ev T R (.int b)).e ρ) Q X h = Q (.int b) h := (rfl)
@[simp] theorem w_str {b : Str} : wp ((ev T R (.str b)).e ρ) Q X h = Q (.str b) h := (rfl)
@[simp] theorem w_glb {x : Str} : wp ((ev T R (.glb x)).e ρ) Q X h = onS (T.glb x) fun v => Q v h := by
  show wp (tbl1 T x) Q X h = _
  unfold wp tbl1 onS
  cases T.glb x <;> rfl
@[simp] theorem w_tup {es : E} : wp ((ev T R (.tup es)).e ρ) Q X h = wp ((ev T R es).a ρ) (fun vs h1 => vs.length ≤ big ∧ Q (.tup vs) h1) X h := by
  show wp (bnd _ _) Q X h = _
  rw [wp_bnd]
  congr 1
  funext vs h1
  by_cases z : vs.length ≤ big <;> simp [z, wp, ret, stuck]
@[simp] theorem w_lst {es : E} : wp ((ev T R (.lst es)).e ρ) Q X h = wp ((ev T R es).a ρ) (fun vs h1 => vs.length ≤ big ∧ Q (.lst vs) h1) X h := by
  show wp (bnd _ _) Q X h = _
  rw [wp_bnd]
  congr 1
  funext vs h1
  by_cases z : vs.length ≤ big <;> simp [z, wp, ret, stuck]
@[simp] theorem w_own {e : E} : wp ((ev T R (.own e)).e ρ) Q X h = wp ((ev T R e).e ρ) (fun v h1 => match v with | .lst xs => Q (.ref h1.length) (h1 ++ [.lst xs]) | _ => False) X h := by
  show wp (bnd _ _) Q X h = _
  rw [wp_bnd]
  congr 1
  funext v h1
  cases v <;> rfl
@[simp] theorem w_bin {o : BO} {a b : E} : wp ((ev T R (.bin o a b)).e ρ) Q X h = wp ((ev T R a).e ρ) (fun x h1 => wp ((ev T R b).e ρ) (fun y h2 => onS (binV h2 o x y) fun v => Q v h2) X h1) X h := by
  show wp (bnd _ _) Q X h = _
  simp only [wp_bnd, wp_lift']
@[simp] theorem w_neg {a : E} : wp ((ev T R (.neg a)).e ρ) Q X h = wp ((ev T R a).e ρ) (fun x h1 => match x with | .int i => Q (.int (-i)) h1 | _ => False) X h := by
  show wp (bnd _ _) Q X h = _
  rw [wp_bnd]
  congr 1
  funext v h1
  cases v <;> rfl
@[simp] theorem w_cmp {o : CO} {a b : E} : wp ((ev T R (.cmp o a b)).e ρ) Q X h = wp ((ev T R a).e ρ) (fun x h1 => wp ((ev T R b).e ρ) (fun y h2 => onS (cmpV h2 o x y) fun v => Q (.bl v) h2) X h1) X h := by
  show wp (bnd _ _) Q X h = _
  simp only [wp_bnd, wp_lift']
  congr 1
  funext x h1
  congr 1
  funext y h2
  cases cmpV h2 o x y <;> rfl
@[simp] theorem w_not {a : E} : wp ((ev T R (.not a)).e ρ) Q X h = wp ((ev T R a).e ρ) (fun x h1 => match x with | .bl b => Q (.bl (!b)) h1 | _ => False) X h := by
  show wp (bnd _ _) Q X h = _
  rw [wp_bnd]
  congr 1
  funext v h1
  cases v <;> rfl
@[simp] theorem w_ite {c a b : E} : wp ((ev T R (.ite c a b)).e ρ) Q X h = wp ((ev T R c).t ρ) (fun k h1 => if k = true then wp ((ev T R a).e ρ) Q X h1 else wp ((ev T R b).e ρ) Q X h1) X h := by
  show wp (bnd _ _) Q X h = _
  rw [wp_bnd]
  congr 1
  funext k h1
  cases k <;> rfl
@[simp] theorem w_idx {a b : E} : wp ((ev T R (.idx a b)).e ρ) Q X h = wp ((ev T R a).e ρ) (fun x h1 => wp ((ev T R b).e ρ) (fun y h2 => onS (ixV h2 x y) fun v => Q v h2) X h1) X h := by
  show wp (bnd _ _) Q X h = _
  simp only [wp_bnd, wp_lift']
@[simp] theorem w_slc {a lo hi : E} : wp ((ev T R (.slc a lo hi)).e ρ) Q X h = wp ((ev T R a).e ρ) (fun x h1 => wp ((ev T R lo).p ρ) (fun l h2 => wp ((ev T R hi).p ρ) (fun u h3 => onS (slV h3 x l u) fun v => Q v h3) X h2) X h1) X h := by
  show wp (bnd _ _) Q X h = _
  simp only [wp_bnd, wp_lift']
@[simp] theorem w_call {tr : Bool} {f : Str} {es : E} : wp ((ev T R (.call tr f es)).e ρ) Q X h = wp ((ev T R es).a ρ) (fun vs h1 => wp (R tr f vs) Q X h1) X h := by
  show wp (bnd _ _) Q X h = _
  rw [wp_bnd]
@[simp] theorem w_bf {f : Bf} {es : E} : wp ((ev T R (.bf f es)).e ρ) Q X h = wp ((ev T R es).a ρ) (fun vs h1 => onS (bfV h1 f vs) fun v => Q v h1) X h := by
  show wp (bnd _ _) Q X h = _
  simp only [wp_bnd, wp_lift']
@[simp] theorem w_md {m : Md} {a es : E} : wp ((ev T R (.md m a es)).e ρ) Q X h = wp ((ev T R a).e ρ) (fun x h1 => onS (mdPre h1 m x) fun _ => wp ((ev T R es).a ρ) (fun vs h2 => wp (mdV m x vs) Q X h2) X h1) X h := by
  show wp (bnd _ _) Q X h = _
  simp only [wp_bnd, wp_lift']
@[simp] theorem w_chain {a l : E} : wp ((ev T R (.chain a l)).e ρ) Q X h = wp ((ev T R a).e ρ) (fun x h1 => wp ((ev T R l).ch x ρ) Q X h1) X h := by
  show wp (bnd _ _) Q X h = _
  rw [wp_bnd]
@[simp] theorem w_lnk1 {o : CO} {b : E} {x : AV} : wp ((ev T R (.lnk o b .nil)).ch x ρ) Q X h = wp ((ev T R b).e ρ) (fun y h1 => onS (cmpV h1 o x y) fun v => Q (.bl v) h1) X h := by
  show wp (bnd _ _) Q X h = _
  simp only [wp_bnd, wp_lift']
  congr 1
  funext y h2
  cases cmpV h2 o x y <;> rfl
@[simp] theorem w_lnk2 {o o2 : CO} {b b2 l : E} {x : AV} : wp ((ev T R (.lnk o b (.lnk o2 b2 l))).ch x ρ) Q X h = wp ((ev T R b).e ρ) (fun y h1 => onS (cmpV h1 o x y) fun v => if v = true then wp ((ev T R (.lnk o2 b2 l)).ch y ρ) Q X h1 else Q (.bl false) h1) X h := by
  show wp (bnd _ _) Q X h = _
  simp only [wp_bnd, wp_lift']
  congr 1
  funext y h2
  cases cmpV h2 o x y with
  | none => rfl
  | some v => cases v <;> rfl
@[simp] theorem w_rgl0 {k : Bool} {hi : E} : wp ((ev T R (.rgl k .nil hi)).e ρ) Q X h = wp ((ev T R hi).e ρ) (fun y h1 => onS (rglV k (.int 0) y) fun v => Q v h1) X h := by
  show wp (bnd _ _) Q X h = _
  simp only [wp_bnd, wp_lift']
@[simp] theorem w_comp {vs : List Nat} {elt src cond : E} {t : Tg} : wp ((ev T R (.comp vs elt t src cond)).e ρ) Q X h = wp ((ev T R src).i ρ) (fun p h1 => p.2.length ≤ big ∧ wp (compL (fun x => bindT t x (wipeA ρ vs)) (ev T R cond).c (ev T R elt).e (stands p.1 p.2) [] p.2) (fun ys h2 => Q (.lst ys) h2) (fun _ _ => False) h1) X h := by
  show wp (bnd _ _) Q X h = _
  rw [wp_bnd]
  congr 1
  funext p h1
  by_cases z : p.2.length ≤ big
  · simp only [z, if_true, true_and]
    rw [wp_bnd]
    exact propext wp_noX
  · simp [z, wp, stuck]
@[simp] theorem w_comp2 {vs vs1 : List Nat} {elt src src1 cond : E} {t t1 : Tg} : wp ((ev T R (.comp2 vs vs1 elt t src t1 src1 cond)).e ρ) Q X h = wp ((ev T R src).i ρ) (fun p h1 => wp (compO (fun x => bindT t x (wipeA ρ vs)) (ev T R src1).i
        (fun ρ1 v1 acc ys => compL (fun y => bindT t1 y (wipeA ρ1 vs1)) (ev T R cond).c (ev T R elt).e (stands v1 ys) acc ys) (stands p.1 p.2) [] p.2) (fun ys h2 => Q (.lst ys) h2) (fun _ _ => False) h1) X h := by
  show wp (bnd _ _) Q X h = _
  rw [wp_bnd]
  congr 1
  funext p h1
  rw [wp_bnd]
  exact propext wp_noX
@[simp] theorem w_isx {x : E} {cs : List Str} : wp ((ev T R (.isx x cs)).e ρ) Q X h = wp ((ev T R x).e ρ) (fun v h1 => match v with | .exn c => onS (isL T c cs) fun b => Q (.bl b) h1 | _ => False) X h := by
  show wp (bnd _ _) Q X h = _
  rw [wp_bnd]
  congr 1
  funext v h1
  cases v with
  | exn c =>
    show wp (lift _) Q X h1 = _
    rw [wp_lift']
    show onS ((isL T c cs).map AV.bl) _ = onS (isL T c cs) _
    cases isL T c cs <;> rfl
  | _ => rfl
@[simp] theorem w_isb {x : E} {ts : List Str} : wp ((ev T R (.isb x ts)).e ρ) Q X h = wp ((ev T R x).e ρ) (fun v h1 => onS (isB h1 v ts) fun b => Q (.bl b) h1) X h := by
  show wp (bnd _ _) Q X h = _
  rw [wp_bnd]
  congr 1
  funext v h1
  rw [wp_lift']
  cases isB h1 v ts <;> rfl
@[simp] theorem w_dsel {tab : List (Str × Str)} {a : E} : wp ((ev T R (.dsel tab a)).e ρ) Q X h = wp ((ev T R a).e ρ) (fun x h1 => match x with | .str x => onS (tab.lookup x) fun y => Q (.str y) h1 | _ => False) X h := by
  show wp (bnd _ _) Q X h = _
  rw [wp_bnd]
  congr 1
  funext v h1
  cases v with
  | str x =>
    show wp (match tab.lookup x with | some y => ret (.str y) | none => stuck) Q X h1 = onS (tab.lookup x) fun y => Q (.str y) h1
    cases tab.lookup x <;> rfl
  | _ => rfl
@[simp] theorem w_gsel {x : Str} {a : E} : wp ((ev T R (.gsel x a)).e ρ) Q X h = onS (T.gd x) fun tab => wp ((ev T R a).e ρ) (fun v h1 => onS (gselV tab v) fun y => Q y h1) X h := by
  show wp (match T.gd x with | some tab => bnd ((ev T R a).e ρ) fun v => lift fun _ => gselV tab v | none => stuck) Q X h = _
  cases T.gd x with
  | none => rfl
  | some tab => simp only [wp_bnd, wp_lift', onS_some]
@[simp] theorem gsel_str {tab : List (Str × AV)} {z : Str} : gselV tab (.str z) = tab.lookup z := (rfl)
@[simp] theorem w_isv {x : E} : wp ((ev T R (.isv x)).e ρ) Q X h = wp ((ev T R x).e ρ) (fun v h1 => match v with | .exn c => T.isV c = true ∧ Q (.bl true) h1 | _ => False) X h := by
  show wp (bnd _ _) Q X h = _
  rw [wp_bnd]
  congr 1
  funext v h1
  cases v with
  | exn c =>
    show wp (lift fun _ => if T.isV c = true then some (AV.bl true) else none) Q X h1 = _
    rw [wp_lift']
    by_cases z : T.isV c = true <;> simp [z]
  | _ => rfl
@[simp] theorem w_fld {C f : Str} {a : E} : wp ((ev T R (.fld C f a)).e ρ) Q X h = wp ((ev T R a).e ρ) (fun x h1 => onS (fldV C f x h1) fun v => Q v h1) X h := by
  show wp (bnd _ _) Q X h = _
  simp only [wp_bnd, wp_lift']
@[simp] theorem w_mcl {tr : Bool} {C m : Str} {a es : E} : wp ((ev T R (.mcl tr C m a es)).e ρ) Q X h = wp ((ev T R a).e ρ) (fun x h1 => onS (insV C m x h1) fun _ => wp ((ev T R es).a ρ) (fun vs h2 => wp (R tr (C ++ "." ++ m) (x :: vs)) Q X h2) X h1) X h := by
  show wp (bnd _ _) Q X h = _
  simp only [wp_bnd, wp_lift']
@[simp] theorem w_dsp {ks : List Str} {es : E} : wp ((ev T R (.dsp ks es)).e ρ) Q X h = wp ((ev T R es).a ρ) (fun vs h1 => (vs.length = ks.length ∧ ks.length ≤ 15 ∧ ks.Nodup) ∧ Q (.ref h1.length) (h1 ++ [.dct ((ks.map NestedKey.text).zip vs)])) (fun _ _ => False) h := by
  show wp (bnd _ _) Q X h = _
  rw [wp_bnd]
  refine (propext wp_noX).trans ?_
  congr 1
  funext vs h1
  by_cases z : vs.length = ks.length ∧ ks.length ≤ 15 ∧ ks.Nodup
  · rw [if_pos z]; exact propext ⟨fun q => ⟨z, q⟩, fun q => q.2⟩
  · rw [if_neg z]; exact propext ⟨fun q => q.elim, fun q => z q.1⟩
@[simp] theorem w_dgt {a k x : E} : wp ((ev T R (.dgt a k x)).e ρ) Q X h = wp ((ev T R a).e ρ) (fun d h1 => onS (getD h1 d) fun _ => wp ((ev T R k).e ρ) (fun y h2 => wp ((ev T R x).e ρ) (fun z h3 => onS (getD h3 d) fun kvs => onS (dgetA kvs y) fun o => Q (o.getD z) h3) X h2) X h1) X h := by
  show wp (bnd _ _) Q X h = _
  simp only [wp_bnd, wp_lift']
  refine congrArg (fun f => wp _ f X h) (funext fun d => funext fun h1 => ?_)
  cases getD h1 d with
  | none => rfl
  | some kvs =>
    simp only [Option.map_some, onS_some]
    refine congrArg (fun f => wp _ f X h1) (funext fun y => funext fun h2 => ?_)
    refine congrArg (fun f => wp _ f X h2) (funext fun z => funext fun h3 => ?_)
    cases getD h3 d with
    | none => rfl
    | some kvs =>
      simp only [Option.bind_some, onS_some]
      cases dgetA kvs y <;> rfl
@[simp] theorem w_dget {tab : List (Str × Int)} {a : E} {d : Int} : wp ((ev T R (.dget tab a d)).e ρ) Q X h = wp ((ev T R a).e ρ) (fun x h1 => match x with | .str x => Q (.int ((tab.lookup x).getD d)) h1 | _ => False) X h := by
  show wp (bnd _ _) Q X h = _
  rw [wp_bnd]
  congr 1
  funext v h1
  cases v <;> rfl
@[simp] theorem w_rev {a : E} : wp ((ev T R (.rev a)).e ρ) Q X h = wp ((ev T R a).e ρ) (fun x h1 => match x with | .tup xs => Q (.tup xs.reverse) h1 | _ => False) X h := by
  show wp (bnd _ _) Q X h = _
  rw [wp_bnd]
  congr 1
  funext v h1
  cases v <;> rfl
@[simp] theorem w_band {es : E} : wp ((ev T R (.band es)).e ρ) Q X h = wp ((ev T R es).an ρ) Q X h := (rfl)
@[simp] theorem w_bor {es : E} : wp ((ev T R (.bor es)).e ρ) Q X h = wp ((ev T R es).or ρ) Q X h := (rfl)
@[simp] theorem w_an1 {e : E} : wp ((ev T R (.cons e .nil)).an ρ) Q X h = wp ((ev T R e).e ρ) Q X h := (rfl)
@[simp] theorem w_or1 {e : E} : wp ((ev T R (.cons e .nil)).or ρ) Q X h = wp ((ev T R e).e ρ) Q X h := (rfl)
@[simp] theorem w_an2 {e f fs : E} : wp ((ev T R (.cons e (.cons f fs))).an ρ) Q X h = wp ((ev T R e).e ρ) (tB fun b h1 => if b = true then wp ((ev T R (.cons f fs)).an ρ) Q X h1 else Q (.bl false) h1) X h := by
  show wp (bnd _ _) Q X h = _
  rw [wp_bnd]
  congr 1
  funext v h1
  cases v with
  | bl b => cases b <;> rfl
  | _ => rfl
@[simp] theorem w_or2 {e f fs : E} : wp ((ev T R (.cons e (.cons f fs))).or ρ) Q X h = wp ((ev T R e).e ρ) (tB fun b h1 => if b = true then Q (.bl true) h1 else wp ((ev T R (.cons f fs)).or ρ) Q X h1) X h := by
  show wp (bnd _ _) Q X h = _
  rw [wp_bnd]
  congr 1
  funext v h1
  cases v with
  | bl b => cases b <;> rfl
  | _ => rfl
end
/-! rows -/
@[simp] theorem w_nil {Q : List AV → AH → Prop} : wp ((ev T R .nil).a ρ) Q X h = Q [] h := (rfl)
@[simp] theorem w_cons {e es : E} {Q : List AV → AH → Prop} : wp ((ev T R (.cons e es)).a ρ) Q X h = wp ((ev T R e).e ρ) (fun v h1 => wp ((ev T R es).a ρ) (fun vs h2 => Q (v :: vs) h2) X h1) X h := by
  show wp (bnd _ _) Q X h = _
  simp only [wp_bnd]
  rfl
@[simp] theorem w_star {e es : E} {Q : List AV → AH → Prop} : wp ((ev T R (.star e es)).a ρ) Q X h = wp ((ev T R e).e ρ) (fun v h1 => onS (getS h1 v) fun us => wp ((ev T R es).a ρ) (fun vs h2 => Q (us ++ vs) h2) X h1) X h := by
  show wp (bnd _ _) Q X h = _
  simp only [wp_bnd, wp_lift']
  rfl
/-! tests -/
section
variable {Q : Bool → AH → Prop}
theorem t_of {m : M AV} : wp (bnd m fun v => match v with | .bl b => ret b | _ => stuck) Q X h = wp m (tB Q) X h := by
  rw [wp_bnd]
  congr 1
  funext v h1
  cases v <;> rfl
@[simp] theorem t_var {i : Nat} : wp ((ev T R (.var i)).t ρ) Q X h = wp ((ev T R (.var i)).e ρ) (tB Q) X h := t_of
@[simp] theorem t_bl {b : Bool} : wp ((ev T R (.bl b)).t ρ) Q X h = Q b h := (rfl)
@[simp] theorem t_cmp {o : CO} {a b : E} : wp ((ev T R (.cmp o a b)).t ρ) Q X h = wp ((ev T R (.cmp o a b)).e ρ) (tB Q) X h := t_of
@[simp] theorem t_chain {a l : E} : wp ((ev T R (.chain a l)).t ρ) Q X h = wp ((ev T R (.chain a l)).e ρ) (tB Q) X h := t_of
@[simp] theorem t_call {tr : Bool} {f : Str} {es : E} : wp ((ev T R (.call tr f es)).t ρ) Q X h = wp ((ev T R (.call tr f es)).e ρ) (tB Q) X h := t_of
@[simp] theorem t_bf {f : Bf} {es : E} : wp ((ev T R (.bf f es)).t ρ) Q X h = wp ((ev T R (.bf f es)).e ρ) (tB Q) X h := t_of
@[simp] theorem t_idx {a b : E} : wp ((ev T R (.idx a b)).t ρ) Q X h = wp ((ev T R (.idx a b)).e ρ) (tB Q) X h := t_of
@[simp] theorem t_isx {x : E} {cs : List Str} : wp ((ev T R (.isx x cs)).t ρ) Q X h = wp ((ev T R (.isx x cs)).e ρ) (tB Q) X h := t_of
@[simp] theorem t_isv {x : E} : wp ((ev T R (.isv x)).t ρ) Q X h = wp ((ev T R (.isv x)).e ρ) (tB Q) X h := t_of
@[simp] theorem t_fld {C f : Str} {a : E} : wp ((ev T R (.fld C f a)).t ρ) Q X h = wp ((ev T R (.fld C f a)).e ρ) (tB Q) X h := t_of
@[simp] theorem t_mcl {tr : Bool} {C m : Str} {a es : E} : wp ((ev T R (.mcl tr C m a es)).t ρ) Q X h = wp ((ev T R (.mcl tr C m a es)).e ρ) (tB Q) X h := t_of
@[simp] theorem t_isb {x : E} {cs : List Str} : wp ((ev T R (.isb x cs)).t ρ) Q X h = wp ((ev T R (.isb x cs)).e ρ) (tB Q) X h := t_of
@[simp] theorem t_not {a : E} : wp ((ev T R (.not a)).t ρ) Q X h = wp ((ev T R a).t ρ) (fun b h1 => Q (!b) h1) X h := by
  show wp (bnd _ _) Q X h = _
  rw [wp_bnd]
  rfl
@[simp] theorem t_band {es : E} : wp ((ev T R (.band es)).t ρ) Q X h = wp ((ev T R es).ta ρ) Q X h := (rfl)
@[simp] theorem t_bor {es : E} : wp ((ev T R (.bor es)).t ρ) Q X h = wp ((ev T R es).to ρ) Q X h := (rfl)
@[simp] theorem t_ta1 {e : E} : wp ((ev T R (.cons e .nil)).ta ρ) Q X h = wp ((ev T R e).t ρ) Q X h := (rfl)
@[simp] theorem t_to1 {e : E} : wp ((ev T R (.cons e .nil)).to ρ) Q X h = wp ((ev T R e).t ρ) Q X h := (rfl)
@[simp] theorem t_ta2 {e f fs : E} : wp ((ev T R (.cons e (.cons f fs))).ta ρ) Q X h = wp ((ev T R e).t ρ) (fun b h1 => if b = true then wp ((ev T R (.cons f fs)).ta ρ) Q X h1 else Q false h1) X h := by
  show wp (bnd _ _) Q X h = _
  rw [wp_bnd]
  congr 1
  funext b h1
  cases b <;> rfl
@[simp] theorem t_to2 {e f fs : E} : wp ((ev T R (.cons e (.cons f fs))).to ρ) Q X h = wp ((ev T R e).t ρ) (fun b h1 => if b = true then Q true h1 else wp ((ev T R (.cons f fs)).to ρ) Q X h1) X h := by
  show wp (bnd _ _) Q X h = _
  rw [wp_bnd]
  congr 1
  funext b h1
  cases b <;> rfl
@[simp] theorem c_nil : wp ((ev T R .nil).c ρ) Q X h = Q true h := (rfl)
@[simp] theorem c_cmp {o : CO} {a b : E} : wp ((ev T R (.cmp o a b)).c ρ) Q X h = wp ((ev T R (.cmp o a b)).t ρ) Q X h := (rfl)
@[simp] theorem c_band {es : E} : wp ((ev T R (.band es)).c ρ) Q X h = wp ((ev T R (.band es)).t ρ) Q X h := (rfl)
@[simp] theorem c_bor {es : E} : wp ((ev T R (.bor es)).c ρ) Q X h = wp ((ev T R (.bor es)).t ρ) Q X h := (rfl)
@[simp] theorem c_isb {x : E} {cs : List Str} : wp ((ev T R (.isb x cs)).c ρ) Q X h = wp ((ev T R (.isb x cs)).t ρ) Q X h := (rfl)
@[simp] theorem c_mcl {tr : Bool} {C m : Str} {a es : E} : wp ((ev T R (.mcl tr C m a es)).c ρ) Q X h = wp ((ev T R (.mcl tr C m a es)).t ρ) Q X h := (rfl)
@[simp] theorem c_fld {C f : Str} {a : E} : wp ((ev T R (.fld C f a)).c ρ) Q X h = wp ((ev T R (.fld C f a)).t ρ) Q X h := (rfl)
@[simp] theorem c_not {a : E} : wp ((ev T R (.not a)).c ρ) Q X h = wp ((ev T R (.not a)).t ρ) Q X h := (rfl)
@[simp] theorem c_call {tr : Bool} {f : Str} {es : E} : wp ((ev T R (.call tr f es)).c ρ) Q X h = wp ((ev T R (.call tr f es)).t ρ) Q X h := (rfl)
end
/-! parts of slices; what is walked -/
section
variable {Q : Option Int → AH → Prop}
@[simp] theorem p_non : wp ((ev T R .non).p ρ) Q X h = Q none h := (rfl)
@[simp] theorem p_int {i : Int} : wp ((ev T R (.int i)).p ρ) Q X h = Q (some i) h := (rfl)
theorem p_of {m : M AV} : wp (bnd m fun v => match v with | .int b => ret (some b) | _ => stuck) Q X h = wp m (fun v h => match v with | .int b => Q (some b) h | _ => False) X h := by
  rw [wp_bnd]
  congr 1
  funext v h1
  cases v <;> rfl
@[simp] theorem p_var {i : Nat} : wp ((ev T R (.var i)).p ρ) Q X h = wp ((ev T R (.var i)).e ρ) (fun v h => match v with | .int b => Q (some b) h | _ => False) X h := p_of
@[simp] theorem p_bf {f : Bf} {es : E} : wp ((ev T R (.bf f es)).p ρ) Q X h = wp ((ev T R (.bf f es)).e ρ) (fun v h => match v with | .int b => Q (some b) h | _ => False) X h := p_of
@[simp] theorem p_idx {a b : E} : wp ((ev T R (.idx a b)).p ρ) Q X h = wp ((ev T R (.idx a b)).e ρ) (fun v h => match v with | .int b => Q (some b) h | _ => False) X h := p_of
@[simp] theorem p_fld {C f : Str} {a : E} : wp ((ev T R (.fld C f a)).p ρ) Q X h = wp ((ev T R (.fld C f a)).e ρ) (fun v h => match v with | .int b => Q (some b) h | _ => False) X h := p_of
@[simp] theorem p_call {tr : Bool} {f : Str} {es : E} : wp ((ev T R (.call tr f es)).p ρ) Q X h = wp ((ev T R (.call tr f es)).e ρ) (fun v h => match v with | .int b => Q (some b) h | _ => False) X h := p_of
@[simp] theorem p_neg {a : E} : wp ((ev T R (.neg a)).p ρ) Q X h = wp ((ev T R (.neg a)).e ρ) (fun v h => match v with | .int b => Q (some b) h | _ => False) X h := p_of
@[simp] theorem p_bin {o : BO} {a b : E} : wp ((ev T R (.bin o a b)).p ρ) Q X h = wp ((ev T R (.bin o a b)).e ρ) (fun v h => match v with | .int b => Q (some b) h | _ => False) X h := p_of
end
section
variable {Q : AV × List AV → AH → Prop}
@[simp] theorem i_rng {es : E} : wp ((ev T R (.rng es)).i ρ) Q X h = wp ((ev T R es).a ρ) (fun vs h1 => onS (rngOf vs) fun xs => Q (.non, xs) h1) X h := by
  show wp (bnd _ _) Q X h = _
  simp only [wp_bnd, wp_lift']
  congr 1
  funext vs h1
  cases rngOf vs <;> rfl
theorem i_of {m : M AV} : wp (bnd m fun v => lift fun h => (itemsOf h v).map fun xs => (v, xs)) Q X h = wp m (fun v h1 => onS (itemsOf h1 v) fun xs => Q (v, xs) h1) X h := by
  simp only [wp_bnd, wp_lift']
  congr 1
  funext v h1
  cases itemsOf h1 v <;> rfl
@[simp] theorem i_var {i : Nat} : wp ((ev T R (.var i)).i ρ) Q X h = wp ((ev T R (.var i)).e ρ) (fun v h1 => onS (itemsOf h1 v) fun xs => Q (v, xs) h1) X h := i_of
@[simp] theorem i_slc {a lo hi : E} : wp ((ev T R (.slc a lo hi)).i ρ) Q X h = wp ((ev T R (.slc a lo hi)).e ρ) (fun v h1 => onS (itemsOf h1 v) fun xs => Q (v, xs) h1) X h := i_of
@[simp] theorem i_fld {C f : Str} {a : E} : wp ((ev T R (.fld C f a)).i ρ) Q X h = wp ((ev T R (.fld C f a)).e ρ) (fun v h1 => onS (itemsOf h1 v) fun xs => Q (v, xs) h1) X h := i_of
@[simp] theorem i_mcl {tr : Bool} {C m : Str} {a es : E} : wp ((ev T R (.mcl tr C m a es)).i ρ) Q X h = wp ((ev T R (.mcl tr C m a es)).e ρ) (fun v h1 => onS (itemsOf h1 v) fun xs => Q (v, xs) h1) X h := i_of
@[simp] theorem i_ite {c a b : E} : wp ((ev T R (.ite c a b)).i ρ) Q X h = wp ((ev T R (.ite c a b)).e ρ) (fun v h1 => onS (itemsOf h1 v) fun xs => Q (v, xs) h1) X h := i_of
@[simp] theorem i_idx {a b : E} : wp ((ev T R (.idx a b)).i ρ) Q X h = wp ((ev T R (.idx a b)).e ρ) (fun v h1 => onS (itemsOf h1 v) fun xs => Q (v, xs) h1) X h := i_of
@[simp] theorem i_glb {x : Str} : wp ((ev T R (.glb x)).i ρ) Q X h = wp ((ev T R (.glb x)).e ρ) (fun v h1 => onS (itemsOf h1 v) fun xs => Q (v, xs) h1) X h := i_of
@[simp] theorem i_zip {a b : E} : wp ((ev T R (.zip a b)).i ρ) Q X h = wp ((ev T R a).e ρ) (fun x h1 => wp ((ev T R b).e ρ) (fun y h2 => onS (zipT x y) fun xs => Q (.non, xs) h2) X h1) X h := by
  show wp (bnd _ fun x => bnd _ fun y => lift fun _ => (zipT x y).map fun xs => ((.non : AV), xs)) Q X h = _
  rw [wp_bnd]
  refine congrArg (fun f => wp _ f X h) (funext fun x => funext fun h1 => ?_)
  rw [wp_bnd]
  refine congrArg (fun f => wp _ f X h1) (funext fun y => funext fun h2 => ?_)
  rw [wp_lift']
  cases zipT x y <;> rfl
@[simp] theorem i_enum {a : E} : wp ((ev T R (.enum a)).i ρ) Q X h = wp ((ev T R a).e ρ) (fun x h1 => onS (wlkV h1 0 x) fun p => Q p h1) X h := by
  show wp (bnd _ fun x => lift fun h => wlkV h 0 x) Q X h = _
  simp only [wp_bnd, wp_lift']
@[simp] theorem i_rvd {a : E} : wp ((ev T R (.rvd a)).i ρ) Q X h = wp ((ev T R a).e ρ) (fun x h1 => onS (wlkV h1 1 x) fun p => Q p h1) X h := by
  show wp (bnd _ fun x => lift fun h => wlkV h 1 x) Q X h = _
  simp only [wp_bnd, wp_lift']
@[simp] theorem i_rngc {a b d : E} : wp ((ev T R (.rngc a b d)).i ρ) Q X h = wp ((ev T R a).e ρ) (fun x h1 => wp ((ev T R b).e ρ) (fun y h2 => wp ((ev T R d).e ρ) (fun z h3 => onS (rngCV x y z) fun xs => Q (.non, xs) h3) X h2) X h1) X h := by
  show wp (bnd _ fun x => bnd _ fun y => bnd _ fun z => lift fun _ => (rngCV x y z).map fun xs => ((.non : AV), xs)) Q X h = _
  simp only [wp_bnd, wp_lift']
  refine congrArg (fun f => wp _ f X h) (funext fun x => funext fun h1 => ?_)
  refine congrArg (fun f => wp _ f X h1) (funext fun y => funext fun h2 => ?_)
  refine congrArg (fun f => wp _ f X h2) (funext fun z => funext fun h3 => ?_)
  cases rngCV x y z <;> rfl
@[simp] theorem zip_tt {xs ys : List AV} : zipT (.tup xs) (.tup ys) = some (zipA xs ys) := (rfl)
@[simp] theorem i_rev {a : E} : wp ((ev T R (.rev a)).i ρ) Q X h = wp ((ev T R (.rev a)).e ρ) (fun v h1 => onS (itemsOf h1 v) fun xs => Q (v, xs) h1) X h := i_of
@[simp] theorem i_call {tr : Bool} {f : Str} {es : E} : wp ((ev T R (.call tr f es)).i ρ) Q X h = wp ((ev T R (.call tr f es)).e ρ) (fun v h1 => onS (itemsOf h1 v) fun xs => Q (v, xs) h1) X h := i_of
@[simp] theorem i_tup {es : E} : wp ((ev T R (.tup es)).i ρ) Q X h = wp ((ev T R (.tup es)).e ρ) (fun v h1 => onS (itemsOf h1 v) fun xs => Q (v, xs) h1) X h := i_of
@[simp] theorem i_lst {es : E} : wp ((ev T R (.lst es)).i ρ) Q X h = wp ((ev T R (.lst es)).e ρ) (fun v h1 => onS (itemsOf h1 v) fun xs => Q (v, xs) h1) X h := i_of
@[simp] theorem i_bf {f : Bf} {es : E} : wp ((ev T R (.bf f es)).i ρ) Q X h = wp ((ev T R (.bf f es)).e ρ) (fun v h1 => onS (itemsOf h1 v) fun xs => Q (v, xs) h1) X h := i_of
@[simp] theorem i_bin {o : BO} {a b : E} : wp ((ev T R (.bin o a b)).i ρ) Q X h = wp ((ev T R (.bin o a b)).e ρ) (fun v h1 => onS (itemsOf h1 v) fun xs => Q (v, xs) h1) X h := i_of
end
/-! statements -/
section
variable {P : Fl → AEnv → AH → Prop}
@[simp] theorem s_nilS : wpS ((sv T R .nil).s ρ) P h = P .nx ρ h := (rfl)
/-- behind one statement -/
def thenS (k : AEnv → AH → Prop) (P : Fl → AEnv → AH → Prop) : Fl → AEnv → AH → Prop := fun f ρ h => match f with
  | .nx => k ρ h
  | f => P f ρ h
theorem thenS_cong {k : AEnv → AH → Prop} {f f' : Fl} (e : f = f') : thenS k P f ρ h = thenS k P f' ρ h := by rw [e]
@[simp] theorem thenS_nx {k : AEnv → AH → Prop} : thenS k P .nx ρ h = k ρ h := (rfl)
@[simp] theorem thenS_rt {k : AEnv → AH → Prop} {v : AV} : thenS k P (.rt v) ρ h = P (.rt v) ρ h := (rfl)
@[simp] theorem thenS_ex {k : AEnv → AH → Prop} {v : Ex} : thenS k P (.ex v) ρ h = P (.ex v) ρ h := (rfl)
@[simp] theorem thenS_bk {k : AEnv → AH → Prop} : thenS k P .bk ρ h = P .bk ρ h := (rfl)
@[simp] theorem thenS_ct {k : AEnv → AH → Prop} : thenS k P .ct ρ h = P .ct ρ h := (rfl)
@[simp] theorem s_seqS {s t : S} : wpS ((sv T R (.seq s t)).s ρ) P h = wpS ((sv T R s).s ρ) (thenS (fun ρ' h' => wpS ((sv T R t).s ρ') P h') P) h := by
  show wpS (seqS _ _) P h = _
  unfold wpS seqS
  cases (sv T R s).s ρ h with
  | none => rfl
  | some r =>
    obtain ⟨f, ρ', h'⟩ := r
    cases f <;> rfl
@[simp] theorem s_useE {α : Type} {m : M α} {k : α → MS} : wpS (useE m ρ k) P h = wp m (fun a h' => wpS (k a) P h') (fun x h' => P (.ex x) ρ h') h := propext wpS_useE
@[simp] theorem s_asgS {t : Tg} {e : E} : wpS ((sv T R (.asg t e)).s ρ) P h = wp ((ev T R e).e ρ) (fun v h1 => onS (bindT t v ρ) fun ρ' => P .nx ρ' h1) (fun x h1 => P (.ex x) ρ h1) h := by
  show wpS (useE _ _ _) P h = _
  rw [s_useE]
  congr 1
  funext v h1
  cases bindT t v ρ <;> rfl
@[simp] theorem s_expS {e : E} : wpS ((sv T R (.exp e)).s ρ) P h = wp ((ev T R e).e ρ) (fun v h1 => P .nx ρ h1) (fun x h1 => P (.ex x) ρ h1) h := by
  show wpS (useE _ _ _) P h = _
  rw [s_useE]
  rfl
@[simp] theorem s_retS {e : E} : wpS ((sv T R (.ret e)).s ρ) P h = wp ((ev T R e).e ρ) (fun v h1 => P (.rt v) ρ h1) (fun x h1 => P (.ex x) ρ h1) h := by
  show wpS (useE _ _ _) P h = _
  rw [s_useE]
  rfl
@[simp] theorem s_retNS : wpS ((sv T R .retN).s ρ) P h = P (.rt .non) ρ h := (rfl)
@[simp] theorem s_parS {i j : Nat} {es : E} : wpS ((sv T R (.par i j es)).s ρ) P h = wp ((ev T R es).a ρ) (fun vs h1 => onS (parA i j vs ρ) fun ρ' => P .nx ρ' h1) (fun x h1 => P (.ex x) ρ h1) h := by
  show wpS (useE (evA T R es ρ) ρ fun vs => match parA i j vs ρ with | some ρ' => done .nx ρ' | none => stuckS) P h = _
  rw [s_useE]
  refine congrArg (fun q => wp ((ev T R es).a ρ) q (fun x h1 => P (.ex x) ρ h1) h) (funext fun vs => funext fun h1 => ?_)
  cases parA i j vs ρ <;> rfl
@[simp] theorem par_two {i j : Nat} {x y : AV} {ρ : AEnv} : parA i j [x, y] ρ = if i < ρ.length ∧ j < ρ.length then some ((ρ.set i (some x)).set j (some y)) else none := (rfl)
@[simp] theorem s_passS : wpS ((sv T R .pass).s ρ) P h = P .nx ρ h := (rfl)
@[simp] theorem s_brkS : wpS ((sv T R .brk).s ρ) P h = P .bk ρ h := (rfl)
@[simp] theorem s_cntS : wpS ((sv T R .cnt).s ρ) P h = P .ct ρ h := (rfl)
@[simp] theorem s_raiseS {C : Str} : wpS ((sv T R (.raise C)).s ρ) P h = P (.ex ⟨C⟩) ρ h := (rfl)
@[simp] theorem s_iteS {c : E} {s t : S} : wpS ((sv T R (.ite c s t)).s ρ) P h = wp ((ev T R c).t ρ) (fun b h1 => if b = true then wpS ((sv T R s).s ρ) P h1 else wpS ((sv T R t).s ρ) P h1) (fun x h1 => P (.ex x) ρ h1) h := by
  show wpS (useE _ _ _) P h = _
  rw [s_useE]
  congr 1
  funext b h1
  cases b <;> rfl
@[simp] theorem s_augS {i : Nat} {o : BO} {e : E} : wpS ((sv T R (.aug i o e)).s ρ) P h = onS (ρ[i]?.getD none) fun x => wp ((ev T R e).e ρ) (fun y h1 => onS (augV o x y) fun z => i < ρ.length ∧ P .nx (ρ.set i (some z)) h1) (fun x h1 => P (.ex x) ρ h1) h := by
  show wpS (useE _ _ _) P h = _
  rw [s_useE]
  have e := w_var (T := T) (R := R) (ρ := ρ) (h := h) (X := fun x h' => P (.ex x) ρ h') (i := i) (Q := fun x h' => wpS (useE ((ev T R e).e ρ) ρ fun y => useE (lift fun _ => augV o x y) ρ fun z => setSlot ρ i z) P h')
  refine Eq.trans e ?_
  congr 1
  funext x
  rw [s_useE]
  congr 1
  funext y h1
  rw [s_useE, wp_lift']
  congr 1
  funext z
  unfold setSlot
  by_cases q : i < ρ.length
  · simp [q, wpS, done]
  · simp [q, wpS, stuckS]
@[simp] theorem s_subS {o i e : E} : wpS ((sv T R (.sub o i e)).s ρ) P h = wp ((ev T R e).e ρ) (fun v h1 => wp ((ev T R o).e ρ) (fun x h2 => wp ((ev T R i).e ρ) (fun k h3 => wp (setA x k v) (fun _ h4 => P .nx ρ h4) (fun x h4 => P (.ex x) ρ h4) h3) (fun x h4 => P (.ex x) ρ h4) h2) (fun x h4 => P (.ex x) ρ h4) h1) (fun x h1 => P (.ex x) ρ h1) h := by
  show wpS (useE _ _ _) P h = _
  simp only [s_useE]
  rfl
@[simp] theorem s_attS {C f : Str} {o e : E} : wpS ((sv T R (.att C f o e)).s ρ) P h = wp ((ev T R e).e ρ) (fun v h1 => wp ((ev T R o).e ρ) (fun x h2 => wp (attA C f x v) (fun _ h4 => P .nx ρ h4) (fun x h1 => P (.ex x) ρ h1) h2) (fun x h1 => P (.ex x) ρ h1) h1) (fun x h1 => P (.ex x) ρ h1) h := by
  show wpS (useE _ _ _) P h = _
  simp only [s_useE]
  rfl
@[simp] theorem s_aattS {C f : Str} {o e : E} {p : BO} : wpS ((sv T R (.aatt C f o p e)).s ρ) P h = wp ((ev T R o).e ρ) (fun x h1 => onS (fldV C f x h1) fun y => wp ((ev T R e).e ρ) (fun z h2 => onS (augV p y z) fun w => wp (attA C f x w) (fun _ h4 => P .nx ρ h4) (fun x h1 => P (.ex x) ρ h1) h2) (fun x h1 => P (.ex x) ρ h1) h1) (fun x h1 => P (.ex x) ρ h1) h := by
  show wpS (useE _ _ _) P h = _
  simp only [s_useE, wp_lift']
  rfl
@[simp] theorem s_asubS {o i e : E} {p : BO} : wpS ((sv T R (.asub o i p e)).s ρ) P h = wp ((ev T R o).e ρ) (fun x h1 => wp ((ev T R i).e ρ) (fun k h2 => onS (dixV h2 x k) fun y => wp ((ev T R e).e ρ) (fun z h3 => onS (augV p y z) fun w => wp (setA x k w) (fun _ h4 => P .nx ρ h4) (fun x h1 => P (.ex x) ρ h1) h3) (fun x h1 => P (.ex x) ρ h1) h2) (fun x h1 => P (.ex x) ρ h1) h1) (fun x h1 => P (.ex x) ρ h1) h := by
  show wpS (useE _ _ _) P h = _
  simp only [s_useE, wp_lift']
  rfl
@[simp] theorem s_forS {t : Tg} {src : E} {s : S} : wpS ((sv T R (.for t src s)).s ρ) P h = wp ((ev T R src).i ρ) (fun p h1 => wpS (forL (fun x ρ => bindT t x ρ) (fun ρ => (sv T R s).s ρ) (stands p.1 p.2) p.2 ρ) P h1) (fun x h1 => P (.ex x) ρ h1) h := by
  show wpS (useE _ _ _) P h = _
  rw [s_useE]
@[simp] theorem s_tryS {s k : S} : wpS ((sv T R (.try s k)).s ρ) P h = wpS ((sv T R s).s ρ) (fun f ρ2 h2 => match f with | .ex x => wpS ((sv T R k).h x ρ2) P h2 | f => P f ρ2 h2) h := by
  show wpS (fun h0 => match (sv T R s).s ρ h0 with | some (.ex x, ρ2, h2) => (sv T R k).h x ρ2 h2 | r => r) P h = _
  unfold wpS
  dsimp only
  cases e : (sv T R s).s ρ h with
  | none => rfl
  | some r =>
    obtain ⟨f, ρ', h'⟩ := r
    cases f <;> rfl
@[simp] theorem h_nilS {x : Ex} : wpS ((sv T R .nil).h x ρ) P h = P (.ex x) ρ h := (rfl)
theorem h_other {x : Ex} {C : Str} {oi : Option Nat} {u r : S} (e : T.isA x.cls C = some false) : wpS ((sv T R (.hnd C oi u r)).h x ρ) P h = wpS ((sv T R r).h x ρ) P h := by
  have e2 : (sv T R (.hnd C oi u r)).h x ρ h = (sv T R r).h x ρ h := evH_false e
  unfold wpS
  rw [e2]
theorem h_as {x : Ex} {C : Str} {i : Nat} {u r : S} (e : T.isA x.cls C = some true) (hi : i < ρ.length) (w : wpS ((sv T R u).s (ρ.set i (some (.exn x.cls)))) (fun f ρ2 h2 => match f with
    | .rt v => h2 = h ∧ v.clean = true ∧ P (.rt v) (ρ.set i none) h
    | .nx => h2 = h ∧ cleanEnv (ρ2.set i none) = true ∧ P .nx (ρ2.set i none) h
    | _ => False) h) : wpS ((sv T R (.hnd C (some i) u r)).h x ρ) P h := by
  have e1 : (sv T R (.hnd C (some i) u r)).h x ρ h = if i < ρ.length then suiteA i ρ h ((sv T R u).s (ρ.set i (some (.exn x.cls))) h) else none := evH_as e
  rw [wpS_onR, e1, if_pos hi]
  rw [wpS_onR] at w
  cases e2 : (sv T R u).s (ρ.set i (some (.exn x.cls))) h with
  | none => rw [e2] at w; exact w
  | some q =>
    rw [e2] at w
    obtain ⟨f, ρ2, h2⟩ := q
    cases f with
    | rt v =>
      obtain ⟨rfl, c, p⟩ := w
      simp only [suiteA]
      rw [if_pos ⟨trivial, c⟩]
      exact p
    | nx =>
      obtain ⟨rfl, c, p⟩ := w
      simp only [suiteA]
      rw [if_pos ⟨trivial, c⟩]
      exact p
    | bk => exact w
    | ct => exact w
    | ex y => exact w
end
/-! ### calls -/
/-- a body's end, outside it -/
def endC (tr : Bool) (h : AH) (Q : AV → AH → Prop) (X : Ex → AH → Prop) : Fl → AEnv → AH → Prop := fun f _ h' => match f with
  | .nx => onO Q X (fin tr h .non h')
  | .rt v => onO Q X (fin tr h v h')
  | .ex x => onO Q X (finX h x h')
  | _ => False
theorem wp_call {n : Nat} {tr : Bool} {f : Str} {d : Df} {vs : List AV} {Q : AV → AH → Prop} (e : T.df f = some d) (hn : vs.length = d.n) (w : wpS ((sv T (callN T n) d.body).s (vs.map some ++ List.replicate (d.slots - d.n) none)) (endC tr h Q X) h) : wp (callN T (n + 1) tr f vs) Q X h := by
  rw [wp_onO]
  show onO Q X ((match T.df f with | some d => runD T (callN T n) tr d vs | none => if T.cls f = true then newC (callN T n) f vs else stuck) h)
  rw [e]
  show onO Q X (runD T (callN T n) tr d vs h)
  unfold runD
  rw [if_pos hn]
  unfold wpS at w
  cases e2 : (sv T (callN T n) d.body).s (vs.map some ++ List.replicate (d.slots - d.n) none) h with
  | none => rw [e2] at w; exact w.elim
  | some q =>
    rw [e2] at w
    have e3 : evS T (callN T n) d.body (vs.map some ++ List.replicate (d.slots - d.n) none) h = some q := e2
    rw [e3]
    obtain ⟨f, ρ', h'⟩ := q
    cases f <;> exact w
/-- a new instance -/
theorem wp_new {n : Nat} {tr : Bool} {C : Str} {vs : List AV} {Q : AV → AH → Prop} (e : T.df C = none) (e2 : T.cls C = true) (w : wp (callN T n false (C ++ ".__init__") (.ref h.length :: vs)) (fun z h' => match z with | .non => Q (.ref h.length) h' | _ => False) X (h ++ [.ins C []])) : wp (callN T (n + 1) tr C vs) Q X h := by
  have e3 : callN T (n + 1) tr C vs = newC (callN T n) C vs := by
    show (match T.df C with | some d => runD T (callN T n) tr d vs | none => if T.cls C = true then newC (callN T n) C vs else stuck) = _
    rw [e]
    simp only
    rw [if_pos e2]
  rw [e3]
  show wp (bnd (push (.ins C [])) fun r => bnd (callN T n false (C ++ ".__init__") (r :: vs)) fun z => match z with | .non => ret r | _ => stuck) Q X h
  rw [wp_bnd]
  show wp (bnd (callN T n false (C ++ ".__init__") (.ref h.length :: vs)) fun z => match z with | .non => ret (.ref h.length) | _ => stuck) Q X (h ++ [.ins C []])
  rw [wp_bnd]
  exact wp_mono w (fun z h' q => by cases z <;> exact q) fun _ _ q => q
theorem okPre_same : okPre h h := ⟨Nat.le_refl _, fun _ _ => .inl rfl⟩
theorem okPre_app {r : AH} : okPre h (h ++ r) := ⟨by rw [List.length_append]; omega, fun i hi => .inl (by rw [List.getElem?_append_left hi])⟩
mutual
/-- no number is in it -/
def AV.pure : AV → Bool
  | .tup xs => pureAll xs
  | .lst xs => pureAll xs
  | .ext xs => pureAll xs
  | .ref _ => false
  | _ => true
def pureAll : List AV → Bool
  | [] => true
  | x :: xs => x.pure && pureAll xs
end
mutual
theorem AV.pure_lt {n : Nat} : ∀ {v : AV}, v.pure = true → v.lt n
  | .tup xs, h => pureAll_lt h
  | .lst xs, h => pureAll_lt h
  | .ext xs, h => pureAll_lt h
  | .ref _, h => absurd h Bool.false_ne_true
  | .non, _ | .bl _, _ | .int _, _ | .str _, _ | .exn _, _ | .rep _, _ | .wlk _ _, _ => trivial
theorem pureAll_lt {n : Nat} : ∀ {xs : List AV}, pureAll xs = true → ltAll n xs
  | [], _ => trivial
  | x :: xs, h => by
    have h : (x.pure && pureAll xs) = true := h
    rw [Bool.and_eq_true] at h
    exact ⟨AV.pure_lt h.1, pureAll_lt h.2⟩
end
theorem pureAll_iff {xs : List AV} : pureAll xs = true ↔ ∀ x ∈ xs, x.pure = true := by
  induction xs with
  | nil => simp [pureAll]
  | cons x xs ih =>
    show (x.pure && pureAll xs) = true ↔ _
    rw [Bool.and_eq_true, ih]
    simp
theorem fin_lt {tr : Bool} {v : AV} {h' : AH} (ok : okPre h h') (l : v.lt h.length) : fin tr h v h' = some (.ok v (h'.take h.length)) := by
  unfold fin
  rw [if_pos ok, if_pos l]
theorem fin_same {tr : Bool} {v : AV} (l : v.lt h.length) : fin tr h v h = some (.ok v h) := by
  rw [fin_lt okPre_same l, List.take_length]
theorem fin_app {tr : Bool} {v : AV} {r : AH} (l : v.lt h.length) : fin tr h v (h ++ r) = some (.ok v h) := by
  rw [fin_lt okPre_app l, List.take_left]
theorem fin_new {xs : List AV} {r : AH} (l : ltAll h.length xs) : fin false h (.ref h.length) (h ++ .lst xs :: r) = some (.ok (.lst xs) h) := by
  unfold fin
  rw [if_pos okPre_app, if_neg (show ¬ (AV.ref h.length).lt h.length from Nat.lt_irrefl _)]
  simp only [List.getElem?_append_right (Nat.le_refl _), Nat.sub_self, List.getElem?_cons_zero]
  rw [if_pos l, if_neg Bool.false_ne_true, List.take_left]
theorem finX_same {x : Ex} : finX h x h = some (.exc x h) := by
  unfold finX
  rw [if_pos okPre_same, List.take_length]
theorem finX_app {x : Ex} {r : AH} : finX h x (h ++ r) = some (.exc x h) := by
  unfold finX
  rw [if_pos okPre_app, List.take_left]
@[simp] theorem onO_ok {α : Type} {Q : α → AH → Prop} {E : Ex → AH → Prop} {v : α} : onO Q E (some (.ok v h)) = Q v h := (rfl)
@[simp] theorem onO_exc {α : Type} {Q : α → AH → Prop} {E : Ex → AH → Prop} {x : Ex} : onO Q E (some (.exc x h)) = E x h := (rfl)
/-- what a call gives, known -/
theorem wp_eq {α : Type} {m : M α} {Q : α → AH → Prop} {v : α} {h' : AH} (e : m h = some (.ok v h')) : wp m Q X h = Q v h' := by
  unfold wp
  rw [e]
theorem wp_exc {α : Type} {m : M α} {Q : α → AH → Prop} {x : Ex} {h' : AH} (e : m h = some (.exc x h')) : wp m Q X h = X x h' := by
  unfold wp
  rw [e]
/-- a call's outcome from its backward reading -/
theorem eq_of_wp {α : Type} {m : M α} {v : α} {h' : AH} (w : wp m (fun u h1 => u = v ∧ h1 = h') (fun _ _ => False) h) : m h = some (.ok v h') := by
  unfold wp at w
  cases e : m h with
  | none => rw [e] at w; exact w.elim
  | some o =>
    rw [e] at w
    cases o with
    | ok a b => obtain ⟨rfl, rfl⟩ := w; rfl
    | exc a b => exact w.elim
theorem exc_of_wp {α : Type} {m : M α} {x : Ex} {h' : AH} (w : wp m (fun _ _ => False) (fun u h1 => u = x ∧ h1 = h') h) : m h = some (.exc x h') := by
  unfold wp at w
  cases e : m h with
  | none => rw [e] at w; exact w.elim
  | some o =>
    rw [e] at w
    cases o with
    | ok a b => exact w.elim
    | exc a b => obtain ⟨rfl, rfl⟩ := w; rfl
/-! ### loops -/
theorem stands_free {v : AV} {xs : List AV} (hv : ∀ n, v ≠ .ref n) (hw : ∀ k n, v ≠ .wlk k n := by intro _ _ z; cases z) : stands v xs h = some (.ok () h) := by
  unfold stands
  cases v <;> first | rfl | exact absurd rfl (hv _) | exact absurd rfl (hw _ _)
theorem stands_wl {k n : Nat} {ys zs : List AV} (e : h[n]? = some (.lst ys)) (e2 : wlkA k ys = some zs) : stands (.wlk k n) zs h = some (.ok () h) := by
  unfold stands
  simp [e, e2]
@[simp] theorem wlk_tup {k : Nat} {xs : List AV} : wlkV h k (.tup xs) = (wlkA k xs).map fun ys => (.non, ys) := (rfl)
@[simp] theorem wlk_lst {k : Nat} {xs : List AV} : wlkV h k (.lst xs) = (wlkA k xs).map fun ys => (.non, ys) := (rfl)
@[simp] theorem wlk_ext {k : Nat} {xs : List AV} : wlkV h k (.ext xs) = (wlkA k xs).map fun ys => (.non, ys) := (rfl)
theorem wlk_ref {k n : Nat} {xs : List AV} (e : h[n]? = some (.lst xs)) : wlkV h k (.ref n) = (wlkA k xs).map fun ys => (.wlk k n, ys) := by
  simp [wlkV, getS, getL, e, wlkS]
@[simp] theorem wlkA0 {xs : List AV} : wlkA 0 xs = some (enumA xs) := (rfl)
@[simp] theorem wlkA1 {xs : List AV} : wlkA 1 xs = some xs.reverse := (rfl)
theorem stands_ref {n : Nat} {xs : List AV} (e : h[n]? = some (.lst xs)) : stands (.ref n) xs h = some (.ok () h) := by
  unfold stands
  simp [e]
/-- a for: I by the turns gone -/
theorem w_for {bind : AV → AEnv → Option AEnv} {body : AEnv → MS} {v : AV} {xs : List AV} {P : Fl → AEnv → AH → Prop} (I : Nat → AEnv → AH → Prop) (i0 : I 0 ρ h)
    (st : ∀ i ρ h, I i ρ h → stands v xs h = some (.ok () h))
    (turn : ∀ i x ρ h, xs[i]? = some x → I i ρ h → onS (bind x ρ) fun ρ1 => wpS (body ρ1) (fun f ρ2 h2 => match f with
      | .nx => I (i + 1) ρ2 h2
      | .ct => I (i + 1) ρ2 h2
      | .bk => P .nx ρ2 h2
      | f => P f ρ2 h2) h)
    (done : ∀ ρ h, I xs.length ρ h → P .nx ρ h) : wpS (forL bind body (stands v xs) xs ρ) P h := by
  have go : ∀ (ys : List AV) (i : Nat) (ρ : AEnv) (h : AH), xs = xs.take i ++ ys → i + ys.length = xs.length → I i ρ h → wpS (forL bind body (stands v xs) ys ρ) P h := by
    intro ys
    induction ys with
    | nil =>
      intro i ρ h _ hl hi
      simp only [forL]
      rw [s_useE, wp_eq (st i ρ h hi)]
      have : i = xs.length := by simpa using hl
      subst this
      exact done ρ h hi
    | cons y ys ih =>
      intro i ρ h he hl hi
      have hlt : i < xs.length := by simp at hl; omega
      have ey : xs[i]? = some y := by
        rw [he, List.getElem?_append_right (by simp [List.length_take]; omega)]
        simp [List.length_take, Nat.min_eq_left (Nat.le_of_lt hlt)]
      simp only [forL]
      rw [s_useE, wp_eq (st i ρ h hi)]
      have t := turn i y ρ h ey hi
      cases eb : bind y ρ with
      | none => rw [eb] at t; exact t.elim
      | some ρ1 =>
        rw [eb] at t
        have t : wpS (body ρ1) _ h := t
        have next : ∀ {ρ2 : AEnv} {h2 : AH}, I (i + 1) ρ2 h2 → wpS (forL bind body (stands v xs) ys ρ2) P h2 := fun {ρ2 h2} hi2 => ih (i + 1) ρ2 h2 (by
          have e3 : xs.take (i + 1) = xs.take i ++ [y] := by rw [List.take_add_one, ey]; rfl
          rw [e3, List.append_assoc]
          exact he) (by simp at hl; omega) hi2
        unfold wpS at t ⊢
        dsimp only
        cases e2 : body ρ1 h with
        | none => rw [e2] at t; exact t.elim
        | some q =>
          rw [e2] at t
          obtain ⟨f, ρ2, h2⟩ := q
          cases f with
          | nx => exact next t
          | ct => exact next t
          | bk => exact t
          | rt w => exact t
          | ex w => exact t
  exact go xs 0 ρ h (by simp) (by simp) i0
/-- a while: I with a measure -/
theorem w_while {c : E} {s : S} {P : Fl → AEnv → AH → Prop} (I : Nat → AEnv → AH → Prop) {m : Nat} (i0 : I m ρ h)
    (turn : ∀ m ρ h, I m ρ h → wp ((ev T R c).t ρ) (fun b h1 => if b = true then wpS ((sv T R s).s ρ) (fun f ρ2 h2 => match f with
      | .nx => ∃ m', m' < m ∧ I m' ρ2 h2
      | .ct => ∃ m', m' < m ∧ I m' ρ2 h2
      | .bk => P .nx ρ2 h2
      | f => P f ρ2 h2) h1 else P .nx ρ h1) (fun x h1 => P (.ex x) ρ h1) h) : wpS ((sv T R (.while c s)).s ρ) P h := by
  have go : ∀ (m : Nat) (ρ : AEnv) (h : AH), I m ρ h → ∃ n, ∃ f ρ' h', whlN (fun ρ => (ev T R c).t ρ) (fun ρ => (sv T R s).s ρ) n ρ h = some (f, ρ', h') ∧ P f ρ' h' := by
    intro m
    induction m using Nat.strongRecOn with
    | ind m ih =>
      intro ρ h hi
      have t := turn m ρ h hi
      unfold wp at t
      cases e : (ev T R c).t ρ h with
      | none => rw [e] at t; exact t.elim
      | some o =>
        rw [e] at t
        cases o with
        | exc x h1 => exact ⟨1, .ex x, ρ, h1, by simp only [whlN, useE, e], t⟩
        | ok b h1 =>
          cases b with
          | false => exact ⟨1, .nx, ρ, h1, by simp [whlN, useE, e, Z.done], t⟩
          | true =>
            have t : wpS ((sv T R s).s ρ) _ h1 := t
            unfold wpS at t
            cases e2 : (sv T R s).s ρ h1 with
            | none => rw [e2] at t; exact t.elim
            | some q =>
              rw [e2] at t
              obtain ⟨f, ρ2, h2⟩ := q
              have next : (∃ m', m' < m ∧ I m' ρ2 h2) → (f = .nx ∨ f = .ct) → ∃ n, ∃ f ρ' h', whlN (fun ρ => (ev T R c).t ρ) (fun ρ => (sv T R s).s ρ) n ρ h = some (f, ρ', h') ∧ P f ρ' h' := fun ⟨m', hm, hi'⟩ hf => by
                obtain ⟨n, g, ρ3, h3, e3, p⟩ := ih m' hm ρ2 h2 hi'
                refine ⟨n + 1, g, ρ3, h3, ?_, p⟩
                rcases hf with rfl | rfl <;> simp [whlN, useE, e, e2, e3]
              cases f with
              | nx => exact next t (.inl rfl)
              | ct => exact next t (.inr rfl)
              | bk => exact ⟨1, .nx, ρ2, h2, by simp [whlN, useE, e, e2], t⟩
              | rt v => exact ⟨1, .rt v, ρ2, h2, by simp [whlN, useE, e, e2], t⟩
              | ex v => exact ⟨1, .ex v, ρ2, h2, by simp [whlN, useE, e, e2], t⟩
  obtain ⟨n, f, ρ', h', e, p⟩ := go m ρ h i0
  have mono : ∀ (n k : Nat) (ρ : AEnv) (h : AH) r, whlN (fun ρ => (ev T R c).t ρ) (fun ρ => (sv T R s).s ρ) n ρ h = some r → whlN (fun ρ => (ev T R c).t ρ) (fun ρ => (sv T R s).s ρ) (n + k) ρ h = some r := by
    intro n
    induction n with
    | zero => intro k ρ h r e; cases e
    | succ n ih =>
      intro k ρ h r e
      rw [Nat.succ_add]
      simp only [whlN, useE] at e ⊢
      cases e1 : (ev T R c).t ρ h with
      | none => rw [e1] at e; cases e
      | some o =>
        rw [e1] at e
        cases o with
        | exc x h1 => exact e
        | ok b h1 =>
          cases b with
          | false => exact e
          | true =>
            simp only [if_true] at e ⊢
            cases e2 : (sv T R s).s ρ h1 with
            | none => rw [e2] at e; cases e
            | some q =>
              rw [e2] at e
              obtain ⟨f, ρ2, h2⟩ := q
              cases f with
              | nx => exact ih k _ _ _ e
              | ct => exact ih k _ _ _ e
              | bk => exact e
              | rt v => exact e
              | ex v => exact e
  show wpS (whl (fun ρ => (ev T R c).t ρ) (fun ρ => (sv T R s).s ρ) ρ) P h
  unfold wpS whl
  have x : ∃ n r, whlN (fun ρ => (ev T R c).t ρ) (fun ρ => (sv T R s).s ρ) n ρ h = some r := ⟨n, _, e⟩
  rw [dif_pos x]
  have e' := x.choose_spec.choose_spec
  have same : x.choose_spec.choose = (f, ρ', h') := by
    have a := mono n x.choose ρ h _ e
    have b := mono x.choose n ρ h _ e'
    rw [Nat.add_comm] at b
    rw [a] at b
    exact (Option.some.inj b).symm
  rw [same]
  exact p
/-- a comprehension: I by the turns gone and what stands -/
theorem w_compL {bind : AV → Option AEnv} {cond : AEnv → M Bool} {elt : AEnv → M AV} {v : AV} {xs : List AV} {Q : List AV → AH → Prop} (I : Nat → List AV → AH → Prop) (i0 : I 0 [] h)
    (st : ∀ i acc h, I i acc h → stands v xs h = some (.ok () h))
    (turn : ∀ i x acc h, xs[i]? = some x → I i acc h → onS (bind x) fun ρ => wp (cond ρ) (fun b h1 => if b = true then wp (elt ρ) (fun y h2 => I (i + 1) (acc ++ [y]) h2) X h1 else I (i + 1) acc h1) X h)
    (done : ∀ acc h, I xs.length acc h → Q acc h) : wp (compL bind cond elt (stands v xs) [] xs) Q X h := by
  have go : ∀ (ys : List AV) (i : Nat) (acc : List AV) (h : AH), xs = xs.take i ++ ys → i + ys.length = xs.length → I i acc h → wp (compL bind cond elt (stands v xs) acc ys) Q X h := by
    intro ys
    induction ys with
    | nil =>
      intro i acc h _ hl hi
      simp only [compL]
      rw [wp_bnd, wp_eq (st i acc h hi)]
      have : i = xs.length := by simpa using hl
      subst this
      exact done acc h hi
    | cons y ys ih =>
      intro i acc h he hl hi
      have hlt : i < xs.length := by simp at hl; omega
      have ey : xs[i]? = some y := by
        rw [he, List.getElem?_append_right (by simp [List.length_take]; omega)]
        simp [List.length_take, Nat.min_eq_left (Nat.le_of_lt hlt)]
      have next : ∀ {acc2 : List AV} {h2 : AH}, I (i + 1) acc2 h2 → wp (compL bind cond elt (stands v xs) acc2 ys) Q X h2 := fun {acc2 h2} hi2 => ih (i + 1) acc2 h2 (by
        have e3 : xs.take (i + 1) = xs.take i ++ [y] := by rw [List.take_add_one, ey]; rfl
        rw [e3, List.append_assoc]
        exact he) (by simp at hl; omega) hi2
      simp only [compL]
      rw [wp_bnd, wp_eq (st i acc h hi)]
      have t := turn i y acc h ey hi
      cases eb : bind y with
      | none => rw [eb] at t; exact t.elim
      | some ρ1 =>
        rw [eb] at t
        have t : wp (cond ρ1) _ X h := t
        show wp (bnd _ _) Q X h
        rw [wp_bnd]
        refine wp_mono t (fun b h1 k => ?_) fun _ _ z => z
        cases b with
        | false => exact next k
        | true =>
          show wp (bnd _ _) Q X h1
          rw [wp_bnd]
          exact wp_mono k (fun y h2 k2 => next k2) fun _ _ z => z
  exact go xs 0 [] h (by simp) (by simp) i0
end
theorem compL_app {bind : AV → Option AEnv} {cond : AEnv → M Bool} {elt : AEnv → M AV} {st : M Unit} : ∀ {xs acc : List AV}, compL bind cond elt st acc xs = bnd (compL bind cond elt st [] xs) fun ys => ret (acc ++ ys)
  | [], acc => by simp only [compL, bnd_assoc, ret_bnd, List.append_nil]
  | x :: xs, acc => by
    simp only [compL, bnd_assoc]
    congr 1
    funext _
    cases bind x with
    | none => rfl
    | some ρ =>
      simp only [bnd_assoc]
      congr 1
      funext b
      cases b with
      | false => exact compL_app
      | true =>
        simp only [if_true, bnd_assoc]
        congr 1
        funext v
        rw [compL_app (acc := acc ++ [v]), compL_app (acc := [] ++ [v]), bnd_assoc]
        congr 1
        funext ys
        simp [ret_bnd]
section
variable {T : Tb} {R : Rec} {ρ : AEnv} {h : AH} {X : Ex → AH → Prop}
/-- a comprehension of two fors: I by the turns of the outer one -/
theorem w_compO {bind : AV → Option AEnv} {src : AEnv → M (AV × List AV)} {inner : AEnv → AV → List AV → List AV → M (List AV)} {v : AV} {xs : List AV} {Q : List AV → AH → Prop} (I : Nat → List AV → AH → Prop) (i0 : I 0 [] h)
    (st : ∀ i acc h, I i acc h → stands v xs h = some (.ok () h))
    (turn : ∀ i x acc h, xs[i]? = some x → I i acc h → onS (bind x) fun ρ => wp (src ρ) (fun p h1 => acc.length + p.2.length ≤ big ∧ wp (inner ρ p.1 acc p.2) (fun acc' h2 => I (i + 1) acc' h2) X h1) X h)
    (done : ∀ acc h, I xs.length acc h → Q acc h) : wp (compO bind src inner (stands v xs) [] xs) Q X h := by
  have go : ∀ (ys : List AV) (i : Nat) (acc : List AV) (h : AH), xs = xs.take i ++ ys → i + ys.length = xs.length → I i acc h → wp (compO bind src inner (stands v xs) acc ys) Q X h := by
    intro ys
    induction ys with
    | nil =>
      intro i acc h _ hl hi
      simp only [compO]
      rw [wp_bnd, wp_eq (st i acc h hi)]
      have : i = xs.length := by simpa using hl
      subst this
      exact done acc h hi
    | cons y ys ih =>
      intro i acc h he hl hi
      have hlt : i < xs.length := by simp at hl; omega
      have ey : xs[i]? = some y := by
        rw [he, List.getElem?_append_right (by simp [List.length_take]; omega)]
        simp [List.length_take, Nat.min_eq_left (Nat.le_of_lt hlt)]
      have next : ∀ {acc2 : List AV} {h2 : AH}, I (i + 1) acc2 h2 → wp (compO bind src inner (stands v xs) acc2 ys) Q X h2 := fun {acc2 h2} hi2 => ih (i + 1) acc2 h2 (by
        have e3 : xs.take (i + 1) = xs.take i ++ [y] := by rw [List.take_add_one, ey]; rfl
        rw [e3, List.append_assoc]
        exact he) (by simp at hl; omega) hi2
      simp only [compO]
      rw [wp_bnd, wp_eq (st i acc h hi)]
      have t := turn i y acc h ey hi
      cases eb : bind y with
      | none => rw [eb] at t; exact t.elim
      | some ρ1 =>
        rw [eb] at t
        have t : wp (src ρ1) _ X h := t
        show wp (bnd _ _) Q X h
        rw [wp_bnd]
        refine wp_mono t (fun p h1 k => ?_) fun _ _ z => z
        rw [if_pos k.1, wp_bnd]
        exact wp_mono k.2 (fun acc' h2 k2 => next k2) fun _ _ z => z
  exact go xs 0 [] h (by simp) (by simp) i0
end
/-! ### the operations, as simp reckons them -/
section
variable {h : AH}
@[simp] theorem onS_ite {α : Type} {c : Prop} [Decidable c] {v : α} {P : α → Prop} : onS (if c then some v else none) P = (c ∧ P v) := by
  by_cases z : c <;> simp [z]
@[simp] theorem o_add {i j : Int} : binV h .add (.int i) (.int j) = some (.int (i + j)) := (rfl)
@[simp] theorem o_sub {i j : Int} : binV h .sub (.int i) (.int j) = some (.int (i - j)) := (rfl)
@[simp] theorem o_mul {i j : Int} : binV h .mul (.int i) (.int j) = if smallI i ∨ smallI j then some (.int (i * j)) else none := (rfl)
@[simp] theorem o_mod {i j : Int} (hj : 0 < j) : binV h .mod (.int i) (.int j) = some (.int (i % j)) := if_pos hj
theorem o_modN {i j : Int} (hj : j < 0) : binV h .mod (.int i) (.int j) = some (.int (i.fmod j)) := by
  show (if 0 < j then some (AV.int (i % j)) else if j < 0 then some (.int (i.fmod j)) else none) = _
  rw [if_neg (by omega), if_pos hj]
@[simp] theorem o_fdiv {i j : Int} (hj : 0 < j) (h2 : j < 1606938044258990275541962092341162602522202993782792835301376) : binV h .fdiv (.int i) (.int j) = some (.int (i / j)) := if_pos ⟨hj, h2⟩
theorem o_fdivN {i j : Int} (hj : j < 0) (h2 : -1606938044258990275541962092341162602522202993782792835301376 < j) : binV h .fdiv (.int i) (.int j) = some (.int (i.fdiv j)) := by
  show (if 0 < j ∧ j < 1606938044258990275541962092341162602522202993782792835301376 then some (AV.int (i / j)) else if j < 0 ∧ -1606938044258990275541962092341162602522202993782792835301376 < j then some (.int (i.fdiv j)) else none) = _
  rw [if_neg (by omega), if_pos ⟨hj, h2⟩]
@[simp] theorem o_pow {i j : Int} : binV h .pow (.int i) (.int j) = if 0 ≤ j ∧ j ≤ 1000000 ∧ i.natAbs < 2 ^ 64 then some (.int (i ^ j.toNat)) else none := (rfl)
@[simp] theorem o_addT {xs ys : List AV} : binV h .add (.tup xs) (.tup ys) = if xs.length + ys.length ≤ big then some (.tup (xs ++ ys)) else none := (rfl)
@[simp] theorem o_mulT {xs : List AV} {k : Int} : binV h .mul (.tup xs) (.int k) = if xs ≠ [] ∧ 1 ≤ k ∧ k ≤ 1000 ∧ xs.length ≤ 1000 then some (.tup (List.replicate k.toNat xs).flatten) else none := (rfl)
@[simp] theorem o_addL {xs ys : List AV} : binV h .add (.lst xs) (.lst ys) = if xs.length + ys.length ≤ big then some (.lst (xs ++ ys)) else none := (rfl)
@[simp] theorem o_addS {x y : Str} : binV h .add (.str x) (.str y) = if x.length + y.length ≤ big then some (.str (x ++ y)) else none := (rfl)
@[simp] theorem k_lt {i j : Int} : cmpV h .lt (.int i) (.int j) = some (decide (i < j)) := (rfl)
@[simp] theorem k_le {i j : Int} : cmpV h .le (.int i) (.int j) = some (decide (i ≤ j)) := (rfl)
@[simp] theorem k_gt {i j : Int} : cmpV h .gt (.int i) (.int j) = some (decide (j < i)) := (rfl)
@[simp] theorem k_ge {i j : Int} : cmpV h .ge (.int i) (.int j) = some (decide (j ≤ i)) := (rfl)
theorem eqv_int {i j : Int} : PyData.eqv (.int i) (.int j) = decide (i = j) := by
  by_cases e : i = j <;> simp [PyData.eqv, e]
@[simp] theorem k_eqI {i j : Int} : cmpV h .eq (.int i) (.int j) = some (decide (i = j)) := by
  show (if min (PyData.depth (.int i)) (PyData.depth (.int j)) ≤ 64 then some (PyData.eqv (.int i) (.int j)) else none) = _
  rw [if_pos (by simp [PyData.depth]), eqv_int]
@[simp] theorem k_neI {i j : Int} : cmpV h .ne (.int i) (.int j) = some (!decide (i = j)) := by
  show (cmpV h .eq (.int i) (.int j)).map (!·) = _
  rw [k_eqI]
  rfl
theorem eqv_bl {i j : Bool} : PyData.eqv (.bool i) (.bool j) = decide (i = j) := by cases i <;> cases j <;> rfl
@[simp] theorem k_eqB {i j : Bool} : cmpV h .eq (.bl i) (.bl j) = some (decide (i = j)) := by
  show (if min (PyData.depth (.bool i)) (PyData.depth (.bool j)) ≤ 64 then some (PyData.eqv (.bool i) (.bool j)) else none) = _
  rw [if_pos (by simp [PyData.depth]), eqv_bl]
@[simp] theorem k_neB {i j : Bool} : cmpV h .ne (.bl i) (.bl j) = some (!decide (i = j)) := by
  show (cmpV h .eq (.bl i) (.bl j)).map (!·) = _
  rw [k_eqB]
  rfl
theorem eqv_str {i j : Str} : PyData.eqv (.str i) (.str j) = decide (i = j) := by
  by_cases e : i = j <;> simp [PyData.eqv, e]
@[simp] theorem k_eqS {i j : Str} : cmpV h .eq (.str i) (.str j) = some (decide (i = j)) := by
  show (if min (PyData.depth (.str i)) (PyData.depth (.str j)) ≤ 64 then some (PyData.eqv (.str i) (.str j)) else none) = _
  rw [if_pos (by simp [PyData.depth]), eqv_str]
@[simp] theorem k_neS {i j : Str} : cmpV h .ne (.str i) (.str j) = some (!decide (i = j)) := by
  show (cmpV h .eq (.str i) (.str j)).map (!·) = _
  rw [k_eqS]
  rfl
@[simp] theorem k_isN0 : cmpV h .isN .non .non = some true := (rfl)
@[simp] theorem b_int {i : Int} : bfV h .int [.int i] = some (.int i) := (rfl)
@[simp] theorem b_intB {b : Bool} : bfV h .int [.bl b] = some (.int (if b then 1 else 0)) := (rfl)
def absI (i : Int) : Int := if i < 0 then -i else i
@[simp] theorem b_abs {i : Int} : bfV h .abs [.int i] = some (.int (absI i)) := (rfl)
@[simp] theorem b_lenL {xs : List AV} : bfV h .len [.lst xs] = some (.int xs.length) := (rfl)
@[simp] theorem b_lenT {xs : List AV} : bfV h .len [.tup xs] = some (.int xs.length) := (rfl)
@[simp] theorem b_tupL {xs : List AV} : bfV h .tuple [.lst xs] = some (.tup xs) := (rfl)
@[simp] theorem b_tupT {xs : List AV} : bfV h .tuple [.tup xs] = some (.tup xs) := (rfl)
@[simp] theorem b_lstL {xs : List AV} : bfV h .list [.lst xs] = some (.lst xs) := (rfl)
@[simp] theorem b_lstT {xs : List AV} : bfV h .list [.tup xs] = some (.lst xs) := (rfl)
@[simp] theorem bind_var {i : Nat} {v : AV} {ρ : AEnv} : bindT (.var i) v ρ = if i < ρ.length then some (ρ.set i (some v)) else none := (rfl)
@[simp] theorem r_one {j : Int} : rngOf [.int j] = if -(2 ^ 62) ≤ j ∧ j < 2 ^ 62 then some (rngA 0 j.toNat) else none := (rfl)
@[simp] theorem r_two {i j : Int} : rngOf [.int i, .int j] = if -(2 ^ 62) ≤ i ∧ i < 2 ^ 62 ∧ -(2 ^ 62) ≤ j ∧ j < 2 ^ 62 then some (rngA i (j - i).toNat) else none := (rfl)
@[simp] theorem it_lst {xs : List AV} : itemsOf h (.lst xs) = some xs := (rfl)
@[simp] theorem it_tup {xs : List AV} : itemsOf h (.tup xs) = some xs := (rfl)
theorem rngA_get {lo : Int} {n i : Nat} {x : AV} (e : (rngA lo n)[i]? = some x) : i < n ∧ x = .int (lo + i) := by
  unfold rngA at e
  rw [List.getElem?_map] at e
  by_cases q : i < n
  · rw [List.getElem?_range q] at e
    cases e
    exact ⟨q, rfl⟩
  · rw [List.getElem?_eq_none (by simpa using q)] at e
    cases e
theorem rngA_len {lo : Int} {n : Nat} : (rngA lo n).length = n := by simp [rngA]
theorem ix_tupN {xs : List AV} {i : Nat} {x : AV} (e : xs[i]? = some x) : ixV h (.tup xs) (.int i) = some x := by
  show L2.atI xs i = some x
  exact L2.atI_nat e
theorem ix_lstN {xs : List AV} {i : Nat} {x : AV} (e : xs[i]? = some x) : ixV h (.lst xs) (.int i) = some x := by
  show L2.atI xs i = some x
  exact L2.atI_nat e
@[simp] theorem wipeA_nil {ρ : AEnv} : wipeA ρ [] = ρ := (rfl)
@[simp] theorem wipeA_cons {ρ : AEnv} {v : Nat} {vs : List Nat} : wipeA ρ (v :: vs) = (wipeA ρ vs).set v none := (rfl)
theorem end_same {tr : Bool} {Q : AV → AH → Prop} {X : Ex → AH → Prop} {v : AV} {ρ : AEnv} (p : v.lt h.length) (q : Q v h) : endC tr h Q X (.rt v) ρ h := by
  show onO Q X (fin tr h v h)
  rw [fin_same p]
  exact q
theorem end_exc {tr : Bool} {Q : AV → AH → Prop} {X : Ex → AH → Prop} {x : Ex} {ρ : AEnv} (q : X x h) : endC tr h Q X (.ex x) ρ h := by
  show onO Q X (finX h x h)
  rw [finX_same]
  exact q
theorem end_nx {tr : Bool} {Q : AV → AH → Prop} {X : Ex → AH → Prop} {ρ : AEnv} (q : Q .non h) : endC tr h Q X .nx ρ h := by
  show onO Q X (fin tr h .non h)
  rw [fin_same (v := .non) (by simp [AV.lt])]
  exact q
end
end Z

set_option Elab.async false
set_option linter.all false
set_option maxRecDepth 100000
set_option autoImplicit false
set_option maxHeartbeats 1000000
/-! ZS: the defs that all laws share. -/
namespace Z
open PySem
def sDigit : S := (.seq (.exp (.md .append (.var 1) (.cons (.bin .mod (.bf .int (.cons (.var 3) (.nil))) (.int 1009)) (.nil))))
(.seq (.asg (.var 3) (.bin .fdiv (.var 3) (.int 1009)))
(.seq (.ite (.cmp .eq (.var 3) (.int 0)) (.seq (.brk)
(.nil)) (.nil))
(.nil))))
def sMix : S := (.seq (.asg (.var 5) (.bin .mod (.bf .int (.cons (.bin .add (.bin .add (.bin .mul (.var 5) (.int 48271)) (.bin .mul (.int 7) (.var 4))) (.int 11)) (.nil))) (.int 2147483647)))
(.seq (.exp (.md .append (.var 1) (.cons (.bin .mod (.bin .mod (.bf .int (.cons (.bin .add (.bin .mul (.var 5) (.int 69621)) (.var 4)) (.nil))) (.int 2147483629)) (.int 1009)) (.nil))))
(.nil)))
def sCell : S := (.seq (.asg (.var 3) (.bf .abs (.cons (.bf .int (.cons (.var 2) (.nil))) (.nil))))
(.seq (.ite (.cmp .ge (.var 3) (.bin .pow (.int 10) (.int 18))) (.seq (.for (.var 4) (.rng (.cons (.int 60) (.nil))) sDigit)
(.nil)) (.seq (.asg (.var 5) (.bin .mod (.bf .int (.cons (.var 3) (.nil))) (.int 2147483647)))
(.seq (.for (.var 4) (.rng (.cons (.int 10) (.nil))) sMix)
(.nil))))
(.nil)))
def d_stream : Df := ⟨1, 6, (.seq (.asg (.var 1) (.own (.lst (.nil))))
(.seq (.for (.var 2) (.slc (.var 0) .non (.int 63)) sCell)
(.seq (.ite (.cmp .eq (.bf .len (.cons (.var 1) (.nil))) (.int 0)) (.seq (.exp (.md .append (.var 1) (.cons (.int 0) (.nil))))
(.nil)) (.nil))
(.seq (.ret (.var 1))
(.nil)))))⟩
def d_next : Df := ⟨2, 3, (.seq (.sub (.var 0) (.int 1) (.bin .add (.idx (.var 0) (.int 1)) (.int 1)))
(.seq (.asg (.var 2) (.bin .fdiv (.idx (.var 0) (.int 1)) (.bf .len (.cons (.idx (.var 0) (.int 0)) (.nil)))))
(.seq (.ret (.bin .mod (.bf .int (.cons (.bin .add (.bin .add (.idx (.idx (.var 0) (.int 0)) (.bin .mod (.idx (.var 0) (.int 1)) (.bf .len (.cons (.idx (.var 0) (.int 0)) (.nil))))) (.bin .mul (.var 2) (.int 389))) (.bin .mul (.bin .mul (.idx (.var 0) (.int 1)) (.var 2)) (.int 17))) (.nil))) (.var 1)))
(.nil))))⟩
section
variable {T : Tb} {R : Rec} {h : AH} {X : Ex → AH → Prop}
/-- what stands for a list of ints that grows -/
def Grown (h : AH) (L : Nat) (h' : AH) : Prop := ∃ ms : List Int, h' = h ++ [.lst (ms.map .int)] ∧ ms.length ≤ L
theorem put_eq {ms : List Int} {i : Int} (hl : ms.length < big) : mdV .append (.ref h.length) [.int i] (h ++ [.lst (ms.map .int)]) = some (.ok .non (h ++ [.lst ((ms ++ [i]).map .int)])) := by
  have hl' : (ms.map AV.int).length < big := by rw [List.length_map]; exact hl
  simp only [mdV, List.getElem?_append_right (Nat.le_refl _), Nat.sub_self, List.getElem?_cons_zero]
  rw [if_pos hl']
  simp [List.set_append_right]
theorem Grown.put {L : Nat} {h' : AH} {i : Int} {Q : AV → AH → Prop} (g : Grown h L h') (hl : L < big) (q : ∀ h2, Grown h (L + 1) h2 → Q .non h2) : wp (mdV .append (.ref h.length) [.int i]) Q X h' := by
  obtain ⟨ms, rfl, hm⟩ := g
  rw [wp_eq (put_eq (by omega))]
  exact q _ ⟨ms ++ [i], rfl, by simp; omega⟩
theorem Grown.pre {L : Nat} {h' : AH} (g : Grown h L h') {m : Md} (hm : m ≠ .get) (hu : m ≠ .update) : mdPre h' m (.ref h.length) = some () := by
  obtain ⟨ms, rfl, _⟩ := g
  cases m <;> first | exact absurd rfl hm | exact absurd rfl hu | (simp [mdPre, getL, List.getElem?_append_right (Nat.le_refl _)])
theorem Grown.mono {L M : Nat} {h' : AH} (g : Grown h L h') (k : L ≤ M) : Grown h M h' := by
  obtain ⟨ms, e, hm⟩ := g
  exact ⟨ms, e, Nat.le_trans hm k⟩
theorem digit_ok {h' : AH} {L : Nat} {P : Fl → AEnv → AH → Prop} {a c d : Option AV} {k : Option AV} {rest : Int} (g : Grown h L h') (hl : L < big)
    (q : ∀ f rest' h2, f = .nx ∨ f = .bk → Grown h (L + 1) h2 → P f [a, some (.ref h.length), c, some (.int rest'), k, d] h2) :
    wpS ((sv T R sDigit).s [a, some (.ref h.length), c, some (.int rest), k, d]) P h' := by
  simp only [sDigit]
  simp [g.pre]
  refine g.put hl fun h2 g2 => ?_
  split
  · exact q _ _ _ (.inr rfl) g2
  · exact q _ _ _ (.inl rfl) g2
theorem mix_ok {h' : AH} {L : Nat} {P : Fl → AEnv → AH → Prop} {a c d : Option AV} {k mixed : Int} (g : Grown h L h') (hl : L < big)
    (q : ∀ mixed' h2, Grown h (L + 1) h2 → P .nx [a, some (.ref h.length), c, d, some (.int k), some (.int mixed')] h2) :
    wpS ((sv T R sMix).s [a, some (.ref h.length), c, d, some (.int k), some (.int mixed)]) P h' := by
  simp only [sMix]
  simp [g.pre, smallI]
  refine g.put hl fun h2 g2 => ?_
  exact q _ _ g2
theorem cell_ok {h' : AH} {L : Nat} {P : Fl → AEnv → AH → Prop} {a d k m : Option AV} {i : Int} (g : Grown h L h') (hl : L + 60 < big)
    (q : ∀ d k m h2, Grown h (L + 60) h2 → P .nx [a, some (.ref h.length), some (.int i), d, k, m] h2) :
    wpS ((sv T R sCell).s [a, some (.ref h.length), some (.int i), d, k, m]) P h' := by
  simp only [sCell]
  simp [smallI]
  split
  · refine w_for (fun j ρ h2 => ∃ rest k, ρ = [a, some (.ref h.length), some (.int i), some (.int rest), k, m] ∧ Grown h (L + j) h2) ⟨_, _, rfl, g⟩ (fun _ _ _ _ => stands_free fun _ z => nomatch z) (fun j x ρ h2 e hi => ?_) (fun ρ h2 hi => ?_)
    · obtain ⟨rest, k, rfl, g2⟩ := hi
      obtain ⟨hj, rfl⟩ := rngA_get e
      refine onS_of rfl (digit_ok g2 (by omega) fun f rest' h3 hf g3 => ?_)
      rcases hf with rfl | rfl
      · exact ⟨_, _, rfl, g3⟩
      · exact q _ _ _ _ (g3.mono (by omega))
    · obtain ⟨rest, k, rfl, g2⟩ := hi
      rw [rngA_len] at g2
      exact q _ _ _ _ (g2.mono (by simp))
  · refine w_for (fun j ρ h2 => ∃ k mixed, ρ = [a, some (.ref h.length), some (.int i), some (.int (absI i)), k, some (.int mixed)] ∧ Grown h (L + j) h2) ⟨_, _, rfl, g⟩ (fun _ _ _ _ => stands_free fun _ z => nomatch z) (fun j x ρ h2 e hi => ?_) (fun ρ h2 hi => ?_)
    · obtain ⟨k, mixed, rfl, g2⟩ := hi
      obtain ⟨hj, rfl⟩ := rngA_get e
      exact onS_of rfl (mix_ok g2 (by omega) fun mixed' h3 g3 => ⟨_, _, rfl, g3⟩)
    · obtain ⟨k, mixed, rfl, g2⟩ := hi
      rw [rngA_len] at g2
      exact q _ _ _ _ (g2.mono (by simp))
theorem cut_take {α : Type} {xs : List α} {k : Nat} : cut xs none (some (k : Int)) = xs.take k := by
  unfold cut
  rw [HT.sIx_none, show HT.sIx xs.length xs.length (some (k : Int)) = min k xs.length from HT.sIx_nat _ _ _]
  rw [List.drop_zero, Nat.sub_zero]
  exact List.take_eq_take_iff.mpr (by omega)
theorem stream_ok {n : Nat} {ns : List Int} {Q : AV → AH → Prop} (e : T.df "_law_stream" = some d_stream) (q : ∀ ms : List Int, ms ≠ [] → ms.length ≤ 3781 → Q (.lst (ms.map .int)) h) :
    wp (callN T (n + 1) false "_law_stream" [.ext (ns.map .int)]) Q X h := by
  refine wp_call e rfl ?_
  simp only [d_stream]
  simp [slV, getL]
  have hc : cut (ns.map AV.int) none (some 63) = (ns.take 63).map AV.int := by
    rw [show (63 : Int) = ((63 : Nat) : Int) from rfl, cut_take, List.map_take]
  rw [hc]
  refine w_for (fun j ρ h2 => ∃ c d k m, ρ = [some (.ext (ns.map AV.int)), some (.ref h.length), c, d, k, m] ∧ Grown h (60 * j) h2) ⟨_, _, _, _, rfl, [], by rfl, by simp⟩ (fun _ _ _ _ => stands_free fun _ z => nomatch z) (fun j x ρ h2 e hi => ?_) (fun ρ h2 hi => ?_)
  · obtain ⟨c, d, k, m, rfl, g⟩ := hi
    rw [List.getElem?_map, Option.map_eq_some_iff] at e
    obtain ⟨i, e, rfl⟩ := e
    have hj : j < 63 := by
      have := (List.getElem?_eq_some_iff.mp e).1
      rw [List.length_take] at this
      omega
    refine onS_of rfl (cell_ok g (by unfold big; omega) fun d k m h3 g3 => ⟨_, _, _, _, rfl, g3.mono (by omega)⟩)
  · obtain ⟨c, d, k, m, rfl, ms, rfl, hm⟩ := hi
    have hl : ms.length ≤ 3780 := by
      have : (ns.take 63).length ≤ 63 := by rw [List.length_take]; omega
      rw [List.length_map] at hm
      omega
    have len : bfV (h ++ [.lst (ms.map .int)]) .len [.ref h.length] = some (.int ms.length) := by
      simp [bfV, bf1, getS, getL]
    simp [len]
    have ret : ∀ ms : List Int, ms ≠ [] → ms.length ≤ 3781 → endC false h Q X (.rt (.ref h.length)) [some (.ext (ns.map AV.int)), some (.ref h.length), c, d, k, m] (h ++ [.lst (ms.map .int)]) := fun ms hn hl => by
      show onO Q X (fin false h (.ref h.length) (h ++ .lst (ms.map .int) :: []))
      rw [fin_new (pureAll_lt (pureAll_iff.mpr fun x hx => by
        simp only [List.mem_map] at hx
        obtain ⟨i, _, rfl⟩ := hx
        rfl))]
      exact q ms hn hl
    split
    · rename_i e0
      subst e0
      have pre : mdPre (h ++ [.lst (([] : List Int).map .int)]) .append (.ref h.length) = some () := by simp [mdPre, getL]
      rw [pre]
      rw [onS_some, wp_eq (put_eq (ms := []) (by unfold big; simp))]
      exact ret [0] (by simp) (by simp)
    · rename_i e0
      exact ret ms e0 (by omega)
/-! ### _law_next -/
theorem okPre_set {r : Nat} {o : AO} (l : o.lt h.length) : okPre h (h.set r o) := ⟨by rw [List.length_set]; omega, fun i hi => by
  by_cases e : r = i
  · subst e
    exact .inr ⟨o, by rw [List.getElem?_set_self hi], l⟩
  · exact .inl (by rw [List.getElem?_set_ne e])⟩
theorem fin_set {tr : Bool} {r : Nat} {o : AO} {v : AV} (l : o.lt h.length) (p : v.lt h.length) : fin tr h v (h.set r o) = some (.ok v (h.set r o)) := by
  rw [fin_lt (okPre_set l) p]
  congr 2
  exact List.take_of_length_le (by rw [List.length_set]; omega)
/-- the numbers of a law and the counter -/
def drawO (ms : List Int) (c : Int) : AO := .lst [.lst (ms.map .int), .int c]
theorem drawO_lt {ms : List Int} {c : Int} {k : Nat} : (drawO ms c).lt k := by
  refine ⟨?_, trivial, trivial⟩
  exact pureAll_lt (pureAll_iff.mpr fun x hx => by
    simp only [List.mem_map] at hx
    obtain ⟨i, _, rfl⟩ := hx
    rfl)
theorem draw_ix1 {ms : List Int} {c : Int} {r : Nat} (hs : h[r]? = some (drawO ms c)) : ixV h (.ref r) (.int 1) = some (.int c) := by
  simp only [ixV, getS, getL, hs, drawO]
  rfl
theorem draw_ix0 {ms : List Int} {c : Int} {r : Nat} (hs : h[r]? = some (drawO ms c)) : ixV h (.ref r) (.int 0) = some (.lst (ms.map .int)) := by
  simp only [ixV, getS, getL, hs, drawO]
  rfl
theorem draw_set {ms : List Int} {c d : Int} {r : Nat} (hs : h[r]? = some (drawO ms c)) : setA (.ref r) (.int 1) (.int d) h = some (.ok () (h.set r (drawO ms d))) := by
  simp only [setA, hs, drawO]
  rfl
theorem next_ok {n r : Nat} {ms : List Int} {c many : Int} {Q : AV → AH → Prop} (e : T.df "_law_next" = some d_next) (hs : h[r]? = some (drawO ms c)) (hm : ms ≠ []) (hl : ms.length ≤ 3781) (hc0 : 0 ≤ c) (hc : c < 2 ^ 60) (hk : 0 < many)
    (q : ∀ x : Int, 0 ≤ x → x < many → Q (.int x) (h.set r (drawO ms (c + 1)))) : wp (callN T (n + 1) false "_law_next" [.ref r, .int many]) Q X h := by
  have hr : r < h.length := (List.getElem?_eq_some_iff.mp hs).1
  have hs2 : (h.set r (drawO ms (c + 1)))[r]? = some (drawO ms (c + 1)) := List.getElem?_set_self hr
  refine wp_call e rfl ?_
  simp only [d_next]
  simp [draw_ix1 hs]
  rw [wp_eq (draw_set hs)]
  have len : 0 < ms.length := List.length_pos_iff.mpr hm
  have hlen : (0 : Int) < ms.length := by omega
  have hmod : ixV (h.set r (drawO ms (c + 1))) (.lst (ms.map .int)) (.int ((c + 1) % ms.length)) = some (.int (ms[((c + 1) % ms.length).toNat]'(by
      have h1 := Int.emod_nonneg (c + 1) (by omega : (ms.length : Int) ≠ 0)
      have h2 := Int.emod_lt_of_pos (c + 1) hlen
      omega))) := by
    have h1 := Int.emod_nonneg (c + 1) (by omega : (ms.length : Int) ≠ 0)
    have h2 := Int.emod_lt_of_pos (c + 1) hlen
    have e1 : (c + 1) % (ms.length : Int) = ((((c + 1) % ms.length).toNat : Nat) : Int) := by omega
    conv => lhs; rw [e1]
    exact ix_lstN (by rw [List.getElem?_map, List.getElem?_eq_getElem (by omega)]; rfl)
  have sm : smallI (c + 1) := ⟨by omega, by omega⟩
  simp [draw_ix1 hs2, draw_ix0 hs2, hmod, sm, o_mod hlen, o_mod hk, o_fdiv hlen (by omega : (ms.length : Int) < 1606938044258990275541962092341162602522202993782792835301376)]
  refine ⟨.inr (by decide), .inr (by decide), ?_⟩
  show onO Q X (fin false h _ _)
  rw [fin_set drawO_lt (by simp [AV.lt])]
  exact q _ (Int.emod_nonneg _ (by omega)) (Int.emod_lt_of_pos _ hk)
end
end Z

set_option Elab.async false
set_option linter.all false
set_option maxRecDepth 100000
set_option autoImplicit false
set_option maxHeartbeats 1000000
/-! ZT: drawing, with a bound of the draws; numbers as values; letters. -/
namespace Z
open PySem
/-! ### numbers as values -/
/-- numbers as values -/
def encN (xs : List Nat) : List AV := xs.map fun (x : Nat) => .int x
theorem encN_len {xs : List Nat} : (encN xs).length = xs.length := by simp [encN]
theorem encN_get {xs : List Nat} {i : Nat} {x : AV} (e : (encN xs)[i]? = some x) : ∃ y : Nat, xs[i]? = some y ∧ x = .int y := by
  unfold encN at e
  rw [List.getElem?_map, Option.map_eq_some_iff] at e
  obtain ⟨y, e, rfl⟩ := e
  exact ⟨y, e, rfl⟩
theorem encN_at {xs : List Nat} {i y : Nat} (e : xs[i]? = some y) : (encN xs)[i]? = some (.int y) := by
  unfold encN
  rw [List.getElem?_map, e]
  rfl
theorem encN_pure {xs : List Nat} : pureAll (encN xs) = true := pureAll_iff.mpr fun x hx => by
  unfold encN at hx
  simp only [List.mem_map] at hx
  obtain ⟨y, _, rfl⟩ := hx
  rfl
theorem encN_app {xs ys : List Nat} : encN (xs ++ ys) = encN xs ++ encN ys := List.map_append
theorem encN_inj {xs ys : List Nat} (e : encN xs = encN ys) : xs = ys := by
  induction xs generalizing ys with
  | nil => cases ys with
    | nil => rfl
    | cons y ys => cases e
  | cons x xs ih => cases ys with
    | nil => cases e
    | cons y ys =>
      injection e with e1 e2
      injection e1 with e1
      rw [ih e2, show x = y by omega]
theorem rngA_encN {n : Nat} : rngA 0 n = encN (List.range n) := by simp [rngA, encN]
/-! ### the state of the draws -/
/-- what is drawn from -/
structure Drw (ms : List Int) : Prop where
  some : ms ≠ []
  few : ms.length ≤ 3781
/-- at number 0 the drawer, n draws at most gone; behind it g -/
def St (ms : List Int) (n : Nat) (g h : AH) : Prop := ∃ c : Int, h = drawO ms c :: g ∧ 0 ≤ c ∧ c ≤ n
section
variable {T : Tb} {ms : List Int} {n m : Nat} {g h h' r : AH} {X : Ex → AH → Prop}
theorem St.mono (s : St ms n g h) (e : n ≤ m) : St ms m g h := by
  obtain ⟨c, rfl, h1, h2⟩ := s
  exact ⟨c, rfl, h1, by omega⟩
theorem St.len (s : St ms n g h) : h.length = g.length + 1 := by
  obtain ⟨c, rfl, h1, h2⟩ := s
  rfl
theorem St.app (s : St ms n g h) : St ms n (g ++ r) (h ++ r) := by
  obtain ⟨c, rfl, h1, h2⟩ := s
  exact ⟨c, rfl, h1, h2⟩
theorem St.at (s : St ms n g h) {i : Nat} : h[i + 1]? = g[i]? := by
  obtain ⟨c, rfl, h1, h2⟩ := s
  rfl
theorem St.at0 (s : St ms n g h) : ∃ c, h[0]? = some (drawO ms c) ∧ 0 ≤ c ∧ c ≤ n := by
  obtain ⟨c, rfl, h1, h2⟩ := s
  exact ⟨c, rfl, h1, h2⟩
theorem St.set (s : St ms n g h) {i : Nat} {o : AO} : St ms n (g.set i o) (h.set (i + 1) o) := by
  obtain ⟨c, rfl, h1, h2⟩ := s
  exact ⟨c, rfl, h1, h2⟩
theorem draw_ok {k : Nat} {many : Int} {Q : AV → AH → Prop} (e : T.df "_law_next" = some d_next) (D : Drw ms) (s : St ms n g h) (hn : n < 2 ^ 50) (hk : 0 < many)
    (q : ∀ x : Nat, (x : Int) < many → ∀ h', St ms (n + 1) g h' → Q (.int x) h') : wp (callN T (k + 1) false "_law_next" [.ref 0, .int many]) Q X h := by
  obtain ⟨c, rfl, h1, h2⟩ := s
  refine next_ok e rfl D.some D.few h1 (by omega) hk fun x x0 x1 => ?_
  obtain ⟨y, rfl⟩ : ∃ y : Nat, x = y := ⟨x.toNat, by omega⟩
  exact q y x1 _ ⟨c + 1, rfl, by omega, by omega⟩
theorem okPre_st (s0 : St ms m g h) (s : St ms n (g ++ r) h') : okPre h h' := by
  obtain ⟨c, rfl, _, _⟩ := s0
  obtain ⟨d, rfl, _, _⟩ := s
  refine ⟨by simp, fun i hi => ?_⟩
  cases i with
  | zero => exact .inr ⟨_, rfl, drawO_lt⟩
  | succ i => exact .inl (by simp only [List.length_cons] at hi; simp [List.getElem?_append_left (show i < g.length by omega)])
theorem take_st (s0 : St ms m g h) (s : St ms n (g ++ r) h') : St ms n g (h'.take h.length) := by
  obtain ⟨c, rfl, _, _⟩ := s0
  obtain ⟨d, rfl, h1, h2⟩ := s
  exact ⟨d, by simp, h1, h2⟩
/-- a call's end: what it made is gone -/
theorem end_st {tr : Bool} {Q : AV → AH → Prop} {v : AV} {ρ : AEnv} (s0 : St ms m g h) (s : St ms n (g ++ r) h') (p : v.lt h.length) (q : ∀ h2, St ms n g h2 → Q v h2) : endC tr h Q X (.rt v) ρ h' := by
  show onO Q X (fin tr h v h')
  rw [fin_lt (okPre_st s0 s) p]
  exact q _ (take_st s0 s)
theorem end_st0 {tr : Bool} {Q : AV → AH → Prop} {v : AV} {ρ : AEnv} (s0 : St ms m g h) (s : St ms n g h') (p : v.pure = true) (q : ∀ h2, St ms n g h2 → Q v h2) : endC tr h Q X (.rt v) ρ h' :=
  end_st (r := []) s0 (by rw [List.append_nil]; exact s) (AV.pure_lt p) q
theorem end_stN {tr : Bool} {Q : AV → AH → Prop} {ρ : AEnv} (s0 : St ms m g h) (s : St ms n (g ++ r) h') (q : ∀ h2, St ms n g h2 → Q .non h2) : endC tr h Q X .nx ρ h' := by
  show onO Q X (fin tr h .non h')
  rw [fin_lt (okPre_st s0 s) (by simp [AV.lt])]
  exact q _ (take_st s0 s)
/-- .. a list that it made, handed back as a tree -/
theorem end_stL {Q : AV → AH → Prop} {xs : List AV} {r : AH} {ρ : AEnv} (s0 : St ms m g h) (s : St ms n (g ++ .lst xs :: r) h') (p : ltAll h.length xs) (q : ∀ h2, St ms n g h2 → Q (.lst xs) h2) : endC false h Q X (.rt (.ref h.length)) ρ h' := by
  show onO Q X (fin false h (.ref h.length) h')
  unfold fin
  rw [if_pos (okPre_st s0 s), if_neg (show ¬ (AV.ref h.length).lt h.length from Nat.lt_irrefl _)]
  have e : h'[h.length]? = some (.lst xs) := by
    rw [s0.len, s.at, List.getElem?_append_right (Nat.le_refl _), Nat.sub_self]
    rfl
  simp only [e]
  rw [if_pos p, if_neg Bool.false_ne_true]
  exact q _ (take_st s0 s)
theorem end_stX {tr : Bool} {Q : AV → AH → Prop} {x : Ex} {ρ : AEnv} (s0 : St ms m g h) (s : St ms n (g ++ r) h') (q : ∀ h2, St ms n g h2 → X x h2) : endC tr h Q X (.ex x) ρ h' := by
  show onO Q X (finX h x h')
  unfold finX
  rw [if_pos (okPre_st s0 s)]
  exact q _ (take_st s0 s)
/-- appending to a list that a function made -/
theorem app_ok {i : Nat} {xs : List AV} {v : AV} {Q : AV → AH → Prop} (s : St ms n g h) (e : g[i]? = some (.lst xs)) (hl : xs.length < big) (q : ∀ h2, St ms n (g.set i (.lst (xs ++ [v]))) h2 → Q .non h2) : wp (mdV .append (.ref (i + 1)) [v]) Q X h := by
  have e2 : h[i + 1]? = some (.lst xs) := by rw [s.at, e]
  have : mdV .append (.ref (i + 1)) [v] h = some (.ok .non (h.set (i + 1) (.lst (xs ++ [v])))) := by
    simp only [mdV, e2]
    rw [if_pos hl]
  rw [wp_eq this]
  exact q _ s.set
theorem pre_app {i : Nat} {xs : List AV} (s : St ms n g h) (e : g[i]? = some (.lst xs)) : mdPre h .append (.ref (i + 1)) = some () := by
  have e2 : h[i + 1]? = some (.lst xs) := by rw [s.at, e]
  simp [mdPre, getL, e2]
theorem its_ref {i : Nat} {xs : List AV} (s : St ms n g h) (e : g[i]? = some (.lst xs)) : itemsOf h (.ref (i + 1)) = some xs := by
  have e2 : h[i + 1]? = some (.lst xs) := by rw [s.at, e]
  simp [itemsOf, getS, getL, e2]
theorem stands_st {i : Nat} {xs : List AV} (s : St ms n g h) (e : g[i]? = some (.lst xs)) : stands (.ref (i + 1)) xs h = some (.ok () h) := stands_ref (by rw [s.at, e])
theorem len_ref {i : Nat} {xs : List AV} (s : St ms n g h) (e : g[i]? = some (.lst xs)) : bfV h .len [.ref (i + 1)] = some (.int xs.length) := by
  have e2 : h[i + 1]? = some (.lst xs) := by rw [s.at, e]
  simp [bfV, bf1, getS, getL, e2]
theorem tup_ref {i : Nat} {xs : List AV} (s : St ms n g h) (e : g[i]? = some (.lst xs)) : bfV h .tuple [.ref (i + 1)] = some (.tup xs) := by
  have e2 : h[i + 1]? = some (.lst xs) := by rw [s.at, e]
  simp [bfV, bf1, getS, getL, e2]
theorem ix_ref {i k : Nat} {xs : List AV} {x : AV} (s : St ms n g h) (e : g[i]? = some (.lst xs)) (e1 : xs[k]? = some x) : ixV h (.ref (i + 1)) (.int k) = some x := by
  have e2 : h[i + 1]? = some (.lst xs) := by rw [s.at, e]
  simp [ixV, getS, getL, e2]
  exact L2.atI_nat e1
/-! a list that the running def made last -/
theorem put_new {xs : List AV} {v : AV} (hl : xs.length < big) : mdV .append (.ref h.length) [v] (h ++ [.lst xs]) = some (.ok .non (h ++ [.lst (xs ++ [v])])) := by
  simp only [mdV, List.getElem?_append_right (Nat.le_refl _), Nat.sub_self, List.getElem?_cons_zero]
  rw [if_pos hl]
  simp [List.set_append_right]
theorem pre_new {xs : List AV} : mdPre (h ++ [.lst xs]) .append (.ref h.length) = some () := by
  simp [mdPre, getL, List.getElem?_append_right (Nat.le_refl _)]
theorem tup_new {xs : List AV} : bfV (h ++ [.lst xs]) .tuple [.ref h.length] = some (.tup xs) := by
  simp [bfV, bf1, getS, getL, List.getElem?_append_right (Nat.le_refl _)]
theorem end_app {tr : Bool} {Q : AV → AH → Prop} {v : AV} {r : AH} {ρ : AEnv} (p : v.lt h.length) (q : Q v h) : endC tr h Q X (.rt v) ρ (h ++ r) := by
  show onO Q X (fin tr h v (h ++ r))
  rw [fin_app p]
  exact q
/-! isinstance of what was caught -/
theorem isx_nil {x : Str} : isL T x [] = some false := rfl
theorem isx_cons {x c : Str} {cs : List Str} {b r : Bool} (e : T.isA x c = some b) (e2 : isL T x cs = some r) : isL T x (c :: cs) = some (b || r) := by
  unfold isL at *
  rw [Option.map_eq_some_iff] at e2
  obtain ⟨bs, h1, rfl⟩ := e2
  rw [List.mapM_cons, e, h1]
  rfl
theorem isL1 {x c : Str} {b : Bool} (e : T.isA x c = some b) : isL T x [c] = some b := by
  rw [isx_cons e isx_nil, Bool.or_false]
theorem isL3 {x c d f : Str} {b p q : Bool} (e : T.isA x c = some b) (e1 : T.isA x d = some p) (e2 : T.isA x f = some q) : isL T x [c, d, f] = some (b || (p || q)) := isx_cons e (isx_cons e1 (isL1 e2))
theorem cut_drop {α : Type} {xs : List α} {k : Nat} : cut xs (some (k : Int)) none = xs.drop k := by
  unfold cut
  rw [HT.sIx_none, show HT.sIx xs.length 0 (some (k : Int)) = min k xs.length from HT.sIx_nat _ _ _]
  by_cases e : k ≤ xs.length
  · rw [Nat.min_eq_left e]
    exact List.take_of_length_le (by rw [List.length_drop]; omega)
  · rw [Nat.min_eq_right (by omega), List.drop_length, List.drop_eq_nil_of_le (by omega)]
    exact List.take_nil
theorem slT_drop {xs : List AV} {k : Nat} : slV h (.tup xs) (some (k : Int)) none = some (.tup (xs.drop k)) := by
  show some (AV.tup (cut xs (some (k : Int)) none)) = _
  rw [cut_drop]
theorem slT_take {xs : List AV} {k : Nat} : slV h (.tup xs) none (some (k : Int)) = some (.tup (xs.take k)) := by
  show some (AV.tup (cut xs none (some (k : Int)))) = _
  rw [cut_take]
/-! picks out of rows -/
@[simp] theorem ix_l0 {a : AV} {r : List AV} : ixV h (.lst (a :: r)) (.int 0) = some a := ix_lstN (i := 0) rfl
@[simp] theorem ix_l1 {a b : AV} {r : List AV} : ixV h (.lst (a :: b :: r)) (.int 1) = some b := ix_lstN (i := 1) rfl
@[simp] theorem ix_l2 {a b c : AV} {r : List AV} : ixV h (.lst (a :: b :: c :: r)) (.int 2) = some c := ix_lstN (i := 2) rfl
@[simp] theorem ix_t0 {a : AV} {r : List AV} : ixV h (.tup (a :: r)) (.int 0) = some a := ix_tupN (i := 0) rfl
@[simp] theorem ix_t1 {a b : AV} {r : List AV} : ixV h (.tup (a :: b :: r)) (.int 1) = some b := ix_tupN (i := 1) rfl
@[simp] theorem ix_t2 {a b c : AV} {r : List AV} : ixV h (.tup (a :: b :: c :: r)) (.int 2) = some c := ix_tupN (i := 2) rfl
theorem pick_lst {xs : List AV} {x : Nat} {P : AV → Prop} (hx : x < xs.length) (q : ∀ v ∈ xs, P v) : onS (ixV h (.lst xs) (.int x)) P :=
  onS_of (ix_lstN (List.getElem?_eq_getElem hx)) (q _ (List.getElem_mem _))
theorem pick_tup {xs : List AV} {x : Nat} {P : AV → Prop} (hx : x < xs.length) (q : ∀ v ∈ xs, P v) : onS (ixV h (.tup xs) (.int x)) P :=
  onS_of (ix_tupN (List.getElem?_eq_getElem hx)) (q _ (List.getElem_mem _))
theorem pick_int {b : Bool} {x y : AV} : ixV h (.lst [x, y]) (.int (if b then 1 else 0)) = some (if b then y else x) := by cases b <;> simp
theorem allB_map : ∀ {bs : List Bool}, allB (bs.map .bl) = some bs
  | [] => rfl
  | b :: bs => by
    show (match asB (.bl b), allB (bs.map .bl) with | some b, some bs => some (b :: bs) | _, _ => none) = _
    rw [allB_map]
    rfl
theorem b_allL {bs : List Bool} : bfV h .all [.lst (bs.map .bl)] = some (.bl (bs.all id)) := by
  show ((getL h (.lst (bs.map .bl))).bind allB).map _ = _
  simp only [getL, Option.bind, allB_map, Option.map]
theorem b_anyL {bs : List Bool} : bfV h .any [.lst (bs.map .bl)] = some (.bl (bs.any id)) := by
  show ((getL h (.lst (bs.map .bl))).bind allB).map _ = _
  simp only [getL, Option.bind, allB_map, Option.map]
/-! sorted numbers -/
theorem insI_len {i : Int} : ∀ {xs : List Int}, (insI i xs).length = xs.length + 1
  | [] => rfl
  | x :: xs => by
    unfold insI
    split
    · rfl
    · simp [insI_len (xs := xs)]
theorem insI_mem {i y : Int} : ∀ {xs : List Int}, y ∈ insI i xs → y = i ∨ y ∈ xs
  | [], h => by simpa [insI] using h
  | x :: xs, h => by
    unfold insI at h
    split at h
    · simpa using h
    · rcases List.mem_cons.mp h with rfl | h
      · exact .inr (by simp)
      · rcases insI_mem h with e | e
        · exact .inl e
        · exact .inr (by simp [e])
theorem sortI_len : ∀ {xs : List Int}, (sortI xs).length = xs.length
  | [] => rfl
  | x :: xs => by
    show (insI x (sortI xs)).length = _
    rw [insI_len, sortI_len (xs := xs)]
    rfl
theorem sortI_mem {y : Int} : ∀ {xs : List Int}, y ∈ sortI xs → y ∈ xs
  | [], h => h
  | x :: xs, h => by
    have h : y ∈ insI x (sortI xs) := h
    rcases insI_mem h with rfl | e
    · simp
    · exact List.mem_cons_of_mem _ (sortI_mem e)
theorem allI_encN : ∀ {xs : List Nat}, allI (encN xs) = some (xs.map fun (x : Nat) => (x : Int))
  | [] => rfl
  | x :: xs => by
    show (match asI (.int x), allI (encN xs) with | some b, some bs => some (b :: bs) | _, _ => none) = _
    rw [allI_encN (xs := xs)]
    rfl
theorem sorted_encN {xs : List Nat} : ∃ ys : List Nat, bfV h .sorted [.lst (encN xs)] = some (.lst (encN ys)) ∧ ys.length = xs.length ∧ ∀ y ∈ ys, y ∈ xs := by
  refine ⟨(sortI (xs.map fun (x : Nat) => (x : Int))).map Int.toNat, ?_, by rw [List.length_map, sortI_len, List.length_map], fun y hy => ?_⟩
  · show ((getL h (.lst (encN xs))).bind allI).map _ = _
    have e : (getL h (.lst (encN xs))).bind allI = some (xs.map fun (x : Nat) => (x : Int)) := allI_encN
    rw [e]
    show some (AV.lst ((sortI (xs.map fun (x : Nat) => (x : Int))).map .int)) = _
    unfold encN
    rw [List.map_map]
    congr 2
    refine List.map_congr_left fun y hy => ?_
    have := sortI_mem hy
    simp only [List.mem_map] at this
    obtain ⟨z, _, rfl⟩ := this
    rfl
  · simp only [List.mem_map] at hy
    obtain ⟨z, hz, rfl⟩ := hy
    have := sortI_mem hz
    simp only [List.mem_map] at this
    obtain ⟨w, hw, rfl⟩ := this
    exact hw
end
end Z

set_option Elab.async false
set_option linter.all false
set_option maxRecDepth 100000
set_option autoImplicit false
set_option maxHeartbeats 1000000
/-! ZW: rows of texts and ints; comprehensions; shown values. -/
namespace Z
open PySem
def encS (xs : List Str) : List AV := xs.map .str
def encI (xs : List Int) : List AV := xs.map .int
section
variable {T : Tb} {R : Rec} {h : AH} {X : Ex → AH → Prop}
theorem encS_len {xs : List Str} : (encS xs).length = xs.length := List.length_map _
theorem encI_len {xs : List Int} : (encI xs).length = xs.length := List.length_map _
theorem encS_at {xs : List Str} {i : Nat} {y : Str} (e : xs[i]? = some y) : (encS xs)[i]? = some (.str y) := by unfold encS; rw [List.getElem?_map, e]; rfl
theorem encI_at {xs : List Int} {i : Nat} {y : Int} (e : xs[i]? = some y) : (encI xs)[i]? = some (.int y) := by unfold encI; rw [List.getElem?_map, e]; rfl
theorem encN_I {xs : List Nat} : encN xs = encI (xs.map fun (x : Nat) => (x : Int)) := by unfold encN encI; rw [List.map_map]; rfl
theorem map_pure {α : Type} {f : α → AV} {xs : List α} (e : ∀ x ∈ xs, (f x).pure = true) : pureAll (xs.map f) = true := pureAll_iff.mpr fun y hy => by
  obtain ⟨x, hx, rfl⟩ := List.mem_map.mp hy
  exact e x hx
theorem encS_pure {xs : List Str} : pureAll (encS xs) = true := map_pure fun _ _ => rfl
theorem encI_pure {xs : List Int} : pureAll (encI xs) = true := map_pure fun _ _ => rfl
/-! x in a row -/
theorem toDs_map {α : Type} {f : α → AV} {g : α → PyData} (e : ∀ x, toD h (f x) = some (g x)) : ∀ {xs : List α}, toDs h (xs.map f) = some (xs.map g)
  | [] => rfl
  | x :: xs => by
    show (match toD h (f x), toDs h (xs.map f) with | some d, some ds => some (d :: ds) | _, _ => none) = _
    rw [e, toDs_map e]
    rfl
theorem depS (x : Str) : PyData.depth (.str x) ≤ 64 := by simp [PyData.depth]
theorem depI (x : Int) : PyData.depth (.int x) ≤ 64 := by simp [PyData.depth]
theorem inS {x : Str} {xs : List Str} : inV h (.str x) (encS xs) = some (decide (x ∈ xs)) := by
  unfold inV
  have e1 : toD1 h (.str x) = some (.str x) := rfl
  have e2 : toDs h (encS xs) = some (xs.map PyData.str) := toDs_map fun _ => rfl
  rw [e1, e2]
  simp only
  rw [if_pos (Nat.le_trans (Nat.min_le_left _ _) (depS x))]
  congr 1
  rw [Bool.eq_iff_iff, List.any_eq_true, decide_eq_true_eq]
  constructor
  · rintro ⟨z, hz, e⟩
    obtain ⟨y, hy, rfl⟩ := List.mem_map.mp hz
    rw [eqv_str, decide_eq_true_eq] at e
    exact e ▸ hy
  · intro hx
    exact ⟨.str x, List.mem_map.mpr ⟨x, hx, rfl⟩, by rw [eqv_str, decide_eq_true_eq]⟩
theorem inI {x : Int} {xs : List Int} : inV h (.int x) (encI xs) = some (decide (x ∈ xs)) := by
  unfold inV
  have e1 : toD1 h (.int x) = some (.int x) := rfl
  have e2 : toDs h (encI xs) = some (xs.map PyData.int) := toDs_map fun _ => rfl
  rw [e1, e2]
  simp only
  rw [if_pos (Nat.le_trans (Nat.min_le_left _ _) (depI x))]
  congr 1
  rw [Bool.eq_iff_iff, List.any_eq_true, decide_eq_true_eq]
  constructor
  · rintro ⟨z, hz, e⟩
    obtain ⟨y, hy, rfl⟩ := List.mem_map.mp hz
    rw [eqv_int, decide_eq_true_eq] at e
    exact e ▸ hy
  · intro hx
    exact ⟨.int x, List.mem_map.mpr ⟨x, hx, rfl⟩, by rw [eqv_int, decide_eq_true_eq]⟩
@[simp] theorem k_inST {x : Str} {xs : List Str} : cmpV h .isIn (.str x) (.tup (encS xs)) = some (decide (x ∈ xs)) := inS
@[simp] theorem k_inSL {x : Str} {xs : List Str} : cmpV h .isIn (.str x) (.lst (encS xs)) = some (decide (x ∈ xs)) := inS
@[simp] theorem k_inIT {x : Int} {xs : List Int} : cmpV h .isIn (.int x) (.tup (encI xs)) = some (decide (x ∈ xs)) := inI
@[simp] theorem k_inIL {x : Int} {xs : List Int} : cmpV h .isIn (.int x) (.lst (encI xs)) = some (decide (x ∈ xs)) := inI
@[simp] theorem k_niST {x : Str} {xs : List Str} : cmpV h .notIn (.str x) (.tup (encS xs)) = some (!decide (x ∈ xs)) := by
  show (inV h (.str x) (encS xs)).map (!·) = _
  rw [inS]
  rfl
@[simp] theorem k_niSL {x : Str} {xs : List Str} : cmpV h .notIn (.str x) (.lst (encS xs)) = some (!decide (x ∈ xs)) := by
  show (inV h (.str x) (encS xs)).map (!·) = _
  rw [inS]
  rfl
@[simp] theorem k_niIT {x : Int} {xs : List Int} : cmpV h .notIn (.int x) (.tup (encI xs)) = some (!decide (x ∈ xs)) := by
  show (inV h (.int x) (encI xs)).map (!·) = _
  rw [inI]
  rfl
theorem k_niSR {ms : List Int} {n i : Nat} {g : AH} {x : Str} {xs : List Str} (s : St ms n g h) (e : g[i]? = some (.lst (encS xs))) : cmpV h .notIn (.str x) (.ref (i + 1)) = some (!decide (x ∈ xs)) := by
  have e2 : h[i + 1]? = some (.lst (encS xs)) := by rw [s.at, e]
  show (match getS h (.ref (i + 1)) with | some ys => (inV h (.str x) ys).map (!·) | none => (getD h (.ref (i + 1))).bind fun kvs => (dgetA kvs (.str x)).map fun (o : Option AV) => !o.isSome) = _
  simp only [getS, getL, e2, inS]
  rfl
/-- the place of a text in a row -/
def posS (x : Str) : List Str → Nat
  | [] => 0
  | y :: ys => if y = x then 0 else posS x ys + 1
theorem find_posS {x : Str} : ∀ {xs : List Str}, x ∈ xs → (xs.map PyData.str).findIdx? (fun z => PyData.eqv z (.str x)) = some (posS x xs)
  | [], h => by simp at h
  | y :: ys, h => by
    rw [List.map_cons, List.findIdx?_cons, eqv_str]
    unfold posS
    by_cases e : y = x
    · simp [e]
    · have hy : x ∈ ys := by
        rcases List.mem_cons.mp h with z | z
        · exact absurd z.symm e
        · exact z
      simp only [e, decide_false, Bool.false_eq_true, if_false]
      rw [find_posS hy]
      rfl
theorem index_S {x : Str} {xs : List Str} (e : x ∈ xs) : mdV .index (.tup (encS xs)) [.str x] h = some (.ok (.int (posS x xs : Nat)) h) := by
  have e1 : toD1 h (.str x) = some (.str x) := rfl
  have e2 : toDs h (encS xs) = some (xs.map PyData.str) := toDs_map fun _ => rfl
  simp only [mdV, getS, e1, e2]
  rw [if_pos (Nat.le_trans (Nat.min_le_left _ _) (depS x)), find_posS e]
/-! ### small steps -/
@[simp] theorem getS_tup {xs : List AV} : getS h (.tup xs) = some xs := (rfl)
@[simp] theorem getS_lst {xs : List AV} : getS h (.lst xs) = some xs := (rfl)
@[simp] theorem bind_2 {i j : Nat} {a b : AV} {ρ : AEnv} : bindT (.cons (.var i) (.cons (.var j) .nil)) (.tup [a, b]) ρ = if i < ρ.length ∧ j < ρ.length then some ((ρ.set i (some a)).set j (some b)) else none := by
  by_cases h1 : i < ρ.length <;> by_cases h2 : j < ρ.length <;> simp [bindT, h1, h2]
@[simp] theorem bind_3 {i j k : Nat} {a b c : AV} {ρ : AEnv} : bindT (.cons (.var i) (.cons (.var j) (.cons (.var k) .nil))) (.tup [a, b, c]) ρ = if i < ρ.length ∧ j < ρ.length ∧ k < ρ.length then some (((ρ.set i (some a)).set j (some b)).set k (some c)) else none := by
  by_cases h1 : i < ρ.length <;> by_cases h2 : j < ρ.length <;> by_cases h3 : k < ρ.length <;> simp [bindT, h1, h2, h3]
theorem cut_last {α : Type} {xs : List α} : cut xs (some (-1)) none = xs.drop (xs.length - 1) := by
  unfold cut
  rw [HT.sIx_none]
  have e : HT.sIx xs.length 0 (some (-1)) = xs.length - 1 := by
    show (if (-1 : Int) < 0 then ((-1 : Int) + (xs.length : Int)).toNat else min (-1 : Int).toNat xs.length) = _
    rw [if_pos (by decide)]
    omega
  rw [e]
  exact List.take_of_length_le (by rw [List.length_drop]; omega)
@[simp] theorem slT_d1 {xs : List AV} : slV h (.tup xs) (some 1) none = some (.tup (xs.drop 1)) := slT_drop (k := 1)
@[simp] theorem slT_t1 {xs : List AV} : slV h (.tup xs) none (some 1) = some (.tup (xs.take 1)) := slT_take (k := 1)
@[simp] theorem slT_t2 {xs : List AV} : slV h (.tup xs) none (some 2) = some (.tup (xs.take 2)) := slT_take (k := 2)
@[simp] theorem slT_l1 {xs : List AV} : slV h (.tup xs) (some (-1)) none = some (.tup (xs.drop (xs.length - 1))) := by
  show some (AV.tup (cut xs (some (-1)) none)) = _
  rw [cut_last]
@[simp] theorem slT_dk {xs : List AV} {k : Nat} : slV h (.tup xs) (some (k : Int)) none = some (.tup (xs.drop k)) := slT_drop
@[simp] theorem slT_dk1 {xs : List AV} {k : Nat} : slV h (.tup xs) (some ((k : Int) + 1)) none = some (.tup (xs.drop (k + 1))) := slT_drop (k := k + 1)
@[simp] theorem slT_tk {xs : List AV} {k : Nat} : slV h (.tup xs) none (some (k : Int)) = some (.tup (xs.take k)) := slT_take
theorem get_getD {α : Type} {xs : List α} {k : Nat} {d : α} (h : k < xs.length) : xs[k]? = some (xs[k]?.getD d) := by
  rw [List.getElem?_eq_getElem h]
  rfl
theorem getD_mem {α : Type} {xs : List α} {k : Nat} {d : α} (h : k < xs.length) : xs[k]?.getD d ∈ xs := List.mem_of_getElem? (get_getD h)
theorem ix_tI {xs : List Int} {k : Nat} (e : k < xs.length) : ixV h (.tup (encI xs)) (.int k) = some (.int (xs[k]?.getD 0)) := ix_tupN (encI_at (get_getD e))
theorem ix_tI1 {xs : List Int} {k : Nat} (e : k + 1 < xs.length) : ixV h (.tup (encI xs)) (.int ((k : Int) + 1)) = some (.int (xs[k + 1]?.getD 0)) := ix_tupN (i := k + 1) (encI_at (get_getD e))
theorem ix_lI {xs : List Int} {k : Nat} (e : k < xs.length) : ixV h (.lst (encI xs)) (.int k) = some (.int (xs[k]?.getD 0)) := ix_lstN (encI_at (get_getD e))
theorem ix_lI1 {xs : List Int} {k : Nat} (e : k + 1 < xs.length) : ixV h (.lst (encI xs)) (.int ((k : Int) + 1)) = some (.int (xs[k + 1]?.getD 0)) := ix_lstN (i := k + 1) (encI_at (get_getD e))
theorem b_allM {α : Type} {l : List α} {f : α → Bool} : bfV h .all [.lst (l.map fun a => .bl (f a))] = some (.bl (l.all f)) := by
  have e : l.map (fun a => AV.bl (f a)) = (l.map f).map .bl := by rw [List.map_map]; rfl
  rw [e, b_allL, List.all_map]
  rfl
theorem b_anyM {α : Type} {l : List α} {f : α → Bool} : bfV h .any [.lst (l.map fun a => .bl (f a))] = some (.bl (l.any f)) := by
  have e : l.map (fun a => AV.bl (f a)) = (l.map f).map .bl := by rw [List.map_map]; rfl
  rw [e, b_anyL, List.any_map]
  rfl
theorem toNat_sub1 {n : Nat} : ((n : Int) - 1).toNat = n - 1 := by omega
/-! ### comprehensions -/
/-- .. that only reckon -/
theorem comp_map {α : Type} {enc : α → AV} {l : List α} {f : α → AV} {v : AV} {bind : AV → Option AEnv} {elt : AEnv → M AV} {Q : List AV → AH → Prop} (st : stands v (l.map enc) h = some (.ok () h))
    (turn : ∀ a ∈ l, onS (bind (enc a)) fun ρ => wp (elt ρ) (fun y h2 => y = f a ∧ h2 = h) X h) (q : Q (l.map f) h) : wp (compL bind (ev T R .nil).c elt (stands v (l.map enc)) [] (l.map enc)) Q X h := by
  refine w_compL (I := fun i acc h' => h' = h ∧ acc = (l.take i).map f) ⟨rfl, rfl⟩ (fun _ _ _ hi => by rw [hi.1]; exact st) (fun i x acc h' e hi => ?_) (fun acc h' hi => ?_)
  · obtain ⟨rfl, rfl⟩ := hi
    rw [List.getElem?_map, Option.map_eq_some_iff] at e
    obtain ⟨a, ea, rfl⟩ := e
    have t := turn a (List.mem_of_getElem? ea)
    cases eb : bind (enc a) with
    | none => rw [eb] at t; exact t.elim
    | some ρ =>
      rw [eb] at t
      show wp _ _ _ _
      refine wp_mono t (fun y h2 z => ?_) fun _ _ z => z
      obtain ⟨rfl, rfl⟩ := z
      refine ⟨rfl, ?_⟩
      rw [List.take_add_one, ea, List.map_append]
      rfl
  · obtain ⟨rfl, rfl⟩ := hi
    rw [List.length_map, List.take_length]
    exact q
theorem rngA_map {lo : Int} {n : Nat} : rngA lo n = (List.range n).map fun (i : Nat) => AV.int (lo + i) := rfl
/-- .. that draw -/
theorem comp_draw {α β : Type} {ms : List Int} {n c : Nat} {g : AH} {enc : α → AV} {encB : β → AV} {P : α → β → Prop} {l : List α} {v : AV} {bind : AV → Option AEnv} {elt : AEnv → M AV} {Q : List AV → AH → Prop} (s : St ms n g h)
    (st : ∀ n' h', St ms n' g h' → stands v (l.map enc) h' = some (.ok () h'))
    (turn : ∀ a ∈ l, ∀ n' h', n' ≤ n + c * l.length → St ms n' g h' → onS (bind (enc a)) fun ρ => wp (elt ρ) (fun y h2 => ∃ b, y = encB b ∧ P a b ∧ St ms (n' + c) g h2) X h')
    (q : ∀ bs : List β, bs.length = l.length → (∀ b ∈ bs, ∃ a ∈ l, P a b) → ∀ h', St ms (n + c * l.length) g h' → Q (bs.map encB) h') : wp (compL bind (ev T R .nil).c elt (stands v (l.map enc)) [] (l.map enc)) Q X h := by
  refine w_compL (I := fun i acc h' => ∃ bs : List β, acc = bs.map encB ∧ bs.length = i ∧ (∀ b ∈ bs, ∃ a ∈ l, P a b) ∧ St ms (n + c * i) g h') ⟨[], rfl, rfl, fun b z => by simp at z, s⟩ (fun _ _ _ hi => by obtain ⟨_, _, _, _, s'⟩ := hi; exact st _ _ s') (fun i x acc h' e hi => ?_) (fun acc h' hi => ?_)
  · obtain ⟨bs, rfl, hl, hb, s'⟩ := hi
    rw [List.getElem?_map, Option.map_eq_some_iff] at e
    obtain ⟨a, ea, rfl⟩ := e
    have hi : i < l.length := (List.getElem?_eq_some_iff.mp ea).1
    have t := turn a (List.mem_of_getElem? ea) _ h' (by have := Nat.mul_le_mul_left c (Nat.le_of_lt hi); omega) s'
    cases eb : bind (enc a) with
    | none => rw [eb] at t; exact t.elim
    | some ρ =>
      rw [eb] at t
      show wp _ _ _ _
      refine wp_mono t (fun y h2 z => ?_) fun _ _ z => z
      obtain ⟨b, rfl, hp, s2⟩ := z
      refine ⟨bs ++ [b], by simp, by simp [hl], fun b' hb' => ?_, by rw [Nat.mul_add, Nat.mul_one, ← Nat.add_assoc]; exact s2⟩
      rcases List.mem_append.mp hb' with y | y
      · exact hb b' y
      · rw [List.mem_singleton] at y
        rw [y]
        exact ⟨a, List.mem_of_getElem? ea, hp⟩
  · obtain ⟨bs, rfl, hl, hb, s'⟩ := hi
    rw [List.length_map] at hl s'
    exact q bs hl hb h' s'
/-- .. that draw what to keep -/
theorem comp_keep {α : Type} {ms : List Int} {n c : Nat} {g : AH} {enc : α → AV} {l : List α} {v : AV} {bind : AV → Option AEnv} {cond : AEnv → M Bool} {elt : AEnv → M AV} {Q : List AV → AH → Prop} (s : St ms n g h)
    (st : ∀ n' h', St ms n' g h' → stands v (l.map enc) h' = some (.ok () h'))
    (turn : ∀ a ∈ l, ∀ n' h', n' ≤ n + c * l.length → St ms n' g h' → onS (bind (enc a)) fun ρ => wp (cond ρ) (fun b h2 => St ms (n' + c) g h2 ∧ ∀ h3, wp (elt ρ) (fun y h4 => y = enc a ∧ h4 = h3) X h3) X h')
    (q : ∀ l' : List α, l'.Sublist l → ∀ h', St ms (n + c * l.length) g h' → Q (l'.map enc) h') : wp (compL bind cond elt (stands v (l.map enc)) [] (l.map enc)) Q X h := by
  refine w_compL (I := fun i acc h' => ∃ l' : List α, acc = l'.map enc ∧ l'.Sublist (l.take i) ∧ St ms (n + c * i) g h') ⟨[], rfl, List.nil_sublist _, s⟩ (fun _ _ _ hi => by obtain ⟨_, _, _, s'⟩ := hi; exact st _ _ s') (fun i x acc h' e hi => ?_) (fun acc h' hi => ?_)
  · obtain ⟨l', rfl, hs, s'⟩ := hi
    rw [List.getElem?_map, Option.map_eq_some_iff] at e
    obtain ⟨a, ea, rfl⟩ := e
    have hi : i < l.length := (List.getElem?_eq_some_iff.mp ea).1
    have t := turn a (List.mem_of_getElem? ea) _ h' (by have := Nat.mul_le_mul_left c (Nat.le_of_lt hi); omega) s'
    have tk : l.take (i + 1) = l.take i ++ [a] := by rw [List.take_add_one, ea]; rfl
    cases eb : bind (enc a) with
    | none => rw [eb] at t; exact t.elim
    | some ρ =>
      rw [eb] at t
      refine wp_mono t (fun b h2 z => ?_) fun _ _ z => z
      obtain ⟨s2, w⟩ := z
      have s3 : St ms (n + c * (i + 1)) g h2 := by rw [Nat.mul_add, Nat.mul_one, ← Nat.add_assoc]; exact s2
      cases b with
      | true =>
        rw [if_pos rfl]
        refine wp_mono (w h2) (fun y h4 z => ?_) fun _ _ z => z
        obtain ⟨rfl, rfl⟩ := z
        exact ⟨l' ++ [a], by simp, by rw [tk]; exact hs.append (List.Sublist.refl _), s3⟩
      | false =>
        rw [if_neg Bool.false_ne_true]
        exact ⟨l', rfl, by rw [tk]; exact hs.trans (List.sublist_append_left _ _), s3⟩
  · obtain ⟨l', rfl, hs, s'⟩ := hi
    rw [List.length_map] at hs s'
    rw [List.take_length] at hs
    exact q l' hs h' s'
/-! ### all of a row, in order -/
def ascB (xs : List Int) : Bool := (List.range (xs.length - 1)).all fun k => decide (xs[k]?.getD 0 < xs[k + 1]?.getD 0)
theorem asc_of {xs : List Int} (p : xs.Pairwise (· < ·)) : ascB xs = true := by
  unfold ascB
  rw [List.all_eq_true]
  intro k hk
  have hk := List.mem_range.mp hk
  have h := List.pairwise_iff_getElem.mp p k (k + 1) (by omega) (by omega) (by omega)
  rw [List.getElem?_eq_getElem (by omega), List.getElem?_eq_getElem (by omega)]
  simpa using h
theorem not_asc {xs : List Int} {k : Nat} (hk : k + 1 < xs.length) (h : ¬ xs[k]?.getD 0 < xs[k + 1]?.getD 0) : ascB xs = false := by
  cases e : ascB xs with
  | false => rfl
  | true =>
    unfold ascB at e
    rw [List.all_eq_true] at e
    exact absurd (by simpa using e k (List.mem_range.mpr (by omega))) h
/-! ### shown values -/
mutual
/-- a tree without things that change, its ints small: as data -/
def dat : AV → Option PyData
  | .non => some .none
  | .bl b => some (.bool b)
  | .int i => if i.natAbs < 10 ^ 12 then some (.int i) else none
  | .str x => if PyData.strOk x = true then some (.str x) else none
  | .tup xs => (datAll xs).map .tuple
  | .lst xs => (datAll xs).map .list
  | _ => none
def datAll : List AV → Option (List PyData)
  | [] => some []
  | x :: xs => match dat x, datAll xs with
    | some d, some ds => some (d :: ds)
    | _, _ => none
end
mutual
theorem dat_toD : ∀ {v : AV} {d : PyData}, dat v = some d → toD h v = some d
  | .non, d, e => e
  | .bl b, d, e => e
  | .int i, d, e => by
    simp only [dat] at e
    split at e
    · exact e
    · cases e
  | .str i, d, e => by
    simp only [dat] at e
    split at e
    · exact e
    · cases e
  | .tup xs, d, e => by
    simp only [dat, Option.map_eq_some_iff] at e
    obtain ⟨ds, e, rfl⟩ := e
    show (toDs h xs).map PyData.tuple = _
    rw [datAll_toD e]
    rfl
  | .lst xs, d, e => by
    simp only [dat, Option.map_eq_some_iff] at e
    obtain ⟨ds, e, rfl⟩ := e
    show (toDs h xs).map PyData.list = _
    rw [datAll_toD e]
    rfl
  | .ext _, _, e => by cases e
  | .ref _, _, e => by cases e
  | .exn _, _, e => by cases e
  | .rep _, _, e => by cases e
theorem datAll_toD : ∀ {v : List AV} {d : List PyData}, datAll v = some d → toDs h v = some d
  | [], d, e => e
  | x :: xs, d, e => by
    simp only [datAll] at e
    split at e
    · rename_i d1 ds e1 e2
      cases e
      show (match toD h x, toDs h xs with | some d, some ds => some (d :: ds) | _, _ => none) = _
      rw [dat_toD e1, datAll_toD e2]
    · cases e
end
theorem dat_toD1 {v : AV} {d : PyData} (e : dat v = some d) : toD1 h v = some d :=
   toD_toD1 (dat_toD (h := h) e)
mutual
theorem dat_ok : ∀ {v : AV} {d : PyData}, dat v = some d → d.showable = true ∧ d.leavesShort 13 = true
  | .non, d, e => by cases e; exact ⟨rfl, rfl⟩
  | .bl b, d, e => by cases e; exact ⟨rfl, rfl⟩
  | .int i, d, e => by
    simp only [dat] at e
    split at e
    · rename_i hi
      cases e
      constructor
      · simp only [PyData.showable, decide_eq_true_eq]
        by_cases z : i.natAbs = 0
        · rw [z]; decide
        · exact (Nat.log2_lt z).mpr (Nat.lt_of_lt_of_le (Nat.lt_trans hi (by decide : 10 ^ 12 < 2 ^ 40)) (Nat.pow_le_pow_right (by decide) (by decide)))
      · have l := int_text_length_le10 (a := i) (k := 12) (by decide) hi
        have l2 : (PyData.shown (.int i)).length ≤ 13 := by
          show (Str.ofString (toString i)).length ≤ 13
          rw [ofString_length]
          exact l
        simp only [PyData.leavesShort]
        exact decide_eq_true l2
    · cases e
  | .str i, d, e => by
    simp only [dat] at e
    split at e
    · rename_i hi
      cases e
      refine ⟨rfl, ?_⟩
      simp only [PyData.leavesShort, List.all_eq_true, decide_eq_true_eq]
      intro c hc
      exact Nat.lt_trans (strOk_iff.mp hi c hc) (by decide)
    · cases e
  | .tup xs, d, e => by
    simp only [dat, Option.map_eq_some_iff] at e
    obtain ⟨ds, e, rfl⟩ := e
    have := datAll_ok e
    exact ⟨by simp only [PyData.showable]; exact this.1, by simp only [PyData.leavesShort]; exact this.2⟩
  | .lst xs, d, e => by
    simp only [dat, Option.map_eq_some_iff] at e
    obtain ⟨ds, e, rfl⟩ := e
    have := datAll_ok e
    exact ⟨by simp only [PyData.showable]; exact this.1, by simp only [PyData.leavesShort]; exact this.2⟩
  | .ext _, _, e => by cases e
  | .ref _, _, e => by cases e
  | .exn _, _, e => by cases e
  | .rep _, _, e => by cases e
theorem datAll_ok : ∀ {v : List AV} {d : List PyData}, datAll v = some d → PyData.showableAll d = true ∧ PyData.leavesShortAll 13 d = true
  | [], d, e => by cases e; exact ⟨rfl, rfl⟩
  | x :: xs, d, e => by
    simp only [datAll] at e
    split at e
    · rename_i d1 ds e1 e2
      cases e
      have h1 := dat_ok e1
      have h2 := datAll_ok e2
      exact ⟨by simp only [PyData.showableAll, h1.1, h2.1, Bool.and_self], by simp only [PyData.leavesShortAll, h1.2, h2.2, Bool.and_self]⟩
    · cases e
end
/-- a value that can be shown -/
def Shw (v : AV) : Prop := ∃ d, dat v = some d ∧ d.depth ≤ 60 ∧ d.bulk ≤ 2 ^ 19
theorem repr_ok {v : AV} {d : PyData} (e : dat v = some d) (h1 : d.depth ≤ 64) (h2 : d.bulk ≤ 2 ^ 20) : bfV h .repr [v] = some (.rep d) := by
  have ok := dat_ok e
  have l := PyData.shown_fits_bulk (by decide) (by decide) ok.2 h2
  show (toD1 h v).bind _ = _
  rw [dat_toD1 e]
  simp only [Option.bind]
  rw [if_pos ⟨h1, ok.1, by rw [sizeLine_eq] at l; unfold big; exact l⟩]
theorem rep_eq {d : PyData} : cmpV h .eq (.rep d) (.rep d) = some true := by
  unfold cmpV eqV
  simp
theorem rep_ne {d : PyData} : cmpV h .ne (.rep d) (.rep d) = some false := by
  show (cmpV h .eq (.rep d) (.rep d)).map (!·) = _
  rw [rep_eq]
  rfl
/-- the def that all laws with shown values share -/
def d_same : Df := ⟨2, 2, (.seq (.ret (.cmp .eq (.bf .repr (.cons (.lst (.cons (.var 0) (.nil))) (.nil))) (.bf .repr (.cons (.lst (.cons (.var 1) (.nil))) (.nil)))))
(.nil))⟩
theorem same_ok {n : Nat} {v : AV} {Q : AV → AH → Prop} (e : T.df "_law_same" = some d_same) (s : Shw v) (q : Q (.bl true) h) : wp (callN T (n + 1) false "_law_same" [v, v]) Q X h := by
  obtain ⟨d, e1, e2, e3⟩ := s
  have e4 : dat (.lst [v]) = some (.list [d]) := by simp [dat, datAll, e1]
  have r : bfV h .repr [.lst [v]] = some (.rep (.list [d])) := repr_ok e4 (by simp [PyData.depth, PyData.depthAll]; omega) (by simp [PyData.bulk, PyData.bulkAll]; omega)
  refine wp_call e rfl ?_
  simp only [d_same]
  simp [r, rep_eq]
  exact ⟨by unfold big; omega, end_same (by simp [AV.lt]) q⟩
end
end Z

set_option Elab.async false
set_option linter.all false
set_option maxRecDepth 100000
set_option autoImplicit false
set_option maxHeartbeats 1000000
/-! ZX: words, facts and scenes, as many laws draw them. -/
namespace Z
open PySem
def d_word : Df := ⟨2, 6, (.seq (.asg (.var 2) (.lst (.cons (.str "and") (.cons (.str "or") (.cons (.str "not") (.cons (.str "some") (.cons (.str "all") (.cons (.str "point") (.cons (.str "begins") (.cons (.str "begun") (.cons (.str "ends") (.cons (.str "ended") (.cons (.str "during") (.cons (.str "around") (.cons (.str "meets") (.cons (.str "met") (.cons (.str "later") (.cons (.str "earlier") (.nil)))))))))))))))))))
(.seq (.for (.var 3) (.rng (.cons (.int 40) (.nil))) (.seq (.asg (.var 4) (.str ""))
(.seq (.for (.var 5) (.rng (.cons (.idx (.lst (.cons (.int 1) (.cons (.int 1) (.cons (.int 1) (.cons (.int 2) (.cons (.int 3) (.cons (.int 8) (.nil)))))))) (.call false "_law_next" (.cons (.var 0) (.cons (.int 6) (.nil))))) (.nil))) (.seq (.asg (.var 4) (.bin .add (.var 4) (.idx (.str "abcxyz") (.call false "_law_next" (.cons (.var 0) (.cons (.int 6) (.nil)))))))
(.nil)))
(.seq (.ite (.band (.cons (.cmp .notIn (.var 4) (.var 1)) (.cons (.cmp .notIn (.var 4) (.var 2)) (.nil)))) (.seq (.ret (.var 4))
(.nil)) (.nil))
(.nil)))))
(.seq (.ret (.bin .add (.str "w") (.idx (.str "abcdefghijklmnop") (.bin .mod (.bf .len (.cons (.var 1) (.nil))) (.int 16)))))
(.nil))))⟩
def d_facts : Df := ⟨2, 4, (.seq (.asg (.var 2) (.own (.lst (.nil))))
(.seq (.for (.var 3) (.rng (.cons (.var 1) (.nil))) (.seq (.exp (.md .append (.var 2) (.cons (.call false "_law_word" (.cons (.var 0) (.cons (.var 2) (.nil)))) (.nil))))
(.nil)))
(.seq (.ret (.bf .tuple (.cons (.var 2) (.nil))))
(.nil))))⟩
def d_scene : Df := ⟨2, 3, (.seq (.ret (.bf .tuple (.cons (.comp [2] (.var 2) (.var 2) (.var 1) (.cmp .eq (.call false "_law_next" (.cons (.var 0) (.cons (.int 2) (.nil)))) (.int 0))) (.nil))))
(.nil))⟩

theorem ix_str {h : AH} {x : Str} {k c : Nat} (e : x.cps.toList[k]? = some c) : ixV h (.str x) (.int k) = some (.str ⟨#[c]⟩) := by
  show (L2.atI x.cps.toList (k : Int)).map _ = _
  rw [L2.atI_nat e]
  rfl
def abc : List Nat := [97, 98, 99, 120, 121, 122]
def abcd : List Nat := [97, 98, 99, 100, 101, 102, 103, 104, 105, 106, 107, 108, 109, 110, 111, 112]
theorem abc_eq : ("abcxyz" : Str).cps.toList = abc := by decide
theorem abcd_eq : ("abcdefghijklmnop" : Str).cps.toList = abcd := by decide
theorem strOk_one {c : Nat} (h : c < 0x110000) : PyData.strOk ⟨#[c]⟩ = true := strOk_iff.mpr fun d hd => by
  simp at hd
  rw [hd]
  exact h
theorem strOk_lit {x : Str} (e : (x.cps.toList.all fun c => decide (c < 0x110000)) = true) : PyData.strOk x = true := strOk_iff.mpr fun c hc => by
  have := List.all_eq_true.mp e c hc
  simpa using this
theorem strOk_nil : PyData.strOk "" = true := strOk_iff.mpr fun d hd => by
  have e : ("" : Str).cps.toList = [] := by decide
  rw [e] at hd
  cases hd
theorem abc_ix {h : AH} {x : Nat} (hx : x < 6) : ∃ c ∈ abc, ixV h (.str "abcxyz") (.int x) = some (.str ⟨#[c]⟩) := by
  have hl : abc.length = 6 := by decide
  exact ⟨abc[x]'(by omega), List.getElem_mem _, ix_str (by rw [abc_eq]; exact List.getElem?_eq_getElem (by omega))⟩
theorem abc_lt : ∀ c ∈ abc, c < 0x110000 ∧ c ≠ 119 ∧ c ≠ 113 := by decide
theorem abcd_lt : ∀ c ∈ abcd, c < 0x110000 := by decide
theorem abc_ok (c : Nat) (h : c ∈ abc) : PyData.strOk ⟨#[c]⟩ = true := strOk_one (abc_lt c h).1
theorem abcd_ok (c : Nat) (h : c ∈ abcd) : PyData.strOk ⟨#[c]⟩ = true := strOk_one (abcd_lt c h)
def chS (c : Nat) : Str := ⟨#[c]⟩
def wordS (k : Nat) : Str := ("w" : Str) ++ chS (abcd[k % 16]?.getD 0)
/-- a word that is drawn as number k -/
structure WordAt (k : Nat) (x : Str) : Prop where
  len : x.length ≤ 8
  ok : PyData.strOk x = true
  is : (∃ c r, x.cps.toList = c :: r ∧ c ∈ abc) ∨ x = wordS k
def knownS : List Str := ["and", "or", "not", "some", "all", "point", "begins", "begun", "ends", "ended", "during", "around", "meets", "met", "later", "earlier"]
section
variable {T : Tb} {h : AH} {X : Ex → AH → Prop} {fs : List Str} {ms : List Int}
def WoI (ms : List Int) (n : Nat) (g : AH) (p : Nat) : Nat → AEnv → AH → Prop := fun i ρ h' => ∃ l3 l4 l5, ρ = [some (.ref 0), some (.ref (p + 1)), some (.lst (encS knownS)), l3, l4, l5] ∧ St ms (n + 10 * i) g h'
def WiI (ms : List Int) (n : Nat) (g : AH) (p : Nat) (l3 : Option AV) : Nat → AEnv → AH → Prop := fun i ρ h' => ∃ l5 w, ρ = [some (.ref 0), some (.ref (p + 1)), some (.lst (encS knownS)), l3, some (.str w), l5] ∧ St ms (n + i) g h' ∧ w.cps.toList.length = i ∧ PyData.strOk w = true ∧ (0 < i → ∃ c r, w.cps.toList = c :: r ∧ c ∈ abc)
theorem str_len {x : Str} : x.length = x.cps.toList.length := by show x.cps.size = _; simp
theorem wordG_ok (e1 : T.df "_law_next" = some d_next) (e2 : T.df "_law_word" = some d_word) (D : Drw ms) {n k p : Nat} {g : AH} {Q : AV → AH → Prop} (s : St ms n g h) (hg : g[p]? = some (.lst (encS fs))) (hn : n < 2 ^ 30)
    (q : ∀ x h', WordAt fs.length x → (x ∉ fs ∨ x = wordS fs.length) → St ms (n + 400) g h' → Q (.str x) h') : wp (callN T (k + 1 + 1) false "_law_word" [.ref 0, .ref (p + 1)]) Q X h := by
  refine wp_call e2 rfl ?_
  simp only [d_word]
  simp
  refine ⟨by unfold big; omega, ?_⟩
  have fin : ∀ {v : Str} {ρ : AEnv} {h' : AH} {n' : Nat}, St ms n' g h' → n' ≤ n + 400 → WordAt fs.length v → (v ∉ fs ∨ v = wordS fs.length) → endC false h Q X (.rt (.str v)) ρ h' := fun s' hn' a b =>
    end_st0 s s' (v := .str _) rfl fun h2 s2 => q _ _ a b (s2.mono hn')
  refine w_for (WoI ms n g p) ⟨_, _, _, rfl, s⟩ (fun _ _ _ _ => stands_free fun _ z => nomatch z) (fun i y ρ h' e hi => ?_) (fun ρ h' hi => ?_)
  · obtain ⟨l3, l4, l5, rfl, s1⟩ := hi
    have hi : i < 40 := (rngA_get e).1
    refine onS_of rfl ?_
    simp
    refine ⟨by unfold big; omega, ?_⟩
    refine draw_ok e1 D s1 (by omega) (by decide) fun x hx h2 s2 => ?_
    refine pick_lst (by simp; omega) fun v hv => ?_
    have hv : ∃ c : Nat, v = .int c ∧ 1 ≤ c ∧ c ≤ 8 := by
      simp only [List.mem_cons, List.not_mem_nil, or_false] at hv
      rcases hv with rfl | rfl | rfl | rfl | rfl | rfl <;> exact ⟨_, rfl, by decide, by decide⟩
    obtain ⟨c, ec, c1, c8⟩ := hv
    subst ec
    have rg : rngOf [.int (c : Int)] = some (rngA 0 c) := by
      rw [r_one, if_pos ⟨by omega, by omega⟩]
      simp
    rw [rg, onS_some]
    have i0 : WiI ms (n + 10 * i + 1) g p (some y) 0 [some (.ref 0), some (.ref (p + 1)), some (.lst (encS knownS)), some y, some (.str ""), l5] h2 := ⟨l5, "", rfl, s2, by decide, strOk_nil, fun z => absurd z (Nat.lt_irrefl 0)⟩
    refine w_for (WiI ms (n + 10 * i + 1) g p (some y)) i0 (fun _ _ _ _ => stands_free fun _ z => nomatch z) (fun j z ρ h3 e hj => ?_) (fun ρ h3 hj => ?_)
    · obtain ⟨l5, w, e5, s3, wl, wo, wc⟩ := hj
      subst e5
      have hj := (rngA_get e).1
      refine onS_of rfl ?_
      simp
      refine draw_ok e1 D s3 (by omega) (by decide) fun x hx h4 s4 => ?_
      obtain ⟨ch, hc, ei⟩ := abc_ix (h := h4) (x := x) (by omega)
      refine onS_of ei ?_
      have l1 : (⟨#[ch]⟩ : Str).length = 1 := rfl
      rw [o_addS, onS_ite]
      have wl' : (w ++ (⟨#[ch]⟩ : Str)).cps.toList = w.cps.toList ++ [ch] := by
        show (w.cps ++ #[ch]).toList = _
        simp
      refine ⟨by rw [str_len, wl, l1]; unfold big; omega, _, _, rfl, s4, by rw [wl', List.length_append, wl]; rfl, strOk_append wo (abc_ok ch hc), fun _ => ?_⟩
      rw [wl']
      by_cases j0 : j = 0
      · have : w.cps.toList = [] := List.eq_nil_of_length_eq_zero (by omega)
        rw [this]
        exact ⟨ch, [], rfl, hc⟩
      · obtain ⟨c0, r, er, hc0⟩ := wc (by omega)
        rw [er]
        exact ⟨c0, r ++ [ch], rfl, hc0⟩
    · obtain ⟨l5, w, e5, s3, wl, wo, wc⟩ := hj
      subst e5
      rw [rngA_len] at wl s3 wc
      rw [thenS_nx]
      have k1 := k_niSR s3 hg (x := w)
      have k2 : cmpV h3 .notIn (.str w) (.lst (encS knownS)) = some (!decide (w ∈ knownS)) := k_niSL
      simp [k1, k2]
      by_cases z1 : w ∈ fs
      · rw [if_pos z1]
        exact ⟨_, _, _, rfl, s3.mono (by omega)⟩
      · rw [if_neg z1]
        by_cases z2 : w ∈ knownS
        · rw [if_pos z2]
          exact ⟨_, _, _, rfl, s3.mono (by omega)⟩
        · rw [if_neg z2]
          exact fin s3 (by omega) ⟨by rw [str_len]; omega, wo, .inl (wc (by omega))⟩ (.inl z1)
  · obtain ⟨l3, l4, l5, rfl, s1⟩ := hi
    rw [thenS_nx, ]
    rw [rngA_len] at s1
    simp [len_ref s1 hg, encS_len]
    have hl : abcd.length = 16 := by decide
    have hm : fs.length % 16 < 16 := Nat.mod_lt _ (by decide)
    have e3 : ixV h' (.str "abcdefghijklmnop") (.int ((fs.length : Int) % 16)) = some (.str (chS (abcd[fs.length % 16]?.getD 0))) := by
      rw [show ((fs.length : Int) % 16) = ((fs.length % 16 : Nat) : Int) by omega]
      exact ix_str (by rw [abcd_eq]; exact get_getD (by rw [hl]; exact hm))
    refine onS_of e3 ?_
    have ok1 : PyData.strOk (chS (abcd[fs.length % 16]?.getD 0)) = true := abcd_ok _ (Z.getD_mem (by rw [hl]; exact hm))
    have l2 : (wordS fs.length).length = 2 := rfl
    rw [o_addS, onS_ite]
    refine ⟨?_, fin s1 (by omega) ⟨by show (wordS fs.length).length ≤ 8; rw [l2]; decide, strOk_append (strOk_lit (by decide)) ok1, .inr rfl⟩ (.inr rfl)⟩
    show 1 + 1 ≤ big
    unfold big
    omega
theorem word_ok (e1 : T.df "_law_next" = some d_next) (e2 : T.df "_law_word" = some d_word) (D : Drw ms) {n k : Nat} {g : AH} {Q : AV → AH → Prop} (s : St ms n g h) (hg : g[0]? = some (.lst (encS fs))) (hn : n < 2 ^ 30)
    (q : ∀ x h', WordAt fs.length x → (x ∉ fs ∨ x = wordS fs.length) → St ms (n + 400) g h' → Q (.str x) h') : wp (callN T (k + 1 + 1) false "_law_word" [.ref 0, .ref 1]) Q X h := wordG_ok (p := 0) e1 e2 D s hg hn q
/-- facts as they are drawn -/
structure Facts (fs : List Str) : Prop where
  nd : fs.Nodup
  word : ∀ i x, fs[i]? = some x → WordAt i x
theorem wordS_cps {k : Nat} : (wordS k).cps.toList = [119, abcd[k % 16]?.getD 0] := by
  have e : ("w" : Str).cps.toList = [119] := by decide
  show (("w" : Str).cps ++ (chS (abcd[k % 16]?.getD 0)).cps).toList = _
  rw [Array.toList_append, e]
  rfl
theorem abcd_inj : ∀ i, i < 16 → ∀ j, j < 16 → abcd[i]?.getD 0 = abcd[j]?.getD 0 → i = j := by decide
theorem wordS_inj {i j : Nat} (hi : i < 16) (hj : j < 16) (e : wordS i = wordS j) : i = j := by
  have e2 : (wordS i).cps.toList = (wordS j).cps.toList := by rw [e]
  rw [wordS_cps, wordS_cps] at e2
  injection e2 with _ e2
  injection e2 with e2 _
  rw [Nat.mod_eq_of_lt hi, Nat.mod_eq_of_lt hj] at e2
  exact abcd_inj i hi j hj e2
theorem Facts.add {x : Str} (F : Facts fs) (hl : fs.length < 16) (w : WordAt fs.length x) (e : x ∉ fs ∨ x = wordS fs.length) : Facts (fs ++ [x]) := by
  have nx : x ∉ fs := by
    rcases e with e | e
    · exact e
    · intro hx
      obtain ⟨i, hi, ei⟩ := List.getElem_of_mem hx
      have wi := F.word i x (by rw [List.getElem?_eq_getElem hi, ei])
      rcases wi.is with ⟨c, r, ec, hc⟩ | e2
      · rw [e, wordS_cps] at ec
        injection ec with ec _
        exact (abc_lt c hc).2.1 ec.symm
      · have := wordS_inj (by omega) hl (e2.symm.trans e)
        omega
  refine ⟨?_, fun i y ey => ?_⟩
  · rw [List.nodup_append]
    refine ⟨F.nd, by simp, fun a ha b hb => ?_⟩
    rw [List.mem_singleton.mp hb]
    exact fun z => nx (z ▸ ha)
  · by_cases hi : i < fs.length
    · rw [List.getElem?_append_left hi] at ey
      exact F.word i y ey
    · rw [List.getElem?_append_right (by omega)] at ey
      have h0 : i - fs.length = 0 := by
        cases z : i - fs.length with
        | zero => rfl
        | succ n => rw [z] at ey; simp at ey
      rw [h0] at ey
      simp at ey
      rw [← ey, show i = fs.length by omega]
      exact w
def FacI (ms : List Int) (n many : Nat) (g : AH) : Nat → AEnv → AH → Prop := fun i ρ h' => ∃ l3 fs, ρ = [some (.ref 0), some (.int many), some (.ref (g.length + 1)), l3] ∧ St ms (n + 400 * i) (g ++ [.lst (encS fs)]) h' ∧ fs.length = i ∧ Facts fs
theorem factsG_ok (e1 : T.df "_law_next" = some d_next) (e2 : T.df "_law_word" = some d_word) (e3 : T.df "_law_facts" = some d_facts) (D : Drw ms) {n k many : Nat} {g : AH} {Q : AV → AH → Prop} (s : St ms n g h) (hn : n < 2 ^ 29) (hm : many ≤ 10)
    (q : ∀ fs h', fs.length = many → Facts fs → St ms (n + 4000) g h' → Q (.tup (encS fs)) h') : wp (callN T (k + 1 + 1 + 1) false "_law_facts" [.ref 0, .int many]) Q X h := by
  refine wp_call e3 rfl ?_
  simp only [d_facts]
  simp [s.len]
  refine ⟨by omega, ?_⟩
  have at' : ∀ fs : List Str, (g ++ [AO.lst (encS fs)])[g.length]? = some (.lst (encS fs)) := fun fs => by rw [List.getElem?_append_right (Nat.le_refl _), Nat.sub_self]; rfl
  have i0 : FacI ms n many g 0 [some (.ref 0), some (.int many), some (.ref (g.length + 1)), none] (h ++ [.lst []]) := ⟨none, [], rfl, s.app (r := [.lst []]), rfl, by simp, fun i x e => by simp at e⟩
  refine w_for (FacI ms n many g) i0 (fun _ _ _ _ => stands_free fun _ z => nomatch z) (fun i y ρ h' e hi => ?_) (fun ρ h' hi => ?_)
  · obtain ⟨l3, fs, e5, s1, hl, F⟩ := hi
    subst e5
    have hi := (rngA_get e).1
    refine onS_of rfl ?_
    simp [pre_app s1 (i := g.length) (at' fs)]
    refine wordG_ok (p := g.length) e1 e2 D s1 (at' fs) (by omega) fun x h2 w ex s2 => ?_
    refine app_ok (i := g.length) s2 (at' fs) (by rw [encS_len]; unfold big; omega) fun h3 s3 => ?_
    refine ⟨_, fs ++ [x], rfl, ?_, by simp [hl], F.add (by omega) w ex⟩
    have e6 : encS (fs ++ [x]) = encS fs ++ [.str x] := by simp [encS]
    rw [e6]
    rw [List.set_append_right _ _ (Nat.le_refl _), Nat.sub_self] at s3
    exact s3.mono (by omega)
  · obtain ⟨l3, fs, e5, s1, hl, F⟩ := hi
    subst e5
    rw [rngA_len] at hl s1
    rw [thenS_nx]
    simp [tup_ref s1 (i := g.length) (at' fs)]
    exact end_st s s1 (AV.pure_lt (v := .tup _) encS_pure) fun h2 s2 => q fs h2 hl F (s2.mono (by omega))
theorem facts_ok (e1 : T.df "_law_next" = some d_next) (e2 : T.df "_law_word" = some d_word) (e3 : T.df "_law_facts" = some d_facts) (D : Drw ms) {n k many : Nat} {Q : AV → AH → Prop} (s : St ms n [] h) (hn : n < 2 ^ 29) (hm : many ≤ 10)
    (q : ∀ fs h', fs.length = many → Facts fs → St ms (n + 4000) [] h' → Q (.tup (encS fs)) h') : wp (callN T (k + 1 + 1 + 1) false "_law_facts" [.ref 0, .int many]) Q X h := factsG_ok e1 e2 e3 D s hn hm q
theorem drawn_ok (e1 : T.df "_law_next" = some d_next) (e3 : T.df "_law_scene" = some d_scene) (D : Drw ms) {n k : Nat} {g : AH} {Q : AV → AH → Prop} (s : St ms n g h) (hn : n < 2 ^ 29) (hf : fs.length ≤ 100)
    (q : ∀ sc h', sc.Sublist fs → St ms (n + fs.length) g h' → Q (.tup (encS sc)) h') : wp (callN T (k + 1 + 1) false "_law_scene" [.ref 0, .tup (encS fs)]) Q X h := by
  refine wp_call e3 rfl ?_
  simp only [d_scene]
  simp [encS_len]
  refine ⟨by unfold big; omega, ?_⟩
  refine comp_keep (c := 1) (enc := AV.str) (l := fs) s (fun _ _ _ => stands_free fun _ z => nomatch z) (fun x hx n' h' hn' s' => onS_of rfl ?_) fun l' hs h' s' => ?_
  · simp
    refine draw_ok e1 D s' (by omega) (by decide) fun y hy h2 s2 => ?_
    simp
    exact s2
  · refine end_st0 s s' (v := .tup _) encS_pure fun h2 s2 => q l' h2 hs (s2.mono (by omega))
end
end Z

set_option Elab.async false
set_option linter.all false
set_option maxRecDepth 100000
set_option autoImplicit false
set_option maxHeartbeats 1000000
/-! ZY: systems of states: values, moves, paths; what can be shown. -/
namespace Z
open PySem
def encR (rows : List (List Int)) : List AV := rows.map fun r => .tup (encI r)
def encC (scenes : List (List Str)) : List AV := scenes.map fun s => .tup (encS s)
structure Sys where
  sc : List (List Str)
  fi : List Int
  mo : List (List Int)
def Sys.av (s : Sys) : AV := .tup [.tup (encC s.sc), .tup (encI s.fi), .tup (encR s.mo)]
theorem encR_len {xs : List (List Int)} : (encR xs).length = xs.length := List.length_map _
theorem encC_len {xs : List (List Str)} : (encC xs).length = xs.length := List.length_map _
def inB (many : Nat) (x : Int) : Bool := decide (0 ≤ x) && decide (x < many)
def d_path : Df := ⟨2, 5, (.seq (.asg (.var 2) (.bf .len (.cons (.idx (.var 0) (.int 0)) (.nil))))
(.seq (.ite (.bor (.cons (.cmp .lt (.bf .len (.cons (.var 1) (.nil))) (.int 1)) (.cons (.not (.bf .all (.cons (.comp [4] (.chain (.int 0) (.lnk .le (.var 4) (.lnk .lt (.var 2) .nil))) (.var 4) (.var 1) .nil) (.nil)))) (.nil)))) (.seq (.ret (.bl false))
(.nil)) (.nil))
(.seq (.ret (.bf .all (.cons (.comp [3] (.cmp .isIn (.idx (.var 1) (.bin .add (.var 3) (.int 1))) (.idx (.idx (.var 0) (.int 2)) (.idx (.var 1) (.var 3)))) (.var 3) (.rng (.cons (.bin .sub (.bf .len (.cons (.var 1) (.nil))) (.int 1)) (.nil))) .nil) (.nil))))
(.nil))))⟩
section
variable {T : Tb} {h : AH} {X : Ex → AH → Prop} {ms : List Int}
def moAt (s : Sys) (x : Int) : List Int := s.mo[x.toNat]?.getD []
theorem mo_ix {s : Sys} {x : Int} (h0 : 0 ≤ x) (h1 : x < s.mo.length) : ixV h (.tup (encR s.mo)) (.int x) = some (.tup (encI (moAt s x))) := by
  obtain ⟨k, rfl⟩ : ∃ k : Nat, x = k := ⟨x.toNat, by omega⟩
  refine ix_tupN ?_
  unfold encR moAt
  rw [List.getElem?_map, get_getD (xs := s.mo) (k := k) (d := []) (Int.ofNat_lt.mp h1)]
  rfl
theorem sc_ix {s : Sys} {x : Int} (h0 : 0 ≤ x) (h1 : x < s.sc.length) : ixV h (.tup (encC s.sc)) (.int x) = some (.tup (encS (s.sc[x.toNat]?.getD []))) := by
  obtain ⟨k, rfl⟩ : ∃ k : Nat, x = k := ⟨x.toNat, by omega⟩
  refine ix_tupN ?_
  unfold encC
  rw [List.getElem?_map, get_getD (xs := s.sc) (k := k) (d := []) (Int.ofNat_lt.mp h1)]
  rfl
def stepB (s : Sys) (r : List Int) (k : Nat) : Bool := decide (r[k + 1]?.getD 0 ∈ moAt s (r[k]?.getD 0))
def pathB (s : Sys) (r : List Int) : Bool := decide (1 ≤ r.length) && r.all (inB s.sc.length) && (List.range (r.length - 1)).all (stepB s r)
theorem path_ok (e0 : T.df "is_path" = some d_path) {n : Nat} {s : Sys} {r : List Int} {Q : AV → AH → Prop} (hm : s.mo.length = s.sc.length) (hl : r.length ≤ 100) (q : Q (.bl (pathB s r)) h) : wp (callN T (n + 1) false "is_path" [s.av, .tup (encI r)]) Q X h := by
  refine wp_call e0 rfl ?_
  simp only [d_path]
  simp [Sys.av, encC_len, encI_len, encR_len, rngA_len]
  unfold pathB at q
  by_cases h1 : (r.length : Int) < 1
  · rw [if_pos h1]
    have e : decide (1 ≤ r.length) = false := decide_eq_false (by omega)
    rw [e, Bool.false_and, Bool.false_and] at q
    exact end_same (by simp [AV.lt]) q
  · rw [if_neg h1]
    have e : decide (1 ≤ r.length) = true := decide_eq_true (by omega)
    rw [e, Bool.true_and] at q
    refine ⟨by unfold big; omega, ?_⟩
    refine comp_map (enc := AV.int) (l := r) (f := fun x => .bl (inB s.sc.length x)) (stands_free fun _ z => nomatch z) (fun x hx => onS_of rfl ?_) ?_
    · simp
      unfold inB
      by_cases y : 0 ≤ x <;> simp [y]
    · refine onS_of b_allM ?_
      rw [tB_bl]
      by_cases z2 : r.all (inB s.sc.length) = true
      · rw [if_pos z2]
        rw [z2, Bool.true_and] at q
        refine ⟨⟨by omega, by omega⟩, by unfold big; omega, ?_⟩
        refine comp_map (enc := fun (i : Nat) => AV.int (0 + i)) (l := List.range (r.length - 1)) (f := fun k => .bl (stepB s r k)) (stands_free fun _ z => nomatch z) (fun k hk => onS_of rfl ?_) ?_
        · have hk := List.mem_range.mp hk
          have i1 := ix_tI (h := h) (xs := r) (k := k) (by omega)
          have i2 := ix_tI1 (h := h) (xs := r) (k := k) (by omega)
          have hin := List.all_eq_true.mp z2 (r[k]?.getD 0) (Z.getD_mem (by omega))
          unfold inB at hin
          simp only [Bool.and_eq_true, decide_eq_true_eq] at hin
          have i3 := mo_ix (h := h) (s := s) (x := r[k]?.getD 0) hin.1 (by rw [hm]; exact hin.2)
          simp only [Int.zero_add]
          simp [i1, i2, i3]
          rfl
        · refine onS_of b_allM ?_
          exact end_same (by simp [AV.lt]) q
      · rw [if_neg z2]
        have z2' : r.all (inB s.sc.length) = false := by simpa using z2
        rw [z2', Bool.false_and] at q
        exact end_same (by simp [AV.lt]) q
theorem ix_last {r : List Int} (h0 : 0 < r.length) : ixV h (.tup (encI r)) (.int (-1)) = some (.int (r[r.length - 1]?.getD 0)) := by
  show L2.atI (encI r) (-1) = _
  unfold L2.atI
  have e : L2.ixN (encI r).length (-1) = some (r.length - 1) := by
    rw [encI_len]
    unfold L2.ixN
    simp
    omega
  rw [e]
  exact encI_at (get_getD (by omega))
end
def Row (many : Nat) (r : List Int) : Prop := ∃ l : List Nat, r = l.map (fun (x : Nat) => (x : Int)) ∧ l.Sublist (List.range many)
theorem row_of {many : Nat} {l : List Nat} (h : l.Sublist (List.range many)) : Row many (l.map fun (x : Nat) => (x : Int)) :=
  ⟨l, rfl, h⟩
theorem enc_row {l : List Nat} : (l.map fun (i : Nat) => AV.int (0 + (i : Int))) = encI (l.map fun (x : Nat) => (x : Int)) := by
  unfold encI
  rw [List.map_map]
  refine List.map_congr_left fun x _ => ?_
  simp
theorem row_len {many : Nat} {r : List Int} (h : Row many r) : r.length ≤ many := by
  obtain ⟨l, rfl, hl⟩ := h
  have := hl.length_le
  rw [List.length_range] at this
  rw [List.length_map]
  exact this
theorem encI_app {xs ys : List Int} : encI (xs ++ ys) = encI xs ++ encI ys := List.map_append
theorem encI_drop {xs : List Int} {k : Nat} : encI (xs.drop k) = (encI xs).drop k := List.map_drop
theorem encR_tail {xs : List (List Int)} : encR xs.tail = (encR xs).tail := List.map_tail
theorem encC_tail {xs : List (List Str)} : encC xs.tail = (encC xs).tail := List.map_tail
theorem encC_app {xs ys : List (List Str)} : encC (xs ++ ys) = encC xs ++ encC ys := List.map_append
theorem encC_take {xs : List (List Str)} {k : Nat} : encC (xs.take k) = (encC xs).take k := List.map_take
theorem encI_nil : encI [] = [] := rfl
theorem encI_cons {x : Int} {xs : List Int} : encI (x :: xs) = .int x :: encI xs := rfl
theorem encC_nil : encC [] = [] := rfl
theorem encR_nil : encR [] = [] := rfl
theorem dat_row {xs : List Int} (h : ∀ x ∈ xs, x.natAbs < 10 ^ 12) : datAll (encI xs) = some (xs.map .int) := by
  induction xs with
  | nil => rfl
  | cons x xs ih =>
    rw [encI_cons]
    simp only [datAll, dat, if_pos (h x (by simp)), ih (fun y hy => h y (by simp [hy]))]
    rfl
theorem dat_strs {xs : List Str} (h : ∀ x ∈ xs, PyData.strOk x = true) : datAll (encS xs) = some (xs.map .str) := by
  induction xs with
  | nil => rfl
  | cons x xs ih =>
    show datAll (.str x :: encS xs) = _
    simp only [datAll, dat, if_pos (h x (by simp)), ih (fun y hy => h y (by simp [hy]))]
    rfl
theorem dat_map {α : Type} {f : α → AV} {g : α → PyData} {xs : List α} (h : ∀ x ∈ xs, dat (f x) = some (g x)) : datAll (xs.map f) = some (xs.map g) := by
  induction xs with
  | nil => rfl
  | cons x xs ih =>
    rw [List.map_cons]
    simp only [datAll, h x (by simp), ih (fun y hy => h y (by simp [hy]))]
    rfl
theorem bulk_map {α : Type} {g : α → PyData} {B : Nat} : ∀ {xs : List α}, (∀ x ∈ xs, (g x).bulk ≤ B) → PyData.bulkAll (xs.map g) ≤ xs.length * (B + 1)
  | [], _ => by simp [PyData.bulkAll]
  | x :: xs, h => by
    have h1 := h x (by simp)
    have h2 := bulk_map (xs := xs) (g := g) (B := B) fun y hy => h y (by simp [hy])
    simp only [List.map_cons, PyData.bulkAll, List.length_cons]
    rw [Nat.add_mul]
    omega
theorem depth_map {α : Type} {g : α → PyData} {B : Nat} : ∀ {xs : List α}, (∀ x ∈ xs, (g x).depth ≤ B) → PyData.depthAll (xs.map g) ≤ B
  | [], _ => by simp [PyData.depthAll]
  | x :: xs, h => by
    have h1 := h x (by simp)
    have h2 := depth_map (xs := xs) (g := g) (B := B) fun y hy => h y (by simp [hy])
    simp only [List.map_cons, PyData.depthAll]
    omega
def sceneD (s : List Str) : PyData := .tuple (s.map .str)
def rowD (r : List Int) : PyData := .tuple (r.map .int)
theorem scene_shw {s : List Str} (h : ∀ x ∈ s, PyData.strOk x = true ∧ x.length ≤ 8) (hl : s.length ≤ 10) : dat (.tup (encS s)) = some (sceneD s) ∧ (sceneD s).depth ≤ 2 ∧ (sceneD s).bulk ≤ 90 := by
  refine ⟨?_, ?_, ?_⟩
  · simp only [dat, dat_strs fun x hx => (h x hx).1]
    rfl
  · have := depth_map (xs := s) (g := PyData.str) (B := 1) fun x _ => by simp [PyData.depth]
    simp only [sceneD, PyData.depth]
    omega
  · have := bulk_map (xs := s) (g := PyData.str) (B := 8) fun x hx => (h x hx).2
    simp only [sceneD, PyData.bulk]
    omega
theorem row_shw {r : List Int} (h : ∀ x ∈ r, x.natAbs < 10 ^ 12) (hl : r.length ≤ 100) : dat (.tup (encI r)) = some (rowD r) ∧ (rowD r).depth ≤ 2 ∧ (rowD r).bulk ≤ 100 := by
  refine ⟨?_, ?_, ?_⟩
  · simp only [dat, dat_row h]
    rfl
  · have := depth_map (xs := r) (g := PyData.int) (B := 1) fun x _ => by simp [PyData.depth]
    simp only [rowD, PyData.depth]
    omega
  · have := bulk_map (xs := r) (g := PyData.int) (B := 0) fun x hx => by simp [PyData.bulk]
    simp only [rowD, PyData.bulk]
    omega
def Plain (ss : List (List Str)) : Prop := ∀ s ∈ ss, (∀ x ∈ s, PyData.strOk x = true ∧ x.length ≤ 8) ∧ s.length ≤ 10
theorem scenes_shw {ss : List (List Str)} (h : Plain ss) (hl : ss.length ≤ 100) : dat (.tup (encC ss)) = some (.tuple (ss.map sceneD)) ∧ (PyData.tuple (ss.map sceneD)).depth ≤ 3 ∧ (PyData.tuple (ss.map sceneD)).bulk ≤ 9100 := by
  refine ⟨?_, ?_, ?_⟩
  · have := dat_map (xs := ss) (f := fun s => AV.tup (encS s)) (g := sceneD) fun s hs => (scene_shw (h s hs).1 (h s hs).2).1
    simp only [dat, encC, this]
    rfl
  · have := depth_map (xs := ss) (g := sceneD) (B := 2) fun s hs => (scene_shw (h s hs).1 (h s hs).2).2.1
    simp only [PyData.depth]
    omega
  · have := bulk_map (xs := ss) (g := sceneD) (B := 90) fun s hs => (scene_shw (h s hs).1 (h s hs).2).2.2
    simp only [PyData.bulk]
    omega
/-! ### lists that a def made, behind the heap that it met -/
section
variable {T : Tb} {R : Rec} {h r : AH} {X : Ex → AH → Prop} {j : Nat} {xs : List AV}
theorem at_r : (h ++ r)[h.length + j]? = r[j]? := by rw [List.getElem?_append_right (by omega), Nat.add_sub_cancel_left]
theorem set_r {o : AO} : (h ++ r).set (h.length + j) o = h ++ r.set j o := by rw [List.set_append_right _ _ (by omega), Nat.add_sub_cancel_left]
theorem len_r (e : r[j]? = some (.lst xs)) : bfV (h ++ r) .len [.ref (h.length + j)] = some (.int xs.length) := by
  simp [bfV, bf1, getS, getL, at_r, e]
theorem pre_r {m : Md} (e : r[j]? = some (.lst xs)) (hm : m ≠ .get ∧ m ≠ .update) : mdPre (h ++ r) m (.ref (h.length + j)) = some () := by
  cases m <;> simp [mdPre, getL, at_r, e] at * 
theorem pop_r {y : AV} (e : r[j]? = some (.lst xs)) (ey : xs[xs.length - 1]? = some y) : mdV .pop (.ref (h.length + j)) [] (h ++ r) = some (.ok y (h ++ r.set j (.lst xs.dropLast))) := by
  simp only [mdV, at_r, e, ey, set_r]
theorem put_r {v : AV} (e : r[j]? = some (.lst xs)) (hl : xs.length < big) : mdV .append (.ref (h.length + j)) [v] (h ++ r) = some (.ok .non (h ++ r.set j (.lst (xs ++ [v])))) := by
  simp only [mdV, at_r, e, set_r]
  rw [if_pos hl]
theorem ext_r {ys : List AV} (e : r[j]? = some (.lst xs)) (hl : xs.length + ys.length ≤ big) : mdV .extend (.ref (h.length + j)) [.tup ys] (h ++ r) = some (.ok .non (h ++ r.set j (.lst (xs ++ ys)))) := by
  simp only [mdV, at_r, e, set_r]
  rw [if_pos hl]
theorem add_r {ys : List AV} (e : r[j]? = some (.lst xs)) (hl : xs.length + ys.length ≤ big) : binV (h ++ r) .add (.ref (h.length + j)) (.lst ys) = some (.lst (xs ++ ys)) := by
  show (match getM (h ++ r) (.ref (h.length + j)), getM (h ++ r) (.lst ys) with | some xs, some ys => if xs.length + ys.length ≤ big then some (AV.lst (xs ++ ys)) else none | _, _ => none) = _
  simp only [getM, getL, at_r, e]
  rw [if_pos hl]
theorem ni_r {x : Int} {xs : List Int} (e : r[j]? = some (.lst (encI xs))) : cmpV (h ++ r) .notIn (.int x) (.ref (h.length + j)) = some (!decide (x ∈ xs)) := by
  show (match getS (h ++ r) (.ref (h.length + j)) with | some ys => (inV (h ++ r) (.int x) ys).map (!·) | none => (getD (h ++ r) (.ref (h.length + j))).bind fun kvs => (dgetA kvs (.int x)).map fun (o : Option AV) => !o.isSome) = _
  simp only [getS, getL, at_r, e, inI]
  rfl
theorem allI_encI : ∀ {xs : List Int}, allI (encI xs) = some xs
  | [] => rfl
  | x :: xs => by
    show (match asI (.int x), allI (encI xs) with | some b, some bs => some (b :: bs) | _, _ => none) = _
    rw [allI_encI]
    rfl
theorem sorted_r {xs : List Int} (e : r[j]? = some (.lst (encI xs))) : bfV (h ++ r) .sorted [.ref (h.length + j)] = some (.lst (encI (sortI xs))) := by
  show ((getL (h ++ r) (.ref (h.length + j))).bind allI).map _ = _
  simp only [getL, at_r, e, Option.bind, allI_encI]
  rfl
theorem insI_in {i y : Int} : ∀ {xs : List Int}, (y = i ∨ y ∈ xs) → y ∈ insI i xs
  | [], h => by simpa [insI] using h
  | x :: xs, h => by
    unfold insI
    split
    · simpa using h
    · rcases h with h | h
      · exact List.mem_cons_of_mem _ (insI_in (.inl h))
      · rcases List.mem_cons.mp h with h | h
        · rw [h]; exact List.mem_cons_self ..
        · exact List.mem_cons_of_mem _ (insI_in (.inr h))
theorem sortI_iff {y : Int} : ∀ {xs : List Int}, y ∈ sortI xs ↔ y ∈ xs
  | [] => Iff.rfl
  | x :: xs => by
    show y ∈ insI x (sortI xs) ↔ _
    constructor
    · intro h
      rcases insI_mem h with h | h
      · rw [h]; exact List.mem_cons_self ..
      · exact List.mem_cons_of_mem _ (sortI_iff.mp h)
    · intro h
      rcases List.mem_cons.mp h with h | h
      · exact insI_in (.inl h)
      · exact insI_in (.inr (sortI_iff.mpr h))
theorem end_newR {Q : AV → AH → Prop} {ρ : AEnv} (e : r[j]? = some (.lst xs)) (p : ltAll h.length xs) (q : Q (.lst xs) h) : endC false h Q X (.rt (.ref (h.length + j))) ρ (h ++ r) := by
  show onO Q X (fin false h (.ref (h.length + j)) (h ++ r))
  unfold fin
  rw [if_pos okPre_app, if_neg (show ¬ (AV.ref (h.length + j)).lt h.length from fun z => by have z : h.length + j < h.length := z; omega)]
  simp only [at_r, e]
  rw [if_pos p, if_neg Bool.false_ne_true, List.take_left]
  exact q
/-- a comprehension that only picks -/
theorem comp_filt {α : Type} {enc : α → AV} {l : List α} {p : α → Bool} {v : AV} {bind : AV → Option AEnv} {cond : AEnv → M Bool} {elt : AEnv → M AV} {Q : List AV → AH → Prop} (st : stands v (l.map enc) h = some (.ok () h))
    (turn : ∀ a ∈ l, onS (bind (enc a)) fun ρ => wp (cond ρ) (fun b h2 => b = p a ∧ h2 = h ∧ wp (elt ρ) (fun y h4 => y = enc a ∧ h4 = h) X h) X h) (q : Q ((l.filter p).map enc) h) : wp (compL bind cond elt (stands v (l.map enc)) [] (l.map enc)) Q X h := by
  refine w_compL (I := fun i acc h' => h' = h ∧ acc = ((l.take i).filter p).map enc) ⟨rfl, rfl⟩ (fun _ _ _ hi => by rw [hi.1]; exact st) (fun i x acc h' e hi => ?_) (fun acc h' hi => ?_)
  · obtain ⟨rfl, rfl⟩ := hi
    rw [List.getElem?_map, Option.map_eq_some_iff] at e
    obtain ⟨a, ea, rfl⟩ := e
    have t := turn a (List.mem_of_getElem? ea)
    have tk : (l.take (i + 1)).filter p = (l.take i).filter p ++ (if p a = true then [a] else []) := by
      rw [List.take_add_one, ea, List.filter_append]
      by_cases z : p a = true <;> simp [z]
    cases eb : bind (enc a) with
    | none => rw [eb] at t; exact t.elim
    | some ρ =>
      rw [eb] at t
      show wp _ _ _ _
      refine wp_mono t (fun b h2 z => ?_) fun _ _ z => z
      obtain ⟨rfl, rfl, w⟩ := z
      by_cases z : p a = true
      · rw [if_pos z]
        refine wp_mono w (fun y h4 z2 => ?_) fun _ _ z => z
        obtain ⟨rfl, rfl⟩ := z2
        refine ⟨rfl, ?_⟩
        rw [tk, if_pos z, List.map_append]
        rfl
      · rw [if_neg z]
        refine ⟨rfl, ?_⟩
        rw [tk, if_neg z, List.append_nil]
  · obtain ⟨rfl, rfl⟩ := hi
    rw [List.length_map, List.take_length]
    exact q
theorem eqv_ints : ∀ {xs ys : List Int}, PyData.eqvAll (xs.map .int) (ys.map .int) = decide (xs = ys)
  | [], [] => rfl
  | x :: xs, y :: ys => by
    rw [List.map_cons, List.map_cons]
    show (PyData.eqv (.int x) (.int y) && PyData.eqvAll (xs.map .int) (ys.map .int)) = _
    rw [eqv_int, eqv_ints]
    simp
  | [], y :: ys => by simp [PyData.eqvAll]
  | x :: xs, [] => by simp [PyData.eqvAll]
@[simp] theorem k_eqR {xs ys : List Int} : cmpV h .eq (.tup (encI xs)) (.tup (encI ys)) = some (decide (xs = ys)) := by
  have e1 : toD1 h (.tup (encI xs)) = some (.tuple (xs.map .int)) := toD_toD1 <| by
    show (toDs h (encI xs)).map _ = _
    rw [show toDs h (encI xs) = some (xs.map PyData.int) from toDs_map fun _ => rfl]
    rfl
  have e2 : toD1 h (.tup (encI ys)) = some (.tuple (ys.map .int)) := toD_toD1 <| by
    show (toDs h (encI ys)).map _ = _
    rw [show toDs h (encI ys) = some (ys.map PyData.int) from toDs_map fun _ => rfl]
    rfl
  show eqD h _ _ = _
  unfold eqD
  rw [e1, e2]
  simp only
  have d := depth_map (xs := xs) (g := PyData.int) (B := 1) fun x _ => by simp [PyData.depth]
  rw [if_pos (Nat.le_trans (Nat.min_le_left _ _) (by simp only [PyData.depth]; omega))]
  show some (PyData.eqvAll (xs.map .int) (ys.map .int)) = _
  rw [eqv_ints]
theorem slI_dk {xs : List Int} {k : Nat} : slV h (.tup (encI xs)) (some (k : Int)) none = some (.tup (encI (xs.drop k))) := by rw [slT_drop, encI_drop]
theorem slI_tk {xs : List Int} {k : Nat} : slV h (.tup (encI xs)) none (some (k : Int)) = some (.tup (encI (xs.take k))) := by
  rw [slT_take]
  simp [encI, List.map_take]
theorem cut_mid {α : Type} {xs : List α} {a b : Nat} : cut xs (some (a : Int)) (some (b : Int)) = (xs.drop a).take (b - a) := by
  unfold cut
  rw [show HT.sIx xs.length 0 (some (a : Int)) = min a xs.length from HT.sIx_nat _ _ _, show HT.sIx xs.length xs.length (some (b : Int)) = min b xs.length from HT.sIx_nat _ _ _]
  by_cases e : a ≤ xs.length
  · rw [Nat.min_eq_left e]
    refine List.take_eq_take_iff.mpr ?_
    rw [List.length_drop]
    omega
  · rw [show min a xs.length = xs.length by omega, List.drop_length, List.drop_eq_nil_of_le (by omega : xs.length ≤ a), List.take_nil, List.take_nil]
theorem slI_mid {xs : List Int} {a b : Nat} : slV h (.tup (encI xs)) (some (a : Int)) (some (b : Int)) = some (.tup (encI ((xs.drop a).take (b - a)))) := by
  show some (AV.tup (cut (encI xs) (some (a : Int)) (some (b : Int)))) = _
  rw [cut_mid]
  simp [encI, List.map_take, List.map_drop]
theorem take_encI {xs : List Int} {k : Nat} : (encI xs).take k = encI (xs.take k) := by simp [encI, List.map_take]
theorem drop_encI {xs : List Int} {k : Nat} : (encI xs).drop k = encI (xs.drop k) := encI_drop.symm
theorem slT_neg {xs : List AV} {m : Nat} (h1 : 1 ≤ m) : slV h (.tup xs) (some (-(m : Int))) none = some (.tup (xs.drop (xs.length - m))) := by
  show some (AV.tup (cut xs (some (-(m : Int))) none)) = _
  unfold cut
  rw [HT.sIx_none]
  have e : HT.sIx xs.length 0 (some (-(m : Int))) = xs.length - m := by
    show (if (-(m : Int)) < 0 then ((-(m : Int)) + (xs.length : Int)).toNat else min (-(m : Int)).toNat xs.length) = _
    rw [if_pos (by omega)]
    omega
  rw [e]
  congr 2
  exact List.take_of_length_le (by rw [List.length_drop]; omega)
end
end Z

set_option Elab.async false
set_option linter.all false
set_option maxRecDepth 100000
set_option autoImplicit false
set_option maxHeartbeats 1000000
/-! ZU: more of comprehensions, kinds, sums. -/
namespace Z
open PySem
section
variable {T : Tb} {h : AH} {X : Ex → AH → Prop} {fs : List Str} {ms : List Int}
theorem isb_ts {x : Str} : isB h (.str x) ["tuple"] = some false := by simp (decide := true) [isB, kindA, tyN, kB]
theorem isb_tt {x : List AV} : isB h (.tup x) ["tuple"] = some true := by simp (decide := true) [isB, kindA, tyN, kB]
theorem isb_ss {x : Str} : isB h (.str x) ["str"] = some true := by simp (decide := true) [isB, kindA, tyN, kB]
theorem isb_st {x : List AV} : isB h (.tup x) ["str"] = some false := by simp (decide := true) [isB, kindA, tyN, kB]
theorem comp_filt0 {R : Rec} {l : List AV} {p : AV → Bool} {v : AV} {bind : AV → Option AEnv} {cond : AEnv → M Bool} {elt : AEnv → M AV} {Q : List AV → AH → Prop} (st : stands v l h = some (.ok () h))
    (turn : ∀ a ∈ l, onS (bind a) fun ρ => wp (cond ρ) (fun b h2 => b = p a ∧ h2 = h ∧ wp (elt ρ) (fun y h4 => y = a ∧ h4 = h) X h) X h) (q : Q (l.filter p) h) : wp (compL bind cond elt (stands v l) [] l) Q X h := by
  have w := comp_filt (X := X) (h := h) (enc := id) (l := l) (p := p) (v := v) (bind := bind) (cond := cond) (elt := elt) (Q := Q)
  simp only [List.map_id] at w
  exact w st turn q
theorem b_sumM {α : Type} {l : List α} {f : α → Nat} : bfV h .sum [.lst (l.map fun a => .int (f a))] = some (.int ((l.map f).sum : Nat)) := by
  have e : allI (l.map fun a => .int (f a)) = some (l.map fun a => (f a : Int)) := by
    induction l with
    | nil => rfl
    | cons a l ih => simp [allI, asI, ih]
  show ((getL h (.lst _)).bind allI).map _ = _
  simp only [getL, Option.bind_some, e, Option.map_some]
  congr 2
  induction l with
  | nil => rfl
  | cons a l ih =>
    have e2 : allI (l.map fun a => .int (f a)) = some (l.map fun a => (f a : Int)) := by
      clear ih e
      induction l with
      | nil => rfl
      | cons a l ih => simp [allI, asI, ih]
    simp [ih e2]
theorem comp_mfk {β : Type} {R : Rec} {l : List AV} {p : AV → Bool} {ks : List β} {enc : β → AV} {f : β → AV} {v : AV} {bind : AV → Option AEnv} {cond : AEnv → M Bool} {elt : AEnv → M AV} {Q : List AV → AH → Prop} (hk : l.filter p = ks.map enc) (st : stands v l h = some (.ok () h))
    (turn : ∀ a ∈ l, onS (bind a) fun ρ => wp (cond ρ) (fun b h2 => b = p a ∧ h2 = h ∧ ∀ k ∈ ks, a = enc k → wp (elt ρ) (fun y h4 => y = f k ∧ h4 = h) X h) X h) (q : Q (ks.map f) h) : wp (compL bind cond elt (stands v l) [] l) Q X h := by
  refine w_compL (I := fun i acc h' => h' = h ∧ ∃ j, j ≤ ks.length ∧ (l.take i).filter p = (ks.take j).map enc ∧ acc = (ks.take j).map f) ⟨rfl, 0, Nat.zero_le _, rfl, rfl⟩ (fun _ _ _ hi => by rw [hi.1]; exact st) (fun i a acc h' e hi => ?_) (fun acc h' hi => ?_)
  · obtain ⟨rfl, j, hj, h1, rfl⟩ := hi
    have t := turn a (List.mem_of_getElem? e)
    have tk : (l.take (i + 1)).filter p = (l.take i).filter p ++ (if p a = true then [a] else []) := by
      rw [List.take_add_one, e, List.filter_append]
      by_cases z : p a = true <;> simp [z]
    cases eb : bind a with
    | none => rw [eb] at t; exact t.elim
    | some ρ =>
      rw [eb] at t
      show wp _ _ _ _
      refine wp_mono t (fun b h2 z => ?_) fun _ _ z => z
      obtain ⟨rfl, rfl, w⟩ := z
      by_cases z : p a = true
      · rw [if_pos z]
        have sp : l.filter p = (l.take i).filter p ++ a :: (l.drop (i + 1)).filter p := by
          have : l = l.take i ++ a :: l.drop (i + 1) := by
            have hi := (List.getElem?_eq_some_iff.mp e)
            obtain ⟨hi, he⟩ := hi
            rw [← he, ← List.drop_eq_getElem_cons hi, List.take_append_drop]
          conv => lhs; rw [this]
          rw [List.filter_append, List.filter_cons, if_pos z]
        have lj : ((ks.take j).map enc).length = j := by rw [List.length_map, List.length_take]; omega
        have ej : (ks.map enc)[j]? = some a := by
          rw [← hk, sp, h1, List.getElem?_append_right (by omega), lj]
          simp
        rw [List.getElem?_map, Option.map_eq_some_iff] at ej
        obtain ⟨k, ek, e2⟩ := ej
        have ej := (List.getElem?_eq_some_iff.mp ek).1
        refine wp_mono (w k (List.mem_of_getElem? ek) e2.symm) (fun y h4 z2 => ?_) fun _ _ z => z
        obtain ⟨rfl, rfl⟩ := z2
        refine ⟨rfl, j + 1, ej, ?_, ?_⟩
        · rw [tk, if_pos z, h1, List.take_add_one, ek, List.map_append, ← e2]
          rfl
        · rw [List.take_add_one, ek, List.map_append]
          rfl
      · rw [if_neg z]
        refine ⟨rfl, j, hj, ?_, rfl⟩
        rw [tk, if_neg z, List.append_nil, h1]
  · obtain ⟨rfl, j, hj, h1, rfl⟩ := hi
    rw [List.take_length, hk] at h1
    have : j = ks.length := by
      have := congrArg List.length h1
      simp at this
      omega
    rw [this, List.take_length]
    exact q
theorem comp_map0 {R : Rec} {l : List AV} {f : AV → AV} {v : AV} {bind : AV → Option AEnv} {elt : AEnv → M AV} {Q : List AV → AH → Prop} (st : stands v l h = some (.ok () h))
    (turn : ∀ a ∈ l, onS (bind a) fun ρ => wp (elt ρ) (fun y h2 => y = f a ∧ h2 = h) X h) (q : Q (l.map f) h) : wp (compL bind (ev T R .nil).c elt (stands v l) [] l) Q X h := by
  have w := comp_map (T := T) (R := R) (X := X) (h := h) (enc := id) (l := l) (f := f) (v := v) (bind := bind) (elt := elt) (Q := Q)
  simp only [List.map_id] at w
  exact w st turn q
theorem encS_app {xs ys : List Str} : encS (xs ++ ys) = encS xs ++ encS ys := List.map_append
theorem ext_rl {r : AH} {j : Nat} {xs ys : List AV} (e : r[j]? = some (.lst xs)) (hl : xs.length + ys.length ≤ big) : mdV .extend (.ref (h.length + j)) [.lst ys] (h ++ r) = some (.ok .non (h ++ r.set j (.lst (xs ++ ys)))) := by
  have e2 : (h ++ r)[h.length + j]? = some (.lst xs) := by rw [at_r, e]
  simp only [mdV, e2, getM, getL]
  rw [if_pos hl, set_r]
theorem slL_tail {xs : List AV} : slV h (.lst xs) (some 1) none = some (.lst (xs.drop 1)) := by
  simp only [slV, getL, Option.map_some]
  rw [show (1 : Int) = ((1 : Nat) : Int) from rfl, cut_drop]
theorem slT_tail {xs : List AV} : slV h (.tup xs) (some 1) none = some (.tup (xs.drop 1)) := slT_drop (k := 1)
end
end Z

set_option Elab.async false
set_option linter.all false
set_option maxRecDepth 100000
set_option autoImplicit false
set_option maxHeartbeats 1000000
/-! ZUA: kinds of values with an equality that is asked. -/
namespace Z
open PySem
class En (α : Type) where
  av : α → AV
  dt : α → PyData
  dp : Nat
  toD : ∀ (h : AH) (a : α), toD h (av a) = some (dt a)
  dep : ∀ a : α, (dt a).depth ≤ dp
  pure : ∀ a : α, (av a).pure = true
  /-- what can be shown -/
  shw : α → Prop
  dat : ∀ a : α, shw a → Z.dat (av a) = some (dt a)
class EnE (α : Type) [DecidableEq α] extends En α where
  eqv : ∀ a b : α, PyData.eqv (dt a) (dt b) = decide (a = b)
open En (av dt)
instance : En Str where
  av := AV.str
  dt := .str
  dp := 1
  toD := fun _ _ => rfl
  dep := fun a => by simp [PyData.depth]
  pure := fun _ => rfl
  shw := fun a => PyData.strOk a = true
  dat := fun a h => by simp [Z.dat, h]
instance : EnE Str where
  eqv := fun a b => eqv_str
instance : En Int where
  av := AV.int
  dt := .int
  dp := 1
  toD := fun _ _ => rfl
  dep := fun a => by simp [PyData.depth]
  pure := fun _ => rfl
  shw := fun a => a.natAbs < 10 ^ 12
  dat := fun a h => by simp only [Z.dat]; rw [if_pos h]
instance : EnE Int where
  eqv := fun a b => eqv_int
section
variable {α β γ : Type} [En α] [En β] [En γ]
theorem toDs_av {h : AH} : ∀ {xs : List α}, toDs h (xs.map av) = some (xs.map dt)
  | [] => rfl
  | x :: xs => by
    simp only [List.map_cons, toDs, En.toD, toDs_av]
theorem depAll_av : ∀ {xs : List α}, PyData.depthAll (xs.map dt) ≤ En.dp α
  | [] => by simp [PyData.depthAll]
  | x :: xs => by
    have h1 := En.dep x
    have h2 := depAll_av (xs := xs)
    simp only [List.map_cons, PyData.depthAll]
    omega
theorem pure_av {xs : List α} : pureAll (xs.map av) = true := pureAll_iff.mpr fun x hx => by
  simp only [List.mem_map] at hx
  obtain ⟨y, _, rfl⟩ := hx
  exact En.pure y
theorem dat_av : ∀ {xs : List α}, (∀ x ∈ xs, En.shw x) → datAll (xs.map av) = some (xs.map dt)
  | [], _ => rfl
  | x :: xs, h => by
    have e := dat_av (xs := xs) fun y hy => h y (List.mem_cons_of_mem _ hy)
    simp only [List.map_cons, datAll, En.dat x (h x List.mem_cons_self), e]
instance : En (List α) where
  av := fun xs => .tup (xs.map av)
  dt := fun xs => .tuple (xs.map dt)
  dp := En.dp α + 1
  toD := fun h xs => by show (toDs h (xs.map av)).map PyData.tuple = _; rw [toDs_av]; rfl
  dep := fun xs => by
    have := depAll_av (xs := xs)
    simp only [PyData.depth]; omega
  pure := fun xs => pure_av
  shw := fun xs => ∀ x ∈ xs, En.shw x
  dat := fun xs h => by simp only [Z.dat, dat_av h]; rfl
instance : En (α × β) where
  av := fun p => .tup [av p.1, av p.2]
  dt := fun p => .tuple [dt p.1, dt p.2]
  dp := max (En.dp α) (En.dp β) + 1
  toD := fun h p => by
    show (toDs h [av p.1, av p.2]).map PyData.tuple = _
    simp only [toDs, En.toD]; rfl
  dep := fun p => by
    have h1 := En.dep p.1
    have h2 := En.dep p.2
    simp only [PyData.depth, PyData.depthAll]; omega
  pure := fun p => by
    show pureAll [av p.1, av p.2] = true
    simp [pureAll, En.pure]
  shw := fun p => En.shw p.1 ∧ En.shw p.2
  dat := fun p h => by simp only [Z.dat, datAll, En.dat _ h.1, En.dat _ h.2]; rfl
/-- three parts -/
structure P3 (α β γ : Type) where
  a : α
  b : β
  c : γ
  deriving DecidableEq
instance : En (P3 α β γ) where
  av := fun p => .tup [av p.a, av p.b, av p.c]
  dt := fun p => .tuple [dt p.a, dt p.b, dt p.c]
  dp := max (max (En.dp α) (En.dp β)) (En.dp γ) + 1
  toD := fun h p => by
    show (toDs h [av p.a, av p.b, av p.c]).map PyData.tuple = _
    simp only [toDs, En.toD]; rfl
  dep := fun p => by
    have h1 := En.dep p.a
    have h2 := En.dep p.b
    have h3 := En.dep p.c
    simp only [PyData.depth, PyData.depthAll]; omega
  pure := fun p => by
    show pureAll [av p.a, av p.b, av p.c] = true
    simp [pureAll, En.pure]
  shw := fun p => En.shw p.a ∧ En.shw p.b ∧ En.shw p.c
  dat := fun p h => by simp only [Z.dat, datAll, En.dat _ h.1, En.dat _ h.2.1, En.dat _ h.2.2]; rfl
end
section
variable {α β γ : Type} [DecidableEq α] [DecidableEq β] [DecidableEq γ] [EnE α] [EnE β] [EnE γ]
theorem eqvAll_av : ∀ {xs ys : List α}, PyData.eqvAll (xs.map dt) (ys.map dt) = decide (xs = ys)
  | [], [] => rfl
  | [], y :: ys => by simp [PyData.eqvAll]
  | x :: xs, [] => by simp [PyData.eqvAll]
  | x :: xs, y :: ys => by
    simp only [List.map_cons, PyData.eqvAll, EnE.eqv, eqvAll_av]
    by_cases e : x = y <;> simp [e]
instance : EnE (List α) where
  eqv := fun xs ys => by
    show PyData.eqv (.tuple (xs.map dt)) (.tuple (ys.map dt)) = _
    rw [PyData.eqv, eqvAll_av]
instance : EnE (α × β) where
  eqv := fun p q => by
    show PyData.eqv (.tuple [dt p.1, dt p.2]) (.tuple [dt q.1, dt q.2]) = _
    obtain ⟨a, b⟩ := p
    obtain ⟨a', b'⟩ := q
    simp only [PyData.eqv, PyData.eqvAll, EnE.eqv, Bool.and_true, Prod.mk.injEq]
    by_cases e : a = a' <;> simp [e]
instance : EnE (P3 α β γ) where
  eqv := fun p q => by
    show PyData.eqv (.tuple [dt p.a, dt p.b, dt p.c]) (.tuple [dt q.a, dt q.b, dt q.c]) = _
    obtain ⟨a, b, c⟩ := p
    obtain ⟨a', b', c'⟩ := q
    simp only [PyData.eqv, PyData.eqvAll, EnE.eqv, Bool.and_true, P3.mk.injEq]
    by_cases e : a = a' <;> by_cases e2 : b = b' <;> simp [e, e2]
variable {h : AH}
theorem toD1_av (a : α) : toD1 h (av a) = some (dt a) := toD_toD1 (En.toD h a)
theorem eqD_av {a b : α} [Decidable (a = b)] (hd : En.dp α ≤ 64 := by decide) : eqD h (av a) (av b) = some (decide (a = b)) := by
  unfold eqD
  rw [toD1_av, toD1_av]
  simp only
  rw [if_pos (by have := En.dep a; omega), EnE.eqv]
  congr 1
  rw [decide_eq_decide]
theorem norep (a : α) : ∀ d, av a ≠ .rep d := fun d e => by
  have := En.toD [] a
  rw [e] at this
  cases this
theorem k_eqA {a b : α} [Decidable (a = b)] (hd : En.dp α ≤ 64 := by decide) : cmpV h .eq (av a) (av b) = some (decide (a = b)) := by
  show eqV h (av a) (av b) = _
  have e : eqV h (av a) (av b) = eqD h (av a) (av b) := by
    unfold eqV
    split
    · rename_i d e h1 h2
      exact absurd h1 (norep a d)
    · rfl
  rw [e, eqD_av hd]
theorem k_neA {a b : α} [Decidable (a = b)] (hd : En.dp α ≤ 64 := by decide) : cmpV h .ne (av a) (av b) = some (!decide (a = b)) := by
  show (cmpV h .eq (av a) (av b)).map (!·) = _
  rw [k_eqA hd]; rfl
theorem inV_av {a : α} {xs : List α} [Decidable (a ∈ xs)] (hd : En.dp α ≤ 64 := by decide) : inV h (av a) (xs.map av) = some (decide (a ∈ xs)) := by
  unfold inV
  rw [toD1_av, toDs_av]
  simp only
  rw [if_pos (by have := En.dep a; omega)]
  congr 1
  rw [Bool.eq_iff_iff, decide_eq_true_iff, List.any_map, List.any_eq_true]
  simp only [Function.comp, EnE.eqv, decide_eq_true_eq]
  constructor
  · rintro ⟨x, hx, rfl⟩; exact hx
  · exact fun hx => ⟨a, hx, rfl⟩
theorem nostr_of {v : AV} {b : Bool} {x : AV} (hv : ∀ y, v ≠ .str y) : cmpV h .isIn x v = (match getS h v with | some ys => inV h x ys | none => (getD h v).bind fun kvs => (dgetA kvs x).map fun (o : Option AV) => o.isSome) := by
  cases v <;> first | (exact absurd rfl (hv _)) | (cases x <;> rfl)
theorem k_inA {a : α} {xs : List α} [Decidable (a ∈ xs)] (hd : En.dp α ≤ 64 := by decide) : cmpV h .isIn (av a) (.tup (xs.map av)) = some (decide (a ∈ xs)) := by
  rw [nostr_of (b := true) fun y e => by cases e]
  exact inV_av hd
theorem k_inAL {a : α} {xs : List α} [Decidable (a ∈ xs)] (hd : En.dp α ≤ 64 := by decide) : cmpV h .isIn (av a) (.lst (xs.map av)) = some (decide (a ∈ xs)) := by
  rw [nostr_of (b := true) fun y e => by cases e]
  exact inV_av hd
theorem k_inAR {a : α} {xs : List α} [Decidable (a ∈ xs)] {n : Nat} (e : h[n]? = some (.lst (xs.map av))) (hd : En.dp α ≤ 64 := by decide) : cmpV h .isIn (av a) (.ref n) = some (decide (a ∈ xs)) := by
  rw [nostr_of (b := true) fun y e => by cases e]
  simp only [getS, getL, e]
  exact inV_av hd
theorem ni_of {v x : AV} {b : Bool} (hv : ∀ y, v ≠ .str y) (e : cmpV h .isIn x v = some b) : cmpV h .notIn x v = some (!b) := by
  rw [nostr_of (b := true) hv] at e
  have : cmpV h .notIn x v = (match getS h v with | some ys => (inV h x ys).map (!·) | none => (getD h v).bind fun kvs => (dgetA kvs x).map fun (o : Option AV) => !o.isSome) := by
    cases v <;> first | (exact absurd rfl (hv _)) | (cases x <;> rfl)
  rw [this]
  cases e2 : getS h v with
  | none =>
    rw [e2] at e
    simp only [Option.bind_eq_some_iff, Option.map_eq_some_iff] at e ⊢
    obtain ⟨kvs, h1, o, h2, h3⟩ := e
    exact ⟨kvs, h1, o, h2, by rw [h3]⟩
  | some ys => rw [e2] at e; simp only at e; simp only [e]; rfl
theorem k_niA {a : α} {xs : List α} [Decidable (a ∈ xs)] (hd : En.dp α ≤ 64 := by decide) : cmpV h .notIn (av a) (.tup (xs.map av)) = some (!decide (a ∈ xs)) := ni_of (fun y e => by cases e) (k_inA hd)
theorem k_niAL {a : α} {xs : List α} [Decidable (a ∈ xs)] (hd : En.dp α ≤ 64 := by decide) : cmpV h .notIn (av a) (.lst (xs.map av)) = some (!decide (a ∈ xs)) := ni_of (fun y e => by cases e) (k_inAL hd)
theorem k_niAR {a : α} {xs : List α} [Decidable (a ∈ xs)] {n : Nat} (e : h[n]? = some (.lst (xs.map av))) (hd : En.dp α ≤ 64 := by decide) : cmpV h .notIn (av a) (.ref n) = some (!decide (a ∈ xs)) := ni_of (fun y e => by cases e) (k_inAR e hd)
/-! rows of texts, rows of ints, rows of such rows -/
@[simp] theorem k_eqSS {xs ys : List Str} : cmpV h .eq (.tup (encS xs)) (.tup (encS ys)) = some (decide (xs = ys)) := k_eqA (α := List Str)
@[simp] theorem k_neSS {xs ys : List Str} : cmpV h .ne (.tup (encS xs)) (.tup (encS ys)) = some (!decide (xs = ys)) := k_neA (α := List Str)
@[simp] theorem k_eqII {xs ys : List Int} : cmpV h .eq (.tup (encI xs)) (.tup (encI ys)) = some (decide (xs = ys)) := k_eqA (α := List Int)
@[simp] theorem k_neII {xs ys : List Int} : cmpV h .ne (.tup (encI xs)) (.tup (encI ys)) = some (!decide (xs = ys)) := k_neA (α := List Int)
@[simp] theorem k_inSC {xs : List Str} {ys : List (List Str)} : cmpV h .isIn (.tup (encS xs)) (.tup (encC ys)) = some (decide (xs ∈ ys)) := k_inA (α := List Str)
@[simp] theorem k_inSCL {xs : List Str} {ys : List (List Str)} : cmpV h .isIn (.tup (encS xs)) (.lst (encC ys)) = some (decide (xs ∈ ys)) := k_inAL (α := List Str)
@[simp] theorem k_niSC {xs : List Str} {ys : List (List Str)} : cmpV h .notIn (.tup (encS xs)) (.tup (encC ys)) = some (!decide (xs ∈ ys)) := k_niA (α := List Str)
@[simp] theorem k_eqCC {xs ys : List (List Str)} : cmpV h .eq (.tup (encC xs)) (.tup (encC ys)) = some (decide (xs = ys)) := k_eqA (α := List (List Str))
@[simp] theorem k_neCC {xs ys : List (List Str)} : cmpV h .ne (.tup (encC xs)) (.tup (encC ys)) = some (!decide (xs = ys)) := k_neA (α := List (List Str))
@[simp] theorem k_neN0 : cmpV h .notN .non .non = some false := (rfl)
end
/-! ### shown: lists that may change, too -/
section
variable {T : Tb} {h : AH} {X : Ex → AH → Prop}
theorem repr_ok1 {v u : AV} {d : PyData} (e : toD1 h v = some d) (eu : dat u = some d) (h1 : d.depth ≤ 64) (h2 : d.bulk ≤ 2 ^ 20) : bfV h .repr [v] = some (.rep d) := by
  have r := repr_ok (h := h) eu h1 h2
  show (toD1 h v).bind _ = _
  rw [e]
  have r : (toD1 h u).bind _ = _ := r
  rw [dat_toD1 eu] at r
  exact r
/-- what _law_same tells of two values that are the same data -/
theorem same_okN {n : Nat} {f : Str} {a b v : AV} {Q : AV → AH → Prop} (e : T.df f = some d_same) (s : Shw v) (ha : ∀ d, dat v = some d → toD1 h a = some d) (hb : ∀ d, dat v = some d → toD1 h b = some d) (q : Q (.bl true) h) : wp (callN T (n + 1) false f [a, b]) Q X h := by
  obtain ⟨d, e1, e2, e3⟩ := s
  have e4 : dat (.lst [v]) = some (.list [d]) := by simp [dat, datAll, e1]
  have b1 : (PyData.list [d]).depth ≤ 64 := by simp [PyData.depth, PyData.depthAll]; omega
  have b2 : (PyData.list [d]).bulk ≤ 2 ^ 20 := by simp [PyData.bulk, PyData.bulkAll]; omega
  have ra : bfV h .repr [.lst [a]] = some (.rep (.list [d])) := repr_ok1 (by simp [toD1, toD1s, ha d e1]) e4 b1 b2
  have rb : bfV h .repr [.lst [b]] = some (.rep (.list [d])) := repr_ok1 (by simp [toD1, toD1s, hb d e1]) e4 b1 b2
  refine wp_call e rfl ?_
  simp only [d_same]
  simp [ra, rb, rep_eq]
  exact ⟨by unfold big; omega, end_same (by simp [AV.lt]) q⟩
theorem same_ok2 {n : Nat} {a b v : AV} {Q : AV → AH → Prop} (e : T.df "_law_same" = some d_same) (s : Shw v) (ha : ∀ d, dat v = some d → toD1 h a = some d) (hb : ∀ d, dat v = some d → toD1 h b = some d) (q : Q (.bl true) h) : wp (callN T (n + 1) false "_law_same" [a, b]) Q X h := same_okN e s ha hb q
/-- the other name -/
theorem is_ok {n : Nat} {v : AV} {Q : AV → AH → Prop} (e : T.df "_law_is" = some d_same) (s : Shw v) (q : Q (.bl true) h) : wp (callN T (n + 1) false "_law_is" [v, v]) Q X h := same_okN e s (fun d e => dat_toD1 e) (fun d e => dat_toD1 e) q
theorem toD1_ref {n : Nat} {xs : List AV} {d : PyData} (e : h[n]? = some (.lst xs)) (ed : dat (.lst xs) = some d) : toD1 h (.ref n) = some d := by
  simp only [dat, Option.map_eq_some_iff] at ed
  obtain ⟨ds, e1, rfl⟩ := ed
  simp only [toD1, e, datAll_toD e1, Option.map_some]
end
/-! ### picks, reckoned -/
section
variable {h : AH} {X : Ex → AH → Prop}
theorem comp_fm {α : Type} {enc : α → AV} {l : List α} {p : α → Bool} {f : α → AV} {v : AV} {bind : AV → Option AEnv} {cond : AEnv → M Bool} {elt : AEnv → M AV} {Q : List AV → AH → Prop} (st : stands v (l.map enc) h = some (.ok () h))
    (turn : ∀ a ∈ l, onS (bind (enc a)) fun ρ => wp (cond ρ) (fun b h2 => b = p a ∧ h2 = h ∧ (p a = true → wp (elt ρ) (fun y h4 => y = f a ∧ h4 = h) X h)) X h) (q : Q ((l.filter p).map f) h) : wp (compL bind cond elt (stands v (l.map enc)) [] (l.map enc)) Q X h := by
  refine w_compL (I := fun i acc h' => h' = h ∧ acc = ((l.take i).filter p).map f) ⟨rfl, rfl⟩ (fun _ _ _ hi => by rw [hi.1]; exact st) (fun i x acc h' e hi => ?_) (fun acc h' hi => ?_)
  · obtain ⟨rfl, rfl⟩ := hi
    rw [List.getElem?_map, Option.map_eq_some_iff] at e
    obtain ⟨a, ea, rfl⟩ := e
    have t := turn a (List.mem_of_getElem? ea)
    have tk : (l.take (i + 1)).filter p = (l.take i).filter p ++ (if p a = true then [a] else []) := by
      rw [List.take_add_one, ea, List.filter_append]
      by_cases z : p a = true <;> simp [z]
    cases eb : bind (enc a) with
    | none => rw [eb] at t; exact t.elim
    | some ρ =>
      rw [eb] at t
      show wp _ _ _ _
      refine wp_mono t (fun b h2 z => ?_) fun _ _ z => z
      obtain ⟨rfl, rfl, w⟩ := z
      by_cases z : p a = true
      · rw [if_pos z]
        refine wp_mono (w z) (fun y h4 z2 => ?_) fun _ _ z => z
        obtain ⟨rfl, rfl⟩ := z2
        refine ⟨rfl, ?_⟩
        rw [tk, if_pos z, List.map_append]
        rfl
      · rw [if_neg z]
        refine ⟨rfl, ?_⟩
        rw [tk, if_neg z, List.append_nil]
  · obtain ⟨rfl, rfl⟩ := hi
    rw [List.length_map, List.take_length]
    exact q
end
/-! ### a list that a function made, handed back -/
section
variable {h r : AH} {X : Ex → AH → Prop} {j : Nat} {xs : List AV}
theorem lst_r (e : r[j]? = some (.lst xs)) : bfV (h ++ r) .list [.ref (h.length + j)] = some (.lst xs) := by
  simp [bfV, bf1, getS, getL, at_r, e]
theorem tup_r (e : r[j]? = some (.lst xs)) : bfV (h ++ r) .tuple [.ref (h.length + j)] = some (.tup xs) := by
  simp [bfV, bf1, getS, getL, at_r, e]
theorem setA_r {v : AV} {k : Nat} (e : r[j]? = some (.lst xs)) (hk : k < xs.length) : setA (.ref (h.length + j)) (.int k) v (h ++ r) = some (.ok () (h ++ r.set j (.lst (xs.set k v)))) := by
  have ek : L2.ixN xs.length (k : Int) = some k := by
    unfold L2.ixN
    simp
    omega
  simp only [setA, at_r, e, ek, set_r]
theorem end_excA {tr : Bool} {Q : AV → AH → Prop} {x : Ex} {ρ : AEnv} (q : X x h) : endC tr h Q X (.ex x) ρ (h ++ r) := by
  show onO Q X (finX h x (h ++ r))
  rw [finX_app]
  exact q
theorem end_newT {Q : AV → AH → Prop} {ρ : AEnv} (e : r[j]? = some (.lst xs)) (p : ltAll h.length xs) (q : Q (.ref h.length) (h ++ [.lst xs])) : endC true h Q X (.rt (.ref (h.length + j))) ρ (h ++ r) := by
  show onO Q X (fin true h (.ref (h.length + j)) (h ++ r))
  unfold fin
  rw [if_pos okPre_app, if_neg (show ¬ (AV.ref (h.length + j)).lt h.length from fun z => by have z : h.length + j < h.length := z; omega)]
  simp only [at_r, e]
  rw [if_pos p, if_pos trivial, List.take_left]
  exact q
/-- .. thawed or not -/
def Gives (tr : Bool) (Q : AV → AH → Prop) (h : AH) (xs : List AV) : Prop := if tr = true then Q (.ref h.length) (h ++ [.lst xs]) else Q (.lst xs) h
theorem end_gives {tr : Bool} {Q : AV → AH → Prop} {ρ : AEnv} (e : r[j]? = some (.lst xs)) (p : ltAll h.length xs) (q : Gives tr Q h xs) : endC tr h Q X (.rt (.ref (h.length + j))) ρ (h ++ r) := by
  cases tr with
  | true => exact end_newT e p q
  | false => exact end_newR e p q
/-- what a called function gave is handed on -/
theorem end_gave {tr : Bool} {Q : AV → AH → Prop} {ρ : AEnv} (p : ltAll h.length xs) (q : Gives tr Q h xs) : Gives tr (fun v h1 => endC tr h Q X (.rt v) ρ h1) h xs := by
  cases tr with
  | true =>
    show endC true h Q X (.rt (.ref h.length)) ρ (h ++ [.lst xs])
    exact end_newT (X := X) (ρ := ρ) (j := 0) (r := [.lst xs]) (h := h) rfl p q
  | false =>
    show endC false h Q X (.rt (.lst xs)) ρ h
    exact end_same p q
end
end Z

set_option Elab.async false
set_option linter.all false
set_option maxRecDepth 100000
set_option autoImplicit false
set_option maxHeartbeats 1000000
/-! ZUB: scenes of facts. -/
namespace Z
open PySem
open En (av dt)
def d_isscene : Df := ⟨2, 5, (.seq (.ite (.not (.bf .all (.cons (.comp [3] (.cmp .isIn (.var 3) (.var 0)) (.var 3) (.var 1) .nil) (.nil)))) (.seq (.ret (.bl false))
(.nil)) (.nil))
(.seq (.asg (.var 2) (.comp [3] (.md .index (.var 0) (.cons (.var 3) (.nil))) (.var 3) (.var 1) .nil))
(.seq (.ret (.bf .all (.cons (.comp [4] (.cmp .lt (.idx (.var 2) (.var 4)) (.idx (.var 2) (.bin .add (.var 4) (.int 1)))) (.var 4) (.rng (.cons (.bin .sub (.bf .len (.cons (.var 2) (.nil))) (.int 1)) (.nil))) .nil) (.nil))))
(.nil))))⟩
/-- all scenes of some facts, in order -/
def chs (fs : List Str) : List (List Str) := fs.foldl (fun l x => l ++ l.map (· ++ [x])) [[]]
theorem chs_snoc {fs : List Str} {x : Str} : chs (fs ++ [x]) = chs fs ++ (chs fs).map (· ++ [x]) := by simp [chs, List.foldl_append]
theorem chs_len (fs : List Str) : (chs fs).length = 2 ^ fs.length := by
  suffices h : ∀ (l : List (List Str)), (fs.foldl (fun l x => l ++ l.map (· ++ [x])) l).length = l.length * 2 ^ fs.length by
    have := h [[]]
    simp only [List.length_cons, List.length_nil, Nat.zero_add, Nat.one_mul] at this
    exact this
  induction fs with
  | nil => intro l; simp
  | cons x fs ih =>
    intro l
    rw [List.foldl_cons, ih, List.length_append, List.length_map, List.length_cons, Nat.pow_succ, ← Nat.mul_assoc, Nat.mul_right_comm, Nat.mul_two]
theorem chs_sub (fs : List Str) : ∀ s ∈ chs fs, s.Sublist fs := by
  suffices h : ∀ (l : List (List Str)) (p : List Str), (∀ s ∈ l, s.Sublist p) → ∀ s ∈ fs.foldl (fun l x => l ++ l.map (· ++ [x])) l, s.Sublist (p ++ fs) by
    exact h [[]] [] (by simp)
  induction fs with
  | nil => intro l p h; simpa using h
  | cons x fs ih =>
    intro l p h s hs
    have := ih (l ++ l.map (· ++ [x])) (p ++ [x]) (fun s hs => ?_) s hs
    · simpa using this
    · rcases List.mem_append.mp hs with hs | hs
      · exact (h s hs).trans (List.sublist_append_left _ _)
      · simp only [List.mem_map] at hs
        obtain ⟨u, hu, rfl⟩ := hs
        exact (h u hu).append (List.Sublist.refl _)
theorem chs_take {fs : List Str} {i : Nat} {x : Str} (e : fs[i]? = some x) : chs (fs.take (i + 1)) = chs (fs.take i) ++ (chs (fs.take i)).map (· ++ [x]) := by
  rw [List.take_add_one, e]; exact chs_snoc
/-- a choice more -/
def catS (x : Str) : AV → AV
  | .tup ys => .tup (ys ++ [.str x])
  | v => v
theorem map_cat {l : List (List Str)} {x : Str} : (encC l).map (catS x) = encC (l.map (· ++ [x])) := by
  unfold encC
  rw [List.map_map, List.map_map]
  refine List.map_congr_left fun s _ => ?_
  show AV.tup (encS s ++ [.str x]) = .tup (encS (s ++ [x]))
  simp [encS]
def sceneB (fs s : List Str) : Bool := s.all (fun f => decide (f ∈ fs)) && ascB (s.map fun f => (posS f fs : Int))
theorem posS_range : ∀ {fs : List Str}, fs.Nodup → (fs.map fun f => posS f fs) = List.range fs.length
  | [], _ => rfl
  | y :: ys, h => by
    have h := List.nodup_cons.mp h
    rw [List.map_cons, List.length_cons, List.range_succ_eq_map]
    congr 1
    · simp [posS]
    · rw [← posS_range h.2, List.map_map]
      refine List.map_congr_left fun f hf => ?_
      have : y ≠ f := fun e => h.1 (e ▸ hf)
      simp [posS, this]
theorem asc_cast {l : List Nat} (h : l.Pairwise (· < ·)) : ascB (l.map fun (x : Nat) => (x : Int)) = true := by
  refine asc_of (List.pairwise_map.mpr (h.imp fun {a b} e => ?_))
  omega
theorem scene_sub {fs x : List Str} (F : fs.Nodup) (h : x.Sublist fs) : sceneB fs x = true := by
  unfold sceneB
  rw [Bool.and_eq_true]
  refine ⟨List.all_eq_true.mpr fun f hf => decide_eq_true (h.mem hf), ?_⟩
  have e : (x.map fun f => (posS f fs : Int)) = (x.map fun f => posS f fs).map fun (x : Nat) => (x : Int) := by rw [List.map_map]; rfl
  rw [e]
  refine asc_cast (List.Pairwise.sublist (h.map _) ?_)
  rw [posS_range F]
  exact List.pairwise_lt_range
theorem posS_lt {x : Str} : ∀ {fs : List Str}, x ∈ fs → posS x fs < fs.length ∧ fs[posS x fs]? = some x
  | [], h => by cases h
  | y :: ys, h => by
    unfold posS
    by_cases e : y = x
    · rw [if_pos e]; exact ⟨by simp, by simp [e]⟩
    · rw [if_neg e]
      have := posS_lt (fs := ys) (by
        rcases List.mem_cons.mp h with z | z
        · exact absurd z.symm e
        · exact z)
      exact ⟨by simp; exact this.1, by simpa using this.2⟩
theorem asc_pair {xs : List Int} (h : ascB xs = true) : xs.Pairwise (· < ·) := by
  have h1 : ∀ k, k + 1 < xs.length → xs[k]?.getD 0 < xs[k + 1]?.getD 0 := fun k hk => by
    unfold ascB at h
    rw [List.all_eq_true] at h
    simpa using h k (List.mem_range.mpr (by omega))
  have h2 : ∀ d i, i + d + 1 < xs.length → xs[i]?.getD 0 < xs[i + d + 1]?.getD 0 := by
    intro d
    induction d with
    | zero => intro i hi; exact h1 i hi
    | succ d ih => intro i hi; exact Int.lt_trans (ih i (by omega)) (h1 (i + d + 1) (by omega))
  refine List.pairwise_iff_getElem.mpr fun i j hi hj hij => ?_
  have := h2 (j - i - 1) i (by omega)
  rw [show i + (j - i - 1) + 1 = j by omega, List.getElem?_eq_getElem hi, List.getElem?_eq_getElem hj] at this
  exact this
theorem sub_scene {fs x : List Str} (h : sceneB fs x = true) : x.Sublist fs := by
  unfold sceneB at h
  rw [Bool.and_eq_true] at h
  have hm : ∀ f ∈ x, f ∈ fs := fun f hf => by simpa using List.all_eq_true.mp h.1 f hf
  have hp := List.pairwise_map.mp (asc_pair h.2)
  have e : x = (x.attach.map fun f => (⟨posS f.1 fs, (posS_lt (hm f.1 f.2)).1⟩ : Fin fs.length)).map fun i => fs[i] := by
    rw [List.map_map]
    conv => lhs; rw [← List.attach_map_subtype_val x]
    refine List.map_congr_left fun f _ => ?_
    have := (posS_lt (hm f.1 f.2)).2
    rw [List.getElem?_eq_getElem (posS_lt (hm f.1 f.2)).1] at this
    exact (Option.some.inj this).symm
  rw [e]
  refine List.map_getElem_sublist (List.pairwise_map.mpr ?_)
  have : (x.attach.map (·.1)).Pairwise (fun a b => (posS a fs : Int) < (posS b fs : Int)) := by rw [List.attach_map_subtype_val]; exact hp
  refine (List.pairwise_map.mp this).imp fun {a b} z => ?_
  show posS a.1 fs < posS b.1 fs
  omega
theorem scene_iff {fs x : List Str} (F : fs.Nodup) : sceneB fs x = true ↔ x.Sublist fs := ⟨sub_scene, scene_sub F⟩
theorem chs_all {fs : List Str} : ∀ {i : Nat} {s : List Str}, i ≤ fs.length → s.Sublist (fs.take i) → s ∈ chs (fs.take i)
  | 0, s, _, h => by
    rw [List.take_zero] at h ⊢
    rw [List.eq_nil_of_sublist_nil h]
    exact List.mem_singleton.mpr rfl
  | i + 1, s, hi, h => by
    have e1 : fs[i]? = some fs[i] := List.getElem?_eq_getElem (by omega)
    rw [chs_take e1]
    rw [List.take_add_one, e1] at h
    obtain ⟨a, b, rfl, ha, hb⟩ := List.sublist_append_iff.mp h
    have ha := chs_all (by omega) ha
    have hb : b = [] ∨ b = [fs[i]] := by
      have hb : b.Sublist [fs[i]] := hb
      rcases List.sublist_cons_iff.mp hb with z | ⟨r, z, y⟩
      · exact .inl (List.eq_nil_of_sublist_nil z)
      · rw [List.eq_nil_of_sublist_nil y] at z; exact .inr z
    rcases hb with rfl | rfl
    · rw [List.append_nil]; exact List.mem_append_left _ ha
    · exact List.mem_append_right _ (List.mem_map.mpr ⟨a, ha, rfl⟩)
theorem mem_chs {fs s : List Str} : s ∈ chs fs ↔ s.Sublist fs := ⟨chs_sub fs s, fun h => by
  have := chs_all (fs := fs) (i := fs.length) (s := s) (Nat.le_refl _) (by rw [List.take_length]; exact h)
  rwa [List.take_length] at this⟩
section
variable {T : Tb} {h : AH} {X : Ex → AH → Prop} {fs : List Str}
theorem is_scene_ok (e0 : T.df "is_scene" = some d_isscene) {n : Nat} {s : List Str} {Q : AV → AH → Prop} (hl : s.length ≤ 100) (q : Q (.bl (sceneB fs s)) h) : wp (callN T (n + 1) false "is_scene" [.tup (encS fs), .tup (encS s)]) Q X h := by
  refine wp_call e0 rfl ?_
  simp only [d_isscene]
  simp [encS_len]
  refine ⟨by unfold big; omega, ?_⟩
  refine comp_map (enc := AV.str) (l := s) (f := fun f => .bl (decide (f ∈ fs))) (stands_free fun _ z => nomatch z) (fun a ha => onS_of rfl (by simp)) ?_
  rw [b_allM]
  simp only [onS_some, tB_bl]
  unfold sceneB at q
  by_cases z : s.all (fun f => decide (f ∈ fs)) = true
  · rw [if_pos z]
    rw [z, Bool.true_and] at q
    refine ⟨by unfold big; omega, ?_⟩
    refine comp_map (enc := AV.str) (l := s) (f := fun f => .int (posS f fs : Nat)) (stands_free fun _ z => nomatch z) (fun a ha => onS_of rfl ?_) ?_
    · have hm : a ∈ fs := by simpa using List.all_eq_true.mp z a ha
      have pre : mdPre h .index (.tup (encS fs)) = some () := rfl
      simp [pre]
      rw [wp_eq (index_S hm)]
      exact ⟨rfl, rfl⟩
    · have e : (s.map fun f => AV.int (posS f fs : Nat)) = encI (s.map fun f => (posS f fs : Int)) := by unfold encI; rw [List.map_map]; rfl
      rw [e]
      have hL : (encI (s.map fun f => (posS f fs : Int))).length = s.length := by rw [encI_len, List.length_map]
      rw [hL, rngA_len]
      refine ⟨⟨by omega, by omega⟩, by unfold big; omega, ?_⟩
      refine comp_map (enc := fun (i : Nat) => AV.int (0 + i)) (l := List.range (s.length - 1)) (f := fun k => .bl (decide ((s.map fun f => (posS f fs : Int))[k]?.getD 0 < (s.map fun f => (posS f fs : Int))[k + 1]?.getD 0))) (stands_free fun _ z => nomatch z) (fun k hk => onS_of rfl ?_) ?_
      · have hk := List.mem_range.mp hk
        simp only [Int.zero_add]
        rw [w_cmp, w_idx, w_var]
        refine onS_of rfl ?_
        rw [w_var]
        refine onS_of rfl ?_
        rw [ix_lI (by rw [List.length_map]; omega), onS_some, w_idx, w_var]
        refine onS_of rfl ?_
        rw [w_bin, w_var]
        refine onS_of rfl ?_
        rw [w_int, o_add, onS_some, ix_lI1 (by rw [List.length_map]; omega), onS_some, k_lt]
        exact ⟨rfl, rfl⟩
      · refine onS_of b_allM ?_
        refine end_same (by simp [AV.lt]) ?_
        unfold ascB at q
        rw [List.length_map] at q
        exact q
  · rw [if_neg z]
    have z : s.all (fun f => decide (f ∈ fs)) = false := by simpa using z
    rw [z, Bool.false_and] at q
    exact end_same (by simp [AV.lt]) q
end
end Z

set_option Elab.async false
set_option linter.all false
set_option maxRecDepth 100000
set_option autoImplicit false
set_option maxHeartbeats 1000000
/-! ZUC: runs of scenes, as many laws draw them. -/
namespace Z
open PySem
open En (av dt)
def d_run : Df := ⟨3, 6, (.seq (.ite (.cmp .gt (.call false "_law_next" (.cons (.var 0) (.cons (.int 3) (.nil)))) (.int 0)) (.seq (.ret (.bf .tuple (.cons (.comp [5] (.call false "_law_scene" (.cons (.var 0) (.cons (.var 1) (.nil)))) (.var 5) (.rng (.cons (.var 2) (.nil))) .nil) (.nil))))
(.nil)) (.nil))
(.seq (.asg (.var 3) (.call false "_law_scene" (.cons (.var 0) (.cons (.var 1) (.nil)))))
(.seq (.asg (.var 4) (.own (.lst (.nil))))
(.seq (.for (.var 5) (.rng (.cons (.var 2) (.nil))) (.seq (.ite (.cmp .eq (.call false "_law_next" (.cons (.var 0) (.cons (.int 3) (.nil)))) (.int 0)) (.seq (.asg (.var 3) (.call false "_law_scene" (.cons (.var 0) (.cons (.var 1) (.nil)))))
(.nil)) (.nil))
(.seq (.exp (.md .append (.var 4) (.cons (.var 3) (.nil))))
(.nil))))
(.seq (.ret (.bf .tuple (.cons (.var 4) (.nil))))
(.nil))))))⟩
section
variable {T : Tb} {h : AH} {X : Ex → AH → Prop} {fs : List Str} {ms : List Int}
def RunI (ms : List Int) (n many : Nat) (fs : List Str) (g : AH) : Nat → AEnv → AH → Prop := fun i ρ h' => ∃ sc l5 run, ρ = [some (.ref 0), some (.tup (encS fs)), some (.int many), some (.tup (encS sc)), some (.ref (g.length + 1)), l5] ∧ sc.Sublist fs ∧ (∀ s ∈ run, s.Sublist fs) ∧ run.length = i ∧ St ms (n + 20 * i) (g ++ [.lst (encC run)]) h'
theorem run_ok (e1 : T.df "_law_next" = some d_next) (e2 : T.df "_law_scene" = some d_scene) (e3 : T.df "_law_run" = some d_run) (D : Drw ms) {n k many : Nat} {g : AH} {Q : AV → AH → Prop} (s : St ms n g h) (hn : n < 2 ^ 28) (hm : many ≤ 1000) (hf : fs.length ≤ 10)
    (q : ∀ run h', run.length = many → (∀ s ∈ run, s.Sublist fs) → St ms (n + 20 + 20 * many) g h' → Q (.tup (encC run)) h') : wp (callN T (k + 1 + 1 + 1) false "_law_run" [.ref 0, .tup (encS fs), .int many]) Q X h := by
  refine wp_call e3 rfl ?_
  simp only [d_run]
  simp
  refine draw_ok e1 D s (by omega) (by decide) fun x hx h1 s1 => ?_
  simp
  by_cases z : 0 < x
  · rw [if_pos z]
    refine ⟨by omega, by rw [rngA_len]; unfold big; omega, ?_⟩
    refine comp_draw (c := 10) (P := fun _ s => s.Sublist fs) (enc := fun (i : Nat) => AV.int (0 + i)) (encB := fun s => AV.tup (encS s)) (l := List.range many) s1 (fun _ _ _ => stands_free fun _ z => nomatch z) (fun a ha n' h' hn' s' => onS_of rfl ?_) fun scs hl hs h2 s2 => ?_
    · rw [List.length_range] at hn'
      simp
      refine drawn_ok e1 e2 D s' (by omega) (by omega) fun sc h3 hs s3 => ⟨sc, rfl, hs, s3.mono (by omega)⟩
    · rw [List.length_range] at hl s2
      exact end_st0 s s2 (v := .tup _) (pure_av (α := List Str)) fun h3 s3 => q scs h3 hl (fun s hs' => by obtain ⟨_, _, z⟩ := hs s hs'; exact z) (s3.mono (by omega))
  · rw [if_neg z]
    refine drawn_ok e1 e2 D s1 (by omega) (by omega) fun sc h2 hs s2 => ?_
    simp [s2.len]
    refine ⟨by omega, ?_⟩
    have at' : ∀ r : List (List Str), (g ++ [AO.lst (encC r)])[g.length]? = some (.lst (encC r)) := fun r => by rw [List.getElem?_append_right (Nat.le_refl _), Nat.sub_self]; rfl
    refine w_for (RunI ms (n + 15) many fs g) ⟨sc, none, [], rfl, hs, (by simp), rfl, (s2.app (r := [.lst []])).mono (by omega)⟩ (fun _ _ _ _ => stands_free fun _ z => nomatch z) (fun i y ρ h' e hi => ?_) (fun ρ h' hi => ?_)
    · obtain ⟨sc, l5, run, rfl, hsc, hr, hl, s3⟩ := hi
      have hi := (rngA_get e).1
      have hi : i < many := by omega
      refine onS_of rfl ?_
      simp
      refine draw_ok e1 D s3 (by omega) (by decide) fun y hy h3 s4 => ?_
      have put : ∀ (X' : Ex → AH → Prop) (o5 : Option AV) sc (n' : Nat) h3, sc.Sublist fs → n' ≤ n + 15 + 20 * i + 15 → St ms n' (g ++ [.lst (encC run)]) h3 → wp (mdV .append (.ref (g.length + 1)) [.tup (encS sc)]) (fun v h2 => RunI ms (n + 15) many fs g (i + 1) [some (.ref 0), some (.tup (encS fs)), some (.int many), some (.tup (encS sc)), some (.ref (g.length + 1)), o5] h2) X' h3 := fun X' o5 sc n' h3 hsc hn' s5 => by
        refine app_ok (i := g.length) s5 (at' run) (by rw [encC_len]; unfold big; omega) fun h4 s6 => ?_
        refine ⟨sc, _, run ++ [sc], rfl, hsc, fun s hs => ?_, by simp [hl], ?_⟩
        · rcases List.mem_append.mp hs with hs | hs
          · exact hr s hs
          · rw [List.mem_singleton.mp hs]; exact hsc
        · rw [List.set_append_right _ _ (Nat.le_refl _), Nat.sub_self] at s6
          rw [show encC (run ++ [sc]) = encC run ++ [.tup (encS sc)] from encC_app]
          exact s6.mono (by omega)
      simp
      by_cases y0 : y = 0
      · rw [if_pos y0]
        refine drawn_ok e1 e2 D s4 (by omega) (by omega) fun sc h4 hs s5 => ?_
        refine onS_of (pre_app s5 (i := g.length) (at' run)) ?_
        exact put _ _ sc _ h4 hs (by omega) s5
      · rw [if_neg y0]
        refine onS_of (pre_app s4 (i := g.length) (at' run)) ?_
        exact put _ _ sc _ h3 hsc (by omega) s4
    · obtain ⟨sc, l5, run, rfl, hsc, hr, hl, s3⟩ := hi
      rw [rngA_len] at hl s3
      rw [thenS_nx]
      simp [tup_ref s3 (i := g.length) (at' run)]
      exact end_st s s3 (AV.pure_lt (v := .tup _) (pure_av (α := List Str))) fun h2 s2 => q run h2 (by omega) hr (s2.mono (by omega))
end
end Z

set_option Elab.async false
set_option linter.all false
set_option maxRecDepth 100000
set_option autoImplicit false
set_option maxHeartbeats 1000000
/-! ZWA: stretches and ways. -/
namespace Z
open PySem
def d_reach1 : Df := ⟨3, 7, (.seq (.asg (.cons (.var 3) (.cons (.var 4) .nil)) (.var 1))
(.seq (.asg (.cons (.var 5) (.cons (.var 6) .nil)) (.var 2))
(.seq (.ite (.cmp .eq (.var 0) (.str "begins")) (.seq (.ret (.band (.cons (.cmp .eq (.var 5) (.var 3)) (.cons (.cmp .lt (.var 6) (.var 4)) (.nil)))))
(.nil)) (.nil))
(.seq (.ite (.cmp .eq (.var 0) (.str "begun")) (.seq (.ret (.band (.cons (.cmp .eq (.var 5) (.var 3)) (.cons (.cmp .gt (.var 6) (.var 4)) (.nil)))))
(.nil)) (.nil))
(.seq (.ite (.cmp .eq (.var 0) (.str "ends")) (.seq (.ret (.band (.cons (.cmp .gt (.var 5) (.var 3)) (.cons (.cmp .eq (.var 6) (.var 4)) (.nil)))))
(.nil)) (.nil))
(.seq (.ite (.cmp .eq (.var 0) (.str "ended")) (.seq (.ret (.band (.cons (.cmp .lt (.var 5) (.var 3)) (.cons (.cmp .eq (.var 6) (.var 4)) (.nil)))))
(.nil)) (.nil))
(.seq (.ite (.cmp .eq (.var 0) (.str "during")) (.seq (.ret (.band (.cons (.cmp .lt (.var 3) (.var 5)) (.cons (.cmp .lt (.var 6) (.var 4)) (.nil)))))
(.nil)) (.nil))
(.seq (.ite (.cmp .eq (.var 0) (.str "around")) (.seq (.ret (.band (.cons (.cmp .lt (.var 5) (.var 3)) (.cons (.cmp .lt (.var 4) (.var 6)) (.nil)))))
(.nil)) (.nil))
(.seq (.ret (.call false "is_beside" (.cons (.var 0) (.cons (.var 1) (.cons (.var 2) (.nil))))))
(.nil))))))))))⟩
def d_beside : Df := ⟨3, 7, (.seq (.asg (.cons (.var 3) (.cons (.var 4) .nil)) (.var 1))
(.seq (.asg (.cons (.var 5) (.cons (.var 6) .nil)) (.var 2))
(.seq (.ite (.cmp .eq (.var 0) (.str "meets")) (.seq (.ret (.cmp .eq (.var 5) (.var 4)))
(.nil)) (.nil))
(.seq (.ite (.cmp .eq (.var 0) (.str "met")) (.seq (.ret (.cmp .eq (.var 6) (.var 3)))
(.nil)) (.nil))
(.seq (.ite (.cmp .eq (.var 0) (.str "later")) (.seq (.ret (.cmp .gt (.var 5) (.var 4)))
(.nil)) (.nil))
(.seq (.ite (.cmp .eq (.var 0) (.str "earlier")) (.seq (.ret (.cmp .lt (.var 6) (.var 3)))
(.nil)) (.nil))
(.seq (.ite (.cmp .eq (.var 0) (.str "overlaps")) (.seq (.ret (.chain (.var 3) (.lnk .lt (.var 5) (.lnk .le (.var 4) (.lnk .lt (.var 6) .nil)))))
(.nil)) (.nil))
(.seq (.ret (.chain (.var 5) (.lnk .lt (.var 3) (.lnk .le (.var 6) (.lnk .lt (.var 4) .nil)))))
(.nil)))))))))⟩
def d_strof : Df := ⟨1, 3, (.seq (.ret (.comp2 [1, 2] [2] (.tup (.cons (.var 1) (.cons (.var 2) (.nil)))) (.var 1) (.rng (.cons (.var 0) (.nil))) (.var 2) (.rng (.cons (.var 1) (.cons (.var 0) (.nil)))) .nil))
(.nil))⟩
def d_goes : Df := ⟨3, 8, (.seq (.asg (.cons (.var 4) (.cons (.var 5) .nil)) (.var 1))
(.seq (.asg (.cons (.var 6) (.cons (.var 7) .nil)) (.var 2))
(.seq (.asg (.var 3) (.dsp ["begins", "begun", "ends", "ended"] (.cons (.band (.cons (.cmp .eq (.var 6) (.var 4)) (.cons (.cmp .lt (.var 7) (.var 5)) (.nil)))) (.cons (.band (.cons (.cmp .eq (.var 6) (.var 4)) (.cons (.cmp .gt (.var 7) (.var 5)) (.nil)))) (.cons (.band (.cons (.cmp .gt (.var 6) (.var 4)) (.cons (.cmp .eq (.var 7) (.var 5)) (.nil)))) (.cons (.band (.cons (.cmp .lt (.var 6) (.var 4)) (.cons (.cmp .eq (.var 7) (.var 5)) (.nil)))) (.nil)))))))
(.seq (.sub (.var 3) (.str "during") (.band (.cons (.cmp .lt (.var 4) (.var 6)) (.cons (.cmp .lt (.var 7) (.var 5)) (.nil)))))
(.seq (.sub (.var 3) (.str "around") (.band (.cons (.cmp .lt (.var 6) (.var 4)) (.cons (.cmp .lt (.var 5) (.var 7)) (.nil)))))
(.seq (.sub (.var 3) (.str "meets") (.cmp .eq (.var 6) (.var 5)))
(.seq (.sub (.var 3) (.str "met") (.cmp .eq (.var 7) (.var 4)))
(.seq (.sub (.var 3) (.str "later") (.cmp .gt (.var 6) (.var 5)))
(.seq (.sub (.var 3) (.str "earlier") (.cmp .lt (.var 7) (.var 4)))
(.seq (.sub (.var 3) (.str "overlaps") (.band (.cons (.cmp .lt (.var 4) (.var 6)) (.cons (.cmp .le (.var 6) (.var 5)) (.cons (.cmp .lt (.var 5) (.var 7)) (.nil))))))
(.seq (.sub (.var 3) (.str "overlapped") (.band (.cons (.cmp .lt (.var 6) (.var 4)) (.cons (.cmp .le (.var 4) (.var 7)) (.cons (.cmp .lt (.var 7) (.var 5)) (.nil))))))
(.seq (.ret (.idx (.var 3) (.var 0)))
(.nil)))))))))))))⟩
def d_allstr : Df := ⟨1, 4, (.seq (.asg (.var 1) (.own (.lst (.nil))))
(.seq (.for (.var 2) (.rng (.cons (.var 0) (.nil))) (.seq (.exp (.md .extend (.var 1) (.cons (.comp [3] (.tup (.cons (.var 2) (.cons (.var 3) (.nil)))) (.var 3) (.rng (.cons (.var 2) (.cons (.var 0) (.nil)))) .nil) (.nil))))
(.nil)))
(.seq (.ret (.var 1))
(.nil))))⟩

def ways : List Str := ["begins", "begun", "ends", "ended", "during", "around", "meets", "met", "later", "earlier", "overlaps", "overlapped"]
/-- the table of ways -/
def goB (w : Str) (i j a b : Int) : Bool :=
  if w = "begins" then decide (a = i) && decide (b < j) else if w = "begun" then decide (a = i) && decide (j < b)
  else if w = "ends" then decide (i < a) && decide (b = j) else if w = "ended" then decide (a < i) && decide (b = j)
  else if w = "during" then decide (i < a) && decide (b < j) else if w = "around" then decide (a < i) && decide (j < b)
  else if w = "meets" then decide (a = j) else if w = "met" then decide (b = i)
  else if w = "later" then decide (j < a) else if w = "earlier" then decide (b < i)
  else if w = "overlaps" then decide (i < a) && decide (a ≤ j) && decide (j < b)
  else decide (a < i) && decide (i ≤ b) && decide (b < j)
abbrev Pr := Int × Int
/-- all stretches, in order -/
def allSt (n : Nat) : List Pr := (List.range n).flatMap fun (a : Nat) => (List.range (n - a)).map fun (b : Nat) => ((a : Int), (a : Int) + (b : Int))
theorem mem_allSt {n : Nat} {i j : Int} : (i, j) ∈ allSt n ↔ 0 ≤ i ∧ i ≤ j ∧ j < n := by
  unfold allSt
  simp only [List.mem_flatMap, List.mem_map, List.mem_range, Prod.mk.injEq]
  constructor
  · rintro ⟨a, ha, b, hb, rfl, rfl⟩; omega
  · rintro ⟨h1, h2, h3⟩
    exact ⟨i.toNat, by omega, (j - i).toNat, by omega, by omega, by omega⟩
theorem allSt_len (n : Nat) : (allSt n).length ≤ n * n := by
  unfold allSt
  rw [List.length_flatMap]
  have : ∀ m : Nat, ((List.range m).map fun (a : Nat) => ((List.range (n - a)).map fun (b : Nat) => ((a : Int), (a : Int) + (b : Int))).length).sum ≤ m * n := by
    intro m
    induction m with
    | zero => simp
    | succ m ih =>
      rw [List.range_succ, List.map_append, List.sum_append, Nat.succ_mul]
      simp only [List.length_map, List.length_range, List.map_cons, List.map_nil, List.sum_cons, List.sum_nil] at ih ⊢
      omega
  exact this n
theorem av_pr (p : Pr) : En.av p = AV.tup [.int p.1, .int p.2] := rfl
section
variable {T : Tb} {h : AH} {X : Ex → AH → Prop}
theorem beside_ok (e : T.df "is_beside" = some d_beside) {n : Nat} {w : Str} {i j a b : Int} {Q : AV → AH → Prop} (hw : w ∉ (["begins", "begun", "ends", "ended", "during", "around"] : List Str)) (q : Q (.bl (goB w i j a b)) h) : wp (callN T (n + 1) false "is_beside" [.str w, En.av (i, j), En.av (a, b)]) Q X h := by
  refine wp_call e rfl ?_
  simp only [d_beside, av_pr]
  simp only [List.mem_cons, List.not_mem_nil, or_false, not_or] at hw
  obtain ⟨h1, h2, h3, h4, h5, h6⟩ := hw
  unfold goB at q
  rw [if_neg h1, if_neg h2, if_neg h3, if_neg h4, if_neg h5, if_neg h6] at q
  by_cases w1 : w = "meets"
  · simp (decide := true) [w1] at q ⊢; exact end_same (by simp [AV.lt]) q
  by_cases w2 : w = "met"
  · simp (decide := true) [w2] at q ⊢; exact end_same (by simp [AV.lt]) q
  by_cases w3 : w = "later"
  · simp (decide := true) [w3] at q ⊢; exact end_same (by simp [AV.lt]) q
  by_cases w4 : w = "earlier"
  · simp (decide := true) [w4] at q ⊢; exact end_same (by simp [AV.lt]) q
  by_cases w5 : w = "overlaps"
  · simp (decide := true) [w5] at q ⊢
    by_cases c1 : i < a <;> by_cases c2 : a ≤ j <;> simp [c1, c2] at q ⊢ <;> exact end_same (by simp [AV.lt]) q
  · simp [w1, w2, w3, w4, w5] at q ⊢
    by_cases c1 : a < i <;> by_cases c2 : i ≤ b <;> simp [c1, c2] at q ⊢ <;> exact end_same (by simp [AV.lt]) q
theorem reach1_ok (e : T.df "is_reached" = some d_reach1) (e2 : T.df "is_beside" = some d_beside) {n : Nat} {w : Str} {i j a b : Int} {Q : AV → AH → Prop} (q : Q (.bl (goB w i j a b)) h) : wp (callN T (n + 1 + 1) false "is_reached" [.str w, En.av (i, j), En.av (a, b)]) Q X h := by
  refine wp_call e rfl ?_
  simp only [d_reach1, av_pr]
  by_cases w1 : w = "begins"
  · unfold goB at q; simp (decide := true) [w1] at q ⊢
    by_cases c1 : a = i <;> simp [c1] at q ⊢ <;> exact end_same (by simp [AV.lt]) q
  by_cases w2 : w = "begun"
  · unfold goB at q; simp (decide := true) [w2] at q ⊢
    by_cases c1 : a = i <;> simp [c1] at q ⊢ <;> exact end_same (by simp [AV.lt]) q
  by_cases w3 : w = "ends"
  · unfold goB at q; simp (decide := true) [w3] at q ⊢
    by_cases c1 : i < a <;> simp [c1] at q ⊢ <;> exact end_same (by simp [AV.lt]) q
  by_cases w4 : w = "ended"
  · unfold goB at q; simp (decide := true) [w4] at q ⊢
    by_cases c1 : a < i <;> simp [c1] at q ⊢ <;> exact end_same (by simp [AV.lt]) q
  by_cases w5 : w = "during"
  · unfold goB at q; simp (decide := true) [w5] at q ⊢
    by_cases c1 : i < a <;> simp [c1] at q ⊢ <;> exact end_same (by simp [AV.lt]) q
  by_cases w6 : w = "around"
  · unfold goB at q; simp (decide := true) [w6] at q ⊢
    by_cases c1 : a < i <;> simp [c1] at q ⊢ <;> exact end_same (by simp [AV.lt]) q
  simp [w1, w2, w3, w4, w5, w6]
  exact beside_ok e2 (by simp [w1, w2, w3, w4, w5, w6]) (end_same (by simp [AV.lt]) q)
theorem rng_nn {a b : Nat} (ha : a ≤ 1000000) (hb : b ≤ 1000000) : rngOf [.int (a : Int), .int (b : Int)] = some (rngA (a : Int) (b - a)) := by
  rw [r_two, if_pos ⟨by omega, by omega, by omega, by omega⟩]
  congr 2
  omega
theorem strof_ok (e : T.df "stretches_of" = some d_strof) {n m : Nat} {Q : AV → AH → Prop} (hm : m ≤ 1000) (q : Q (.lst ((allSt m).map En.av)) h) : wp (callN T (n + 1) false "stretches_of" [.int m]) Q X h := by
  refine wp_call e rfl ?_
  simp only [d_strof]
  simp
  refine ⟨by omega, ?_⟩
  have tl : ∀ i, i ≤ m → ((List.range i).map fun (a : Nat) => m - a).sum ≤ i * m := by
    intro i
    induction i with
    | zero => intro _; simp
    | succ i ih =>
      intro hi
      rw [List.range_succ, List.map_append, List.sum_append, Nat.succ_mul]
      have := ih (by omega)
      simp only [List.map_cons, List.map_nil, List.sum_cons, List.sum_nil]
      omega
  refine w_compO (v := .non) (fun i acc h' => h' = h ∧ acc = ((List.range i).flatMap fun (a : Nat) => (List.range (m - a)).map fun (b : Nat) => (En.av (((a : Int), (a : Int) + (b : Int)) : Pr) : AV))) ⟨rfl, rfl⟩ (fun _ _ _ _ => stands_free (fun _ z => nomatch z) fun _ _ z => nomatch z) (fun i x acc h' e2 hi => ?_) (fun acc h' hi => ?_)
  · obtain ⟨rfl, rfl⟩ := hi
    obtain ⟨hi, rfl⟩ := rngA_get e2
    have tl1 := tl i (by omega)
    rw [Int.zero_add]
    simp [-r_two, rng_nn (a := i) (b := m) (by omega) (by omega), rngA_len]
    refine ⟨?_, ?_⟩
    · have : i * m ≤ 1000 * 1000 := Nat.mul_le_mul (by omega) hm
      unfold big
      omega
    · rw [compL_app, wp_bnd, rngA_map]
      refine comp_map (enc := fun (b : Nat) => AV.int ((i : Int) + b)) (l := List.range (m - i)) (f := fun (b : Nat) => (En.av (((i : Int), (i : Int) + (b : Int)) : Pr) : AV)) (stands_free (fun _ z => nomatch z) fun _ _ z => nomatch z) (fun b hb => ?_) ?_
      · simp [av_pr, big]
      · refine ⟨rfl, ?_⟩
        rw [List.range_succ, List.flatMap_append]
        simp
  · obtain ⟨rfl, rfl⟩ := hi
    rw [rngA_len]
    refine end_same ?_ ?_
    · exact AV.pure_lt (v := .lst _) (pureAll_iff.mpr fun x hx => by
        simp only [List.mem_flatMap, List.mem_map] at hx
        obtain ⟨_, _, _, _, rfl⟩ := hx
        rfl)
    · rw [show ((List.range m).flatMap fun (a : Nat) => (List.range (m - a)).map fun (b : Nat) => (En.av (((a : Int), (a : Int) + (b : Int)) : Pr) : AV)) = (allSt m).map En.av from by
        unfold allSt
        rw [List.map_flatMap]
        simp only [List.map_map]
        rfl]
      exact q
theorem allstr_ok (e : T.df "_law_all_stretches" = some d_allstr) {n m : Nat} {Q : AV → AH → Prop} (hm : m ≤ 1000) (q : Q (.lst ((allSt m).map En.av)) h) : wp (callN T (n + 1) false "_law_all_stretches" [.int m]) Q X h := by
  refine wp_call e rfl ?_
  simp only [d_allstr]
  simp
  refine ⟨by omega, ?_⟩
  have tl : ∀ i, i ≤ m → ((List.range i).map fun (a : Nat) => m - a).sum ≤ i * m := by
    intro i
    induction i with
    | zero => intro _; simp
    | succ i ih =>
      intro hi
      rw [List.range_succ, List.map_append, List.sum_append, Nat.succ_mul]
      have := ih (by omega)
      simp only [List.map_cons, List.map_nil, List.sum_cons, List.sum_nil]
      omega
  refine w_for (v := .non) (fun i ρ h' => ∃ l2 l3, ρ = [some (.int m), some (.ref h.length), l2, l3] ∧ h' = h ++ [.lst ((List.range i).flatMap fun (a : Nat) => (List.range (m - a)).map fun (b : Nat) => (En.av (((a : Int), (a : Int) + (b : Int)) : Pr) : AV))]) ⟨_, _, rfl, rfl⟩ (fun _ _ _ _ => stands_free (fun _ z => nomatch z) fun _ _ z => nomatch z) (fun i x ρ h' e2 hi => ?_) (fun ρ h' hi => ?_)
  · obtain ⟨l2, l3, rfl, rfl⟩ := hi
    obtain ⟨hi, rfl⟩ := rngA_get e2
    rw [Int.zero_add]
    have tl1 := tl i (by omega)
    have e1 := pre_r (h := h) (r := [.lst ((List.range i).flatMap fun (a : Nat) => (List.range (m - a)).map fun (b : Nat) => (En.av (((a : Int), (a : Int) + (b : Int)) : Pr) : AV))]) (j := 0) (m := .extend) rfl (by decide)
    simp only [Nat.add_zero] at e1
    simp [-r_two, rng_nn (a := i) (b := m) (by omega) (by omega), rngA_len, e1]
    refine ⟨by unfold big; omega, ?_⟩
    rw [rngA_map]
    refine comp_map (enc := fun (b : Nat) => AV.int ((i : Int) + b)) (l := List.range (m - i)) (f := fun (b : Nat) => (En.av (((i : Int), (i : Int) + (b : Int)) : Pr) : AV)) (stands_free (fun _ z => nomatch z) fun _ _ z => nomatch z) (fun b hb => ?_) ?_
    · simp [av_pr, big]
    · have e3 := ext_rl (h := h) (r := [.lst ((List.range i).flatMap fun (a : Nat) => (List.range (m - a)).map fun (b : Nat) => (En.av (((a : Int), (a : Int) + (b : Int)) : Pr) : AV))]) (j := 0) (ys := (List.range (m - i)).map fun (b : Nat) => (En.av (((i : Int), (i : Int) + (b : Int)) : Pr) : AV)) rfl (by
        have : i * m ≤ 1000 * 1000 := Nat.mul_le_mul (by omega) hm
        simp only [List.length_flatMap, List.length_map, List.length_range]
        unfold big
        omega)
      simp only [Nat.add_zero] at e3
      rw [wp_eq e3]
      rw [List.range_succ, List.flatMap_append]
      simp
  · obtain ⟨l2, l3, rfl, rfl⟩ := hi
    rw [rngA_len]
    simp only [thenS_nx, List.getElem?_cons_succ, List.getElem?_cons_zero, Option.getD_some, onS_some]
    refine end_gives (j := 0) (tr := false) rfl ?_ ?_
    · exact pureAll_lt (pureAll_iff.mpr fun x hx => by
        simp only [List.mem_flatMap, List.mem_map] at hx
        obtain ⟨_, _, _, _, rfl⟩ := hx
        rfl)
    · rw [show ((List.range m).flatMap fun (a : Nat) => (List.range (m - a)).map fun (b : Nat) => (En.av (((a : Int), (a : Int) + (b : Int)) : Pr) : AV)) = (allSt m).map En.av from by
        unfold allSt
        rw [List.map_flatMap]
        simp only [List.map_map]
        rfl]
      exact q
/-! dicts -/
theorem getN_pos {p : NestedKey × AV} {l : List (NestedKey × AV)} {j : NestedKey} (e : p.1 = j) : getN (p :: l) j = some p.2 := by simp [getN, List.find?_cons, e]
theorem getN_neg {p : NestedKey × AV} {l : List (NestedKey × AV)} {j : NestedKey} (e : ¬ p.1 = j) : getN (p :: l) j = getN l j := by
  unfold getN
  rw [List.find?_cons]
  simp only [decide_eq_false e]
theorem getN_map {k j : NestedKey} {v : AV} : ∀ {l : List (NestedKey × AV)}, getN (l.map fun p => if p.1 = k then (p.1, v) else p) j = (getN l j).map fun x => if j = k then v else x
  | [] => rfl
  | p :: l => by
    have ih := getN_map (k := k) (j := j) (v := v) (l := l)
    rw [List.map_cons]
    by_cases h : p.1 = k
    · rw [if_pos h]
      by_cases e : p.1 = j
      · rw [getN_pos (p := (p.1, v)) e, getN_pos e, Option.map_some, if_pos (e.symm.trans h)]
      · rw [getN_neg (p := (p.1, v)) e, getN_neg e, ih]
    · rw [if_neg h]
      by_cases e : p.1 = j
      · rw [getN_pos (p := p) e, getN_pos e, Option.map_some, if_neg (fun z => h (e.trans z))]
      · rw [getN_neg (p := p) e, getN_neg e, ih]
theorem getN_snoc {k j : NestedKey} {v : AV} : ∀ {l : List (NestedKey × AV)}, getN l k = none → getN (l ++ [(k, v)]) j = if j = k then some v else getN l j
  | [], _ => by
    by_cases e : k = j
    · rw [if_pos e.symm]; exact getN_pos (p := (k, v)) e
    · rw [if_neg (fun z => e z.symm)]; exact getN_neg (p := (k, v)) e
  | p :: l, hn => by
    rw [List.cons_append]
    have hk : ¬ p.1 = k := fun z => by rw [getN_pos z] at hn; cases hn
    rw [getN_neg hk] at hn
    have ih := getN_snoc (j := j) (v := v) hn
    by_cases e : p.1 = j
    · rw [getN_pos e, getN_pos e, if_neg (fun z => hk (e.trans z))]
    · rw [getN_neg e, getN_neg e, ih]
theorem getN_any {k : NestedKey} : ∀ {l : List (NestedKey × AV)}, (l.any fun p => decide (p.1 = k)) = (getN l k).isSome
  | [] => rfl
  | p :: l => by
    rw [List.any_cons]
    by_cases e : p.1 = k
    · rw [decide_eq_true e, getN_pos e]; rfl
    · rw [decide_eq_false e, Bool.false_or, getN_neg e]; exact getN_any
theorem getN_put {kvs : List (NestedKey × AV)} {k j : NestedKey} {v : AV} : getN (putN kvs k v) j = if j = k then some v else getN kvs j := by
  unfold putN
  by_cases a : (kvs.any fun p => decide (p.1 = k)) = true
  · rw [if_pos a, getN_map]
    rw [getN_any] at a
    by_cases e : j = k
    · obtain ⟨x, hx⟩ := Option.isSome_iff_exists.mp a
      rw [if_pos e, e, hx, Option.map_some, if_pos rfl]
    · rw [if_neg e]
      cases getN kvs j with
      | none => rfl
      | some x => rw [Option.map_some, if_neg e]
  · rw [if_neg a]
    refine getN_snoc ?_
    rw [getN_any] at a
    cases q : getN kvs k with
    | none => rfl
    | some x => rw [q] at a; exact (a rfl).elim
theorem fits_put {kvs : List (NestedKey × AV)} {k j : NestedKey} {v : AV} (f : fits kvs j = true) (e : isTk k = isTk j) : fits (putN kvs k v) j = true := by
  unfold fits at *
  rw [List.all_eq_true] at *
  intro p hp
  unfold putN at hp
  split at hp
  · obtain ⟨p', m, rfl⟩ := List.mem_map.mp hp
    have := f p' m
    by_cases q : p'.1 = k <;> simp [q] <;> first | (simpa using this) | (simpa [q] using this)
  · rcases List.mem_append.mp hp with m | m
    · exact f p m
    · rw [List.mem_singleton.mp m]; simpa using e
theorem put_len {kvs : List (NestedKey × AV)} {k : NestedKey} {v : AV} : (putN kvs k v).length ≤ kvs.length + 1 := by
  unfold putN
  split
  · rw [List.length_map]; omega
  · simp
theorem dkey_text {k : Str} : dkey (.str k) = some (.text k) := rfl
theorem dkey_int {k : Int} : dkey (.int k) = some (.num k) := rfl
/-- a store in a dict -/
theorem put_d {kvs : List (NestedKey × AV)} {r : AH} {j : Nat} {kv v : AV} {k : NestedKey} (e : r[j]? = some (.dct kvs)) (ek : dkey kv = some k) (f : fits kvs k = true) (l : kvs.length < big) : setA (.ref (h.length + j)) kv v (h ++ r) = some (.ok () (h ++ r.set j (.dct (putN kvs k v)))) := by
  have e1 : (h ++ r)[h.length + j]? = some (.dct kvs) := by rw [at_r]; exact e
  simp only [setA, e1, ek, f, l, and_self, if_true]
  rw [set_r]
theorem get_d {kvs : List (NestedKey × AV)} {r : AH} {j : Nat} {kv v : AV} {k : NestedKey} (e : r[j]? = some (.dct kvs)) (ek : dkey kv = some k) (f : fits kvs k = true) (g : getN kvs k = some v) : ixV (h ++ r) (.ref (h.length + j)) kv = some v := by
  have e1 : (h ++ r)[h.length + j]? = some (.dct kvs) := by rw [at_r]; exact e
  have e2 : dixV (h ++ r) (.ref (h.length + j)) kv = some v := by simp [dixV, getD, e1, dgetA, ek, f, g]
  cases kv with
  | int i =>
    show (match getS (h ++ r) (.ref (h.length + j)) with | some xs => L2.atI xs i | none => dixV (h ++ r) (.ref (h.length + j)) (.int i)) = some v
    have e3 : getS (h ++ r) (.ref (h.length + j)) = none := by simp [getS, getL, e1]
    rw [e3]; exact e2
  | _ => exact e2
/-- two tests, both of them asked without harm -/
theorem an2p {R : Rec} {ρ : AEnv} {e f : E} {x y : Bool} {Q : AV → AH → Prop} (he : ∀ Q : AV → AH → Prop, wp ((ev T R e).e ρ) Q X h = Q (.bl x) h) (hf : ∀ Q : AV → AH → Prop, wp ((ev T R f).e ρ) Q X h = Q (.bl y) h) : wp ((ev T R (.band (.cons e (.cons f .nil)))).e ρ) Q X h = Q (.bl (x && y)) h := by
  rw [w_band, w_an2, he, tB_bl]
  cases x
  · simp
  · simp [hf]
theorem an3p {R : Rec} {ρ : AEnv} {e f g : E} {x y z : Bool} {Q : AV → AH → Prop} (he : ∀ Q : AV → AH → Prop, wp ((ev T R e).e ρ) Q X h = Q (.bl x) h) (hf : ∀ Q : AV → AH → Prop, wp ((ev T R f).e ρ) Q X h = Q (.bl y) h) (hg : ∀ Q : AV → AH → Prop, wp ((ev T R g).e ρ) Q X h = Q (.bl z) h) : wp ((ev T R (.band (.cons e (.cons f (.cons g .nil))))).e ρ) Q X h = Q (.bl (x && y && z)) h := by
  rw [w_band, w_an2, he, tB_bl]
  cases x
  · simp
  · rw [if_pos rfl, w_an2, hf, tB_bl]
    cases y
    · simp
    · simp [hg]
/-- d[k] = e : d in a slot, the last thing of the heap -/
theorem sub_step {R : Rec} {ρ : AEnv} {i : Nat} {kvs : List (NestedKey × AV)} {k : Str} {e : E} {x : Bool} {P : Fl → AEnv → AH → Prop} (r : ρ[i]? = some (some (.ref h.length))) (he : ∀ Q : AV → AH → Prop, wp ((ev T R e).e ρ) Q (fun x h1 => P (.ex x) ρ h1) (h ++ [.dct kvs]) = Q (.bl x) (h ++ [.dct kvs])) (f : fits kvs (.text k) = true) (l : kvs.length < big) :
    wpS ((sv T R (.sub (.var i) (.str k) e)).s ρ) P (h ++ [.dct kvs]) = P .nx ρ (h ++ [.dct (putN kvs (.text k) (.bl x))]) := by
  rw [s_subS, he, w_var, r, Option.getD_some, onS_some, w_str]
  have := put_d (h := h) (r := [.dct kvs]) (j := 0) (kv := .str k) (v := .bl x) rfl dkey_text f l
  rw [Nat.add_zero] at this
  rw [wp_eq this]
  rfl
section
variable {R : Rec} {ρ : AEnv} {x y : Nat} {i j : Int} {Q : AV → AH → Prop}
theorem cv_eq (hx : ρ[x]? = some (some (.int i))) (hy : ρ[y]? = some (some (.int j))) : wp ((ev T R (.cmp .eq (.var x) (.var y))).e ρ) Q X h = Q (.bl (decide (i = j))) h := by
  rw [w_cmp, w_var, hx, Option.getD_some, onS_some, w_var, hy, Option.getD_some, onS_some, k_eqI, onS_some]
theorem cv_lt (hx : ρ[x]? = some (some (.int i))) (hy : ρ[y]? = some (some (.int j))) : wp ((ev T R (.cmp .lt (.var x) (.var y))).e ρ) Q X h = Q (.bl (decide (i < j))) h := by
  rw [w_cmp, w_var, hx, Option.getD_some, onS_some, w_var, hy, Option.getD_some, onS_some, k_lt, onS_some]
theorem cv_le (hx : ρ[x]? = some (some (.int i))) (hy : ρ[y]? = some (some (.int j))) : wp ((ev T R (.cmp .le (.var x) (.var y))).e ρ) Q X h = Q (.bl (decide (i ≤ j))) h := by
  rw [w_cmp, w_var, hx, Option.getD_some, onS_some, w_var, hy, Option.getD_some, onS_some, k_le, onS_some]
theorem cv_gt (hx : ρ[x]? = some (some (.int i))) (hy : ρ[y]? = some (some (.int j))) : wp ((ev T R (.cmp .gt (.var x) (.var y))).e ρ) Q X h = Q (.bl (decide (j < i))) h := by
  rw [w_cmp, w_var, hx, Option.getD_some, onS_some, w_var, hy, Option.getD_some, onS_some, k_gt, onS_some]
end
theorem goes_ok (e : T.df "_law_goes" = some d_goes) {n : Nat} {w : Str} {i j a b : Int} {Q : AV → AH → Prop} (hw : w ∈ ways) (q : Q (.bl (goB w i j a b)) h) : wp (callN T (n + 1) false "_law_goes" [.str w, En.av (i, j), En.av (a, b)]) Q X h := by
  refine wp_call e rfl ?_
  simp only [d_goes, av_pr]
  have b1 : ∀ ρ : AEnv, 4 < ρ.length → 5 < ρ.length → bindT (.cons (.var 4) (.cons (.var 5) .nil)) (.tup [.int i, .int j]) ρ = some ((ρ.set 4 (some (.int i))).set 5 (some (.int j))) := fun ρ h4 h5 => by simp [bindT, h4, h5]
  have b2 : ∀ ρ : AEnv, 6 < ρ.length → 7 < ρ.length → bindT (.cons (.var 6) (.cons (.var 7) .nil)) (.tup [.int a, .int b]) ρ = some ((ρ.set 6 (some (.int a))).set 7 (some (.int b))) := fun ρ h4 h5 => by simp [bindT, h4, h5]
  rw [s_seqS, s_asgS, w_var]
  simp only [List.set_cons_succ, List.set_cons_zero, List.replicate_succ, List.replicate_zero, List.map_cons, List.map_nil, List.cons_append, List.nil_append, List.getElem?_cons_succ, List.getElem?_cons_zero, Option.getD_some, onS_some, Nat.reduceSub, Nat.reduceAdd]
  rw [b1 _ (by simp) (by simp), onS_some, thenS_nx, s_seqS, s_asgS, w_var]
  simp only [List.set_cons_succ, List.set_cons_zero, List.replicate_succ, List.replicate_zero, List.map_cons, List.map_nil, List.cons_append, List.nil_append, List.getElem?_cons_succ, List.getElem?_cons_zero, Option.getD_some, onS_some, Nat.reduceSub, Nat.reduceAdd]
  rw [b2 _ (by simp) (by simp), onS_some, thenS_nx, s_seqS, s_asgS]
  simp only [List.set_cons_succ, List.set_cons_zero]
  rw [w_dsp, w_cons, an2p (x := decide (a = i)) (y := decide (b < j)) (fun Q => cv_eq rfl rfl) (fun Q => cv_lt rfl rfl), w_cons, an2p (x := decide (a = i)) (y := decide (j < b)) (fun Q => cv_eq rfl rfl) (fun Q => cv_gt rfl rfl),
    w_cons, an2p (x := decide (i < a)) (y := decide (b = j)) (fun Q => cv_gt rfl rfl) (fun Q => cv_eq rfl rfl), w_cons, an2p (x := decide (a < i)) (y := decide (b = j)) (fun Q => cv_lt rfl rfl) (fun Q => cv_eq rfl rfl), w_nil]
  refine ⟨⟨rfl, by decide, by decide⟩, ?_⟩
  rw [bind_var, if_pos (by simp), onS_some, thenS_nx]
  simp only [List.set_cons_succ, List.set_cons_zero]
  have f0 : ∀ k, fits (((["begins", "begun", "ends", "ended"] : List Str).map NestedKey.text).zip [AV.bl (decide (a = i) && decide (b < j)), AV.bl (decide (a = i) && decide (j < b)), AV.bl (decide (i < a) && decide (b = j)), AV.bl (decide (a < i) && decide (b = j))]) (.text k) = true := fun k => rfl
  have g0 : ∀ k, getN (((["begins", "begun", "ends", "ended"] : List Str).map NestedKey.text).zip [AV.bl (decide (a = i) && decide (b < j)), AV.bl (decide (a = i) && decide (j < b)), AV.bl (decide (i < a) && decide (b = j)), AV.bl (decide (a < i) && decide (b = j))]) (.text k) =
      if k = "begins" then some (.bl (decide (a = i) && decide (b < j))) else if k = "begun" then some (.bl (decide (a = i) && decide (j < b))) else if k = "ends" then some (.bl (decide (i < a) && decide (b = j))) else if k = "ended" then some (.bl (decide (a < i) && decide (b = j))) else none := fun k => by
    have pk : ∀ {z : Str} {v : AV} {l : List (NestedKey × AV)}, getN ((.text z, v) :: l) (.text k) = if k = z then some v else getN l (.text k) := fun {z v l} => by
      by_cases q : k = z
      · rw [if_pos q, getN_pos (by rw [q])]
      · rw [if_neg q, getN_neg (fun e => q (by injection e with e; exact e.symm))]
    simp only [List.map_cons, List.map_nil, List.zip_cons_cons, List.zip_nil_left, pk]
    rfl
  generalize hk0 : (((["begins", "begun", "ends", "ended"] : List Str).map NestedKey.text).zip [AV.bl (decide (a = i) && decide (b < j)), AV.bl (decide (a = i) && decide (j < b)), AV.bl (decide (i < a) && decide (b = j)), AV.bl (decide (a < i) && decide (b = j))]) = kv0 at f0 g0 ⊢
  have l0 : kv0.length = 4 := by rw [← hk0]; rfl
  clear hk0
  have f1 : ∀ k, fits (putN kv0 (.text "during") (.bl (decide (i < a) && decide (b < j)))) (.text k) = true := fun k => fits_put (f0 k) rfl
  have l1 : (putN kv0 (.text "during") (.bl (decide (i < a) && decide (b < j)))).length ≤ 5 := Nat.le_trans put_len (by omega)
  have g1 : ∀ k, getN (putN kv0 (.text "during") (.bl (decide (i < a) && decide (b < j)))) (.text k) = if k = "during" then some (.bl (decide (i < a) && decide (b < j))) else getN kv0 (.text k) := fun k => by
    rw [getN_put]
    by_cases q : k = "during"
    · rw [if_pos q, if_pos (by rw [q])]
    · rw [if_neg q, if_neg (fun e => q (by injection e))]
  rw [s_seqS, sub_step (x := decide (i < a) && decide (b < j)) rfl (fun Q => an2p (x := decide (i < a)) (y := decide (b < j)) (fun Q => cv_lt rfl rfl) (fun Q => cv_lt rfl rfl)) (f0 _) (by unfold big; omega), thenS_nx]
  generalize putN kv0 (.text "during") (.bl (decide (i < a) && decide (b < j))) = kv1 at f1 l1 g1 ⊢
  have f2 : ∀ k, fits (putN kv1 (.text "around") (.bl (decide (a < i) && decide (j < b)))) (.text k) = true := fun k => fits_put (f1 k) rfl
  have l2 : (putN kv1 (.text "around") (.bl (decide (a < i) && decide (j < b)))).length ≤ 6 := Nat.le_trans put_len (by omega)
  have g2 : ∀ k, getN (putN kv1 (.text "around") (.bl (decide (a < i) && decide (j < b)))) (.text k) = if k = "around" then some (.bl (decide (a < i) && decide (j < b))) else getN kv1 (.text k) := fun k => by
    rw [getN_put]
    by_cases q : k = "around"
    · rw [if_pos q, if_pos (by rw [q])]
    · rw [if_neg q, if_neg (fun e => q (by injection e))]
  rw [s_seqS, sub_step (x := decide (a < i) && decide (j < b)) rfl (fun Q => an2p (x := decide (a < i)) (y := decide (j < b)) (fun Q => cv_lt rfl rfl) (fun Q => cv_lt rfl rfl)) (f1 _) (by unfold big; omega), thenS_nx]
  generalize putN kv1 (.text "around") (.bl (decide (a < i) && decide (j < b))) = kv2 at f2 l2 g2 ⊢
  have f3 : ∀ k, fits (putN kv2 (.text "meets") (.bl (decide (a = j)))) (.text k) = true := fun k => fits_put (f2 k) rfl
  have l3 : (putN kv2 (.text "meets") (.bl (decide (a = j)))).length ≤ 7 := Nat.le_trans put_len (by omega)
  have g3 : ∀ k, getN (putN kv2 (.text "meets") (.bl (decide (a = j)))) (.text k) = if k = "meets" then some (.bl (decide (a = j))) else getN kv2 (.text k) := fun k => by
    rw [getN_put]
    by_cases q : k = "meets"
    · rw [if_pos q, if_pos (by rw [q])]
    · rw [if_neg q, if_neg (fun e => q (by injection e))]
  rw [s_seqS, sub_step (x := decide (a = j)) rfl (fun Q => cv_eq rfl rfl) (f2 _) (by unfold big; omega), thenS_nx]
  generalize putN kv2 (.text "meets") (.bl (decide (a = j))) = kv3 at f3 l3 g3 ⊢
  have f4 : ∀ k, fits (putN kv3 (.text "met") (.bl (decide (b = i)))) (.text k) = true := fun k => fits_put (f3 k) rfl
  have l4 : (putN kv3 (.text "met") (.bl (decide (b = i)))).length ≤ 8 := Nat.le_trans put_len (by omega)
  have g4 : ∀ k, getN (putN kv3 (.text "met") (.bl (decide (b = i)))) (.text k) = if k = "met" then some (.bl (decide (b = i))) else getN kv3 (.text k) := fun k => by
    rw [getN_put]
    by_cases q : k = "met"
    · rw [if_pos q, if_pos (by rw [q])]
    · rw [if_neg q, if_neg (fun e => q (by injection e))]
  rw [s_seqS, sub_step (x := decide (b = i)) rfl (fun Q => cv_eq rfl rfl) (f3 _) (by unfold big; omega), thenS_nx]
  generalize putN kv3 (.text "met") (.bl (decide (b = i))) = kv4 at f4 l4 g4 ⊢
  have f5 : ∀ k, fits (putN kv4 (.text "later") (.bl (decide (j < a)))) (.text k) = true := fun k => fits_put (f4 k) rfl
  have l5 : (putN kv4 (.text "later") (.bl (decide (j < a)))).length ≤ 9 := Nat.le_trans put_len (by omega)
  have g5 : ∀ k, getN (putN kv4 (.text "later") (.bl (decide (j < a)))) (.text k) = if k = "later" then some (.bl (decide (j < a))) else getN kv4 (.text k) := fun k => by
    rw [getN_put]
    by_cases q : k = "later"
    · rw [if_pos q, if_pos (by rw [q])]
    · rw [if_neg q, if_neg (fun e => q (by injection e))]
  rw [s_seqS, sub_step (x := decide (j < a)) rfl (fun Q => cv_gt rfl rfl) (f4 _) (by unfold big; omega), thenS_nx]
  generalize putN kv4 (.text "later") (.bl (decide (j < a))) = kv5 at f5 l5 g5 ⊢
  have f6 : ∀ k, fits (putN kv5 (.text "earlier") (.bl (decide (b < i)))) (.text k) = true := fun k => fits_put (f5 k) rfl
  have l6 : (putN kv5 (.text "earlier") (.bl (decide (b < i)))).length ≤ 10 := Nat.le_trans put_len (by omega)
  have g6 : ∀ k, getN (putN kv5 (.text "earlier") (.bl (decide (b < i)))) (.text k) = if k = "earlier" then some (.bl (decide (b < i))) else getN kv5 (.text k) := fun k => by
    rw [getN_put]
    by_cases q : k = "earlier"
    · rw [if_pos q, if_pos (by rw [q])]
    · rw [if_neg q, if_neg (fun e => q (by injection e))]
  rw [s_seqS, sub_step (x := decide (b < i)) rfl (fun Q => cv_lt rfl rfl) (f5 _) (by unfold big; omega), thenS_nx]
  generalize putN kv5 (.text "earlier") (.bl (decide (b < i))) = kv6 at f6 l6 g6 ⊢
  have f7 : ∀ k, fits (putN kv6 (.text "overlaps") (.bl (decide (i < a) && decide (a ≤ j) && decide (j < b)))) (.text k) = true := fun k => fits_put (f6 k) rfl
  have l7 : (putN kv6 (.text "overlaps") (.bl (decide (i < a) && decide (a ≤ j) && decide (j < b)))).length ≤ 11 := Nat.le_trans put_len (by omega)
  have g7 : ∀ k, getN (putN kv6 (.text "overlaps") (.bl (decide (i < a) && decide (a ≤ j) && decide (j < b)))) (.text k) = if k = "overlaps" then some (.bl (decide (i < a) && decide (a ≤ j) && decide (j < b))) else getN kv6 (.text k) := fun k => by
    rw [getN_put]
    by_cases q : k = "overlaps"
    · rw [if_pos q, if_pos (by rw [q])]
    · rw [if_neg q, if_neg (fun e => q (by injection e))]
  rw [s_seqS, sub_step (x := decide (i < a) && decide (a ≤ j) && decide (j < b)) rfl (fun Q => an3p (x := decide (i < a)) (y := decide (a ≤ j)) (z := decide (j < b)) (fun Q => cv_lt rfl rfl) (fun Q => cv_le rfl rfl) (fun Q => cv_lt rfl rfl)) (f6 _) (by unfold big; omega), thenS_nx]
  generalize putN kv6 (.text "overlaps") (.bl (decide (i < a) && decide (a ≤ j) && decide (j < b))) = kv7 at f7 l7 g7 ⊢
  have f8 : ∀ k, fits (putN kv7 (.text "overlapped") (.bl (decide (a < i) && decide (i ≤ b) && decide (b < j)))) (.text k) = true := fun k => fits_put (f7 k) rfl
  have l8 : (putN kv7 (.text "overlapped") (.bl (decide (a < i) && decide (i ≤ b) && decide (b < j)))).length ≤ 12 := Nat.le_trans put_len (by omega)
  have g8 : ∀ k, getN (putN kv7 (.text "overlapped") (.bl (decide (a < i) && decide (i ≤ b) && decide (b < j)))) (.text k) = if k = "overlapped" then some (.bl (decide (a < i) && decide (i ≤ b) && decide (b < j))) else getN kv7 (.text k) := fun k => by
    rw [getN_put]
    by_cases q : k = "overlapped"
    · rw [if_pos q, if_pos (by rw [q])]
    · rw [if_neg q, if_neg (fun e => q (by injection e))]
  rw [s_seqS, sub_step (x := decide (a < i) && decide (i ≤ b) && decide (b < j)) rfl (fun Q => an3p (x := decide (a < i)) (y := decide (i ≤ b)) (z := decide (b < j)) (fun Q => cv_lt rfl rfl) (fun Q => cv_le rfl rfl) (fun Q => cv_lt rfl rfl)) (f7 _) (by unfold big; omega), thenS_nx]
  generalize putN kv7 (.text "overlapped") (.bl (decide (a < i) && decide (i ≤ b) && decide (b < j))) = kv8 at f8 l8 g8 ⊢
  rw [s_seqS, s_retS, w_idx, w_var]
  simp only [List.getElem?_cons_succ, List.getElem?_cons_zero, Option.getD_some, onS_some]
  rw [w_var]
  simp only [List.getElem?_cons_zero, Option.getD_some, onS_some]
  have gw : getN kv8 (.text w) = some (.bl (goB w i j a b)) := by
    rw [g8, g7, g6, g5, g4, g3, g2, g1, g0]
    simp only [ways, List.mem_cons, List.not_mem_nil, or_false] at hw
    rcases hw with rfl | rfl | rfl | rfl | rfl | rfl | rfl | rfl | rfl | rfl | rfl | rfl <;> simp (decide := true) [goB]
  refine onS_of (get_d (h := h) (r := [.dct kv8]) (j := 0) rfl dkey_text (f8 w) gw) ?_
  rw [thenS_rt]
  exact end_app (by simp [AV.lt]) q
end
end Z

set_option Elab.async false
set_option linter.all false
set_option maxRecDepth 100000
set_option autoImplicit false
set_option maxHeartbeats 1000000
/-! ZTA: what sayings mean. -/
namespace Z
open PySem
def d_parts : Df := ⟨1, 2, (.seq (.ret (.comp [1] (.var 1) (.var 1) (.slc (.var 0) (.int 1) .non) (.isb (.var 1) ["tuple"])))
(.nil))⟩
def d_Tinit : Df := ⟨3, 3, (.seq (.att "Teller" "run" (.var 0) (.var 1))
(.seq (.att "Teller" "every" (.var 0) (.call false "stretches_of" (.cons (.bf .len (.cons (.var 1) (.nil))) (.nil))))
(.seq (.att "Teller" "nodes" (.var 0) (.own (.lst (.nil))))
(.seq (.att "Teller" "kids" (.var 0) (.own (.lst (.nil))))
(.seq (.att "Teller" "known" (.var 0) (.dsp [] (.nil)))
(.seq (.exp (.mcl false "Teller" "add" (.var 0) (.cons (.var 2) (.nil))))
(.nil)))))))⟩
def d_Tadd : Df := ⟨2, 4, (.seq (.asg (.var 2) (.bf .len (.cons (.fld "Teller" "nodes" (.var 0)) (.nil))))
(.seq (.exp (.md .append (.fld "Teller" "nodes" (.var 0)) (.cons (.var 1) (.nil))))
(.seq (.exp (.md .append (.fld "Teller" "kids" (.var 0)) (.cons (.lst (.nil)) (.nil))))
(.seq (.sub (.fld "Teller" "kids" (.var 0)) (.var 2) (.comp [3] (.mcl false "Teller" "add" (.var 0) (.cons (.var 3) (.nil))) (.var 3) (.call false "parts_of" (.cons (.var 1) (.nil))) .nil))
(.seq (.ret (.var 2))
(.nil))))))⟩
def d_Ttells : Df := ⟨3, 3, (.seq (.ite (.cmp .notIn (.tup (.cons (.var 1) (.cons (.var 2) (.nil)))) (.fld "Teller" "known" (.var 0))) (.seq (.sub (.fld "Teller" "known" (.var 0)) (.tup (.cons (.var 1) (.cons (.var 2) (.nil)))) (.mcl false "Teller" "worked" (.var 0) (.cons (.var 1) (.cons (.var 2) (.nil)))))
(.nil)) (.nil))
(.seq (.ret (.idx (.fld "Teller" "known" (.var 0)) (.tup (.cons (.var 1) (.cons (.var 2) (.nil))))))
(.nil)))⟩
def d_Twork : Df := ⟨3, 8, (.seq (.asg (.var 3) (.idx (.fld "Teller" "nodes" (.var 0)) (.var 1)))
(.seq (.asg (.var 4) (.idx (.fld "Teller" "kids" (.var 0)) (.var 1)))
(.seq (.ite (.cmp .eq (.idx (.var 3) (.int 0)) (.str "point")) (.seq (.ret (.cmp .eq (.idx (.var 2) (.int 0)) (.idx (.var 2) (.int 1))))
(.nil)) (.nil))
(.seq (.ite (.cmp .eq (.idx (.var 3) (.int 0)) (.str "fact")) (.seq (.ret (.bf .all (.cons (.comp [7] (.cmp .isIn (.idx (.var 3) (.int 1)) (.var 7)) (.var 7) (.slc (.fld "Teller" "run" (.var 0)) (.idx (.var 2) (.int 0)) (.bin .add (.idx (.var 2) (.int 1)) (.int 1))) .nil) (.nil))))
(.nil)) (.nil))
(.seq (.ite (.cmp .eq (.idx (.var 3) (.int 0)) (.str "not")) (.seq (.ret (.not (.mcl false "Teller" "tells" (.var 0) (.cons (.idx (.var 4) (.int 0)) (.cons (.var 2) (.nil))))))
(.nil)) (.nil))
(.seq (.ite (.cmp .eq (.idx (.var 3) (.int 0)) (.str "and")) (.seq (.ret (.band (.cons (.mcl false "Teller" "tells" (.var 0) (.cons (.idx (.var 4) (.int 0)) (.cons (.var 2) (.nil)))) (.cons (.mcl false "Teller" "tells" (.var 0) (.cons (.idx (.var 4) (.int 1)) (.cons (.var 2) (.nil)))) (.nil)))))
(.nil)) (.nil))
(.seq (.ite (.cmp .eq (.idx (.var 3) (.int 0)) (.str "or")) (.seq (.ret (.bor (.cons (.mcl false "Teller" "tells" (.var 0) (.cons (.idx (.var 4) (.int 0)) (.cons (.var 2) (.nil)))) (.cons (.mcl false "Teller" "tells" (.var 0) (.cons (.idx (.var 4) (.int 1)) (.cons (.var 2) (.nil)))) (.nil)))))
(.nil)) (.nil))
(.seq (.asg (.var 5) (.cmp .eq (.idx (.var 3) (.int 0)) (.str "some")))
(.seq (.for (.var 6) (.fld "Teller" "every" (.var 0)) (.seq (.ite (.band (.cons (.call false "is_reached" (.cons (.idx (.var 3) (.int 1)) (.cons (.var 2) (.cons (.var 6) (.nil))))) (.cons (.cmp .eq (.mcl false "Teller" "tells" (.var 0) (.cons (.idx (.var 4) (.int 0)) (.cons (.var 6) (.nil)))) (.var 5)) (.nil)))) (.seq (.ret (.var 5))
(.nil)) (.nil))
(.nil)))
(.seq (.ret (.not (.var 5)))
(.nil)))))))))))⟩
def d_holds : Df := ⟨4, 4, (.seq (.ite (.not (.chain (.int 0) (.lnk .le (.var 2) (.lnk .le (.var 3) (.lnk .lt (.bf .len (.cons (.var 0) (.nil))) .nil))))) (.seq (.raise "NotAllowed")
(.nil)) (.nil))
(.seq (.ret (.mcl false "Teller" "tells" (.call false "Teller" (.cons (.var 0) (.cons (.var 1) (.nil)))) (.cons (.int 0) (.cons (.tup (.cons (.var 2) (.cons (.var 3) (.nil)))) (.nil)))))
(.nil)))⟩
def d_keeps : Df := ⟨2, 2, (.seq (.ret (.call false "holds" (.cons (.var 0) (.cons (.var 1) (.cons (.int 0) (.cons (.bin .sub (.bf .len (.cons (.var 0) (.nil))) (.int 1)) (.nil)))))))
(.nil))⟩
def d_way : Df := ⟨1, 2, (.seq (.asg (.var 1) (.lst (.cons (.str "begins") (.cons (.str "begun") (.cons (.str "ends") (.cons (.str "ended") (.cons (.str "during") (.cons (.str "around") (.cons (.str "meets") (.cons (.str "met") (.cons (.str "later") (.cons (.str "earlier") (.cons (.str "overlaps") (.cons (.str "overlapped") (.nil)))))))))))))))
(.seq (.ret (.idx (.var 1) (.call false "_law_next" (.cons (.var 0) (.cons (.int 12) (.nil))))))
(.nil)))⟩
def d_saying : Df := ⟨4, 7, (.seq (.asg (.var 4) (.call false "_law_next" (.cons (.var 0) (.cons (.int 12) (.nil)))))
(.seq (.ite (.bor (.cons (.cmp .le (.var 2) (.int 1)) (.cons (.cmp .eq (.var 4) (.int 0)) (.nil)))) (.seq (.ret (.idx (.lst (.cons (.tup (.cons (.str "fact") (.cons (.idx (.var 1) (.call false "_law_next" (.cons (.var 0) (.cons (.bf .len (.cons (.var 1) (.nil))) (.nil))))) (.nil)))) (.cons (.tup (.cons (.str "point") (.nil))) (.nil)))) (.bf .int (.cons (.cmp .eq (.call false "_law_next" (.cons (.var 0) (.cons (.int 5) (.nil)))) (.int 0)) (.nil)))))
(.nil)) (.nil))
(.seq (.ite (.band (.cons (.cmp .lt (.var 4) (.int 6)) (.cons (.cmp .gt (.var 3) (.int 0)) (.nil)))) (.seq (.ret (.tup (.cons (.idx (.lst (.cons (.str "some") (.cons (.str "all") (.nil)))) (.call false "_law_next" (.cons (.var 0) (.cons (.int 2) (.nil))))) (.cons (.call false "_law_way" (.cons (.var 0) (.nil))) (.cons (.call false "_law_saying" (.cons (.var 0) (.cons (.var 1) (.cons (.bin .sub (.var 2) (.int 1)) (.cons (.bin .sub (.var 3) (.int 1)) (.nil)))))) (.nil))))))
(.nil)) (.nil))
(.seq (.ite (.bor (.cons (.cmp .lt (.var 4) (.int 8)) (.cons (.cmp .eq (.var 2) (.int 2)) (.nil)))) (.seq (.ret (.tup (.cons (.str "not") (.cons (.call false "_law_saying" (.cons (.var 0) (.cons (.var 1) (.cons (.bin .sub (.var 2) (.int 1)) (.cons (.var 3) (.nil)))))) (.nil)))))
(.nil)) (.nil))
(.seq (.asg (.var 5) (.bin .add (.int 1) (.call false "_law_next" (.cons (.var 0) (.cons (.bin .sub (.var 2) (.int 2)) (.nil))))))
(.seq (.asg (.var 6) (.call false "_law_saying" (.cons (.var 0) (.cons (.var 1) (.cons (.var 5) (.cons (.var 3) (.nil)))))))
(.seq (.ret (.tup (.cons (.idx (.lst (.cons (.str "and") (.cons (.str "or") (.nil)))) (.bin .mod (.var 4) (.int 2))) (.cons (.var 6) (.cons (.call false "_law_saying" (.cons (.var 0) (.cons (.var 1) (.cons (.bf .max2 (.cons (.int 1) (.cons (.bin .sub (.bin .sub (.var 2) (.int 1)) (.var 5)) (.nil)))) (.cons (.var 3) (.nil)))))) (.nil))))))
(.nil))))))))⟩
def d_lholds : Df := ⟨3, 6, (.seq (.asg (.var 3) (.idx (.var 1) (.int 0)))
(.seq (.ite (.cmp .eq (.var 3) (.str "point")) (.seq (.ret (.cmp .eq (.idx (.var 2) (.int 0)) (.idx (.var 2) (.int 1))))
(.nil)) (.nil))
(.seq (.ite (.cmp .eq (.var 3) (.str "fact")) (.seq (.ret (.cmp .eq (.bf .len (.cons (.comp [5] (.var 5) (.var 5) (.rng (.cons (.idx (.var 2) (.int 0)) (.cons (.bin .add (.idx (.var 2) (.int 1)) (.int 1)) (.nil)))) (.cmp .notIn (.idx (.var 1) (.int 1)) (.idx (.var 0) (.var 5)))) (.nil))) (.int 0)))
(.nil)) (.nil))
(.seq (.ite (.cmp .eq (.var 3) (.str "not")) (.seq (.ret (.not (.call false "_law_holds" (.cons (.var 0) (.cons (.idx (.var 1) (.int 1)) (.cons (.var 2) (.nil)))))))
(.nil)) (.nil))
(.seq (.ite (.cmp .eq (.var 3) (.str "and")) (.seq (.ret (.band (.cons (.call false "_law_holds" (.cons (.var 0) (.cons (.idx (.var 1) (.int 1)) (.cons (.var 2) (.nil))))) (.cons (.call false "_law_holds" (.cons (.var 0) (.cons (.idx (.var 1) (.int 2)) (.cons (.var 2) (.nil))))) (.nil)))))
(.nil)) (.nil))
(.seq (.ite (.cmp .eq (.var 3) (.str "or")) (.seq (.ret (.bor (.cons (.call false "_law_holds" (.cons (.var 0) (.cons (.idx (.var 1) (.int 1)) (.cons (.var 2) (.nil))))) (.cons (.call false "_law_holds" (.cons (.var 0) (.cons (.idx (.var 1) (.int 2)) (.cons (.var 2) (.nil))))) (.nil)))))
(.nil)) (.nil))
(.seq (.for (.var 4) (.call false "_law_all_stretches" (.cons (.bf .len (.cons (.var 0) (.nil))) (.nil))) (.seq (.ite (.band (.cons (.call false "_law_goes" (.cons (.idx (.var 1) (.int 1)) (.cons (.var 2) (.cons (.var 4) (.nil))))) (.cons (.cmp .eq (.call false "_law_holds" (.cons (.var 0) (.cons (.idx (.var 1) (.int 2)) (.cons (.var 4) (.nil))))) (.cmp .eq (.var 3) (.str "some"))) (.nil)))) (.seq (.ret (.cmp .eq (.var 3) (.str "some")))
(.nil)) (.nil))
(.nil)))
(.seq (.ret (.cmp .eq (.var 3) (.str "all")))
(.nil)))))))))⟩
inductive Sy where
  | pt
  | fc (f : Str)
  | nt (a : Sy)
  | an (a b : Sy)
  | or (a b : Sy)
  | so (w : Str) (a : Sy)
  | al (w : Str) (a : Sy)
namespace Sy
def av : Sy → AV
  | .pt => .tup [.str "point"]
  | .fc f => .tup [.str "fact", .str f]
  | .nt a => .tup [.str "not", a.av]
  | .an a b => .tup [.str "and", a.av, b.av]
  | .or a b => .tup [.str "or", a.av, b.av]
  | .so w a => .tup [.str "some", .str w, a.av]
  | .al w a => .tup [.str "all", .str w, a.av]
def dep : Sy → Nat
  | .pt => 0
  | .fc _ => 0
  | .nt a => a.dep + 1
  | .an a b => max a.dep b.dep + 1
  | .or a b => max a.dep b.dep + 1
  | .so _ a => a.dep + 1
  | .al _ a => a.dep + 1
/-- its ways are ways -/
def ok : Sy → Prop
  | .pt => True
  | .fc _ => True
  | .nt a => a.ok
  | .an a b => a.ok ∧ b.ok
  | .or a b => a.ok ∧ b.ok
  | .so w a => w ∈ ways ∧ a.ok
  | .al w a => w ∈ ways ∧ a.ok
def size : Sy → Nat
  | .pt => 1
  | .fc _ => 1
  | .nt a => a.size + 1
  | .an a b => a.size + b.size + 1
  | .or a b => a.size + b.size + 1
  | .so _ a => a.size + 1
  | .al _ a => a.size + 1
end Sy
/-- what a saying means of a stretch -/
def mean (run : List (List Str)) : Sy → Int → Int → Bool
  | .pt, i, j => decide (i = j)
  | .fc f, i, j => (List.range (j + 1 - i).toNat).all fun t => decide (f ∈ run[i.toNat + t]?.getD [])
  | .nt a, i, j => !mean run a i j
  | .an a b, i, j => mean run a i j && mean run b i j
  | .or a b, i, j => mean run a i j || mean run b i j
  | .so w a, i, j => (allSt run.length).any fun p => goB w i j p.1 p.2 && mean run a p.1 p.2
  | .al w a, i, j => (allSt run.length).all fun p => !goB w i j p.1 p.2 || mean run a p.1 p.2
section
variable {T : Tb} {h : AH} {X : Ex → AH → Prop}
theorem rng_ii {i j : Int} (hi : 0 ≤ i) (hi2 : i ≤ 1000000) (hj : 0 ≤ j) (hj2 : j ≤ 1000000) : rngOf [.int i, .int j] = some (rngA i (j - i).toNat) := by
  rw [r_two, if_pos ⟨by omega, by omega, by omega, by omega⟩]
theorem ix_run {run : List (List Str)} {k : Int} (h0 : 0 ≤ k) (h1 : k < run.length) : ixV h (.tup (encC run)) (.int k) = some (.tup (encS (run[k.toNat]?.getD []))) := by
  obtain ⟨k, rfl⟩ : ∃ n : Nat, k = n := ⟨k.toNat, by omega⟩
  refine ix_tupN ?_
  have : k < run.length := by omega
  simp [encC, this]
def hit (run : List (List Str)) (a : Sy) (w : Str) (b : Bool) (i j : Int) (p : Pr) : Bool := goB w i j p.1 p.2 && decide (mean run a p.1 p.2 = b)
def noHit (run : List (List Str)) (a : Sy) (w : Str) (b : Bool) (i j : Int) (t : Nat) : Prop := ((allSt run.length).take t).any (hit run a w b i j) = false
theorem mean_so {run : List (List Str)} {a : Sy} {w : Str} {i j : Int} : mean run (.so w a) i j = (allSt run.length).any (hit run a w true i j) := by
  show ((allSt run.length).any fun p => goB w i j p.1 p.2 && mean run a p.1 p.2) = _
  congr 1
  funext p
  simp [hit]
theorem mean_al {run : List (List Str)} {a : Sy} {w : Str} {i j : Int} : mean run (.al w a) i j = !(allSt run.length).any (hit run a w false i j) := by
  show ((allSt run.length).all fun p => !goB w i j p.1 p.2 || mean run a p.1 p.2) = _
  rw [List.all_eq_not_any_not]
  congr 2
  funext p
  simp [hit]
theorem noHit_succ {run : List (List Str)} {a : Sy} {w : Str} {b : Bool} {i j : Int} {t : Nat} {p : Pr} (e : (allSt run.length)[t]? = some p) (n : noHit run a w b i j t) (z : hit run a w b i j p = false) : noHit run a w b i j (t + 1) := by
  unfold noHit at *
  rw [List.take_add_one, e, List.any_append, n]
  simp [z]
/-- the law's loop through the stretches -/
theorem lloop_ok (e2 : T.df "_law_goes" = some d_goes) {run : List (List Str)} {a : Sy} {w : Str} {i j : Int} {n : Nat} {b : Bool} {hd : AV} {P : Fl → AEnv → AH → Prop} {ρ : AEnv}
    (hw : w ∈ ways) (hρ : ρ = [some (.tup (encC run)), some (.tup [hd, .str w, a.av]), some (.tup [.int i, .int j]), some (.str (if b then "some" else "all")), none, none])
    (ih : ∀ (i j : Int) (Q : AV → AH → Prop) (X : Ex → AH → Prop), (i, j) ∈ allSt run.length → Q (.bl (mean run a i j)) h → wp (callN T (n + 1) false "_law_holds" [.tup (encC run), a.av, En.av (i, j)]) Q X h)
    (q1 : ∀ ρ', (allSt run.length).any (hit run a w b i j) = true → P (.rt (.bl b)) ρ' h)
    (q2 : ∀ o, (allSt run.length).any (hit run a w b i j) = false → P .nx (ρ.set 4 o) h) :
    wpS (forL (fun x ρ => bindT (.var 4) x ρ) (fun ρ => (sv T (callN T (n + 1)) (.seq (.ite (.band (.cons (.call false "_law_goes" (.cons (.idx (.var 1) (.int 1)) (.cons (.var 2) (.cons (.var 4) (.nil))))) (.cons (.cmp .eq (.call false "_law_holds" (.cons (.var 0) (.cons (.idx (.var 1) (.int 2)) (.cons (.var 4) (.nil))))) (.cmp .eq (.var 3) (.str "some"))) (.nil)))) (.seq (.ret (.cmp .eq (.var 3) (.str "some")))
(.nil)) (.nil))
(.nil))).s ρ) (stands (.lst ((allSt run.length).map En.av)) ((allSt run.length).map En.av)) ((allSt run.length).map En.av) ρ) P h := by
  subst hρ
  refine w_for (v := .lst ((allSt run.length).map En.av)) (fun t ρ h' => h' = h ∧ (∃ o, ρ = [some (.tup (encC run)), some (.tup [hd, .str w, a.av]), some (.tup [.int i, .int j]), some (.str (if b then "some" else "all")), o, none]) ∧ noHit run a w b i j t) ⟨rfl, ⟨_, rfl⟩, by simp [noHit]⟩ (fun _ _ _ _ => stands_free (fun _ z => nomatch z) fun _ _ z => nomatch z) (fun t x ρ h' e hi => ?_) (fun ρ h' hi => ?_)
  · obtain ⟨rfl, ⟨o, rfl⟩, no⟩ := hi
    rw [List.getElem?_map, Option.map_eq_some_iff] at e
    obtain ⟨p, e, rfl⟩ := e
    have hp := List.mem_of_getElem? e
    have hb : ∀ h, cmpV h .eq (.str (if b then "some" else "all")) (.str "some") = some b := fun h => by cases b <;> simp (decide := true)
    rw [bind_var, if_pos (by simp), onS_some]
    simp [hb]
    refine goes_ok (i := i) (j := j) (a := p.1) (b := p.2) e2 hw ?_
    rw [tB_bl]
    by_cases g : goB w i j p.1 p.2 = true
    · rw [if_pos g]
      refine ih p.1 p.2 _ _ hp ?_
      rw [k_eqB, onS_some]
      by_cases z : mean run a p.1 p.2 = b
      · rw [if_pos (by simpa using z)]
        exact q1 _ (List.any_eq_true.mpr ⟨p, hp, by simp [hit, g, z]⟩)
      · rw [if_neg (by simpa using z)]
        exact ⟨rfl, noHit_succ e no (by simp [hit, z])⟩
    · rw [if_neg g]
      exact ⟨rfl, noHit_succ e no (by simp [hit, g])⟩
  · obtain ⟨rfl, ⟨o, rfl⟩, no⟩ := hi
    unfold noHit at no
    rw [List.length_map, List.take_length] at no
    exact q2 o no
theorem lholds_ok (e : T.df "_law_holds" = some d_lholds) (e1 : T.df "_law_all_stretches" = some d_allstr) (e2 : T.df "_law_goes" = some d_goes) {run : List (List Str)} (hr : run.length ≤ 100) : ∀ (s : Sy) (N : Nat) (i j : Int) (Q : AV → AH → Prop) (X : Ex → AH → Prop), s.dep + 2 ≤ N → s.ok → (i, j) ∈ allSt run.length → Q (.bl (mean run s i j)) h → wp (callN T N false "_law_holds" [.tup (encC run), s.av, En.av (i, j)]) Q X h := by
  intro s
  induction s with
  | pt =>
    intro N i j Q X hN ok hs q
    obtain ⟨n, rfl⟩ : ∃ n, N = n + 1 + 1 := ⟨N - 2, by omega⟩
    simp only [Sy.dep] at hN
    refine wp_call e rfl ?_
    simp (decide := true) [d_lholds, Sy.av, av_pr]
    exact end_same (by simp [AV.lt]) q
  | fc f =>
    intro N i j Q X hN ok hs q
    obtain ⟨n, rfl⟩ : ∃ n, N = n + 1 + 1 := ⟨N - 2, by omega⟩
    simp only [Sy.dep] at hN
    have hs := mem_allSt.mp hs
    refine wp_call e rfl ?_
    simp (decide := true) [d_lholds, Sy.av, av_pr, -r_two, rng_ii (i := i) (j := j + 1) (by omega) (by omega) (by omega) (by omega), rngA_len]
    refine ⟨by unfold big; omega, ?_⟩
    rw [rngA_map]
    refine comp_filt (enc := fun (t : Nat) => AV.int (i + t)) (l := List.range (j + 1 - i).toNat) (p := fun t => !decide (f ∈ run[i.toNat + t]?.getD [])) (stands_free (fun _ z => nomatch z) fun _ _ z => nomatch z) (fun t ht => ?_) ?_
    · have ht := List.mem_range.mp ht
      have e3 := ix_run (h := h) (run := run) (k := i + t) (by omega) (by omega)
      rw [show (i + (t : Int)).toNat = i.toNat + t by omega] at e3
      simp [e3]
    · refine end_same (by simp [AV.lt]) ?_
      have : (((List.range (j + 1 - i).toNat).filter fun t => !decide (f ∈ run[i.toNat + t]?.getD [])).map (fun (t : Nat) => AV.int (i + t)) = []) ↔ mean run (.fc f) i j = true := by
        unfold mean
        rw [List.map_eq_nil_iff, List.filter_eq_nil_iff]
        simp
      by_cases z : mean run (.fc f) i j = true
      · rw [decide_eq_true (this.mpr z)]
        rw [z] at q
        exact q
      · rw [decide_eq_false (fun y => z (this.mp y))]
        rw [Bool.eq_false_iff.mpr z] at q
        exact q
  | nt a ih =>
    intro N i j Q X hN ok hs q
    obtain ⟨n, rfl⟩ : ∃ n, N = n + 1 + 1 := ⟨N - 2, by omega⟩
    simp only [Sy.dep] at hN
    refine wp_call e rfl ?_
    simp (decide := true) [d_lholds, Sy.av, av_pr]
    refine ih (n + 1) i j _ _ (by omega) ok hs ?_
    exact end_same (by simp [AV.lt]) q
  | an a b ih1 ih2 =>
    intro N i j Q X hN ok hs q
    obtain ⟨n, rfl⟩ : ∃ n, N = n + 1 + 1 := ⟨N - 2, by omega⟩
    simp only [Sy.dep] at hN
    refine wp_call e rfl ?_
    simp (decide := true) [d_lholds, Sy.av, av_pr]
    refine ih1 _ i j _ _ (by omega) ok.1 hs ?_
    rw [tB_bl]
    by_cases z : mean run a i j = true
    · rw [if_pos z]
      refine ih2 _ i j _ _ (by omega) ok.2 hs ?_
      exact end_same (by simp [AV.lt]) (by simpa [mean, z] using q)
    · rw [if_neg z]
      exact end_same (by simp [AV.lt]) (by simpa [mean, z] using q)
  | or a b ih1 ih2 =>
    intro N i j Q X hN ok hs q
    obtain ⟨n, rfl⟩ : ∃ n, N = n + 1 + 1 := ⟨N - 2, by omega⟩
    simp only [Sy.dep] at hN
    refine wp_call e rfl ?_
    simp (decide := true) [d_lholds, Sy.av, av_pr]
    refine ih1 _ i j _ _ (by omega) ok.1 hs ?_
    rw [tB_bl]
    by_cases z : mean run a i j = true
    · simp only [z, if_true]
      exact end_same (by simp [AV.lt]) (by simpa [mean, z] using q)
    · simp only [z, if_false]
      refine ih2 _ i j _ _ (by omega) ok.2 hs ?_
      exact end_same (by simp [AV.lt]) (by simpa [mean, z] using q)
  | so w a ih =>
    intro N i j Q X hN ok hs q
    obtain ⟨n, rfl⟩ : ∃ n, N = n + 1 + 1 := ⟨N - 2, by omega⟩
    simp only [Sy.dep] at hN
    refine wp_call e rfl ?_
    simp (decide := true) [d_lholds, Sy.av, av_pr]
    refine allstr_ok e1 (by rw [encC_len]; omega) ?_
    rw [encC_len, it_lst, onS_some]
    refine lloop_ok (b := true) e2 ok.1 rfl (fun i j Q X hs q => ih _ i j Q X (by omega) ok.2 hs q) (fun ρ' hh => ?_) fun o hh => ?_
    · refine end_same (ρ := ρ') (by simp [AV.lt]) ?_
      rw [show mean run (.so w a) i j = true from (mean_so).trans hh] at q
      exact q
    · rw [thenS_nx]
      simp (decide := true)
      refine end_same (by simp [AV.lt]) ?_
      rw [show mean run (.so w a) i j = false from (mean_so).trans hh] at q
      exact q
  | al w a ih =>
    intro N i j Q X hN ok hs q
    obtain ⟨n, rfl⟩ : ∃ n, N = n + 1 + 1 := ⟨N - 2, by omega⟩
    simp only [Sy.dep] at hN
    refine wp_call e rfl ?_
    simp (decide := true) [d_lholds, Sy.av, av_pr]
    refine allstr_ok e1 (by rw [encC_len]; omega) ?_
    rw [encC_len, it_lst, onS_some]
    refine lloop_ok (b := false) e2 ok.1 rfl (fun i j Q X hs q => ih _ i j Q X (by omega) ok.2 hs q) (fun ρ' hh => ?_) fun o hh => ?_
    · refine end_same (ρ := ρ') (by simp [AV.lt]) ?_
      rw [show mean run (.al w a) i j = false from (mean_al).trans (by rw [hh]; rfl)] at q
      exact q
    · rw [thenS_nx]
      simp (decide := true)
      refine end_same (by simp [AV.lt]) ?_
      rw [show mean run (.al w a) i j = true from (mean_al).trans (by rw [hh]; rfl)] at q
      exact q
end
end Z

set_option Elab.async false
set_option linter.all false
set_option maxRecDepth 100000
set_option autoImplicit false
set_option maxHeartbeats 1000000
/-! ZTB: the teller. -/
namespace Z
open PySem
section
variable {T : Tb} {h : AH} {X : Ex → AH → Prop} {a : Nat} {xs : List AV}
theorem len_a (e : h[a]? = some (.lst xs)) : bfV h .len [.ref a] = some (.int xs.length) := by
  simp [bfV, bf1, getS, getL, e]
theorem pre_a (e : h[a]? = some (.lst xs)) : mdPre h .append (.ref a) = some () := by
  simp [mdPre, getL, e]
theorem put_a {v : AV} (e : h[a]? = some (.lst xs)) (hl : xs.length < big) : mdV .append (.ref a) [v] h = some (.ok .non (h.set a (.lst (xs ++ [v])))) := by
  simp only [mdV, e]
  rw [if_pos hl]
theorem sub_a {v : AV} {k : Nat} (e : h[a]? = some (.lst xs)) (hk : k < xs.length) : setA (.ref a) (.int k) v h = some (.ok () (h.set a (.lst (xs.set k v)))) := by
  have : L2.ixN xs.length (k : Int) = some k := by
    simp [L2.ixN]
    omega
  simp only [setA, e, this]
theorem ix_a {k : Nat} {x : AV} (e : h[a]? = some (.lst xs)) (e2 : xs[k]? = some x) : ixV h (.ref a) (.int k) = some x := by
  have := ix_lstN (h := h) e2
  have e3 : getS h (.ref a) = some xs := by simp [getS, getL, e]
  have e4 : getS h (.lst xs) = some xs := rfl
  show (match getS h (.ref a) with | some xs => L2.atI xs (k : Int) | none => _) = _
  rw [e3]
  exact this
theorem fld_a {C f : Str} {fs : List (Str × AV)} {v : AV} (e : h[a]? = some (.ins C fs)) (e2 : fs.lookup f = some v) : fldV C f (.ref a) h = some v := by
  simp [fldV, e, e2]
theorem ins_a {C m : Str} {fs : List (Str × AV)} (e : h[a]? = some (.ins C fs)) (e2 : fs.lookup m = none) : insV C m (.ref a) h = some () := by
  simp [insV, e, e2]
theorem end_set {tr : Bool} {r : Nat} {o : AO} {v : AV} {ρ : AEnv} {Q : AV → AH → Prop} (l : o.lt h.length) (p : v.lt h.length) (q : Q v (h.set r o)) : endC tr h Q X (.rt v) ρ (h.set r o) := by
  show onO Q X (fin tr h v (h.set r o))
  rw [fin_set l p]
  exact q
theorem okPre_set2 {r r2 : Nat} {o o2 : AO} (l : o.lt h.length) (l2 : o2.lt h.length) : okPre h ((h.set r o).set r2 o2) := by
  refine ⟨by simp, fun i hi => ?_⟩
  by_cases e2 : r2 = i
  · subst e2
    exact .inr ⟨o2, by rw [List.getElem?_set_self (by simpa using hi)], l2⟩
  · rw [List.getElem?_set_ne e2]
    by_cases e1 : r = i
    · subst e1
      exact .inr ⟨o, by rw [List.getElem?_set_self hi], l⟩
    · exact .inl (by rw [List.getElem?_set_ne e1])
theorem end_set2 {tr : Bool} {r r2 : Nat} {o o2 : AO} {v : AV} {ρ : AEnv} {Q : AV → AH → Prop} (l : o.lt h.length) (l2 : o2.lt h.length) (p : v.lt h.length) (q : Q v ((h.set r o).set r2 o2)) : endC tr h Q X (.rt v) ρ ((h.set r o).set r2 o2) := by
  show onO Q X (fin tr h v ((h.set r o).set r2 o2))
  rw [fin_lt (okPre_set2 l l2) p, List.take_of_length_le (by simp)]
  exact q
theorem nodup_len {α : Type} [DecidableEq α] : ∀ {l m : List α}, l.Nodup → (∀ x ∈ l, x ∈ m) → l.length ≤ m.length
  | [], _, _, _ => Nat.zero_le _
  | x :: l, m, nd, sub => by
    have nd := List.nodup_cons.mp nd
    have hx := sub x List.mem_cons_self
    have ih := nodup_len (m := m.erase x) nd.2 fun y hy => (List.mem_erase_of_ne (fun z : y = x => nd.1 (by rw [← z]; exact hy))).mpr (sub y (List.mem_cons_of_mem _ hy))
    rw [List.length_erase_of_mem hx] at ih
    have : 0 < m.length := List.length_pos_of_mem hx
    simp only [List.length_cons]
    omega
end
/-! ### the parts of a saying, all of them, numbered -/
namespace Sy
def kids : Sy → List Sy
  | .pt => []
  | .fc _ => []
  | .nt a => [a]
  | .an a b => [a, b]
  | .or a b => [a, b]
  | .so _ a => [a]
  | .al _ a => [a]
def all : Sy → List Sy
  | .pt => [.pt]
  | .fc f => [.fc f]
  | .nt a => .nt a :: a.all
  | .an a b => .an a b :: (a.all ++ b.all)
  | .or a b => .or a b :: (a.all ++ b.all)
  | .so w a => .so w a :: a.all
  | .al w a => .al w a :: a.all
def links : Sy → Nat → List (List Int)
  | .pt, _ => [[]]
  | .fc _, _ => [[]]
  | .nt a, n => [((n + 1 : Nat) : Int)] :: a.links (n + 1)
  | .an a b, n => [((n + 1 : Nat) : Int), ((n + 1 + a.size : Nat) : Int)] :: (a.links (n + 1) ++ b.links (n + 1 + a.size))
  | .or a b, n => [((n + 1 : Nat) : Int), ((n + 1 + a.size : Nat) : Int)] :: (a.links (n + 1) ++ b.links (n + 1 + a.size))
  | .so _ a, n => [((n + 1 : Nat) : Int)] :: a.links (n + 1)
  | .al _ a, n => [((n + 1 : Nat) : Int)] :: a.links (n + 1)
theorem all_len : ∀ s : Sy, s.all.length = s.size
  | .pt => rfl
  | .fc _ => rfl
  | .nt a => by simp [all, size, all_len a]
  | .an a b => by simp [all, size, all_len a, all_len b]
  | .or a b => by simp [all, size, all_len a, all_len b]
  | .so _ a => by simp [all, size, all_len a]
  | .al _ a => by simp [all, size, all_len a]
theorem links_len : ∀ (s : Sy) (n : Nat), (s.links n).length = s.size
  | .pt, _ => rfl
  | .fc _, _ => rfl
  | .nt a, n => by simp [links, size, links_len a]
  | .an a b, n => by simp [links, size, links_len a, links_len b]
  | .or a b, n => by simp [links, size, links_len a, links_len b]
  | .so _ a, n => by simp [links, size, links_len a]
  | .al _ a, n => by simp [links, size, links_len a]
def nums : List Sy → Nat → List Int
  | [], _ => []
  | k :: ks, n => (n : Int) :: nums ks (n + k.size)
def linksL : List Sy → Nat → List (List Int)
  | [], _ => []
  | k :: ks, n => k.links n ++ linksL ks (n + k.size)
theorem all_kids (s : Sy) : s.all = s :: s.kids.flatMap all := by cases s <;> simp [all, kids]
theorem links_kids (s : Sy) (n : Nat) : s.links n = nums s.kids (n + 1) :: linksL s.kids (n + 1) := by cases s <;> simp [links, kids, nums, linksL]
theorem kid_dep {s k : Sy} (hk : k ∈ s.kids) : k.dep < s.dep := by
  cases s <;> simp [kids] at hk <;> first | (subst hk; simp [dep]) | (rcases hk with rfl | rfl <;> simp [dep] <;> omega)
theorem kid_size (s : Sy) : s.size = (s.kids.map size).sum + 1 := by cases s <;> simp [kids, size]
theorem size_pos (s : Sy) : 0 < s.size := by rw [kid_size]; omega
/-- a saying lies at a number -/
def At (N : List Sy) (K : List (List Int)) : Sy → Nat → Prop
  | .pt, n => N[n]? = some .pt ∧ K[n]? = some []
  | .fc f, n => N[n]? = some (.fc f) ∧ K[n]? = some []
  | .nt a, n => N[n]? = some (.nt a) ∧ ∃ m : Nat, K[n]? = some [(m : Int)] ∧ At N K a m
  | .an a b, n => N[n]? = some (.an a b) ∧ ∃ m l : Nat, K[n]? = some [(m : Int), (l : Int)] ∧ At N K a m ∧ At N K b l
  | .or a b, n => N[n]? = some (.or a b) ∧ ∃ m l : Nat, K[n]? = some [(m : Int), (l : Int)] ∧ At N K a m ∧ At N K b l
  | .so w a, n => N[n]? = some (.so w a) ∧ ∃ m : Nat, K[n]? = some [(m : Int)] ∧ At N K a m
  | .al w a, n => N[n]? = some (.al w a) ∧ ∃ m : Nat, K[n]? = some [(m : Int)] ∧ At N K a m
theorem at_all : ∀ (s : Sy) (A C : List Sy) (B D : List (List Int)), A.length = B.length → At (A ++ s.all ++ C) (B ++ s.links A.length ++ D) s A.length := by
  intro s
  induction s with
  | pt => intro A C B D e; simp [At, all, links, e]
  | fc f => intro A C B D e; simp [At, all, links, e]
  | nt a ih =>
    intro A C B D e
    refine ⟨by simp [all], A.length + 1, by simp [links, e], ?_⟩
    have := ih (A ++ [.nt a]) C (B ++ [[((A.length + 1 : Nat) : Int)]]) D (by simp [e])
    simpa [all, links] using this
  | an a b ih1 ih2 =>
    intro A C B D e
    refine ⟨by simp [all], A.length + 1, A.length + 1 + a.size, by simp [links, e], ?_, ?_⟩
    · have := ih1 (A ++ [.an a b]) (b.all ++ C) (B ++ [[((A.length + 1 : Nat) : Int), ((A.length + 1 + a.size : Nat) : Int)]]) (b.links (A.length + 1 + a.size) ++ D) (by simp [e])
      simpa [all, links] using this
    · have := ih2 (A ++ [.an a b] ++ a.all) C (B ++ [[((A.length + 1 : Nat) : Int), ((A.length + 1 + a.size : Nat) : Int)]] ++ a.links (A.length + 1)) D (by simp [e, all_len, links_len])
      simpa [all, links, all_len, Nat.add_assoc, Nat.add_comm 1] using this
  | or a b ih1 ih2 =>
    intro A C B D e
    refine ⟨by simp [all], A.length + 1, A.length + 1 + a.size, by simp [links, e], ?_, ?_⟩
    · have := ih1 (A ++ [.or a b]) (b.all ++ C) (B ++ [[((A.length + 1 : Nat) : Int), ((A.length + 1 + a.size : Nat) : Int)]]) (b.links (A.length + 1 + a.size) ++ D) (by simp [e])
      simpa [all, links] using this
    · have := ih2 (A ++ [.or a b] ++ a.all) C (B ++ [[((A.length + 1 : Nat) : Int), ((A.length + 1 + a.size : Nat) : Int)]] ++ a.links (A.length + 1)) D (by simp [e, all_len, links_len])
      simpa [all, links, all_len, Nat.add_assoc, Nat.add_comm 1] using this
  | so w a ih =>
    intro A C B D e
    refine ⟨by simp [all], A.length + 1, by simp [links, e], ?_⟩
    have := ih (A ++ [.so w a]) C (B ++ [[((A.length + 1 : Nat) : Int)]]) D (by simp [e])
    simpa [all, links] using this
  | al w a ih =>
    intro A C B D e
    refine ⟨by simp [all], A.length + 1, by simp [links, e], ?_⟩
    have := ih (A ++ [.al w a]) C (B ++ [[((A.length + 1 : Nat) : Int)]]) D (by simp [e])
    simpa [all, links] using this
theorem at_get {N : List Sy} {K : List (List Int)} {s : Sy} {n : Nat} (a : At N K s n) : N[n]? = some s := by
  cases s <;> first | exact a | exact a.1
end Sy
end Z

set_option Elab.async false
set_option linter.all false
set_option maxRecDepth 100000
set_option autoImplicit false
set_option maxHeartbeats 1000000
/-! ZTC: what a teller tells. -/
namespace Z
open PySem
def tkey (n : Nat) (i j : Int) : NestedKey := .tup [.num n, .tup [.num i, .num j]]
theorem dkey_t {n : Nat} {i j : Int} : dkey (.tup [.int n, .tup [.int i, .int j]]) = some (tkey n i j) := by
  rfl
/-- what is known is right -/
def Kn (N : List Sy) (run : List (List Str)) (kvs : List (NestedKey × AV)) : Prop :=
  (∀ p ∈ kvs, ∃ n i j s, p.1 = tkey n i j ∧ (i, j) ∈ allSt run.length ∧ N[n]? = some s ∧ p.2 = .bl (mean run s i j)) ∧ (kvs.map (·.1)).Nodup
theorem Kn.nil {N : List Sy} {run : List (List Str)} : Kn N run [] := ⟨fun p hp => by simp at hp, by simp⟩
section
variable {N : List Sy} {run : List (List Str)} {kvs : List (NestedKey × AV)}
theorem Kn.fits (k : Kn N run kvs) {n : Nat} {i j : Int} : fits kvs (tkey n i j) = true := by
  unfold Z.fits
  rw [List.all_eq_true]
  intro p hp
  obtain ⟨n, i, j, s, e, _⟩ := k.1 p hp
  rw [e]
  rfl
theorem Kn.get (k : Kn N run kvs) {n : Nat} {i j : Int} {s : Sy} {v : AV} (hs : N[n]? = some s) (e : getN kvs (tkey n i j) = some v) : v = .bl (mean run s i j) := by
  unfold getN at e
  rw [Option.map_eq_some_iff] at e
  obtain ⟨p, e, rfl⟩ := e
  obtain ⟨n', i', j', s', e1, _, e2, e3⟩ := k.1 p (List.mem_of_find?_eq_some e)
  have e4 := List.find?_some e
  simp only [decide_eq_true_eq] at e4
  rw [e1] at e4
  unfold tkey at e4
  simp only [NestedKey.tup.injEq, List.cons.injEq, NestedKey.num.injEq, and_true] at e4
  obtain ⟨h1, h2, h3⟩ := e4
  have h1 : n' = n := by omega
  subst h1 h2 h3
  rw [hs] at e2
  cases e2
  exact e3
theorem Kn.lt (k : Kn N run kvs) {n : Nat} : (AO.dct kvs).lt n := by
  intro p hp
  obtain ⟨_, _, _, _, _, _, _, e⟩ := k.1 p hp
  rw [e]
  simp [AV.lt]
theorem Kn.put (k : Kn N run kvs) {n : Nat} {i j : Int} {s : Sy} (hs : N[n]? = some s) (hi : (i, j) ∈ allSt run.length) : Kn N run (putN kvs (tkey n i j) (.bl (mean run s i j))) := by
  unfold putN
  split
  · refine ⟨fun p hp => ?_, ?_⟩
    · obtain ⟨p', m, rfl⟩ := List.mem_map.mp hp
      obtain ⟨n', i', j', s', e1, h2, e2, e3⟩ := k.1 p' m
      by_cases z : p'.1 = tkey n i j
      · rw [if_pos z]
        exact ⟨n, i, j, s, z, hi, hs, rfl⟩
      · rw [if_neg z]
        exact ⟨n', i', j', s', e1, h2, e2, e3⟩
    · have : (kvs.map fun p => if p.1 = tkey n i j then (p.1, AV.bl (mean run s i j)) else p).map (·.1) = kvs.map (·.1) := by
        rw [List.map_map]
        refine List.map_congr_left fun p _ => ?_
        by_cases z : p.1 = tkey n i j <;> simp [z]
      rw [this]
      exact k.2
  · rename_i z
    refine ⟨fun p hp => ?_, ?_⟩
    · rcases List.mem_append.mp hp with m | m
      · exact k.1 p m
      · rw [List.mem_singleton.mp m]
        exact ⟨n, i, j, s, rfl, hi, hs, rfl⟩
    · rw [List.map_append, List.nodup_append]
      refine ⟨k.2, by simp, fun x hx y hy => ?_⟩
      simp only [List.map_cons, List.map_nil, List.mem_singleton] at hy
      subst hy
      intro e
      subst e
      obtain ⟨p, hp, e⟩ := List.mem_map.mp hx
      exact z (List.any_eq_true.mpr ⟨p, hp, by simpa using e⟩)
theorem Kn.len (k : Kn N run kvs) (hr : run.length ≤ 60) (hN : N.length ≤ 1000) : kvs.length < big := by
  have h1 := nodup_len (m := (List.range N.length).flatMap fun n => (allSt run.length).map fun p => tkey n p.1 p.2) k.2 fun x hx => by
    obtain ⟨p, hp, rfl⟩ := List.mem_map.mp hx
    obtain ⟨n, i, j, s, e, h2, h3, _⟩ := k.1 p hp
    refine List.mem_flatMap.mpr ⟨n, List.mem_range.mpr (List.getElem?_eq_some_iff.mp h3).1, List.mem_map.mpr ⟨(i, j), h2, e.symm⟩⟩
  have h2 : ∀ m : Nat, ((List.range m).flatMap fun n => (allSt run.length).map fun p => tkey n p.1 p.2).length = m * (allSt run.length).length := by
    intro m
    induction m with
    | zero => simp
    | succ m ih => rw [List.range_succ, List.flatMap_append, List.length_append, ih]; simp [Nat.add_mul]
  rw [h2, List.length_map] at h1
  have h3 := allSt_len run.length
  have h4 : run.length * run.length ≤ 60 * 60 := Nat.mul_le_mul hr hr
  have h5 : N.length * (allSt run.length).length ≤ 1000 * 3600 := Nat.mul_le_mul hN (by omega)
  unfold big
  omega
end
/-- a teller in the heap -/
structure TSt (h : AH) (p a b d : Nat) (run : List (List Str)) (N : List Sy) (K : List (List Int)) (kvs : List (NestedKey × AV)) : Prop where
  ins : h[p]? = some (.ins "Teller" [("run", .tup (encC run)), ("every", .lst ((allSt run.length).map En.av)), ("nodes", .ref a), ("kids", .ref b), ("known", .ref d)])
  nodes : h[a]? = some (.lst (N.map Sy.av))
  kids : h[b]? = some (.lst (K.map fun k => .lst (encI k)))
  known : h[d]? = some (.dct kvs)
  kn : Kn N run kvs
section
variable {T : Tb} {h : AH} {X : Ex → AH → Prop} {p a b d : Nat} {run : List (List Str)} {N : List Sy} {K : List (List Int)} {kvs : List (NestedKey × AV)}
theorem TSt.set (t : TSt h p a b d run N K kvs) {kvs' : List (NestedKey × AV)} (k : Kn N run kvs') : TSt (h.set d (.dct kvs')) p a b d run N K kvs' := by
  have hd := (List.getElem?_eq_some_iff.mp t.known).1
  have ne : ∀ {x : Nat} {o : AO}, h[x]? = some o → (∀ l, o ≠ .dct l) → (h.set d (.dct kvs'))[x]? = some o := fun {x o} e n => by
    rw [List.getElem?_set_ne]
    · exact e
    · intro z
      subst z
      rw [t.known] at e
      cases e
      exact n _ rfl
  exact ⟨ne t.ins (fun _ z => by cases z), ne t.nodes (fun _ z => by cases z), ne t.kids (fun _ z => by cases z), by rw [List.getElem?_set_self hd], k⟩
theorem TSt.same (t : TSt h p a b d run N K kvs) : h.set d (.dct kvs) = h := by
  obtain ⟨hd, e⟩ := List.getElem?_eq_some_iff.mp t.known
  rw [← e]
  exact List.set_getElem_self hd
theorem TSt.node (t : TSt h p a b d run N K kvs) {n : Nat} {s : Sy} (e : N[n]? = some s) : ixV h (.ref a) (.int n) = some s.av := ix_a t.nodes (by simp [e])
theorem TSt.kid (t : TSt h p a b d run N K kvs) {n : Nat} {k : List Int} (e : K[n]? = some k) : ixV h (.ref b) (.int n) = some (.lst (encI k)) := ix_a t.kids (by simp [e])
theorem TSt.fR (t : TSt h p a b d run N K kvs) : fldV "Teller" "run" (.ref p) h = some (.tup (encC run)) := fld_a t.ins rfl
theorem TSt.fE (t : TSt h p a b d run N K kvs) : fldV "Teller" "every" (.ref p) h = some (.lst ((allSt run.length).map En.av)) := fld_a t.ins rfl
theorem TSt.fN (t : TSt h p a b d run N K kvs) : fldV "Teller" "nodes" (.ref p) h = some (.ref a) := fld_a t.ins rfl
theorem TSt.fK (t : TSt h p a b d run N K kvs) : fldV "Teller" "kids" (.ref p) h = some (.ref b) := fld_a t.ins rfl
theorem TSt.fD (t : TSt h p a b d run N K kvs) : fldV "Teller" "known" (.ref p) h = some (.ref d) := fld_a t.ins rfl
theorem TSt.iT (t : TSt h p a b d run N K kvs) : insV "Teller" "tells" (.ref p) h = some () := ins_a t.ins rfl
theorem TSt.iW (t : TSt h p a b d run N K kvs) : insV "Teller" "worked" (.ref p) h = some () := ins_a t.ins rfl
theorem TSt.notIn (t : TSt h p a b d run N K kvs) {n : Nat} {i j : Int} : cmpV h .notIn (.tup [.int n, .tup [.int i, .int j]]) (.ref d) = some (getN kvs (tkey n i j)).isNone := by
  show (match getS h (.ref d) with | some ys => (inV h _ ys).map (!·) | none => (getD h (.ref d)).bind fun kvs => (dgetA kvs (.tup [.int n, .tup [.int i, .int j]])).map fun (o : Option AV) => !o.isSome) = _
  have e1 : getS h (.ref d) = none := by simp [getS, getL, t.known]
  have e2 : getD h (.ref d) = some kvs := by simp [getD, t.known]
  rw [e1]
  simp only [e2, Option.bind_some, dgetA, dkey_t, t.kn.fits, if_true, Option.map_some]
  cases getN kvs (tkey n i j) <;> rfl
theorem TSt.got (t : TSt h p a b d run N K kvs) {n : Nat} {i j : Int} {v : AV} (e : getN kvs (tkey n i j) = some v) : ixV h (.ref d) (.tup [.int n, .tup [.int i, .int j]]) = some v := by
  have e2 : getD h (.ref d) = some kvs := by simp [getD, t.known]
  show dixV h (.ref d) (.tup [.int n, .tup [.int i, .int j]]) = _
  simp [dixV, e2, dgetA, dkey_t, t.kn.fits, e]
theorem TSt.put (t : TSt h p a b d run N K kvs) {n : Nat} {i j : Int} {v : AV} (l : kvs.length < big) : setA (.ref d) (.tup [.int n, .tup [.int i, .int j]]) v h = some (.ok () (h.set d (.dct (putN kvs (tkey n i j) v)))) := by
  simp only [setA, t.known, dkey_t, t.kn.fits, l, and_self, if_true]
/-- telling, when working out is right -/
theorem tell_of (e1 : T.df ("Teller" ++ "." ++ "tells") = some d_Ttells) (hr : run.length ≤ 60) (hN : N.length ≤ 1000) {s : Sy} {M n : Nat} {i j : Int} (t : TSt h p a b d run N K kvs) {Q : AV → AH → Prop} (hs : N[n]? = some s) (hi : (i, j) ∈ allSt run.length)
    (w : ∀ (Q : AV → AH → Prop) (X : Ex → AH → Prop), (∀ kvs', Kn N run kvs' → Q (.bl (mean run s i j)) (h.set d (.dct kvs'))) → wp (callN T M false ("Teller" ++ "." ++ "worked") [.ref p, .int n, En.av (i, j)]) Q X h)
    (q : ∀ kvs', Kn N run kvs' → Q (.bl (mean run s i j)) (h.set d (.dct kvs'))) : wp (callN T (M + 1) false ("Teller" ++ "." ++ "tells") [.ref p, .int n, En.av (i, j)]) Q X h := by
  refine wp_call e1 rfl ?_
  have t2 : 2 ≤ big := by unfold big; omega
  simp [d_Ttells, av_pr, t2, t.fD, t.notIn, t.iW]
  cases g : getN kvs (tkey n i j) with
  | some v =>
    have := t.kn.get hs g
    subst this
    simp [t.fD, t.got g, t2]
    refine end_same (by simp [AV.lt]) ?_
    have := q _ t.kn
    rwa [t.same] at this
  | none =>
    simp
    refine w _ _ fun kvs' k' => ?_
    have t' := t.set k'
    simp [t'.fD, t2]
    rw [wp_eq (t'.put (k'.len hr hN))]
    simp only [List.set_set]
    have k2 := k'.put hs hi
    have t3 := t.set k2
    have g2 : getN (putN kvs' (tkey n i j) (.bl (mean run s i j))) (tkey n i j) = some (.bl (mean run s i j)) := by rw [getN_put, if_pos rfl]
    simp [t3.fD, t3.got g2, t2]
    exact end_set k2.lt (by simp [AV.lt]) (q _ k2)
/-- the teller's loop through the stretches -/
theorem tloop_ok (e3 : T.df "is_reached" = some d_reach1) (e4 : T.df "is_beside" = some d_beside) {s : Sy} {w : Str} {i j : Int} {M m : Nat} {b1 : Bool} {P : Fl → AEnv → AH → Prop} {ρ : AEnv} {o1 : Option AV} {hd : AV} (t : TSt h p a b d run N K kvs)
    (hw : w ∈ ways) (hM : 2 ≤ M) (hρ : ρ = [some (.ref p), o1, some (.tup [.int i, .int j]), some (.tup [hd, .str w, s.av]), some (.lst [.int m]), some (.bl b1), none, none])
    (ih : ∀ (i j : Int) (h : AH) (kvs : List (NestedKey × AV)) (Q : AV → AH → Prop) (X : Ex → AH → Prop), TSt h p a b d run N K kvs → (i, j) ∈ allSt run.length → (∀ kvs', Kn N run kvs' → Q (.bl (mean run s i j)) (h.set d (.dct kvs'))) → wp (callN T M false ("Teller" ++ "." ++ "tells") [.ref p, .int m, En.av (i, j)]) Q X h)
    (q1 : ∀ ρ' kvs', Kn N run kvs' → (allSt run.length).any (hit run s w b1 i j) = true → P (.rt (.bl b1)) ρ' (h.set d (.dct kvs')))
    (q2 : ∀ o kvs', Kn N run kvs' → (allSt run.length).any (hit run s w b1 i j) = false → P .nx (ρ.set 6 o) (h.set d (.dct kvs'))) :
    wpS (forL (fun x ρ => bindT (.var 6) x ρ) (fun ρ => (sv T (callN T M) (.seq (.ite (.band (.cons (.call false "is_reached" (.cons (.idx (.var 3) (.int 1)) (.cons (.var 2) (.cons (.var 6) (.nil))))) (.cons (.cmp .eq (.mcl false "Teller" "tells" (.var 0) (.cons (.idx (.var 4) (.int 0)) (.cons (.var 6) (.nil)))) (.var 5)) (.nil)))) (.seq (.ret (.var 5))
(.nil)) (.nil))
(.nil))).s ρ) (stands (.lst ((allSt run.length).map En.av)) ((allSt run.length).map En.av)) ((allSt run.length).map En.av) ρ) P h := by
  subst hρ
  have e0 : ∀ (h : AH) (a : AV) (r : List AV), ixV h (.lst (a :: r)) (.int 0) = some a := fun _ _ _ => ix_l0
  refine w_for (v := .lst ((allSt run.length).map En.av)) (fun u ρ h' => ∃ kv2, Kn N run kv2 ∧ h' = h.set d (.dct kv2) ∧ (∃ o, ρ = [some (.ref p), o1, some (.tup [.int i, .int j]), some (.tup [hd, .str w, s.av]), some (.lst [.int m]), some (.bl b1), o, none]) ∧ noHit run s w b1 i j u) ⟨kvs, t.kn, t.same.symm, ⟨_, rfl⟩, by simp [noHit]⟩ (fun _ _ _ _ => stands_free (fun _ z => nomatch z) fun _ _ z => nomatch z) (fun u x ρ h' e hi => ?_) (fun ρ h' hi => ?_)
  · obtain ⟨kv2, k2, rfl, ⟨o, rfl⟩, no⟩ := hi
    have t2 := t.set k2
    rw [List.getElem?_map, Option.map_eq_some_iff] at e
    obtain ⟨x, e, rfl⟩ := e
    have hx := List.mem_of_getElem? e
    obtain ⟨M, rfl⟩ : ∃ m, M = m + 1 + 1 := ⟨M - 2, by omega⟩
    rw [bind_var, if_pos (by simp), onS_some]
    simp [e0, t2.iT]
    refine reach1_ok (i := i) (j := j) (a := x.1) (b := x.2) e3 e4 ?_
    rw [tB_bl]
    by_cases g : goB w i j x.1 x.2 = true
    · rw [if_pos g]
      rw [t2.iT, onS_some]
      refine ih x.1 x.2 _ kv2 _ _ t2 hx fun kv3 k3 => ?_
      rw [k_eqB, onS_some, List.set_set]
      by_cases z : mean run s x.1 x.2 = b1
      · rw [if_pos (by simpa using z)]
        exact q1 _ _ k3 (List.any_eq_true.mpr ⟨x, hx, by simp [hit, g, z]⟩)
      · rw [if_neg (by simpa using z)]
        exact ⟨kv3, k3, rfl, noHit_succ e no (by simp [hit, z])⟩
    · rw [if_neg g]
      exact ⟨kv2, k2, rfl, noHit_succ e no (by simp [hit, g])⟩
  · obtain ⟨kv2, k2, rfl, ⟨o, rfl⟩, no⟩ := hi
    unfold noHit at no
    rw [List.length_map, List.take_length] at no
    exact q2 o _ k2 no
theorem tells_ok (e1 : T.df ("Teller" ++ "." ++ "tells") = some d_Ttells) (e2 : T.df ("Teller" ++ "." ++ "worked") = some d_Twork) (e3 : T.df "is_reached" = some d_reach1) (e4 : T.df "is_beside" = some d_beside) (hr : run.length ≤ 60) (hN : N.length ≤ 1000) : ∀ (s : Sy) (M n : Nat) (i j : Int) (h : AH) (kvs : List (NestedKey × AV)) (Q : AV → AH → Prop) (X : Ex → AH → Prop), TSt h p a b d run N K kvs → s.ok → s.At N K n → (i, j) ∈ allSt run.length → 2 * s.dep + 4 ≤ M →
    (∀ kvs', Kn N run kvs' → Q (.bl (mean run s i j)) (h.set d (.dct kvs'))) → wp (callN T M false ("Teller" ++ "." ++ "tells") [.ref p, .int n, En.av (i, j)]) Q X h := by
  have e0 : ∀ (h : AH) (a : AV) (r : List AV), ixV h (.lst (a :: r)) (.int 0) = some a := fun _ _ _ => ix_l0
  have ix2 : 2 ≤ big := by unfold big; omega
  intro s
  induction s with
  | pt =>
    intro M n i j h kvs Q X t ok at' hi hM q
    obtain ⟨M, rfl⟩ : ∃ m, M = m + 1 + 1 := ⟨M - 2, by omega⟩
    obtain ⟨at', ek⟩ := at'
    simp only [Sy.dep] at hM
    refine tell_of e1 hr hN t at' hi (fun Q X q => ?_) q
    refine wp_call e2 rfl ?_
    simp (decide := true) [d_Twork, av_pr, t.fN, t.fK, t.fE, t.fR, t.node at', t.kid ek, t.iT, Sy.av, encI, e0, ix2]
    refine end_same (by simp [AV.lt]) ?_
    have := q _ t.kn
    rwa [t.same] at this
  | fc f =>
    intro M n i j h kvs Q X t ok at' hi hM q
    obtain ⟨M, rfl⟩ : ∃ m, M = m + 1 + 1 := ⟨M - 2, by omega⟩
    obtain ⟨at', ek⟩ := at'
    simp only [Sy.dep] at hM
    refine tell_of e1 hr hN t at' hi (fun Q X q => ?_) q
    refine wp_call e2 rfl ?_
    simp (decide := true) [d_Twork, av_pr, t.fN, t.fK, t.fE, t.fR, t.node at', t.kid ek, t.iT, Sy.av, encI, e0, ix2]
    have hs := mem_allSt.mp hi
    obtain ⟨i, rfl⟩ : ∃ k : Nat, i = k := ⟨i.toNat, by omega⟩
    obtain ⟨j, rfl⟩ : ∃ k : Nat, j = k := ⟨j.toNat, by omega⟩
    have es : slV h (.tup (encC run)) (some (i : Int)) (some ((j : Int) + 1)) = some (.tup (encC ((run.drop i).take (j + 1 - i)))) := by
      show some (AV.tup (cut (encC run) (some (i : Int)) (some ((j : Int) + 1)))) = _
      rw [show ((j : Int) + 1) = ((j + 1 : Nat) : Int) by omega, cut_mid]
      simp [encC, List.map_take, List.map_drop]
    rw [es, onS_some, it_tup, onS_some]
    refine ⟨by rw [encC_len, List.length_take, List.length_drop]; unfold big; omega, ?_⟩
    refine comp_map (enc := fun (x : List Str) => AV.tup (encS x)) (l := (run.drop i).take (j + 1 - i)) (f := fun x => .bl (decide (f ∈ x))) (stands_free (fun _ z => nomatch z) fun _ _ z => nomatch z) (fun x hx => ?_) ?_
    · simp
    · rw [b_allM, onS_some]
      refine end_same (by simp [AV.lt]) ?_
      have := q _ t.kn
      rw [t.same] at this
      have e5 : ((run.drop i).take (j + 1 - i)).all (fun x => decide (f ∈ x)) = mean run (.fc f) i j := by
        unfold mean
        rw [Bool.eq_iff_iff, List.all_eq_true, List.all_eq_true]
        have tn : ((j : Int) + 1 - (i : Int)).toNat = j + 1 - i := by omega
        have hl : ((run.drop i).take (j + 1 - i)).length = j + 1 - i := by
          rw [List.length_take, List.length_drop]; omega
        have g : ∀ k, k < j + 1 - i → ((run.drop i).take (j + 1 - i))[k]? = some (run[(i : Int).toNat + k]?.getD []) := fun k hk => by
          rw [List.getElem?_take_of_lt hk, List.getElem?_drop]
          have : i + k < run.length := by omega
          simp [this]
        rw [tn]
        constructor
        · intro z k hk
          exact z _ (List.mem_of_getElem? (g k (List.mem_range.mp hk)))
        · intro z x hx
          obtain ⟨k, hk, rfl⟩ := List.getElem_of_mem hx
          have gk := g k (by omega)
          rw [List.getElem?_eq_getElem hk] at gk
          rw [Option.some.inj gk]
          exact z k (List.mem_range.mpr (by omega))
      rw [e5]
      exact this
  | nt a ih =>
    intro M n i j h kvs Q X t ok at' hi hM q
    obtain ⟨M, rfl⟩ : ∃ m, M = m + 1 + 1 := ⟨M - 2, by omega⟩
    obtain ⟨at', m, ek, am⟩ := at'
    simp only [Sy.dep] at hM
    refine tell_of e1 hr hN t at' hi (fun Q X q => ?_) q
    refine wp_call e2 rfl ?_
    simp (decide := true) [d_Twork, av_pr, t.fN, t.fK, t.fE, t.fR, t.node at', t.kid ek, t.iT, Sy.av, encI, e0, ix2]
    refine ih M m i j h kvs _ _ t ok am hi (by omega) fun kvs' k' => ?_
    exact end_set k'.lt (by simp [AV.lt]) (q _ k')
  | an a b ih1 ih2 =>
    intro M n i j h kvs Q X t ok at' hi hM q
    obtain ⟨M, rfl⟩ : ∃ m, M = m + 1 + 1 := ⟨M - 2, by omega⟩
    obtain ⟨at', m, l, ek, am, bl⟩ := at'
    simp only [Sy.dep] at hM
    refine tell_of e1 hr hN t at' hi (fun Q X q => ?_) q
    refine wp_call e2 rfl ?_
    simp (decide := true) [d_Twork, av_pr, t.fN, t.fK, t.fE, t.fR, t.node at', t.kid ek, t.iT, Sy.av, encI, e0, ix2]
    refine ih1 M m i j h kvs _ _ t ok.1 am hi (by omega) fun kvs' k' => ?_
    have t' := t.set k'
    rw [tB_bl]
    by_cases z : mean run a i j = true
    · rw [if_pos z]
      rw [t'.iT, onS_some]
      refine ih2 M l i j _ kvs' _ _ t' ok.2 bl hi (by omega) fun kv2 k2 => ?_
      rw [List.set_set]
      exact end_set k2.lt (by simp [AV.lt]) (by simpa [mean, z] using q _ k2)
    · rw [if_neg z]
      exact end_set k'.lt (by simp [AV.lt]) (by simpa [mean, z] using q _ k')
  | or a b ih1 ih2 =>
    intro M n i j h kvs Q X t ok at' hi hM q
    obtain ⟨M, rfl⟩ : ∃ m, M = m + 1 + 1 := ⟨M - 2, by omega⟩
    obtain ⟨at', m, l, ek, am, bl⟩ := at'
    simp only [Sy.dep] at hM
    refine tell_of e1 hr hN t at' hi (fun Q X q => ?_) q
    refine wp_call e2 rfl ?_
    simp (decide := true) [d_Twork, av_pr, t.fN, t.fK, t.fE, t.fR, t.node at', t.kid ek, t.iT, Sy.av, encI, e0, ix2]
    refine ih1 M m i j h kvs _ _ t ok.1 am hi (by omega) fun kvs' k' => ?_
    have t' := t.set k'
    rw [tB_bl]
    by_cases z : mean run a i j = true
    · simp only [z, if_true]
      exact end_set k'.lt (by simp [AV.lt]) (by simpa [mean, z] using q _ k')
    · simp only [z, if_false]
      rw [t'.iT, onS_some]
      refine ih2 M l i j _ kvs' _ _ t' ok.2 bl hi (by omega) fun kv2 k2 => ?_
      rw [List.set_set]
      exact end_set k2.lt (by simp [AV.lt]) (by simpa [mean, z] using q _ k2)
  | so w a ih =>
    intro M n i j h kvs Q X t ok at' hi hM q
    obtain ⟨M, rfl⟩ : ∃ m, M = m + 1 + 1 := ⟨M - 2, by omega⟩
    obtain ⟨at', m, ek, am⟩ := at'
    simp only [Sy.dep] at hM
    refine tell_of e1 hr hN t at' hi (fun Q X q => ?_) q
    refine wp_call e2 rfl ?_
    simp (decide := true) [d_Twork, av_pr, t.fN, t.fK, t.fE, t.fR, t.node at', t.kid ek, t.iT, Sy.av, encI, e0, ix2]
    refine tloop_ok (b1 := true) e3 e4 t ok.1 (by omega) rfl (fun i j h kvs Q X t hi q => ih M m i j h kvs Q X t ok.2 am hi (by omega) q) (fun ρ' kv2 k2 hh => ?_) fun o kv2 k2 hh => ?_
    · refine end_set (ρ := ρ') k2.lt (by simp [AV.lt]) ?_
      have := q _ k2
      rw [show mean run (.so w a) i j = true from (mean_so).trans hh] at this
      exact this
    · rw [thenS_nx]
      simp (decide := true)
      refine end_set k2.lt (by simp [AV.lt]) ?_
      have := q _ k2
      rw [show mean run (.so w a) i j = false from (mean_so).trans hh] at this
      exact this
  | al w a ih =>
    intro M n i j h kvs Q X t ok at' hi hM q
    obtain ⟨M, rfl⟩ : ∃ m, M = m + 1 + 1 := ⟨M - 2, by omega⟩
    obtain ⟨at', m, ek, am⟩ := at'
    simp only [Sy.dep] at hM
    refine tell_of e1 hr hN t at' hi (fun Q X q => ?_) q
    refine wp_call e2 rfl ?_
    simp (decide := true) [d_Twork, av_pr, t.fN, t.fK, t.fE, t.fR, t.node at', t.kid ek, t.iT, Sy.av, encI, e0, ix2]
    refine tloop_ok (b1 := false) e3 e4 t ok.1 (by omega) rfl (fun i j h kvs Q X t hi q => ih M m i j h kvs Q X t ok.2 am hi (by omega) q) (fun ρ' kv2 k2 hh => ?_) fun o kv2 k2 hh => ?_
    · refine end_set (ρ := ρ') k2.lt (by simp [AV.lt]) ?_
      have := q _ k2
      rw [show mean run (.al w a) i j = false from (mean_al).trans (by rw [hh]; rfl)] at this
      exact this
    · rw [thenS_nx]
      simp (decide := true)
      refine end_set k2.lt (by simp [AV.lt]) ?_
      have := q _ k2
      rw [show mean run (.al w a) i j = true from (mean_al).trans (by rw [hh]; rfl)] at this
      exact this
end
end Z

set_option Elab.async false
set_option linter.all false
set_option maxRecDepth 100000
set_option autoImplicit false
set_option maxHeartbeats 1000000
/-! ZTD: a teller is made; holds. -/
namespace Z
open PySem
theorem sy_pure : ∀ s : Sy, s.av.pure = true
  | .pt => rfl
  | .fc _ => rfl
  | .nt a => by simp [Sy.av, AV.pure, pureAll, sy_pure a]
  | .an a b => by simp [Sy.av, AV.pure, pureAll, sy_pure a, sy_pure b]
  | .or a b => by simp [Sy.av, AV.pure, pureAll, sy_pure a, sy_pure b]
  | .so _ a => by simp [Sy.av, AV.pure, pureAll, sy_pure a]
  | .al _ a => by simp [Sy.av, AV.pure, pureAll, sy_pure a]
theorem pureAll_of {l : List AV} (e : ∀ v ∈ l, v.pure = true) : pureAll l = true := by
  induction l with
  | nil => rfl
  | cons v l ih => simp [pureAll, e v List.mem_cons_self, ih fun w hw => e w (List.mem_cons_of_mem _ hw)]
theorem sys_lt {n : Nat} {N : List Sy} : (AO.lst (N.map Sy.av)).lt n := pureAll_lt (pureAll_of fun v hv => by
  obtain ⟨s, _, rfl⟩ := List.mem_map.mp hv
  exact sy_pure s)
theorem ks_lt {n : Nat} {K : List (List Int)} : (AO.lst (K.map fun k => .lst (encI k))).lt n := pureAll_lt (pureAll_of fun v hv => by
  obtain ⟨s, _, rfl⟩ := List.mem_map.mp hv
  show pureAll (encI s) = true
  exact pureAll_of fun v hv => by
    obtain ⟨s, _, rfl⟩ := List.mem_map.mp hv
    rfl)
def Sy.rest : Sy → List AV
  | .pt => []
  | .fc f => [.str f]
  | .nt a => [a.av]
  | .an a b => [a.av, b.av]
  | .or a b => [a.av, b.av]
  | .so w a => [.str w, a.av]
  | .al w a => [.str w, a.av]
def isTup : AV → Bool
  | .tup _ => true
  | _ => false
theorem isTup_sy (s : Sy) : isTup s.av = true := by cases s <;> rfl
theorem rest_filt (s : Sy) : s.rest.filter isTup = s.kids.map Sy.av := by
  have st : ∀ f : Str, isTup (.str f) = false := fun _ => rfl
  cases s <;> simp [Sy.rest, Sy.kids, isTup_sy, st]
theorem sy_rest (s : Sy) : ∃ w, s.av = .tup (.str w :: s.rest) := by cases s <;> exact ⟨_, rfl⟩
section
variable {T : Tb} {h : AH} {X : Ex → AH → Prop}
theorem parts_ok (e : T.df "parts_of" = some d_parts) {s : Sy} {n : Nat} {Q : AV → AH → Prop} (q : Q (.lst (s.kids.map Sy.av)) h) : wp (callN T (n + 1) false "parts_of" [s.av]) Q X h := by
  obtain ⟨w, ew⟩ := sy_rest s
  rw [ew]
  refine wp_call e rfl ?_
  have es : slV h (.tup (.str w :: s.rest)) (some 1) none = some (.tup s.rest) := by
    show some (AV.tup (cut (.str w :: s.rest) (some 1) none)) = _
    rw [show (1 : Int) = ((1 : Nat) : Int) from rfl]
    unfold cut
    rw [HT.sIx_none, show HT.sIx _ 0 (some ((1 : Nat) : Int)) = _ from HT.sIx_nat _ _ _]
    have : min 1 (AV.str w :: s.rest).length = 1 := by simp
    rw [this, List.drop_one, List.tail_cons, List.length_cons, Nat.add_sub_cancel, List.take_length]
  simp [d_parts, es]
  have hl : s.rest.length ≤ 2 := by cases s <;> simp [Sy.rest]
  refine ⟨by unfold big; omega, ?_⟩
  refine comp_filt0 (R := callN T n) (p := isTup) (stands_free (fun _ z => nomatch z) fun _ _ z => nomatch z) (fun v hv => onS_of rfl ?_) ?_
  · have : isTup v = true ∨ ∃ f, v = .str f := by
      cases s <;> simp [Sy.rest] at hv <;> first | (subst hv; first | exact .inl (isTup_sy _) | exact .inr ⟨_, rfl⟩) | (rcases hv with rfl | rfl <;> first | exact .inl (isTup_sy _) | exact .inr ⟨_, rfl⟩)
    rcases this with z | ⟨f, rfl⟩
    · obtain ⟨xs, rfl⟩ : ∃ xs, v = .tup xs := by cases v <;> first | exact ⟨_, rfl⟩ | cases z
      simp [isTup, show isB h (.tup xs) ["tuple"] = some true from rfl]
    · simp [isTup, show isB h (.str f) ["tuple"] = some false from rfl]
  · rw [rest_filt]
    exact end_same (pureAll_lt (pureAll_of fun v hv => by
      obtain ⟨s, _, rfl⟩ := List.mem_map.mp hv
      exact sy_pure s)) q
end
def tupd (h : AH) (a b : Nat) (N : List Sy) (K : List (List Int)) : AH := (h.set a (.lst (N.map Sy.av))).set b (.lst (K.map fun k => .lst (encI k)))
/-- a teller that is being made -/
structure TA (h : AH) (p a b d : Nat) (run : List (List Str)) (N : List Sy) (K : List (List Int)) : Prop where
  ins : h[p]? = some (.ins "Teller" [("run", .tup (encC run)), ("every", .lst ((allSt run.length).map En.av)), ("nodes", .ref a), ("kids", .ref b), ("known", .ref d)])
  nodes : h[a]? = some (.lst (N.map Sy.av))
  kids : h[b]? = some (.lst (K.map fun k => .lst (encI k)))
  ne : a ≠ b
section
variable {T : Tb} {h : AH} {X : Ex → AH → Prop} {p a b d : Nat} {run : List (List Str)} {N N' : List Sy} {K K' : List (List Int)}
theorem TA.la (t : TA h p a b d run N K) : a < h.length := (List.getElem?_eq_some_iff.mp t.nodes).1
theorem TA.lb (t : TA h p a b d run N K) : b < h.length := (List.getElem?_eq_some_iff.mp t.kids).1
theorem TA.pa (t : TA h p a b d run N K) : a ≠ p := fun z => by
  have := t.ins
  rw [← z, t.nodes] at this
  cases this
theorem TA.pb (t : TA h p a b d run N K) : b ≠ p := fun z => by
  have := t.ins
  rw [← z, t.kids] at this
  cases this
theorem TA.upd (t : TA h p a b d run N K) : TA (tupd h a b N' K') p a b d run N' K' := by
  unfold tupd
  refine ⟨?_, ?_, ?_, t.ne⟩
  · rw [List.getElem?_set_ne t.pb, List.getElem?_set_ne t.pa]
    exact t.ins
  · rw [List.getElem?_set_ne t.ne.symm, List.getElem?_set_self t.la]
  · rw [List.getElem?_set_self (by rw [List.length_set]; exact t.lb)]
theorem tupd_set (ne : a ≠ b) : tupd (tupd h a b N K) a b N' K' = tupd h a b N' K' := by
  unfold tupd
  rw [List.set_comm _ _ ne, List.set_set, List.set_comm _ _ ne.symm, List.set_set]
theorem TA.same (t : TA h p a b d run N K) : tupd h a b N K = h := by
  unfold tupd
  obtain ⟨h1, e1⟩ := List.getElem?_eq_some_iff.mp t.nodes
  obtain ⟨h2, e2⟩ := List.getElem?_eq_some_iff.mp t.kids
  rw [← e1, List.set_getElem_self, ← e2, List.set_getElem_self]
theorem TA.fN (t : TA h p a b d run N K) : fldV "Teller" "nodes" (.ref p) h = some (.ref a) := fld_a t.ins rfl
theorem TA.fK (t : TA h p a b d run N K) : fldV "Teller" "kids" (.ref p) h = some (.ref b) := fld_a t.ins rfl
theorem TA.iA (t : TA h p a b d run N K) : insV "Teller" "add" (.ref p) h = some () := ins_a t.ins rfl
theorem nums_snoc {k : Sy} : ∀ {ks : List Sy} {n : Nat}, Sy.nums (ks ++ [k]) n = Sy.nums ks n ++ [((n + (ks.map Sy.size).sum : Nat) : Int)]
  | [], n => by simp [Sy.nums]
  | x :: ks, n => by simp [Sy.nums, nums_snoc (ks := ks), Nat.add_assoc]
theorem linksL_snoc {k : Sy} : ∀ {ks : List Sy} {n : Nat}, Sy.linksL (ks ++ [k]) n = Sy.linksL ks n ++ k.links (n + (ks.map Sy.size).sum)
  | [], n => by simp [Sy.linksL]
  | x :: ks, n => by simp [Sy.linksL, linksL_snoc (ks := ks), Nat.add_assoc]
theorem all_lenL : ∀ {ks : List Sy}, (ks.flatMap Sy.all).length = (ks.map Sy.size).sum
  | [] => rfl
  | k :: ks => by simp [Sy.all_len, all_lenL (ks := ks)]
theorem linksL_len : ∀ {ks : List Sy} {n : Nat}, (Sy.linksL ks n).length = (ks.map Sy.size).sum
  | [], _ => rfl
  | k :: ks, n => by simp [Sy.linksL, Sy.links_len, linksL_len (ks := ks)]
theorem set_same {o : AO} (e : h[a]? = some o) : h.set a o = h := by
  obtain ⟨h1, e1⟩ := List.getElem?_eq_some_iff.mp e
  rw [← e1, List.set_getElem_self]
theorem TA.put1 (t : TA h p a b d run N K) {s : Sy} : h.set a (.lst (N.map Sy.av ++ [s.av])) = tupd h a b (N ++ [s]) K := by
  unfold tupd
  rw [List.map_append, List.map_cons, List.map_nil]
  refine (set_same ?_).symm
  rw [List.getElem?_set_ne t.ne]
  exact t.kids
theorem put2 {k : List Int} : (tupd h a b N K).set b (.lst ((K.map fun k => .lst (encI k)) ++ [.lst (encI k)])) = tupd h a b N (K ++ [k]) := by
  unfold tupd
  rw [List.set_set, List.map_append, List.map_cons, List.map_nil]
theorem add_ok (e1 : T.df ("Teller" ++ "." ++ "add") = some d_Tadd) (e2 : T.df "parts_of" = some d_parts) : ∀ (D : Nat) (s : Sy) (M : Nat) (h : AH) (N : List Sy) (K : List (List Int)) (Q : AV → AH → Prop) (X : Ex → AH → Prop), s.dep < D → D + 1 ≤ M → TA h p a b d run N K → N.length = K.length → N.length + s.size ≤ 1000 →
    Q (.int N.length) (tupd h a b (N ++ s.all) (K ++ s.links N.length)) → wp (callN T M false ("Teller" ++ "." ++ "add") [.ref p, s.av]) Q X h := by
  intro D
  induction D with
  | zero => intro s M h N K Q X hs; exact absurd hs (Nat.not_lt_zero _)
  | succ D ih =>
    intro s M h N K Q X hs hM t hl hz q
    obtain ⟨M, rfl⟩ : ∃ m, M = m + 1 + 1 := ⟨M - 2, by omega⟩
    have t2 : 2 ≤ big := by unfold big; omega
    refine wp_call e1 rfl ?_
    simp [d_Tadd, t.fN, len_a t.nodes, pre_a t.nodes]
    rw [wp_eq (put_a t.nodes (by rw [List.length_map]; unfold big; omega)), t.put1]
    have t1 := t.upd (N' := N ++ [s]) (K' := K)
    rw [t1.fK, onS_some, pre_a t1.kids, onS_some]
    rw [wp_eq (put_a t1.kids (by rw [List.length_map]; unfold big; omega))]
    rw [show (AV.lst [] : AV) = .lst (encI []) from rfl, put2]
    have t3 := t.upd (N' := N ++ [s]) (K' := K ++ [[]])
    refine parts_ok e2 ?_
    rw [it_lst, onS_some]
    have kl : s.kids.length ≤ 2 := by cases s <;> simp [Sy.kids]
    refine ⟨by rw [List.length_map]; unfold big; omega, ?_⟩
    refine w_compL (v := .lst (s.kids.map Sy.av)) (I := fun i acc h' => acc = encI (Sy.nums (s.kids.take i) (N.length + 1)) ∧ h' = tupd h a b (N ++ s :: (s.kids.take i).flatMap Sy.all) (K ++ [] :: Sy.linksL (s.kids.take i) (N.length + 1))) ⟨by simp [Sy.nums, encI], by simp [Sy.linksL]⟩ (fun _ _ _ _ => stands_free (fun _ z => nomatch z) fun _ _ z => nomatch z) (fun i x acc h' e hi => ?_) (fun acc h' hi => ?_)
    · obtain ⟨rfl, rfl⟩ := hi
      rw [List.getElem?_map, Option.map_eq_some_iff] at e
      obtain ⟨k, e, rfl⟩ := e
      have t4 := t.upd (N' := N ++ s :: (s.kids.take i).flatMap Sy.all) (K' := K ++ [] :: Sy.linksL (s.kids.take i) (N.length + 1))
      have hk := List.mem_of_getElem? e
      have hd := Sy.kid_dep hk
      have hsz : ((s.kids.take i).map Sy.size).sum + k.size + 1 ≤ s.size := by
        rw [Sy.kid_size s]
        have h1 : s.kids = s.kids.take i ++ k :: s.kids.drop (i + 1) := by
          obtain ⟨hi, ek⟩ := List.getElem?_eq_some_iff.mp e
          rw [← ek, List.getElem_cons_drop, List.take_append_drop]
        have h2 : (s.kids.map Sy.size).sum = ((s.kids.take i).map Sy.size).sum + (k.size + ((s.kids.drop (i + 1)).map Sy.size).sum) := by
          conv => lhs; rw [h1]
          simp
        omega
      have ln : (N ++ s :: (s.kids.take i).flatMap Sy.all).length = N.length + 1 + ((s.kids.take i).map Sy.size).sum := by
        rw [List.length_append, List.length_cons, all_lenL]; omega
      have lk : (K ++ [] :: Sy.linksL (s.kids.take i) (N.length + 1)).length = N.length + 1 + ((s.kids.take i).map Sy.size).sum := by
        rw [List.length_append, List.length_cons, linksL_len]; omega
      rw [onS_some]
      simp [t4.iA]
      refine ih k (M + 1) _ _ _ _ _ (by omega) (by omega) t4 (by rw [ln, lk]) (by rw [ln]; omega) ?_
      rw [tupd_set t.ne, ln, List.take_add_one, e]
      refine ⟨?_, ?_⟩
      · simp only [Option.toList_some, nums_snoc]
        simp [encI]
      · simp only [Option.toList_some, linksL_snoc]
        simp
    · obtain ⟨rfl, rfl⟩ := hi
      rw [List.length_map, List.take_length]
      have t4 := t.upd (N' := N ++ s :: s.kids.flatMap Sy.all) (K' := K ++ [] :: Sy.linksL s.kids (N.length + 1))
      rw [t4.fK, onS_some]
      rw [wp_eq (sub_a t4.kids (by rw [List.length_map, List.length_append, List.length_cons]; omega))]
      have e5 : (tupd h a b (N ++ s :: s.kids.flatMap Sy.all) (K ++ [] :: Sy.linksL s.kids (N.length + 1))).set b (.lst (((K ++ [] :: Sy.linksL s.kids (N.length + 1)).map fun k => .lst (encI k)).set N.length (.lst (encI (Sy.nums s.kids (N.length + 1)))))) = tupd h a b (N ++ s.all) (K ++ s.links N.length) := by
        unfold tupd
        rw [List.set_set, ← Sy.all_kids, Sy.links_kids s N.length]
        congr 2
        rw [List.map_append, List.map_cons, List.set_append_right _ _ (by rw [List.length_map]; omega)]
        rw [List.length_map, hl, Nat.sub_self, List.set_cons_zero, List.map_append, List.map_cons]
      rw [e5]
      exact end_set2 sys_lt ks_lt (by simp [AV.lt]) q
end
end Z

set_option Elab.async false
set_option linter.all false
set_option maxRecDepth 100000
set_option autoImplicit false
set_option maxHeartbeats 1000000
/-! ZTE: a teller is made; holds. -/
namespace Z
open PySem
/-- the table has the teller -/
structure TT (T : Tb) : Prop where
  parts : T.df "parts_of" = some d_parts
  reach : T.df "is_reached" = some d_reach1
  beside : T.df "is_beside" = some d_beside
  strof : T.df "stretches_of" = some d_strof
  add : T.df ("Teller" ++ "." ++ "add") = some d_Tadd
  tells : T.df ("Teller" ++ "." ++ "tells") = some d_Ttells
  worked : T.df ("Teller" ++ "." ++ "worked") = some d_Twork
  no : T.df "Teller" = none
  cls : T.cls "Teller" = true
  init : T.df ("Teller" ++ ".__init__") = some d_Tinit
def tlr (n : Nat) (run : List (List Str)) (N : List Sy) (K : List (List Int)) : AH := [.ins "Teller" [("run", .tup (encC run)), ("every", .lst ((allSt run.length).map En.av)), ("nodes", .ref (n + 1)), ("kids", .ref (n + 2)), ("known", .ref (n + 3))], .lst (N.map Sy.av), .lst (K.map fun k => .lst (encI k)), .dct []]
section
variable {T : Tb} {h : AH} {X : Ex → AH → Prop} {run : List (List Str)} {s : Sy}
theorem att_l {C f : Str} {v : AV} {fs : List (Str × AV)} {r : AH} (l : fs.length < 1000) : attA C f (.ref h.length) v (h ++ .ins C fs :: r) = some (.ok () (h ++ .ins C (putA f v fs) :: r)) := by
  have e : (h ++ .ins C fs :: r)[h.length]? = some (.ins C fs) := by simp
  simp only [attA, e, l, and_self, if_true]
  congr 2
  simp
theorem fld_l {C f : Str} {v : AV} {fs : List (Str × AV)} {r : AH} (e : fs.lookup f = some v) : fldV C f (.ref h.length) (h ++ .ins C fs :: r) = some v := fld_a (by simp) e
theorem ins_l {C m : Str} {fs : List (Str × AV)} {r : AH} (e : fs.lookup m = none) : insV C m (.ref h.length) (h ++ .ins C fs :: r) = some () := ins_a (by simp) e
theorem tlr_ta {N : List Sy} {K : List (List Int)} {r : AH} : TA (h ++ (tlr h.length run N K ++ r)) h.length (h.length + 1) (h.length + 2) (h.length + 3) run N K := by
  refine ⟨?_, ?_, ?_, by omega⟩
  · simp [tlr]
  · rw [at_r]; rfl
  · rw [at_r]; rfl
theorem tlr_tst {N : List Sy} {K : List (List Int)} {r : AH} : TSt (h ++ (tlr h.length run N K ++ r)) h.length (h.length + 1) (h.length + 2) (h.length + 3) run N K [] := by
  refine ⟨?_, ?_, ?_, ?_, Kn.nil⟩
  · simp [tlr]
  · rw [at_r]; rfl
  · rw [at_r]; rfl
  · rw [at_r]; rfl
theorem new_ok (τ : TT T) {M : Nat} {tr : Bool} {Q : AV → AH → Prop} (hr : run.length ≤ 60) (hs : s.size ≤ 1000) (hM : s.dep + 5 ≤ M) (q : Q (.ref h.length) (h ++ tlr h.length run s.all (s.links 0))) : wp (callN T M tr "Teller" [.tup (encC run), s.av]) Q X h := by
  obtain ⟨M, rfl⟩ : ∃ m, M = m + 1 + 1 + 1 := ⟨M - 3, by omega⟩
  have p1 : ∀ v : AV, putA "run" v ([] : List (Str × AV)) = ([("run", v)] : List (Str × AV)) := fun _ => rfl
  have p2 : ∀ v w : AV, putA "every" w ([("run", v)] : List (Str × AV)) = ([("run", v), ("every", w)] : List (Str × AV)) := fun _ _ => rfl
  have p3 : ∀ v w x : AV, putA "nodes" x ([("run", v), ("every", w)] : List (Str × AV)) = ([("run", v), ("every", w), ("nodes", x)] : List (Str × AV)) := fun _ _ _ => rfl
  have p4 : ∀ v w x y : AV, putA "kids" y ([("run", v), ("every", w), ("nodes", x)] : List (Str × AV)) = ([("run", v), ("every", w), ("nodes", x), ("kids", y)] : List (Str × AV)) := fun _ _ _ _ => rfl
  have p5 : ∀ v w x y z : AV, putA "known" z ([("run", v), ("every", w), ("nodes", x), ("kids", y)] : List (Str × AV)) = ([("run", v), ("every", w), ("nodes", x), ("kids", y), ("known", z)] : List (Str × AV)) := fun _ _ _ _ _ => rfl
  have ll : ∀ (o : AO) (r : AH), (h ++ o :: r).length = h.length + (r.length + 1) := fun o r => by simp
  refine wp_new τ.no τ.cls ?_
  refine wp_call τ.init rfl ?_
  simp only [d_Tinit]
  rw [s_seqS, s_attS]
  simp
  rw [wp_eq (att_l (by decide)), p1]
  refine strof_ok τ.strof (by rw [encC_len]; omega) ?_
  rw [wp_eq (att_l (by simp)), p2]
  simp only [List.append_assoc, List.cons_append, List.nil_append, ll]
  rw [wp_eq (att_l (by simp)), p3]
  simp only [List.append_assoc, List.cons_append, List.nil_append, ll]
  rw [wp_eq (att_l (by simp)), p4]
  simp only [List.append_assoc, List.cons_append, List.nil_append, ll]
  rw [wp_eq (att_l (by simp)), p5]
  rw [ins_l rfl, onS_some]
  have e0 : (h ++ AO.ins "Teller" [("run", .tup (encC run)), ("every", .lst ((allSt (encC run).length).map En.av)), ("nodes", .ref (h.length + (([] : AH).length + 1))), ("kids", .ref (h.length + ([AO.lst []].length + 1))), ("known", .ref (h.length + ([AO.lst [], AO.lst []].length + 1)))] :: [.lst [], .lst [], .dct []]) = h ++ (tlr h.length run [] [] ++ []) := by
    rw [encC_len]
    rfl
  rw [e0]
  refine add_ok τ.add τ.parts (s.dep + 1) s (M + 1) _ [] [] _ _ (by omega) (by omega) tlr_ta rfl (by simpa using hs) ?_
  have e6 : tupd (h ++ (tlr h.length run [] [] ++ [])) (h.length + 1) (h.length + 2) ([] ++ s.all) ([] ++ s.links ([] : List Sy).length) = h ++ tlr h.length run s.all (s.links 0) := by
    unfold tupd
    rw [set_r, set_r]
    rfl
  rw [e6]
  have np : ¬ okPre (h ++ [AO.ins "Teller" []]) (h ++ tlr h.length run s.all (s.links 0)) := by
    intro ok
    have := ok.2 h.length (by simp)
    rcases this with z | ⟨o, z, l⟩
    · simp [tlr] at z
    · have e7 : (h ++ tlr h.length run s.all (s.links 0))[h.length]? = some (.ins "Teller" [("run", .tup (encC run)), ("every", .lst ((allSt run.length).map En.av)), ("nodes", .ref (h.length + 1)), ("kids", .ref (h.length + 2)), ("known", .ref (h.length + 3))]) := by simp [tlr]
      rw [e7] at z
      cases z
      have := l ("nodes", .ref (h.length + 1)) (by simp)
      simp [AV.lt] at this
  show onO _ _ (fin false _ .non _)
  unfold fin
  rw [if_neg np]
  exact q
theorem holds_ok (τ : TT T) (e : T.df "holds" = some d_holds) {M : Nat} {i j : Int} {Q : AV → AH → Prop} (hr : run.length ≤ 60) (hs : s.size ≤ 1000) (ok : s.ok) (hM : 2 * s.dep + 6 ≤ M)
    (q1 : (i, j) ∈ allSt run.length → Q (.bl (mean run s i j)) h) (q2 : (i, j) ∉ allSt run.length → X ⟨"NotAllowed"⟩ h) : wp (callN T M false "holds" [.tup (encC run), s.av, .int i, .int j]) Q X h := by
  obtain ⟨M, rfl⟩ : ∃ m, M = m + 1 := ⟨M - 1, by omega⟩
  refine wp_call e rfl ?_
  simp only [d_holds]
  rw [mem_allSt] at q1 q2
  by_cases c : 0 ≤ i ∧ i ≤ j ∧ j < run.length
  · have t2 : 2 ≤ big := by unfold big; omega
    simp [c.1, c.2.1, c.2.2, encC_len, t2]
    refine new_ok τ hr hs (by omega) ?_
    have t := tlr_tst (h := h) (run := run) (N := s.all) (K := s.links 0) (r := [])
    rw [List.append_nil] at t
    rw [t.iT, onS_some]
    have at' := Sy.at_all s [] [] [] [] rfl
    simp only [List.nil_append, List.append_nil, List.length_nil] at at'
    refine tells_ok τ.tells τ.worked τ.reach τ.beside hr (by rw [Sy.all_len]; exact hs) s M 0 i j _ [] _ _ t ok at' (mem_allSt.mpr c) (by omega) fun kvs' k' => ?_
    rw [set_r]
    show onO _ _ (fin false h (.bl _) _)
    rw [fin_app (by simp [AV.lt])]
    exact q1 c
  · by_cases c1 : 0 ≤ i
    · by_cases c2 : i ≤ j
      · have c3 : ¬ j < run.length := fun z => c ⟨c1, c2, z⟩
        simp [c1, c2, c3, encC_len]
        exact end_exc (q2 c)
      · simp [c1, c2, encC_len]
        exact end_exc (q2 c)
    · simp [c1, encC_len]
      exact end_exc (q2 c)
end
end Z

set_option Elab.async false
set_option linter.all false
set_option maxRecDepth 100000
set_option autoImplicit false
set_option maxHeartbeats 1000000
/-! ZTF: sayings as they are drawn. -/
namespace Z
open PySem
/-- its facts are of these -/
def Sy.inF (fs : List Str) : Sy → Prop
  | .pt => True
  | .fc f => f ∈ fs
  | .nt a => a.inF fs
  | .an a b => a.inF fs ∧ b.inF fs
  | .or a b => a.inF fs ∧ b.inF fs
  | .so _ a => a.inF fs
  | .al _ a => a.inF fs
/-- the table draws sayings -/
structure TW (T : Tb) : Prop where
  next : T.df "_law_next" = some d_next
  way : T.df "_law_way" = some d_way
  saying : T.df "_law_saying" = some d_saying
section
variable {T : Tb} {h g : AH} {X : Ex → AH → Prop} {ms : List Int} {fs : List Str}
theorem way_ok (τ : TW T) (D : Drw ms) {n k : Nat} {Q : AV → AH → Prop} (s : St ms n g h) (hn : n < 2 ^ 49) (q : ∀ w h', w ∈ ways → St ms (n + 1) g h' → Q (.str w) h') : wp (callN T (k + 1 + 1) false "_law_way" [.ref 0]) Q X h := by
  refine wp_call τ.way rfl ?_
  simp only [d_way]
  simp
  repeat (refine ⟨by (try simp only [Z.encS_len, Z.encI_len, Z.encC_len, Z.encR_len, List.length_append, List.length_cons, List.length_nil, List.length_map]); unfold Z.big; omega, ?_⟩)
  refine draw_ok τ.next D s (by omega) (by decide) fun x hx h3 s3 => ?_
  refine pick_lst (by simp; omega) fun v hv => ?_
  obtain ⟨w, hw, rfl⟩ : ∃ w, w ∈ ways ∧ v = .str w := by
    simp only [List.mem_cons, List.not_mem_nil, or_false] at hv
    rcases hv with rfl | rfl | rfl | rfl | rfl | rfl | rfl | rfl | rfl | rfl | rfl | rfl <;> exact ⟨_, by decide, rfl⟩
  exact end_st0 s s3 rfl fun h2 s2 => q w h2 hw s2
theorem saying_ok (τ : TW T) (D : Drw ms) (hf : 0 < fs.length) (hf2 : fs.length ≤ 100) : ∀ (room : Nat) (M n : Nat) (deep : Int) (h : AH) (Q : AV → AH → Prop) (X : Ex → AH → Prop), St ms n g h → n + 5 * room < 2 ^ 48 → room + 4 ≤ M →
    (∀ sy h', Sy.ok sy → sy.inF fs → sy.size ≤ max 1 room → St ms (n + 5 * max 1 room) g h' → Q sy.av h') → wp (callN T M false "_law_saying" [.ref 0, .tup (encS fs), .int room, .int deep]) Q X h := by
  intro room
  induction room using Nat.strongRecOn with
  | ind room ih =>
    intro M n deep h Q X s hn hM q
    obtain ⟨M, rfl⟩ : ∃ m, M = m + 1 + 1 + 1 := ⟨M - 3, by omega⟩
    refine wp_call τ.saying rfl ?_
    simp only [d_saying]
    simp
    refine draw_ok τ.next D s (by omega) (by decide) fun x hx h1 s1 => ?_
    by_cases c1 : room ≤ 1
    · rw [if_pos (by omega)]
      rw [encS_len]
      refine draw_ok τ.next D s1 (by omega) (by omega) fun y hy h2 s2 => ?_
      rw [show ixV h2 (.tup (encS fs)) (.int y) = some (.str (fs[y]?.getD (Str.ofString ""))) from ix_tupN (encS_at (get_getD (by omega))), onS_some]
      repeat (refine ⟨by (try simp only [Z.encS_len, Z.encI_len, Z.encC_len, Z.encR_len, List.length_append, List.length_cons, List.length_nil, List.length_map]); unfold Z.big; omega, ?_⟩)
      refine draw_ok τ.next D s2 (by omega) (by decide) fun z hz h3 s3 => ?_
      simp
      have fin : (fs[y]?.getD (Str.ofString "")) ∈ fs := by
        have : y < fs.length := by omega
        simp [this]
      by_cases z0 : z = 0
      · simp [z0]
        exact end_st0 (v := .tup _) s s3 rfl fun h2 s2 => q .pt h2 trivial trivial (by simp only [Sy.size]; omega) (s2.mono (by omega))
      · simp [z0]
        exact end_st0 (v := .tup _) s s3 rfl fun h2 s2 => q (.fc _) h2 trivial fin (by simp only [Sy.size]; omega) (s2.mono (by omega))
    rw [if_neg (by omega), k_eqI, onS_some]
    by_cases c2 : x = 0
    · rw [if_pos (by simp [c2])]
      rw [encS_len]
      refine draw_ok τ.next D s1 (by omega) (by omega) fun y hy h2 s2 => ?_
      rw [show ixV h2 (.tup (encS fs)) (.int y) = some (.str (fs[y]?.getD (Str.ofString ""))) from ix_tupN (encS_at (get_getD (by omega))), onS_some]
      repeat (refine ⟨by (try simp only [Z.encS_len, Z.encI_len, Z.encC_len, Z.encR_len, List.length_append, List.length_cons, List.length_nil, List.length_map]); unfold Z.big; omega, ?_⟩)
      refine draw_ok τ.next D s2 (by omega) (by decide) fun z hz h3 s3 => ?_
      simp
      have fin : (fs[y]?.getD (Str.ofString "")) ∈ fs := by
        have : y < fs.length := by omega
        simp [this]
      by_cases z0 : z = 0
      · simp [z0]
        exact end_st0 (v := .tup _) s s3 rfl fun h2 s2 => q .pt h2 trivial trivial (by simp only [Sy.size]; omega) (s2.mono (by omega))
      · simp [z0]
        exact end_st0 (v := .tup _) s s3 rfl fun h2 s2 => q (.fc _) h2 trivial fin (by simp only [Sy.size]; omega) (s2.mono (by omega))
    rw [if_neg (by simp [c2])]
    have hr : 2 ≤ room := by omega
    rw [k_lt, onS_some]
    by_cases c3 : x < 6
    · rw [if_pos (by simp; omega)]
      by_cases c4 : 0 < deep
      · rw [if_pos c4]
        repeat (refine ⟨by (try simp only [Z.encS_len, Z.encI_len, Z.encC_len, Z.encR_len, List.length_append, List.length_cons, List.length_nil, List.length_map]); unfold Z.big; omega, ?_⟩)
        refine draw_ok τ.next D s1 (by omega) (by decide) fun y hy h2 s2 => ?_
        have fin : ∀ (w : Str) (sy : Sy) (h4 : AH) (n' : Nat) (b : Bool) ρ, w ∈ ways → sy.ok → sy.inF fs → sy.size ≤ max 1 (room - 1) → n' ≤ n + 5 * max 1 room → St ms n' g h4 → endC false h Q X (.rt (.tup [.str (if b then "some" else "all"), .str w, sy.av])) ρ h4 := fun w sy h4 n' b ρ hw ok inf sz hn' s4 => by
          cases b
          · exact end_st0 (v := .tup _) s s4 (sy_pure (.al w sy)) fun h3 s3 => q (.al w sy) h3 ⟨hw, ok⟩ inf (by simp only [Sy.size]; omega) (s3.mono hn')
          · exact end_st0 (v := .tup _) s s4 (sy_pure (.so w sy)) fun h3 s3 => q (.so w sy) h3 ⟨hw, ok⟩ inf (by simp only [Sy.size]; omega) (s3.mono hn')
        have e3 : ixV h2 (.lst [.str "some", .str "all"]) (.int y) = some (.str (if (decide (y = 0)) then "some" else "all")) := by
          have : y = 0 ∨ y = 1 := by omega
          rcases this with rfl | rfl <;> simp
        rw [e3, onS_some]
        refine way_ok τ D s2 (by omega) fun w h3 hw s3 => ?_
        rw [show ((room : Int) - 1) = ((room - 1 : Nat) : Int) by omega]
        refine ih (room - 1) (by omega) (M + 2) _ _ h3 _ _ s3 (by omega) (by omega) fun sy h4 ok inf sz s4 => ?_
        repeat (refine ⟨by (try simp only [Z.encS_len, Z.encI_len, Z.encC_len, Z.encR_len, List.length_append, List.length_cons, List.length_nil, List.length_map]); unfold Z.big; omega, ?_⟩)
        exact fin w sy h4 _ _ _ hw ok inf sz (by omega) s4
      · rw [if_neg c4]
        rw [k_lt, onS_some]
        by_cases c6 : x < 8
        · rw [if_pos (by simp; omega)]
          rw [show ((room : Int) - 1) = ((room - 1 : Nat) : Int) by omega]
          refine ih (room - 1) (by omega) (M + 2) _ deep h1 _ _ s1 (by omega) (by omega) fun sy h2 ok inf sz s2 => ?_
          repeat (refine ⟨by (try simp only [Z.encS_len, Z.encI_len, Z.encC_len, Z.encR_len, List.length_append, List.length_cons, List.length_nil, List.length_map]); unfold Z.big; omega, ?_⟩)
          exact end_st0 (v := .tup _) s s2 (sy_pure (.nt sy)) fun h3 s3 => q (.nt sy) h3 ok inf (by simp only [Sy.size]; omega) (s3.mono (by omega))
        · rw [if_neg (by simp; omega)]
          by_cases c5 : room = 2
          · rw [if_pos (by omega)]
            rw [show ((room : Int) - 1) = ((room - 1 : Nat) : Int) by omega]
            refine ih (room - 1) (by omega) (M + 2) _ deep h1 _ _ s1 (by omega) (by omega) fun sy h2 ok inf sz s2 => ?_
            repeat (refine ⟨by (try simp only [Z.encS_len, Z.encI_len, Z.encC_len, Z.encR_len, List.length_append, List.length_cons, List.length_nil, List.length_map]); unfold Z.big; omega, ?_⟩)
            exact end_st0 (v := .tup _) s s2 (sy_pure (.nt sy)) fun h3 s3 => q (.nt sy) h3 ok inf (by simp only [Sy.size]; omega) (s3.mono (by omega))
          · rw [if_neg (by omega)]
            refine draw_ok τ.next D s1 (by omega) (by omega) fun y hy h2 s2 => ?_
            rw [o_add, onS_some, show (1 : Int) + (y : Int) = ((1 + y : Nat) : Int) by omega]
            refine ih (1 + y) (by omega) (M + 2) _ deep h2 _ _ s2 (by omega) (by omega) fun sa h3 oka infa sza s3 => ?_
            repeat (refine ⟨by (try simp only [Z.encS_len, Z.encI_len, Z.encC_len, Z.encR_len, List.length_append, List.length_cons, List.length_nil, List.length_map]); unfold Z.big; omega, ?_⟩)
            rw [o_mod (by decide), onS_some]
            have e3 : ixV h3 (.lst [.str "and", .str "or"]) (.int ((x : Int) % 2)) = some (.str (if (decide (x % 2 = 0)) then "and" else "or")) := by
              have : x % 2 = 0 ∨ x % 2 = 1 := by omega
              rcases this with z | z
              · rw [show ((x : Int) % 2) = 0 by omega]; simp [z]
              · rw [show ((x : Int) % 2) = 1 by omega]; simp [z]
            rw [e3, onS_some, o_sub, onS_some]
            have e4 : bfV h3 .max2 [.int 1, .int ((room : Int) - 1 - ((1 + y : Nat) : Int))] = some (.int ((room - 2 - y : Nat) : Int)) := by
              show some (AV.int (if (room : Int) - 1 - ((1 + y : Nat) : Int) > 1 then (room : Int) - 1 - ((1 + y : Nat) : Int) else 1)) = _
              congr 2
              split <;> omega
            rw [e4, onS_some]
            refine ih (room - 2 - y) (by omega) (M + 2) _ deep h3 _ _ s3 (by omega) (by omega) fun sb h4 okb infb szb s4 => ?_
            repeat (refine ⟨by (try simp only [Z.encS_len, Z.encI_len, Z.encC_len, Z.encR_len, List.length_append, List.length_cons, List.length_nil, List.length_map]); unfold Z.big; omega, ?_⟩)
            have fin : ∀ (b : Bool) ρ, endC false h Q X (.rt (.tup [.str (if b then "and" else "or"), sa.av, sb.av])) ρ h4 := fun b ρ => by
              cases b
              · exact end_st0 (v := .tup _) s s4 (sy_pure (.or sa sb)) fun h3 s3 => q (.or sa sb) h3 ⟨oka, okb⟩ ⟨infa, infb⟩ (by simp only [Sy.size]; omega) (s3.mono (by omega))
              · exact end_st0 (v := .tup _) s s4 (sy_pure (.an sa sb)) fun h3 s3 => q (.an sa sb) h3 ⟨oka, okb⟩ ⟨infa, infb⟩ (by simp only [Sy.size]; omega) (s3.mono (by omega))
            exact fin _ _
    · rw [if_neg (by simp; omega)]
      rw [k_lt, onS_some]
      by_cases c6 : x < 8
      · rw [if_pos (by simp; omega)]
        rw [show ((room : Int) - 1) = ((room - 1 : Nat) : Int) by omega]
        refine ih (room - 1) (by omega) (M + 2) _ deep h1 _ _ s1 (by omega) (by omega) fun sy h2 ok inf sz s2 => ?_
        repeat (refine ⟨by (try simp only [Z.encS_len, Z.encI_len, Z.encC_len, Z.encR_len, List.length_append, List.length_cons, List.length_nil, List.length_map]); unfold Z.big; omega, ?_⟩)
        exact end_st0 (v := .tup _) s s2 (sy_pure (.nt sy)) fun h3 s3 => q (.nt sy) h3 ok inf (by simp only [Sy.size]; omega) (s3.mono (by omega))
      · rw [if_neg (by simp; omega)]
        by_cases c5 : room = 2
        · rw [if_pos (by omega)]
          rw [show ((room : Int) - 1) = ((room - 1 : Nat) : Int) by omega]
          refine ih (room - 1) (by omega) (M + 2) _ deep h1 _ _ s1 (by omega) (by omega) fun sy h2 ok inf sz s2 => ?_
          repeat (refine ⟨by (try simp only [Z.encS_len, Z.encI_len, Z.encC_len, Z.encR_len, List.length_append, List.length_cons, List.length_nil, List.length_map]); unfold Z.big; omega, ?_⟩)
          exact end_st0 (v := .tup _) s s2 (sy_pure (.nt sy)) fun h3 s3 => q (.nt sy) h3 ok inf (by simp only [Sy.size]; omega) (s3.mono (by omega))
        · rw [if_neg (by omega)]
          refine draw_ok τ.next D s1 (by omega) (by omega) fun y hy h2 s2 => ?_
          rw [o_add, onS_some, show (1 : Int) + (y : Int) = ((1 + y : Nat) : Int) by omega]
          refine ih (1 + y) (by omega) (M + 2) _ deep h2 _ _ s2 (by omega) (by omega) fun sa h3 oka infa sza s3 => ?_
          repeat (refine ⟨by (try simp only [Z.encS_len, Z.encI_len, Z.encC_len, Z.encR_len, List.length_append, List.length_cons, List.length_nil, List.length_map]); unfold Z.big; omega, ?_⟩)
          rw [o_mod (by decide), onS_some]
          have e3 : ixV h3 (.lst [.str "and", .str "or"]) (.int ((x : Int) % 2)) = some (.str (if (decide (x % 2 = 0)) then "and" else "or")) := by
            have : x % 2 = 0 ∨ x % 2 = 1 := by omega
            rcases this with z | z
            · rw [show ((x : Int) % 2) = 0 by omega]; simp [z]
            · rw [show ((x : Int) % 2) = 1 by omega]; simp [z]
          rw [e3, onS_some, o_sub, onS_some]
          have e4 : bfV h3 .max2 [.int 1, .int ((room : Int) - 1 - ((1 + y : Nat) : Int))] = some (.int ((room - 2 - y : Nat) : Int)) := by
            show some (AV.int (if (room : Int) - 1 - ((1 + y : Nat) : Int) > 1 then (room : Int) - 1 - ((1 + y : Nat) : Int) else 1)) = _
            congr 2
            split <;> omega
          rw [e4, onS_some]
          refine ih (room - 2 - y) (by omega) (M + 2) _ deep h3 _ _ s3 (by omega) (by omega) fun sb h4 okb infb szb s4 => ?_
          repeat (refine ⟨by (try simp only [Z.encS_len, Z.encI_len, Z.encC_len, Z.encR_len, List.length_append, List.length_cons, List.length_nil, List.length_map]); unfold Z.big; omega, ?_⟩)
          have fin : ∀ (b : Bool) ρ, endC false h Q X (.rt (.tup [.str (if b then "and" else "or"), sa.av, sb.av])) ρ h4 := fun b ρ => by
            cases b
            · exact end_st0 (v := .tup _) s s4 (sy_pure (.or sa sb)) fun h3 s3 => q (.or sa sb) h3 ⟨oka, okb⟩ ⟨infa, infb⟩ (by simp only [Sy.size]; omega) (s3.mono (by omega))
            · exact end_st0 (v := .tup _) s s4 (sy_pure (.an sa sb)) fun h3 s3 => q (.an sa sb) h3 ⟨oka, okb⟩ ⟨infa, infb⟩ (by simp only [Sy.size]; omega) (s3.mono (by omega))
          exact fin _ _
end
end Z

set_option Elab.async false
set_option linter.all false
set_option maxRecDepth 100000
set_option autoImplicit false
set_option maxHeartbeats 1000000
/-! ZTG: sayings and runs, shown. -/
namespace Z
open PySem
def Sy.dt : Sy → PyData
  | .pt => .tuple [.str "point"]
  | .fc f => .tuple [.str "fact", .str f]
  | .nt a => .tuple [.str "not", a.dt]
  | .an a b => .tuple [.str "and", a.dt, b.dt]
  | .or a b => .tuple [.str "or", a.dt, b.dt]
  | .so w a => .tuple [.str "some", .str w, a.dt]
  | .al w a => .tuple [.str "all", .str w, a.dt]
theorem sy_shw {fs : List Str} (hf : ∀ x ∈ fs, PyData.strOk x = true ∧ x.length ≤ 8) : ∀ {s : Sy}, s.inF fs → s.ok → dat s.av = some s.dt ∧ s.dt.depth ≤ s.size + 2 ∧ s.dt.bulk ≤ 40 * s.size := by
  have k1 : PyData.strOk (Str.ofString "point") = true := by decide +kernel
  have k2 : PyData.strOk (Str.ofString "fact") = true := by decide +kernel
  have k3 : PyData.strOk (Str.ofString "not") = true := by decide +kernel
  have k4 : PyData.strOk (Str.ofString "and") = true := by decide +kernel
  have k5 : PyData.strOk (Str.ofString "or") = true := by decide +kernel
  have k6 : PyData.strOk (Str.ofString "some") = true := by decide +kernel
  have k7 : PyData.strOk (Str.ofString "all") = true := by decide +kernel
  have l1 : (Str.ofString "point").cps.size = 5 := by decide +kernel
  have l2 : (Str.ofString "fact").cps.size = 4 := by decide +kernel
  have l3 : (Str.ofString "not").cps.size = 3 := by decide +kernel
  have l4 : (Str.ofString "and").cps.size = 3 := by decide +kernel
  have l5 : (Str.ofString "or").cps.size = 2 := by decide +kernel
  have l6 : (Str.ofString "some").cps.size = 4 := by decide +kernel
  have l7 : (Str.ofString "all").cps.size = 3 := by decide +kernel
  have kw : ∀ w ∈ ways, PyData.strOk w = true ∧ w.length ≤ 10 := by decide +kernel
  intro s
  induction s with
  | pt => intro _ _; simp [Sy.av, Sy.dt, dat, datAll, k1, PyData.depth, PyData.depthAll, PyData.bulk, PyData.bulkAll, l1, Sy.size]
  | fc f =>
    intro i _
    have h1 := (hf f i).1
    have h2 : f.cps.size ≤ 8 := (hf f i).2
    simp [Sy.av, Sy.dt, dat, datAll, k2, h1, PyData.depth, PyData.depthAll, PyData.bulk, PyData.bulkAll, l2, Sy.size]
    omega
  | nt a ih =>
    intro i o
    obtain ⟨e, d, b⟩ := ih i o
    simp [Sy.av, Sy.dt, dat, datAll, k3, e, PyData.depth, PyData.depthAll, PyData.bulk, PyData.bulkAll, l3, Sy.size]
    omega
  | an a b ih1 ih2 =>
    intro i o
    obtain ⟨e, d, b⟩ := ih1 i.1 o.1
    obtain ⟨e2, d2, b2⟩ := ih2 i.2 o.2
    simp [Sy.av, Sy.dt, dat, datAll, k4, e, e2, PyData.depth, PyData.depthAll, PyData.bulk, PyData.bulkAll, l4, Sy.size]
    omega
  | or a b ih1 ih2 =>
    intro i o
    obtain ⟨e, d, b⟩ := ih1 i.1 o.1
    obtain ⟨e2, d2, b2⟩ := ih2 i.2 o.2
    simp [Sy.av, Sy.dt, dat, datAll, k5, e, e2, PyData.depth, PyData.depthAll, PyData.bulk, PyData.bulkAll, l5, Sy.size]
    omega
  | so w a ih =>
    intro i o
    obtain ⟨e, d, b⟩ := ih i o.2
    obtain ⟨w1, w2⟩ := kw w o.1
    have w3 : w.cps.size ≤ 10 := w2
    simp [Sy.av, Sy.dt, dat, datAll, k6, e, w1, PyData.depth, PyData.depthAll, PyData.bulk, PyData.bulkAll, l6, Sy.size]
    omega
  | al w a ih =>
    intro i o
    obtain ⟨e, d, b⟩ := ih i o.2
    obtain ⟨w1, w2⟩ := kw w o.1
    have w3 : w.cps.size ≤ 10 := w2
    simp [Sy.av, Sy.dt, dat, datAll, k7, e, w1, PyData.depth, PyData.depthAll, PyData.bulk, PyData.bulkAll, l7, Sy.size]
    omega
theorem Facts.plain {fs : List Str} (F : Facts fs) : ∀ x ∈ fs, PyData.strOk x = true ∧ x.length ≤ 8 := fun x hx => by
  obtain ⟨i, hi, e⟩ := List.getElem_of_mem hx
  have w := F.word i x (by rw [List.getElem?_eq_getElem hi, e])
  exact ⟨w.ok, w.len⟩
def rnD (run : List (List Str)) : PyData := .tuple (run.map sceneD)
theorem run_shw {fs : List Str} {run : List (List Str)} (hf : ∀ x ∈ fs, PyData.strOk x = true ∧ x.length ≤ 8) (hl : fs.length ≤ 10) (hr : ∀ s ∈ run, s.Sublist fs) : dat (.tup (encC run)) = some (rnD run) ∧ (rnD run).depth ≤ 3 ∧ (rnD run).bulk ≤ 91 * run.length := by
  have pl : ∀ s ∈ run, dat (.tup (encS s)) = some (sceneD s) ∧ (sceneD s).depth ≤ 2 ∧ (sceneD s).bulk ≤ 90 := fun s hs => scene_shw (fun x hx => hf x ((hr s hs).subset hx)) (Nat.le_trans (hr s hs).length_le hl)
  refine ⟨?_, ?_, ?_⟩
  · have := dat_map (xs := run) (f := fun s => AV.tup (encS s)) (g := sceneD) fun s hs => (pl s hs).1
    simp only [dat, encC, this]
    rfl
  · have := depth_map (xs := run) (g := sceneD) (B := 2) fun s hs => (pl s hs).2.1
    simp only [rnD, PyData.depth]
    omega
  · have := bulk_map (xs := run) (g := sceneD) (B := 90) fun s hs => (pl s hs).2.2
    simp only [rnD, PyData.bulk]
    omega
end Z

set_option Elab.async false
set_option linter.all false
set_option maxRecDepth 100000
set_option autoImplicit false
namespace K07
open PySem PySem.Spec PyProof.Rows L2 Z
def topS (i : Nat) : Stmt := PySem.Challenge.pw_spansay_k07_whole_ways_behind_ways.main.body.getD i (.Pass ⟨0, 0, 0, 0⟩)
def d_parts_of : Df := ⟨1, 2, (.seq (.ret (.comp [1] (.var 1) (.var 1) (.slc (.var 0) (.int 1) .non) (.isb (.var 1) ["tuple"])))
(.nil))⟩
def d_is_reached : Df := ⟨3, 7, (.seq (.asg (.cons (.var 3) (.cons (.var 4) .nil)) (.var 1))
(.seq (.asg (.cons (.var 5) (.cons (.var 6) .nil)) (.var 2))
(.seq (.ite (.cmp .eq (.var 0) (.str "begins")) (.seq (.ret (.band (.cons (.cmp .eq (.var 5) (.var 3)) (.cons (.cmp .lt (.var 6) (.var 4)) (.nil)))))
(.nil)) (.nil))
(.seq (.ite (.cmp .eq (.var 0) (.str "begun")) (.seq (.ret (.band (.cons (.cmp .eq (.var 5) (.var 3)) (.cons (.cmp .gt (.var 6) (.var 4)) (.nil)))))
(.nil)) (.nil))
(.seq (.ite (.cmp .eq (.var 0) (.str "ends")) (.seq (.ret (.band (.cons (.cmp .gt (.var 5) (.var 3)) (.cons (.cmp .eq (.var 6) (.var 4)) (.nil)))))
(.nil)) (.nil))
(.seq (.ite (.cmp .eq (.var 0) (.str "ended")) (.seq (.ret (.band (.cons (.cmp .lt (.var 5) (.var 3)) (.cons (.cmp .eq (.var 6) (.var 4)) (.nil)))))
(.nil)) (.nil))
(.seq (.ite (.cmp .eq (.var 0) (.str "during")) (.seq (.ret (.band (.cons (.cmp .lt (.var 3) (.var 5)) (.cons (.cmp .lt (.var 6) (.var 4)) (.nil)))))
(.nil)) (.nil))
(.seq (.ite (.cmp .eq (.var 0) (.str "around")) (.seq (.ret (.band (.cons (.cmp .lt (.var 5) (.var 3)) (.cons (.cmp .lt (.var 4) (.var 6)) (.nil)))))
(.nil)) (.nil))
(.seq (.ret (.call false "is_beside" (.cons (.var 0) (.cons (.var 1) (.cons (.var 2) (.nil))))))
(.nil))))))))))⟩
def d_is_beside : Df := ⟨3, 7, (.seq (.asg (.cons (.var 3) (.cons (.var 4) .nil)) (.var 1))
(.seq (.asg (.cons (.var 5) (.cons (.var 6) .nil)) (.var 2))
(.seq (.ite (.cmp .eq (.var 0) (.str "meets")) (.seq (.ret (.cmp .eq (.var 5) (.var 4)))
(.nil)) (.nil))
(.seq (.ite (.cmp .eq (.var 0) (.str "met")) (.seq (.ret (.cmp .eq (.var 6) (.var 3)))
(.nil)) (.nil))
(.seq (.ite (.cmp .eq (.var 0) (.str "later")) (.seq (.ret (.cmp .gt (.var 5) (.var 4)))
(.nil)) (.nil))
(.seq (.ite (.cmp .eq (.var 0) (.str "earlier")) (.seq (.ret (.cmp .lt (.var 6) (.var 3)))
(.nil)) (.nil))
(.seq (.ite (.cmp .eq (.var 0) (.str "overlaps")) (.seq (.ret (.chain (.var 3) (.lnk .lt (.var 5) (.lnk .le (.var 4) (.lnk .lt (.var 6) .nil)))))
(.nil)) (.nil))
(.seq (.ret (.chain (.var 5) (.lnk .lt (.var 3) (.lnk .le (.var 6) (.lnk .lt (.var 4) .nil)))))
(.nil)))))))))⟩
def d_stretches_of : Df := ⟨1, 3, (.seq (.ret (.comp2 [1, 2] [2] (.tup (.cons (.var 1) (.cons (.var 2) (.nil)))) (.var 1) (.rng (.cons (.var 0) (.nil))) (.var 2) (.rng (.cons (.var 1) (.cons (.var 0) (.nil)))) .nil))
(.nil))⟩
def d_holds : Df := ⟨4, 4, (.seq (.ite (.not (.chain (.int 0) (.lnk .le (.var 2) (.lnk .le (.var 3) (.lnk .lt (.bf .len (.cons (.var 0) (.nil))) .nil))))) (.seq (.raise "NotAllowed")
(.nil)) (.nil))
(.seq (.ret (.mcl false "Teller" "tells" (.call false "Teller" (.cons (.var 0) (.cons (.var 1) (.nil)))) (.cons (.int 0) (.cons (.tup (.cons (.var 2) (.cons (.var 3) (.nil)))) (.nil)))))
(.nil)))⟩
def d__law_same : Df := ⟨2, 3, (.seq (.ite (.cmp .isN (.var 1) (.non)) (.seq (.ret (.cmp .isN (.var 0) (.non)))
(.nil)) (.nil))
(.seq (.ite (.isb (.var 1) ["bool"]) (.seq (.ret (.band (.cons (.isb (.var 0) ["bool"]) (.cons (.cmp .eq (.var 0) (.var 1)) (.nil)))))
(.nil)) (.nil))
(.seq (.ite (.isb (.var 1) ["int"]) (.seq (.ret (.band (.cons (.isb (.var 0) ["int"]) (.cons (.not (.isb (.var 0) ["bool"])) (.cons (.cmp .eq (.var 0) (.var 1)) (.nil))))))
(.nil)) (.nil))
(.seq (.ite (.isb (.var 1) ["str"]) (.seq (.ret (.band (.cons (.isb (.var 0) ["str"]) (.cons (.cmp .eq (.var 0) (.var 1)) (.nil)))))
(.nil)) (.nil))
(.seq (.ite (.bor (.cons (.cmp .ne (.isb (.var 0) ["tuple"]) (.isb (.var 1) ["tuple"])) (.cons (.not (.isb (.var 0) ["tuple", "list"])) (.cons (.cmp .ne (.bf .len (.cons (.var 0) (.nil))) (.bf .len (.cons (.var 1) (.nil)))) (.nil))))) (.seq (.ret (.bl false))
(.nil)) (.nil))
(.seq (.ret (.bf .all (.cons (.comp [2] (.call false "_law_same" (.cons (.idx (.var 0) (.var 2)) (.cons (.idx (.var 1) (.var 2)) (.nil)))) (.var 2) (.rng (.cons (.bf .len (.cons (.var 1) (.nil))) (.nil))) .nil) (.nil))))
(.nil)))))))⟩
def d__law_stream : Df := ⟨1, 6, (.seq (.asg (.var 1) (.own (.lst (.nil))))
(.seq (.for (.var 2) (.slc (.var 0) .non (.int 63)) (.seq (.asg (.var 3) (.bf .abs (.cons (.bf .int (.cons (.var 2) (.nil))) (.nil))))
(.seq (.ite (.cmp .ge (.var 3) (.bin .pow (.int 10) (.int 18))) (.seq (.for (.var 4) (.rng (.cons (.int 60) (.nil))) (.seq (.exp (.md .append (.var 1) (.cons (.bin .mod (.bf .int (.cons (.var 3) (.nil))) (.int 1009)) (.nil))))
(.seq (.asg (.var 3) (.bin .fdiv (.var 3) (.int 1009)))
(.seq (.ite (.cmp .eq (.var 3) (.int 0)) (.seq (.brk)
(.nil)) (.nil))
(.nil)))))
(.nil)) (.seq (.asg (.var 5) (.bin .mod (.bf .int (.cons (.var 3) (.nil))) (.int 2147483647)))
(.seq (.for (.var 4) (.rng (.cons (.int 10) (.nil))) (.seq (.asg (.var 5) (.bin .mod (.bf .int (.cons (.bin .add (.bin .add (.bin .mul (.var 5) (.int 48271)) (.bin .mul (.int 7) (.var 4))) (.int 11)) (.nil))) (.int 2147483647)))
(.seq (.exp (.md .append (.var 1) (.cons (.bin .mod (.bin .mod (.bf .int (.cons (.bin .add (.bin .mul (.var 5) (.int 69621)) (.var 4)) (.nil))) (.int 2147483629)) (.int 1009)) (.nil))))
(.nil))))
(.nil))))
(.nil))))
(.seq (.ite (.cmp .eq (.bf .len (.cons (.var 1) (.nil))) (.int 0)) (.seq (.exp (.md .append (.var 1) (.cons (.int 0) (.nil))))
(.nil)) (.nil))
(.seq (.ret (.var 1))
(.nil)))))⟩
def d__law_next : Df := ⟨2, 3, (.seq (.sub (.var 0) (.int 1) (.bin .add (.idx (.var 0) (.int 1)) (.int 1)))
(.seq (.asg (.var 2) (.bin .fdiv (.idx (.var 0) (.int 1)) (.bf .len (.cons (.idx (.var 0) (.int 0)) (.nil)))))
(.seq (.ret (.bin .mod (.bf .int (.cons (.bin .add (.bin .add (.idx (.idx (.var 0) (.int 0)) (.bin .mod (.idx (.var 0) (.int 1)) (.bf .len (.cons (.idx (.var 0) (.int 0)) (.nil))))) (.bin .mul (.var 2) (.int 389))) (.bin .mul (.bin .mul (.idx (.var 0) (.int 1)) (.var 2)) (.int 17))) (.nil))) (.var 1)))
(.nil))))⟩
def d__law_word : Df := ⟨2, 6, (.seq (.asg (.var 2) (.lst (.cons (.str "and") (.cons (.str "or") (.cons (.str "not") (.cons (.str "some") (.cons (.str "all") (.cons (.str "point") (.cons (.str "begins") (.cons (.str "begun") (.cons (.str "ends") (.cons (.str "ended") (.cons (.str "during") (.cons (.str "around") (.cons (.str "meets") (.cons (.str "met") (.cons (.str "later") (.cons (.str "earlier") (.nil)))))))))))))))))))
(.seq (.for (.var 3) (.rng (.cons (.int 40) (.nil))) (.seq (.asg (.var 4) (.str ""))
(.seq (.for (.var 5) (.rng (.cons (.idx (.lst (.cons (.int 1) (.cons (.int 1) (.cons (.int 1) (.cons (.int 2) (.cons (.int 3) (.cons (.int 8) (.nil)))))))) (.call false "_law_next" (.cons (.var 0) (.cons (.int 6) (.nil))))) (.nil))) (.seq (.asg (.var 4) (.bin .add (.var 4) (.idx (.str "abcxyz") (.call false "_law_next" (.cons (.var 0) (.cons (.int 6) (.nil)))))))
(.nil)))
(.seq (.ite (.band (.cons (.cmp .notIn (.var 4) (.var 1)) (.cons (.cmp .notIn (.var 4) (.var 2)) (.nil)))) (.seq (.ret (.var 4))
(.nil)) (.nil))
(.nil)))))
(.seq (.ret (.bin .add (.str "w") (.idx (.str "abcdefghijklmnop") (.bin .mod (.bf .len (.cons (.var 1) (.nil))) (.int 16)))))
(.nil))))⟩
def d__law_facts : Df := ⟨2, 4, (.seq (.asg (.var 2) (.own (.lst (.nil))))
(.seq (.for (.var 3) (.rng (.cons (.var 1) (.nil))) (.seq (.exp (.md .append (.var 2) (.cons (.call false "_law_word" (.cons (.var 0) (.cons (.var 2) (.nil)))) (.nil))))
(.nil)))
(.seq (.ret (.bf .tuple (.cons (.var 2) (.nil))))
(.nil))))⟩
def d__law_scene : Df := ⟨2, 3, (.seq (.ret (.bf .tuple (.cons (.comp [2] (.var 2) (.var 2) (.var 1) (.cmp .eq (.call false "_law_next" (.cons (.var 0) (.cons (.int 2) (.nil)))) (.int 0))) (.nil))))
(.nil))⟩
def d__law_run : Df := ⟨3, 6, (.seq (.ite (.cmp .gt (.call false "_law_next" (.cons (.var 0) (.cons (.int 3) (.nil)))) (.int 0)) (.seq (.ret (.bf .tuple (.cons (.comp [5] (.call false "_law_scene" (.cons (.var 0) (.cons (.var 1) (.nil)))) (.var 5) (.rng (.cons (.var 2) (.nil))) .nil) (.nil))))
(.nil)) (.nil))
(.seq (.asg (.var 3) (.call false "_law_scene" (.cons (.var 0) (.cons (.var 1) (.nil)))))
(.seq (.asg (.var 4) (.own (.lst (.nil))))
(.seq (.for (.var 5) (.rng (.cons (.var 2) (.nil))) (.seq (.ite (.cmp .eq (.call false "_law_next" (.cons (.var 0) (.cons (.int 3) (.nil)))) (.int 0)) (.seq (.asg (.var 3) (.call false "_law_scene" (.cons (.var 0) (.cons (.var 1) (.nil)))))
(.nil)) (.nil))
(.seq (.exp (.md .append (.var 4) (.cons (.var 3) (.nil))))
(.nil))))
(.seq (.ret (.bf .tuple (.cons (.var 4) (.nil))))
(.nil))))))⟩
def d__law_way : Df := ⟨1, 2, (.seq (.asg (.var 1) (.lst (.cons (.str "begins") (.cons (.str "begun") (.cons (.str "ends") (.cons (.str "ended") (.cons (.str "during") (.cons (.str "around") (.cons (.str "meets") (.cons (.str "met") (.cons (.str "later") (.cons (.str "earlier") (.cons (.str "overlaps") (.cons (.str "overlapped") (.nil)))))))))))))))
(.seq (.ret (.idx (.var 1) (.call false "_law_next" (.cons (.var 0) (.cons (.int 12) (.nil))))))
(.nil)))⟩
def d__law_saying : Df := ⟨4, 7, (.seq (.asg (.var 4) (.call false "_law_next" (.cons (.var 0) (.cons (.int 12) (.nil)))))
(.seq (.ite (.bor (.cons (.cmp .le (.var 2) (.int 1)) (.cons (.cmp .eq (.var 4) (.int 0)) (.nil)))) (.seq (.ret (.idx (.lst (.cons (.tup (.cons (.str "fact") (.cons (.idx (.var 1) (.call false "_law_next" (.cons (.var 0) (.cons (.bf .len (.cons (.var 1) (.nil))) (.nil))))) (.nil)))) (.cons (.tup (.cons (.str "point") (.nil))) (.nil)))) (.bf .int (.cons (.cmp .eq (.call false "_law_next" (.cons (.var 0) (.cons (.int 5) (.nil)))) (.int 0)) (.nil)))))
(.nil)) (.nil))
(.seq (.ite (.band (.cons (.cmp .lt (.var 4) (.int 6)) (.cons (.cmp .gt (.var 3) (.int 0)) (.nil)))) (.seq (.ret (.tup (.cons (.idx (.lst (.cons (.str "some") (.cons (.str "all") (.nil)))) (.call false "_law_next" (.cons (.var 0) (.cons (.int 2) (.nil))))) (.cons (.call false "_law_way" (.cons (.var 0) (.nil))) (.cons (.call false "_law_saying" (.cons (.var 0) (.cons (.var 1) (.cons (.bin .sub (.var 2) (.int 1)) (.cons (.bin .sub (.var 3) (.int 1)) (.nil)))))) (.nil))))))
(.nil)) (.nil))
(.seq (.ite (.bor (.cons (.cmp .lt (.var 4) (.int 8)) (.cons (.cmp .eq (.var 2) (.int 2)) (.nil)))) (.seq (.ret (.tup (.cons (.str "not") (.cons (.call false "_law_saying" (.cons (.var 0) (.cons (.var 1) (.cons (.bin .sub (.var 2) (.int 1)) (.cons (.var 3) (.nil)))))) (.nil)))))
(.nil)) (.nil))
(.seq (.asg (.var 5) (.bin .add (.int 1) (.call false "_law_next" (.cons (.var 0) (.cons (.bin .sub (.var 2) (.int 2)) (.nil))))))
(.seq (.asg (.var 6) (.call false "_law_saying" (.cons (.var 0) (.cons (.var 1) (.cons (.var 5) (.cons (.var 3) (.nil)))))))
(.seq (.ret (.tup (.cons (.idx (.lst (.cons (.str "and") (.cons (.str "or") (.nil)))) (.bin .mod (.var 4) (.int 2))) (.cons (.var 6) (.cons (.call false "_law_saying" (.cons (.var 0) (.cons (.var 1) (.cons (.bf .max2 (.cons (.int 1) (.cons (.bin .sub (.bin .sub (.var 2) (.int 1)) (.var 5)) (.nil)))) (.cons (.var 3) (.nil)))))) (.nil))))))
(.nil))))))))⟩
def d__law_goes : Df := ⟨3, 8, (.seq (.asg (.cons (.var 4) (.cons (.var 5) .nil)) (.var 1))
(.seq (.asg (.cons (.var 6) (.cons (.var 7) .nil)) (.var 2))
(.seq (.asg (.var 3) (.dsp ["begins", "begun", "ends", "ended"] (.cons (.band (.cons (.cmp .eq (.var 6) (.var 4)) (.cons (.cmp .lt (.var 7) (.var 5)) (.nil)))) (.cons (.band (.cons (.cmp .eq (.var 6) (.var 4)) (.cons (.cmp .gt (.var 7) (.var 5)) (.nil)))) (.cons (.band (.cons (.cmp .gt (.var 6) (.var 4)) (.cons (.cmp .eq (.var 7) (.var 5)) (.nil)))) (.cons (.band (.cons (.cmp .lt (.var 6) (.var 4)) (.cons (.cmp .eq (.var 7) (.var 5)) (.nil)))) (.nil)))))))
(.seq (.sub (.var 3) (.str "during") (.band (.cons (.cmp .lt (.var 4) (.var 6)) (.cons (.cmp .lt (.var 7) (.var 5)) (.nil)))))
(.seq (.sub (.var 3) (.str "around") (.band (.cons (.cmp .lt (.var 6) (.var 4)) (.cons (.cmp .lt (.var 5) (.var 7)) (.nil)))))
(.seq (.sub (.var 3) (.str "meets") (.cmp .eq (.var 6) (.var 5)))
(.seq (.sub (.var 3) (.str "met") (.cmp .eq (.var 7) (.var 4)))
(.seq (.sub (.var 3) (.str "later") (.cmp .gt (.var 6) (.var 5)))
(.seq (.sub (.var 3) (.str "earlier") (.cmp .lt (.var 7) (.var 4)))
(.seq (.sub (.var 3) (.str "overlaps") (.band (.cons (.cmp .lt (.var 4) (.var 6)) (.cons (.cmp .le (.var 6) (.var 5)) (.cons (.cmp .lt (.var 5) (.var 7)) (.nil))))))
(.seq (.sub (.var 3) (.str "overlapped") (.band (.cons (.cmp .lt (.var 6) (.var 4)) (.cons (.cmp .le (.var 4) (.var 7)) (.cons (.cmp .lt (.var 7) (.var 5)) (.nil))))))
(.seq (.ret (.idx (.var 3) (.var 0)))
(.nil)))))))))))))⟩
def d__law_all_stretches : Df := ⟨1, 4, (.seq (.asg (.var 1) (.own (.lst (.nil))))
(.seq (.for (.var 2) (.rng (.cons (.var 0) (.nil))) (.seq (.exp (.md .extend (.var 1) (.cons (.comp [3] (.tup (.cons (.var 2) (.cons (.var 3) (.nil)))) (.var 3) (.rng (.cons (.var 2) (.cons (.var 0) (.nil)))) .nil) (.nil))))
(.nil)))
(.seq (.ret (.var 1))
(.nil))))⟩
def d__law_holds : Df := ⟨3, 6, (.seq (.asg (.var 3) (.idx (.var 1) (.int 0)))
(.seq (.ite (.cmp .eq (.var 3) (.str "point")) (.seq (.ret (.cmp .eq (.idx (.var 2) (.int 0)) (.idx (.var 2) (.int 1))))
(.nil)) (.nil))
(.seq (.ite (.cmp .eq (.var 3) (.str "fact")) (.seq (.ret (.cmp .eq (.bf .len (.cons (.comp [5] (.var 5) (.var 5) (.rng (.cons (.idx (.var 2) (.int 0)) (.cons (.bin .add (.idx (.var 2) (.int 1)) (.int 1)) (.nil)))) (.cmp .notIn (.idx (.var 1) (.int 1)) (.idx (.var 0) (.var 5)))) (.nil))) (.int 0)))
(.nil)) (.nil))
(.seq (.ite (.cmp .eq (.var 3) (.str "not")) (.seq (.ret (.not (.call false "_law_holds" (.cons (.var 0) (.cons (.idx (.var 1) (.int 1)) (.cons (.var 2) (.nil)))))))
(.nil)) (.nil))
(.seq (.ite (.cmp .eq (.var 3) (.str "and")) (.seq (.ret (.band (.cons (.call false "_law_holds" (.cons (.var 0) (.cons (.idx (.var 1) (.int 1)) (.cons (.var 2) (.nil))))) (.cons (.call false "_law_holds" (.cons (.var 0) (.cons (.idx (.var 1) (.int 2)) (.cons (.var 2) (.nil))))) (.nil)))))
(.nil)) (.nil))
(.seq (.ite (.cmp .eq (.var 3) (.str "or")) (.seq (.ret (.bor (.cons (.call false "_law_holds" (.cons (.var 0) (.cons (.idx (.var 1) (.int 1)) (.cons (.var 2) (.nil))))) (.cons (.call false "_law_holds" (.cons (.var 0) (.cons (.idx (.var 1) (.int 2)) (.cons (.var 2) (.nil))))) (.nil)))))
(.nil)) (.nil))
(.seq (.for (.var 4) (.call false "_law_all_stretches" (.cons (.bf .len (.cons (.var 0) (.nil))) (.nil))) (.seq (.ite (.band (.cons (.call false "_law_goes" (.cons (.idx (.var 1) (.int 1)) (.cons (.var 2) (.cons (.var 4) (.nil))))) (.cons (.cmp .eq (.call false "_law_holds" (.cons (.var 0) (.cons (.idx (.var 1) (.int 2)) (.cons (.var 4) (.nil))))) (.cmp .eq (.var 3) (.str "some"))) (.nil)))) (.seq (.ret (.cmp .eq (.var 3) (.str "some")))
(.nil)) (.nil))
(.nil)))
(.seq (.ret (.cmp .eq (.var 3) (.str "all")))
(.nil)))))))))⟩
def d_law : Df := ⟨1, 19, (.seq (.asg (.var 1) (.own (.lst (.cons (.call false "_law_stream" (.cons (.var 0) (.nil))) (.cons (.int 0) (.nil))))))
(.seq (.asg (.var 2) (.call false "_law_facts" (.cons (.var 1) (.cons (.bin .add (.int 1) (.call false "_law_next" (.cons (.var 1) (.cons (.int 3) (.nil))))) (.nil)))))
(.seq (.asg (.var 3) (.call false "_law_run" (.cons (.var 1) (.cons (.var 2) (.cons (.bin .add (.int 1) (.call false "_law_next" (.cons (.var 1) (.cons (.int 7) (.nil))))) (.nil))))))
(.seq (.asg (.var 4) (.call false "_law_saying" (.cons (.var 1) (.cons (.var 2) (.cons (.bin .add (.int 1) (.call false "_law_next" (.cons (.var 1) (.cons (.int 8) (.nil))))) (.cons (.int 2) (.nil)))))))
(.seq (.asg (.var 5) (.call false "_law_all_stretches" (.cons (.bf .len (.cons (.var 3) (.nil))) (.nil))))
(.seq (.asg (.var 6) (.idx (.lst (.cons (.str "some") (.cons (.str "all") (.nil)))) (.call false "_law_next" (.cons (.var 1) (.cons (.int 2) (.nil))))))
(.seq (.asg (.var 7) (.lst (.cons (.tup (.cons (.str "during") (.cons (.str "begins") (.cons (.str "ends") (.nil))))) (.cons (.tup (.cons (.str "during") (.cons (.str "ends") (.cons (.str "begins") (.nil))))) (.cons (.tup (.cons (.str "around") (.cons (.str "begun") (.cons (.str "ended") (.nil))))) (.cons (.tup (.cons (.str "around") (.cons (.str "ended") (.cons (.str "begun") (.nil))))) (.nil)))))))
(.seq (.asg (.var 7) (.bin .add (.var 7) (.lst (.cons (.tup (.cons (.str "later") (.cons (.str "meets") (.cons (.str "ends") (.nil))))) (.cons (.tup (.cons (.str "earlier") (.cons (.str "met") (.cons (.str "begins") (.nil))))) (.cons (.tup (.cons (.str "overlaps") (.cons (.str "ends") (.cons (.str "begun") (.nil))))) (.cons (.tup (.cons (.str "overlapped") (.cons (.str "begins") (.cons (.str "ended") (.nil))))) (.nil))))))))
(.seq (.for (.var 8) (.rng (.cons (.int 3) (.nil))) (.seq (.asg (.cons (.var 15) (.cons (.var 16) .nil)) (.idx (.var 5) (.call false "_law_next" (.cons (.var 1) (.cons (.bf .len (.cons (.var 5) (.nil))) (.nil))))))
(.seq (.ite (.not (.call false "_law_same" (.cons (.call false "holds" (.cons (.var 3) (.cons (.var 4) (.cons (.var 15) (.cons (.var 16) (.nil)))))) (.cons (.call false "_law_holds" (.cons (.var 3) (.cons (.var 4) (.cons (.tup (.cons (.var 15) (.cons (.var 16) (.nil)))) (.nil))))) (.nil))))) (.seq (.ret (.bl false))
(.nil)) (.nil))
(.seq (.for (.cons (.var 10) (.cons (.var 17) (.cons (.var 18) .nil))) (.var 7) (.seq (.ite (.cmp .ne (.call false "holds" (.cons (.var 3) (.cons (.tup (.cons (.var 6) (.cons (.var 10) (.cons (.var 4) (.nil))))) (.cons (.var 15) (.cons (.var 16) (.nil)))))) (.call false "holds" (.cons (.var 3) (.cons (.tup (.cons (.var 6) (.cons (.var 17) (.cons (.tup (.cons (.var 6) (.cons (.var 18) (.cons (.var 4) (.nil))))) (.nil))))) (.cons (.var 15) (.cons (.var 16) (.nil))))))) (.seq (.ret (.bl false))
(.nil)) (.nil))
(.nil)))
(.seq (.asg (.var 9) (.call false "_law_next" (.cons (.var 1) (.cons (.bin .add (.var 16) (.int 1)) (.nil)))))
(.seq (.for (.var 10) (.lst (.cons (.str "meets") (.cons (.str "later") (.nil)))) (.seq (.ite (.cmp .ne (.call false "holds" (.cons (.var 3) (.cons (.tup (.cons (.var 6) (.cons (.var 10) (.cons (.var 4) (.nil))))) (.cons (.var 15) (.cons (.var 16) (.nil)))))) (.call false "holds" (.cons (.var 3) (.cons (.tup (.cons (.var 6) (.cons (.var 10) (.cons (.var 4) (.nil))))) (.cons (.var 9) (.cons (.var 16) (.nil))))))) (.seq (.ret (.bl false))
(.nil)) (.nil))
(.nil)))
(.seq (.asg (.var 11) (.tup (.cons (.str "fact") (.cons (.idx (.var 2) (.call false "_law_next" (.cons (.var 1) (.cons (.bf .len (.cons (.var 2) (.nil))) (.nil))))) (.nil)))))
(.seq (.asg (.var 12) (.tup (.cons (.str "all") (.cons (.str "during") (.cons (.tup (.cons (.str "or") (.cons (.tup (.cons (.str "not") (.cons (.tup (.cons (.str "point") (.nil))) (.nil)))) (.cons (.var 11) (.nil))))) (.nil))))))
(.seq (.asg (.var 13) (.lst (.cons (.tup (.cons (.str "some") (.cons (.str "meets") (.cons (.tup (.cons (.str "and") (.cons (.tup (.cons (.str "point") (.nil))) (.cons (.var 11) (.nil))))) (.nil))))) (.cons (.tup (.cons (.str "some") (.cons (.str "met") (.cons (.tup (.cons (.str "and") (.cons (.tup (.cons (.str "point") (.nil))) (.cons (.var 11) (.nil))))) (.nil))))) (.nil)))))
(.seq (.ite (.cmp .ne (.call false "holds" (.cons (.var 3) (.cons (.var 11) (.cons (.var 15) (.cons (.var 16) (.nil)))))) (.call false "holds" (.cons (.var 3) (.cons (.tup (.cons (.str "and") (.cons (.var 12) (.cons (.tup (.cons (.str "and") (.cons (.idx (.var 13) (.int 0)) (.cons (.idx (.var 13) (.int 1)) (.nil))))) (.nil))))) (.cons (.var 15) (.cons (.var 16) (.nil))))))) (.seq (.ret (.bl false))
(.nil)) (.nil))
(.seq (.asg (.var 14) (.bin .add (.var 15) (.call false "_law_next" (.cons (.var 1) (.cons (.bin .add (.bin .sub (.var 16) (.var 15)) (.int 1)) (.nil))))))
(.seq (.ite (.cmp .ne (.call false "holds" (.cons (.var 3) (.cons (.var 11) (.cons (.var 15) (.cons (.var 16) (.nil)))))) (.band (.cons (.call false "holds" (.cons (.var 3) (.cons (.var 11) (.cons (.var 15) (.cons (.var 14) (.nil)))))) (.cons (.call false "holds" (.cons (.var 3) (.cons (.var 11) (.cons (.var 14) (.cons (.var 16) (.nil)))))) (.nil))))) (.seq (.ret (.bl false))
(.nil)) (.nil))
(.nil)))))))))))))
(.seq (.ret (.bl true))
(.nil)))))))))))⟩
def d_Teller___init__ : Df := ⟨3, 3, (.seq (.att "Teller" "run" (.var 0) (.var 1))
(.seq (.att "Teller" "every" (.var 0) (.call false "stretches_of" (.cons (.bf .len (.cons (.var 1) (.nil))) (.nil))))
(.seq (.att "Teller" "nodes" (.var 0) (.own (.lst (.nil))))
(.seq (.att "Teller" "kids" (.var 0) (.own (.lst (.nil))))
(.seq (.att "Teller" "known" (.var 0) (.dsp [] (.nil)))
(.seq (.exp (.mcl false "Teller" "add" (.var 0) (.cons (.var 2) (.nil))))
(.nil)))))))⟩
def d_Teller_add : Df := ⟨2, 4, (.seq (.asg (.var 2) (.bf .len (.cons (.fld "Teller" "nodes" (.var 0)) (.nil))))
(.seq (.exp (.md .append (.fld "Teller" "nodes" (.var 0)) (.cons (.var 1) (.nil))))
(.seq (.exp (.md .append (.fld "Teller" "kids" (.var 0)) (.cons (.lst (.nil)) (.nil))))
(.seq (.sub (.fld "Teller" "kids" (.var 0)) (.var 2) (.comp [3] (.mcl false "Teller" "add" (.var 0) (.cons (.var 3) (.nil))) (.var 3) (.call false "parts_of" (.cons (.var 1) (.nil))) .nil))
(.seq (.ret (.var 2))
(.nil))))))⟩
def d_Teller_tells : Df := ⟨3, 3, (.seq (.ite (.cmp .notIn (.tup (.cons (.var 1) (.cons (.var 2) (.nil)))) (.fld "Teller" "known" (.var 0))) (.seq (.sub (.fld "Teller" "known" (.var 0)) (.tup (.cons (.var 1) (.cons (.var 2) (.nil)))) (.mcl false "Teller" "worked" (.var 0) (.cons (.var 1) (.cons (.var 2) (.nil)))))
(.nil)) (.nil))
(.seq (.ret (.idx (.fld "Teller" "known" (.var 0)) (.tup (.cons (.var 1) (.cons (.var 2) (.nil))))))
(.nil)))⟩
def d_Teller_worked : Df := ⟨3, 8, (.seq (.asg (.var 3) (.idx (.fld "Teller" "nodes" (.var 0)) (.var 1)))
(.seq (.asg (.var 4) (.idx (.fld "Teller" "kids" (.var 0)) (.var 1)))
(.seq (.ite (.cmp .eq (.idx (.var 3) (.int 0)) (.str "point")) (.seq (.ret (.cmp .eq (.idx (.var 2) (.int 0)) (.idx (.var 2) (.int 1))))
(.nil)) (.nil))
(.seq (.ite (.cmp .eq (.idx (.var 3) (.int 0)) (.str "fact")) (.seq (.ret (.bf .all (.cons (.comp [7] (.cmp .isIn (.idx (.var 3) (.int 1)) (.var 7)) (.var 7) (.slc (.fld "Teller" "run" (.var 0)) (.idx (.var 2) (.int 0)) (.bin .add (.idx (.var 2) (.int 1)) (.int 1))) .nil) (.nil))))
(.nil)) (.nil))
(.seq (.ite (.cmp .eq (.idx (.var 3) (.int 0)) (.str "not")) (.seq (.ret (.not (.mcl false "Teller" "tells" (.var 0) (.cons (.idx (.var 4) (.int 0)) (.cons (.var 2) (.nil))))))
(.nil)) (.nil))
(.seq (.ite (.cmp .eq (.idx (.var 3) (.int 0)) (.str "and")) (.seq (.ret (.band (.cons (.mcl false "Teller" "tells" (.var 0) (.cons (.idx (.var 4) (.int 0)) (.cons (.var 2) (.nil)))) (.cons (.mcl false "Teller" "tells" (.var 0) (.cons (.idx (.var 4) (.int 1)) (.cons (.var 2) (.nil)))) (.nil)))))
(.nil)) (.nil))
(.seq (.ite (.cmp .eq (.idx (.var 3) (.int 0)) (.str "or")) (.seq (.ret (.bor (.cons (.mcl false "Teller" "tells" (.var 0) (.cons (.idx (.var 4) (.int 0)) (.cons (.var 2) (.nil)))) (.cons (.mcl false "Teller" "tells" (.var 0) (.cons (.idx (.var 4) (.int 1)) (.cons (.var 2) (.nil)))) (.nil)))))
(.nil)) (.nil))
(.seq (.asg (.var 5) (.cmp .eq (.idx (.var 3) (.int 0)) (.str "some")))
(.seq (.for (.var 6) (.fld "Teller" "every" (.var 0)) (.seq (.ite (.band (.cons (.call false "is_reached" (.cons (.idx (.var 3) (.int 1)) (.cons (.var 2) (.cons (.var 6) (.nil))))) (.cons (.cmp .eq (.mcl false "Teller" "tells" (.var 0) (.cons (.idx (.var 4) (.int 0)) (.cons (.var 6) (.nil)))) (.var 5)) (.nil)))) (.seq (.ret (.var 5))
(.nil)) (.nil))
(.nil)))
(.seq (.ret (.not (.var 5)))
(.nil)))))))))))⟩
def gdT (x : Str) : Option (List (Str × AV)) :=  none
def glbT (x : Str) : Option AV :=  none
def dfT (x : Str) : Option Df := if x = "parts_of" then some d_parts_of else if x = "is_reached" then some d_is_reached else if x = "is_beside" then some d_is_beside else if x = "stretches_of" then some d_stretches_of else if x = "holds" then some d_holds else if x = "_law_same" then some d__law_same else if x = "_law_stream" then some d__law_stream else if x = "_law_next" then some d__law_next else if x = "_law_word" then some d__law_word else if x = "_law_facts" then some d__law_facts else if x = "_law_scene" then some d__law_scene else if x = "_law_run" then some d__law_run else if x = "_law_way" then some d__law_way else if x = "_law_saying" then some d__law_saying else if x = "_law_goes" then some d__law_goes else if x = "_law_all_stretches" then some d__law_all_stretches else if x = "_law_holds" then some d__law_holds else if x = "law" then some d_law else if x = "Teller.__init__" then some d_Teller___init__ else if x = "Teller.add" then some d_Teller_add else if x = "Teller.tells" then some d_Teller_tells else if x = "Teller.worked" then some d_Teller_worked else none
def nC : List Str := ["Teller"]
def nV : List Str := []
def nF : List (Str × Str) := [("Teller", "every"), ("Teller", "kids"), ("Teller", "known"), ("Teller", "nodes"), ("Teller", "run")]
def nM : List (Str × Str) := [("Teller", "__init__"), ("Teller", "add"), ("Teller", "tells"), ("Teller", "worked")]
def isTab : List (Str × Str × Bool) := [("NotAllowed", "NotAllowed", true)]
def T : Tb := ⟨glbT, dfT, fun x y => (isTab.find? fun t => decide (t.1 = x) && decide (t.2.1 = y)).map (·.2.2), gdT, fun x => decide (x ∈ nC), fun x => decide (x ∈ nV)⟩
def nB : List Str := ["abs", "all", "bool", "int", "isinstance", "len", "list", "max", "range", "str", "tuple"]
def nD : List Str := ["parts_of", "is_reached", "is_beside", "stretches_of", "holds", "_law_same", "_law_stream", "_law_next", "_law_word", "_law_facts", "_law_scene", "_law_run", "_law_way", "_law_saying", "_law_goes", "_law_all_stretches", "_law_holds", "law", "Teller"]
def nX : List Str := ["NotAllowed"]
def nI : List Str := []
def ck0 : Ck := ⟨[], (defScope (topS 0)), true, fun _ => true, fun x => decide (x ∈ nB), fun x => decide (x ∈ nD), fun x => decide (x ∈ nX), fun x => decide (x ∈ nI), fun x y => decide ((x, y) ∈ nF), fun x y => decide ((x, y) ∈ nM)⟩
def N_parts_of : List Str := ["saying", "part"]
theorem sc_parts_of : FnScope N_parts_of ["saying"] (defScope (topS 4)) := ⟨rfl, rfl, rfl, by decide +kernel, rfl, by decide +kernel, by decide +kernel⟩
theorem ch_parts_of : (ckS d_parts_of.body).blk { ck0 with N := N_parts_of, sc := defScope (topS 4), cm := true, fl := fun _ => true } (defBody (topS 4)) = true := by decide +kernel
def N_is_reached : List Str := ["way", "here", "there", "first", "last", "begin", "end"]
theorem sc_is_reached : FnScope N_is_reached ["way", "here", "there"] (defScope (topS 6)) := ⟨rfl, rfl, rfl, by decide +kernel, rfl, by decide +kernel, by decide +kernel⟩
theorem ch_is_reached : (ckS d_is_reached.body).blk { ck0 with N := N_is_reached, sc := defScope (topS 6), cm := true, fl := fun _ => true } (defBody (topS 6)) = true := by decide +kernel
def N_is_beside : List Str := ["way", "here", "there", "first", "last", "begin", "end"]
theorem sc_is_beside : FnScope N_is_beside ["way", "here", "there"] (defScope (topS 7)) := ⟨rfl, rfl, rfl, by decide +kernel, rfl, by decide +kernel, by decide +kernel⟩
theorem ch_is_beside : (ckS d_is_beside.body).blk { ck0 with N := N_is_beside, sc := defScope (topS 7), cm := true, fl := fun _ => true } (defBody (topS 7)) = true := by decide +kernel
def N_stretches_of : List Str := ["many", "first", "last"]
theorem sc_stretches_of : FnScope N_stretches_of ["many"] (defScope (topS 8)) := ⟨rfl, rfl, rfl, by decide +kernel, rfl, by decide +kernel, by decide +kernel⟩
theorem ch_stretches_of : (ckS d_stretches_of.body).blk { ck0 with N := N_stretches_of, sc := defScope (topS 8), cm := true, fl := fun _ => true } (defBody (topS 8)) = true := by decide +kernel
def N_holds : List Str := ["run", "saying", "first", "last"]
theorem sc_holds : FnScope N_holds ["run", "saying", "first", "last"] (defScope (topS 10)) := ⟨rfl, rfl, rfl, by decide +kernel, rfl, by decide +kernel, by decide +kernel⟩
theorem ch_holds : (ckS d_holds.body).blk { ck0 with N := N_holds, sc := defScope (topS 10), cm := true, fl := fun _ => true } (defBody (topS 10)) = true := by decide +kernel
def N__law_same : List Str := ["told", "due", "k"]
theorem sc__law_same : FnScope N__law_same ["told", "due"] (defScope (topS 12)) := ⟨rfl, rfl, rfl, by decide +kernel, rfl, by decide +kernel, by decide +kernel⟩
theorem ch__law_same : (ckS d__law_same.body).blk { ck0 with N := N__law_same, sc := defScope (topS 12), cm := true, fl := fun _ => true } (defBody (topS 12)) = true := by decide +kernel
def N__law_stream : List Str := ["script", "numbers", "cell", "rest", "k", "mixed"]
theorem sc__law_stream : FnScope N__law_stream ["script"] (defScope (topS 13)) := ⟨rfl, rfl, rfl, by decide +kernel, rfl, by decide +kernel, by decide +kernel⟩
theorem ch__law_stream : (ckS d__law_stream.body).blk { ck0 with N := N__law_stream, sc := defScope (topS 13), cm := true, fl := fun _ => true } (defBody (topS 13)) = true := by decide +kernel
def N__law_next : List Str := ["state", "many", "turn"]
theorem sc__law_next : FnScope N__law_next ["state", "many"] (defScope (topS 14)) := ⟨rfl, rfl, rfl, by decide +kernel, rfl, by decide +kernel, by decide +kernel⟩
theorem ch__law_next : (ckS d__law_next.body).blk { ck0 with N := N__law_next, sc := defScope (topS 14), cm := true, fl := fun _ => true } (defBody (topS 14)) = true := by decide +kernel
def N__law_word : List Str := ["state", "taken", "known", "turn", "word", "k"]
theorem sc__law_word : FnScope N__law_word ["state", "taken"] (defScope (topS 15)) := ⟨rfl, rfl, rfl, by decide +kernel, rfl, by decide +kernel, by decide +kernel⟩
theorem ch__law_word : (ckS d__law_word.body).blk { ck0 with N := N__law_word, sc := defScope (topS 15), cm := true, fl := fun _ => true } (defBody (topS 15)) = true := by decide +kernel
def N__law_facts : List Str := ["state", "many", "found", "k"]
theorem sc__law_facts : FnScope N__law_facts ["state", "many"] (defScope (topS 16)) := ⟨rfl, rfl, rfl, by decide +kernel, rfl, by decide +kernel, by decide +kernel⟩
theorem ch__law_facts : (ckS d__law_facts.body).blk { ck0 with N := N__law_facts, sc := defScope (topS 16), cm := true, fl := fun _ => true } (defBody (topS 16)) = true := by decide +kernel
def N__law_scene : List Str := ["state", "facts", "fact"]
theorem sc__law_scene : FnScope N__law_scene ["state", "facts"] (defScope (topS 17)) := ⟨rfl, rfl, rfl, by decide +kernel, rfl, by decide +kernel, by decide +kernel⟩
theorem ch__law_scene : (ckS d__law_scene.body).blk { ck0 with N := N__law_scene, sc := defScope (topS 17), cm := true, fl := fun _ => true } (defBody (topS 17)) = true := by decide +kernel
def N__law_run : List Str := ["state", "facts", "many", "scene", "found", "k"]
theorem sc__law_run : FnScope N__law_run ["state", "facts", "many"] (defScope (topS 18)) := ⟨rfl, rfl, rfl, by decide +kernel, rfl, by decide +kernel, by decide +kernel⟩
theorem ch__law_run : (ckS d__law_run.body).blk { ck0 with N := N__law_run, sc := defScope (topS 18), cm := true, fl := fun _ => true } (defBody (topS 18)) = true := by decide +kernel
def N__law_way : List Str := ["state", "ways"]
theorem sc__law_way : FnScope N__law_way ["state"] (defScope (topS 19)) := ⟨rfl, rfl, rfl, by decide +kernel, rfl, by decide +kernel, by decide +kernel⟩
theorem ch__law_way : (ckS d__law_way.body).blk { ck0 with N := N__law_way, sc := defScope (topS 19), cm := true, fl := fun _ => true } (defBody (topS 19)) = true := by decide +kernel
def N__law_saying : List Str := ["state", "facts", "room", "deep", "pick", "left", "first"]
theorem sc__law_saying : FnScope N__law_saying ["state", "facts", "room", "deep"] (defScope (topS 20)) := ⟨rfl, rfl, rfl, by decide +kernel, rfl, by decide +kernel, by decide +kernel⟩
theorem ch__law_saying : (ckS d__law_saying.body).blk { ck0 with N := N__law_saying, sc := defScope (topS 20), cm := true, fl := fun _ => true } (defBody (topS 20)) = true := by decide +kernel
def N__law_goes : List Str := ["way", "here", "there", "rules", "i", "j", "a", "b"]
theorem sc__law_goes : FnScope N__law_goes ["way", "here", "there"] (defScope (topS 21)) := ⟨rfl, rfl, rfl, by decide +kernel, rfl, by decide +kernel, by decide +kernel⟩
theorem ch__law_goes : (ckS d__law_goes.body).blk { ck0 with N := N__law_goes, sc := defScope (topS 21), cm := true, fl := fun _ => true } (defBody (topS 21)) = true := by decide +kernel
def N__law_all_stretches : List Str := ["many", "found", "i", "j"]
theorem sc__law_all_stretches : FnScope N__law_all_stretches ["many"] (defScope (topS 22)) := ⟨rfl, rfl, rfl, by decide +kernel, rfl, by decide +kernel, by decide +kernel⟩
theorem ch__law_all_stretches : (ckS d__law_all_stretches.body).blk { ck0 with N := N__law_all_stretches, sc := defScope (topS 22), cm := true, fl := fun _ => true } (defBody (topS 22)) = true := by decide +kernel
def N__law_holds : List Str := ["run", "saying", "here", "word", "there", "k"]
theorem sc__law_holds : FnScope N__law_holds ["run", "saying", "here"] (defScope (topS 23)) := ⟨rfl, rfl, rfl, by decide +kernel, rfl, by decide +kernel, by decide +kernel⟩
theorem ch__law_holds : (ckS d__law_holds.body).blk { ck0 with N := N__law_holds, sc := defScope (topS 23), cm := true, fl := fun _ => true } (defBody (topS 23)) = true := by decide +kernel
def N_law : List Str := ["script", "state", "facts", "run", "saying", "every", "word", "rows", "k", "at", "way", "fact", "points", "ends", "cut", "i", "j", "first", "second"]
theorem sc_law : FnScope N_law ["script"] (defScope (topS 24)) := ⟨rfl, rfl, rfl, by decide +kernel, rfl, by decide +kernel, by decide +kernel⟩
theorem ch_law : (ckS d_law.body).blk { ck0 with N := N_law, sc := defScope (topS 24), cm := true, fl := fun _ => true } (defBody (topS 24)) = true := by decide +kernel
def N_Teller___init__ : List Str := ["self", "run", "saying"]
theorem sc_Teller___init__ : FnScope N_Teller___init__ ["self", "run", "saying"] (defScope (inClass (topS 9) 0)) := ⟨rfl, rfl, rfl, by decide +kernel, rfl, by decide +kernel, by decide +kernel⟩
theorem ch_Teller___init__ : (ckS d_Teller___init__.body).blk { ck0 with N := N_Teller___init__, sc := defScope (inClass (topS 9) 0), cm := true, fl := fun _ => true } (defBody (inClass (topS 9) 0)) = true := by decide +kernel
def N_Teller_add : List Str := ["self", "saying", "number", "part"]
theorem sc_Teller_add : FnScope N_Teller_add ["self", "saying"] (defScope (inClass (topS 9) 1)) := ⟨rfl, rfl, rfl, by decide +kernel, rfl, by decide +kernel, by decide +kernel⟩
theorem ch_Teller_add : (ckS d_Teller_add.body).blk { ck0 with N := N_Teller_add, sc := defScope (inClass (topS 9) 1), cm := true, fl := fun _ => true } (defBody (inClass (topS 9) 1)) = true := by decide +kernel
def N_Teller_tells : List Str := ["self", "number", "here"]
theorem sc_Teller_tells : FnScope N_Teller_tells ["self", "number", "here"] (defScope (inClass (topS 9) 2)) := ⟨rfl, rfl, rfl, by decide +kernel, rfl, by decide +kernel, by decide +kernel⟩
theorem ch_Teller_tells : (ckS d_Teller_tells.body).blk { ck0 with N := N_Teller_tells, sc := defScope (inClass (topS 9) 2), cm := true, fl := fun _ => true } (defBody (inClass (topS 9) 2)) = true := by decide +kernel
def N_Teller_worked : List Str := ["self", "number", "here", "saying", "kids", "wanted", "there", "scene"]
theorem sc_Teller_worked : FnScope N_Teller_worked ["self", "number", "here"] (defScope (inClass (topS 9) 3)) := ⟨rfl, rfl, rfl, by decide +kernel, rfl, by decide +kernel, by decide +kernel⟩
theorem ch_Teller_worked : (ckS d_Teller_worked.body).blk { ck0 with N := N_Teller_worked, sc := defScope (inClass (topS 9) 3), cm := true, fl := fun _ => true } (defBody (inClass (topS 9) 3)) = true := by decide +kernel
set_option maxHeartbeats 0 in
theorem wd {W : World} {K : PySem.W.Frag} {h : Heap} {mg : Str → Option Value} (X : K.In h) (G : h.Ns mainGlobals mg)
    {K0 : Addr}
    {f4 : Addr} {od4 an4 : Option Addr} {sl4 : Array (Option Value)} {oc4 kV4 dc4 pm4 cd4 ct4 : Value}
    {f6 : Addr} {od6 an6 : Option Addr} {sl6 : Array (Option Value)} {oc6 kV6 dc6 pm6 cd6 ct6 : Value}
    {f7 : Addr} {od7 an7 : Option Addr} {sl7 : Array (Option Value)} {oc7 kV7 dc7 pm7 cd7 ct7 : Value}
    {f8 : Addr} {od8 an8 : Option Addr} {sl8 : Array (Option Value)} {oc8 kV8 dc8 pm8 cd8 ct8 : Value}
    {f10 : Addr} {od10 an10 : Option Addr} {sl10 : Array (Option Value)} {oc10 kV10 dc10 pm10 cd10 ct10 : Value}
    {f12 : Addr} {od12 an12 : Option Addr} {sl12 : Array (Option Value)} {oc12 kV12 dc12 pm12 cd12 ct12 : Value}
    {f13 : Addr} {od13 an13 : Option Addr} {sl13 : Array (Option Value)} {oc13 kV13 dc13 pm13 cd13 ct13 : Value}
    {f14 : Addr} {od14 an14 : Option Addr} {sl14 : Array (Option Value)} {oc14 kV14 dc14 pm14 cd14 ct14 : Value}
    {f15 : Addr} {od15 an15 : Option Addr} {sl15 : Array (Option Value)} {oc15 kV15 dc15 pm15 cd15 ct15 : Value}
    {f16 : Addr} {od16 an16 : Option Addr} {sl16 : Array (Option Value)} {oc16 kV16 dc16 pm16 cd16 ct16 : Value}
    {f17 : Addr} {od17 an17 : Option Addr} {sl17 : Array (Option Value)} {oc17 kV17 dc17 pm17 cd17 ct17 : Value}
    {f18 : Addr} {od18 an18 : Option Addr} {sl18 : Array (Option Value)} {oc18 kV18 dc18 pm18 cd18 ct18 : Value}
    {f19 : Addr} {od19 an19 : Option Addr} {sl19 : Array (Option Value)} {oc19 kV19 dc19 pm19 cd19 ct19 : Value}
    {f20 : Addr} {od20 an20 : Option Addr} {sl20 : Array (Option Value)} {oc20 kV20 dc20 pm20 cd20 ct20 : Value}
    {f21 : Addr} {od21 an21 : Option Addr} {sl21 : Array (Option Value)} {oc21 kV21 dc21 pm21 cd21 ct21 : Value}
    {f22 : Addr} {od22 an22 : Option Addr} {sl22 : Array (Option Value)} {oc22 kV22 dc22 pm22 cd22 ct22 : Value}
    {f23 : Addr} {od23 an23 : Option Addr} {sl23 : Array (Option Value)} {oc23 kV23 dc23 pm23 cd23 ct23 : Value}
    {f24 : Addr} {od24 an24 : Option Addr} {sl24 : Array (Option Value)} {oc24 kV24 dc24 pm24 cd24 ct24 : Value}
    {f9_0 : Addr} {od9_0 an9_0 : Option Addr} {sl9_0 : Array (Option Value)} {oc9_0 kV9_0 dc9_0 pm9_0 cd9_0 ct9_0 : Value}
    {f9_1 : Addr} {od9_1 an9_1 : Option Addr} {sl9_1 : Array (Option Value)} {oc9_1 kV9_1 dc9_1 pm9_1 cd9_1 ct9_1 : Value}
    {f9_2 : Addr} {od9_2 an9_2 : Option Addr} {sl9_2 : Array (Option Value)} {oc9_2 kV9_2 dc9_2 pm9_2 cd9_2 ct9_2 : Value}
    {f9_3 : Addr} {od9_3 an9_3 : Option Addr} {sl9_3 : Array (Option Value)} {oc9_3 kV9_3 dc9_3 pm9_3 cd9_3 ct9_3 : Value}
    {C0 : Addr}
    (ka0 : PySem.W.nsIn K mainGlobals "Teller" = some (some (.ref K0))) (kg0 : PySem.W.plainGet K K0 Str.empty = true) (kd0 : PySem.W.hasDictIn K K0 = true) (ko0 : PySem.W.plainOver K K0 = true) (ks0 : PySem.W.findIn K (.ref K0) "__setattr__" = some (some (.builtin "object.__setattr__"))) (km0 : PySem.W.makesIn K K0 = true) (kk0 : PySem.W.keepIn K (.ref K0) = true)
    (nf0 : PySem.W.findIn K (.ref K0) "every" = some none)
    (nf1 : PySem.W.findIn K (.ref K0) "kids" = some none)
    (nf2 : PySem.W.findIn K (.ref K0) "known" = some none)
    (nf3 : PySem.W.findIn K (.ref K0) "nodes" = some none)
    (nf4 : PySem.W.findIn K (.ref K0) "run" = some none)
    (a4 : PySem.W.nsIn K mainGlobals "parts_of" = some (some (.ref f4))) (l4 : K.lookup f4 = some ⟨oc4, od4, .func (PySem.W.fnOf "parts_of" "parts_of" (defArgs (topS 4)) (defBody (topS 4)) (defScope (topS 4)) .none kV4 dc4 pm4 an4 cd4 ct4), sl4⟩) (c4 : PySem.W.codeIn K cd4 "parts_of" = true) (k4 : PySem.W.keepIn K (.ref f4) = true)
    (a6 : PySem.W.nsIn K mainGlobals "is_reached" = some (some (.ref f6))) (l6 : K.lookup f6 = some ⟨oc6, od6, .func (PySem.W.fnOf "is_reached" "is_reached" (defArgs (topS 6)) (defBody (topS 6)) (defScope (topS 6)) .none kV6 dc6 pm6 an6 cd6 ct6), sl6⟩) (c6 : PySem.W.codeIn K cd6 "is_reached" = true) (k6 : PySem.W.keepIn K (.ref f6) = true)
    (a7 : PySem.W.nsIn K mainGlobals "is_beside" = some (some (.ref f7))) (l7 : K.lookup f7 = some ⟨oc7, od7, .func (PySem.W.fnOf "is_beside" "is_beside" (defArgs (topS 7)) (defBody (topS 7)) (defScope (topS 7)) .none kV7 dc7 pm7 an7 cd7 ct7), sl7⟩) (c7 : PySem.W.codeIn K cd7 "is_beside" = true) (k7 : PySem.W.keepIn K (.ref f7) = true)
    (a8 : PySem.W.nsIn K mainGlobals "stretches_of" = some (some (.ref f8))) (l8 : K.lookup f8 = some ⟨oc8, od8, .func (PySem.W.fnOf "stretches_of" "stretches_of" (defArgs (topS 8)) (defBody (topS 8)) (defScope (topS 8)) .none kV8 dc8 pm8 an8 cd8 ct8), sl8⟩) (c8 : PySem.W.codeIn K cd8 "stretches_of" = true) (k8 : PySem.W.keepIn K (.ref f8) = true)
    (a10 : PySem.W.nsIn K mainGlobals "holds" = some (some (.ref f10))) (l10 : K.lookup f10 = some ⟨oc10, od10, .func (PySem.W.fnOf "holds" "holds" (defArgs (topS 10)) (defBody (topS 10)) (defScope (topS 10)) .none kV10 dc10 pm10 an10 cd10 ct10), sl10⟩) (c10 : PySem.W.codeIn K cd10 "holds" = true) (k10 : PySem.W.keepIn K (.ref f10) = true)
    (a12 : PySem.W.nsIn K mainGlobals "_law_same" = some (some (.ref f12))) (l12 : K.lookup f12 = some ⟨oc12, od12, .func (PySem.W.fnOf "_law_same" "_law_same" (defArgs (topS 12)) (defBody (topS 12)) (defScope (topS 12)) .none kV12 dc12 pm12 an12 cd12 ct12), sl12⟩) (c12 : PySem.W.codeIn K cd12 "_law_same" = true) (k12 : PySem.W.keepIn K (.ref f12) = true)
    (a13 : PySem.W.nsIn K mainGlobals "_law_stream" = some (some (.ref f13))) (l13 : K.lookup f13 = some ⟨oc13, od13, .func (PySem.W.fnOf "_law_stream" "_law_stream" (defArgs (topS 13)) (defBody (topS 13)) (defScope (topS 13)) .none kV13 dc13 pm13 an13 cd13 ct13), sl13⟩) (c13 : PySem.W.codeIn K cd13 "_law_stream" = true) (k13 : PySem.W.keepIn K (.ref f13) = true)
    (a14 : PySem.W.nsIn K mainGlobals "_law_next" = some (some (.ref f14))) (l14 : K.lookup f14 = some ⟨oc14, od14, .func (PySem.W.fnOf "_law_next" "_law_next" (defArgs (topS 14)) (defBody (topS 14)) (defScope (topS 14)) .none kV14 dc14 pm14 an14 cd14 ct14), sl14⟩) (c14 : PySem.W.codeIn K cd14 "_law_next" = true) (k14 : PySem.W.keepIn K (.ref f14) = true)
    (a15 : PySem.W.nsIn K mainGlobals "_law_word" = some (some (.ref f15))) (l15 : K.lookup f15 = some ⟨oc15, od15, .func (PySem.W.fnOf "_law_word" "_law_word" (defArgs (topS 15)) (defBody (topS 15)) (defScope (topS 15)) .none kV15 dc15 pm15 an15 cd15 ct15), sl15⟩) (c15 : PySem.W.codeIn K cd15 "_law_word" = true) (k15 : PySem.W.keepIn K (.ref f15) = true)
    (a16 : PySem.W.nsIn K mainGlobals "_law_facts" = some (some (.ref f16))) (l16 : K.lookup f16 = some ⟨oc16, od16, .func (PySem.W.fnOf "_law_facts" "_law_facts" (defArgs (topS 16)) (defBody (topS 16)) (defScope (topS 16)) .none kV16 dc16 pm16 an16 cd16 ct16), sl16⟩) (c16 : PySem.W.codeIn K cd16 "_law_facts" = true) (k16 : PySem.W.keepIn K (.ref f16) = true)
    (a17 : PySem.W.nsIn K mainGlobals "_law_scene" = some (some (.ref f17))) (l17 : K.lookup f17 = some ⟨oc17, od17, .func (PySem.W.fnOf "_law_scene" "_law_scene" (defArgs (topS 17)) (defBody (topS 17)) (defScope (topS 17)) .none kV17 dc17 pm17 an17 cd17 ct17), sl17⟩) (c17 : PySem.W.codeIn K cd17 "_law_scene" = true) (k17 : PySem.W.keepIn K (.ref f17) = true)
    (a18 : PySem.W.nsIn K mainGlobals "_law_run" = some (some (.ref f18))) (l18 : K.lookup f18 = some ⟨oc18, od18, .func (PySem.W.fnOf "_law_run" "_law_run" (defArgs (topS 18)) (defBody (topS 18)) (defScope (topS 18)) .none kV18 dc18 pm18 an18 cd18 ct18), sl18⟩) (c18 : PySem.W.codeIn K cd18 "_law_run" = true) (k18 : PySem.W.keepIn K (.ref f18) = true)
    (a19 : PySem.W.nsIn K mainGlobals "_law_way" = some (some (.ref f19))) (l19 : K.lookup f19 = some ⟨oc19, od19, .func (PySem.W.fnOf "_law_way" "_law_way" (defArgs (topS 19)) (defBody (topS 19)) (defScope (topS 19)) .none kV19 dc19 pm19 an19 cd19 ct19), sl19⟩) (c19 : PySem.W.codeIn K cd19 "_law_way" = true) (k19 : PySem.W.keepIn K (.ref f19) = true)
    (a20 : PySem.W.nsIn K mainGlobals "_law_saying" = some (some (.ref f20))) (l20 : K.lookup f20 = some ⟨oc20, od20, .func (PySem.W.fnOf "_law_saying" "_law_saying" (defArgs (topS 20)) (defBody (topS 20)) (defScope (topS 20)) .none kV20 dc20 pm20 an20 cd20 ct20), sl20⟩) (c20 : PySem.W.codeIn K cd20 "_law_saying" = true) (k20 : PySem.W.keepIn K (.ref f20) = true)
    (a21 : PySem.W.nsIn K mainGlobals "_law_goes" = some (some (.ref f21))) (l21 : K.lookup f21 = some ⟨oc21, od21, .func (PySem.W.fnOf "_law_goes" "_law_goes" (defArgs (topS 21)) (defBody (topS 21)) (defScope (topS 21)) .none kV21 dc21 pm21 an21 cd21 ct21), sl21⟩) (c21 : PySem.W.codeIn K cd21 "_law_goes" = true) (k21 : PySem.W.keepIn K (.ref f21) = true)
    (a22 : PySem.W.nsIn K mainGlobals "_law_all_stretches" = some (some (.ref f22))) (l22 : K.lookup f22 = some ⟨oc22, od22, .func (PySem.W.fnOf "_law_all_stretches" "_law_all_stretches" (defArgs (topS 22)) (defBody (topS 22)) (defScope (topS 22)) .none kV22 dc22 pm22 an22 cd22 ct22), sl22⟩) (c22 : PySem.W.codeIn K cd22 "_law_all_stretches" = true) (k22 : PySem.W.keepIn K (.ref f22) = true)
    (a23 : PySem.W.nsIn K mainGlobals "_law_holds" = some (some (.ref f23))) (l23 : K.lookup f23 = some ⟨oc23, od23, .func (PySem.W.fnOf "_law_holds" "_law_holds" (defArgs (topS 23)) (defBody (topS 23)) (defScope (topS 23)) .none kV23 dc23 pm23 an23 cd23 ct23), sl23⟩) (c23 : PySem.W.codeIn K cd23 "_law_holds" = true) (k23 : PySem.W.keepIn K (.ref f23) = true)
    (a24 : PySem.W.nsIn K mainGlobals "law" = some (some (.ref f24))) (l24 : K.lookup f24 = some ⟨oc24, od24, .func (PySem.W.fnOf "law" "law" (defArgs (topS 24)) (defBody (topS 24)) (defScope (topS 24)) .none kV24 dc24 pm24 an24 cd24 ct24), sl24⟩) (c24 : PySem.W.codeIn K cd24 "law" = true) (k24 : PySem.W.keepIn K (.ref f24) = true)
    (a9_0 : PySem.W.findIn K (.ref K0) "__init__" = some (some (.ref f9_0))) (i9_0 : PySem.W.isFn K (.ref f9_0) = true) (l9_0 : K.lookup f9_0 = some ⟨oc9_0, od9_0, .func (PySem.W.fnOf "__init__" "Teller.__init__" (defArgs (inClass (topS 9) 0)) (defBody (inClass (topS 9) 0)) (defScope (inClass (topS 9) 0)) .none kV9_0 dc9_0 pm9_0 an9_0 cd9_0 ct9_0), sl9_0⟩) (c9_0 : PySem.W.codeIn K cd9_0 "Teller.__init__" = true) (k9_0 : PySem.W.keepIn K (.ref f9_0) = true)
    (a9_1 : PySem.W.findIn K (.ref K0) "add" = some (some (.ref f9_1))) (i9_1 : PySem.W.isFn K (.ref f9_1) = true) (l9_1 : K.lookup f9_1 = some ⟨oc9_1, od9_1, .func (PySem.W.fnOf "add" "Teller.add" (defArgs (inClass (topS 9) 1)) (defBody (inClass (topS 9) 1)) (defScope (inClass (topS 9) 1)) .none kV9_1 dc9_1 pm9_1 an9_1 cd9_1 ct9_1), sl9_1⟩) (c9_1 : PySem.W.codeIn K cd9_1 "Teller.add" = true) (k9_1 : PySem.W.keepIn K (.ref f9_1) = true)
    (a9_2 : PySem.W.findIn K (.ref K0) "tells" = some (some (.ref f9_2))) (i9_2 : PySem.W.isFn K (.ref f9_2) = true) (l9_2 : K.lookup f9_2 = some ⟨oc9_2, od9_2, .func (PySem.W.fnOf "tells" "Teller.tells" (defArgs (inClass (topS 9) 2)) (defBody (inClass (topS 9) 2)) (defScope (inClass (topS 9) 2)) .none kV9_2 dc9_2 pm9_2 an9_2 cd9_2 ct9_2), sl9_2⟩) (c9_2 : PySem.W.codeIn K cd9_2 "Teller.tells" = true) (k9_2 : PySem.W.keepIn K (.ref f9_2) = true)
    (a9_3 : PySem.W.findIn K (.ref K0) "worked" = some (some (.ref f9_3))) (i9_3 : PySem.W.isFn K (.ref f9_3) = true) (l9_3 : K.lookup f9_3 = some ⟨oc9_3, od9_3, .func (PySem.W.fnOf "worked" "Teller.worked" (defArgs (inClass (topS 9) 3)) (defBody (inClass (topS 9) 3)) (defScope (inClass (topS 9) 3)) .none kV9_3 dc9_3 pm9_3 an9_3 cd9_3 ct9_3), sl9_3⟩) (c9_3 : PySem.W.codeIn K cd9_3 "Teller.worked" = true) (k9_3 : PySem.W.keepIn K (.ref f9_3) = true)
    (xa0 : PySem.W.nsIn K mainGlobals "NotAllowed" = some (some (.ref C0))) (xs0 : PySem.W.subIn K (.ref C0) (.type "BaseException") = some true) (xt0 : PySem.W.typeIn K (.ref C0) = some (.type "type")) (xd0 : PySem.W.hasDictIn K C0 = true)
    (xk0 : PySem.W.keepIn K (.ref C0) = true) (xe0 : PySem.W.excIn K C0 [.type "ValueError", .type "Exception", .type "BaseException", .type "object"] "ValueError.__new__" = true)
    (xg0 : PySem.W.findIn K (.ref C0) "__getattribute__" = some (some (.builtin "BaseException.__getattribute__"))) (xh0 : PySem.W.findIn K (.ref C0) "__getattr__" = some none) (xc0 : PySem.W.findIn K (.ref C0) "__class__" = some (some (.builtin "object.__class__"))) (xm0 : PySem.W.mroIn K C0 (.type "object") = some true)
    (sn : PySem.W.specialIn K (.builtin "object.__class__") "__get__" = some (some (.builtin "getset_descriptor.__get__"))) (st : PySem.W.takesIn K (.builtin "object.__class__") = some true)
    (p0 : PySem.W.subIn K (.ref C0) (.ref C0) = some true)
    (z0 : PySem.W.nsIn K mainGlobals "abs" = some none)
    (z1 : PySem.W.nsIn K mainGlobals "all" = some none)
    (z2 : PySem.W.nsIn K mainGlobals "bool" = some none)
    (z3 : PySem.W.nsIn K mainGlobals "int" = some none)
    (z4 : PySem.W.nsIn K mainGlobals "isinstance" = some none)
    (z5 : PySem.W.nsIn K mainGlobals "len" = some none)
    (z6 : PySem.W.nsIn K mainGlobals "list" = some none)
    (z7 : PySem.W.nsIn K mainGlobals "max" = some none)
    (z8 : PySem.W.nsIn K mainGlobals "range" = some none)
    (z9 : PySem.W.nsIn K mainGlobals "str" = some none)
    (z10 : PySem.W.nsIn K mainGlobals "tuple" = some none)
    : ∃ c, Wd W K mg c T ck0 := by
  refine ⟨⟨K, fun x => if x = "NotAllowed" then some C0 else if x = "Teller" then some K0 else none, fun _ _ => False, W⟩, rfl, rfl, fun _ _ z => z, ?glb, ?gdc, ?blt, ?ex, ?im, ?isa, ?isv, ?df, ?mt, ?fd⟩
  case isv => exact AllP.of (l := nV) ( .nil)
  case fd => exact AllP.of2 (l := nF) (.cons ⟨K0, by rfl, ⟨kg0, kd0, ko0, ks0⟩, nf0⟩ <| .cons ⟨K0, by rfl, ⟨kg0, kd0, ko0, ks0⟩, nf1⟩ <| .cons ⟨K0, by rfl, ⟨kg0, kd0, ko0, ks0⟩, nf2⟩ <| .cons ⟨K0, by rfl, ⟨kg0, kd0, ko0, ks0⟩, nf3⟩ <| .cons ⟨K0, by rfl, ⟨kg0, kd0, ko0, ks0⟩, nf4⟩ <| .nil)
  case mt => exact AllP.of2 (l := nM) (.cons ⟨K0, f9_0, 3, by rfl, ⟨kg0, kd0, ko0, ks0⟩, ⟨a9_0, i9_0, k9_0⟩, ⟨⟨_, ["self", "run", "saying"], N_Teller___init__, _, _, (inClass (topS 9) 0), d_Teller___init__, rfl, (fun_mk l9_0 c9_0 k9_0).binds fun _ _ _ _ _ _ us hl => (match us, hl with | [_, _, _], _ => rfl), fun_mk l9_0 c9_0 k9_0, sc_Teller___init__, by rfl, rfl, rfl, ch_Teller___init__⟩⟩⟩ <|
    .cons ⟨K0, f9_1, 2, by rfl, ⟨kg0, kd0, ko0, ks0⟩, ⟨a9_1, i9_1, k9_1⟩, ⟨⟨_, ["self", "saying"], N_Teller_add, _, _, (inClass (topS 9) 1), d_Teller_add, rfl, (fun_mk l9_1 c9_1 k9_1).binds fun _ _ _ _ _ _ us hl => (match us, hl with | [_, _], _ => rfl), fun_mk l9_1 c9_1 k9_1, sc_Teller_add, by rfl, rfl, rfl, ch_Teller_add⟩⟩⟩ <|
    .cons ⟨K0, f9_2, 3, by rfl, ⟨kg0, kd0, ko0, ks0⟩, ⟨a9_2, i9_2, k9_2⟩, ⟨⟨_, ["self", "number", "here"], N_Teller_tells, _, _, (inClass (topS 9) 2), d_Teller_tells, rfl, (fun_mk l9_2 c9_2 k9_2).binds fun _ _ _ _ _ _ us hl => (match us, hl with | [_, _, _], _ => rfl), fun_mk l9_2 c9_2 k9_2, sc_Teller_tells, by rfl, rfl, rfl, ch_Teller_tells⟩⟩⟩ <|
    .cons ⟨K0, f9_3, 3, by rfl, ⟨kg0, kd0, ko0, ks0⟩, ⟨a9_3, i9_3, k9_3⟩, ⟨⟨_, ["self", "number", "here"], N_Teller_worked, _, _, (inClass (topS 9) 3), d_Teller_worked, rfl, (fun_mk l9_3 c9_3 k9_3).binds fun _ _ _ _ _ _ us hl => (match us, hl with | [_, _, _], _ => rfl), fun_mk l9_3 c9_3 k9_3, sc_Teller_worked, by rfl, rfl, rfl, ch_Teller_worked⟩⟩⟩ <| .nil)
  case glb => exact fun x v e => by cases e
  case gdc => exact fun x v e => by cases e
  case blt => exact AllP.of (l := nB) (.cons (PySem.W.mg_none_of X G z0) <| .cons (PySem.W.mg_none_of X G z1) <| .cons (PySem.W.mg_none_of X G z2) <| .cons (PySem.W.mg_none_of X G z3) <| .cons (PySem.W.mg_none_of X G z4) <| .cons (PySem.W.mg_none_of X G z5) <| .cons (PySem.W.mg_none_of X G z6) <| .cons (PySem.W.mg_none_of X G z7) <| .cons (PySem.W.mg_none_of X G z8) <| .cons (PySem.W.mg_none_of X G z9) <| .cons (PySem.W.mg_none_of X G z10) <| .nil)
  case ex => exact AllP.of (l := nX) (.cons ⟨C0, by rfl, fun Y e1 e2 => clsOk Y e1 e2 (PySem.W.mg_of X G xa0) xk0 xe0 xs0 xt0 xg0 xh0 xd0 xc0 sn st xm0⟩ <| .nil)
  case im => exact AllP.of (l := nI) ( .nil)
  case isa => exact isTab_of (l := isTab) (.cons ⟨C0, C0, rfl, rfl, PySem.W.exm_ref xs0 xd0 xt0 p0, kit_self, ⟨xg0, xh0, xs0, xd0, xc0, sn, st, xm0⟩⟩ <| .nil)
  case df => exact AllP.of (l := nD) (.cons (.inl ⟨⟨_, _, ["saying"], N_parts_of, _, _, (topS 4), d_parts_of, PySem.W.mg_of X G a4, (fun_mk l4 c4 k4).binds fun _ _ _ _ _ _ us hl => (match us, hl with | [_], _ => rfl), fun_mk l4 c4 k4, sc_parts_of, rfl, rfl, rfl, ch_parts_of⟩⟩) <|
    .cons (.inl ⟨⟨_, _, ["way", "here", "there"], N_is_reached, _, _, (topS 6), d_is_reached, PySem.W.mg_of X G a6, (fun_mk l6 c6 k6).binds fun _ _ _ _ _ _ us hl => (match us, hl with | [_, _, _], _ => rfl), fun_mk l6 c6 k6, sc_is_reached, rfl, rfl, rfl, ch_is_reached⟩⟩) <|
    .cons (.inl ⟨⟨_, _, ["way", "here", "there"], N_is_beside, _, _, (topS 7), d_is_beside, PySem.W.mg_of X G a7, (fun_mk l7 c7 k7).binds fun _ _ _ _ _ _ us hl => (match us, hl with | [_, _, _], _ => rfl), fun_mk l7 c7 k7, sc_is_beside, rfl, rfl, rfl, ch_is_beside⟩⟩) <|
    .cons (.inl ⟨⟨_, _, ["many"], N_stretches_of, _, _, (topS 8), d_stretches_of, PySem.W.mg_of X G a8, (fun_mk l8 c8 k8).binds fun _ _ _ _ _ _ us hl => (match us, hl with | [_], _ => rfl), fun_mk l8 c8 k8, sc_stretches_of, rfl, rfl, rfl, ch_stretches_of⟩⟩) <|
    .cons (.inl ⟨⟨_, _, ["run", "saying", "first", "last"], N_holds, _, _, (topS 10), d_holds, PySem.W.mg_of X G a10, (fun_mk l10 c10 k10).binds fun _ _ _ _ _ _ us hl => (match us, hl with | [_, _, _, _], _ => rfl), fun_mk l10 c10 k10, sc_holds, rfl, rfl, rfl, ch_holds⟩⟩) <|
    .cons (.inl ⟨⟨_, _, ["told", "due"], N__law_same, _, _, (topS 12), d__law_same, PySem.W.mg_of X G a12, (fun_mk l12 c12 k12).binds fun _ _ _ _ _ _ us hl => (match us, hl with | [_, _], _ => rfl), fun_mk l12 c12 k12, sc__law_same, rfl, rfl, rfl, ch__law_same⟩⟩) <|
    .cons (.inl ⟨⟨_, _, ["script"], N__law_stream, _, _, (topS 13), d__law_stream, PySem.W.mg_of X G a13, (fun_mk l13 c13 k13).binds fun _ _ _ _ _ _ us hl => (match us, hl with | [_], _ => rfl), fun_mk l13 c13 k13, sc__law_stream, rfl, rfl, rfl, ch__law_stream⟩⟩) <|
    .cons (.inl ⟨⟨_, _, ["state", "many"], N__law_next, _, _, (topS 14), d__law_next, PySem.W.mg_of X G a14, (fun_mk l14 c14 k14).binds fun _ _ _ _ _ _ us hl => (match us, hl with | [_, _], _ => rfl), fun_mk l14 c14 k14, sc__law_next, rfl, rfl, rfl, ch__law_next⟩⟩) <|
    .cons (.inl ⟨⟨_, _, ["state", "taken"], N__law_word, _, _, (topS 15), d__law_word, PySem.W.mg_of X G a15, (fun_mk l15 c15 k15).binds fun _ _ _ _ _ _ us hl => (match us, hl with | [_, _], _ => rfl), fun_mk l15 c15 k15, sc__law_word, rfl, rfl, rfl, ch__law_word⟩⟩) <|
    .cons (.inl ⟨⟨_, _, ["state", "many"], N__law_facts, _, _, (topS 16), d__law_facts, PySem.W.mg_of X G a16, (fun_mk l16 c16 k16).binds fun _ _ _ _ _ _ us hl => (match us, hl with | [_, _], _ => rfl), fun_mk l16 c16 k16, sc__law_facts, rfl, rfl, rfl, ch__law_facts⟩⟩) <|
    .cons (.inl ⟨⟨_, _, ["state", "facts"], N__law_scene, _, _, (topS 17), d__law_scene, PySem.W.mg_of X G a17, (fun_mk l17 c17 k17).binds fun _ _ _ _ _ _ us hl => (match us, hl with | [_, _], _ => rfl), fun_mk l17 c17 k17, sc__law_scene, rfl, rfl, rfl, ch__law_scene⟩⟩) <|
    .cons (.inl ⟨⟨_, _, ["state", "facts", "many"], N__law_run, _, _, (topS 18), d__law_run, PySem.W.mg_of X G a18, (fun_mk l18 c18 k18).binds fun _ _ _ _ _ _ us hl => (match us, hl with | [_, _, _], _ => rfl), fun_mk l18 c18 k18, sc__law_run, rfl, rfl, rfl, ch__law_run⟩⟩) <|
    .cons (.inl ⟨⟨_, _, ["state"], N__law_way, _, _, (topS 19), d__law_way, PySem.W.mg_of X G a19, (fun_mk l19 c19 k19).binds fun _ _ _ _ _ _ us hl => (match us, hl with | [_], _ => rfl), fun_mk l19 c19 k19, sc__law_way, rfl, rfl, rfl, ch__law_way⟩⟩) <|
    .cons (.inl ⟨⟨_, _, ["state", "facts", "room", "deep"], N__law_saying, _, _, (topS 20), d__law_saying, PySem.W.mg_of X G a20, (fun_mk l20 c20 k20).binds fun _ _ _ _ _ _ us hl => (match us, hl with | [_, _, _, _], _ => rfl), fun_mk l20 c20 k20, sc__law_saying, rfl, rfl, rfl, ch__law_saying⟩⟩) <|
    .cons (.inl ⟨⟨_, _, ["way", "here", "there"], N__law_goes, _, _, (topS 21), d__law_goes, PySem.W.mg_of X G a21, (fun_mk l21 c21 k21).binds fun _ _ _ _ _ _ us hl => (match us, hl with | [_, _, _], _ => rfl), fun_mk l21 c21 k21, sc__law_goes, rfl, rfl, rfl, ch__law_goes⟩⟩) <|
    .cons (.inl ⟨⟨_, _, ["many"], N__law_all_stretches, _, _, (topS 22), d__law_all_stretches, PySem.W.mg_of X G a22, (fun_mk l22 c22 k22).binds fun _ _ _ _ _ _ us hl => (match us, hl with | [_], _ => rfl), fun_mk l22 c22 k22, sc__law_all_stretches, rfl, rfl, rfl, ch__law_all_stretches⟩⟩) <|
    .cons (.inl ⟨⟨_, _, ["run", "saying", "here"], N__law_holds, _, _, (topS 23), d__law_holds, PySem.W.mg_of X G a23, (fun_mk l23 c23 k23).binds fun _ _ _ _ _ _ us hl => (match us, hl with | [_, _, _], _ => rfl), fun_mk l23 c23 k23, sc__law_holds, rfl, rfl, rfl, ch__law_holds⟩⟩) <|
    .cons (.inl ⟨⟨_, _, ["script"], N_law, _, _, (topS 24), d_law, PySem.W.mg_of X G a24, (fun_mk l24 c24 k24).binds fun _ _ _ _ _ _ us hl => (match us, hl with | [_], _ => rfl), fun_mk l24 c24 k24, sc_law, rfl, rfl, rfl, ch_law⟩⟩) <|
    .cons (.inr ⟨⟨K0, f9_0, 2, PySem.W.mg_of X G ka0, by rfl, ⟨km0, a9_0, i9_0, kk0⟩, by rfl, by rfl, ⟨⟨_, ["self", "run", "saying"], N_Teller___init__, _, _, (inClass (topS 9) 0), d_Teller___init__, rfl, (fun_mk l9_0 c9_0 k9_0).binds fun _ _ _ _ _ _ us hl => (match us, hl with | [_, _, _], _ => rfl), fun_mk l9_0 c9_0 k9_0, sc_Teller___init__, by rfl, rfl, rfl, ch_Teller___init__⟩⟩⟩⟩) <| .nil)
structure Txt (T : Tb) : Prop where
  f_parts_of : T.df "parts_of" = some Z.d_parts
  f_is_reached : T.df "is_reached" = some Z.d_reach1
  f_is_beside : T.df "is_beside" = some Z.d_beside
  f_stretches_of : T.df "stretches_of" = some Z.d_strof
  f_holds : T.df "holds" = some Z.d_holds
  f__law_same : T.df "_law_same" = some d__law_same
  f__law_stream : T.df "_law_stream" = some Z.d_stream
  f__law_next : T.df "_law_next" = some Z.d_next
  f__law_word : T.df "_law_word" = some Z.d_word
  f__law_facts : T.df "_law_facts" = some Z.d_facts
  f__law_scene : T.df "_law_scene" = some Z.d_scene
  f__law_run : T.df "_law_run" = some Z.d_run
  f__law_way : T.df "_law_way" = some Z.d_way
  f__law_saying : T.df "_law_saying" = some Z.d_saying
  f__law_goes : T.df "_law_goes" = some Z.d_goes
  f__law_all_stretches : T.df "_law_all_stretches" = some Z.d_allstr
  f__law_holds : T.df "_law_holds" = some Z.d_lholds
  f_law : T.df "law" = some d_law
  f_Teller___init__ : T.df ("Teller" ++ "." ++ "__init__") = some Z.d_Tinit
  f_Teller_add : T.df ("Teller" ++ "." ++ "add") = some Z.d_Tadd
  f_Teller_tells : T.df ("Teller" ++ "." ++ "tells") = some Z.d_Ttells
  f_Teller_worked : T.df ("Teller" ++ "." ++ "worked") = some Z.d_Twork
  x_NotAllowed_NotAllowed : T.isA "NotAllowed" "NotAllowed" = some true
  k_Teller : T.df "Teller" = none
  l_Teller : T.cls "Teller" = true
  i_Teller : T.df ("Teller" ++ ".__init__") = some Z.d_Tinit
theorem txt : Txt T := ⟨by rfl, by rfl, by rfl, by rfl, by rfl, by rfl, by rfl, by rfl, by rfl, by rfl, by rfl, by rfl, by rfl, by rfl, by rfl, by rfl, by rfl, by rfl, by rfl, by rfl, by rfl, by rfl, by rfl, by rfl, by rfl, by rfl⟩
end K07

set_option Elab.async false
set_option linter.all false
set_option maxRecDepth 100000
set_option autoImplicit false
set_option maxHeartbeats 1000000
namespace K07
open PySem Z
/-! ### the plain truths -/
def qw (b : Bool) (w : Str) (s : Sy) : Sy := if b then .so w s else .al w s
theorem qw_av {b : Bool} {w : Str} {s : Sy} : (qw b w s).av = .tup [.str (if b then "some" else "all"), .str w, s.av] := by cases b <;> rfl
theorem qw_ok {b : Bool} {w : Str} {s : Sy} (hw : w ∈ ways) (ok : s.ok) : (qw b w s).ok := by cases b <;> exact ⟨hw, ok⟩
theorem qw_dep {b : Bool} {w : Str} {s : Sy} : (qw b w s).dep = s.dep + 1 := by cases b <;> rfl
theorem qw_size {b : Bool} {w : Str} {s : Sy} : (qw b w s).size = s.size + 1 := by cases b <;> rfl
section
variable {run : List (List Str)} {s : Sy} {i j : Int}
theorem so_iff {w : Str} : mean run (.so w s) i j = true ↔ ∃ p ∈ allSt run.length, goB w i j p.1 p.2 = true ∧ mean run s p.1 p.2 = true := by
  show ((allSt run.length).any fun p => goB w i j p.1 p.2 && mean run s p.1 p.2) = true ↔ _
  rw [List.any_eq_true]
  simp only [Bool.and_eq_true]
theorem al_iff {w : Str} : mean run (.al w s) i j = true ↔ ∀ p ∈ allSt run.length, goB w i j p.1 p.2 = true → mean run s p.1 p.2 = true := by
  show ((allSt run.length).all fun p => !goB w i j p.1 p.2 || mean run s p.1 p.2) = true ↔ _
  rw [List.all_eq_true]
  refine forall_congr' fun p => forall_congr' fun _ => ?_
  cases goB w i j p.1 p.2 <;> simp
def rows : List (Str × Str × Str) := [("during", "begins", "ends"), ("during", "ends", "begins"), ("around", "begun", "ended"), ("around", "ended", "begun"), ("later", "meets", "ends"), ("earlier", "met", "begins"), ("overlaps", "ends", "begun"), ("overlapped", "begins", "ended")]
theorem comp_row {m : Nat} : ∀ r ∈ rows, ∀ i j c d : Int, (i, j) ∈ allSt m → (c, d) ∈ allSt m → (goB r.1 i j c d = true ↔ ∃ p ∈ allSt m, goB r.2.1 i j p.1 p.2 = true ∧ goB r.2.2 p.1 p.2 c d = true) := by
  intro r hr i j c d h1 h2
  have h1' := mem_allSt.mp h1
  have h2' := mem_allSt.mp h2
  have e0 : ∀ i j a b, goB "begins" i j a b = (decide (a = i) && decide (b < j)) := fun i j a b => by simp (decide := true) [goB]
  have e1 : ∀ i j a b, goB "begun" i j a b = (decide (a = i) && decide (j < b)) := fun i j a b => by simp (decide := true) [goB]
  have e2 : ∀ i j a b, goB "ends" i j a b = (decide (i < a) && decide (b = j)) := fun i j a b => by simp (decide := true) [goB]
  have e3 : ∀ i j a b, goB "ended" i j a b = (decide (a < i) && decide (b = j)) := fun i j a b => by simp (decide := true) [goB]
  have e4 : ∀ i j a b, goB "during" i j a b = (decide (i < a) && decide (b < j)) := fun i j a b => by simp (decide := true) [goB]
  have e5 : ∀ i j a b, goB "around" i j a b = (decide (a < i) && decide (j < b)) := fun i j a b => by simp (decide := true) [goB]
  have e6 : ∀ i j a b, goB "meets" i j a b = decide (a = j) := fun i j a b => by simp (decide := true) [goB]
  have e7 : ∀ i j a b, goB "met" i j a b = decide (b = i) := fun i j a b => by simp (decide := true) [goB]
  have e8 : ∀ i j a b, goB "later" i j a b = decide (j < a) := fun i j a b => by simp (decide := true) [goB]
  have e9 : ∀ i j a b, goB "earlier" i j a b = decide (b < i) := fun i j a b => by simp (decide := true) [goB]
  have e10 : ∀ i j a b, goB "overlaps" i j a b = (decide (i < a) && decide (a ≤ j) && decide (j < b)) := fun i j a b => by simp (decide := true) [goB]
  have e11 : ∀ i j a b, goB "overlapped" i j a b = (decide (a < i) && decide (i ≤ b) && decide (b < j)) := fun i j a b => by simp (decide := true) [goB]
  simp only [rows, List.mem_cons, List.not_mem_nil, or_false] at hr
  have mk : ∀ (a b : Int) (P : Pr → Prop), (0 ≤ a ∧ a ≤ b ∧ b < m) → P (a, b) → ∃ p ∈ allSt m, P p := fun a b P h q => ⟨(a, b), mem_allSt.mpr h, q⟩
  rcases hr with rfl | rfl | rfl | rfl | rfl | rfl | rfl | rfl <;> simp only [e0, e1, e2, e3, e4, e5, e6, e7, e8, e9, e10, e11, Bool.and_eq_true, decide_eq_true_eq] <;> constructor
  all_goals first
    | (rintro ⟨⟨a, b⟩, hp, q⟩
       have hp := mem_allSt.mp hp
       simp only at q
       omega)
    | skip
  · intro h; exact mk i d _ (by omega) (by refine ⟨⟨?_, ?_⟩, ?_⟩ <;> dsimp only <;> omega)
  · intro h; exact mk c j _ (by omega) (by refine ⟨⟨?_, ?_⟩, ?_⟩ <;> dsimp only <;> omega)
  · intro h; exact mk i d _ (by omega) (by refine ⟨⟨?_, ?_⟩, ?_⟩ <;> dsimp only <;> omega)
  · intro h; exact mk c j _ (by omega) (by refine ⟨⟨?_, ?_⟩, ?_⟩ <;> dsimp only <;> omega)
  · intro h; exact mk j d _ (by omega) (by refine ⟨?_, ?_, ?_⟩ <;> dsimp only <;> omega)
  · intro h; exact mk c i _ (by omega) (by refine ⟨?_, ?_, ?_⟩ <;> dsimp only <;> omega)
  · intro h; exact mk c j _ (by omega) (by refine ⟨⟨?_, ?_⟩, ?_⟩ <;> dsimp only <;> omega)
  · intro h; exact mk i d _ (by omega) (by refine ⟨⟨?_, ?_⟩, ?_⟩ <;> dsimp only <;> omega)
theorem row_eq {b : Bool} {r : Str × Str × Str} (hr : r ∈ rows) (h : (i, j) ∈ allSt run.length) : mean run (qw b r.1 s) i j = mean run (qw b r.2.1 (qw b r.2.2 s)) i j := by
  rw [Bool.eq_iff_iff]
  cases b
  · show mean run (.al _ _) i j = true ↔ mean run (.al _ (.al _ _)) i j = true
    rw [al_iff, al_iff]
    constructor
    · intro z p hp g
      rw [al_iff]
      intro q hq g2
      exact z q hq ((comp_row r hr i j q.1 q.2 h hq).mpr ⟨p, hp, g, g2⟩)
    · intro z q hq g
      obtain ⟨p, hp, g1, g2⟩ := (comp_row r hr i j q.1 q.2 h hq).mp g
      exact al_iff.mp (z p hp g1) q hq g2
  · show mean run (.so _ _) i j = true ↔ mean run (.so _ (.so _ _)) i j = true
    rw [so_iff, so_iff]
    constructor
    · rintro ⟨q, hq, g, z⟩
      obtain ⟨p, hp, g1, g2⟩ := (comp_row r hr i j q.1 q.2 h hq).mp g
      exact ⟨p, hp, g1, so_iff.mpr ⟨q, hq, g2, z⟩⟩
    · rintro ⟨p, hp, g1, z⟩
      obtain ⟨q, hq, g2, z⟩ := so_iff.mp z
      exact ⟨q, hq, (comp_row r hr i j q.1 q.2 h hq).mpr ⟨p, hp, g1, g2⟩, z⟩
theorem at_eq {b : Bool} {w : Str} {a : Int} (hw : w = "meets" ∨ w = "later") : mean run (qw b w s) i j = mean run (qw b w s) a j := by
  have e : ∀ c d, goB w i j c d = goB w a j c d := fun c d => by
    rcases hw with rfl | rfl <;> simp (decide := true) [goB]
  cases b
  · show ((allSt run.length).all fun p => !goB w i j p.1 p.2 || mean run s p.1 p.2) = _
    simp only [e]
    rfl
  · show ((allSt run.length).any fun p => goB w i j p.1 p.2 && mean run s p.1 p.2) = _
    simp only [e]
    rfl
theorem fc_iff {f : Str} (h : (i, j) ∈ allSt run.length) : mean run (.fc f) i j = true ↔ ∀ k : Nat, i ≤ k → k ≤ j → f ∈ run[k]?.getD [] := by
  have h' := mem_allSt.mp h
  show ((List.range (j + 1 - i).toNat).all fun t => decide (f ∈ run[i.toNat + t]?.getD [])) = true ↔ _
  rw [List.all_eq_true]
  constructor
  · intro z k h1 h2
    have := z (k - i.toNat) (List.mem_range.mpr (by omega))
    rw [show i.toNat + (k - i.toNat) = k by omega] at this
    simpa using this
  · intro z t ht
    have := List.mem_range.mp ht
    simpa using z (i.toNat + t) (by omega) (by omega)
theorem cut_eq {f : Str} {c : Int} (h : (i, j) ∈ allSt run.length) (h1 : i ≤ c) (h2 : c ≤ j) : mean run (.fc f) i j = (mean run (.fc f) i c && mean run (.fc f) c j) := by
  have h' := mem_allSt.mp h
  rw [Bool.eq_iff_iff, Bool.and_eq_true, fc_iff h, fc_iff (mem_allSt.mpr (by omega)), fc_iff (mem_allSt.mpr (by omega))]
  constructor
  · intro z
    exact ⟨fun k a b => z k a (by omega), fun k a b => z k (by omega) b⟩
  · rintro ⟨z1, z2⟩ k a b
    by_cases q : (k : Int) ≤ c
    · exact z1 k a q
    · exact z2 k (by omega) b
def ptsS (f : Str) : Sy := .al "during" (.or (.nt .pt) (.fc f))
def endS (w : Str) (f : Str) : Sy := .so w (.an .pt (.fc f))
theorem ends_eq {f : Str} (h : (i, j) ∈ allSt run.length) : mean run (.fc f) i j = mean run (.an (ptsS f) (.an (endS "meets" f) (endS "met" f))) i j := by
  have h' := mem_allSt.mp h
  have e4 : ∀ i j a b, goB "during" i j a b = (decide (i < a) && decide (b < j)) := fun i j a b => by simp (decide := true) [goB]
  have e6 : ∀ i j a b, goB "meets" i j a b = decide (a = j) := fun i j a b => by simp (decide := true) [goB]
  have e7 : ∀ i j a b, goB "met" i j a b = decide (b = i) := fun i j a b => by simp (decide := true) [goB]
  show _ = (mean run (ptsS f) i j && (mean run (endS "meets" f) i j && mean run (endS "met" f) i j))
  rw [Bool.eq_iff_iff, Bool.and_eq_true, Bool.and_eq_true, fc_iff h]
  unfold ptsS endS
  rw [al_iff, so_iff, so_iff]
  constructor
  · intro z
    refine ⟨fun p hp g => ?_, ⟨(j, j), mem_allSt.mpr (by omega), by simp [e6], ?_⟩, ⟨(i, i), mem_allSt.mpr (by omega), by simp [e7], ?_⟩⟩
    · obtain ⟨a, b⟩ := p
      have hp' := mem_allSt.mp hp
      simp only [e4, Bool.and_eq_true, decide_eq_true_eq] at g
      show (!decide (a = b) || mean run (.fc f) a b) = true
      rw [Bool.or_eq_true]
      exact .inr ((fc_iff hp).mpr fun k h1 h2 => z k (by omega) (by omega))
    · show (decide (j = j) && mean run (.fc f) j j) = true
      rw [Bool.and_eq_true]
      exact ⟨by simp, (fc_iff (mem_allSt.mpr (by omega))).mpr fun k h1 h2 => z k (by omega) (by omega)⟩
    · show (decide (i = i) && mean run (.fc f) i i) = true
      rw [Bool.and_eq_true]
      exact ⟨by simp, (fc_iff (mem_allSt.mpr (by omega))).mpr fun k h1 h2 => z k (by omega) (by omega)⟩
  · rintro ⟨z1, ⟨⟨a, b⟩, hp, g, z2⟩, ⟨⟨a2, b2⟩, hp2, g2, z3⟩⟩ k h1 h2
    simp only [e6, e7, decide_eq_true_eq] at g g2
    have z2 : (decide (a = b) && mean run (.fc f) a b) = true := z2
    have z3 : (decide (a2 = b2) && mean run (.fc f) a2 b2) = true := z3
    rw [Bool.and_eq_true, decide_eq_true_eq] at z2 z3
    obtain ⟨u1, z2⟩ := z2
    obtain ⟨u2, z3⟩ := z3
    by_cases c1 : (k : Int) = j
    · exact (fc_iff hp).mp z2 k (by omega) (by omega)
    · by_cases c2 : (k : Int) = i
      · exact (fc_iff hp2).mp z3 k (by omega) (by omega)
      · have hk : ((k : Int), (k : Int)) ∈ allSt run.length := mem_allSt.mpr (by omega)
        have := z1 (k, k) hk (by simp only [e4, Bool.and_eq_true, decide_eq_true_eq]; omega)
        have z4 : (!decide ((k : Int) = k) || mean run (.fc f) k k) = true := this
        simp only [decide_true, Bool.not_true, Bool.false_or] at z4
        exact (fc_iff hk).mp z4 k (by omega) (by omega)
end
end K07

set_option Elab.async false
set_option linter.all false
set_option maxRecDepth 100000
set_option autoImplicit false
set_option maxHeartbeats 1000000
namespace K07
open PySem Z
section
variable {T : Tb} {h g : AH} {X : Ex → AH → Prop}
theorem sm_bool (τ : Txt T) {n : Nat} {b : Bool} {Q : AV → AH → Prop} (q : Q (.bl true) h) : wp (callN T (n + 1) false "_law_same" [.bl b, .bl b]) Q X h := by
  refine wp_call τ.f__law_same rfl ?_
  simp only [d__law_same]
  have e1 : isB h (.bl b) ["bool"] = some true := rfl
  have e2 : cmpV h .isN (.bl b) .non = some false := rfl
  simp [e1, e2]
  exact end_same (by simp [AV.lt]) q
end
end K07

set_option Elab.async false
set_option linter.all false
set_option maxRecDepth 100000
set_option autoImplicit false
set_option maxHeartbeats 1000000
namespace K07
open PySem Z
def sB1 : S := (.asg (.cons (.var 15) (.cons (.var 16) .nil)) (.idx (.var 5) (.call false "_law_next" (.cons (.var 1) (.cons (.bf .len (.cons (.var 5) (.nil))) (.nil))))))
def sB2 : S := (.ite (.not (.call false "_law_same" (.cons (.call false "holds" (.cons (.var 3) (.cons (.var 4) (.cons (.var 15) (.cons (.var 16) (.nil)))))) (.cons (.call false "_law_holds" (.cons (.var 3) (.cons (.var 4) (.cons (.tup (.cons (.var 15) (.cons (.var 16) (.nil)))) (.nil))))) (.nil))))) (.seq (.ret (.bl false))
(.nil)) (.nil))
def sB3 : S := (.for (.cons (.var 10) (.cons (.var 17) (.cons (.var 18) .nil))) (.var 7) (.seq (.ite (.cmp .ne (.call false "holds" (.cons (.var 3) (.cons (.tup (.cons (.var 6) (.cons (.var 10) (.cons (.var 4) (.nil))))) (.cons (.var 15) (.cons (.var 16) (.nil)))))) (.call false "holds" (.cons (.var 3) (.cons (.tup (.cons (.var 6) (.cons (.var 17) (.cons (.tup (.cons (.var 6) (.cons (.var 18) (.cons (.var 4) (.nil))))) (.nil))))) (.cons (.var 15) (.cons (.var 16) (.nil))))))) (.seq (.ret (.bl false))
(.nil)) (.nil))
(.nil)))
def sB4 : S := (.asg (.var 9) (.call false "_law_next" (.cons (.var 1) (.cons (.bin .add (.var 16) (.int 1)) (.nil)))))
def sB5 : S := (.for (.var 10) (.lst (.cons (.str "meets") (.cons (.str "later") (.nil)))) (.seq (.ite (.cmp .ne (.call false "holds" (.cons (.var 3) (.cons (.tup (.cons (.var 6) (.cons (.var 10) (.cons (.var 4) (.nil))))) (.cons (.var 15) (.cons (.var 16) (.nil)))))) (.call false "holds" (.cons (.var 3) (.cons (.tup (.cons (.var 6) (.cons (.var 10) (.cons (.var 4) (.nil))))) (.cons (.var 9) (.cons (.var 16) (.nil))))))) (.seq (.ret (.bl false))
(.nil)) (.nil))
(.nil)))
def sB6 : S := (.asg (.var 11) (.tup (.cons (.str "fact") (.cons (.idx (.var 2) (.call false "_law_next" (.cons (.var 1) (.cons (.bf .len (.cons (.var 2) (.nil))) (.nil))))) (.nil)))))
def sB7 : S := (.asg (.var 12) (.tup (.cons (.str "all") (.cons (.str "during") (.cons (.tup (.cons (.str "or") (.cons (.tup (.cons (.str "not") (.cons (.tup (.cons (.str "point") (.nil))) (.nil)))) (.cons (.var 11) (.nil))))) (.nil))))))
def sB8 : S := (.asg (.var 13) (.lst (.cons (.tup (.cons (.str "some") (.cons (.str "meets") (.cons (.tup (.cons (.str "and") (.cons (.tup (.cons (.str "point") (.nil))) (.cons (.var 11) (.nil))))) (.nil))))) (.cons (.tup (.cons (.str "some") (.cons (.str "met") (.cons (.tup (.cons (.str "and") (.cons (.tup (.cons (.str "point") (.nil))) (.cons (.var 11) (.nil))))) (.nil))))) (.nil)))))
def sB9 : S := (.ite (.cmp .ne (.call false "holds" (.cons (.var 3) (.cons (.var 11) (.cons (.var 15) (.cons (.var 16) (.nil)))))) (.call false "holds" (.cons (.var 3) (.cons (.tup (.cons (.str "and") (.cons (.var 12) (.cons (.tup (.cons (.str "and") (.cons (.idx (.var 13) (.int 0)) (.cons (.idx (.var 13) (.int 1)) (.nil))))) (.nil))))) (.cons (.var 15) (.cons (.var 16) (.nil))))))) (.seq (.ret (.bl false))
(.nil)) (.nil))
def sB10 : S := (.asg (.var 14) (.bin .add (.var 15) (.call false "_law_next" (.cons (.var 1) (.cons (.bin .add (.bin .sub (.var 16) (.var 15)) (.int 1)) (.nil))))))
def sB11 : S := (.ite (.cmp .ne (.call false "holds" (.cons (.var 3) (.cons (.var 11) (.cons (.var 15) (.cons (.var 16) (.nil)))))) (.band (.cons (.call false "holds" (.cons (.var 3) (.cons (.var 11) (.cons (.var 15) (.cons (.var 14) (.nil)))))) (.cons (.call false "holds" (.cons (.var 3) (.cons (.var 11) (.cons (.var 14) (.cons (.var 16) (.nil)))))) (.nil))))) (.seq (.ret (.bl false))
(.nil)) (.nil))
def sB : S := (.seq sB1 (.seq sB2 (.seq sB3 (.seq sB4 (.seq sB5 (.seq sB6 (.seq sB7 (.seq sB8 (.seq sB9 (.seq sB10 (.seq sB11 .nil)))))))))))
def sL1 : S := (.asg (.var 1) (.own (.lst (.cons (.call false "_law_stream" (.cons (.var 0) (.nil))) (.cons (.int 0) (.nil))))))
def sL2 : S := (.asg (.var 2) (.call false "_law_facts" (.cons (.var 1) (.cons (.bin .add (.int 1) (.call false "_law_next" (.cons (.var 1) (.cons (.int 3) (.nil))))) (.nil)))))
def sL3 : S := (.asg (.var 3) (.call false "_law_run" (.cons (.var 1) (.cons (.var 2) (.cons (.bin .add (.int 1) (.call false "_law_next" (.cons (.var 1) (.cons (.int 7) (.nil))))) (.nil))))))
def sL4 : S := (.asg (.var 4) (.call false "_law_saying" (.cons (.var 1) (.cons (.var 2) (.cons (.bin .add (.int 1) (.call false "_law_next" (.cons (.var 1) (.cons (.int 8) (.nil))))) (.cons (.int 2) (.nil)))))))
def sL5 : S := (.asg (.var 5) (.call false "_law_all_stretches" (.cons (.bf .len (.cons (.var 3) (.nil))) (.nil))))
def sL6 : S := (.asg (.var 6) (.idx (.lst (.cons (.str "some") (.cons (.str "all") (.nil)))) (.call false "_law_next" (.cons (.var 1) (.cons (.int 2) (.nil))))))
def sL7 : S := (.asg (.var 7) (.lst (.cons (.tup (.cons (.str "during") (.cons (.str "begins") (.cons (.str "ends") (.nil))))) (.cons (.tup (.cons (.str "during") (.cons (.str "ends") (.cons (.str "begins") (.nil))))) (.cons (.tup (.cons (.str "around") (.cons (.str "begun") (.cons (.str "ended") (.nil))))) (.cons (.tup (.cons (.str "around") (.cons (.str "ended") (.cons (.str "begun") (.nil))))) (.nil)))))))
def sL8 : S := (.asg (.var 7) (.bin .add (.var 7) (.lst (.cons (.tup (.cons (.str "later") (.cons (.str "meets") (.cons (.str "ends") (.nil))))) (.cons (.tup (.cons (.str "earlier") (.cons (.str "met") (.cons (.str "begins") (.nil))))) (.cons (.tup (.cons (.str "overlaps") (.cons (.str "ends") (.cons (.str "begun") (.nil))))) (.cons (.tup (.cons (.str "overlapped") (.cons (.str "begins") (.cons (.str "ended") (.nil))))) (.nil))))))))
def sL9 : S := (.for (.var 8) (.rng (.cons (.int 3) (.nil))) sB)
def sL10 : S := (.ret (.bl true))
theorem sL_eq : d_law.body = (.seq sL1 (.seq sL2 (.seq sL3 (.seq sL4 (.seq sL5 (.seq sL6 (.seq sL7 (.seq sL8 (.seq sL9 (.seq sL10 .nil)))))))))) := rfl
def rowV (r : Str × Str × Str) : AV := .tup [.str r.1, .str r.2.1, .str r.2.2]
theorem dep_size : ∀ s : Sy, s.dep < s.size
  | .pt => by simp [Sy.dep, Sy.size]
  | .fc _ => by simp [Sy.dep, Sy.size]
  | .nt a => by have := dep_size a; simp [Sy.dep, Sy.size]; omega
  | .an a b => by have := dep_size a; have := dep_size b; simp [Sy.dep, Sy.size]; omega
  | .or a b => by have := dep_size a; have := dep_size b; simp [Sy.dep, Sy.size]; omega
  | .so _ a => by have := dep_size a; simp [Sy.dep, Sy.size]; omega
  | .al _ a => by have := dep_size a; simp [Sy.dep, Sy.size]; omega
theorem row_ways : ∀ r ∈ rows, r.1 ∈ ways ∧ r.2.1 ∈ ways ∧ r.2.2 ∈ ways := by decide
section
variable {T : Tb} {h : AH} {X : Ex → AH → Prop} {ms : List Int} {fs : List Str} {run : List (List Str)} {s : Sy} {wd : Str} {b : Bool} {o0 l8 l9 l10 l11 l12 l13 l14 l15 l16 l17 l18 : Option AV}
theorem Txt.tt (τ : Txt T) : TT T := ⟨τ.f_parts_of, τ.f_is_reached, τ.f_is_beside, τ.f_stretches_of, τ.f_Teller_add, τ.f_Teller_tells, τ.f_Teller_worked, τ.k_Teller, τ.l_Teller, τ.i_Teller⟩
theorem Txt.tw (τ : Txt T) : TW T := ⟨τ.f__law_next, τ.f__law_way, τ.f__law_saying⟩
theorem hl_ok (τ : Txt T) {M : Nat} {i j : Int} {Q : AV → AH → Prop} {s : Sy} (hr : run.length ≤ 7) (hs : s.size ≤ 20) (ok : s.ok) (hM : 60 ≤ M) (hi : (i, j) ∈ allSt run.length) (q : Q (.bl (mean run s i j)) h) : wp (callN T M false "holds" [.tup (encC run), s.av, .int i, .int j]) Q X h := by
  have := dep_size s
  exact holds_ok τ.tt τ.f_holds (by omega) (by omega) ok (by omega) (fun _ => q) fun z => absurd hi z
theorem b3_ok (τ : Txt T) {M : Nat} {i j : Int} {P : Fl → AEnv → AH → Prop} (hr : run.length ≤ 7) (hs : s.size ≤ 8) (ok : s.ok) (hM : 60 ≤ M) (hi : (i, j) ∈ allSt run.length) (hq : ∀ w s, AV.tup [.str wd, .str w, s] = .tup [.str (if b then "some" else "all"), .str w, s])
    (q : ∀ l10 l17 l18, P .nx [o0, some (.ref 0), some (.tup (encS fs)), some (.tup (encC run)), some s.av, some (.lst ((allSt run.length).map En.av)), some (.str wd), some (.lst (rows.map rowV)), l8, l9, l10, l11, l12, l13, l14, some (.int i), some (.int j), l17, l18] h) :
    wpS ((sv T (callN T M) sB3).s [o0, some (.ref 0), some (.tup (encS fs)), some (.tup (encC run)), some s.av, some (.lst ((allSt run.length).map En.av)), some (.str wd), some (.lst (rows.map rowV)), l8, l9, l10, l11, l12, l13, l14, some (.int i), some (.int j), l17, l18]) P h := by
  unfold sB3
  rw [s_forS, i_var, w_var]
  simp only [List.getElem?_cons_succ, List.getElem?_cons_zero, Option.getD_some, onS_some]
  rw [it_lst, onS_some]
  refine w_for (v := .lst (rows.map rowV)) (fun t ρ h' => h' = h ∧ ∃ l10 l17 l18, ρ = [o0, some (.ref 0), some (.tup (encS fs)), some (.tup (encC run)), some s.av, some (.lst ((allSt run.length).map En.av)), some (.str wd), some (.lst (rows.map rowV)), l8, l9, l10, l11, l12, l13, l14, some (.int i), some (.int j), l17, l18]) ⟨rfl, l10, l17, l18, rfl⟩ (fun _ _ _ _ => stands_free (fun _ z => nomatch z) fun _ _ z => nomatch z) (fun t x ρ h' e hi' => ?_) (fun ρ h' hi' => ?_)
  · obtain ⟨rfl, l10, l17, l18, rfl⟩ := hi'
    rw [List.getElem?_map, Option.map_eq_some_iff] at e
    obtain ⟨r, e, rfl⟩ := e
    have hm := List.mem_of_getElem? e
    obtain ⟨w1, w2, w3⟩ := row_ways r hm
    have eq := row_eq (run := run) (s := s) (b := b) hm hi
    unfold rowV
    rw [bind_3, if_pos (by simp), onS_some]
    have b3 : 3 ≤ big := by unfold big; omega
    simp [hq, b3]
    rw [← qw_av, ← qw_av, ← qw_av]
    refine hl_ok τ hr (by rw [qw_size]; omega) (qw_ok w1 ok) hM hi ?_
    refine hl_ok τ hr (by rw [qw_size, qw_size]; omega) (qw_ok w2 (qw_ok w3 ok)) hM hi ?_
    rw [k_neB, onS_some, if_neg (by rw [eq]; simp)]
  · obtain ⟨rfl, l10, l17, l18, rfl⟩ := hi'
    exact q l10 l17 l18
theorem b5_ok (τ : Txt T) {M : Nat} {i j a : Int} {P : Fl → AEnv → AH → Prop} (hr : run.length ≤ 7) (hs : s.size ≤ 8) (ok : s.ok) (hM : 60 ≤ M) (hi : (i, j) ∈ allSt run.length) (ha : (a, j) ∈ allSt run.length) (hq : ∀ w s, AV.tup [.str wd, .str w, s] = .tup [.str (if b then "some" else "all"), .str w, s])
    (q : ∀ l10, P .nx [o0, some (.ref 0), some (.tup (encS fs)), some (.tup (encC run)), some s.av, some (.lst ((allSt run.length).map En.av)), some (.str wd), some (.lst (rows.map rowV)), l8, some (.int a), l10, l11, l12, l13, l14, some (.int i), some (.int j), l17, l18] h) :
    wpS ((sv T (callN T M) sB5).s [o0, some (.ref 0), some (.tup (encS fs)), some (.tup (encC run)), some s.av, some (.lst ((allSt run.length).map En.av)), some (.str wd), some (.lst (rows.map rowV)), l8, some (.int a), l10, l11, l12, l13, l14, some (.int i), some (.int j), l17, l18]) P h := by
  unfold sB5
  simp
  repeat (refine ⟨by (try simp only [Z.encS_len, Z.encI_len, Z.encC_len, Z.encR_len, List.length_append, List.length_cons, List.length_nil, List.length_map]); unfold Z.big; omega, ?_⟩)
  refine w_for (v := .lst [.str "meets", .str "later"]) (fun t ρ h' => h' = h ∧ ∃ l10, ρ = [o0, some (.ref 0), some (.tup (encS fs)), some (.tup (encC run)), some s.av, some (.lst ((allSt run.length).map En.av)), some (.str wd), some (.lst (rows.map rowV)), l8, some (.int a), l10, l11, l12, l13, l14, some (.int i), some (.int j), l17, l18]) ⟨rfl, l10, rfl⟩ (fun _ _ _ _ => stands_free (fun _ z => nomatch z) fun _ _ z => nomatch z) (fun t x ρ h' e hi' => ?_) (fun ρ h' hi' => ?_)
  · obtain ⟨rfl, l10, rfl⟩ := hi'
    obtain ⟨w, hw, rfl, hw2⟩ : ∃ w : Str, (w = "meets" ∨ w = "later") ∧ x = .str w ∧ w ∈ ways := by
      have := List.mem_of_getElem? e
      simp only [List.mem_cons, List.not_mem_nil, or_false] at this
      rcases this with rfl | rfl
      · exact ⟨_, .inl rfl, rfl, by decide⟩
      · exact ⟨_, .inr rfl, rfl, by decide⟩
    have eq := at_eq (run := run) (s := s) (b := b) (i := i) (j := j) (a := a) hw
    refine onS_of rfl ?_
    have b3 : 3 ≤ big := by unfold big; omega
    simp [hq, b3]
    rw [← qw_av]
    refine hl_ok τ hr (by rw [qw_size]; omega) (qw_ok hw2 ok) hM hi ?_
    refine hl_ok τ hr (by rw [qw_size]; omega) (qw_ok hw2 ok) hM ha ?_
    rw [k_neB, onS_some, if_neg (by rw [eq]; simp)]
  · obtain ⟨rfl, l10, rfl⟩ := hi'
    exact q l10
/-- one turn -/
theorem turn_ok (τ : Txt T) (D : Drw ms) {M n : Nat} {P : Fl → AEnv → AH → Prop} (st : St ms n [] h) (hn : n < 2 ^ 20) (hf : 0 < fs.length) (h0 : 0 < run.length) (hr : run.length ≤ 7) (hs : s.size ≤ 8) (ok : s.ok) (hM : 60 ≤ M) (hq : ∀ w s, AV.tup [.str wd, .str w, s] = .tup [.str (if b then "some" else "all"), .str w, s])
    (q : ∀ l9 l10 l11 l12 l13 l14 l15 l16 l17 l18 h', St ms (n + 10) [] h' → P .nx [o0, some (.ref 0), some (.tup (encS fs)), some (.tup (encC run)), some s.av, some (.lst ((allSt run.length).map En.av)), some (.str wd), some (.lst (rows.map rowV)), l8, l9, l10, l11, l12, l13, l14, l15, l16, l17, l18] h') :
    wpS ((sv T (callN T M) sB).s [o0, some (.ref 0), some (.tup (encS fs)), some (.tup (encC run)), some s.av, some (.lst ((allSt run.length).map En.av)), some (.str wd), some (.lst (rows.map rowV)), l8, l9, l10, l11, l12, l13, l14, l15, l16, l17, l18]) P h := by
  obtain ⟨M, rfl⟩ : ∃ m, M = m + 1 := ⟨M - 1, by omega⟩
  have ds := dep_size s
  have al : 0 < (allSt run.length).length := List.length_pos_of_mem (a := ((0, 0) : Pr)) (mem_allSt.mpr (by omega))
  unfold sB
  rw [s_seqS]
  unfold sB1
  simp
  refine draw_ok τ.f__law_next D st (by omega) (by omega) fun x hx h1 s1 => ?_
  refine pick_lst (by simp; omega) fun v hv => ?_
  obtain ⟨⟨i, j⟩, hi, rfl⟩ := List.mem_map.mp hv
  have hij := mem_allSt.mp hi
  rw [show (En.av ((i, j) : Pr) : AV) = .tup [.int i, .int j] from rfl, bind_2, if_pos (by simp), onS_some]
  unfold sB2
  simp
  refine hl_ok τ hr (by omega) ok hM hi ?_
  repeat (refine ⟨by (try simp only [Z.encS_len, Z.encI_len, Z.encC_len, Z.encR_len, List.length_append, List.length_cons, List.length_nil, List.length_map]); unfold Z.big; omega, ?_⟩)
  refine lholds_ok τ.f__law_holds τ.f__law_all_stretches τ.f__law_goes (by omega) s (M + 1) i j _ _ (by omega) ok hi ?_
  refine sm_bool τ ?_
  rw [tB_bl, if_pos rfl]
  refine b3_ok τ hr hs ok hM hi hq fun l10 l17 l18 => ?_
  rw [thenS_nx]
  unfold sB4
  simp
  refine draw_ok τ.f__law_next D s1 (by omega) (by omega) fun a ha h2 s2 => ?_
  refine b5_ok τ hr hs ok hM hi (mem_allSt.mpr (by omega)) hq fun l10 => ?_
  rw [thenS_nx]
  unfold sB6
  simp
  rw [encS_len]
  refine draw_ok τ.f__law_next D s2 (by omega) (by omega) fun y hy h3 s3 => ?_
  rw [show ixV h3 (.tup (encS fs)) (.int y) = some (.str (fs[y]?.getD (Str.ofString ""))) from ix_tupN (encS_at (get_getD (by omega))), onS_some]
  repeat (refine ⟨by (try simp only [Z.encS_len, Z.encI_len, Z.encC_len, Z.encR_len, List.length_append, List.length_cons, List.length_nil, List.length_map]); unfold Z.big; omega, ?_⟩)
  generalize hfx : fs[y]?.getD (Str.ofString "") = f
  unfold sB7
  simp
  repeat (refine ⟨by (try simp only [Z.encS_len, Z.encI_len, Z.encC_len, Z.encR_len, List.length_append, List.length_cons, List.length_nil, List.length_map]); unfold Z.big; omega, ?_⟩)
  unfold sB8
  simp
  repeat (refine ⟨by (try simp only [Z.encS_len, Z.encI_len, Z.encC_len, Z.encR_len, List.length_append, List.length_cons, List.length_nil, List.length_map]); unfold Z.big; omega, ?_⟩)
  unfold sB9
  simp
  refine hl_ok (s := .fc f) τ hr (by simp [Sy.size]) trivial hM hi ?_
  repeat (refine ⟨by (try simp only [Z.encS_len, Z.encI_len, Z.encC_len, Z.encR_len, List.length_append, List.length_cons, List.length_nil, List.length_map]); unfold Z.big; omega, ?_⟩)
  refine hl_ok (s := .an (ptsS f) (.an (endS "meets" f) (endS "met" f))) τ hr (by simp [ptsS, endS, Sy.size]) ⟨⟨by decide, trivial, trivial⟩, ⟨by decide, trivial, trivial⟩, by decide, trivial, trivial⟩ hM hi ?_
  rw [k_neB, onS_some, if_neg (by rw [← ends_eq hi]; simp)]
  unfold sB10
  simp
  refine draw_ok τ.f__law_next D s3 (by omega) (by omega) fun z hz h4 s4 => ?_
  rw [o_add, onS_some]
  unfold sB11
  simp
  have c1 : (i, i + (z : Int)) ∈ allSt run.length := mem_allSt.mpr (by omega)
  have c2 : (i + (z : Int), j) ∈ allSt run.length := mem_allSt.mpr (by omega)
  have ce := cut_eq (f := f) hi (c := i + z) (by omega) (by omega)
  have fin : ∀ l9 l10 l11 l12 l13 l14 l15 l16 l17 l18 h', St ms (n + 1 + 1 + 1 + 1) [] h' → P .nx [o0, some (.ref 0), some (.tup (encS fs)), some (.tup (encC run)), some s.av, some (.lst ((allSt run.length).map En.av)), some (.str wd), some (.lst (rows.map rowV)), l8, l9, l10, l11, l12, l13, l14, l15, l16, l17, l18] h' := fun l9 l10 l11 l12 l13 l14 l15 l16 l17 l18 h' s' => q _ _ _ _ _ _ _ _ _ _ _ (s'.mono (by omega))
  refine hl_ok (s := .fc f) τ hr (by simp [Sy.size]) trivial hM hi ?_
  refine hl_ok (s := .fc f) τ hr (by simp [Sy.size]) trivial hM c1 ?_
  rw [tB_bl]
  by_cases z1 : mean run (.fc f) i (i + z) = true
  · rw [if_pos z1]
    refine hl_ok (s := .fc f) τ hr (by simp [Sy.size]) trivial hM c2 ?_
    rw [k_neB, onS_some, if_neg (by rw [ce, z1]; simp)]
    exact fin _ _ _ _ _ _ _ _ _ _ _ s4
  · rw [if_neg z1]
    rw [k_neB, onS_some, if_neg (by rw [ce, Bool.eq_false_iff.mpr z1]; simp)]
    exact fin _ _ _ _ _ _ _ _ _ _ _ s4
theorem l9_ok (τ : Txt T) (D : Drw ms) {M n : Nat} {P : Fl → AEnv → AH → Prop} (st : St ms n [] h) (hn : n < 2 ^ 19) (hf : 0 < fs.length) (h0 : 0 < run.length) (hr : run.length ≤ 7) (hs : s.size ≤ 8) (ok : s.ok) (hM : 60 ≤ M) (hq : ∀ w s, AV.tup [.str wd, .str w, s] = .tup [.str (if b then "some" else "all"), .str w, s])
    (q : ∀ l8 l9 l10 l11 l12 l13 l14 l15 l16 l17 l18 h', St ms (n + 30) [] h' → P .nx [o0, some (.ref 0), some (.tup (encS fs)), some (.tup (encC run)), some s.av, some (.lst ((allSt run.length).map En.av)), some (.str wd), some (.lst (rows.map rowV)), l8, l9, l10, l11, l12, l13, l14, l15, l16, l17, l18] h') :
    wpS ((sv T (callN T M) sL9).s [o0, some (.ref 0), some (.tup (encS fs)), some (.tup (encC run)), some s.av, some (.lst ((allSt run.length).map En.av)), some (.str wd), some (.lst (rows.map rowV)), l8, l9, l10, l11, l12, l13, l14, l15, l16, l17, l18]) P h := by
  unfold sL9
  rw [s_forS]
  simp
  refine w_for (v := .non) (fun t ρ h' => St ms (n + 10 * t) [] h' ∧ ∃ l8 l9 l10 l11 l12 l13 l14 l15 l16 l17 l18, ρ = [o0, some (.ref 0), some (.tup (encS fs)), some (.tup (encC run)), some s.av, some (.lst ((allSt run.length).map En.av)), some (.str wd), some (.lst (rows.map rowV)), l8, l9, l10, l11, l12, l13, l14, l15, l16, l17, l18]) ⟨st, _, _, _, _, _, _, _, _, _, _, _, rfl⟩ (fun _ _ _ _ => stands_free (fun _ z => nomatch z) fun _ _ z => nomatch z) (fun t x ρ h' e hi' => ?_) (fun ρ h' hi' => ?_)
  · obtain ⟨s1, l8, l9, l10, l11, l12, l13, l14, l15, l16, l17, l18, rfl⟩ := hi'
    have ht : t < 3 := (rngA_get e).1
    refine onS_of rfl ?_
    refine turn_ok (b := b) τ D s1 (by omega) hf h0 hr hs ok hM hq fun l9 l10 l11 l12 l13 l14 l15 l16 l17 l18 h' s2 => ?_
    exact ⟨s2, _, _, _, _, _, _, _, _, _, _, _, rfl⟩
  · obtain ⟨s1, l8, l9, l10, l11, l12, l13, l14, l15, l16, l17, l18, rfl⟩ := hi'
    rw [rngA_len] at s1
    exact q _ _ _ _ _ _ _ _ _ _ _ _ s1
theorem law_ok (τ : Txt T) {M : Nat} (hM : 100 ≤ M) {ns : List Int} : wp (callN T (M + 1 + 1 + 1 + 1) false "law" [.ext (ns.map .int)]) (fun v h => v = .bl true ∧ h = []) (fun _ _ => False) [] := by
  refine wp_call τ.f_law rfl ?_
  rw [sL_eq]
  rw [show (List.replicate (d_law.slots - d_law.n) none : AEnv) = [none, none, none, none, none, none, none, none, none, none, none, none, none, none, none, none, none, none] from rfl]
  unfold sL1
  simp
  refine stream_ok τ.f__law_stream fun ms h1 h2 => ?_
  have D : Drw ms := ⟨h1, h2⟩
  simp
  repeat (refine ⟨by (try simp only [Z.encS_len, Z.encI_len, Z.encC_len, Z.encR_len, List.length_append, List.length_cons, List.length_nil, List.length_map]); unfold Z.big; omega, ?_⟩)
  have s0 : St ms 0 [] [AO.lst [AV.lst (List.map AV.int ms), AV.int 0]] := ⟨0, rfl, Int.le_refl _, Int.le_refl _⟩
  unfold sL2
  simp
  refine draw_ok τ.f__law_next D s0 (by omega) (by decide) fun x hx h3 s1 => ?_
  rw [o_add, onS_some, show (1 : Int) + (x : Int) = ((1 + x : Nat) : Int) by omega]
  refine facts_ok τ.f__law_next τ.f__law_word τ.f__law_facts D s1 (by omega) (by omega) fun fs h4 hl F s2 => ?_
  unfold sL3
  simp
  refine draw_ok τ.f__law_next D s2 (by omega) (by decide) fun y hy h5 s3 => ?_
  rw [o_add, onS_some, show (1 : Int) + (y : Int) = ((1 + y : Nat) : Int) by omega]
  refine run_ok τ.f__law_next τ.f__law_scene τ.f__law_run D s3 (by omega) (by omega) (by omega) fun run h6 hr hsb s4 => ?_
  unfold sL4
  simp
  refine draw_ok τ.f__law_next D s4 (by omega) (by decide) fun z hz h7 s5 => ?_
  rw [o_add, onS_some, show (1 : Int) + (z : Int) = ((1 + z : Nat) : Int) by omega]
  refine saying_ok τ.tw D (by omega) (by omega) (1 + z) (M + 3) _ 2 h7 _ _ s5 (by omega) (by omega) fun sy h8 ok inf sz s6 => ?_
  unfold sL5
  simp
  refine allstr_ok τ.f__law_all_stretches (by rw [encC_len]; omega) ?_
  rw [encC_len]
  unfold sL6
  simp
  repeat (refine ⟨by (try simp only [Z.encS_len, Z.encI_len, Z.encC_len, Z.encR_len, List.length_append, List.length_cons, List.length_nil, List.length_map]); unfold Z.big; omega, ?_⟩)
  refine draw_ok τ.f__law_next D s6 (by omega) (by decide) fun u hu h9 s7 => ?_
  have e3 : ixV h9 (.lst [.str "some", .str "all"]) (.int u) = some (.str (if (decide (u = 0)) then "some" else "all")) := by
    have : u = 0 ∨ u = 1 := by omega
    rcases this with rfl | rfl <;> simp
  rw [e3, onS_some]
  generalize hb : decide (u = 0) = b
  have hq : ∀ (w : Str) (s : AV), AV.tup [.str (if b then "some" else "all"), .str w, s] = .tup [.str (if b then "some" else "all"), .str w, s] := fun _ _ => rfl
  generalize hwd : (if b then ("some" : Str) else "all") = wd
  have hq : ∀ (w : Str) (s : AV), AV.tup [.str wd, .str w, s] = .tup [.str (if b then "some" else "all"), .str w, s] := fun _ _ => by rw [hwd]
  unfold sL7
  simp
  repeat (refine ⟨by (try simp only [Z.encS_len, Z.encI_len, Z.encC_len, Z.encR_len, List.length_append, List.length_cons, List.length_nil, List.length_map]); unfold Z.big; omega, ?_⟩)
  unfold sL8
  simp
  repeat (refine ⟨by (try simp only [Z.encS_len, Z.encI_len, Z.encC_len, Z.encR_len, List.length_append, List.length_cons, List.length_nil, List.length_map]); unfold Z.big; omega, ?_⟩)
  refine l9_ok (b := b) τ D s7 (by omega) (by omega) (by omega) (by omega) (by omega) ok (by omega) hq fun l8 l9 l10 l11 l12 l13 l14 l15 l16 l17 l18 h10 s8 => ?_
  rw [thenS_nx]
  unfold sL10
  simp
  obtain ⟨c, rfl, _, _⟩ := s8
  show onO _ _ (fin false [] (.bl true) _)
  rw [fin_lt ⟨Nat.zero_le _, fun i hi => absurd hi (Nat.not_lt_zero _)⟩ (by simp [AV.lt])]
  exact ⟨rfl, rfl⟩
end
def depth : Nat := 120
theorem tells : ∀ ns : List Int, ns.length ≤ 63 → ∃ h, callN T (depth + 1) false "law" [.ext (ns.map AV.int)] [] = some (.ok (.bl true) h) := fun ns _ => ⟨[], eq_of_wp (law_ok txt (M := 117) (by omega))⟩
end K07

open PySem PySem.W PyProof.Rows
set_option maxHeartbeats 0 in
theorem PySem.Challenge.cw_spansay_k07_whole_ways_behind_ways_holds : PySem.Challenge.rw_spansay_k07_whole_ways_behind_ways.Holds := by
  w_on; o_law; k_head; (case hw => w_witness2)
  k_fill
  refine Z.walk_goes (l := PySem.Challenge.rw_spansay_k07_whole_ways_behind_ways) (n := 63) (k := K07.depth) K07.T K07.ck0 rfl (by decide) rfl (by decide) (by decide +kernel) ⟨_, rfl, rfl⟩ (fun w h Y => by first | exact PySem.W.kIn_of Y | exact PySem.W.km_in_of Y) ?F K07.tells
  case F =>
    intro w mg h KX G
    refine' K07.wd KX G ?ka0 ?kg0 ?kd0 ?ko0 ?ks0 ?km0 ?kk0 ?nf0 ?nf1 ?nf2 ?nf3 ?nf4 ?a4 ?l4 ?c4 ?k4 ?a6 ?l6 ?c6 ?k6 ?a7 ?l7 ?c7 ?k7 ?a8 ?l8 ?c8 ?k8 ?a10 ?l10 ?c10 ?k10 ?a12 ?l12 ?c12 ?k12 ?a13 ?l13 ?c13 ?k13 ?a14 ?l14 ?c14 ?k14 ?a15 ?l15 ?c15 ?k15 ?a16 ?l16 ?c16 ?k16 ?a17 ?l17 ?c17 ?k17 ?a18 ?l18 ?c18 ?k18 ?a19 ?l19 ?c19 ?k19 ?a20 ?l20 ?c20 ?k20 ?a21 ?l21 ?c21 ?k21 ?a22 ?l22 ?c22 ?k22 ?a23 ?l23 ?c23 ?k23 ?a24 ?l24 ?c24 ?k24 ?a9_0 ?i9_0 ?l9_0 ?c9_0 ?k9_0 ?a9_1 ?i9_1 ?l9_1 ?c9_1 ?k9_1 ?a9_2 ?i9_2 ?l9_2 ?c9_2 ?k9_2 ?a9_3 ?i9_3 ?l9_3 ?c9_3 ?k9_3 ?xa0 ?xs0 ?xt0 ?xd0 ?xk0 ?xe0 ?xg0 ?xh0 ?xc0 ?xm0 ?sn ?st ?p0 ?z0 ?z1 ?z2 ?z3 ?z4 ?z5 ?z6 ?z7 ?z8 ?z9 ?z10
    (case ka0 => first | rfl | k_is); (case kg0 => first | rfl | k_is); (case kd0 => first | rfl | k_is); (case ko0 => first | rfl | k_is); (case ks0 => first | rfl | k_is); (case km0 => first | rfl | k_is); (case kk0 => first | rfl | k_is); (case nf0 => first | rfl | k_is); (case nf1 => first | rfl | k_is); (case nf2 => first | rfl | k_is); (case nf3 => first | rfl | k_is); (case nf4 => first | rfl | k_is); (case a4 => first | rfl | k_is); (case l4 => first | rfl | k_is); (case c4 => first | rfl | k_is); (case k4 => first | rfl | k_is); (case a6 => first | rfl | k_is); (case l6 => first | rfl | k_is); (case c6 => first | rfl | k_is); (case k6 => first | rfl | k_is); (case a7 => first | rfl | k_is); (case l7 => first | rfl | k_is); (case c7 => first | rfl | k_is); (case k7 => first | rfl | k_is); (case a8 => first | rfl | k_is); (case l8 => first | rfl | k_is); (case c8 => first | rfl | k_is); (case k8 => first | rfl | k_is); (case a10 => first | rfl | k_is); (case l10 => first | rfl | k_is); (case c10 => first | rfl | k_is); (case k10 => first | rfl | k_is); (case a12 => first | rfl | k_is); (case l12 => first | rfl | k_is); (case c12 => first | rfl | k_is); (case k12 => first | rfl | k_is); (case a13 => first | rfl | k_is); (case l13 => first | rfl | k_is); (case c13 => first | rfl | k_is); (case k13 => first | rfl | k_is); (case a14 => first | rfl | k_is); (case l14 => first | rfl | k_is); (case c14 => first | rfl | k_is); (case k14 => first | rfl | k_is); (case a15 => first | rfl | k_is); (case l15 => first | rfl | k_is); (case c15 => first | rfl | k_is); (case k15 => first | rfl | k_is); (case a16 => first | rfl | k_is); (case l16 => first | rfl | k_is); (case c16 => first | rfl | k_is); (case k16 => first | rfl | k_is); (case a17 => first | rfl | k_is); (case l17 => first | rfl | k_is); (case c17 => first | rfl | k_is); (case k17 => first | rfl | k_is); (case a18 => first | rfl | k_is); (case l18 => first | rfl | k_is); (case c18 => first | rfl | k_is); (case k18 => first | rfl | k_is); (case a19 => first | rfl | k_is); (case l19 => first | rfl | k_is); (case c19 => first | rfl | k_is); (case k19 => first | rfl | k_is); (case a20 => first | rfl | k_is); (case l20 => first | rfl | k_is); (case c20 => first | rfl | k_is); (case k20 => first | rfl | k_is); (case a21 => first | rfl | k_is); (case l21 => first | rfl | k_is); (case c21 => first | rfl | k_is); (case k21 => first | rfl | k_is); (case a22 => first | rfl | k_is); (case l22 => first | rfl | k_is); (case c22 => first | rfl | k_is); (case k22 => first | rfl | k_is); (case a23 => first | rfl | k_is); (case l23 => first | rfl | k_is); (case c23 => first | rfl | k_is); (case k23 => first | rfl | k_is); (case a24 => first | rfl | k_is); (case l24 => first | rfl | k_is); (case c24 => first | rfl | k_is); (case k24 => first | rfl | k_is); (case a9_0 => first | rfl | k_is); (case i9_0 => first | rfl | k_is); (case l9_0 => first | rfl | k_is); (case c9_0 => first | rfl | k_is); (case k9_0 => first | rfl | k_is); (case a9_1 => first | rfl | k_is); (case i9_1 => first | rfl | k_is); (case l9_1 => first | rfl | k_is); (case c9_1 => first | rfl | k_is); (case k9_1 => first | rfl | k_is); (case a9_2 => first | rfl | k_is); (case i9_2 => first | rfl | k_is); (case l9_2 => first | rfl | k_is); (case c9_2 => first | rfl | k_is); (case k9_2 => first | rfl | k_is); (case a9_3 => first | rfl | k_is); (case i9_3 => first | rfl | k_is); (case l9_3 => first | rfl | k_is); (case c9_3 => first | rfl | k_is); (case k9_3 => first | rfl | k_is); (case xa0 => first | rfl | k_is); (case xs0 => first | rfl | k_is); (case xt0 => first | rfl | k_is); (case xd0 => first | rfl | k_is); (case xk0 => first | rfl | k_is); (case xe0 => k_exc); (case xg0 => first | rfl | k_is); (case xh0 => first | rfl | k_is); (case xc0 => first | rfl | k_is); (case xm0 => first | rfl | k_is); (case sn => first | rfl | k_is); (case st => first | rfl | k_is); (case p0 => first | rfl | k_is); (case z0 => first | rfl | k_is); (case z1 => first | rfl | k_is); (case z2 => first | rfl | k_is); (case z3 => first | rfl | k_is); (case z4 => first | rfl | k_is); (case z5 => first | rfl | k_is); (case z6 => first | rfl | k_is); (case z7 => first | rfl | k_is); (case z8 => first | rfl | k_is); (case z9 => first | rfl | k_is); (case z10 => first | rfl | k_is)
