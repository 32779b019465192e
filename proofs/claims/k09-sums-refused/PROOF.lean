import PyProof.Rows.All
import Wide.All
import OpenK.AllK
import Wide.FinOn
import HandS.ForMost
import HandS.Style
import KE.DataCmp
import HandS.ForExc
import HandS.ExcIs
import HandS.IsInst
import HandS.TryMany
import HandS.Wide
import HandS.WideBits
import HandS.RevRange
import HandS.Rev
import HandS.Zip
import HandS.Flow
import HandS.Conv
import HandS.Flt
import PyProof.MaxThree
import HandS.ForDict
import HandS.More
import HandS.SetFor
import HandS.ExcOwn
import PySem.Challenge.RW_likecopies_k09_sums_refused
set_option Elab.async false
set_option linter.all false
set_option maxRecDepth 100000
/-! A small language of one's own: values, state, evaluation. -/
namespace Mp
open PySem PySem.Spec PyProof.Rows L2

/-- values: plain data, or a reference to an object of the store; raw: what the heap does not tell apart (classes) -/
inductive W where
  | non | bl (b : Bool) | int (i : Int) | str (s : Str)
  | scr (ws : List W) | lst (ws : List W) | tup (ws : List W) | ref (i : Nat) | raw (v : V) | fn (f : Nat) | exc (c : Nat)

/-- objects of the store -/
inductive Ob where
  | lst (ws : List W) | dic (kvs : List (Key × W)) | ins (c : Nat) (fs : List (Str × W)) | lk (kvs : List (Key × W))
inductive Sl where
  | val (w : W) | own (ws : List W)
abbrev En := List (Option Sl)
abbrev Sto := List Ob
/-- what an expression tells: a value, a new list that nobody holds, a name that holds a list of its own -/
inductive RV where
  | val (w : W) | new (ws : List W) | bor (j : Nat)
inductive R (A : Type) where
  | ok (a : A) (en : En) (m : Sto) | ex (c : Nat) (en : En) (m : Sto) | bad
inductive CR where
  | ok (r : RV) (m : Sto) | ex (c : Nat) (m : Sto) | bad
def R.bind {A B : Type} (r : R A) (f : A → En → Sto → R B) : R B :=
  match r with
  | .ok a en m => f a en m
  | .ex c en m => .ex c en m
  | .bad => .bad

mutual
def W.same : W → W → Bool
  | .non, .non => true
  | .bl a, .bl b => a == b
  | .int a, .int b => a == b
  | .str a, .str b => a == b
  | .lst a, .lst b => W.sames a b
  | .scr a, .scr b => W.sames a b
  | .tup a, .tup b => W.sames a b
  | .ref a, .ref b => a == b
  | .raw a, .raw b => a == b
  | .fn a, .fn b => a == b
  | .exc a, .exc b => a == b
  | _, _ => false
def W.sames : List W → List W → Bool
  | [], [] => true
  | a :: r, b :: t => W.same a b && W.sames r t
  | _, _ => false
end
mutual
theorem W.same_refl : ∀ w : W, W.same w w = true
  | .non => rfl
  | .bl a => by simp [W.same]
  | .int a => by simp [W.same]
  | .str a => by simp [W.same]
  | .lst a => by simp only [W.same]; exact W.sames_refl a
  | .scr a => by simp only [W.same]; exact W.sames_refl a
  | .tup a => by simp only [W.same]; exact W.sames_refl a
  | .ref a => by simp [W.same]
  | .raw a => by simp [W.same]
  | .fn a => by simp [W.same]
  | .exc a => by simp [W.same]
theorem W.sames_refl : ∀ ws : List W, W.sames ws ws = true
  | [] => by simp only [W.sames]
  | a :: r => by simp only [W.sames, W.same_refl a, W.sames_refl r, Bool.and_self]
end
mutual
theorem W.same_eq : ∀ (a b : W), W.same a b = true → a = b
  | .non, b, h => by cases b <;> simp_all [W.same]
  | .bl a, b, h => by cases b <;> simp_all [W.same]
  | .int a, b, h => by cases b <;> simp_all [W.same]
  | .str a, b, h => by cases b <;> simp_all [W.same]
  | .lst a, b, h => by
    cases b with
    | lst c => simp only [W.same] at h; rw [W.sames_eq a c h]
    | _ => simp [W.same] at h
  | .scr a, b, h => by
    cases b with
    | scr c => simp only [W.same] at h; rw [W.sames_eq a c h]
    | _ => simp [W.same] at h
  | .tup a, b, h => by
    cases b with
    | tup c => simp only [W.same] at h; rw [W.sames_eq a c h]
    | _ => simp [W.same] at h
  | .ref a, b, h => by cases b <;> simp_all [W.same]
  | .raw a, b, h => by cases b <;> simp_all [W.same]
  | .fn a, b, h => by cases b <;> simp_all [W.same]
  | .exc a, b, h => by cases b <;> simp_all [W.same]
theorem W.sames_eq : ∀ (a b : List W), W.sames a b = true → a = b
  | [], b, h => by cases b <;> simp_all [W.sames]
  | x :: r, b, h => by
    cases b with
    | nil => simp [W.sames] at h
    | cons y t =>
      simp only [W.sames, Bool.and_eq_true] at h
      rw [W.same_eq x y h.1, W.sames_eq r t h.2]
end

/-! ### reading -/
/-- most that a list or text may hold here -/
def LIM : Nat := 1000000
def slW : Sl → W
  | .val w => w
  | .own ws => .lst ws
def enGet (en : En) (j : Nat) : Option Sl := (en[j]?).join
/-- a value with its list read, from the store too -/
def lstW (m : Sto) : W → Option (List W)
  | .lst ws => some ws
  | .ref i => match m[i]? with
    | some (.lst ws) => some ws
    | _ => none
  | _ => none
/-- what a result is now: a name's own list is read where it stands -/
def rvW (en : En) : RV → Option W
  | .val w => some w
  | .new ws => some (.lst ws)
  | .bor j => (enGet en j).map slW
def rvL (en : En) (m : Sto) (r : RV) : Option (List W) := (rvW en r).bind (lstW m)
/-- a result that is kept: a name's own list is the name's no more -/
def esc (r : RV) (en : En) : Option (W × En) :=
  match r with
  | .val w => some (w, en)
  | .new ws => some (.lst ws, en)
  | .bor j => match enGet en j with
    | some (.own ws) => some (.lst ws, en.set j (some (.val (.lst ws))))
    | some (.val w) => some (w, en)
    | none => none
/-- a list that nobody else holds: it may be handed to the store; a name that held it is empty then -/
def boxR (r : RV) (en : En) : Option (List W × En) :=
  match r with
  | .new ws => some (ws, en)
  | .bor j => match enGet en j with
    | some (.own ws) => some (ws, en.set j none)
    | _ => none
  | _ => none
def hold (r : RV) : RV :=
  match r with
  | .new ws => .val (.lst ws)
  | r => r

def pdAll {A : Type} (f : W → Option A) : List W → Option (List A)
  | [] => some []
  | w :: ws => match f w, pdAll f ws with
    | some d, some ds => some (d :: ds)
    | _, _ => none
/-- a value as data through and through -/
def pd (m : Sto) : Nat → W → Option PyData
  | _, .non => some .none
  | _, .bl b => some (.bool b)
  | _, .int i => some (.int i)
  | _, .str s => some (.str s)
  | n + 1, .lst ws => (pdAll (pd m n) ws).map .list
  | n + 1, .tup ws => (pdAll (pd m n) ws).map .tuple
  | n + 1, .ref i => match m[i]? with
    | some (.lst ws) => (pdAll (pd m n) ws).map .list
    | _ => none
  | _, _ => none
def DEEP : Nat := 8

/-! ### operations -/
inductive Op where
  | add | sub | mul | fdiv | mod | pow | shr | band
  deriving DecidableEq
inductive Cm where
  | eq | ne | lt | le | gt | ge | is | isn | mem | nmem
  deriving DecidableEq
def BIG : Int := 2 ^ 2000
def small (i : Int) : Bool := decide (-BIG < i ∧ i < BIG)
def mulOk (i j : Int) : Bool := decide (-(2 ^ 64) < i ∧ i < 2 ^ 64) || decide (-(2 ^ 64) < j ∧ j < 2 ^ 64) || (small i && small j)
/-- a list to be put together, the script too -/
def lstS (m : Sto) : W → Option (List W)
  | .scr ws => some ws
  | w => lstW m w
def binR (op : Op) (en : En) (m : Sto) (x y : RV) : Option RV :=
  match op, rvW en x, rvW en y with
  | .add, some (.int i), some (.int j) => some (.val (.int (i + j)))
  | .sub, some (.int i), some (.int j) => some (.val (.int (i - j)))
  | .mul, some (.int i), some (.int j) => if mulOk i j then some (.val (.int (i * j))) else none
  | .fdiv, some (.int i), some (.int j) => if 0 < j ∧ j < BIG then some (.val (.int (i / j))) else none
  | .mod, some (.int i), some (.int j) => if 0 < j then some (.val (.int (i % j))) else none
  | .pow, some (.int i), some (.int j) => if 0 ≤ j ∧ j ≤ 1000 ∧ -(2 ^ 64) < i ∧ i < 2 ^ 64 then some (.val (.int (i ^ j.toNat))) else none
  | .shr, some (.int i), some (.int j) => if 0 ≤ j then some (.val (.int (i / 2 ^ j.toNat))) else none
  | .band, some (.int i), some (.int j) => if j = 1 ∧ 0 ≤ i then some (.val (.int (i % 2))) else none
  | .add, some (.str s), some (.str t) => if s.length + t.length ≤ LIM then some (.val (.str (s ++ t))) else none
  | .add, some x, some y => match lstS m x, lstS m y with
    | some ws, some zs => if ws.length + zs.length ≤ LIM then some (.new (ws ++ zs)) else none
    | _, _ => none
  | .mul, some x, some (.int k) => match lstW m x with
    | some ws => if k ≤ 100000 ∧ -(2 ^ 60) < k ∧ ws.length * k.toNat ≤ LIM then some (.new (List.replicate k.toNat ws).flatten) else none
    | none => none
  | _, _, _ => none
def flatW : W → Bool
  | .non => true
  | .bl _ => true
  | .int _ => true
  | .str _ => true
  | _ => false
def eqFl : W → W → Bool
  | .non, .non => true
  | .bl a, .bl b => a == b
  | .bl a, .int b => (if a then 1 else 0) == b
  | .int a, .bl b => a == (if b then 1 else 0)
  | .int a, .int b => a == b
  | .str a, .str b => a == b
  | _, _ => false
def seqW (m : Sto) : W → Option (List W)
  | .tup ws => some ws
  | w => lstS m w
def keyW : W → Option Key
  | .int i => some (.inl i)
  | .str s => some (.inr s)
  | _ => none
def dicW (m : Sto) : W → Option (List (Key × W))
  | .ref i => match m[i]? with
    | some (.dic kvs) => some kvs
    | _ => none
  | _ => none
def memW (m : Sto) (x y : W) : Option Bool :=
  match seqW m y with
  | some ws => if flatW x && ws.all flatW then some (ws.any fun z => eqFl z x) else none
  | none => match x, y with
    | .str a, .str b => match a.cps.toList with
      | [c] => some (decide (c ∈ b.cps.toList))
      | _ => none
    | _, _ => none
def isW (x y : W) : Option Bool :=
  match x, y with
  | .non, .non => some true
  | .bl a, .bl b => some (decide (a = b))
  | .bl _, .non => some false
  | .int _, .non => some false
  | .str _, .non => some false
  | .lst _, .non => some false
  | .tup _, .non => some false
  | .ref _, .non => some false
  | .exc _, .non => some false
  | _, _ => none
def intCmp (f : Int → Int → Bool) (a b : W) : Option Bool :=
  match a, b with
  | .int i, .int j => some (f i j)
  | _, _ => none
def noneD : PyData → Bool
  | .none => true
  | _ => false
/-- more than, for lists -/
def gtD (m : Sto) (a b : W) : Option Bool := match pd m DEEP a, pd m DEEP b with
  | some d, some e => if PySem.W.alike d e && !noneD d && decide (d.depth ≤ 64) then some (PySem.W.dataLt e d) else none
  | _, _ => none
def cmpR (op : Cm) (en : En) (m : Sto) (x y : RV) : Option Bool :=
  match rvW en x, rvW en y with
  | some a, some b => match op with
    | .lt => intCmp (fun i j => decide (i < j)) a b
    | .le => intCmp (fun i j => decide (i ≤ j)) a b
    | .gt => match a, b with
      | .int i, .int j => some (decide (j < i))
      | a, b => gtD m a b
    | .ge => intCmp (fun i j => decide (j ≤ i)) a b
    | .is => isW a b
    | .isn => (isW a b).map fun k => !k
    | .mem => memW m a b
    | .nmem => (memW m a b).map fun k => !k
    | .eq => match pd m DEEP a, pd m DEEP b with
      | some d, some e => if SeqAt.shaped d && SeqAt.shaped e then some (PyData.eqv d e) else none
      | _, _ => none
    | .ne => match pd m DEEP a, pd m DEEP b with
      | some d, some e => if SeqAt.shaped d && SeqAt.shaped e then some (!PyData.eqv d e) else none
      | _, _ => none
  | _, _ => none
/-- a place counted from the end where it is negative -/
def ixOf (n : Nat) (i : Int) : Option Nat := ixN n i
def idxR (en : En) (m : Sto) (x y : RV) : Option W :=
  match rvW en x, rvW en y with
  | some a, some b => match a, b with
    | .str s, .int i => if s.length ≤ LIM then (atI s.cps.toList i).map fun c => .str ⟨#[c]⟩ else none
    | a, .int i => (seqW m a).bind fun ws => atI ws i
    | _, _ => none
  | _, _ => none
/-- a cut by two ends -/
def cutL {A : Type} (xs : List A) (lo hi : Option Int) : List A := (xs.drop (HT.sIx xs.length 0 lo)).take (HT.sIx xs.length xs.length hi - HT.sIx xs.length 0 lo)

/-! ### the language -/
inductive Ty where
  | int | bool | list | tuple | str
  deriving DecidableEq
inductive Bi where
  | len | list | sum | max1 | min1 | max2 | min2 | abs | int | all | any | sorted | min3
  deriving DecidableEq
inductive Mt where
  | pop | bits | count | index | get | rev
  deriving DecidableEq
inductive It where
  | list | tup | str | keys | rng1 | rng2 | rng3 | zip | enum | rev | revrng
  deriving DecidableEq
inductive Tg where
  | one (j : Nat) | many (js : List Nat) | manyL (js : List Nat)
inductive E where
  | nil | cons (e es : E)
  | var (j : Nat) | int (i : Int) | bl (b : Bool) | non | str (s : Str) | glob (g : Nat)
  | bin (op : Op) (a b : E) | neg (a : E)
  | cmp (op : Cm) (a b : E) | chain (op op2 : Cm) (a b c : E)
  | and (es : E) | or (es : E) | not (a : E) | ite (c a b : E)
  | lst (es : E) | tup (es : E)
  | idx (a i : E) | slc (a lo hi : E)
  | call (f n : Nat) (es : E) | blt (b : Bi) (es : E) | lrng (a : E) | isi (a : E) (ts : List Ty)
  | mth (t : Mt) (a es : E)
  | comp (it : It) (src : E) (tg : Tg) (js : List Nat) (c : E) (elt : E)
  | box (a : E)
  | fld (a : E) (x : Str) (cl : List Nat) | mcall (a : E) (x : Str) (cf : List (Nat × Nat)) (n : Nat) (es : E) | make (c f n : Nat) (es : E)
  | dnew | dget (a k d : E) | din (ng : Bool) (k a : E) | dkeys (a : E)
  | isx (a : E) (tab : List Bool) | lock (a e : E) | dlit (ks : List Str) (es : E) | lrng2 (a b : E)
inductive S where
  | skip | seq (s t : S)
  | asg (j : Nat) (e : E) | unp (tg : Tg) (e : E) | par (i j : Nat) (a b : E)
  | seti (a i e : E) | app (a e : E) | ex (e : E)
  | ret (e : E) | retn | iff (c : E) (s t : S)
  | for_ (it : It) (src : E) (tg : Tg) (b : S) | whl (c : E) (b : S)
  | raise (c : Nat) | never
  | augn (j : Nat) (op : Op) (e : E)
  | extd (a e : E)
  | setf (a : E) (x : Str) (cl : List Nat) (e : E) | dput (a k e : E)
  | tryx (b : S) (cl : List Nat) (j : Nat) (s : S) | lockS (a : E) (s : S) | augf (a : E) (x : Str) (cl : List Nat) (e : E)

/-! ### evaluation -/
def opt {A B : Type} (o : Option A) (f : A → R B) : R B :=
  match o with
  | some a => f a
  | none => .bad
def chk (cs : List (Nat × List W)) (m : Sto) : Bool := cs.all fun p => match m[p.1]? with
  | some (.lst ws) => W.sames ws p.2
  | _ => false
def rngOk (i : Int) : Bool := decide (-(2 ^ 62) ≤ i ∧ i < 2 ^ 62)
/-- a list that is walked: its items, and what must stay as it is meanwhile -/
def srcL (m : Sto) : W → Option (List W × List (Nat × List W))
  | .lst ws => some (ws, [])
  | .ref i => match m[i]? with
    | some (.lst ws) => some (ws, [(i, ws)])
    | _ => none
  | _ => none
def enumL (ws : List W) : List W := (List.range ws.length).zipWith (fun i w => W.tup [.int (i : Nat), w]) ws
abbrev Items := Option (List W × List (Nat × List W))
def keyToW : Key → W
  | .inl i => .int i
  | .inr s => .str s
/-- the keys of a dict that stands still -/
def keysI (m : Sto) : List W → Items
  | [.ref i] => match m[i]? with
    | some (.lk kvs) => some (kvs.map fun q => keyToW q.1, [])
    | _ => none
  | _ => none
def listI (m : Sto) : List W → Items
  | [w] => srcL m w
  | _ => none
def tupI : List W → Items
  | [.tup zs] => some (zs, [])
  | _ => none
def strI : List W → Items
  | [.str s] => some (s.cps.toList.map fun c => .str ⟨#[c]⟩, [])
  | _ => none
def rng1I : List W → Items
  | [.int n] => if rngOk n then some ((List.range n.toNat).map fun (i : Nat) => .int (0 + (i : Int)), []) else none
  | _ => none
def rng2I : List W → Items
  | [.int a, .int b] => if rngOk a && rngOk b then some ((List.range (b - a).toNat).map fun (i : Nat) => .int (a + (i : Int)), []) else none
  | _ => none
def rng3I : List W → Items
  | [.int a, .int b, .int c] => if c = -1 ∧ rngOk a = true ∧ rngOk b = true then some ((List.range (a - b).toNat).map fun (i : Nat) => .int (a + (i : Int) * (-1)), []) else none
  | _ => none
def zipI (m : Sto) : List W → Items
  | [x, y] => match srcL m x, srcL m y with
    | some (ws, c1), some (zs, c2) => some (ws.zipWith (fun a b => .tup [a, b]) zs, c1 ++ c2)
    | _, _ => none
  | _ => none
def enumI (m : Sto) : List W → Items
  | [x] => match srcL m x with
    | some (ws, c) => some (enumL ws, c)
    | _ => none
  | _ => none
def revI (m : Sto) : List W → Items
  | [x] => match srcL m x with
    | some (ws, c) => some (ws.reverse, c)
    | _ => none
  | _ => none
def revrngI : List W → Items
  | [.int n] => if rngOk n then some ((List.range n.toNat).map fun (i : Nat) => .int (n - 1 + (i : Int) * (-1)), []) else none
  | _ => none
def itemsR (it : It) (m : Sto) (ws : List W) : Items :=
  match it with
  | .list => listI m ws
  | .tup => tupI ws
  | .str => strI ws
  | .rng1 => rng1I ws
  | .rng2 => rng2I ws
  | .rng3 => rng3I ws
  | .zip => zipI m ws
  | .enum => enumI m ws
  | .rev => revI m ws
  | .revrng => revrngI ws
  | .keys => keysI m ws
def bindN : List Nat → List W → En → Option En
  | [], [], en => some en
  | j :: js, w :: ws, en => bindN js ws (en.set j (some (.val w)))
  | _, _, _ => none
def bindT (tg : Tg) (w : W) (m : Sto) (en : En) : Option En :=
  match tg with
  | .one j => some (en.set j (some (.val w)))
  | .many js => match w with
    | .tup ws => bindN js ws en
    | _ => none
  | .manyL js => match lstW m w with
    | some ws => bindN js ws en
    | _ => none
def wipeE (en : En) : List Nat → En
  | [] => en
  | j :: js => (wipeE en js).set j none
/-- the names of a comprehension keep what they held -/
def frzE (en : En) : List Nat → En
  | [] => en
  | j :: js => match enGet (frzE en js) j with
    | some (.own ws) => (frzE en js).set j (some (.val (.lst ws)))
    | _ => frzE en js
def restE (outer inner : En) : List Nat → En
  | [] => inner
  | j :: js => (restE outer inner js).set j (enGet outer j)
/-- nothing may be raised -/
def R.noex {A : Type} (r : R A) : R A :=
  match r with
  | .ex _ _ _ => .bad
  | r => r
def compL (ck : Sto → Bool) (f : W → En → Sto → R (Option W)) : List W → En → Sto → R (List W)
  | [], en, m => if ck m then .ok [] en m else .bad
  | w :: ws, en, m => if ck m then (f w en m).noex.bind fun o en m => (compL ck f ws en m).bind fun r en m => .ok (match o with
      | some x => x :: r
      | none => r) en m else .bad
inductive Out where
  | nx | rt (r : RV)
def forL (ck : Sto → Bool) (f : W → En → Sto → R Out) : List W → En → Sto → R Out
  | [], en, m => if ck m then .ok .nx en m else .bad
  | w :: ws, en, m => if ck m then (f w en m).bind fun o en m => match o with
      | .nx => forL ck f ws en m
      | .rt r => .ok (.rt r) en m else .bad
def whileL (c : En → Sto → R Bool) (b : En → Sto → R Out) : Nat → En → Sto → R Out
  | 0, _, _ => .bad
  | n + 1, en, m => (c en m).bind fun t en m => if t then (b en m).bind fun o en m => (match o with
      | .nx => whileL c b n en m
      | .rt r => .ok (.rt r) en m) else .ok .nx en m
def sumW : List W → Option Int
  | [] => some 0
  | .int i :: r => (sumW r).map fun s => i + s
  | _ => none
def intsW : List W → Option (List Int)
  | [] => some []
  | .int i :: r => (intsW r).map fun s => i :: s
  | _ => none
def blsW : List W → Option (List Bool)
  | [] => some []
  | .bl i :: r => (blsW r).map fun s => i :: s
  | _ => none
def maxI : List Int → Int
  | [] => 0
  | [x] => x
  | x :: r => max x (maxI r)
def minI : List Int → Int
  | [] => 0
  | [x] => x
  | x :: r => min x (minI r)
def insI (x : Int) : List Int → List Int
  | [] => [x]
  | y :: r => if x ≤ y then x :: y :: r else y :: insI x r
def sortI : List Int → List Int
  | [] => []
  | x :: r => insI x (sortI r)
def tyW : W → Option Ty
  | .int _ => some .int
  | .bl _ => some .bool
  | .lst _ => some .list
  | .tup _ => some .tuple
  | .str _ => some .str
  | _ => none
def tyR (m : Sto) : W → Option (Option Ty)
  | .ref i => match m[i]? with
    | some (.lst _) => some (some .list)
    | _ => none
  | .non => some none
  | w => (tyW w).map some
def isT (t : Option Ty) (u : Ty) : Bool :=
  match t, u with
  | some .bool, .int => true
  | some a, b => decide (a = b)
  | none, _ => false
/-- a built-in that is handed results, the last of them as they stand -/
def bltR (b : Bi) (m : Sto) (ws : List W) : Option RV :=
  match b, ws with
  | .len, [w] => match w with
    | .str s => if s.length ≤ LIM then some (.val (.int (s.length : Nat))) else none
    | w => (seqW m w).map fun ws => .val (.int (ws.length : Nat))
  | .list, [w] => (seqW m w).map fun ws => .new ws
  | .sum, [w] => (lstW m w).bind fun ws => (intsW ws).map fun s => .val (.int s.sum)
  | .max1, [w] => (lstW m w).bind fun ws => (intsW ws).bind fun ns => if ns = [] then none else some (.val (.int (maxI ns)))
  | .min1, [w] => (lstW m w).bind fun ws => (intsW ws).bind fun ns => if ns = [] then none else some (.val (.int (minI ns)))
  | .max2, [.int i, .int j] => some (.val (.int (if j > i then j else i)))
  | .min2, [.int i, .int j] => some (.val (.int (if j < i then j else i)))
  | .abs, [.int i] => some (.val (.int (if i < 0 then -i else i)))
  | .int, [.int i] => some (.val (.int i))
  | .int, [.bl b] => some (.val (.int (if b then 1 else 0)))
  | .all, [w] => (lstW m w).bind fun ws => (blsW ws).map fun s => .val (.bl (s.all id))
  | .any, [w] => (lstW m w).bind fun ws => (blsW ws).map fun s => .val (.bl (s.any id))
  | .sorted, [w] => (lstW m w).bind fun ws => (intsW ws).bind fun ns => if ns.length < 64 then some (.new ((sortI ns).map .int)) else none
  | .min3, [.int i, .int j, .int k] => some (.val (.int (minI [i, j, k])))
  | _, _ => none
def val? (r : RV) : Option W :=
  match r with
  | .val w => some w
  | _ => none
def popAt (en : En) (m : Sto) (x : RV) (i : Int) : Option (W × En × Sto) :=
  match x with
  | .bor j => match enGet en j with
    | some (.own ws) => (ixN ws.length i).bind fun k => (ws[k]?).map fun w => (w, en.set j (some (.own (ws.eraseIdx k))), m)
    | some (.val (.ref r)) => match m[r]? with
      | some (.lst ws) => (ixN ws.length i).bind fun k => (ws[k]?).map fun w => (w, en, m.set r (.lst (ws.eraseIdx k)))
      | _ => none
    | _ => none
  | .val (.ref r) => match m[r]? with
    | some (.lst ws) => (ixN ws.length i).bind fun k => (ws[k]?).map fun w => (w, en, m.set r (.lst (ws.eraseIdx k)))
    | _ => none
  | _ => none
def setAt (en : En) (m : Sto) (x : RV) (i : W) (v : W) : Option (En × Sto) :=
  match x, i with
  | .bor j, .int i => match enGet en j with
    | some (.own ws) => (ixN ws.length i).map fun k => (en.set j (some (.own (ws.set k v))), m)
    | _ => none
  | .val (.ref r), .int i => match m[r]? with
    | some (.lst ws) => (ixN ws.length i).map fun k => (en, m.set r (.lst (ws.set k v)))
    | _ => none
  | _, _ => none
def appTo (en : En) (m : Sto) (x : RV) (v : W) : Option (En × Sto) :=
  match x with
  | .bor j => match enGet en j with
    | some (.own ws) => if ws.length < LIM then some (en.set j (some (.own (ws ++ [v]))), m) else none
    | _ => none
  | .val (.ref r) => match m[r]? with
    | some (.lst ws) => if ws.length < LIM then some (en, m.set r (.lst (ws ++ [v]))) else none
    | _ => none
  | _ => none
/-- a list made longer by another one's items -/
def extTo (en : En) (m : Sto) (x : RV) (zs : List W) : Option (En × Sto) :=
  match x with
  | .bor j => match enGet en j with
    | some (.own ws) => if ws.length + zs.length ≤ LIM then some (en.set j (some (.own (ws ++ zs))), m) else none
    | _ => none
  | .val (.ref r) => match m[r]? with
    | some (.lst ws) => if ws.length + zs.length ≤ LIM then some (en, m.set r (.lst (ws ++ zs))) else none
    | _ => none
  | _ => none
def bitsOf (i : Int) : Int := (Builtin.Int.intBits i : Nat)
def opt2 {A B C : Type} (o : Option (A × B)) (f : A → B → R C) : R C :=
  match o with
  | some (a, b) => f a b
  | none => .bad

def isNil : E → Bool
  | .nil => true
  | _ => false
def intR : RV → Option Int
  | .val (.int i) => some i
  | _ => none
def int1 : List W → Option Int
  | [.int i] => some i
  | _ => none
def blR : RV → Option Bool
  | .val (.bl b) => some b
  | _ => none
/-- a turn of a comprehension -/
def compF (tg : Tg) (js : List Nat) (none_ : Bool) (fc fe : En → Sto → R RV) (w : W) (en : En) (m : Sto) : R (Option W) :=
  opt (bindT tg w m en) fun en => (if none_ then .ok true en m else (fc en m).bind fun t en m => opt (blR t) fun t => .ok t en m).bind fun t en m =>
    if t then (fe en m).bind fun x en m => opt2 (esc x en) fun w en => .ok (some w) (wipeE en js) m else .ok none (wipeE en js) m
def CR.toR (r : CR) (en : En) : R RV :=
  match r with
  | .ok r m => .ok r en m
  | .ex c m => .ex c en m
  | .bad => .bad
/-- a new list is put into the store; None stays -/
def boxP (x : RV) (en : En) (m : Sto) : R RV :=
  match x with
  | .val .non => .ok (.val .non) en m
  | x => opt2 (boxR x en) fun ws en => .ok (.val (.ref m.length)) en (m ++ [.lst ws])
/-- an instance of the store: its class, its attributes -/
def insW (m : Sto) : W → Option (Nat × List (Str × W))
  | .ref i => match m[i]? with
    | some (.ins c fs) => some (c, fs)
    | _ => none
  | _ => none
/-- where a dict stands that is walked: a name's, or an attribute of a name's -/
def pathD (en : En) (m : Sto) : E → Option Nat
  | .var j => match enGet en j with
    | some (.val (.ref i)) => some i
    | _ => none
  | .fld (.var j) x cl => match enGet en j with
    | some (.val w) => match (insW m w).bind fun q => if cl.contains q.1 then q.2.lookup x else none with
      | some (.ref i) => some i
      | _ => none
    | _ => none
  | _ => none
def dicAt (m : Sto) (i : Nat) : Option (List (Key × W)) := match m[i]? with
  | some (.dic kvs) => some kvs
  | _ => none
def lkAt (m : Sto) (i : Nat) : Option (List (Key × W)) := match m[i]? with
  | some (.lk kvs) => some kvs
  | _ => none
def excW (tab : List Bool) : W → Option Bool
  | .exc c => tab[c]?
  | .non => some false
  | _ => none
def countW (m : Sto) (a : W) (ws : List W) : Option (Nat × Nat × Nat) := match ws with
  | [x] => (lstW m a).bind fun zs => if flatW x && zs.all flatW then some (zs.countP fun z => eqFl z x, zs.findIdx fun z => eqFl z x, zs.length) else none
  | _ => none
def fldR (m : Sto) (x : Str) (cl : List Nat) (w : W) : Option W := (insW m w).bind fun q => if cl.contains q.1 then q.2.lookup x else none
/-- what a call of a method calls -/
def mthR (m : Sto) (x : Str) (cf : List (Nat × Nat)) (w : W) : Option Nat := (insW m w).bind fun q => if (q.2.lookup x).isNone then cf.lookup q.1 else none
def valA {A : Type} (kvs : List (Key × A)) (k : Key) : Option A := (kvs.find? fun kv => decide (kv.1 = k)).map (·.2)
def putA_ {A : Type} (kvs : List (Key × A)) (k : Key) (v : A) : List (Key × A) :=
  if (kvs.any fun kv => decide (kv.1 = k)) = true then kvs.map (fun kv => if kv.1 = k then (kv.1, v) else kv) else kvs ++ [(k, v)]
def putFA {A : Type} (f : Str) (v : A) : List (Str × A) → List (Str × A)
  | [] => [(f, v)]
  | (g, x) :: r => if g = f then (g, v) :: r else (g, x) :: putFA f v r
def keyR (x : RV) : Option Key := match x with
  | .val w => keyW w
  | _ => none
section
variable (cs : Nat → List W → Sto → CR) (gl : List W)
mutual
def ev : E → En → Sto → R RV
  | .nil, _, _ => .bad
  | .cons _ _, _, _ => .bad
  | .var j, en, m => match enGet en j with
    | some (.val w) => .ok (.val w) en m
    | some (.own _) => .ok (.bor j) en m
    | none => .bad
  | .int i, en, m => .ok (.val (.int i)) en m
  | .bl b, en, m => .ok (.val (.bl b)) en m
  | .non, en, m => .ok (.val .non) en m
  | .str s, en, m => .ok (.val (.str s)) en m
  | .glob g, en, m => opt gl[g]? fun w => .ok (.val w) en m
  | .bin op a b, en, m => (ev a en m).bind fun x en m => (ev b en m).bind fun y en m => opt (binR op en m (hold x) (hold y)) fun r => .ok r en m
  | .neg a, en, m => (ev a en m).bind fun x en m => opt (intR x) fun i => .ok (.val (.int (-i))) en m
  | .cmp op a b, en, m => (ev a en m).bind fun x en m => (ev b en m).bind fun y en m => opt (cmpR op en m (hold x) (hold y)) fun r => .ok (.val (.bl r)) en m
  | .chain op op2 a b c, en, m => (ev a en m).bind fun x en m => (ev b en m).bind fun y en m => opt (cmpR op en m (hold x) (hold y)) fun r =>
      if r then (ev c en m).bind fun z en m => opt (cmpR op2 en m (hold y) (hold z)) fun r => .ok (.val (.bl r)) en m else .ok (.val (.bl false)) en m
  | .and es, en, m => evAnd es en m
  | .or es, en, m => evOr es en m
  | .not a, en, m => (ev a en m).bind fun x en m => opt (blR x) fun b => .ok (.val (.bl (!b))) en m
  | .ite c a b, en, m => (ev c en m).bind fun x en m => opt (blR x) fun t => if t then ev a en m else ev b en m
  | .lst es, en, m => (evs es en m).bind fun ws en m => if ws.length ≤ LIM then .ok (.new ws) en m else .bad
  | .tup es, en, m => (evs es en m).bind fun ws en m => if ws.length ≤ LIM then .ok (.val (.tup ws)) en m else .bad
  | .idx a i, en, m => (ev a en m).bind fun x en m => (ev i en m).bind fun y en m => opt (idxR en m (hold x) (hold y)) fun w => .ok (.val w) en m
  | .slc a lo hi, en, m => (ev a en m).bind fun x en m => (if isNil lo then .ok none en m else (ev lo en m).bind fun y en m => opt (intR y) fun i => .ok (some i) en m).bind fun l en m =>
      (if isNil hi then .ok none en m else (ev hi en m).bind fun y en m => opt (intR y) fun i => .ok (some i) en m).bind fun h en m =>
      opt ((rvW en (hold x)).bind (lstS m)) fun ws => .ok (.new (cutL ws l h)) en m
  | .call f n es, en, m => (evs es en m).bind fun ws en m => if ws.length = n then (cs f ws m).toR en else .bad
  | .blt b es, en, m => (evl es en m).bind fun ws en m => opt (bltR b m ws) fun r => .ok r en m
  | .lrng a, en, m => (ev a en m).bind fun x en m => opt (intR x) fun a => if -100000 ≤ a ∧ a ≤ 100000 then .ok (.new ((List.range (a - 0).toNat).map fun (i : Nat) => .int (0 + (i : Int)))) en m else .bad
  | .isi a ts, en, m => (ev a en m).bind fun x en m => opt (rvW en x) fun w => opt (tyR m w) fun t => .ok (.val (.bl (ts.any (isT t)))) en m
  | .mth t a es, en, m => match t with
    | .pop => (ev a en m).bind fun x en m => opt (rvL en m (hold x)) fun _ => (evs es en m).bind fun ws en m => opt (int1 ws) fun i => opt (if -(2 ^ 62) < i ∧ i < 2 ^ 62 then popAt en m (hold x) i else none) fun q => .ok (.val q.1) q.2.1 q.2.2
    | .bits => (ev a en m).bind fun x en m => opt (intR x) fun i => .ok (.val (.int (bitsOf i))) en m
    | .count => (ev a en m).bind fun x en m => opt (rvL en m (hold x)) fun _ => (evs es en m).bind fun ws en m => opt ((rvW en (hold x)).bind fun w => countW m w ws) fun q => .ok (.val (.int (q.1 : Nat))) en m
    | .index => (ev a en m).bind fun x en m => opt (rvL en m (hold x)) fun _ => (evs es en m).bind fun ws en m => opt ((rvW en (hold x)).bind fun w => countW m w ws) fun q => if q.2.1 < q.2.2 then .ok (.val (.int (q.2.1 : Nat))) en m else .bad
    | .rev => (ev a en m).bind fun x en m => opt ((rvW en (hold x)).bind (lstS m)) fun ws => .ok (.new ws.reverse) en m
    | _ => .bad
  | .comp it src tg js c elt, en, m => (evs src en m).bind fun ws en m => opt2 (itemsR it m ws) fun zs ck =>
      if zs.length ≤ LIM then
        (compL (chk ck) (compF tg js (isNil c) (fun en m => ev c en m) (fun en m => ev elt en m)) zs (wipeE (frzE en js) js) m).bind fun r en2 m => .ok (.new r) (restE (frzE en js) en2 js) m
      else .bad
  | .box a, en, m => (ev a en m).bind boxP
  | .fld a x cl, en, m => (ev a en m).bind fun y en m => opt (rvW en y) fun w => opt (fldR m x cl w) fun z => .ok (.val z) en m
  | .mcall a x cf n es, en, m => (ev a en m).noex.bind fun y en m => opt (rvW en y) fun w => opt (mthR m x cf w) fun f => (evs es en m).bind fun ws en m => if ws.length = n then (cs f (w :: ws) m).toR en else .bad
  | .make c f n es, en, m => (evs es en m).bind fun ws en m => if ws.length = n then (match cs f (.ref m.length :: ws) (m ++ [.ins c []]) with
      | .ok (.val .non) m2 => .ok (.val (.ref m.length)) en m2
      | .ex c m2 => .ex c en m2
      | _ => .bad) else .bad
  | .dnew, en, m => .ok (.val (.ref m.length)) en (m ++ [.dic []])
  | .dget a k d, en, m => (ev a en m).bind fun x en m => opt (rvW en x) fun w => opt (dicW m w) fun _ => (ev k en m).bind fun y en m => opt (keyR y) fun kk =>
      if isNil d then opt ((dicW m w).bind fun kvs => valA kvs kk) fun z => .ok (.val z) en m
      else (ev d en m).bind fun z en m => opt2 (esc z en) fun wz en => opt (dicW m w) fun kvs => .ok (.val ((valA kvs kk).getD wz)) en m
  | .din ng k a, en, m => (ev k en m).bind fun y en m => opt (keyR y) fun kk => (ev a en m).bind fun x en m => opt (rvW en x) fun w => opt (dicW m w) fun kvs => .ok (.val (.bl ((valA kvs kk).isSome != ng))) en m
  | .dkeys a, en, m => (ev a en m).bind fun x en m => opt (rvW en x) fun w => opt (dicW m w) fun kvs => .ok (.new (kvs.map fun q => keyToW q.1)) en m
  | .isx a tab, en, m => (ev a en m).bind fun x en m => opt ((rvW en x).bind (excW tab)) fun b => .ok (.val (.bl b)) en m
  | .lock a e, en, m => opt (pathD en m a) fun i => opt (dicAt m i) fun kvs => (ev e en (m.set i (.lk kvs))).noex.bind fun x en m => opt (lkAt m i) fun kvs => .ok x en (m.set i (.dic kvs))
  | .dlit ks es, en, m => (evs es en m).bind fun ws en m => if ws.length = ks.length ∧ ks.length ≤ 15 ∧ ks ≠ [] ∧ ks.Nodup then .ok (.val (.ref m.length)) en (m ++ [.dic ((ks.zip ws).map fun q => (.inr q.1, q.2))]) else .bad
  | .lrng2 a b, en, m => (ev a en m).bind fun x en m => (ev b en m).bind fun y en m => opt (intR x) fun a => opt (intR y) fun b => if -100000 ≤ a ∧ a ≤ 100000 ∧ -100000 ≤ b ∧ b ≤ 100000 then .ok (.new ((List.range (b - a).toNat).map fun (i : Nat) => .int (a + (i : Int)))) en m else .bad
def evAnd : E → En → Sto → R RV
  | .cons a .nil, en, m => ev a en m
  | .cons a es, en, m => (ev a en m).bind fun x en m => opt (blR x) fun t => if t then evAnd es en m else .ok (.val (.bl false)) en m
  | _, _, _ => .bad
def evOr : E → En → Sto → R RV
  | .cons a .nil, en, m => ev a en m
  | .cons a es, en, m => (ev a en m).bind fun x en m => opt (blR x) fun t => if t then .ok (.val (.bl true)) en m else evOr es en m
  | _, _, _ => .bad
/-- arguments, each kept -/
def evs : E → En → Sto → R (List W)
  | .nil, en, m => .ok [] en m
  | .cons e es, en, m => (ev e en m).bind fun x en m => opt2 (esc x en) fun w en => (evs es en m).bind fun ws en m => .ok (w :: ws) en m
  | _, _, _ => .bad
/-- a built-in's arguments: a single one is not kept -/
def evl : E → En → Sto → R (List W)
  | .cons e .nil, en, m => (ev e en m).bind fun x en m => opt (rvW en x) fun w => .ok [w] en m
  | .cons e es, en, m => (ev e en m).bind fun x en m => opt2 (esc x en) fun w en => (evs es en m).bind fun ws en m => .ok (w :: ws) en m
  | _, _, _ => .bad
end
end
end Mp
namespace Mp
open PySem PySem.Spec PyProof.Rows L2
section
variable (cs : Nat → List W → Sto → CR) (gl : List W) (N : Nat)
def slOf : RV → En → Option (Sl × En)
  | .new ws, en => some (.own ws, en)
  | r, en => (esc r en).map fun p => (.val p.1, p.2)
/-- what is handed back: a name's own list goes along -/
def retR : RV → En → Option RV
  | .bor j, en => (enGet en j).map fun s => match s with
    | .own ws => .new ws
    | .val w => .val w
  | r, _ => some r
def augF : Op → Int → Int → Option Int
  | .add, i, k => some (i + k)
  | .sub, i, k => some (i - k)
  | _, _, _ => none
def sv : S → En → Sto → R Out
  | .skip, en, m => .ok .nx en m
  | .seq s t, en, m => (sv s en m).bind fun o en m => match o with
    | .nx => sv t en m
    | .rt r => .ok (.rt r) en m
  | .asg j e, en, m => (ev cs gl e en m).bind fun x en m => opt2 (slOf x en) fun s en => .ok .nx (en.set j (some s)) m
  | .unp tg e, en, m => (ev cs gl e en m).bind fun x en m => opt2 (esc x en) fun w en => opt (bindT tg w m en) fun en => .ok .nx en m
  | .par i j a b, en, m => (evs cs gl (.cons a (.cons b .nil)) en m).bind fun ws en m => match ws with
    | [x, y] => .ok .nx ((en.set i (some (.val x))).set j (some (.val y))) m
    | _ => .bad
  | .seti a i e, en, m => (ev cs gl e en m).bind fun x en m => opt2 (esc x en) fun w en => (ev cs gl a en m).bind fun o en m => (ev cs gl i en m).bind fun y en m =>
      opt (val? y) fun i => opt2 (setAt en m (hold o) i w) fun en m => .ok .nx en m
  | .app a e, en, m => (ev cs gl a en m).bind fun o en m => opt (rvL en m (hold o)) fun _ => (ev cs gl e en m).bind fun x en m => opt2 (esc x en) fun w en => opt2 (appTo en m (hold o) w) fun en m => .ok .nx en m
  | .ex e, en, m => (ev cs gl e en m).bind fun _ en m => .ok .nx en m
  | .ret e, en, m => (ev cs gl e en m).bind fun x en m => opt (retR x en) fun r => .ok (.rt r) en m
  | .retn, en, m => .ok (.rt (.val .non)) en m
  | .iff c s t, en, m => (ev cs gl c en m).bind fun x en m => opt (blR x) fun b => if b then sv s en m else sv t en m
  | .for_ it src tg b, en, m => (evs cs gl src en m).bind fun ws en m => opt2 (itemsR it m ws) fun zs ck =>
      forL (chk ck) (fun w en m => opt (bindT tg w m en) fun en => sv b en m) zs en m
  | .whl c b, en, m => whileL (fun en m => (ev cs gl c en m).bind fun x en m => opt (blR x) fun t => .ok t en m) (fun en m => sv b en m) N en m
  | .raise c, en, m => .ex c en m
  | .never, _, _ => .bad
  | .augn j op e, en, m => opt (enGet en j) fun s => match s with
    | .val (.int i) => (ev cs gl e en m).bind fun y en m => opt ((intR y).bind (augF op i)) fun n => .ok .nx (en.set j (some (.val (.int n)))) m
    | _ => .bad
  | .extd a e, en, m => (ev cs gl a en m).bind fun o en m => opt (rvL en m (hold o)) fun _ => (ev cs gl e en m).bind fun x en m => opt2 (esc x en) fun w en => opt (lstW m w) fun zs => opt2 (extTo en m (hold o) zs) fun en m => .ok .nx en m
  | .setf a x cl e, en, m => (ev cs gl e en m).bind fun y en m => opt2 (esc y en) fun w en => (ev cs gl a en m).bind fun o en m => opt (rvW en o) fun z => match z with
    | .ref i => match m[i]? with
      | some (.ins c fs) => if cl.contains c ∧ fs.length < 900 then .ok .nx en (m.set i (.ins c (putFA x w fs))) else .bad
      | _ => .bad
    | _ => .bad
  | .dput a k e, en, m => (ev cs gl e en m).bind fun y en m => opt2 (esc y en) fun w en => (ev cs gl a en m).bind fun o en m => opt (rvW en o) fun z => (ev cs gl k en m).bind fun y en m => opt (keyR y) fun kk => match z with
    | .ref i => match m[i]? with
      | some (.dic kvs) => if kvs.length < LIM then .ok .nx en (m.set i (.dic (putA_ kvs kk w))) else .bad
      | _ => .bad
    | _ => .bad
  | .tryx b cl j s, en, m => match sv b en m with
    | .ex c en m => if cl.contains c then (sv s (en.set j (some (.val (.exc c)))) m).noex.bind fun o en m => .ok o (en.set j none) m else .bad
    | r => r
  | .lockS a s, en, m => opt (pathD en m a) fun i => opt (dicAt m i) fun kvs => (sv s en (m.set i (.lk kvs))).noex.bind fun o en m => opt (lkAt m i) fun kvs => .ok o en (m.set i (.dic kvs))
  | .augf a x cl e, en, m => (ev cs gl a en m).bind fun o en m => opt (rvW en o) fun z => opt (insW m z) fun q => opt (if cl.contains q.1 ∧ q.2.length < 900 then (q.2.lookup x).bind (fun u => intR (.val u)) else none) fun i =>
      (ev cs gl e en m).bind fun y en m => opt (intR y) fun k => opt (insW m z) fun q2 => match z with
    | .ref n => if q2.1 = q.1 ∧ q2.2.length < 900 then .ok .nx en (m.set n (.ins q2.1 (putFA x (.int (i + k)) q2.2))) else .bad
    | _ => .bad
end
structure Fd where
  np : Nat
  nn : Nat
  body : S
def endR (r : R Out) : CR :=
  match r with
  | .ok .nx _ m => .ok (.val .non) m
  | .ok (.rt r) _ m => .ok r m
  | .ex c _ m => .ex c m
  | .bad => .bad
def runB (cs : Nat → List W → Sto → CR) (gl : List W) (N : Nat) (f : Fd) (ws : List W) (m : Sto) : CR :=
  endR (sv cs gl N f.body (ws.map (fun w => some (.val w)) ++ List.replicate (f.nn - ws.length) none) m)
def callN (fs : List Fd) (gl : List W) (N : Nat) : Nat → Nat → List W → Sto → CR
  | 0, _, _, _ => .bad
  | k + 1, f, ws, m => match fs[f]? with
    | some d => if ws.length = d.np then runB (callN fs gl N k) gl N d ws m else .bad
    | none => .bad
end Mp

set_option Elab.async false
set_option linter.all false
set_option maxRecDepth 100000
set_option maxHeartbeats 4000000
/-! a caught exception that is kept -/
namespace L2
open PySem PySem.Spec PyProof.Rows
/-- an instance of the exception class at D, without a dict -/
def ExcAt (a D : Addr) : Heap → Prop := fun h => ∃ oe, PySem.W.InstAt h a oe D none
theorem ExcAt.stay {a D : Addr} {h1 h2 : Heap} (x : ExcAt a D h1) (k : ∀ o, h1.get? a = some o → h2.get? a = some o) : ExcAt a D h2 := by
  obtain ⟨oe, J⟩ := x
  exact ⟨oe, k _ J.at_, J.cls, J.no, by
    have := J.dict
    revert this
    cases oe.dict with
    | none => exact id
    | some d => exact fun z => z.elim⟩
section
variable {X : Cx} {pins : List (Addr × Obj)} {σ : St} {H : Hp} {s : Shared}
/-- a thing that nobody knew is known from here on -/
theorem Inv.adopt {a D : Addr} (I : Inv X pins σ H s) (e : ExcAt a D s.heap) (na : H a = none) (n0 : X.s_0.heap.get? a = none) (nL : a ≠ X.env.locals) (nC : ∀ x c, X.env.cells.lookup x = some c → c ≠ a) (nP : ∀ p ∈ X.pn ++ pins, p.1 ≠ a) :
    Inv X pins σ (upd H a (.ext (ExcAt a D))) s := by
  have n1 : ∀ b o, X.s_0.heap.get? b = some o → b ≠ a := fun b o q z => by rw [z, n0] at q; cases q
  have n2 : ∀ b u, H b = some u → b ≠ a := fun b u q z => by rw [z, na] at q; cases q
  refine ⟨I.ok, I.os, I.bare, ⟨I.base.keep, I.base.slot, fun b o q n hx => ?_, I.base.there, fun b xs q => ?_, fun b o u q => ?_, fun b ps q => ?_⟩, I.loc, I.cell, ?_, fun x c q => ?_, fun p hp => ?_, fun b u q => ?_, I.len⟩
  · rw [upd_ne (n1 b o q)]; exact I.base.free b o q n hx
  · have := I.base.tups b xs q
    rw [upd_ne (n2 b _ this)]; exact this
  · have := I.base.frzs b o u q
    rw [upd_ne (n2 b _ this)]; exact this
  · obtain ⟨more, e1⟩ := I.base.tbls b ps q
    exact ⟨more, by rw [upd_ne (n2 b _ e1)]; exact e1⟩
  · rw [upd_ne (fun z => nL z.symm)]; exact I.free
  · rw [upd_ne (nC x c q)]; exact I.freeC x c q
  · obtain ⟨h1, h2, h3, h4, h5⟩ := I.pin p hp
    exact ⟨h1, by rw [upd_ne (nP p hp)]; exact h2, h3, h4, h5⟩
  · by_cases hb : b = a
    · subst hb
      rw [upd_same] at q; cases q
      obtain ⟨oe, J⟩ := e
      exact ⟨⟨oe, J⟩, ⟨oe, J.at_⟩, fun h1 h2 p k => p.stay k⟩
    · rw [upd_ne hb] at q
      exact (I.hok b u q).stay (fun _ _ _ z => z) (fun c z => by rw [upd_ne (n2 c _ z)]; exact z) fun c xs z => by rw [upd_ne (n2 c _ z)]; exact z
theorem Inv.inSuite (I : Inv X pins σ H s) (a : Addr) : Inv (X.suite a (X.pn ++ pins)) [] σ H s :=
  ⟨I.ok.suite _ _, I.os, I.bare, I.base, I.loc, I.cell, I.free, I.freeC, fun p hp => I.pin p (by rw [List.append_nil] at hp; exact hp), I.hok, I.len⟩
theorem Inv.outSuite {a : Addr} {pn' : List (Addr × Obj)} (I : Inv (X.suite a (X.pn ++ pins)) pn' σ H s) (ok : X.Ok) : Inv X pins σ H s :=
  ⟨ok, I.os, I.bare, I.base, I.loc, I.cell, I.free, I.freeC, fun p hp => I.pin p (List.mem_append_left _ hp), I.hok, I.len⟩
/-- what the clause wishes: every exception of the body is one that it names; what is caught is known in the suite, and behind it -/
def wKeep (K : PySem.W.Frag) (c : Value) (i : Nat) (ts : TS) (D : Ends) : WX := fun cls d σ H =>
  ∃ E, cls = .ref E ∧ d = none ∧ PySem.W.exmOne K cls c = some true ∧ ∀ a, H a = none → ts { nx := fun σ' H' => D.nx (σ'.set i none) H', rt := D.rt, bk := fun σ' H' => D.bk (σ'.set i none) H', ct := fun σ' H' => D.ct (σ'.set i none) H' } (σ.set i (some (.ref a))) (upd H a (.ext (ExcAt a E)))
theorem ps_try_keep {x n : Str} {c : Value} {i : Nat} {body suite : List Stmt} {b₀ : Stmt} {np pos pos' : Pos} {tb : WX → TS} {ts : TS} (hs : X.stack = X.env :: X.outer) (hf : X.env.frame = some X.env.locals) (hex : X.ex = []) (hN : X.N.Nodup) (hi : X.N[i]? = some n) (hln : X.env.kindOf n = some .local) (hc : Names X x c)
    (hb : ∀ (W : WX) (pn : List (Addr × Obj)) (xe : Value → Shared → Prop), Takes (X.tr pn xe) W → PassesOwn (model X.prog X.w) X.A X.env xe → PSs (X.tr pn xe) body (tb W))
    (hsu : ∀ (a : Addr) (pn : List (Addr × Obj)), PSs (X.suite a pn) (b₀ :: suite) ts) :
    PS X (.Try body [.ExceptHandler (some (.Name x np)) (some n) (b₀ :: suite) pos'] [] [] pos) (fun D σ H => tb (wKeep X.K c i ts D) D σ H) := by
  refine ⟨fun pins s σ H D I h => ?_⟩
  have ok := I.ok
  have frs_ : X.A.frames = some (X.env :: X.outer) := by rw [ok.frames, hs]
  refine wpAny_Try_except (wpAny_mono ((hb (wKeep X.K c i ts D) (X.pn ++ pins) _ (fun u s' xx => ?_) PassesOwn.looking).run [] s σ H D (I.toTry _) h) (fun f s1 q => ?_) (fun e s1 he => he))
  · obtain ⟨a, B, sI, pins', σ1, H1, cls, d, rfl, J0, nb, up, sky, na, os, ag, E, rfl, rfl, hm, go⟩ := xx
    have J : Inv X pins σ1 H1 sI := J0.ofTry ok
    have sky1 : Sky B (X.env :: X.outer) a (Zc (.ref E) none) X.env.locals s'.heap := by rw [← hs]; exact sky
    -- what is caught is new
    have nB : B.get? a = none := by
      rcases sky1 with z | z | z
      · exact z.2.1
      · exact z.2.1
      · exact z.2.1
    show wpAny _ X.A (noteFrame (.ref a) X.env) _ _ _
    refine Sky.land Zc.steady frs_ hf sky1 fun hA flA upA => ?_
    have JA : Inv X pins σ1 H1 { s' with heap := hA } := J.landed nb flA.1 (up.trans upA) os ag
    obtain ⟨oA, vA, eA, zA, dA⟩ := flA.there
    have nF : a ∉ frs (X.env :: X.outer) := fun hm2 => by
      obtain ⟨_, o2, e2, hn2⟩ := flA.2.2.1.mem hm2
      rw [eA] at e2; cases e2
      exact hn2 _ dA
    have nS : a ∉ frs X.stack := by rw [hs]; exact nF
    have nI : sI.heap.get? a = none := by
      cases q : sI.heap.get? a with
      | none => rfl
      | some o => rw [nb a o q nS] at nB; cases nB
    have nL : a ≠ X.env.locals := fun z => nF (List.mem_filterMap.mpr ⟨X.env, List.mem_cons_self, by rw [hf, z]⟩)
    have n0 : X.s_0.heap.get? a = none := by
      cases q : X.s_0.heap.get? a with
      | none => rfl
      | some o =>
        obtain ⟨o2, q2⟩ := J.base.there a o q (by rw [hex]; exact List.not_mem_nil)
        rw [nI] at q2; cases q2
    have nC : ∀ y b, X.env.cells.lookup y = some b → b ≠ a := fun y b q z => by
      obtain ⟨v, o, q2, _⟩ := J.cell y b q
      rw [z, nI] at q2; cases q2
    have nP : ∀ p ∈ X.pn ++ pins, p.1 ≠ a := fun p hp z => by
      have := (J.pin p hp).1
      rw [z, nI] at this; cases this
    have look : PySem.W.Looks (model X.prog X.w) hA (typeOf (.ref a)) (.ref E) := fun A Q E2 t k q => wpAny_typeOf_ref (k _ _ eA) (by rw [zA.1]; exact q)
    have SA := JA.inSuite a
    refine wpAny_handleBy_cons (codeAny_handlers_test ?_) (by intro q; cases q)
    have name : ∀ {Q : Value → Shared → Prop} {E2 : Value → Shared → Prop}, Q c { s' with heap := hA } → wpAny (model X.prog X.w) (X.A.mark (some (.ref a))) (eval (.Name x np) X.env) Q E2 { s' with heap := hA } := fun {Q E2} q => by
      obtain ⟨g1, g2, g3 | ⟨g3, g4, g5⟩⟩ := hc
      · exact ld_glob (X := X.suite a (X.pn ++ pins)) SA g1 g3 q g2
      · exact ld_blt (X := X.suite a (X.pn ++ pins)) SA g1 g3 g4 q g5 g2
    refine name ((PySem.W.exm_one (M := model X.prog X.w) JA.kIn look hm).here ?_)
    refine codeAny_handlers_suite_as (HandSPX.lands_againZ flA fun hB flB upB => ?_)
    have JB : Inv X pins σ1 H1 { s' with heap := hB } := J.landed nb flB.1 ((up.trans upA).trans upB) os ag
    obtain ⟨oB, vB, eB, zB, dB⟩ := flB.there
    have xB : ExcAt a E hB := by
      refine ⟨oB, eB, zB.1, ?_, ?_⟩
      · unfold PySem.W.notCls; rw [dB]
      · rw [zB.2]; trivial
    have SB := (JB.adopt xB na n0 nL nC nP).inSuite a
    refine store_ok (X := X.suite a (X.pn ++ pins)) (v := .ref a) SB hN hi (.inl hln) rfl (fun s5 S5 => ?_) (.inr hln)
    refine wpAny_mono ((hsu a (X.pn ++ pins)).run [] s5 _ _ _ S5 (go a na)) (fun f s6 q6 => ?_) (fun _ _ z => False.elim z)
    have fin : ∀ {σ6 : St} {H6 : Hp} {Q : Shared → Prop}, Inv (X.suite a (X.pn ++ pins)) [] σ6 H6 s6 → (∀ s7, Inv X pins (σ6.set i none) H6 s7 → Q s7) →
        wpAny (model X.prog X.w) X.A (do bindName X.env n .none; unbindBehindTheSuite X.env n pos') (fun _ s7 => Q s7) X.xe s6 := fun {σ6 H6 Q} S6 hq => gone_ok (S6.outSuite ok) hN hi hln hq
    cases f with
    | next => obtain ⟨σ6, H6, S6, q7⟩ := q6; exact fin S6 fun s7 J7 => ⟨_, _, J7, q7⟩
    | brk => obtain ⟨σ6, H6, S6, q7⟩ := q6; exact fin S6 fun s7 J7 => ⟨_, _, J7, q7⟩
    | cont => obtain ⟨σ6, H6, S6, q7⟩ := q6; exact fin S6 fun s7 J7 => ⟨_, _, J7, q7⟩
    | ret u => obtain ⟨v6, σ6, H6, S6, r6, q7⟩ := q6; exact fin S6 fun s7 J7 => ⟨_, _, _, J7, r6, q7⟩
  · cases f with
    | next => obtain ⟨σ1, H1, J1, q1⟩ := q; exact wpAny_execs_nil ⟨σ1, H1, J1.ofTry ok, q1⟩
    | brk => obtain ⟨σ1, H1, J1, q1⟩ := q; exact ⟨σ1, H1, J1.ofTry ok, q1⟩
    | cont => obtain ⟨σ1, H1, J1, q1⟩ := q; exact ⟨σ1, H1, J1.ofTry ok, q1⟩
    | ret u => obtain ⟨v1, σ1, H1, J1, r1, q1⟩ := q; exact ⟨v1, σ1, H1, J1.ofTry ok, r1, q1⟩
/-- isinstance of an exception that is kept -/
theorem kit_exc {a D : Addr} {u : Value} (C : ExcC X.K D) (I : Inv X pins σ H s) (r : RelV (.ref a) u) (h : H a = some (.ext (ExcAt a D))) : ∃ P : Heap → Prop, PySem.W.KitX X.K u (.ref D) P ∧ P s.heap ∧ u ≠ .builtin "__main__.__loader__#opaque" := by
  cases (show u = Value.ref a from r)
  obtain ⟨⟨oe, J⟩, _⟩ := (show ObjOk X.prog X.w H s.heap a (.ext (ExcAt a D)) from I.hok a _ h)
  exact ⟨_, PySem.W.handS_kitx_exc C.hg C.hk C.hs C.hd C.ha C.hn C.ht C.hm, J, fun z => nomatch z⟩
end
/-- a value whose class isinstance can be asked of: a kept exception, or None -/
inductive TyE (K : PySem.W.Frag) (H : Hp) : V → Value → Prop
  | exc {a D : Addr} : ExcC K D → H a = some (.ext (ExcAt a D)) → TyE K H (.ref a) (.ref D)
  | non : TyE K H .non (.type "NoneType")
section
variable {X : Cx} {pins : List (Addr × Obj)} {σ : St} {H : Hp} {s : Shared}
theorem kit_ofE {x : V} {u t : Value} (I : Inv X pins σ H s) (rx : RelV x u) (ty : TyE X.K H x t) : ∃ P : Heap → Prop, PySem.W.KitX X.K u t P ∧ P s.heap ∧ u ≠ .builtin "__main__.__loader__#opaque" := by
  cases ty with
  | exc C h => exact kit_exc C I rx h
  | non => exact kit_of I rx (.base .non)
def rIsX (K : PySem.W.Frag) : List V → Hp → VK → Prop := fun xs H Q => ∃ (x c : V) (t u : Value) (b : Bool), xs = [x, c] ∧ ClsV c u ∧ TyE K H x t ∧ PySem.W.kitOne K t u = some b ∧ Q (.bl b) H
def rIsXT (K : PySem.W.Frag) : List V → Hp → VK → Prop := fun xs H Q => ∃ (x : V) (tp : Addr) (cs : List V) (t : Value) (us : List Value) (b : Bool), xs = [x, .ref tp] ∧ H tp = some (.tup cs) ∧ Paired ClsV cs us ∧ TyE K H x t ∧ PySem.W.kitAny K t us = some b ∧ Q (.bl b) H
theorem call_isX : CallR X (.builtin "isinstance") (rIsX X.K) := by
  intro pins s σ H xs us Q I r h
  obtain ⟨x, c, t, u, b, rfl, k, ty, e, q⟩ := h
  obtain ⟨u1, u2, rfl, r1, r2⟩ := vals2 r
  have e2 := k.eq r2
  subst e2
  obtain ⟨P, Z, p, hx⟩ := kit_ofE I r1 ty
  exact PySem.W.kia_one Z I.kIn p e hx fun tk => ⟨.bl b, H, I.tok tk, rfl, q⟩
theorem call_isXT : CallR X (.builtin "isinstance") (rIsXT X.K) := by
  intro pins s σ H xs us Q I r h
  obtain ⟨x, tp, cs, t, ws, b, rfl, hT, k, ty, e, q⟩ := h
  obtain ⟨u1, u2, rfl, r1, r2⟩ := vals2 r
  cases (show u2 = Value.ref tp from r2)
  obtain ⟨P, Z, p, hx⟩ := kit_ofE I r1 ty
  obtain ⟨_, its, rv, ⟨oc, od, dt, sl⟩, h1, h2, n, h3⟩ := (show ObjOk X.prog X.w H s.heap tp (.tup cs) from I.hok tp _ hT)
  have e3 := ClsV.all k rv
  subst e3
  simp only at h2 h3
  subst h2 h3
  exact PySem.W.kia_tup Z I.kIn p h1 e hx fun tk => ⟨.bl b, H, I.tok tk, rfl, q⟩
end
end L2

set_option Elab.async false
set_option linter.all false
set_option maxRecDepth 100000
set_option maxHeartbeats 4000000
namespace Mp
open PySem PySem.Spec PyProof.Rows L2

abbrev Slo := List (Option V)
/-- where the classes and defs stand -/
structure Tab where
  K : PySem.W.Frag
  ca : Nat → Addr
  fa : Nat → Addr
  xa : Nat → Addr

mutual
inductive Rep (T : Tab) (B : Hp) (r : List Addr) : V → W → Prop
  | non : Rep T B r .non .non
  | bl (b : Bool) : Rep T B r (.bl b) (.bl b)
  | int (i : Int) : Rep T B r (.int i) (.int i)
  | str (s : Str) : Rep T B r (.str s) (.str s)
  | lst {a : Addr} {vs : List V} {ws : List W} : Rd B a (.lst vs) → RepL T B r vs ws → Rep T B r (.ref a) (.lst ws)
  | scr {a : Addr} {vs : List V} {ws : List W} : SqL T.K B a vs → RepL T B r vs ws → Rep T B r (.ref a) (.scr ws)
  | tup {a : Addr} {vs : List V} {ws : List W} : SqT T.K B a vs → RepL T B r vs ws → Rep T B r (.ref a) (.tup ws)
  | ref {a : Addr} {i : Nat} : r[i]? = some a → Rep T B r (.ref a) (.ref i)
  | raw (v : V) : Rep T B r v (.raw v)
  | fn (f : Nat) : Rep T B r (.ref (T.fa f)) (.fn f)
  | exc {a : Addr} (c : Nat) : B a = some (.ext (L2.ExcAt a (T.xa c))) → Rep T B r (.ref a) (.exc c)
inductive RepL (T : Tab) (B : Hp) (r : List Addr) : List V → List W → Prop
  | nil : RepL T B r [] []
  | cons {v : V} {w : W} {vs : List V} {ws : List W} : Rep T B r v w → RepL T B r vs ws → RepL T B r (v :: vs) (w :: ws)
end

def Sub (H G : Hp) : Prop := ∀ a o, H a = some o → G a = some o
theorem Sub.refl (H : Hp) : Sub H H := fun _ _ h => h
theorem Sub.trans {H G F : Hp} (p : Sub H G) (q : Sub G F) : Sub H F := fun a o h => q a o (p a o h)
theorem Sub.new {H : Hp} {p : Addr} {o : HO} (h : H p = none) : Sub H (upd H p o) := fun a u e => by
  by_cases c : a = p
  · rw [c, h] at e; cases e
  · rw [upd_ne c]; exact e
theorem Sub.none {H G : Hp} (s : Sub H G) {p : Addr} (h : G p = none) : H p = none := by
  cases q : H p with
  | none => rfl
  | some o => rw [s p o q] at h; cases h
theorem Sub.rd {H G : Hp} (s : Sub H G) {a : Addr} {u : HO} (h : Rd H a u) : Rd G a u := by
  rcases h with h | ⟨o, h⟩
  · exact .inl (s _ _ h)
  · exact .inr ⟨o, s _ _ h⟩
theorem Sub.sqt {K : PySem.W.Frag} {H G : Hp} (s : Sub H G) {a : Addr} {vs : List V} (h : SqT K H a vs) : SqT K G a vs := by
  rcases h with h | h
  · exact .inl (s.rd h)
  · exact .inr h
theorem Sub.sql {K : PySem.W.Frag} {H G : Hp} (s : Sub H G) {a : Addr} {vs : List V} (h : SqL K H a vs) : SqL K G a vs := by
  rcases h with h | h
  · exact .inl (s.rd h)
  · exact .inr h

theorem pre_get {r r2 : List Addr} (p : r <+: r2) {i : Nat} {a : Addr} (h : r[i]? = some a) : r2[i]? = some a := by
  obtain ⟨t, rfl⟩ := p
  have hl := (List.getElem?_eq_some_iff.mp h).1
  rw [List.getElem?_append_left hl]
  exact h

section
variable {T : Tab} {B B2 H : Hp} {r r2 : List Addr}
mutual
theorem Rep.mono (s : Sub B B2) (p : r <+: r2) : ∀ {v : V} {w : W}, Rep T B r v w → Rep T B2 r2 v w
  | _, _, .non => .non
  | _, _, .bl b => .bl b
  | _, _, .int i => .int i
  | _, _, .str x => .str x
  | _, _, .lst h l => .lst (s.rd h) (RepL.mono s p l)
  | _, _, .tup h l => .tup (s.sqt h) (RepL.mono s p l)
  | _, _, .scr h l => .scr (s.sql h) (RepL.mono s p l)
  | _, _, .ref h => .ref (pre_get p h)
  | _, _, .raw v => .raw v
  | _, _, .fn f => .fn f
  | _, _, .exc c h => .exc c (s _ _ h)
theorem RepL.mono (s : Sub B B2) (p : r <+: r2) : ∀ {vs : List V} {ws : List W}, RepL T B r vs ws → RepL T B2 r2 vs ws
  | _, _, .nil => .nil
  | _, _, .cons h l => .cons (Rep.mono s p h) (RepL.mono s p l)
end
theorem RepL.len : ∀ {vs : List V} {ws : List W}, RepL T B r vs ws → vs.length = ws.length
  | _, _, .nil => rfl
  | _, _, .cons _ l => by rw [List.length_cons, List.length_cons, RepL.len l]
theorem RepL.app : ∀ {vs us : List V} {ws zs : List W}, RepL T B r vs ws → RepL T B r us zs → RepL T B r (vs ++ us) (ws ++ zs)
  | _, _, _, _, .nil, q => q
  | _, _, _, _, .cons h l, q => .cons h (RepL.app l q)
theorem RepL.take : ∀ {vs : List V} {ws : List W} (n : Nat), RepL T B r vs ws → RepL T B r (vs.take n) (ws.take n)
  | _, _, 0, _ => by rw [List.take_zero, List.take_zero]; exact .nil
  | _, _, _ + 1, .nil => .nil
  | _, _, n + 1, .cons h l => .cons h (RepL.take n l)
theorem RepL.drop : ∀ {vs : List V} {ws : List W} (n : Nat), RepL T B r vs ws → RepL T B r (vs.drop n) (ws.drop n)
  | _, _, 0, q => q
  | _, _, _ + 1, .nil => .nil
  | _, _, n + 1, .cons _ l => RepL.drop n l
theorem RepL.rev : ∀ {vs : List V} {ws : List W}, RepL T B r vs ws → RepL T B r vs.reverse ws.reverse
  | _, _, .nil => .nil
  | _, _, .cons h l => by
    rw [List.reverse_cons, List.reverse_cons]
    exact RepL.app (RepL.rev l) (.cons h .nil)
theorem RepL.set {v : V} {w : W} (h : Rep T B r v w) : ∀ {vs : List V} {ws : List W} (i : Nat), RepL T B r vs ws → RepL T B r (vs.set i v) (ws.set i w)
  | _, _, _, .nil => .nil
  | _, _, 0, .cons _ l => .cons h l
  | _, _, i + 1, .cons q l => .cons q (RepL.set h i l)
theorem RepL.erase : ∀ {vs : List V} {ws : List W} (i : Nat), RepL T B r vs ws → RepL T B r (vs.eraseIdx i) (ws.eraseIdx i)
  | _, _, _, .nil => .nil
  | _, _, 0, .cons _ l => l
  | _, _, i + 1, .cons q l => .cons q (RepL.erase i l)
theorem RepL.rep {vs : List V} {ws : List W} (h : RepL T B r vs ws) : ∀ n : Nat, RepL T B r (List.replicate n vs).flatten (List.replicate n ws).flatten
  | 0 => .nil
  | n + 1 => by
    rw [List.replicate_succ, List.replicate_succ, List.flatten_cons, List.flatten_cons]
    exact RepL.app h (RepL.rep h n)
theorem RepL.get : ∀ {vs : List V} {ws : List W} {i : Nat} {w : W}, RepL T B r vs ws → ws[i]? = some w → ∃ v, vs[i]? = some v ∧ Rep T B r v w
  | _, _, _, _, .nil, e => by simp at e
  | _, _, 0, _, .cons h _, e => by
    rw [List.getElem?_cons_zero] at e; cases e
    exact ⟨_, rfl, h⟩
  | _, _, i + 1, _, .cons _ l, e => by
    rw [List.getElem?_cons_succ] at e
    obtain ⟨v, h1, h2⟩ := RepL.get l e
    exact ⟨v, by rw [List.getElem?_cons_succ]; exact h1, h2⟩
theorem RepL.getV : ∀ {vs : List V} {ws : List W} {i : Nat} {v : V}, RepL T B r vs ws → vs[i]? = some v → ∃ w, ws[i]? = some w ∧ Rep T B r v w
  | _, _, _, _, .nil, e => by simp at e
  | _, _, 0, _, .cons h _, e => by
    rw [List.getElem?_cons_zero] at e; cases e
    exact ⟨_, rfl, h⟩
  | _, _, i + 1, _, .cons _ l, e => by
    rw [List.getElem?_cons_succ] at e
    obtain ⟨v, h1, h2⟩ := RepL.getV l e
    exact ⟨v, by rw [List.getElem?_cons_succ]; exact h1, h2⟩
theorem RepL.ints : ∀ {ws : List W} {vs : List V} {ns : List Int}, RepL T B r vs ws → intsW ws = some ns → vs = ns.map V.int
  | [], _, _, h, e => by
    cases h
    simp only [intsW, Option.some.injEq] at e; subst e; rfl
  | w :: ws, _, _, h, e => by
    cases h with
    | cons h l =>
      cases w with
      | int i =>
        cases h
        simp only [intsW] at e
        cases q : intsW ws with
        | none => rw [q] at e; cases e
        | some ms =>
          rw [q] at e
          simp only [Option.map_some, Option.some.injEq] at e
          subst e
          rw [RepL.ints l q, List.map_cons]
      | _ => simp [intsW] at e
theorem RepL.bls : ∀ {ws : List W} {vs : List V} {ns : List Bool}, RepL T B r vs ws → blsW ws = some ns → vs = ns.map V.bl
  | [], _, _, h, e => by
    cases h
    simp only [blsW, Option.some.injEq] at e; subst e; rfl
  | w :: ws, _, _, h, e => by
    cases h with
    | cons h l =>
      cases w with
      | bl i =>
        cases h
        simp only [blsW] at e
        cases q : blsW ws with
        | none => rw [q] at e; cases e
        | some ms =>
          rw [q] at e
          simp only [Option.map_some, Option.some.injEq] at e
          subst e
          rw [RepL.bls l q, List.map_cons]
      | _ => simp [blsW] at e
theorem Rep.ints : ∀ (ns : List Int), RepL T B r (ns.map V.int) (ns.map W.int)
  | [] => .nil
  | n :: ns => .cons (.int n) (Rep.ints ns)
end

/-! ### pairs of a dict, attributes -/
inductive RepK {κ : Type} (T : Tab) (B : Hp) (r : List Addr) : List (κ × V) → List (κ × W) → Prop
  | nil : RepK T B r [] []
  | cons {k : κ} {v : V} {w : W} {vs : List (κ × V)} {ws : List (κ × W)} : Rep T B r v w → RepK T B r vs ws → RepK T B r ((k, v) :: vs) ((k, w) :: ws)
inductive RepO (T : Tab) (B : Hp) (r : List Addr) : HO → Ob → Prop
  | lst {vs : List V} {ws : List W} : RepL T B r vs ws → RepO T B r (.lst vs) (.lst ws)
  | dic {vs : List (Key × V)} {ws : List (Key × W)} : RepK T B r vs ws → RepO T B r (.dK vs) (.dic ws)
  | ins {c : Nat} {dx : Addr} {vs : List (Str × V)} {ws : List (Str × W)} : RepK T B r vs ws → RepO T B r (.ins (T.ca c) dx vs) (.ins c ws)
  | lk {o : PySem.Obj} {vs : List (Key × V)} {ws : List (Key × W)} : RepK T B r vs ws → RepO T B r (.frz o (.dK vs)) (.lk ws)
section
variable {T : Tab} {B B2 H : Hp} {r r2 : List Addr}
theorem RepK.mono {κ : Type} (s : Sub B B2) (p : r <+: r2) : ∀ {vs : List (κ × V)} {ws : List (κ × W)}, RepK T B r vs ws → RepK T B2 r2 vs ws
  | _, _, .nil => .nil
  | _, _, .cons h l => .cons (h.mono s p) (RepK.mono s p l)
theorem RepO.mono (s : Sub B B2) (p : r <+: r2) {o : HO} {b : Ob} (h : RepO T B r o b) : RepO T B2 r2 o b := by
  cases h with
  | lst l => exact .lst (l.mono s p)
  | dic l => exact .dic (l.mono s p)
  | ins l => exact .ins (l.mono s p)
  | lk l => exact .lk (l.mono s p)
end

/-! ### the state -/
structure Ext (P B : Hp) (r : List Addr) (B2 : Hp) (r2 : List Addr) : Prop where
  sub : Sub B B2
  pre : r <+: r2
  fix : ∀ a, P a ≠ none → B2 a = B a
theorem Ext.refl {P B : Hp} {r : List Addr} : Ext P B r B r := ⟨Sub.refl B, List.prefix_refl r, fun _ _ => rfl⟩
theorem Ext.trans {P B B2 B3 : Hp} {r r2 r3 : List Addr} (e : Ext P B r B2 r2) (f : Ext P B2 r2 B3 r3) : Ext P B r B3 r3 :=
  ⟨e.sub.trans f.sub, e.pre.trans f.pre, fun a h => (f.fix a h).trans (e.fix a h)⟩
/-- at a a dict that is walked -/
def LkB (B : Hp) (a : Addr) : Prop := ∃ o kvs, B a = some (.frz o (.dK kvs))
theorem LkB.upd {B : Hp} {a p : Addr} {o : HO} (c : a ≠ p) (h : B a = none ∨ LkB B a) : upd B p o a = none ∨ LkB (upd B p o) a := by
  unfold LkB
  rw [upd_ne c]; exact h
theorem LkB.mono {B B2 : Hp} {a : Addr} (s : Sub B B2) (h : LkB B a) : LkB B2 a := by
  obtain ⟨o, kvs, h⟩ := h
  exact ⟨o, kvs, s _ _ h⟩
/-- no dict that is walked -/
def Ob.un : Ob → Bool
  | .lk _ => false
  | _ => true
structure RelS (T : Tab) (B : Hp) (r : List Addr) (P : Hp) (m : Sto) (H : Hp) : Prop where
  bh : Sub B H
  ph : Sub P H
  nd : r.Nodup
  len : r.length = m.length
  fr : ∀ a ∈ r, (B a = none ∨ LkB B a) ∧ P a = none
  ob : ∀ (i : Nat) (b : Ob), m[i]? = some b → ∃ a o, r[i]? = some a ∧ H a = some o ∧ RepO T B r o b
  lkb : ∀ (i : Nat) (kvs : List (Key × W)) (a : Addr), m[i]? = some (.lk kvs) → r[i]? = some a → LkB B a
/-- a list that nobody but one name (or none) holds -/
structure Own (T : Tab) (B : Hp) (r : List Addr) (P H : Hp) (p : Addr) (ws : List W) : Prop where
  at_ : ∃ vs, H p = some (.lst vs) ∧ RepL T B r vs ws
  nb : B p = none
  np : P p = none
  nr : p ∉ r
def SlRep (T : Tab) (B : Hp) (r : List Addr) (P H : Hp) (v : V) : Sl → Prop
  | .val w => Rep T B r v w
  | .own ws => ∃ p, v = .ref p ∧ Own T B r P H p ws
structure RelE (T : Tab) (B : Hp) (r : List Addr) (P H : Hp) (en : En) (σ : Slo) : Prop where
  len : en.length = σ.length
  sl : ∀ (j : Nat) (s : Sl), en[j]? = some (some s) → ∃ v, σ[j]? = some (some v) ∧ SlRep T B r P H v s
  dis : ∀ (j k : Nat) (ws zs : List W) (p : Addr), en[j]? = some (some (.own ws)) → en[k]? = some (some (.own zs)) → σ[j]? = some (some (.ref p)) → σ[k]? = some (some (.ref p)) → j = k
structure Rel (T : Tab) (B : Hp) (r : List Addr) (P : Hp) (m : Sto) (en : En) (σ : Slo) (H : Hp) : Prop where
  s : RelS T B r P m H
  e : RelE T B r P H en σ
def RepR (T : Tab) (B : Hp) (r : List Addr) (P : Hp) (en : En) (σ : Slo) (H : Hp) (v : V) : RV → Prop
  | .val w => Rep T B r v w
  | .new ws => ∃ p, v = .ref p ∧ Own T B r P H p ws ∧ ∀ (j : Nat) (zs : List W), en[j]? = some (some (Sl.own zs)) → σ[j]? ≠ some (some (.ref p))
  | .bor j => σ[j]? = some (some v)
/-- what a value is now: as it is, or a list that stands at it -/
def RepT (T : Tab) (B : Hp) (r : List Addr) (H : Hp) (v : V) (w : W) : Prop :=
  Rep T B r v w ∨ ∃ a vs ws, v = .ref a ∧ w = .lst ws ∧ H a = some (.lst vs) ∧ RepL T B r vs ws

section
variable {T : Tab} {B B2 P H H2 : Hp} {r r2 : List Addr} {m : Sto} {en : En} {σ : Slo} {v : V} {w : W} {ws : List W} {p : Addr} {j : Nat}
theorem enGet_some {s : Sl} (h : enGet en j = some s) : en[j]? = some (some s) := by
  unfold enGet at h
  cases q : en[j]? with
  | none => rw [q] at h; cases h
  | some o => rw [q] at h; cases h; rfl
theorem enGet_of {s : Sl} (h : en[j]? = some (some s)) : enGet en j = some s := by
  unfold enGet; rw [h]; rfl
theorem Own.mono (e : Ext P B r B2 r2) (h : Own T B r P H p ws) (hb : B2 p = none) (hr : p ∉ r2) : Own T B2 r2 P H p ws := by
  obtain ⟨⟨vs, h1, h2⟩, _, h4, _⟩ := h
  exact ⟨⟨vs, h1, h2.mono e.sub e.pre⟩, hb, h4, hr⟩
theorem Own.grow (s : Sub H H2) (h : Own T B r P H p ws) : Own T B r P H2 p ws := by
  obtain ⟨⟨vs, h1, h2⟩, h3, h4, h5⟩ := h
  exact ⟨⟨vs, s _ _ h1, h2⟩, h3, h4, h5⟩
theorem RelS.grow (R : RelS T B r P m H) (s : Sub H H2) : RelS T B r P m H2 :=
  ⟨R.bh.trans s, R.ph.trans s, R.nd, R.len, R.fr, fun i b h => by
    obtain ⟨a, o, h1, h2, h3⟩ := R.ob i b h
    exact ⟨a, o, h1, s _ _ h2, h3⟩, R.lkb⟩
theorem RelE.grow (R : RelE T B r P H en σ) (s : Sub H H2) : RelE T B r P H2 en σ :=
  ⟨R.len, fun j sl h => by
    obtain ⟨v, h1, h2⟩ := R.sl j sl h
    refine ⟨v, h1, ?_⟩
    cases sl with
    | val w => exact h2
    | own ws =>
      obtain ⟨p, h3, h4⟩ := h2
      exact ⟨p, h3, h4.grow s⟩, R.dis⟩
theorem Rel.grow (R : Rel T B r P m en σ H) (s : Sub H H2) : Rel T B r P m en σ H2 := ⟨R.s.grow s, R.e.grow s⟩
theorem RepR.grow {x : RV} (s : Sub H H2) (h : RepR T B r P en σ H v x) : RepR T B r P en σ H2 v x := by
  cases x with
  | val w => exact h
  | new ws =>
    obtain ⟨p, h1, h2, h3⟩ := h
    exact ⟨p, h1, h2.grow s, h3⟩
  | bor j => exact h
/-- a slot's own list is known, so it is not where a new thing comes -/
theorem RelE.own_at (R : RelE T B r P H en σ) (h : en[j]? = some (some (.own ws))) : ∃ p, σ[j]? = some (some (.ref p)) ∧ Own T B r P H p ws := by
  obtain ⟨v, h1, p, rfl, h2⟩ := R.sl j _ h
  exact ⟨p, h1, h2⟩
/-- a list is no longer changed: it belongs to what stays -/
theorem Rel.frz_at (R : Rel T B r P m en σ H) (o : Own T B r P H p ws) (h : ∀ (j : Nat) (zs : List W), en[j]? = some (some (Sl.own zs)) → σ[j]? ≠ some (some (.ref p))) :
    ∃ B2, Ext P B r B2 r ∧ Rel T B2 r P m en σ H ∧ Rep T B2 r (.ref p) (.lst ws) := by
  obtain ⟨⟨vs, h1, h2⟩, h3, h4, h5⟩ := o
  have sb : Sub B (upd B p (.lst vs)) := Sub.new h3
  have ex : Ext P B r (upd B p (.lst vs)) r := ⟨sb, List.prefix_refl r, fun a ha => by
    by_cases c : a = p
    · rw [c] at ha; exact absurd h4 ha
    · rw [upd_ne c]⟩
  refine ⟨upd B p (.lst vs), ex, ⟨⟨fun a q e => ?_, R.s.ph, R.s.nd, R.s.len, fun a ha => ⟨?_, (R.s.fr a ha).2⟩, fun i b hi => ?_, fun i kvs a h1 h2 => (R.s.lkb i kvs a h1 h2).mono sb⟩, R.e.len, fun k s hk => ?_, R.e.dis⟩, .lst (.inl upd_same) (h2.mono sb (List.prefix_refl r))⟩
  · by_cases c : a = p
    · rw [c, upd_same] at e; cases e; rw [c]; exact h1
    · rw [upd_ne c] at e; exact R.s.bh a q e
  · have c : a ≠ p := fun z => h5 (z ▸ ha)
    exact LkB.upd c (R.s.fr a ha).1
  · obtain ⟨a, q, e1, e2, e3⟩ := R.s.ob i b hi
    exact ⟨a, q, e1, e2, e3.mono sb (List.prefix_refl r)⟩
  · obtain ⟨v, e1, e2⟩ := R.e.sl k s hk
    refine ⟨v, e1, ?_⟩
    cases s with
    | val w => exact Rep.mono sb (List.prefix_refl r) e2
    | own zs =>
      obtain ⟨q, e3, e4⟩ := e2
      subst e3
      have c : q ≠ p := fun z => h k zs hk (z ▸ e1)
      exact ⟨q, rfl, e4.mono ex (by rw [upd_ne c]; exact e4.nb) e4.nr⟩
theorem Rel.hold (R : Rel T B r P m en σ H) {x : RV} (h : RepR T B r P en σ H v x) :
    ∃ B2, Ext P B r B2 r ∧ Rel T B2 r P m en σ H ∧ RepR T B2 r P en σ H v (hold x) := by
  cases x with
  | val w => exact ⟨B, Ext.refl, R, h⟩
  | bor j => exact ⟨B, Ext.refl, R, h⟩
  | new ws =>
    obtain ⟨p, rfl, h2, h3⟩ := h
    obtain ⟨B2, e, R2, q⟩ := R.frz_at h2 h3
    exact ⟨B2, e, R2, q⟩
/-- a held result stays through what comes -/
theorem RepR.held {P2 B3 : Hp} {r3 : List Addr} {en3 : En} {H3 : Hp} {x : RV} (h : RepR T B r P en σ H v (Mp.hold x)) (s : Sub B B3) (p : r <+: r3) : RepR T B3 r3 P2 en3 σ H3 v (Mp.hold x) := by
  cases x with
  | val w => exact Rep.mono s p h
  | bor j => exact h
  | new ws => exact Rep.mono s p h
/-- the slot's value put otherwise -/
theorem Rel.set_val (R : Rel T B r P m en σ H) (h : Rep T B r v w) : Rel T B r P m (en.set j (some (.val w))) (σ.set j (some v)) H := by
  refine ⟨R.s, by rw [List.length_set, List.length_set]; exact R.e.len, fun k s hk => ?_, fun k l ws zs p h1 h2 h3 h4 => ?_⟩
  · by_cases c : j = k
    · subst c
      by_cases hl : j < en.length
      · rw [List.getElem?_set_self hl] at hk
        have hs : j < σ.length := R.e.len ▸ hl
        cases hk
        exact ⟨v, List.getElem?_set_self hs, h⟩
      · rw [List.getElem?_eq_none (by rw [List.length_set]; omega)] at hk; cases hk
    · rw [List.getElem?_set_ne c] at hk
      rw [List.getElem?_set_ne c]
      exact R.e.sl k s hk
  · have ne : ∀ i ws, (en.set j (some (.val w)))[i]? = some (some (.own ws)) → j ≠ i := fun i ws q c => by
      subst c
      by_cases hl : j < en.length
      · rw [List.getElem?_set_self hl] at q; cases q
      · rw [List.getElem?_eq_none (by rw [List.length_set]; omega)] at q; cases q
    have c1 := ne k ws h1
    have c2 := ne l zs h2
    rw [List.getElem?_set_ne c1] at h1 h3
    rw [List.getElem?_set_ne c2] at h2 h4
    exact R.e.dis k l ws zs p h1 h2 h3 h4
theorem Rel.set_own (R : Rel T B r P m en σ H) (h : RepR T B r P en σ H v (.new ws)) : Rel T B r P m (en.set j (some (.own ws))) (σ.set j (some v)) H := by
  obtain ⟨p, rfl, ho, hd⟩ := h
  have get : ∀ k s, (en.set j (some (.own ws)))[k]? = some (some s) → (j = k ∧ s = .own ws ∧ j < σ.length) ∨ (j ≠ k ∧ en[k]? = some (some s)) := fun k s hk => by
    by_cases c : j = k
    · subst c
      by_cases hl : j < en.length
      · rw [List.getElem?_set_self hl] at hk
        cases hk
        exact .inl ⟨rfl, rfl, R.e.len ▸ hl⟩
      · rw [List.getElem?_eq_none (by rw [List.length_set]; omega)] at hk; cases hk
    · rw [List.getElem?_set_ne c] at hk
      exact .inr ⟨c, hk⟩
  refine ⟨R.s, by rw [List.length_set, List.length_set]; exact R.e.len, fun k s hk => ?_, fun k l xs zs q h1 h2 h3 h4 => ?_⟩
  · rcases get k s hk with ⟨c, e, hs⟩ | ⟨c, e⟩
    · subst c e
      exact ⟨.ref p, List.getElem?_set_self hs, p, rfl, ho⟩
    · rw [List.getElem?_set_ne c]
      exact R.e.sl k s e
  · rcases get k _ h1 with ⟨c1, e1, hs⟩ | ⟨c1, e1⟩
    · subst c1
      rcases get l _ h2 with ⟨c2, e2, _⟩ | ⟨c2, e2⟩
      · exact c2
      · rw [List.getElem?_set_self hs] at h3
        cases h3
        rw [List.getElem?_set_ne c2] at h4
        exact absurd h4 (hd l zs e2)
    · rw [List.getElem?_set_ne c1] at h3
      rcases get l _ h2 with ⟨c2, e2, hs⟩ | ⟨c2, e2⟩
      · subst c2
        rw [List.getElem?_set_self hs] at h4
        cases h4
        exact absurd h3 (hd k xs e1)
      · rw [List.getElem?_set_ne c2] at h4
        exact R.e.dis k l xs zs q e1 e2 h3 h4
theorem set_same {A : Type} {l : List A} {i : Nat} {x : A} (h : l[i]? = some x) : l.set i x = l := by
  apply List.ext_getElem?
  intro k
  by_cases c : i = k
  · subst c
    have hl := (List.getElem?_eq_some_iff.mp h).1
    rw [List.getElem?_set_self hl, h]
  · rw [List.getElem?_set_ne c]
/-- a name's own list is told: the name keeps it, unchanged from now on -/
theorem Rel.frz_slot (R : Rel T B r P m en σ H) (h : en[j]? = some (some (.own ws))) (hv : σ[j]? = some (some v)) :
    ∃ B2, Ext P B r B2 r ∧ Rel T B2 r P m (en.set j (some (.val (.lst ws)))) σ H ∧ Rep T B2 r v (.lst ws) := by
  obtain ⟨p, h1, h2⟩ := R.e.own_at h
  rw [hv] at h1; cases h1
  -- the slot is forgotten first
  have hl : j < en.length := (List.getElem?_eq_some_iff.mp h).1
  have R0 : Rel T B r P m (en.set j none) σ H := by
    have get : ∀ k s, (en.set j none)[k]? = some (some s) → j ≠ k ∧ en[k]? = some (some s) := fun k s hk => by
      by_cases c : j = k
      · subst c; rw [List.getElem?_set_self hl] at hk; cases hk
      · rw [List.getElem?_set_ne c] at hk; exact ⟨c, hk⟩
    refine ⟨R.s, by rw [List.length_set]; exact R.e.len, fun k s hk => R.e.sl k s (get k s hk).2, fun k l xs zs q e1 e2 e3 e4 => R.e.dis k l xs zs q (get k _ e1).2 (get l _ e2).2 e3 e4⟩
  have hd : ∀ (k : Nat) (zs : List W), (en.set j none)[k]? = some (some (Sl.own zs)) → σ[k]? ≠ some (some (.ref p)) := fun k zs hk e => by
    by_cases c : j = k
    · subst c; rw [List.getElem?_set_self hl] at hk; cases hk
    · rw [List.getElem?_set_ne c] at hk
      exact c (R.e.dis j k ws zs p h hk hv e)
  obtain ⟨B2, e, R2, q⟩ := R0.frz_at h2 hd
  refine ⟨B2, e, ?_, q⟩
  have z := R2.set_val (j := j) q
  rw [List.set_set, set_same hv] at z
  exact z
theorem Rel.esc (R : Rel T B r P m en σ H) {x : RV} (h : RepR T B r P en σ H v x) {en2 : En} (e : Mp.esc x en = some (w, en2)) :
    ∃ B2, Ext P B r B2 r ∧ Rel T B2 r P m en2 σ H ∧ Rep T B2 r v w := by
  cases x with
  | val u =>
    simp only [Mp.esc, Option.some.injEq, Prod.mk.injEq] at e
    obtain ⟨rfl, rfl⟩ := e
    exact ⟨B, Ext.refl, R, h⟩
  | new ws =>
    simp only [Mp.esc, Option.some.injEq, Prod.mk.injEq] at e
    obtain ⟨rfl, rfl⟩ := e
    obtain ⟨p, rfl, h2, h3⟩ := h
    exact R.frz_at h2 h3
  | bor j =>
    simp only [Mp.esc] at e
    cases q : enGet en j with
    | none => rw [q] at e; cases e
    | some s =>
      rw [q] at e
      have hj := enGet_some q
      cases s with
      | own ws =>
        simp only [Option.some.injEq, Prod.mk.injEq] at e
        obtain ⟨rfl, rfl⟩ := e
        exact R.frz_slot hj h
      | val u =>
        simp only [Option.some.injEq, Prod.mk.injEq] at e
        obtain ⟨rfl, rfl⟩ := e
        obtain ⟨v2, h1, h2⟩ := R.e.sl j _ hj
        have hh : σ[j]? = some (some v) := h
        rw [hh] at h1; cases h1
        exact ⟨B, Ext.refl, R, h2⟩
/-- what a result is now -/
theorem Rel.top (R : Rel T B r P m en σ H) {x : RV} (h : RepR T B r P en σ H v x) (e : rvW en x = some w) : RepT T B r H v w := by
  cases x with
  | val u => simp only [rvW, Option.some.injEq] at e; subst e; exact .inl h
  | new ws =>
    simp only [rvW, Option.some.injEq] at e; subst e
    obtain ⟨p, rfl, ⟨⟨vs, h1, h2⟩, _, _, _⟩, _⟩ := h
    exact .inr ⟨p, vs, ws, rfl, rfl, h1, h2⟩
  | bor j =>
    simp only [rvW] at e
    cases q : enGet en j with
    | none => rw [q] at e; cases e
    | some s =>
      rw [q] at e
      simp only [Option.map_some, Option.some.injEq] at e
      subst e
      obtain ⟨v2, h1, h2⟩ := R.e.sl j _ (enGet_some q)
      have hh : σ[j]? = some (some v) := h
      rw [hh] at h1; cases h1
      cases s with
      | val u => exact .inl h2
      | own ws =>
        obtain ⟨p, rfl, ⟨⟨vs, h1, h2⟩, _, _, _⟩⟩ := h2
        exact .inr ⟨p, vs, ws, rfl, rfl, h1, h2⟩
theorem RepT.lst (R : RelS T B r P m H) (h : RepT T B r H v w) (e : lstW m w = some ws) : ∃ a vs, v = .ref a ∧ Rd H a (.lst vs) ∧ RepL T B r vs ws := by
  rcases h with h | ⟨a, vs, zs, rfl, rfl, h1, h2⟩
  · cases h with
    | lst h1 h2 => simp only [lstW, Option.some.injEq] at e; subst e; exact ⟨_, _, rfl, R.bh.rd h1, h2⟩
    | ref h1 =>
      simp only [lstW] at e
      rename_i a i
      cases q : m[i]? with
      | none => rw [q] at e; cases e
      | some b =>
        rw [q] at e
        cases b with
        | lst zs =>
          simp only [Option.some.injEq] at e; subst e
          obtain ⟨a2, o, e1, e2, e3⟩ := R.ob i _ q
          rw [h1] at e1; cases e1
          cases e3 with
          | lst l => exact ⟨_, _, rfl, .inl e2, l⟩
        | dic _ => cases e
        | ins _ _ => cases e
        | lk _ => cases e
    | non => cases e
    | bl _ => cases e
    | int _ => cases e
    | str _ => cases e
    | tup _ _ => cases e
    | scr _ _ => cases e
    | raw _ => cases e
    | fn _ => cases e
    | exc _ _ => cases e
  · simp only [lstW, Option.some.injEq] at e; subst e
    exact ⟨a, vs, rfl, .inl h1, h2⟩
theorem RepT.lsts (R : RelS T B r P m H) (h : RepT T B r H v w) (e : lstS m w = some ws) : ∃ a vs, v = .ref a ∧ SqL T.K H a vs ∧ RepL T B r vs ws := by
  by_cases c : ∃ zs, w = .scr zs
  · obtain ⟨zs, rfl⟩ := c
    simp only [lstS, Option.some.injEq] at e; subst e
    rcases h with h | ⟨_, _, _, _, h, _⟩
    · cases h with
      | scr h1 h2 => exact ⟨_, _, rfl, R.bh.sql h1, h2⟩
    · cases h
  · have e2 : lstW m w = some ws := by
      cases w with
      | scr zs => exact absurd ⟨zs, rfl⟩ c
      | _ => exact e
    obtain ⟨a, vs, h1, h2, h3⟩ := RepT.lst R h e2
    exact ⟨a, vs, h1, .inl h2, h3⟩
/-- a list or a tuple -/
theorem RepT.seq (R : RelS T B r P m H) (h : RepT T B r H v w) (e : seqW m w = some ws) : ∃ a vs, v = .ref a ∧ (SqL T.K H a vs ∨ SqT T.K H a vs) ∧ RepL T B r vs ws := by
  by_cases c : ∃ zs, w = .tup zs
  · obtain ⟨zs, rfl⟩ := c
    simp only [seqW, Option.some.injEq] at e; subst e
    rcases h with h | ⟨_, _, _, _, h, _⟩
    · cases h with
      | tup h1 h2 => exact ⟨_, _, rfl, .inr (R.bh.sqt h1), h2⟩
    · cases h
  · have e2 : lstS m w = some ws := by
      cases w with
      | tup zs => exact absurd ⟨zs, rfl⟩ c
      | _ => exact e
    obtain ⟨a, vs, h1, h2, h3⟩ := RepT.lsts R h e2
    exact ⟨a, vs, h1, .inl h2, h3⟩
theorem RepT.int {i : Int} (h : RepT T B r H v (.int i)) : v = .int i := by
  rcases h with h | ⟨_, _, _, _, h, _⟩
  · cases h; rfl
  · cases h
theorem RepT.bl {b : Bool} (h : RepT T B r H v (.bl b)) : v = .bl b := by
  rcases h with h | ⟨_, _, _, _, h, _⟩
  · cases h; rfl
  · cases h
theorem RepT.str {b : Str} (h : RepT T B r H v (.str b)) : v = .str b := by
  rcases h with h | ⟨_, _, _, _, h, _⟩
  · cases h; rfl
  · cases h
theorem RepT.non (h : RepT T B r H v .non) : v = .non := by
  rcases h with h | ⟨_, _, _, _, h, _⟩
  · cases h; rfl
  · cases h

/-! ### changes -/
/-- H with the object at a put otherwise, a held by nobody else -/
theorem sub_upd {F : Hp} {a : Addr} {o : HO} (s : Sub F H) (h : F a = none) : Sub F (upd H a o) := fun b u e => by
  have c : b ≠ a := fun z => by rw [z, h] at e; cases e
  rw [upd_ne c]; exact s b u e
theorem RelS.upd_out (R : RelS T B r P m H) {a : Addr} {o : HO} (hb : B a = none) (hp : P a = none) (hr : a ∉ r) : RelS T B r P m (upd H a o) :=
  ⟨sub_upd R.bh hb, sub_upd R.ph hp, R.nd, R.len, R.fr, fun i b h => by
    obtain ⟨c, q, h1, h2, h3⟩ := R.ob i b h
    have ne : c ≠ a := fun z => hr (z ▸ List.mem_of_getElem? h1)
    exact ⟨c, q, h1, by rw [upd_ne ne]; exact h2, h3⟩, R.lkb⟩
/-- a slot's own list changed -/
theorem Rel.upd_own (R : Rel T B r P m en σ H) (h : en[j]? = some (some (.own ws))) (hv : σ[j]? = some (some (.ref p))) {us : List V} {zs : List W} (l : RepL T B r us zs) :
    Rel T B r P m (en.set j (some (.own zs))) σ (upd H p (.lst us)) := by
  obtain ⟨q, h1, h2⟩ := R.e.own_at h
  rw [hv] at h1; cases h1
  have hl : j < en.length := (List.getElem?_eq_some_iff.mp h).1
  have get : ∀ (k : Nat) (s : Sl), (en.set j (some (.own zs)))[k]? = some (some s) → (j = k ∧ s = .own zs) ∨ (j ≠ k ∧ en[k]? = some (some s)) := fun k s hk => by
    by_cases c : j = k
    · subst c; rw [List.getElem?_set_self hl] at hk; cases hk; exact .inl ⟨rfl, rfl⟩
    · rw [List.getElem?_set_ne c] at hk; exact .inr ⟨c, hk⟩
  have old : ∀ (k : Nat) (xs : List W), (en.set j (some (.own zs)))[k]? = some (some (.own xs)) → ∃ ys, en[k]? = some (some (.own ys)) := fun k xs hk => by
    rcases get k _ hk with ⟨c, _⟩ | ⟨_, e⟩
    · subst c; exact ⟨ws, h⟩
    · exact ⟨xs, e⟩
  refine ⟨R.s.upd_out h2.nb h2.np h2.nr, by rw [List.length_set]; exact R.e.len, fun k s hk => ?_, fun k l2 xs ys q e1 e2 e3 e4 => ?_⟩
  · rcases get k s hk with ⟨c, e⟩ | ⟨c, e⟩
    · subst c e
      exact ⟨.ref p, hv, p, rfl, ⟨us, upd_same, l⟩, h2.nb, h2.np, h2.nr⟩
    · obtain ⟨v, e1, e2⟩ := R.e.sl k s e
      refine ⟨v, e1, ?_⟩
      cases s with
      | val w => exact e2
      | own ys =>
        obtain ⟨q, rfl, o⟩ := e2
        have ne : q ≠ p := fun z => c (R.e.dis j k ws ys p h e hv (z ▸ e1))
        obtain ⟨⟨xs, a1, a2⟩, a3, a4, a5⟩ := o
        exact ⟨q, rfl, ⟨xs, by rw [upd_ne ne]; exact a1, a2⟩, a3, a4, a5⟩
  · obtain ⟨xs2, e1⟩ := old k xs e1
    obtain ⟨ys2, e2⟩ := old l2 ys e2
    exact R.e.dis k l2 xs2 ys2 q e1 e2 e3 e4
/-- an object of the store changed -/
theorem RelS.nb_of (R : RelS T B r P m H) {i : Nat} {a : Addr} {b0 : Ob} (h : r[i]? = some a) (hm : m[i]? = some b0) (hu : b0.un = true) : B a = none := by
  rcases (R.fr a (List.mem_of_getElem? h)).1 with z | ⟨o, kvs, z⟩
  · exact z
  · obtain ⟨a2, q, e1, e2, e3⟩ := R.ob i b0 hm
    rw [h] at e1; cases e1
    rw [R.bh a _ z] at e2; cases e2
    cases e3
    cases hu
theorem Rel.upd_sto (R : Rel T B r P m en σ H) {i : Nat} {a : Addr} {o : HO} {b b0 : Ob} (h : r[i]? = some a) (hm : m[i]? = some b0) (hu : b0.un = true) (hv : b.un = true) (ob : RepO T B r o b) : Rel T B r P (m.set i b) en σ (upd H a o) := by
  have ha : a ∈ r := List.mem_of_getElem? h
  have fr := R.s.fr a ha
  have nb := R.s.nb_of h hm hu
  refine ⟨⟨sub_upd R.s.bh nb, sub_upd R.s.ph fr.2, R.s.nd, by rw [List.length_set]; exact R.s.len, R.s.fr, fun k c hk => ?_, fun k kvs c hk h2 => ?_⟩, R.e.len, fun k s hk => ?_, R.e.dis⟩
  · by_cases c2 : i = k
    · subst c2
      have hl : i < m.length := by
        have := (List.getElem?_eq_some_iff.mp hk).1
        rw [List.length_set] at this; exact this
      rw [List.getElem?_set_self hl] at hk; cases hk
      exact ⟨a, o, h, upd_same, ob⟩
    · rw [List.getElem?_set_ne c2] at hk
      obtain ⟨d, q, h1, h2, h3⟩ := R.s.ob k c hk
      have ne : d ≠ a := fun z => c2 (nd_ix R.s.nd h (z ▸ h1))
      exact ⟨d, q, h1, by rw [upd_ne ne]; exact h2, h3⟩
  · by_cases c2 : i = k
    · subst c2
      have hl : i < m.length := (List.getElem?_eq_some_iff.mp hm).1
      rw [List.getElem?_set_self hl] at hk
      cases hk; cases hv
    · rw [List.getElem?_set_ne c2] at hk
      exact R.s.lkb k kvs c hk h2
  · obtain ⟨v, e1, e2⟩ := R.e.sl k s hk
    refine ⟨v, e1, ?_⟩
    cases s with
    | val w => exact e2
    | own ys =>
      obtain ⟨q, rfl, o⟩ := e2
      have ne : q ≠ a := fun z => o.nr (z ▸ ha)
      obtain ⟨⟨xs, a1, a2⟩, a3, a4, a5⟩ := o
      exact ⟨q, rfl, ⟨xs, by rw [upd_ne ne]; exact a1, a2⟩, a3, a4, a5⟩
/-- a new object of the store: what stands at a place that nobody holds -/
theorem Rel.add_sto (R : Rel T B r P m en σ H) {a : Addr} {o : HO} {b : Ob} (hb : B a = none) (hp : P a = none) (hr : a ∉ r) (ha : H a = some o) (hv : b.un = true) (ob : RepO T B (r ++ [a]) o b)
    (hd : ∀ (j : Nat) (zs : List W), en[j]? = some (some (Sl.own zs)) → σ[j]? ≠ some (some (.ref a))) : Rel T B (r ++ [a]) P (m ++ [b]) en σ H := by
  have px : r <+: r ++ [a] := List.prefix_append r [a]
  refine ⟨⟨R.s.bh, R.s.ph, ?_, by rw [List.length_append, List.length_append, R.s.len]; rfl, fun c hc => ?_, fun i c hi => ?_, fun i kvs c hi h2 => ?_⟩, R.e.len, fun k s hk => ?_, R.e.dis⟩
  · rw [List.nodup_append]
    exact ⟨R.s.nd, by simp, fun x hx y hy z => by
      rw [List.mem_singleton] at hy
      exact hr (hy ▸ z ▸ hx)⟩
  · rcases List.mem_append.mp hc with h | h
    · exact R.s.fr c h
    · rw [List.mem_singleton] at h; subst h; exact ⟨.inl hb, hp⟩
  · by_cases c2 : i < m.length
    · rw [List.getElem?_append_left c2] at hi
      obtain ⟨d, q, h1, h2, h3⟩ := R.s.ob i c hi
      exact ⟨d, q, pre_get px h1, h2, h3.mono (Sub.refl B) px⟩
    · have hl := (List.getElem?_eq_some_iff.mp hi).1
      rw [List.length_append, List.length_singleton] at hl
      have e : i = m.length := by omega
      subst e
      rw [List.getElem?_append_right (Nat.le_refl _), Nat.sub_self] at hi
      cases hi
      refine ⟨a, o, ?_, ha, ob⟩
      rw [← R.s.len, List.getElem?_append_right (Nat.le_refl _), Nat.sub_self]; rfl
  · by_cases c2 : i < m.length
    · rw [List.getElem?_append_left c2] at hi
      rw [List.getElem?_append_left (by rw [R.s.len]; exact c2)] at h2
      exact R.s.lkb i kvs c hi h2
    · have hl := (List.getElem?_eq_some_iff.mp hi).1
      rw [List.length_append, List.length_singleton] at hl
      have e : i = m.length := by omega
      subst e
      rw [List.getElem?_append_right (Nat.le_refl _), Nat.sub_self] at hi
      cases hi; cases hv
  · obtain ⟨v, e1, e2⟩ := R.e.sl k s hk
    refine ⟨v, e1, ?_⟩
    cases s with
    | val w => exact Rep.mono (Sub.refl B) px e2
    | own ys =>
      obtain ⟨q, rfl, o2⟩ := e2
      have ne : q ≠ a := fun z => hd k ys hk (z ▸ e1)
      refine ⟨q, rfl, o2.mono (B2 := B) (r2 := r ++ [a]) ⟨Sub.refl B, px, fun _ _ => rfl⟩ o2.nb fun hq => ?_⟩
      rcases List.mem_append.mp hq with h | h
      · exact o2.nr h
      · rw [List.mem_singleton] at h; exact ne h
/-- a place that is known nowhere is nobody's -/
theorem Rel.new_own (R : Rel T B r P m en σ H) (hp : H p = none) {vs : List V} (l : RepL T B r vs ws) : RepR T B r P en σ (upd H p (.lst vs)) (.ref p) (.new ws) := by
  refine ⟨p, rfl, ⟨⟨vs, upd_same, l⟩, R.s.bh.none hp, R.s.ph.none hp, fun hr => ?_⟩, fun j zs h e => ?_⟩
  · obtain ⟨i, hi⟩ := List.getElem?_of_mem hr
    have hl : i < m.length := R.s.len ▸ (List.getElem?_eq_some_iff.mp hi).1
    obtain ⟨a, o, h1, h2, _⟩ := R.s.ob i m[i] (List.getElem?_eq_getElem hl)
    rw [hi] at h1; cases h1
    rw [hp] at h2; cases h2
  · obtain ⟨q, e1, o⟩ := R.e.own_at h
    rw [e] at e1; cases e1
    obtain ⟨⟨vs, a1, _⟩, _⟩ := o
    rw [hp] at a1; cases a1
theorem Rel.no_sto (R : Rel T B r P m en σ H) (hp : H p = none) : p ∉ r := by
  obtain ⟨q, e, o, _⟩ := R.new_own (ws := []) hp .nil
  cases e
  exact o.nr
/-- what is told is a known list, on the way to be an object of the store -/
theorem Rel.box_new (R : Rel T B r P m en σ H) (h : RepR T B r P en σ H v (.new ws)) : ∃ r2, Ext P B r B r2 ∧ Rel T B r2 P (m ++ [.lst ws]) en σ H ∧ Rep T B r2 v (.ref m.length) := by
  obtain ⟨p, rfl, ⟨⟨vs, h1, h2⟩, h3, h4, h5⟩, h6⟩ := h
  have px : r <+: r ++ [p] := List.prefix_append r [p]
  refine ⟨r ++ [p], ⟨Sub.refl B, px, fun _ _ => rfl⟩, R.add_sto h3 h4 h5 h1 rfl (.lst (h2.mono (Sub.refl B) px)) h6, .ref ?_⟩
  rw [← R.s.len, List.getElem?_append_right (Nat.le_refl _), Nat.sub_self]; rfl
/-- a frozen extension by a new thing -/
theorem Rel.new_frz (R : Rel T B r P m en σ H) {o : HO} (hp : H p = none) : ∃ B2, Ext P B r B2 r ∧ Rel T B2 r P m en σ (upd H p o) ∧ B2 p = some o := by
  have hb := R.s.bh.none hp
  have hP := R.s.ph.none hp
  have sb : Sub B (upd B p o) := Sub.new hb
  have sh : Sub H (upd H p o) := Sub.new hp
  have R2 := R.grow sh
  have ex : Ext P B r (upd B p o) r := ⟨sb, List.prefix_refl r, fun a ha => by
    by_cases c : a = p
    · rw [c] at ha; exact absurd hP ha
    · rw [upd_ne c]⟩
  have hr := R.no_sto hp
  refine ⟨upd B p o, ex, ⟨⟨fun a q e => ?_, R2.s.ph, R2.s.nd, R2.s.len, fun a ha => ⟨?_, (R2.s.fr a ha).2⟩, fun i b hi => ?_, fun i kvs a h1 h2 => (R2.s.lkb i kvs a h1 h2).mono sb⟩, R2.e.len, fun k s hk => ?_, R2.e.dis⟩, upd_same⟩
  · by_cases c : a = p
    · rw [c, upd_same] at e; cases e; rw [c]; exact upd_same
    · rw [upd_ne c] at e; exact R2.s.bh a q e
  · have c : a ≠ p := fun z => hr (z ▸ ha)
    exact LkB.upd c (R2.s.fr a ha).1
  · obtain ⟨a, q, e1, e2, e3⟩ := R2.s.ob i b hi
    exact ⟨a, q, e1, e2, e3.mono sb (List.prefix_refl r)⟩
  · obtain ⟨v, e1, e2⟩ := R2.e.sl k s hk
    refine ⟨v, e1, ?_⟩
    cases s with
    | val w => exact Rep.mono sb (List.prefix_refl r) e2
    | own zs =>
      obtain ⟨q, e3, e4⟩ := e2
      subst e3
      have c : q ≠ p := fun z => by
        subst z
        obtain ⟨q2, e5, o2⟩ := R.e.own_at hk
        rw [e1] at e5; cases e5
        obtain ⟨⟨_, a1, _⟩, _⟩ := o2
        rw [hp] at a1; cases a1
      exact ⟨q, rfl, e4.mono ex (by rw [upd_ne c]; exact e4.nb) e4.nr⟩

/-! ### as data -/
theorem pdAll_dp {n : Nat} (ih : ∀ {v : V} {w : W} {d : PyData}, RepT T B r H v w → pd m n w = some d → Dp T.K H v d) : ∀ {ws : List W} {vs : List V} {ds : List PyData}, RepL T B r vs ws → pdAll (pd m n) ws = some ds → DpAll T.K H vs ds
  | [], _, _, h, e => by
    cases h
    simp only [pdAll, Option.some.injEq] at e; subst e; exact .nil
  | w :: ws, _, _, h, e => by
    cases h with
    | cons h l =>
      simp only [pdAll] at e
      cases q : pd m n w with
      | none => rw [q] at e; cases e
      | some d =>
        cases q2 : pdAll (pd m n) ws with
        | none => rw [q, q2] at e; cases e
        | some ds =>
          rw [q, q2] at e
          simp only [Option.some.injEq] at e; subst e
          exact .cons (ih (.inl h) q) (pdAll_dp ih l q2)
theorem pd_dp (R : RelS T B r P m H) : ∀ (n : Nat) {v : V} {w : W} {d : PyData}, RepT T B r H v w → pd m n w = some d → Dp T.K H v d
  | n, v, .non, d, h, e => by
    have := h.non; subst this
    cases n <;> (simp only [pd, Option.some.injEq] at e; subst e; exact .non)
  | n, v, .bl b, d, h, e => by
    have := h.bl; subst this
    cases n <;> (simp only [pd, Option.some.injEq] at e; subst e; exact .bl b)
  | n, v, .int b, d, h, e => by
    have := h.int; subst this
    cases n <;> (simp only [pd, Option.some.injEq] at e; subst e; exact .int b)
  | n, v, .str b, d, h, e => by
    have := h.str; subst this
    cases n <;> (simp only [pd, Option.some.injEq] at e; subst e; exact .str b)
  | n + 1, v, .lst ws, d, h, e => by
    simp only [pd] at e
    cases q : pdAll (pd m n) ws with
    | none => rw [q] at e; cases e
    | some ds =>
      rw [q] at e
      simp only [Option.map_some, Option.some.injEq] at e; subst e
      obtain ⟨a, vs, rfl, h1, h2⟩ := RepT.lst R h (ws := ws) rfl
      exact .lst (.inl h1) (pdAll_dp (fun h e => pd_dp R n h e) h2 q)
  | n + 1, v, .tup ws, d, h, e => by
    simp only [pd] at e
    cases q : pdAll (pd m n) ws with
    | none => rw [q] at e; cases e
    | some ds =>
      rw [q] at e
      simp only [Option.map_some, Option.some.injEq] at e; subst e
      rcases h with h | ⟨_, _, _, _, h, _⟩
      · cases h with
        | tup h1 h2 => exact .tup (R.bh.sqt h1) (pdAll_dp (fun h e => pd_dp R n h e) h2 q)
      · cases h
  | n + 1, v, .ref i, d, h, e => by
    simp only [pd] at e
    cases q1 : m[i]? with
    | none => rw [q1] at e; cases e
    | some b =>
      rw [q1] at e
      cases b with
      | lst ws =>
        dsimp only at e
        cases q : pdAll (pd m n) ws with
        | none => rw [q] at e; cases e
        | some ds =>
          rw [q] at e
          simp only [Option.map_some, Option.some.injEq] at e; subst e
          obtain ⟨a, vs, rfl, h1, h2⟩ := RepT.lst R h (ws := ws) (by simp only [lstW]; rw [q1])
          exact .lst (.inl h1) (pdAll_dp (fun h e => pd_dp R n h e) h2 q)
      | dic _ => cases e
      | ins _ _ => cases e
      | lk _ => cases e
  | _, _, .scr _, _, _, e => by simp [pd] at e
  | 0, _, .lst _, _, _, e => by simp [pd] at e
  | 0, _, .tup _, _, _, e => by simp [pd] at e
  | 0, _, .ref _, _, _, e => by simp [pd] at e
  | n, _, .raw _, _, _, e => by cases n <;> simp [pd] at e
  | n, _, .fn _, _, _, e => by cases n <;> simp [pd] at e
  | n, _, .exc _, _, _, e => by cases n <;> simp [pd] at e
end
end Mp

set_option Elab.async false
set_option linter.all false
set_option maxRecDepth 100000
set_option maxHeartbeats 4000000
/-! that a text of this language is the one of the program -/
namespace Mp
open PySem PySem.Spec PyProof.Rows L2

/-- a class: its name, its attributes, its methods with the defs that they are, the def that makes it -/
structure CI where
  nm : Str
  flds : List Str
  mts : List (Str × Nat)
  ini : Nat
/-- an error class: its name, the names of all classes that it is one of -/
structure XI where
  nm : Str
  up : List Str
/-- what is written at the module's top: defs with how many they take, constants, classes, error classes; whether no error is being handled -/
structure Sta where
  fns : List (Option Str × Nat)
  gls : List Str
  cls : List CI
  exs : List XI := []
  cB : Bool := true
def visB (sc : Scope) (x : Str) : Bool := match sc.names.lookup x with
  | some .local => true
  | some .cell => true
  | some .free => true
  | _ => false
def locB (fb : Str → Bool) (sc : Scope) (x : Str) : Bool := match sc.names.lookup x with
  | some .local => true
  | some .cell => fb x
  | _ => false
def glB (sc : Scope) (x : Str) : Bool := match sc.names.lookup x with
  | some .globalImplicit => true
  | _ => false
def plB (x : Str) : Bool := !(x == ("__debug__" : Str)) && !(x == ("__classdict__" : Str)) && !(x == ("__name__" : Str))
/-- within an except suite -/
def Sta.hot (S : Sta) : Sta := { S with cB := false }
def calmFree : Bi → Bool
  | .len => true | .list => true | .abs => true | .int => true | _ => false
/-- an error class that isinstance, or a clause, may name -/
def exNm (S : Sta) (sc : Scope) (y : Str) : Bool := glB sc y && plB y && (y == ("ValueError" : Str) || S.exs.any fun xi => xi.nm == y)
def exTab (S : Sta) (ys : List Str) : List Bool := S.exs.map fun xi => ys.any fun y => xi.up.contains y
def exNms (S : Sta) (sc : Scope) : List Expr → Option (List Str)
  | [] => some []
  | .Name y _ :: es => if exNm S sc y then (exNms S sc es).map fun r => y :: r else none
  | _ => none
def isxB (S : Sta) (sc : Scope) (tab : List Bool) : Expr → Bool
  | .Name y _ => exNm S sc y && tab == exTab S [y]
  | .Tuple es _ _ => match exNms S sc es with
    | some ys => tab == exTab S ys && decide (ys.length ≤ 100)
    | none => false
  | _ => false
/-- as many keys as values -/
def sameL : List Str → E → Bool
  | [], .nil => true
  | _ :: ks, .cons _ es => sameL ks es
  | _, _ => false
def keysB : List Str → List (Option Expr) → Bool
  | [], [] => true
  | k :: ks, some (.Constant (.str k2) _ _) :: r => k == k2 && keysB ks r
  | _, _ => false
def noStar : Expr → Bool
  | .Starred _ _ => false
  | _ => true
def pyOp : Op → Operator
  | .add => .Add | .sub => .Sub | .mul => .Mult | .fdiv => .FloorDiv | .mod => .Mod | .pow => .Pow | .shr => .RShift | .band => .BitAnd
def opB (op : Op) (o : Operator) : Bool := match op, o with
  | .add, .Add => true | .sub, .Sub => true | .mul, .Mult => true | .fdiv, .FloorDiv => true | .mod, .Mod => true | .pow, .Pow => true | .shr, .RShift => true | .band, .BitAnd => true
  | _, _ => false
def cmB (op : Cm) (o : CmpOp) : Bool := match op, o with
  | .eq, .Eq => true | .ne, .NotEq => true | .lt, .Lt => true | .le, .LtE => true | .gt, .Gt => true | .ge, .GtE => true | .is, .Is => true | .isn, .IsNot => true | .mem, .In => true | .nmem, .NotIn => true
  | _, _ => false
def plainIxB : Expr → Bool
  | .Slice _ _ _ _ => false
  | _ => true
def baseB : Expr → Bool
  | .Call _ _ _ _ => false
  | _ => true
def setB : Expr → Bool
  | .Set _ _ _ => true
  | _ => false
def bltName : Bi → Str
  | .len => "len" | .list => "list" | .sum => "sum" | .max1 => "max" | .min1 => "min" | .max2 => "max" | .min2 => "min" | .abs => "abs" | .int => "int" | .all => "all" | .any => "any" | .sorted => "sorted" | .min3 => "min"
def tyName : Ty → Str
  | .int => "int" | .bool => "bool" | .list => "list" | .tuple => "tuple" | .str => "str"
/-- names of built-ins that no module name hides -/
def bltNames : List Str := ["len", "list", "sum", "max", "min", "abs", "int", "all", "any", "sorted", "range", "zip", "enumerate", "reversed", "isinstance", "bool", "tuple", "str", "set", "dict", "repr", "ValueError"]
def srcName : It → Str
  | .rng1 => "range" | .rng2 => "range" | .rng3 => "range" | .zip => "zip" | .enum => "enumerate" | .rev => "reversed" | .revrng => "reversed" | _ => ""
def notComp : Expr → Bool
  | .ListComp _ _ _ _ => false
  | .SetComp _ _ _ _ => false
  | .DictComp _ _ _ _ _ => false
  | _ => true
/-- a value that is no pair written out -/
def notTup : Expr → Bool
  | .Tuple _ _ _ => false
  | _ => true

def tgNames (N : List Str) : List Nat → List Expr → (Str → Bool) → Scope → Bool
  | [], [], _, _ => true
  | j :: js, .Name x _ :: es, fb, sc => (N[j]? == some x) && locB fb sc x && tgNames N js es fb sc
  | _, _, _, _ => false
def okT (N : List Str) (fb : Str → Bool) (sc : Scope) (tg : Tg) (p : Expr) : Bool :=
  match tg, p with
  | .one j, .Name x _ => (N[j]? == some x) && locB fb sc x
  | .many js, .Tuple es _ _ => tgNames N js es fb sc
  | .manyL js, .Tuple es _ _ => tgNames N js es fb sc
  | _, _ => false
def isIte : E → Bool
  | .ite _ _ _ => true
  | .box _ => true
  | .lock _ _ => true
  | _ => false
def isTup : Expr → Bool
  | .Tuple _ _ _ => true
  | _ => false
/-- the names of a comprehension with their places -/
def ownN (N : List Str) (js : List Nat) : List (Str × Nat) := js.map fun j => (N.getD j "", j)
def tyList (sc : Scope) : List Ty → List Expr → Bool
  | [], [] => true
  | t :: ts, .Name x _ :: es => (x == tyName t) && glB sc x && tyList sc ts es
  | _, _ => false
/-- what comes of a target of a name and a comprehension: whether the stores are swapped -/
def swB (sc : Scope) (y : Str) (py : Pos) (csc : Scope) (cpos : Pos) : Bool :=
  (sc.names.lookup y == some .local) && (py.line == cpos.line) && !(csc.names.any fun p => p.1 == y && (p.2 == .local || p.2 == .cell))

section
variable (S : Sta) (N : List Str)
mutual
def okE (fb : Str → Bool) (sc : Scope) (e : E) (p : Expr) : Bool :=
  match e with
  | .nil => false
  | .cons _ _ => false
  | .var j => match p with
    | .Name x _ => (N[j]? == some x) && visB sc x && plB x
    | _ => false
  | .int i => match p with
    | .Constant (.int k) _ _ => decide (i = k)
    | _ => false
  | .bl b => match p with
    | .Constant (.bool k) _ _ => b == k
    | _ => false
  | .non => match p with
    | .Constant .none _ _ => true
    | _ => false
  | .str s => match p with
    | .Constant (.str k) _ _ => s == k
    | _ => false
  | .glob g => match p with
    | .Name x _ => (S.gls[g]? == some x) && glB sc x && plB x
    | _ => false
  | .bin op a b => match p with
    | .BinOp pa o pb _ => opB op o && okE fb sc a pa && okE fb sc b pb
    | _ => false
  | .neg a => match p with
    | .UnaryOp .USub pa _ => okE fb sc a pa
    | _ => false
  | .cmp op a b => match p with
    | .Compare pa [o] [pb] _ => cmB op o && !setB pb && okE fb sc a pa && okE fb sc b pb
    | _ => false
  | .chain op op2 a b c => match p with
    | .Compare pa [o, o2] [pb, pc] _ => cmB op o && cmB op2 o2 && !setB pb && !setB pc && okE fb sc a pa && okE fb sc b pb && okE fb sc c pc
    | _ => false
  | .and es => match p with
    | .BoolOp .And (pa :: pb :: ps) _ => okB fb sc es (pa :: pb :: ps)
    | _ => false
  | .or es => match p with
    | .BoolOp .Or (pa :: pb :: ps) _ => okB fb sc es (pa :: pb :: ps)
    | _ => false
  | .not a => match p with
    | .UnaryOp .Not pa _ => !isIte a && okE fb sc a pa
    | _ => false
  | .ite c a b => match p with
    | .IfExp pc pa pb _ => !isIte c && okE fb sc c pc && okE fb sc a pa && okE fb sc b pb
    | _ => false
  | .lst es => match p with
    | .List ps _ => okEs fb sc es ps
    | _ => false
  | .tup es => match p with
    | .Tuple ps _ _ => okEs fb sc es ps
    | _ => false
  | .idx a i => match p with
    | .Subscript pa pi _ => plainIxB pi && okE fb sc a pa && okE fb sc i pi
    | _ => false
  | .slc a lo hi => match p with
    | .Subscript pa (.Slice l h none _) _ => okE fb sc a pa && (match l with
        | none => isNil lo
        | some q => !isNil lo && okE fb sc lo q) && (match h with
        | none => isNil hi
        | some q => !isNil hi && okE fb sc hi q)
    | _ => false
  | .call f n es => match p with
    | .Call (.Name x _) (q :: qs) [] _ => (match S.fns[f]? with
        | some (some y, n2) => (x == y) && decide (n = n2)
        | _ => false) && S.cB && glB sc x && plB x && okEs fb sc es (q :: qs)
    | _ => false
  | .blt b es => match p with
    | .Call (.Name x _) (q :: qs) [] _ => (S.cB || calmFree b) && (x == bltName b) && glB sc x && okEs fb sc es (q :: qs)
    | _ => false
  | .lrng a => match p with
    | .Call (.Name x _) [.Call (.Name y _) [q] [] _] [] _ => S.cB && (x == ("list" : Str)) && glB sc x && (y == ("range" : Str)) && glB sc y && noStar q && okE fb sc a q
    | _ => false
  | .isi a ts => match p with
    | .Call (.Name x _) [pa, pt] [] _ => (x == ("isinstance" : Str)) && glB sc x && noStar pa && okE fb sc a pa && decide (ts.length ≤ 100) && (match ts, pt with
        | [t], .Name y _ => (y == tyName t) && glB sc y
        | ts, .Tuple es _ _ => tyList sc ts es
        | _, _ => false)
    | _ => false
  | .mth t a es => match t, p with
    | .pop, .Call (.Attribute pa x ap) [q] [] cp => (x == ("pop" : Str)) && baseB pa && (ap.endLine == cp.line) && okE fb sc a pa && noStar q && okEs fb sc es [q]
    | .bits, .Call (.Attribute pa x ap) [] [] cp => (x == ("bit_length" : Str)) && baseB pa && (ap.endLine == cp.line) && okE fb sc a pa && isNil es
    | .count, .Call (.Attribute pa x ap) [q] [] cp => (x == ("count" : Str)) && baseB pa && (ap.endLine == cp.line) && okE fb sc a pa && noStar q && okEs fb sc es [q]
    | .index, .Call (.Attribute pa x ap) [q] [] cp => (x == ("index" : Str)) && baseB pa && (ap.endLine == cp.line) && okE fb sc a pa && noStar q && okEs fb sc es [q]
    | .rev, .Subscript pa (.Slice none none (some (.UnaryOp .USub (.Constant (.int i) _ _) _)) _) _ => (i == 1) && okE fb sc a pa && isNil es
    | _, _ => false
  | .comp it src tg js c elt => match p with
    | .ListComp pe [⟨pt, pi, ifs, 0⟩] scope _ => S.cB && okI fb sc it src pt pi && blkC N sc scope (ownN N js) &&
        okT N (fun x => scope.names.lookup x == some .cell) (relS scope sc) tg pt &&
        (match ifs with
          | [] => isNil c
          | [q] => !isNil c && !isIte c && okE (fun x => scope.names.lookup x == some .cell) (relS scope sc) c q
          | _ => false) && okE (fun x => scope.names.lookup x == some .cell) (relS scope sc) elt pe && (match tg with
          | .one j => js == [j]
          | .many l => js == l
          | .manyL l => js == l)
    | _ => false
  | .box a => okE fb sc a p
  | .fld a x cl => match p with
    | .Attribute pa y _ => (x == y) && baseB pa && (cl.all fun c => match S.cls[c]? with
        | some ci => ci.flds.contains x
        | none => false) && okE fb sc a pa
    | _ => false
  | .mcall a x cf n es => match p with
    | .Call (.Attribute pa y ap) qs [] cp => S.cB && (x == y) && baseB pa && (ap.endLine == cp.line) && decide (qs.length < 29) && (cf.all fun q => match S.cls[q.1]? with
        | some ci => ci.mts.contains (x, q.2) && (match S.fns[q.2]? with
          | some (_, n2) => decide (n2 = n + 1)
          | none => false)
        | none => false) && okE fb sc a pa && okEs fb sc es qs
    | _ => false
  | .make c f n es => match p with
    | .Call (.Name y _) (q :: qs) [] _ => (match S.cls[c]? with
        | some ci => (y == ci.nm) && decide (ci.ini = f)
        | none => false) && (match S.fns[f]? with
        | some (_, n2) => decide (n2 = n + 1)
        | none => false) && S.cB && glB sc y && plB y && okEs fb sc es (q :: qs)
    | _ => false
  | .dnew => match p with
    | .Dict [] [] _ => true
    | _ => false
  | .dget a k d => match p with
    | .Subscript pa pk _ => plainIxB pk && isNil d && okE fb sc a pa && okE fb sc k pk
    | .Call (.Attribute pa y ap) [pk, pd] [] cp => (y == ("get" : Str)) && baseB pa && (ap.endLine == cp.line) && noStar pk && noStar pd && !isNil d && okE fb sc a pa && okE fb sc k pk && okE fb sc d pd
    | _ => false
  | .din ng k a => match p with
    | .Compare pk [.In] [pa] _ => !ng && !setB pa && okE fb sc k pk && okE fb sc a pa
    | .Compare pk [.NotIn] [pa] _ => ng && !setB pa && okE fb sc k pk && okE fb sc a pa
    | _ => false
  | .isx a tab => match p with
    | .Call (.Name x _) [pa, pt] [] _ => (x == ("isinstance" : Str)) && glB sc x && noStar pa && okE fb sc a pa && isxB S sc tab pt
    | _ => false
  | .lock _ e => okE fb sc e p
  | .dlit ks es => match p with
    | .Dict keys ps _ => sameL ks es && decide (keys.length = ps.length) && decide (keys.length ≤ 15) && !keys.isEmpty && keysB ks keys && okEs fb sc es ps
    | _ => false
  | .lrng2 a b => match p with
    | .Call (.Name x _) [.Call (.Name y _) [q, q2] [] _] [] _ => S.cB && (x == ("list" : Str)) && glB sc x && (y == ("range" : Str)) && glB sc y && noStar q && noStar q2 && okE fb sc a q && okE fb sc b q2
    | _ => false
  | .dkeys a => match p with
    | .Call (.Name x _) [q] [] _ => S.cB && (x == ("list" : Str)) && glB sc x && noStar q && okE fb sc a q
    | _ => false
/-- and, or: what is left of the values -/
def okB (fb : Str → Bool) (sc : Scope) (e : E) (ps : List Expr) : Bool :=
  match e with
  | .cons a es => match ps with
    | [] => false
    | [q] => isNil es && !isIte a && okE fb sc a q
    | q :: qs => !isIte a && okE fb sc a q && okB fb sc es qs
  | _ => false
def okEs (fb : Str → Bool) (sc : Scope) (e : E) (ps : List Expr) : Bool :=
  match e with
  | .nil => match ps with
    | [] => true
    | _ => false
  | .cons a es => match ps with
    | q :: qs => noStar q && okE fb sc a q && okEs fb sc es qs
    | [] => false
  | _ => false
/-- what is walked -/
def okI (fb : Str → Bool) (sc : Scope) (it : It) (src : E) (pt pi : Expr) : Bool :=
  match src with
  | .cons a .nil => (match it with
      | .list => !setB pi && okE fb sc a pi
      | .tup => !setB pi && okE fb sc a pi
      | .str => !setB pi && okE fb sc a pi
      | .keys => !setB pi && okE fb sc a pi
      | .rng1 => match pi with
        | .Call (.Name x _) [q] [] _ => (x == srcName it) && glB sc x && noStar q && okE fb sc a q
        | _ => false
      | .enum => isTup pt && match pi with
        | .Call (.Name x _) [q] [] _ => (x == srcName it) && glB sc x && noStar q && okE fb sc a q
        | _ => false
      | .rev => match pi with
        | .Call (.Name x _) [q] [] _ => (x == srcName it) && glB sc x && noStar q && okE fb sc a q
        | _ => false
      | .revrng => match pi with
        | .Call (.Name x _) [.Call (.Name y _) [q] [] _] [] _ => (x == srcName it) && glB sc x && (y == ("range" : Str)) && glB sc y && noStar q && okE fb sc a q
        | _ => false
      | _ => false)
  | .cons a (.cons b .nil) => (match it with
      | .rng2 => match pi with
        | .Call (.Name x _) [q, q2] [] _ => (x == srcName it) && glB sc x && noStar q && okE fb sc a q && noStar q2 && okE fb sc b q2
        | _ => false
      | .zip => isTup pt && match pi with
        | .Call (.Name x _) [q, q2] [] _ => (x == srcName it) && glB sc x && noStar q && okE fb sc a q && noStar q2 && okE fb sc b q2
        | _ => false
      | _ => false)
  | .cons a (.cons b (.cons c .nil)) => (match it with
      | .rng3 => match pi with
        | .Call (.Name x _) [q, q2, q3] [] _ => (x == srcName it) && glB sc x && noStar q && okE fb sc a q && noStar q2 && okE fb sc b q2 && noStar q3 && okE fb sc c q3
        | _ => false
      | _ => false)
  | _ => false
end
end
end Mp

set_option Elab.async false
set_option linter.all false
set_option maxRecDepth 100000
set_option maxHeartbeats 4000000
namespace Mp
open PySem PySem.Spec PyProof.Rows L2

/-! ### what an evaluation promises of the heap -/
section
variable (T : Tab) (xc : Nat → Value) (Wx : WX) (P : Hp) (σ : Slo)
def PostG {A : Type} (B : Hp) (r : List Addr) (x : R A) (g : A → En → Sto → Hp → List Addr → Hp → Prop) : Prop :=
  match x with
  | .ok a en m => ∀ B2 r2 H2, Ext P B r B2 r2 → Rel T B2 r2 P m en σ H2 → g a en m B2 r2 H2
  | .ex c en m => ∀ B2 r2 H2, Ext P B r B2 r2 → Rel T B2 r2 P m en σ H2 → Wx (xc c) none σ H2
  | .bad => False
end
section
variable {T : Tab} {xc : Nat → Value} {Wx : WX} {P : Hp} {σ : Slo} {B B1 H : Hp} {r r1 : List Addr} {A C : Type}
theorem PostG.mono {x : R A} {g : A → En → Sto → Hp → List Addr → Hp → Prop} (e : Ext P B r B1 r1) (h : PostG T xc Wx P σ B r x g) : PostG T xc Wx P σ B1 r1 x g := by
  cases x with
  | ok a en m => exact fun B2 r2 H2 e2 R => h B2 r2 H2 (e.trans e2) R
  | ex c en m => exact fun B2 r2 H2 e2 R => h B2 r2 H2 (e.trans e2) R
  | bad => exact h
theorem PostG.bind {x : R A} {f : A → En → Sto → R C} {g : C → En → Sto → Hp → List Addr → Hp → Prop} {k : A → En → Sto → Hp → List Addr → Hp → Prop}
    (h : PostG T xc Wx P σ B r (x.bind f) g)
    (q : ∀ a en m B2 r2 H2, Ext P B r B2 r2 → Rel T B2 r2 P m en σ H2 → PostG T xc Wx P σ B2 r2 (f a en m) g → k a en m B2 r2 H2) : PostG T xc Wx P σ B r x k := by
  cases x with
  | ok a en m => exact fun B2 r2 H2 e2 R => q a en m B2 r2 H2 e2 R (PostG.mono e2 h)
  | ex c en m => exact h
  | bad => exact h
theorem PostG.imp {x : R A} {g k : A → En → Sto → Hp → List Addr → Hp → Prop} (h : PostG T xc Wx P σ B r x g)
    (q : ∀ a en m B2 r2 H2, Ext P B r B2 r2 → Rel T B2 r2 P m en σ H2 → g a en m B2 r2 H2 → k a en m B2 r2 H2) : PostG T xc Wx P σ B r x k := by
  cases x with
  | ok a en m => exact fun B2 r2 H2 e2 R => q a en m B2 r2 H2 e2 R (h B2 r2 H2 e2 R)
  | ex c en m => exact h
  | bad => exact h
theorem PostG.opt {o : Option A} {f : A → R C} {g : C → En → Sto → Hp → List Addr → Hp → Prop} (h : PostG T xc Wx P σ B r (Mp.opt o f) g) : ∃ a, o = some a ∧ PostG T xc Wx P σ B r (f a) g := by
  cases o with
  | none => exact False.elim h
  | some a => exact ⟨a, rfl, h⟩
theorem PostG.opt2 {A2 : Type} {o : Option (A × A2)} {f : A → A2 → R C} {g : C → En → Sto → Hp → List Addr → Hp → Prop} (h : PostG T xc Wx P σ B r (Mp.opt2 o f) g) : ∃ a b, o = some (a, b) ∧ PostG T xc Wx P σ B r (f a b) g := by
  cases o with
  | none => exact False.elim h
  | some p => exact ⟨p.1, p.2, rfl, h⟩
theorem PostG.ifp {c : Prop} [Decidable c] {x : R A} {g : A → En → Sto → Hp → List Addr → Hp → Prop} (h : PostG T xc Wx P σ B r (if c then x else .bad) g) : c ∧ PostG T xc Wx P σ B r x g := by
  by_cases q : c
  · rw [if_pos q] at h; exact ⟨q, h⟩
  · rw [if_neg q] at h; exact False.elim h
theorem PostG.fin {a : A} {en : En} {m : Sto} {g : A → En → Sto → Hp → List Addr → Hp → Prop} (h : PostG T xc Wx P σ B r (.ok a en m) g) (R : Rel T B r P m en σ H) : g a en m B r H := h B r H Ext.refl R
theorem PostG.quiet {Wx2 : WX} {x : R A} {g : A → En → Sto → Hp → List Addr → Hp → Prop} (h : PostG T xc Wx P σ B r x.noex g) : PostG T xc Wx2 P σ B r x g := by
  cases x with
  | ok a en m => exact h
  | ex c en m => exact False.elim h
  | bad => exact h
theorem noex_bind {x : R A} {f : A → En → Sto → R C} : (x.bind f).noex = x.noex.bind fun a en m => (f a en m).noex := by
  cases x <;> rfl
end

/-! ### readings -/
section
variable (T : Tab) (xc : Nat → Value) (cs : Nat → List W → Sto → CR) (gl : List W)
def SG (Wx : WX) (f : En → Sto → R RV) : TE := fun σ H Q => ∃ B r P m en, Rel T B r P m en σ H ∧ PostG T xc Wx P σ B r (f en m) fun x en m B2 r2 H2 => ∀ v, RepR T B2 r2 P en σ H2 v x → Q v H2
def SBG (Wx : WX) (f : En → Sto → R RV) : TT := fun σ H Q => ∃ B r P m en, Rel T B r P m en σ H ∧ PostG T xc Wx P σ B r (f en m) fun x en m B2 r2 H2 => ∃ b, blR x = some b ∧ Q b H2
def SE (Wx : WX) (e : E) : TE := SG T xc Wx (ev cs gl e)
def SB (Wx : WX) (e : E) : TT := SBG T xc Wx (ev cs gl e)
def SA (Wx : WX) (es : E) : TA := fun σ H Q => ∃ B r P m en, Rel T B r P m en σ H ∧ PostG T xc Wx P σ B r (evs cs gl es en m) fun ws en m B2 r2 H2 => ∀ vs, RepL T B2 r2 vs ws → Q vs H2
end

/-! ### calls -/
def RepC (T : Tab) (B : Hp) (r : List Addr) (P H : Hp) (v : V) : RV → Prop
  | .val w => Rep T B r v w
  | .new ws => ∃ p, v = .ref p ∧ Own T B r P H p ws
  | .bor _ => False
def CPost (T : Tab) (xc : Nat → Value) (P B : Hp) (r : List Addr) (x : CR) (Q : VK) (E : XK) : Prop :=
  match x with
  | .ok a m => ∀ v B2 r2 H2, Ext P B r B2 r2 → RelS T B2 r2 P m H2 → RepC T B2 r2 P H2 v a → Q v H2
  | .ex c m => ∀ B2 r2 H2, Ext P B r B2 r2 → RelS T B2 r2 P m H2 → E (xc c) none H2
  | .bad => False
def spF (T : Tab) (xc : Nat → Value) (cs : Nat → List W → Sto → CR) (f n : Nat) : Sp := fun vs H Q E =>
  vs.length = n ∧ ∃ B r P m ws, RelS T B r P m H ∧ RepL T B r vs ws ∧ CPost T xc P B r (cs f ws m) Q E
/-- what a call leaves alone: all that is known but the store -/
def outP (r : List Addr) (H : Hp) : Hp := fun a => if a ∈ r then none else H a
section
variable {T : Tab} {B B2 P H H2 : Hp} {r r2 : List Addr} {m m2 : Sto} {en : En} {σ : Slo}
theorem RelS.out (R : RelS T B r P m H) : RelS T B r (outP r H) m H :=
  ⟨R.bh, fun a o h => by
    unfold outP at h
    split at h
    · cases h
    · exact h, R.nd, R.len, fun a ha => ⟨(R.fr a ha).1, by unfold outP; rw [if_pos ha]⟩, R.ob, R.lkb⟩
theorem Rel.back (R : Rel T B r P m en σ H) (e : Ext (outP r H) B r B2 r2) (S : RelS T B2 r2 (outP r H) m2 H2) : Ext P B r B2 r2 ∧ Rel T B2 r2 P m2 en σ H2 := by
  have po : Sub P (outP r H) := fun a o h => by
    have hn : a ∉ r := fun z => by
      have := (R.s.fr a z).2
      rw [h] at this; cases this
    unfold outP
    rw [if_neg hn]
    exact R.s.ph a o h
  have ex : Ext P B r B2 r2 := ⟨e.sub, e.pre, fun a h => e.fix a fun z => h (po.none z)⟩
  refine ⟨ex, ⟨S.bh, po.trans S.ph, S.nd, S.len, fun a ha => ⟨(S.fr a ha).1, po.none (S.fr a ha).2⟩, S.ob, S.lkb⟩, R.e.len, fun j s hj => ?_, R.e.dis⟩
  obtain ⟨v, h1, h2⟩ := R.e.sl j s hj
  refine ⟨v, h1, ?_⟩
  cases s with
  | val w => exact Rep.mono e.sub e.pre h2
  | own ws =>
    obtain ⟨p, rfl, ⟨vs, a1, a2⟩, a3, a4, a5⟩ := h2
    have hp : outP r H p = some (.lst vs) := by
      unfold outP
      rw [if_neg a5]
      exact a1
    have hne : outP r H p ≠ none := by rw [hp]; exact fun z => nomatch z
    refine ⟨p, rfl, ⟨vs, S.ph _ _ hp, a2.mono e.sub e.pre⟩, by rw [e.fix p hne]; exact a3, a4, fun z => hne (S.fr p z).2⟩
theorem Rel.back_new (R : Rel T B r P m en σ H) {v : V} {x : RV} (S : RelS T B2 r2 (outP r H) m2 H2) (h : RepC T B2 r2 (outP r H) H2 v x) : RepR T B2 r2 P en σ H2 v x := by
  cases x with
  | val w => exact h
  | bor j => exact h.elim
  | new ws =>
    obtain ⟨p, rfl, a1, a2, a3, a4⟩ := h
    have po : P p = none := by
      cases q : P p with
      | none => rfl
      | some o =>
        have hn : p ∉ r := fun z => by
          have := (R.s.fr p z).2
          rw [q] at this; cases this
        have h1 := R.s.ph p o q
        unfold outP at a3
        rw [if_neg hn, h1] at a3; cases a3
    refine ⟨p, rfl, ⟨a1, a2, po, a4⟩, fun j zs hj e => ?_⟩
    obtain ⟨q, e1, o⟩ := R.e.own_at hj
    rw [e] at e1; cases e1
    obtain ⟨vs, b1, _⟩ := o.at_
    unfold outP at a3
    rw [if_neg o.nr, b1] at a3; cases a3
end

/-! ### what must be so where a body runs -/
structure ModOk (T : Tab) (xc : Nat → Value) (S : Sta) (cs : Nat → List W → Sto → CR) (gl : List W) (k : Nat) (pr : Program) (w : World) (mg : Str → Option Value) (base : Heap) : Prop where
  fns : ∀ i x n, S.fns[i]? = some (x, n) → ∃ fd ps, (∀ y, x = some y → mg y = some (.ref (T.fa i))) ∧ PySem.W.keepIn T.K (.ref (T.fa i)) = true ∧ Binds T.K fd ps [] ∧ FnOk pr w T.K mg base (L2.CX pr w) (2 * k) (T.fa i) fd ps (spF T xc cs i n)
  cls : ∀ c ci, S.cls[c]? = some ci → Cls T.K (T.ca c) ∧ (∀ x ∈ ci.flds, NoAttr T.K (T.ca c) x) ∧ (∀ x f, (x, f) ∈ ci.mts → Meth T.K (T.ca c) x (T.fa f)) ∧ mg ci.nm = some (.ref (T.ca c)) ∧ Mk T.K (T.ca c) (T.fa ci.ini)
  gls : ∀ (i : Nat) (x : Str), S.gls[i]? = some x → ∃ v u w, mg x = some u ∧ RelV v u ∧ gl[i]? = some w ∧ ∀ B r, Rep T B r v w
  blt : ∀ x ∈ bltNames, mg x = none
  exs : ∀ c xi, S.exs[c]? = some xi → xc c = .ref (T.xa c) ∧ mg xi.nm = some (.ref (T.xa c)) ∧ L2.ExcC T.K (T.xa c) ∧ PySem.W.excIn T.K (T.xa c) [.type "ValueError", .type "Exception", .type "BaseException", .type "object"] "ValueError.__new__" = true ∧ PySem.W.keepIn T.K (.ref (T.xa c)) = true ∧ PySem.W.typeIn T.K (.ref (T.xa c)) = some (.type "type") ∧
    PySem.W.kitOne T.K (.ref (T.xa c)) (.type "ValueError") = some (xi.up.contains "ValueError") ∧ PySem.W.kitOne T.K (.type "NoneType") (.ref (T.xa c)) = some false ∧ ∀ d xd, S.exs[d]? = some xd → PySem.W.kitOne T.K (.ref (T.xa c)) (.ref (T.xa d)) = some (xi.up.contains xd.nm) ∧ PySem.W.exmOne T.K (.ref (T.xa c)) (.ref (T.xa d)) = some (xi.up.contains xd.nm)
structure CxOk (T : Tab) (xc : Nat → Value) (S : Sta) (cs : Nat → List W → Sto → CR) (gl : List W) (k : Nat) (N : List Str) (fb : Str → Bool) (sc : Scope) (Wx : WX) (X : Cx) : Prop where
  eK : X.K = T.K
  eN : X.N = N
  nd : List.Nodup N
  es : X.env.scope = sc
  ef : X.fn = fb
  calm : S.cB = true → X.calm = true
  room : S.cB = true → Room (2 * k + 1) X.A
  un : X.A.units + 64 < cLine
  tk : Takes X Wx
  md : ModOk T xc S cs gl k X.prog X.w X.mg X.base

end Mp
namespace L2
open PySem PySem.Spec PyProof.Rows
theorem PE.imp {X : Cx} {e : Expr} {t u : TE} (h : PE X e t) (q : ∀ σ H Q, u σ H Q → t σ H Q) : PE X e u := ⟨fun pins s σ H Q I z => h.run pins s σ H Q I (q σ H Q z)⟩
theorem PT.imp {X : Cx} {e : Expr} {t u : TT} (h : PT X e t) (q : ∀ σ H Q, u σ H Q → t σ H Q) : PT X e u := ⟨fun pins s σ H Q I z => h.run pins s σ H Q I (q σ H Q z)⟩
theorem PW.imp {X : Cx} {e : Expr} {t u : TT} (h : PW X e t) (q : ∀ σ H Q, u σ H Q → t σ H Q) : PW X e u := ⟨fun wh pins s σ H Q I z => h.run wh pins s σ H Q I (q σ H Q z)⟩
theorem PA.imp {X : Cx} {e : List Expr} {t u : TA} (h : PA X e t) (q : ∀ σ H Q, u σ H Q → t σ H Q) : PA X e u := ⟨fun po pins s σ H Q I z => h.run po pins s σ H Q I (q σ H Q z)⟩
theorem PS.imp {X : Cx} {e : Stmt} {t u : TS} (h : PS X e t) (q : ∀ D σ H, u D σ H → t D σ H) : PS X e u := ⟨fun pins s σ H D I z => h.run pins s σ H D I (q D σ H z)⟩
theorem PSs.imp {X : Cx} {e : List Stmt} {t u : TS} (h : PSs X e t) (q : ∀ D σ H, u D σ H → t D σ H) : PSs X e u := ⟨fun pins s σ H D I z => h.run pins s σ H D I (q D σ H z)⟩
theorem PI.imp {X : Cx} {tg it : Expr} {t u : TI} (h : PI X tg it t) (q : ∀ σ H R, u σ H R → t σ H R) : PI X tg it u := ⟨fun pins s σ H R I z => h.run pins s σ H R I (q σ H R z)⟩
end L2
namespace Mp
open PySem PySem.Spec PyProof.Rows L2
theorem star_of {e : Expr} {es : List Expr} {env : PySem.Env} (h : noStar e = true) : starEach (e :: es) env = (false, eval e env) :: starEach es env := by
  cases e <;> first | rfl | cases h
theorem back_no {env : PySem.Env} {pos : Pos} : ∀ {qs : List Expr}, (∀ q ∈ qs, noStar q = true) → (backTo pos (starEach qs env)).any (·.1) = false
  | [], _ => rfl
  | q :: qs, h => by
    have ih := back_no (env := env) (pos := pos) (qs := qs) fun r hr => h r (List.mem_cons_of_mem _ hr)
    rw [star_of (h q List.mem_cons_self)]
    unfold backTo at ih ⊢
    rw [List.map_cons, List.any_cons, ih]
    rfl
theorem base_of {o : Expr} {f : Str} {env : PySem.Env} (h : baseB o = true) : attributeBase o f env (eval o env) = eval o env := by
  cases o <;> first | rfl | cases h
theorem plainIx_of {b : Expr} (h : plainIxB b = true) : PlainIx b := by
  cases b <;> first | exact fun _ _ => rfl | cases h
theorem noSet_of {op : CmpOp} {b : Expr} (h : setB b = false) : behindInMarks op b = false := by
  cases b <;> first | rfl | cases h
theorem fold_of {e : Expr} {env : PySem.Env} (h : setB e = false) : ∀ x, foldedSetIterable e env x = pure x := by
  cases e <;> first | exact fun _ => rfl | cases h
theorem noSwap_of {e : Expr} {t : Option Expr} {l : Nat} {env : PySem.Env} (h : notComp e = true) : swapsWith e t l env = pure false := by
  cases e <;> first | rfl | cases h
theorem vis_of {sc : Scope} {x : Str} (h : visB sc x = true) : Vis sc x := by
  unfold visB at h
  split at h
  · exact .inl (by assumption)
  · exact .inr (.inl (by assumption))
  · exact .inr (.inr (by assumption))
  · cases h
theorem loc_of {fb : Str → Bool} {sc : Scope} {x : Str} (h : locB fb sc x = true) : Loc sc x ∧ (fb x = true ∨ sc.names.lookup x = some .local) := by
  unfold locB at h
  split at h
  · exact ⟨.inl (by assumption), .inr (by assumption)⟩
  · exact ⟨.inr (by assumption), .inl h⟩
  · cases h
theorem gl_of {X : Cx} {sc : Scope} {x : Str} (e : X.env.scope = sc) (h : glB sc x = true) : Gl X x := by
  unfold glB at h
  split at h
  · show X.env.scope.names.lookup x = _
    rw [e]; assumption
  · cases h
theorem pl_of {x : Str} (h : plB x = true) : (x == ("__debug__" : Str)) = false ∧ (x == ("__classdict__" : Str)) = false ∧ x ≠ "__name__" := by
  unfold plB at h
  simp only [Bool.and_eq_true, Bool.not_eq_true'] at h
  obtain ⟨⟨h1, h2⟩, h3⟩ := h
  refine ⟨h1, h2, fun e => ?_⟩
  rw [e] at h3
  simp at h3
end Mp

set_option Elab.async false
set_option linter.all false
set_option maxRecDepth 100000
set_option maxHeartbeats 4000000
/-! method calls and makings with the errors that may leave them -/
namespace Mp
open PySem PySem.Spec PyProof.Rows L2
theorem meth_eval {o : Expr} {m : Str} {ap pos : Pos} {es : List Expr} {env : PySem.Env} (hb : attributeBase o m env (eval o env) = eval o env)
    (hf : ((backTo pos (starEach es env)).all (fun x => !x.1) && (backToKw pos (keywordEach [] env)).all (fun x => x.1.isSome) && decide (es.length + ([] : List Keyword).length + (if ([] : List Keyword).isEmpty then 0 else 1) < 30)) = true)
    (hl : (ap.endLine == pos.line) = true) : eval (.Call (.Attribute o m ap) es [] pos) env = (do
      let ov ← eval o env
      standAt ap.atName
      let (f, first) ← holding [ov] (getMethod ov m (do return (← importBound o env).getD true))
      callWith pos f first (backTo pos (starEach es env)) (backToKw pos (keywordEach [] env))) := by
  have hm : methodCallForm (es.length + ([] : List Keyword).length) (backTo pos (starEach es env)) (backToKw pos (keywordEach [] env)) = true := hf
  rw [arm_eval_Call, hb]
  congr 1
  funext ov
  congr 1
  funext _
  unfold methodCall
  rw [hm]
  unfold calleeOf methodCallPos
  simp only [if_true, hl, Bool.not_true, Bool.false_or, pure_bind]
theorem few_of {qs : List Expr} {env : PySem.Env} {pos : Pos} (hs : ∀ q ∈ qs, noStar q = true) (hn : qs.length < 29) :
    ((backTo pos (starEach qs env)).all (fun x => !x.1) && (backToKw pos (keywordEach [] env)).all (fun x => x.1.isSome) && decide (qs.length + ([] : List Keyword).length + (if ([] : List Keyword).isEmpty then 0 else 1) < 30)) = true := by
  have h1 : (backTo pos (starEach qs env)).all (fun x => !x.1) = true := by
    have h := back_no (env := env) (pos := pos) hs
    rw [List.all_eq_not_any_not]
    simp only [Bool.not_not]
    rw [h]; rfl
  have h3 : (backToKw pos (keywordEach [] env)).all (fun x => x.1.isSome) = true := rfl
  rw [h1, h3]
  simp only [Bool.and_self, Bool.true_and, decide_eq_true_eq, List.length_nil, List.isEmpty_nil, if_true]
  omega
section
variable {X : Cx} {CX : CXT} {k : Nat} {f C : Addr} {fd : FuncData} {ps : List Str} {sp : Sp} {E : L2.St → XK} {x m : Str} {p pos apos : Pos} {e o : Expr} {es : List Expr} {ta : TE} {t : TA}
def tMethS (C : Addr) (m : Str) (sp : Sp) (E : L2.St → XK) (ta : TE) (t : TA) : TE := fun σ H Q => ta σ H fun x H1 => ∃ a dx fs, x = .ref a ∧ H1 a = some (.ins C dx fs) ∧ fs.lookup m = none ∧ t σ H1 fun vs H2 => sp (x :: vs) H2 Q (E σ)
theorem pe_methX {pl : Sem Bool} (he : PE X o ta) (c : Cls X.K C) (hm : Meth X.K C m f) (F : FnOk X.prog X.w X.K X.mg X.base CX k f fd ps sp) (hr : Room k X.A) (hb : Binds X.K fd ps []) (hx : ∀ σ, PassesAt CX X σ (E σ)) (ha : PA X (e :: es) t)
    (hst : starEach (e :: es) X.env = (false, eval e X.env) :: starEach es X.env) (hpl : (backTo pos (starEach es X.env)).any (·.1) = false)
    (ht : eval (.Call (.Attribute o m apos) (e :: es) [] pos) X.env = (do
      let ov ← eval o X.env
      standAt apos.atName
      let (f, first) ← holding [ov] (getMethod ov m pl)
      callWith pos f first (backTo pos (starEach (e :: es) X.env)) (backToKw pos (keywordEach [] X.env)))) :
    PE X (.Call (.Attribute o m apos) (e :: es) [] pos) (tMethS C m sp E ta t) := by
  refine ⟨fun pins s σ H Q I h => ?_⟩
  refine PySem.W.methodCall_KW (pl := pl) (thn (he.run pins s σ H _ I h) fun u s1 ⟨x, H1, I1, rx, a, dx, fs, ex, ea, l, q⟩ => ?_) ht
  subst ex
  obtain rfl : u = Value.ref a := rx
  refine getmeth_ok I1 ea c hm l ?_
  refine PySem.W.callWith_K (first := [.ref a]) (h₀ := X.base) I.ok.mod.kin hm.kp (thn (ha.run pos pins s1 σ H1 _ I1 q) fun us s2 ⟨vs, H2, I2, r, q2⟩ => ⟨I2.kIn, ?_⟩) hst hpl
  exact run_fnS (us := .ref a :: us) (vs := .ref a :: vs) F hr hb (hx σ) I2 (.cons rfl r) q2
theorem pe_methX0 {pl : Sem Bool} (he : PE X o ta) (c : Cls X.K C) (hm : Meth X.K C m f) (F : FnOk X.prog X.w X.K X.mg X.base CX k f fd ps sp) (hr : Room k X.A) (hb : Binds X.K fd ps []) (hx : ∀ σ, PassesAt CX X σ (E σ))
    (ht : eval (.Call (.Attribute o m apos) [] [] pos) X.env = (do
      let ov ← eval o X.env
      standAt apos.atName
      let (f, first) ← holding [ov] (getMethod ov m pl)
      callWith pos f first (backTo pos (starEach [] X.env)) (backToKw pos (keywordEach [] X.env)))) :
    PE X (.Call (.Attribute o m apos) [] [] pos) (tMethS C m sp E ta tNil) := by
  refine ⟨fun pins s σ H Q I h => ?_⟩
  refine PySem.W.methodCall_KW (pl := pl) (thn (he.run pins s σ H _ I h) fun u s1 ⟨x, H1, I1, rx, a, dx, fs, ex, ea, l, q⟩ => ?_) ht
  subst ex
  obtain rfl : u = Value.ref a := rx
  refine getmeth_ok I1 ea c hm l ?_
  exact PySem.W.callWith_K0 (first := [.ref a]) I1.kIn hm.kp (run_fnS (us := [.ref a]) (vs := [.ref a]) F hr hb (hx σ) I1 (.cons rfl .nil) q)
def tMakeS (C : Addr) (sp : Sp) (E : L2.St → XK) (t : TA) : TE := fun σ H Q => t σ H fun vs H1 => ∀ x dx, H1 x = none → H1 dx = none → dx ≠ x → sp (.ref x :: vs) (upd (upd H1 dx (.own x)) x (.ins C dx [])) (fun v H2 => v = .non ∧ Q (.ref x) H2) (E σ)
theorem run_makeS {pins : List (Addr × Obj)} {σ : L2.St} {H : Hp} {s : Shared} {Q : VK} {us : List Value} {vs : List V} (M : Mk X.K C f) (F : FnOk X.prog X.w X.K X.mg X.base CX k f fd ps sp) (hr : Room (k + 1) X.A) (hb : Binds X.K fd ps [])
    (hx : PassesAt CX X σ (E σ)) (I : Inv X pins σ H s) (r : Vals vs us)
    (h : ∀ x dx, H x = none → H dx = none → dx ≠ x → sp (.ref x :: vs) (upd (upd H dx (.own x)) x (.ins C dx [])) (fun v H2 => v = .non ∧ Q (.ref x) H2) (E σ)) :
    wpAny (model X.prog X.w) X.A (call (.ref C) us) (EP X pins σ Q) X.xe s := by
  have hq := h (s.heap.objs.size + 1) s.heap.objs.size (I.hok.fresh (Nat.le_succ _)) (I.hok.fresh (Nat.le_refl _)) (Nat.ne_of_lt (Nat.lt_succ_self _))
  have I2 := Inv.made (C := C) I
  have r2 : Vals (V.ref (s.heap.objs.size + 1) :: vs) (Value.ref (s.heap.objs.size + 1) :: us) := .cons rfl r
  have hl : (Value.ref (s.heap.objs.size + 1) :: us).length = ps.length := by
    have e := r2.length
    rw [F.len _ _ _ _ hq] at e
    exact e.symm
  have b := hb { s with heap := (s.heap.push PySem.W.emptyDict).push (PySem.W.instObj C s.heap.objs.size) } (Value.ref (s.heap.objs.size + 1) :: us) I2.kIn (by rw [List.append_nil]; exact hl)
  rw [List.append_nil] at b
  refine wpAny_call (make_map (f := f) I.kIn M.makes M.init (beq_iff_eq.mp M.fn) (codeAny_mono (F.run _ X.stack _ _ ⟨Value.ref (s.heap.objs.size + 1) :: us, []⟩ (Value.ref (s.heap.objs.size + 1) :: us) _ _ (E σ) (hr.make C us [])
    (I2.env0.make C us []) b r2 hq) fun r s' hq' => ?_))
  cases r with
  | error e => exact hx pins _ _ e s' I2 hq'
  | ok fl =>
    cases fl with
    | ret u =>
      obtain ⟨v, H', I3, rv, ev, q3⟩ := I2.after hq'
      subst ev
      exact ⟨rv, ⟨V.ref (s.heap.objs.size + 1), H', I3, rfl, q3⟩⟩
    | next => exact False.elim hq'
    | brk => exact False.elim hq'
    | cont => exact False.elim hq'
theorem pe_makeX (M : Mk X.K C f) (F : FnOk X.prog X.w X.K X.mg X.base CX k f fd ps sp) (hr : Room (k + 1) X.A) (hg : Gl X x) (hm : X.mg x = some (.ref C)) (hb : Binds X.K fd ps []) (hx : ∀ σ, PassesAt CX X σ (E σ))
    (ha : PA X (e :: es) t) (hdb : (x == ("__debug__" : Str)) = false) (he : starEach (e :: es) X.env = (false, eval e X.env) :: starEach es X.env) (hpl : (backTo pos (starEach es X.env)).any (·.1) = false) :
    PE X (.Call (.Name x p) (e :: es) [] pos) (tMakeS C sp E t) := by
  refine ⟨fun pins s σ H Q I h => ?_⟩
  refine wpAny_Call_Name_kw (ld_glob I hg hm ?_ hdb)
  refine PySem.W.callWith_K (h₀ := X.base) I.ok.mod.kin M.kp (thn (ha.run pos pins s σ H _ I h) fun us s1 ⟨vs, H1, I1, r, q⟩ => ⟨I1.kIn, ?_⟩) he hpl
  exact run_makeS M F hr hb (hx σ) I1 r q
end
end Mp

set_option Elab.async false
set_option linter.all false
set_option maxRecDepth 100000
set_option maxHeartbeats 4000000
namespace Mp
open PySem PySem.Spec PyProof.Rows L2

/-! ### operators -/
/-- two lists that are to be read, put together -/
def rCat2 (K : PySem.W.Frag) : R2 := fun x y H Q => ∃ l b xs zs, x = .ref l ∧ y = .ref b ∧ SqL K H l xs ∧ SqL K H b zs ∧ xs.length + zs.length ≤ sizeLine ∧ ∀ p, H p = none → Q (.ref p) (upd H p (.lst (xs ++ zs)))
theorem Rd.lstAt {X : Cx} {pins : List (Addr × Obj)} {σ : Slo} {H : Hp} {s : Shared} {l : Addr} {xs : List V} (I : Inv X pins σ H s) (h : Rd H l (.lst xs)) :
    xs.length ≤ sizeLine ∧ ∃ (is_ : List Value) (n : Nat), Vals xs is_ ∧ xs.length = is_.length ∧ s.heap.get? l = some { cls := .type "list", data := .seq is_.toArray n } := by
  obtain ⟨z, is_, n, q, e⟩ := h.ok I.hok
  exact ⟨z, is_, n, q, q.length, e⟩
/-- as the library's own, the slots as they may be -/
theorem list_add_any (l : Addr) (items : Array Value) (n : Nat) (sl : Array (Option Value)) (b : Addr) (items2 : Array Value) (n2 : Nat) (sl2 : Array (Option Value)) (hc0 : items.size + items2.size ≤ sizeLine) :
    Meets (Builtin.«list.__add__» ⟨[.ref l, .ref b], []⟩) (fun _ R s => s.heap.get? l = some { cls := .type "list", dict := none, data := .seq items n, slots := sl } ∧ s.heap.get? b = some { cls := .type "list", dict := none, data := .seq items2 n2, slots := sl2 } ∧ R (.ok (.ret (Value.ref s.heap.objs.size))) { s with heap := s.heap.push { cls := Value.type "list", data := Data.seq (items ++ items2) }, toks := s.toks }) :=
  .of_wp fun prog w A R s h => by
    obtain ⟨hp, g, d, tk, os⟩ := s
    obtain ⟨hl, hb, h⟩ := h
    have f1 := PySem.AutoSeq1.idx_int
    have f2 := PySem.AutoSeq1.sub_tuple_tuple
    have f3 := PySem.AutoSeq1.sub_list_list
    have f4 := PySem.AutoSeq1.sub_tuple_list
    have f5 := PySem.AutoSeq1.sub_list_tuple
    wp_walk using PySem.AutoSeq1.wpAny_loadPart' hl, PySem.AutoSeq1.wpAny_loadPart' hb
    exact ⟨_, rfl, h⟩
theorem op_cat2 {X : Cx} : OpR X (binaryOp .Add) (rCat2 X.K) := by
  intro pins s σ H x y v u Q I rx ry h
  obtain ⟨l, b, xs, zs, rfl, rfl, h1, h2, hz, q⟩ := h
  cases rx; cases ry
  obtain ⟨i1, q1, ⟨o1, n1, e1, c1, d1, t1⟩, _⟩ := I.list h1
  obtain ⟨i2, q2, ⟨o2, n2, e2, c2, d2, t2⟩, _⟩ := I.list h2
  obtain ⟨cl1, di1, da1, sl1⟩ := o1
  obtain ⟨cl2, di2, da2, sl2⟩ := o2
  dsimp only at c1 d1 t1 c2 d2 t2
  subst c1; subst d1; subst t1; subst c2; subst d2; subst t2
  have l1 := q1.length
  have l2 := q2.length
  refine PySem.concat_meets ⟨_, e1, rfl⟩ ⟨_, e2, rfl⟩ PySem.noFill_list_add PySem.seq_list_add F.slot_list_add F.entry_list_add (F.args_list_add_2 _ _) (list_add_any l i1.toArray n1 sl1 b i2.toArray n2 sl2 (by rw [List.size_toArray, List.size_toArray]; omega)) ⟨e1, e2, ?_⟩
  have ea : i1.toArray ++ i2.toArray = (i1 ++ i2).toArray := by simp
  rw [ea]
  have J := I.lnew (t' := s.toks) (q1.append q2) (by rw [List.length_append]; omega)
  exact ⟨.ref _, _, J, rfl, q _ I.fresh⟩
def rMulI : R2 := fun x y H Q => rI CMul (fun i j => .int (i * j)) x y H Q ∨ rI CMulW (fun i j => .int (i * j)) x y H Q
theorem small_lt {i : Int} (h : small i = true) : i.natAbs < 2 ^ 2000 := by
  unfold small at h
  have h := of_decide_eq_true h
  unfold BIG at h
  omega
theorem mul_reads {i j : Int} {H : Hp} {Q : VK} (h : mulOk i j = true) (q : Q (.int (i * j)) H) : rMulI (.int i) (.int j) H Q := by
  unfold mulOk at h
  simp only [Bool.or_eq_true, decide_eq_true_eq, Bool.and_eq_true] at h
  rcases h with (h | h) | h
  · exact .inl ⟨i, j, rfl, rfl, .inl h, q⟩
  · exact .inl ⟨i, j, rfl, rfl, .inr h, q⟩
  · exact .inr ⟨i, j, rfl, rfl, wide_mul (small_lt h.1) (small_lt h.2) (by decide) (by decide) (by decide), q⟩
def rRep2 : R2 := fun x y H Q => ∃ l k xs, x = .ref l ∧ y = .int k ∧ Rd H l (.lst xs) ∧ (-(2 ^ 63) ≤ k ∧ k < 2 ^ 63 ∧ xs.length * k.toNat ≤ sizeLine) ∧
  ∀ p, H p = none → Q (.ref p) (upd H p (.lst (List.replicate k.toNat xs).flatten))
theorem flat_fold (us : List Value) (k : Nat) : List.foldl (fun x1 x2 => x1 ++ x2) #[] (List.replicate (if us.toArray.isEmpty = true then 0 else k) us.toArray) = (List.replicate k us).flatten.toArray := by
  have g : ∀ q : Nat, List.foldl (fun x1 x2 => x1 ++ x2) #[] (List.replicate q us.toArray) = (List.replicate q us).flatten.toArray := fun q => by
    have z := foldl_rep us q []
    rw [List.nil_append] at z; exact z
  rw [g]
  cases us with
  | nil => simp
  | cons _ _ => rw [if_neg (by simp)]
theorem op_rep2 {X : Cx} : OpR X (binaryOp .Mult) rRep2 := by
  intro pins s σ H x y v u Q I rx ry h
  obtain ⟨l, k, xs, rfl, rfl, hd, ⟨b1, b2, b3⟩, q⟩ := h
  cases rx
  obtain ⟨tk, rfl⟩ := ry
  obtain ⟨_, us, n, vq, el, eh⟩ := Rd.lstAt I hd
  have g1 : us.toArray.size * k.toNat ≤ sizeLine := by rw [List.size_toArray, ← el]; exact b3
  have g2 : ¬ us.toArray.size * k.toNat > (2 ^ 63 - 1) / 8 := fun z => by
    have : (sizeLine : Nat) ≤ (2 ^ 63 - 1) / 8 := by decide
    omega
  have g3 : ¬ (!Builtin.List.listFitsIndex k) = true := by rw [fitsIndex_both b1 b2]; simp
  have g4 : ¬ Builtin.List.listTooLong (us.toArray.size * k.toNat) = true := by rw [notLongL g1]; simp
  have inner := AutoListH.list___mul___list_int_3 l us.toArray n k tk g3 g2 g4
  refine wpAny_binaryOp_repeat_ref (T := "list") (U := "int") (by decide) ⟨_, eh, rfl⟩ (fun z => typeIs_int z k tk) noFill_list_mul F.fills_int_mul F.slot_int_rmul repeat_list F.slot_int_index.lookup ?_
  refine call_meets F.slot_int_rmul (typeIs_int s k tk) F.entry_int_rmul (F.args_int_rmul_2 _ _) (int___rmul___int_list k tk l us.toArray n) ?_
  refine ⟨eh, rfl, ⟨_, eh, rfl⟩, call_meets F.slot_list_mul ⟨_, eh, rfl⟩ F.entry_list_mul (F.args_list_mul_2 _ _) inner ⟨eh, ?_⟩⟩
  rw [flat_fold]
  have J := I.lnew (t' := s.toks) (vq.rep k.toNat) (by rw [PyProof.Rows.lm_len_rep_flat, Nat.mul_comm]; exact b3)
  exact ⟨.ref _, _, J, rfl, q _ I.fresh⟩
def rAdd3 (K : PySem.W.Frag) : R2 := fun x y H Q => (rI0 (fun i j => .int (i + j)) x y H Q ∨ (∃ i j, x = .str i ∧ y = .str j ∧ i.length + j.length ≤ sizeLine ∧ Q (.str (i ++ j)) H)) ∨ rCat2 K x y H Q
/-- & of 1, a number that is not below 0 -/
def rOdd : R2 := fun x y H Q => ∃ n : Nat, x = .int (n : Int) ∧ y = .int 1 ∧ Q (.int ((n % 2 : Nat) : Int)) H
def rOp (K : PySem.W.Frag) : Op → R2
  | .add => rAdd3 K
  | .sub => rI0 fun i j => .int (i - j)
  | .mul => fun x y H Q => rMulI x y H Q ∨ rRep2 x y H Q
  | .fdiv => rI CDivW fun i j => .int (i / j)
  | .mod => rI (fun _ j => 0 < j) fun i j => .int (i % j)
  | .pow => rI CPow fun i j => .int (i ^ j.toNat)
  | .shr => rI (fun _ j => 0 ≤ j) fun i j => .int (i / 2 ^ j.toNat)
  | .band => rOdd
theorem opR_of {X : Cx} {op : Op} {o : Operator} (h : opB op o = true) : OpR X (binaryOp o) (rOp X.K op) := by
  cases op <;> cases o <;> first | (exfalso; exact Bool.false_ne_true h) | skip
  · exact (op_add.or op_add_str).or op_cat2
  · exact op_sub
  · exact (op_mul.or op_mulW).or op_rep2
  · exact op_fdivW
  · exact op_mod
  · exact op_pow
  · exact op_shr
  · exact op_odd
theorem lim_line {n : Nat} (h : n ≤ LIM) : n ≤ sizeLine := Nat.le_trans h (by decide)
theorem lim_lt {n : Nat} (h : n < LIM) : n < sizeLine := Nat.lt_of_lt_of_le h (by decide)
section
variable {T : Tab} {B P H : Hp} {r : List Addr} {m : Sto} {en : En} {σ : Slo} {x y : V} {a b : RV}
theorem RepL.len_le {vs : List V} {ws : List W} (h : RepL T B r vs ws) {n : Nat} (q : ws.length ≤ n) : vs.length ≤ n := by rw [h.len]; exact q
theorem bin_ok {op : Op} {c : RV} {Q : VK} (R : Rel T B r P m en σ H) (ha : RepR T B r P en σ H x a) (hb : RepR T B r P en σ H y b) (e : binR op en m a b = some c)
    (q : ∀ v B2 H2, Ext P B r B2 r → Rel T B2 r P m en σ H2 → RepR T B2 r P en σ H2 v c → Q v H2) : rOp T.K op x y H Q := by
  unfold binR at e
  split at e
  · -- add
    rename_i i j e1 e2
    cases e
    have h1 := (R.top ha e1).int; have h2 := (R.top hb e2).int
    subst h1 h2
    exact .inl (.inl ⟨i, j, rfl, rfl, q _ B H Ext.refl R (.int _)⟩)
  · rename_i i j e1 e2
    cases e
    have h1 := (R.top ha e1).int; have h2 := (R.top hb e2).int
    subst h1 h2
    exact ⟨i, j, rfl, rfl, q _ B H Ext.refl R (.int _)⟩
  · rename_i i j e1 e2
    split at e
    · rename_i c
      cases e
      have h1 := (R.top ha e1).int; have h2 := (R.top hb e2).int
      subst h1 h2
      exact .inl (mul_reads c (q _ B H Ext.refl R (.int _)))
    · cases e
  · rename_i i j e1 e2
    split at e
    · rename_i c
      cases e
      have h1 := (R.top ha e1).int; have h2 := (R.top hb e2).int
      subst h1 h2
      refine ⟨i, j, rfl, rfl, wide_div (b := 2000) c.1 ?_ (by decide) (by decide), q _ B H Ext.refl R (.int _)⟩
      have := c.2
      unfold BIG at this
      omega
    · cases e
  · rename_i i j e1 e2
    split at e
    · rename_i c
      cases e
      have h1 := (R.top ha e1).int; have h2 := (R.top hb e2).int
      subst h1 h2
      exact ⟨i, j, rfl, rfl, c, q _ B H Ext.refl R (.int _)⟩
    · cases e
  · rename_i i j e1 e2
    split at e
    · rename_i c
      cases e
      have h1 := (R.top ha e1).int; have h2 := (R.top hb e2).int
      subst h1 h2
      refine ⟨i, j, rfl, rfl, ⟨c.1, ?_, ?_⟩, q _ B H Ext.refl R (.int _)⟩
      · have := c.2.1; omega
      · have := c.2.2; omega
    · cases e
  · rename_i i j e1 e2
    split at e
    · rename_i c
      cases e
      have h1 := (R.top ha e1).int; have h2 := (R.top hb e2).int
      subst h1 h2
      exact ⟨i, j, rfl, rfl, c, q _ B H Ext.refl R (.int _)⟩
    · cases e
  · rename_i i j e1 e2
    split at e
    · rename_i c
      cases e
      have h1 := (R.top ha e1).int; have h2 := (R.top hb e2).int
      subst h1 h2
      obtain ⟨rfl, c2⟩ := c
      refine ⟨i.toNat, by rw [Int.toNat_of_nonneg c2], rfl, ?_⟩
      have := q (.int (i % 2)) B H Ext.refl R (.int _)
      have e3 : ((i.toNat % 2 : Nat) : Int) = i % 2 := by omega
      rw [e3]; exact this
    · cases e
  · rename_i i j e1 e2
    split at e
    · rename_i c
      cases e
      have h1 := (R.top ha e1).str; have h2 := (R.top hb e2).str
      subst h1 h2
      exact .inl (.inr ⟨i, j, rfl, rfl, lim_line c, q _ B H Ext.refl R (.str _)⟩)
    · cases e
  · -- lists
    rename_i w1 w2 _ _ e1 e2
    split at e
    · rename_i ws zs g1 g2
      split at e
      · rename_i c
        cases e
        obtain ⟨p1, v1, rfl, d1, l1⟩ := RepT.lsts R.s (R.top ha e1) g1
        obtain ⟨p2, v2, rfl, d2, l2⟩ := RepT.lsts R.s (R.top hb e2) g2
        refine .inr ⟨p1, p2, v1, v2, rfl, rfl, d1, d2, ?_, fun p hp => q _ B _ Ext.refl (R.grow (Sub.new hp)) (R.new_own hp (l1.app l2))⟩
        rw [l1.len, l2.len]; exact lim_line c
      · cases e
    · cases e
  · rename_i w1 k _ e1 e2
    split at e
    · rename_i ws g1
      split at e
      · rename_i c
        cases e
        have h2 := (R.top hb e2).int
        subst h2
        obtain ⟨p1, v1, rfl, d1, l1⟩ := RepT.lst R.s (R.top ha e1) g1
        refine .inr ⟨p1, k, v1, rfl, rfl, d1, ⟨?_, ?_, ?_⟩, fun p hp => q _ B _ Ext.refl (R.grow (Sub.new hp)) (R.new_own hp (l1.rep _))⟩
        · have := c.2.1; omega
        · have := c.1; omega
        · rw [l1.len]; exact lim_line c.2.2
      · cases e
    · cases e
  · cases e

/-! ### comparisons -/
theorem RepT.flat {v : V} {w : W} (h : RepT T B r H v w) (f : flatW w = true) : flatV v = true ∧ ∀ {v2 : V} {w2 : W}, Rep T B r v2 w2 → flatW w2 = true → eqV v2 v = eqFl w2 w := by
  rcases h with h | ⟨_, _, _, _, rfl, _⟩
  · cases h <;> first
      | exact absurd f Bool.false_ne_true
      | (refine ⟨rfl, fun {v2 w2} h2 f2 => ?_⟩
         cases h2 <;> first | exact absurd f2 Bool.false_ne_true | rfl)
  · exact absurd f Bool.false_ne_true
theorem RepL.flats : ∀ {vs : List V} {ws : List W}, RepL T B r vs ws → ws.all flatW = true → vs.all flatV = true
  | _, _, .nil, _ => rfl
  | _, _, .cons h l, f => by
    rw [List.all_cons, Bool.and_eq_true] at f ⊢
    exact ⟨(RepT.flat (H := B) (.inl h) f.1).1, RepL.flats l f.2⟩
theorem RepL.anyEq {v : V} {w : W} (h : RepT T B r H v w) (f : flatW w = true) : ∀ {vs : List V} {ws : List W}, RepL T B r vs ws → ws.all flatW = true → inV v vs = ws.any fun z => eqFl z w
  | _, _, .nil, _ => rfl
  | _, _, .cons h2 l, fs => by
    rw [List.all_cons, Bool.and_eq_true] at fs
    show (eqV _ v || inV v _) = _
    rw [List.any_cons, (RepT.flat h f).2 h2 fs.1, RepL.anyEq h f l fs.2]
def rIs3 : R2 := fun x y H Q => (y = .non ∧ Q (.bl (decide (x = .non))) H) ∨ rIsB x y H Q
def rIsn3 : R2 := fun x y H Q => (y = .non ∧ Q (.bl (!decide (x = .non))) H) ∨ rNotB x y H Q
def rSign (n : Bool) : R2 := fun x y H Q => ∃ (c : Nat) (z : Str), x = .str ⟨#[c]⟩ ∧ y = .str z ∧ Q (.bl (if n then !decide (c ∈ z.cps.toList) else decide (c ∈ z.cps.toList))) H
/-- more than, for data that are alike -/
def rGtD (K : PySem.W.Frag) : R2 := fun x y H Q => ∃ d e, Dp K H x d ∧ Dp K H y e ∧ PySem.W.alike d e = true ∧ d ≠ .none ∧ d.depth ≤ 64 ∧ Q (.bl (PySem.W.dataLt e d)) H
theorem op_gtD {X : Cx} (hu : X.A.units + 64 < cLine) : OpR X (compareOp .Gt) (rGtD X.K) := by
  intro pins s σ H x y v u Q I rx ry ⟨d, e, hd, he, al, hn, hdp, q⟩
  obtain ⟨as, r1⟩ := Dp.reads I d x v hd rx
  obtain ⟨bs, r2⟩ := Dp.reads I e y u he ry
  exact PySem.W.gt_data r1 r2 al hn (by have := Nat.min_le_left d.depth e.depth; omega) ⟨.bl _, H, I, rfl, q⟩
def rCm (K : PySem.W.Frag) : Cm → R2
  | .eq => rEqD K
  | .ne => rNeD K
  | .lt => rI0 fun i j => .bl (decide (i < j))
  | .le => rI0 fun i j => .bl (decide (i ≤ j))
  | .gt => fun x y H Q => rI0 (fun i j => .bl (decide (j < i))) x y H Q ∨ rGtD K x y H Q
  | .ge => rI0 fun i j => .bl (decide (j ≤ i))
  | .is => rIs3
  | .isn => rIsn3
  | .mem => fun x y H Q => rIn K false x y H Q ∨ rSign false x y H Q
  | .nmem => fun x y H Q => rIn K true x y H Q ∨ rSign true x y H Q
theorem cmR_of {X : Cx} {op : Cm} {o : CmpOp} (h : cmB op o = true) (hu : X.A.units + 64 < cLine) : OpR X (compareOp o) (rCm X.K op) := by
  cases op <;> cases o <;> first | (exfalso; exact Bool.false_ne_true h) | skip
  · exact op_eqD hu
  · exact op_neD hu
  · exact op_lt
  · exact op_le
  · exact op_gt.or (op_gtD hu)
  · exact op_ge
  · exact op_isN.or op_isBl
  · exact op_notN.or op_notBl
  · exact op_in_seq.or op_in_sign
  · exact op_notIn_seq.or op_notIn_sign
theorem isW_val {x y : V} {w z : W} {k : Bool} (h1 : RepT T B r H x w) (h2 : RepT T B r H y z) (e : isW w z = some k) :
    (y = .non ∧ k = decide (x = .non)) ∨ ∃ a b : Bool, x = .bl a ∧ y = .bl b ∧ k = decide (a = b) := by
  unfold isW at e
  split at e
  · cases e; have := h1.non; have := h2.non; subst x y; exact .inl ⟨rfl, rfl⟩
  · cases e; have := h1.bl; have := h2.bl; subst x y; exact .inr ⟨_, _, rfl, rfl, rfl⟩
  · cases e; have := h1.bl; have := h2.non; subst x y; exact .inl ⟨rfl, rfl⟩
  · cases e; have := h1.int; have := h2.non; subst x y; exact .inl ⟨rfl, rfl⟩
  · cases e; have := h1.str; have := h2.non; subst x y; exact .inl ⟨rfl, rfl⟩
  · cases e; have := h2.non; subst y
    refine .inl ⟨rfl, ?_⟩
    rcases h1 with h | ⟨_, _, _, rfl, _⟩
    · cases h; rfl
    · rfl
  · cases e; have := h2.non; subst y
    refine .inl ⟨rfl, ?_⟩
    rcases h1 with h | ⟨_, _, _, rfl, _⟩
    · cases h; rfl
    · rfl
  · cases e; have := h2.non; subst y
    refine .inl ⟨rfl, ?_⟩
    rcases h1 with h | ⟨_, _, _, rfl, _⟩
    · cases h; rfl
    · rfl
  · cases e; have := h2.non; subst y
    refine .inl ⟨rfl, ?_⟩
    rcases h1 with h | ⟨_, _, _, rfl, _⟩
    · cases h; rfl
    · rfl
  · cases e
theorem memW_val (R : RelS T B r P m H) {x y : V} {w z : W} {k : Bool} (h1 : RepT T B r H x w) (h2 : RepT T B r H y z) (e : memW m w z = some k) :
    (∃ p xs, y = .ref p ∧ (SqL T.K H p xs ∨ SqT T.K H p xs) ∧ flatV x = true ∧ xs.all flatV = true ∧ k = inV x xs) ∨ ∃ (c : Nat) (s : Str), x = .str ⟨#[c]⟩ ∧ y = .str s ∧ k = decide (c ∈ s.cps.toList) := by
  unfold memW at e
  split at e
  · rename_i ws g
    split at e
    · rename_i c
      rw [Bool.and_eq_true] at c
      cases e
      obtain ⟨p, vs, rfl, d, l⟩ := RepT.seq R h2 g
      refine .inl ⟨p, vs, rfl, d, (h1.flat c.1).1, l.flats c.2, (RepL.anyEq h1 c.1 l c.2).symm⟩
    · cases e
  · split at e
    · rename_i a b _
      split at e
      · rename_i c q
        cases e
        have e1 := h1.str; have e2 := h2.str
        subst e1 e2
        refine .inr ⟨c, b, ?_, rfl, rfl⟩
        congr 1
        obtain ⟨cps⟩ := a
        congr 1
        have : cps.toList = [c] := q
        exact Array.toList_inj.mp this
      · cases e
    · cases e
theorem cmp_ok {op : Cm} {c : Bool} {Q : VK} (R : Rel T B r P m en σ H) (ha : RepR T B r P en σ H x a) (hb : RepR T B r P en σ H y b) (e : cmpR op en m a b = some c) (q : Q (.bl c) H) : rCm T.K op x y H Q := by
  unfold cmpR at e
  split at e
  · rename_i w z e1 e2
    have h1 := R.top ha e1
    have h2 := R.top hb e2
    have two : ∀ {f : Int → Int → Bool}, intCmp f w z = some c → ∃ i j, x = .int i ∧ y = .int j ∧ c = f i j := fun {f} g => by
      unfold intCmp at g
      split at g
      · cases g
        have e1 := h1.int; have e2 := h2.int
        subst e1 e2
        exact ⟨_, _, rfl, rfl, rfl⟩
      · cases g
    cases op with
    | lt => obtain ⟨i, j, rfl, rfl, rfl⟩ := two (f := fun i j => decide (i < j)) e; exact ⟨i, j, rfl, rfl, q⟩
    | le => obtain ⟨i, j, rfl, rfl, rfl⟩ := two (f := fun i j => decide (i ≤ j)) e; exact ⟨i, j, rfl, rfl, q⟩
    | gt =>
      dsimp only at e
      split at e
      · cases e
        have g1 := h1.int; have g2 := h2.int
        subst g1 g2
        exact .inl ⟨_, _, rfl, rfl, q⟩
      · right
        unfold gtD at e
        split at e
        · rename_i d1 d2 p1 p2
          split at e
          · rename_i hc
            simp only [Bool.and_eq_true, decide_eq_true_eq, Bool.not_eq_true'] at hc
            cases e
            exact ⟨d1, d2, pd_dp R.s _ h1 p1, pd_dp R.s _ h2 p2, hc.1.1, fun z => by rw [z] at hc; exact absurd hc.1.2 (by decide), hc.2, q⟩
          · cases e
        · cases e
    | ge => obtain ⟨i, j, rfl, rfl, rfl⟩ := two (f := fun i j => decide (j ≤ i)) e; exact ⟨i, j, rfl, rfl, q⟩
    | is =>
      rcases isW_val h1 h2 e with ⟨g1, g2⟩ | ⟨k1, k2, g1, g2, g3⟩
      · rw [g2] at q; exact .inl ⟨g1, q⟩
      · rw [g3] at q; exact .inr ⟨k1, k2, g1, g2, q⟩
    | isn =>
      dsimp only at e
      cases g : isW w z with
      | none => rw [g] at e; cases e
      | some k =>
        rw [g] at e
        simp only [Option.map_some, Option.some.injEq] at e
        subst e
        rcases isW_val h1 h2 g with ⟨g1, g2⟩ | ⟨k1, k2, g1, g2, g3⟩
        · rw [g2] at q; exact .inl ⟨g1, q⟩
        · rw [g3] at q; exact .inr ⟨k1, k2, g1, g2, q⟩
    | mem =>
      rcases memW_val R.s h1 h2 e with ⟨p, xs, g1, g2, g3, g4, g5⟩ | ⟨k, s, g1, g2, g3⟩
      · rw [g5] at q; exact .inl ⟨p, xs, g1, g2, g3, g4, q⟩
      · rw [g3] at q; exact .inr ⟨k, s, g1, g2, q⟩
    | nmem =>
      dsimp only at e
      cases g : memW m w z with
      | none => rw [g] at e; cases e
      | some k =>
        rw [g] at e
        simp only [Option.map_some, Option.some.injEq] at e
        subst e
        rcases memW_val R.s h1 h2 g with ⟨p, xs, g1, g2, g3, g4, g5⟩ | ⟨k, s, g1, g2, g3⟩
        · rw [g5] at q; exact .inl ⟨p, xs, g1, g2, g3, g4, q⟩
        · rw [g3] at q; exact .inr ⟨k, s, g1, g2, q⟩
    | eq =>
      dsimp only at e
      split at e
      · rename_i d1 d2 g1 g2
        split at e
        · rename_i g
          rw [Bool.and_eq_true] at g
          cases e
          exact ⟨d1, d2, pd_dp R.s _ h1 g1, pd_dp R.s _ h2 g2, g.1, g.2, q⟩
        · cases e
      · cases e
    | ne =>
      dsimp only at e
      split at e
      · rename_i d1 d2 g1 g2
        split at e
        · rename_i g
          rw [Bool.and_eq_true] at g
          cases e
          exact ⟨d1, d2, pd_dp R.s _ h1 g1, pd_dp R.s _ h2 g2, g.1, g.2, q⟩
        · cases e
      · cases e
  · cases e
/-! ### items, cuts -/
theorem RepL.atI {vs : List V} {ws : List W} {i : Int} {w : W} (l : RepL T B r vs ws) (e : L2.atI ws i = some w) : ∃ v, L2.atI vs i = some v ∧ Rep T B r v w := by
  unfold L2.atI at e ⊢
  rw [l.len]
  cases q : ixN ws.length i with
  | none => rw [q] at e; cases e
  | some j =>
    rw [q] at e
    exact l.get e
theorem idx_ok {w : W} {Q : VK} (R : Rel T B r P m en σ H) (ha : RepR T B r P en σ H x a) (hb : RepR T B r P en σ H y b) (e : idxR en m a b = some w) (q : ∀ v, Rep T B r v w → Q v H) : rIx T.K x y H Q := by
  unfold idxR at e
  split at e
  · rename_i u z e1 e2
    have h1 := R.top ha e1
    have h2 := R.top hb e2
    split at e
    · rename_i s i
      split at e
      · rename_i hl
        cases g : L2.atI s.cps.toList i with
        | none => rw [g] at e; cases e
        | some c =>
          rw [g] at e
          simp only [Option.map_some, Option.some.injEq] at e
          subst e
          have f1 := h1.str; have f2 := h2.int
          subst f1 f2
          exact .inr (.inr ⟨s, i, c, rfl, rfl, lim_line hl, g, q _ (.str _)⟩)
      · cases e
    · rename_i u2 i _
      cases g : seqW m u with
      | none => rw [g] at e; cases e
      | some ws =>
        rw [g] at e
        have f2 := h2.int
        subst f2
        obtain ⟨p, vs, rfl, d, l⟩ := RepT.seq R.s h1 g
        obtain ⟨v, g2, rv⟩ := l.atI e
        rcases d with d | d
        · exact .inl ⟨p, vs, i, v, rfl, rfl, d, g2, q v rv⟩
        · exact .inr (.inl ⟨p, vs, i, v, rfl, rfl, d, g2, q v rv⟩)
    · cases e
  · cases e
theorem RepL.cut {vs : List V} {ws : List W} (l : RepL T B r vs ws) (lo hi : Option Int) : RepL T B r (cutV vs lo hi) (cutL ws lo hi) := by
  unfold cutV cutL
  rw [l.len]
  exact (l.drop _).take _
end
end Mp

set_option Elab.async false
set_option linter.all false
set_option maxRecDepth 100000
set_option maxHeartbeats 4000000
namespace Mp
open PySem PySem.Spec PyProof.Rows L2

section
variable {T : Tab} {xc : Nat → Value} {S : Sta} {cs : Nat → List W → Sto → CR} {gl : List W} {k : Nat} {N : List Str} {fb : Str → Bool} {sc : Scope} {Wx : WX} {X : Cx}
theorem blR_some {x : RV} {b : Bool} (h : blR x = some b) : x = .val (.bl b) := by
  cases x with
  | val w => cases w <;> simp_all [blR]
  | _ => simp [blR] at h
theorem intR_some {x : RV} {b : Int} (h : intR x = some b) : x = .val (.int b) := by
  cases x with
  | val w => cases w <;> simp_all [intR]
  | _ => simp [intR] at h
theorem int1_some {ws : List W} {b : Int} (h : int1 ws = some b) : ws = [.int b] := by
  unfold int1 at h
  split at h
  · cases h; rfl
  · cases h
/-- a value that is a truth value, as a test -/
theorem SBG.tB {f : En → Sto → R RV} {σ : Slo} {H : Hp} {Q : Bool → Hp → Prop} (h : SBG T xc Wx f σ H Q) : L2.tB (SG T xc Wx f) σ H Q := by
  obtain ⟨B, r, P, m, en, R, q⟩ := h
  refine ⟨B, r, P, m, en, R, q.imp fun x en m B2 r2 H2 _ _ z v hv => ?_⟩
  obtain ⟨b, e, z⟩ := z
  have e := blR_some e
  subst e
  cases hv
  exact ⟨b, rfl, z⟩
theorem SBG.tTest {f : En → Sto → R RV} {σ : Slo} {H : Hp} {Q : Bool → Hp → Prop} (h : SBG T xc Wx f σ H Q) : L2.tTest (SG T xc Wx f) σ H Q := SBG.tB h
/-- a result of an evaluation, told -/
theorem SG.go {f : En → Sto → R RV} {B P : Hp} {r : List Addr} {m : Sto} {en : En} {σ : Slo} {H : Hp} {Q : VK} (R : Rel T B r P m en σ H)
    (h : PostG T xc Wx P σ B r (f en m) fun x en m B2 r2 H2 => ∀ v, RepR T B2 r2 P en σ H2 v x → Q v H2) : SG T xc Wx f σ H Q := ⟨B, r, P, m, en, R, h⟩
/-- two operands, both held: what the operation asks -/
theorem SG.two {a b : E} {B P : Hp} {r : List Addr} {m : Sto} {en : En} {σ : Slo} {H : Hp} {K : V → V → Hp → Prop} {A : Type} {f : RV → RV → En → Sto → R A} {g : A → En → Sto → Hp → List Addr → Hp → Prop} (R : Rel T B r P m en σ H)
    (h : PostG T xc Wx P σ B r ((ev cs gl a en m).bind fun x en m => (ev cs gl b en m).bind fun y en m => f (hold x) (hold y) en m) g)
    (q : ∀ x y v u en m B2 r2 H2, Rel T B2 r2 P m en σ H2 → RepR T B2 r2 P en σ H2 v (hold x) → RepR T B2 r2 P en σ H2 u (hold y) → PostG T xc Wx P σ B2 r2 (f (hold x) (hold y) en m) g → K v u H2) :
    SE T xc cs gl Wx a σ H fun v H1 => SE T xc cs gl Wx b σ H1 fun u H2 => K v u H2 := by
  refine SG.go R (h.bind fun x en1 m1 B1 r1 H1 e1 R1 h1 v hv => ?_)
  obtain ⟨B2, e2, R2, hv2⟩ := R1.hold hv
  refine SG.go R2 ((PostG.mono e2 h1).bind fun y en3 m3 B3 r3 H3 e3 R3 h3 u hu => ?_)
  obtain ⟨B4, e4, R4, hu4⟩ := R3.hold hu
  exact q x y v u en3 m3 B4 r3 H3 R4 ((hv2.held (P2 := P) (en3 := en3) (H3 := H3) e3.sub e3.pre).held e4.sub e4.pre) hu4 (PostG.mono e4 h3)
/-- an expression's two readings -/
structure Snd (T : Tab) (xc : Nat → Value) (cs : Nat → List W → Sto → CR) (gl : List W) (Wx : WX) (X : Cx) (e : E) (p : Expr) : Prop where
  pe : PE X p (SE T xc cs gl Wx e)
  pt : isIte e = false → PT X p (SB T xc cs gl Wx e)
theorem Snd.val {e : E} {p : Expr} (h : PE X p (SE T xc cs gl Wx e)) (he : ∀ whole, isTrue p X.env whole = (do let v ← whole; standAt p.pos; holding [v] (truthy v))) : Snd T xc cs gl Wx X e p :=
  ⟨h, fun _ => (pt_val h he).imp fun _ _ _ z => SBG.tB z⟩

theorem CxOk.name (C : CxOk T xc S cs gl k N fb sc Wx X) {j : Nat} {x : Str} (h : (N[j]? == some x) = true) : X.N[j]? = some x := by rw [C.eN]; exact eq_of_beq h
theorem snd_var (C : CxOk T xc S cs gl k N fb sc Wx X) {j : Nat} {p : Expr} (h : okE S N fb sc (.var j) p = true) : Snd T xc cs gl Wx X (.var j) p := by
  unfold okE at h
  split at h
  · rename_i x pos
    simp only [Bool.and_eq_true] at h
    obtain ⟨⟨h1, h2⟩, h3⟩ := h
    obtain ⟨d1, d2, _⟩ := pl_of h3
    refine .val ((pe_var (C.name h1) (by rw [C.es]; exact vis_of h2) d1 d2).imp fun σ H Q z => ?_) fun _ => rfl
    obtain ⟨B, r, P, m, en, R, q⟩ := z
    simp only [ev] at q
    split at q
    · rename_i w e
      obtain ⟨v, h4, h5⟩ := R.e.sl j _ (enGet_some e)
      exact ⟨v, h4, q.fin R v h5⟩
    · rename_i ws e
      obtain ⟨v, h4, h5⟩ := R.e.sl j _ (enGet_some e)
      exact ⟨v, h4, q.fin R v h4⟩
    · exact q.elim
  · cases h
theorem snd_glob (C : CxOk T xc S cs gl k N fb sc Wx X) {g : Nat} {p : Expr} (h : okE S N fb sc (.glob g) p = true) : Snd T xc cs gl Wx X (.glob g) p := by
  unfold okE at h
  split at h
  · rename_i x pos
    simp only [Bool.and_eq_true] at h
    obtain ⟨⟨h1, h2⟩, h3⟩ := h
    obtain ⟨d1, d2, d3⟩ := pl_of h3
    obtain ⟨v, u, w, g1, g2, g3, g4⟩ := C.md.gls g x (eq_of_beq h1)
    refine .val ((pe_glob (gl_of C.es h2) g1 g2 d1).imp fun σ H Q z => ?_) fun _ => rfl
    obtain ⟨B, r, P, m, en, R, q⟩ := z
    simp only [ev, g3, Mp.opt] at q
    exact q.fin R v (g4 B r)
  · cases h
theorem snd_bin (C : CxOk T xc S cs gl k N fb sc Wx X) {op : Op} {a b : E} {pa pb : Expr} {o : Operator} {pos : Pos} (h : opB op o = true) (ha : PE X pa (SE T xc cs gl Wx a)) (hb : PE X pb (SE T xc cs gl Wx b)) :
    PE X (.BinOp pa o pb pos) (SE T xc cs gl Wx (.bin op a b)) := by
  refine (pe_op (opR_of h) ha hb).imp fun σ H Q z => ?_
  rw [C.eK]
  obtain ⟨B, r, P, m, en, R, q⟩ := z
  simp only [ev] at q
  refine SG.two (f := fun x y en m => Mp.opt (binR op en m x y) fun c => .ok c en m) R q fun x y v u en2 m2 B2 r2 H2 R2 hv hu q2 => ?_
  obtain ⟨c, e, q3⟩ := q2.opt
  exact bin_ok R2 hv hu e fun w B3 H3 e3 R3 hw => q3 B3 r2 H3 e3 R3 w hw
theorem snd_cmp (C : CxOk T xc S cs gl k N fb sc Wx X) {op : Cm} {a b : E} {pa pb : Expr} {o : CmpOp} {pos : Pos} (h : cmB op o = true) (hs : setB pb = false) (ha : PE X pa (SE T xc cs gl Wx a)) (hb : PE X pb (SE T xc cs gl Wx b)) :
    Snd T xc cs gl Wx X (.cmp op a b) (.Compare pa [o] [pb] pos) := by
  have rd : ∀ σ H Q, SE T xc cs gl Wx (.cmp op a b) σ H Q → tOp (rCm X.K op) (SE T xc cs gl Wx a) (SE T xc cs gl Wx b) σ H Q := fun σ H Q z => by
    obtain ⟨B, r, P, m, en, R, q⟩ := z
    simp only [ev] at q
    refine SG.two (f := fun x y en m => Mp.opt (cmpR op en m x y) fun c => .ok (RV.val (W.bl c)) en m) R q fun x y v u en2 m2 B2 r2 H2 R2 hv hu q2 => ?_
    obtain ⟨c, e, q3⟩ := q2.opt
    rw [C.eK]
    exact cmp_ok R2 hv hu e (q3.fin R2 _ (.bl c))
  have hu := C.un
  refine ⟨(pe_cmpR (cmR_of h hu) ha hb (noSet_of hs)).imp rd, fun _ => (pt_cmpR (cmR_of h hu) ha hb (noSet_of hs)).imp fun σ H Q z => ?_⟩
  exact rd σ H _ (SBG.tTest z)
theorem snd_chain (C : CxOk T xc S cs gl k N fb sc Wx X) {op op2 : Cm} {a b c : E} {pa pb pc : Expr} {o o2 : CmpOp} {pos : Pos} (h : cmB op o = true) (h2 : cmB op2 o2 = true) (hs2 : setB pc = false)
    (ha : PE X pa (SE T xc cs gl Wx a)) (hb : PE X pb (SE T xc cs gl Wx b)) (hc : PE X pc (SE T xc cs gl Wx c)) :
    Snd T xc cs gl Wx X (.chain op op2 a b c) (.Compare pa [o, o2] [pb, pc] pos) := by
  have rd : ∀ σ H Q, SE T xc cs gl Wx (.chain op op2 a b c) σ H Q → tChain (rCm X.K op) (rCm X.K op2) (SE T xc cs gl Wx a) (SE T xc cs gl Wx b) (SE T xc cs gl Wx c) σ H Q := fun σ H Q z => by
    obtain ⟨B, r, P, m, en, R, q⟩ := z
    simp only [ev] at q
    refine SG.two (f := fun x y en m => Mp.opt (cmpR op en m x y) fun t => if t = true then (ev cs gl c en m).bind fun z en m => Mp.opt (cmpR op2 en m y (hold z)) fun r => .ok (RV.val (W.bl r)) en m else .ok (RV.val (W.bl false)) en m)
      R q fun x y v u en2 m2 B2 r2 H2 R2 hv hu q2 => ?_
    obtain ⟨t, e, q3⟩ := q2.opt
    rw [C.eK]
    refine cmp_ok R2 hv hu e ⟨t, rfl, ?_⟩
    cases t with
    | false =>
      rw [if_neg Bool.false_ne_true] at q3
      exact iteF (q3.fin R2 _ (.bl false))
    | true =>
      rw [if_pos rfl] at q3
      refine iteT (SG.go R2 (q3.bind fun z en4 m4 B4 r4 H4 e4 R4 h4 w hw => ?_))
      obtain ⟨B5, e5, R5, hw5⟩ := R4.hold hw
      obtain ⟨t2, g, q5⟩ := (PostG.mono e5 h4).opt
      exact cmp_ok R5 ((hu.held (P2 := P) (en3 := en4) (H3 := H4) e4.sub e4.pre).held e5.sub e5.pre) hw5 g (q5.fin R5 _ (.bl t2))
  have hu := C.un
  have hm : lastMarks [o, o2] [pb, pc] = false := by
    show behindInMarks o2 pc = false
    exact noSet_of hs2
  refine ⟨(pe_chain (cmR_of h hu) (cmR_of h2 hu) ha hb hc hm).imp rd, fun _ => (pt_chain (cmR_of h hu) (cmR_of h2 hu) ha hb hc hm).imp fun σ H Q z => ?_⟩
  exact rd σ H _ (SBG.tTest z)
theorem snd_neg {a : E} {pa : Expr} {pos : Pos} (ha : PE X pa (SE T xc cs gl Wx a)) : PE X (.UnaryOp .USub pa pos) (SE T xc cs gl Wx (.neg a)) := by
  refine (pe_un un_neg ha).imp fun σ H Q z => ?_
  obtain ⟨B, r, P, m, en, R, q⟩ := z
  simp only [ev] at q
  refine SG.go R (q.bind fun x en1 m1 B1 r1 H1 e1 R1 h1 v hv => ?_)
  obtain ⟨i, e, h2⟩ := h1.opt
  have e := intR_some e
  subst e
  cases hv
  exact ⟨i, rfl, h2.fin R1 _ (.int _)⟩
theorem snd_not {a : E} {pa : Expr} {pos : Pos} (ha : Snd T xc cs gl Wx X a pa) (hi : isIte a = false) : Snd T xc cs gl Wx X (.not a) (.UnaryOp .Not pa pos) := by
  refine ⟨(pe_not ha.pe).imp fun σ H Q z => ?_, fun _ => (pt_not (ha.pt hi)).imp fun σ H Q z => ?_⟩
  · obtain ⟨B, r, P, m, en, R, q⟩ := z
    simp only [ev] at q
    refine SG.go R (q.bind fun x en1 m1 B1 r1 H1 e1 R1 h1 v hv => ?_)
    obtain ⟨i, e, h2⟩ := h1.opt
    have e := blR_some e
    subst e
    cases hv
    exact ⟨i, rfl, h2.fin R1 _ (.bl _)⟩
  · obtain ⟨B, r, P, m, en, R, q⟩ := z
    simp only [ev] at q
    refine ⟨B, r, P, m, en, R, q.bind fun x en1 m1 B1 r1 H1 e1 R1 h1 => ?_⟩
    obtain ⟨i, e, h2⟩ := h1.opt
    obtain ⟨b, e2, h3⟩ := h2.fin R1
    cases e2
    exact ⟨i, e, h3⟩
theorem snd_ite {c a b : E} {pc pa pb : Expr} {pos : Pos} (hc : PT X pc (SB T xc cs gl Wx c)) (ha : PE X pa (SE T xc cs gl Wx a)) (hb : PE X pb (SE T xc cs gl Wx b)) : Snd T xc cs gl Wx X (.ite c a b) (.IfExp pc pa pb pos) := by
  refine ⟨(pe_ifExp hc ha hb).imp fun σ H Q z => ?_, fun h => nomatch h⟩
  obtain ⟨B, r, P, m, en, R, q⟩ := z
  simp only [ev] at q
  refine ⟨B, r, P, m, en, R, q.bind fun x en1 m1 B1 r1 H1 e1 R1 h1 => ?_⟩
  obtain ⟨t, e, h2⟩ := h1.opt
  refine ⟨t, e, ?_⟩
  cases t with
  | true => rw [if_pos rfl] at h2; exact iteT (SG.go R1 h2)
  | false => rw [if_neg Bool.false_ne_true] at h2; exact iteF (SG.go R1 h2)
/-- what SA asks of one more argument -/
theorem snd_args {a es : E} {q : Expr} {qs : List Expr} (hn : noStar q = true) (ha : PE X q (SE T xc cs gl Wx a)) (hs : PA X qs (SA T xc cs gl Wx es)) : PA X (q :: qs) (SA T xc cs gl Wx (.cons a es)) := by
  refine (pa_cons ha hs (star_of hn)).imp fun σ H Q z => ?_
  obtain ⟨B, r, P, m, en, R, g⟩ := z
  simp only [evs] at g
  refine SG.go R (g.bind fun x en1 m1 B1 r1 H1 e1 R1 h1 v hv => ?_)
  obtain ⟨w, en2, e, h2⟩ := h1.opt2
  obtain ⟨B2, e2, R2, hw⟩ := R1.esc hv e
  refine ⟨B2, r1, P, m1, en2, R2, (PostG.mono e2 h2).bind fun ws en3 m3 B3 r3 H3 e3 R3 h3 vs hvs => ?_⟩
  exact h3.fin R3 (v :: vs) (.cons (hw.mono e3.sub e3.pre) hvs)
theorem snd_nil : PA X [] (SA T xc cs gl Wx .nil) := by
  refine pa_nil.imp fun σ H Q z => ?_
  obtain ⟨B, r, P, m, en, R, g⟩ := z
  simp only [evs] at g
  exact g.fin R [] .nil
theorem snd_lst {es : E} {ps : List Expr} {pos : Pos} (h : PA X ps (SA T xc cs gl Wx es)) : PE X (.List ps pos) (SE T xc cs gl Wx (.lst es)) := by
  refine (pe_lst h).imp fun σ H Q z => ?_
  obtain ⟨B, r, P, m, en, R, g⟩ := z
  simp only [ev] at g
  refine ⟨B, r, P, m, en, R, g.bind fun ws en1 m1 B1 r1 H1 e1 R1 h1 vs hvs => ?_⟩
  obtain ⟨hl, h2⟩ := h1.ifp
  refine ⟨lim_line (hvs.len_le hl), fun p hp => ?_⟩
  exact h2 B1 r1 _ Ext.refl (R1.grow (Sub.new hp)) _ (R1.new_own hp hvs)
theorem snd_tup {es : E} {ps : List Expr} {n : Nat} {pos : Pos} (h : PA X ps (SA T xc cs gl Wx es)) : PE X (.Tuple ps n pos) (SE T xc cs gl Wx (.tup es)) := by
  refine (pe_tup h).imp fun σ H Q z => ?_
  obtain ⟨B, r, P, m, en, R, g⟩ := z
  simp only [ev] at g
  refine ⟨B, r, P, m, en, R, g.bind fun ws en1 m1 B1 r1 H1 e1 R1 h1 vs hvs => ?_⟩
  obtain ⟨hl, h2⟩ := h1.ifp
  refine ⟨lim_line (hvs.len_le hl), fun p hp => ?_⟩
  obtain ⟨B2, e2, R2, hb⟩ := R1.new_frz (o := .tup vs) hp
  exact h2 B2 r1 _ e2 R2 _ (.tup (.inl (.inl hb)) (hvs.mono e2.sub e2.pre))
theorem snd_idx (C : CxOk T xc S cs gl k N fb sc Wx X) {a i : E} {pa pi : Expr} {pos : Pos} (hp : plainIxB pi = true) (ha : PE X pa (SE T xc cs gl Wx a)) (hi : PE X pi (SE T xc cs gl Wx i)) : PE X (.Subscript pa pi pos) (SE T xc cs gl Wx (.idx a i)) := by
  refine (pe_ix ix_seq ha hi (plainIx_of hp)).imp fun σ H Q z => ?_
  obtain ⟨B, r, P, m, en, R, q⟩ := z
  simp only [ev] at q
  refine SG.two (f := fun x y en m => Mp.opt (idxR en m x y) fun c => .ok (RV.val c) en m) R q fun x y v u en2 m2 B2 r2 H2 R2 hv hu q2 => ?_
  obtain ⟨c, e, q3⟩ := q2.opt
  rw [C.eK]
  exact idx_ok R2 hv hu e fun w hw => q3.fin R2 w hw
/-- an end of a cut -/
def SO (T : Tab) (xc : Nat → Value) (cs : Nat → List W → Sto → CR) (gl : List W) (Wx : WX) (e : E) : TO := fun σ H Q => ∃ B r P m en, Rel T B r P m en σ H ∧
  PostG T xc Wx P σ B r (if isNil e then .ok none en m else (ev cs gl e en m).bind fun y en m => Mp.opt (intR y) fun i => .ok (some i) en m) fun o en m B2 r2 H2 => Q o H2
theorem snd_part {e : E} {l : Option Expr} (h : match l with
    | none => isNil e = true
    | some q => isNil e = false ∧ PE X q (SE T xc cs gl Wx e)) : PO X l (SO T xc cs gl Wx e) := by
  cases l with
  | none =>
    refine ⟨fun pins s σ H Q I z => po_none.run pins s σ H Q I ?_⟩
    obtain ⟨B, r, P, m, en, R, g⟩ := z
    rw [if_pos h] at g
    exact g.fin R
  | some q =>
    refine ⟨fun pins s σ H Q I z => (po_some h.2).run pins s σ H Q I ?_⟩
    obtain ⟨B, r, P, m, en, R, g⟩ := z
    rw [if_neg (by rw [h.1]; simp)] at g
    refine SG.go R (g.bind fun x en1 m1 B1 r1 H1 e1 R1 h1 v hv => ?_)
    obtain ⟨i, e, h2⟩ := h1.opt
    have e := intR_some e
    subst e
    cases hv
    exact ⟨i, rfl, h2.fin R1⟩
theorem snd_slc (C : CxOk T xc S cs gl k N fb sc Wx X) {a lo hi : E} {pa : Expr} {l h : Option Expr} {pos p2 : Pos} (ha : PE X pa (SE T xc cs gl Wx a)) (hl : PO X l (SO T xc cs gl Wx lo)) (hh : PO X h (SO T xc cs gl Wx hi)) :
    PE X (.Subscript pa (.Slice l h none p2) pos) (SE T xc cs gl Wx (.slc a lo hi)) := by
  refine (pe_slice sl_list ha hl hh).imp fun σ H Q z => ?_
  obtain ⟨B, r, P, m, en, R, q⟩ := z
  simp only [ev] at q
  refine SG.go R (q.bind fun x en1 m1 B1 r1 H1 e1 R1 h1 v hv => ?_)
  obtain ⟨B2, e2, R2, hv2⟩ := R1.hold hv
  refine ⟨B2, r1, P, m1, en1, R2, (PostG.mono e2 h1).bind fun o3 en3 m3 B3 r3 H3 e3 R3 h3 => ?_⟩
  refine ⟨B3, r3, P, m3, en3, R3, h3.bind fun o4 en4 m4 B4 r4 H4 e4 R4 h4 => ?_⟩
  obtain ⟨ws, e, h5⟩ := h4.opt
  have hv4 := (hv2.held (P2 := P) (en3 := en3) (H3 := H3) e3.sub e3.pre).held (P2 := P) (en3 := en4) (H3 := H4) e4.sub e4.pre
  cases g : rvW en4 (hold x) with
  | none => rw [g] at e; cases e
  | some w =>
    rw [g] at e
    obtain ⟨p, vs, rfl, d, l⟩ := RepT.lsts R4.s (R4.top hv4 g) e
    refine ⟨p, vs, rfl, by rw [C.eK]; exact d, fun q hq => ?_⟩
    exact h5 B4 r4 _ Ext.refl (R4.grow (Sub.new hq)) _ (R4.new_own hq (l.cut o3 o4))
theorem snd_rev (C : CxOk T xc S cs gl k N fb sc Wx X) {a es : E} {pa : Expr} {kk : Nat} {p1 p2 p3 pos : Pos} (ha : PE X pa (SE T xc cs gl Wx a)) :
    PE X (.Subscript pa (.Slice none none (some (.UnaryOp .USub (.Constant (.int 1) kk p1) p2)) p3) pos) (SE T xc cs gl Wx (.mth .rev a es)) := by
  refine (pe_revL ha).imp fun σ H Q z => ?_
  obtain ⟨B, r, P, m, en, R, q⟩ := z
  simp only [ev] at q
  refine SG.go R (q.bind fun x en1 m1 B1 r1 H1 e1 R1 h1 v hv => ?_)
  obtain ⟨ws, e, h5⟩ := h1.opt
  obtain ⟨B2, e2, R2, hv2⟩ := R1.hold hv
  have h5 := PostG.mono e2 h5
  cases g : rvW en1 (hold x) with
  | none => rw [g] at e; cases e
  | some w =>
    rw [g] at e
    obtain ⟨p, vs, rfl, d, l⟩ := RepT.lsts R2.s (R2.top hv2 g) e
    refine ⟨p, vs, rfl, by rw [C.eK]; exact d, fun q hq => ?_⟩
    exact h5 B2 r1 _ Ext.refl (R2.grow (Sub.new hq)) _ (R2.new_own hq l.rev)
theorem snd_call (C : CxOk T xc S cs gl k N fb sc Wx X) (hcB : S.cB = true) {f n : Nat} {x : Str} {es : E} {q : Expr} {qs : List Expr} {p pos : Pos} (hf : S.fns[f]? = some (some x, n)) (hg : glB sc x = true) (hp : plB x = true) (hn : okEs S N fb sc es (q :: qs) = true)
    (ha : PA X (q :: qs) (SA T xc cs gl Wx es)) : PE X (.Call (.Name x p) (q :: qs) [] pos) (SE T xc cs gl Wx (.call f n es)) := by
  obtain ⟨fd, ps, g1, g2, g3, g4⟩ := C.md.fns f (some x) n hf
  have g1 := g1 x rfl
  obtain ⟨d1, _, _⟩ := pl_of hp
  have star : ∀ {es : E} {ps : List Expr}, okEs S N fb sc es ps = true → ∀ r ∈ ps, noStar r = true := by
    intro es
    induction es with
    | nil => intro ps h; unfold okEs at h; split at h
             · simp
             · cases h
    | cons a es _ ih =>
      intro ps h
      unfold okEs at h
      split at h
      · simp only [Bool.and_eq_true] at h
        intro r hr
        rcases List.mem_cons.mp hr with e | e
        · rw [e]; exact h.1.1
        · exact ih h.2 r e
      · cases h
    | _ => intro ps h; simp [okEs] at h
  have st := star hn
  have hst : starEach (q :: qs) X.env = (false, eval q X.env) :: starEach qs X.env := star_of (st q (List.mem_cons_self))
  have hpl : (backTo pos (starEach qs X.env)).any (·.1) = false := back_no fun r hr => st r (List.mem_cons_of_mem _ hr)
  have F : FnOk X.prog X.w X.K X.mg X.base (L2.CX X.prog X.w) (2 * k) (T.fa f) fd ps (spF T xc cs f n) := by rw [C.eK]; exact g4
  refine (pe_callS F ((C.room hcB).mono (by omega)) (gl_of C.es hg) g1 (by rw [C.eK]; exact g2) (by rw [C.eK]; exact g3) (passAt C.tk) ha d1 hst hpl).imp fun σ H Q z => ?_
  obtain ⟨B, r, P, m, en, R, g⟩ := z
  simp only [ev] at g
  refine ⟨B, r, P, m, en, R, g.bind fun ws en1 m1 B1 r1 H1 e1 R1 h1 vs hvs => ?_⟩
  obtain ⟨hl, h1⟩ := h1.ifp
  refine ⟨hvs.len.trans hl, B1, r1, outP r1 H1, m1, ws, R1.s.out, hvs, ?_⟩
  revert h1
  cases cs f ws m1 with
  | ok a m2 =>
    intro h1 v B2 r2 H2 e2 S2 hv
    obtain ⟨e3, R3⟩ := R1.back e2 S2
    exact h1 B2 r2 H2 e3 R3 v (R1.back_new S2 hv)
  | ex c m2 =>
    intro h1 B2 r2 H2 e2 S2
    obtain ⟨e3, R3⟩ := R1.back e2 S2
    exact h1 B2 r2 H2 e3 R3
  | bad => intro h1; exact h1
end
end Mp

set_option Elab.async false
set_option linter.all false
set_option maxRecDepth 100000
set_option maxHeartbeats 4000000
namespace Mp
open PySem PySem.Spec PyProof.Rows L2

section
variable {T : Tab} {xc : Nat → Value} {S : Sta} {cs : Nat → List W → Sto → CR} {gl : List W} {k : Nat} {N : List Str} {fb : Str → Bool} {sc : Scope} {Wx : WX} {X : Cx}
/-! ### and, or -/
theorem snd_andl {a es : E} {p q : Expr} {qs : List Expr} {pos : Pos} (hi : isIte a = false) (hn : isNil es = false) (ha : Snd T xc cs gl Wx X a p)
    (hv : PE X (.BoolOp .And (q :: qs) pos) (SG T xc Wx (evAnd cs gl es))) (ht : PW X (.BoolOp .And (q :: qs) pos) (SBG T xc Wx (evAnd cs gl es))) :
    PE X (.BoolOp .And (p :: q :: qs) pos) (SG T xc Wx (evAnd cs gl (.cons a es))) ∧ PW X (.BoolOp .And (p :: q :: qs) pos) (SBG T xc Wx (evAnd cs gl (.cons a es))) := by
  have un : ∀ en m, evAnd cs gl (.cons a es) en m = (ev cs gl a en m).bind fun x en m => opt (blR x) fun t => if t then evAnd cs gl es en m else .ok (.val (.bl false)) en m := fun en m => by
    cases es with
    | nil => cases hn
    | _ => simp only [evAnd]
  refine ⟨(pe_and ha.pe hv).imp fun σ H Q z => ?_, (pw_and (ha.pt hi) ht).imp fun σ H Q z => ?_⟩
  · obtain ⟨B, r, P, m, en, R, g⟩ := z
    rw [un] at g
    refine SG.go R (g.bind fun x en1 m1 B1 r1 H1 e1 R1 h1 v hv => ?_)
    obtain ⟨t, e, h2⟩ := h1.opt
    have e := blR_some e
    subst e
    cases hv
    refine ⟨t, rfl, ?_⟩
    cases t with
    | true => rw [if_pos rfl] at h2; exact iteT (SG.go R1 h2)
    | false => rw [if_neg Bool.false_ne_true] at h2; exact iteF (h2.fin R1 _ (.bl false))
  · obtain ⟨B, r, P, m, en, R, g⟩ := z
    rw [un] at g
    refine ⟨B, r, P, m, en, R, g.bind fun x en1 m1 B1 r1 H1 e1 R1 h1 => ?_⟩
    obtain ⟨t, e, h2⟩ := h1.opt
    refine ⟨t, e, ?_⟩
    cases t with
    | true => rw [if_pos rfl] at h2; exact iteT ⟨B1, r1, P, m1, en1, R1, h2⟩
    | false =>
      rw [if_neg Bool.false_ne_true] at h2
      obtain ⟨b, e2, h3⟩ := h2.fin R1
      cases e2
      exact iteF h3
theorem snd_orl {a es : E} {p q : Expr} {qs : List Expr} {pos : Pos} (hi : isIte a = false) (hn : isNil es = false) (ha : Snd T xc cs gl Wx X a p)
    (hv : PE X (.BoolOp .Or (q :: qs) pos) (SG T xc Wx (evOr cs gl es))) (ht : PW X (.BoolOp .Or (q :: qs) pos) (SBG T xc Wx (evOr cs gl es))) :
    PE X (.BoolOp .Or (p :: q :: qs) pos) (SG T xc Wx (evOr cs gl (.cons a es))) ∧ PW X (.BoolOp .Or (p :: q :: qs) pos) (SBG T xc Wx (evOr cs gl (.cons a es))) := by
  have un : ∀ en m, evOr cs gl (.cons a es) en m = (ev cs gl a en m).bind fun x en m => opt (blR x) fun t => if t then .ok (.val (.bl true)) en m else evOr cs gl es en m := fun en m => by
    cases es with
    | nil => cases hn
    | _ => simp only [evOr]
  refine ⟨(pe_or ha.pe hv).imp fun σ H Q z => ?_, (pw_or (ha.pt hi) ht).imp fun σ H Q z => ?_⟩
  · obtain ⟨B, r, P, m, en, R, g⟩ := z
    rw [un] at g
    refine SG.go R (g.bind fun x en1 m1 B1 r1 H1 e1 R1 h1 v hv => ?_)
    obtain ⟨t, e, h2⟩ := h1.opt
    have e := blR_some e
    subst e
    cases hv
    refine ⟨t, rfl, ?_⟩
    cases t with
    | true => rw [if_pos rfl] at h2; exact iteT (h2.fin R1 _ (.bl true))
    | false => rw [if_neg Bool.false_ne_true] at h2; exact iteF (SG.go R1 h2)
  · obtain ⟨B, r, P, m, en, R, g⟩ := z
    rw [un] at g
    refine ⟨B, r, P, m, en, R, g.bind fun x en1 m1 B1 r1 H1 e1 R1 h1 => ?_⟩
    obtain ⟨t, e, h2⟩ := h1.opt
    refine ⟨t, e, ?_⟩
    cases t with
    | true =>
      rw [if_pos rfl] at h2
      obtain ⟨b, e2, h3⟩ := h2.fin R1
      cases e2
      exact iteT h3
    | false => rw [if_neg Bool.false_ne_true] at h2; exact iteF ⟨B1, r1, P, m1, en1, R1, h2⟩
theorem snd_and1 {a : E} {p : Expr} {pos : Pos} (hi : isIte a = false) (ha : Snd T xc cs gl Wx X a p) :
    PE X (.BoolOp .And [p] pos) (SG T xc Wx (evAnd cs gl (.cons a .nil))) ∧ PW X (.BoolOp .And [p] pos) (SBG T xc Wx (evAnd cs gl (.cons a .nil))) := by
  have un : ∀ en m, evAnd cs gl (.cons a .nil) en m = ev cs gl a en m := fun en m => by simp only [evAnd]
  refine ⟨(pe_one ha.pe).imp fun σ H Q z => ?_, (pw_and1 (ha.pt hi)).imp fun σ H Q z => ?_⟩
  · obtain ⟨B, r, P, m, en, R, g⟩ := z
    rw [un] at g
    exact ⟨B, r, P, m, en, R, g⟩
  · obtain ⟨B, r, P, m, en, R, g⟩ := z
    rw [un] at g
    exact ⟨B, r, P, m, en, R, g⟩
theorem snd_or1 {a : E} {p : Expr} {pos : Pos} (hi : isIte a = false) (ha : Snd T xc cs gl Wx X a p) :
    PE X (.BoolOp .Or [p] pos) (SG T xc Wx (evOr cs gl (.cons a .nil))) ∧ PW X (.BoolOp .Or [p] pos) (SBG T xc Wx (evOr cs gl (.cons a .nil))) := by
  have un : ∀ en m, evOr cs gl (.cons a .nil) en m = ev cs gl a en m := fun en m => by simp only [evOr]
  refine ⟨(pe_one ha.pe).imp fun σ H Q z => ?_, (pw_or1 (ha.pt hi)).imp fun σ H Q z => ?_⟩
  · obtain ⟨B, r, P, m, en, R, g⟩ := z
    rw [un] at g
    exact ⟨B, r, P, m, en, R, g⟩
  · obtain ⟨B, r, P, m, en, R, g⟩ := z
    rw [un] at g
    exact ⟨B, r, P, m, en, R, g⟩

/-! ### a built-in's arguments -/
inductive RepTs (T : Tab) (B : Hp) (r : List Addr) (H : Hp) : List V → List W → Prop
  | nil : RepTs T B r H [] []
  | cons {v : V} {w : W} {vs : List V} {ws : List W} : RepT T B r H v w → RepTs T B r H vs ws → RepTs T B r H (v :: vs) (w :: ws)
theorem RepL.tops {B H : Hp} {r : List Addr} : ∀ {vs : List V} {ws : List W}, RepL T B r vs ws → RepTs T B r H vs ws
  | _, _, .nil => .nil
  | _, _, .cons h l => .cons (.inl h) (RepL.tops l)
def SL (T : Tab) (xc : Nat → Value) (cs : Nat → List W → Sto → CR) (gl : List W) (Wx : WX) (es : E) : TA := fun σ H Q => ∃ B r P m en, Rel T B r P m en σ H ∧
  PostG T xc Wx P σ B r (evl cs gl es en m) fun ws en m B2 r2 H2 => ∀ vs, RepTs T B2 r2 H2 vs ws → Q vs H2
theorem snd_few {a es : E} {q : Expr} {qs : List Expr} (hn : noStar q = true) (ha : PE X q (SE T xc cs gl Wx a)) (hs : PA X qs (SA T xc cs gl Wx es)) (hq : isNil es = true → qs = []) : PA X (q :: qs) (SL T xc cs gl Wx (.cons a es)) := by
  by_cases c : isNil es = true
  · have hq := hq c
    subst hq
    cases es with
    | nil =>
      refine (pa_cons ha pa_nil (star_of hn)).imp fun σ H Q z => ?_
      obtain ⟨B, r, P, m, en, R, g⟩ := z
      simp only [evl] at g
      refine SG.go R (g.bind fun x en1 m1 B1 r1 H1 e1 R1 h1 v hv => ?_)
      obtain ⟨w, e, h2⟩ := h1.opt
      exact h2.fin R1 [v] (.cons (R1.top hv e) .nil)
    | _ => cases c
  · refine (snd_args hn ha hs).imp fun σ H Q z => ?_
    obtain ⟨B, r, P, m, en, R, g⟩ := z
    have un : ∀ en m, evl cs gl (.cons a es) en m = evs cs gl (.cons a es) en m := fun en m => by
      cases es with
      | nil => exact absurd rfl c
      | _ => simp only [evl, evs]
    rw [un] at g
    exact ⟨B, r, P, m, en, R, g.imp fun ws en2 m2 B2 r2 H2 _ _ z vs hvs => z vs hvs.tops⟩

theorem ins_perm (x : Int) : ∀ l : List Int, (insI x l).Perm (x :: l)
  | [] => .refl _
  | y :: r => by
    rw [insI]
    split
    · exact .refl _
    · exact ((ins_perm x r).cons y).trans (.swap x y r)
theorem sort_perm : ∀ l : List Int, (sortI l).Perm l
  | [] => .refl _
  | x :: r => (ins_perm x (sortI r)).trans ((sort_perm r).cons x)
theorem ins_up {x : Int} : ∀ {l : List Int}, l.Pairwise (· ≤ ·) → (insI x l).Pairwise (· ≤ ·)
  | [], _ => List.pairwise_singleton _ _
  | y :: r, h => by
    rw [List.pairwise_cons] at h
    rw [insI]
    split
    · rename_i c
      refine List.pairwise_cons.mpr ⟨fun z hz => ?_, List.pairwise_cons.mpr h⟩
      rcases List.mem_cons.mp hz with rfl | hz
      · exact c
      · exact Int.le_trans c (h.1 z hz)
    · rename_i c
      refine List.pairwise_cons.mpr ⟨fun z hz => ?_, ins_up h.2⟩
      rcases List.mem_cons.mp ((ins_perm x r).mem_iff.mp hz) with rfl | hz
      · omega
      · exact h.1 z hz
theorem sort_up : ∀ l : List Int, (sortI l).Pairwise (· ≤ ·)
  | [] => .nil
  | x :: r => ins_up (sort_up r)
theorem sort_one {l l' : List Int} (h : l'.Perm l) (u : l'.Pairwise (· ≤ ·)) : l' = sortI l :=
  List.Perm.eq_of_pairwise (le := (· ≤ ·)) (fun a b _ _ h1 h2 => Int.le_antisymm h1 h2) u (sort_up l) (h.trans (sort_perm l).symm)
theorem call_min3 {X : Cx} (hc : X.calm = true) : CallR X (.builtin "min") (fun xs H Q => ∃ i j k, xs = [.int i, .int j, .int k] ∧ Q (.int (minI [i, j, k])) H) := by
  intro pins s σ H xs us Q I r ⟨i, j, k, e, q⟩
  subst e
  obtain ⟨u1, u2, u3, rfl, ⟨t1, rfl⟩, ⟨t2, rfl⟩, ⟨t3, rfl⟩⟩ := vals3 r
  refine PySem.min_three_ints (I.ok.hd hc) fun h' tk kk => ⟨_, H, I.kept kk, ?_, q⟩
  show RelV (.int (min i (min j k))) _
  by_cases c1 : j < i <;> by_cases c2 : k < j <;> by_cases c3 : k < i <;> simp only [c1, c2, c3, if_true, if_false]
  all_goals first
    | exact ⟨_, by congr 1; omega⟩
    | (exfalso; omega)
def bltTy : Bi → Option (String × Bool)
  | .len => some ("len", false) | .list => some ("list", true) | .sum => some ("sum", false) | .max1 => some ("max", false) | .min1 => some ("min", false)
  | .max2 => some ("max", false) | .min2 => some ("min", false) | .abs => some ("abs", false) | .int => some ("int", true) | .all => some ("all", false) | .any => some ("any", false) | .sorted => some ("sorted", false) | .min3 => some ("min", false)
theorem maxI_mem : ∀ {ns : List Int}, ns ≠ [] → maxI ns ∈ ns ∧ ∀ y ∈ ns, y ≤ maxI ns
  | [], h => absurd rfl h
  | [x], _ => ⟨List.mem_singleton.mpr rfl, fun y hy => by rw [List.mem_singleton] at hy; subst hy; exact Int.le_refl _⟩
  | x :: z :: r, _ => by
    obtain ⟨h1, h2⟩ := maxI_mem (ns := z :: r) (fun e => nomatch e)
    have e : maxI (x :: z :: r) = max x (maxI (z :: r)) := rfl
    rw [e]
    refine ⟨?_, fun y hy => ?_⟩
    · by_cases c : x ≤ maxI (z :: r)
      · rw [Int.max_eq_right c]; exact List.mem_cons_of_mem _ h1
      · rw [Int.max_eq_left (by omega)]; exact List.mem_cons_self
    · rcases List.mem_cons.mp hy with c | c
      · subst c; exact Int.le_max_left _ _
      · exact Int.le_trans (h2 y c) (Int.le_max_right _ _)
theorem minI_mem : ∀ {ns : List Int}, ns ≠ [] → minI ns ∈ ns ∧ ∀ y ∈ ns, minI ns ≤ y
  | [], h => absurd rfl h
  | [x], _ => ⟨List.mem_singleton.mpr rfl, fun y hy => by rw [List.mem_singleton] at hy; subst hy; exact Int.le_refl _⟩
  | x :: z :: r, _ => by
    obtain ⟨h1, h2⟩ := minI_mem (ns := z :: r) (fun e => nomatch e)
    have e : minI (x :: z :: r) = min x (minI (z :: r)) := rfl
    rw [e]
    refine ⟨?_, fun y hy => ?_⟩
    · by_cases c : x ≤ minI (z :: r)
      · rw [Int.min_eq_left c]; exact List.mem_cons_self
      · rw [Int.min_eq_right (by omega)]; exact List.mem_cons_of_mem _ h1
    · rcases List.mem_cons.mp hy with c | c
      · subst c; exact Int.min_le_left _ _
      · exact Int.le_trans (Int.min_le_right _ _) (h2 y c)
def rBl (K : PySem.W.Frag) : Bi → List V → Hp → VK → Prop
  | .len => fun xs H Q => (∃ p ys, xs = [.ref p] ∧ (SqL K H p ys ∨ SqT K H p ys) ∧ Q (.int ys.length) H) ∨ ∃ z, xs = [.str z] ∧ z.length ≤ sizeLine ∧ Q (.int z.length) H
  | .list => fun xs H Q => ∃ p ys, xs = [.ref p] ∧ (SqL K H p ys ∨ SqT K H p ys) ∧ ∀ l, H l = none → Q (.ref l) (upd H l (.lst ys))
  | .sum => rSum K
  | .max1 => rMax K
  | .min1 => rMin K
  | .max2 => fun xs H Q => ∃ i j, xs = [.int i, .int j] ∧ Q (.int (if j > i then j else i)) H
  | .min2 => fun xs H Q => ∃ i j, xs = [.int i, .int j] ∧ Q (.int (if j < i then j else i)) H
  | .abs => fun xs H Q => ∃ i, xs = [.int i] ∧ Q (.int (if i < 0 then -i else i)) H
  | .int => fun xs H Q => (∃ i, xs = [.int i] ∧ Q (.int i) H) ∨ ∃ k, xs = [.bl k] ∧ Q (.int (if k then 1 else 0)) H
  | .all => rAll K
  | .any => rAny K
  | .sorted => rSorted K
  | .min3 => fun xs H Q => ∃ i j k, xs = [.int i, .int j, .int k] ∧ Q (.int (minI [i, j, k])) H
theorem RepTs.one {B H : Hp} {r : List Addr} {vs : List V} {w : W} (h : RepTs T B r H vs [w]) : ∃ v, vs = [v] ∧ RepT T B r H v w := by
  cases h with
  | cons h l => cases l; exact ⟨_, rfl, h⟩
theorem RepTs.two {B H : Hp} {r : List Addr} {vs : List V} {w u : W} (h : RepTs T B r H vs [w, u]) : ∃ v z, vs = [v, z] ∧ RepT T B r H v w ∧ RepT T B r H z u := by
  cases h with
  | cons h l => cases l with
    | cons h2 l => cases l; exact ⟨_, _, rfl, h, h2⟩
theorem RepTs.three {B H : Hp} {r : List Addr} {vs : List V} {w u t : W} (h : RepTs T B r H vs [w, u, t]) : ∃ v z y, vs = [v, z, y] ∧ RepT T B r H v w ∧ RepT T B r H z u ∧ RepT T B r H y t := by
  cases h with
  | cons h l => cases l with
    | cons h2 l => cases l with
      | cons h3 l => cases l; exact ⟨_, _, _, rfl, h, h2, h3⟩
theorem sql_of {K : PySem.W.Frag} {H : Hp} {a : Addr} {vs : List V} (h : SqL K H a vs ∨ SqT K H a vs) : SqL K H a vs ∨ SqT K H a vs := h
theorem blt_ok {b : Bi} {B P H : Hp} {r : List Addr} {m : Sto} {en : En} {σ : Slo} {vs : List V} {ws : List W} {c : RV} {Q : VK} (R : Rel T B r P m en σ H) (hv : RepTs T B r H vs ws) (e : bltR b m ws = some c)
    (q : ∀ v H2, Rel T B r P m en σ H2 → RepR T B r P en σ H2 v c → Q v H2) : rBl T.K b vs H Q := by
  unfold bltR at e
  split at e
  · -- len
    rename_i w
    obtain ⟨v, rfl, h⟩ := hv.one
    split at e
    · rename_i s
      split at e
      · rename_i c
        cases e
        have f := h.str
        subst f
        exact .inr ⟨s, rfl, lim_line c, q _ H R (.int _)⟩
      · cases e
    · cases g : seqW m w with
      | none => rw [g] at e; cases e
      | some ws =>
        rw [g] at e
        simp only [Option.map_some, Option.some.injEq] at e
        subst e
        obtain ⟨p, vs, rfl, d, l⟩ := RepT.seq R.s h g
        refine .inl ⟨p, vs, rfl, sql_of d, ?_⟩
        rw [l.len]
        exact q _ H R (.int _)
  · rename_i w
    obtain ⟨v, rfl, h⟩ := hv.one
    cases g : seqW m w with
    | none => rw [g] at e; cases e
    | some ws =>
      rw [g] at e
      simp only [Option.map_some, Option.some.injEq] at e
      subst e
      obtain ⟨p, vs, rfl, d, l⟩ := RepT.seq R.s h g
      exact ⟨p, vs, rfl, sql_of d, fun p2 hp => q _ _ (R.grow (Sub.new hp)) (R.new_own hp l)⟩
  · rename_i w
    obtain ⟨v, rfl, h⟩ := hv.one
    cases g : lstW m w with
    | none => rw [g] at e; cases e
    | some ws =>
      rw [g] at e
      simp only [Option.bind_some] at e
      cases g2 : intsW ws with
      | none => rw [g2] at e; cases e
      | some ns =>
        rw [g2] at e
        simp only [Option.map_some, Option.some.injEq] at e
        subst e
        obtain ⟨p, vs, rfl, d, l⟩ := RepT.lst R.s h g
        have z := l.ints g2
        subst z
        exact ⟨p, ns, rfl, .inl d, q _ H R (.int _)⟩
  · rename_i w
    obtain ⟨v, rfl, h⟩ := hv.one
    cases g : lstW m w with
    | none => rw [g] at e; cases e
    | some ws =>
      rw [g] at e
      simp only [Option.bind_some] at e
      cases g2 : intsW ws with
      | none => rw [g2] at e; cases e
      | some ns =>
        rw [g2] at e
        simp only [Option.bind_some] at e
        split at e
        · cases e
        · rename_i hne
          cases e
          obtain ⟨p, vs, rfl, d, l⟩ := RepT.lst R.s h g
          have z := l.ints g2
          subst z
          obtain ⟨m1, m2⟩ := maxI_mem hne
          refine ⟨p, ns, rfl, .inl d, List.length_pos_iff.mpr hne, fun y hy hmax => ?_⟩
          have : y = maxI ns := Int.le_antisymm (m2 y hy) (hmax _ m1)
          rw [this]
          exact q _ H R (.int _)
  · rename_i w
    obtain ⟨v, rfl, h⟩ := hv.one
    cases g : lstW m w with
    | none => rw [g] at e; cases e
    | some ws =>
      rw [g] at e
      simp only [Option.bind_some] at e
      cases g2 : intsW ws with
      | none => rw [g2] at e; cases e
      | some ns =>
        rw [g2] at e
        simp only [Option.bind_some] at e
        split at e
        · cases e
        · rename_i hne
          cases e
          obtain ⟨p, vs, rfl, d, l⟩ := RepT.lst R.s h g
          have z := l.ints g2
          subst z
          obtain ⟨m1, m2⟩ := minI_mem hne
          refine ⟨p, ns, rfl, .inl d, List.length_pos_iff.mpr hne, fun y hy hmin => ?_⟩
          have : y = minI ns := Int.le_antisymm (hmin _ m1) (m2 y hy)
          rw [this]
          exact q _ H R (.int _)
  · obtain ⟨v, z, rfl, h1, h2⟩ := hv.two
    cases e
    have f1 := h1.int; have f2 := h2.int
    subst f1 f2
    exact ⟨_, _, rfl, q _ H R (.int _)⟩
  · obtain ⟨v, z, rfl, h1, h2⟩ := hv.two
    cases e
    have f1 := h1.int; have f2 := h2.int
    subst f1 f2
    exact ⟨_, _, rfl, q _ H R (.int _)⟩
  · obtain ⟨v, rfl, h⟩ := hv.one
    cases e
    have f1 := h.int
    subst f1
    exact ⟨_, rfl, q _ H R (.int _)⟩
  · obtain ⟨v, rfl, h⟩ := hv.one
    cases e
    have f1 := h.int
    subst f1
    exact .inl ⟨_, rfl, q _ H R (.int _)⟩
  · obtain ⟨v, rfl, h⟩ := hv.one
    cases e
    have f1 := h.bl
    subst f1
    exact .inr ⟨_, rfl, q _ H R (.int _)⟩
  · rename_i w
    obtain ⟨v, rfl, h⟩ := hv.one
    cases g : lstW m w with
    | none => rw [g] at e; cases e
    | some ws =>
      rw [g] at e
      simp only [Option.bind_some] at e
      cases g2 : blsW ws with
      | none => rw [g2] at e; cases e
      | some ns =>
        rw [g2] at e
        simp only [Option.map_some, Option.some.injEq] at e
        subst e
        obtain ⟨p, vs, rfl, d, l⟩ := RepT.lst R.s h g
        have z := l.bls g2
        subst z
        exact ⟨p, ns, rfl, .inl d, q _ H R (.bl _)⟩
  · rename_i w
    obtain ⟨v, rfl, h⟩ := hv.one
    cases g : lstW m w with
    | none => rw [g] at e; cases e
    | some ws =>
      rw [g] at e
      simp only [Option.bind_some] at e
      cases g2 : blsW ws with
      | none => rw [g2] at e; cases e
      | some ns =>
        rw [g2] at e
        simp only [Option.map_some, Option.some.injEq] at e
        subst e
        obtain ⟨p, vs, rfl, d, l⟩ := RepT.lst R.s h g
        have z := l.bls g2
        subst z
        exact ⟨p, ns, rfl, .inl d, q _ H R (.bl _)⟩
  · rename_i w
    obtain ⟨v, rfl, h⟩ := hv.one
    cases g : lstW m w with
    | none => rw [g] at e; cases e
    | some ws =>
      rw [g] at e
      simp only [Option.bind_some] at e
      cases g2 : intsW ws with
      | none => rw [g2] at e; cases e
      | some ns =>
        rw [g2] at e
        simp only [Option.bind_some] at e
        split at e
        · rename_i hl
          cases e
          obtain ⟨p, vs, rfl, d, l⟩ := RepT.lst R.s h g
          have z := l.ints g2
          subst z
          refine ⟨p, ns, rfl, .inl d, hl, fun ns' p2 h1 h2 hp => ?_⟩
          rw [sort_one h1 h2]
          refine q _ _ (R.grow (Sub.new hp)) (R.new_own hp ?_)
          generalize sortI ns = ls
          induction ls with
          | nil => exact .nil
          | cons i r ih => exact .cons (.int _) ih
        · cases e
  · obtain ⟨v, z, u, rfl, h1, h2, h3⟩ := hv.three
    cases e
    have f1 := h1.int; have f2 := h2.int; have f3 := h3.int
    subst f1 f2 f3
    exact ⟨_, _, _, rfl, q _ H R (.int _)⟩
  · cases e
/-- the rule of the built-in -/
theorem snd_blt (C : CxOk T xc S cs gl k N fb sc Wx X) {b : Bi} (hcB : (S.cB || calmFree b) = true) {x : Str} {es : E} {q : Expr} {qs : List Expr} {p pos : Pos} (hx : x = bltName b) (hg : glB sc x = true) (hb : bltTy b ≠ none) (hpl : (backTo pos (starEach qs X.env)).any (·.1) = false) (hst : starEach (q :: qs) X.env = (false, eval q X.env) :: starEach qs X.env)
    (ha : PA X (q :: qs) (SL T xc cs gl Wx es)) : PE X (.Call (.Name x p) (q :: qs) [] pos) (SE T xc cs gl Wx (.blt b es)) := by
  have hm : ∀ y ∈ bltNames, X.mg y = none := C.md.blt
  have G := gl_of C.es hg
  have hc : calmFree b = false → X.calm = true := fun z => C.calm (by rw [z, Bool.or_false] at hcB; exact hcB)
  have go : PE X (.Call (.Name x p) (q :: qs) [] pos) (tCB (rBl X.K b) (SL T xc cs gl Wx es)) := by
    subst hx
    cases b with
    | len => exact pe_callB (call_len_seq.or call_len_str) G (hm _ (by decide +kernel)) (by decide +kernel) ha (by decide) (by decide) hst hpl
    | list => exact pe_callTy call_list_of G (hm _ (by decide +kernel)) (by decide +kernel) ha (by decide) (by decide) hst hpl
    | sum => exact pe_callB (cr_sum (hc rfl)) G (hm _ (by decide +kernel)) (by decide +kernel) ha (by decide) (by decide) hst hpl
    | max1 => exact pe_callB (cr_max (hc rfl)) G (hm _ (by decide +kernel)) (by decide +kernel) ha (by decide) (by decide) hst hpl
    | min1 => exact pe_callB (cr_min (hc rfl)) G (hm _ (by decide +kernel)) (by decide +kernel) ha (by decide) (by decide) hst hpl
    | max2 => exact pe_callB (call_max2 (hc rfl)) G (hm _ (by decide +kernel)) (by decide +kernel) ha (by decide) (by decide) hst hpl
    | min2 => exact pe_callB (call_min2 (hc rfl)) G (hm _ (by decide +kernel)) (by decide +kernel) ha (by decide) (by decide) hst hpl
    | abs => exact pe_callB call_abs G (hm _ (by decide +kernel)) (by decide +kernel) ha (by decide) (by decide) hst hpl
    | int => exact pe_callTy call_int1 G (hm _ (by decide +kernel)) (by decide +kernel) ha (by decide) (by decide) hst hpl
    | all => exact pe_callB (cr_all (hc rfl)) G (hm _ (by decide +kernel)) (by decide +kernel) ha (by decide) (by decide) hst hpl
    | any => exact pe_callB (cr_any (hc rfl)) G (hm _ (by decide +kernel)) (by decide +kernel) ha (by decide) (by decide) hst hpl
    | sorted => exact pe_callB cr_sorted G (hm _ (by decide +kernel)) (by decide +kernel) ha (by decide) (by decide) hst hpl
    | min3 => exact pe_callB (call_min3 (hc rfl)) G (hm _ (by decide +kernel)) (by decide +kernel) ha (by decide) (by decide) hst hpl
  refine go.imp fun σ H Q z => ?_
  obtain ⟨B, r, P, m, en, R, g⟩ := z
  simp only [ev] at g
  refine ⟨B, r, P, m, en, R, g.bind fun ws en1 m1 B1 r1 H1 e1 R1 h1 vs hvs => ?_⟩
  obtain ⟨c, e, h2⟩ := h1.opt
  rw [C.eK]
  exact blt_ok R1 hvs e fun v H2 R2 h => h2 B1 r1 H2 Ext.refl R2 v h
theorem snd_lrng (C : CxOk T xc S cs gl k N fb sc Wx X) (hcB : S.cB = true) {a : E} {x y : Str} {q : Expr} {p p2 pos pos2 : Pos} (hx : x = ("list" : Str)) (hy : y = ("range" : Str)) (hg : glB sc x = true) (hg2 : glB sc y = true) (hn : noStar q = true) (ha : PE X q (SE T xc cs gl Wx a)) :
    PE X (.Call (.Name x p) [.Call (.Name y p2) [q] [] pos2] [] pos) (SE T xc cs gl Wx (.lrng a)) := by
  subst hx hy
  refine (pe_listRg (C.calm hcB) (gl_of C.es hg) (C.md.blt _ (by decide +kernel)) (prg_1 (gl_of C.es hg2) (C.md.blt _ (by decide +kernel)) ha (star_of hn)) rfl).imp fun σ H Q z => ?_
  obtain ⟨B, r, P, m, en, R, g⟩ := z
  simp only [ev] at g
  refine SG.go R (g.bind fun x en1 m1 B1 r1 H1 e1 R1 h1 v hv => ?_)
  obtain ⟨n, e, h2⟩ := h1.opt
  obtain ⟨hl, h3⟩ := h2.ifp
  have e := intR_some e
  subst e
  cases hv
  refine ⟨n, rfl, ⟨by decide, by decide, by omega, by omega, by omega⟩, fun l hl2 => ?_⟩
  refine h3 B1 r1 _ Ext.refl (R1.grow (Sub.new hl2)) _ (R1.new_own hl2 ?_)
  unfold rgV
  generalize (List.range (n - 0).toNat) = ls
  induction ls with
  | nil => exact .nil
  | cons i r ih => exact .cons (.int _) ih
theorem snd_bits {a : E} {pa : Expr} {x : Str} {ap pos : Pos} (hx : x = ("bit_length" : Str)) (hb : baseB pa = true) (hl : (ap.endLine == pos.line) = true) (ha : PE X pa (SE T xc cs gl Wx a)) :
    PE X (.Call (.Attribute pa x ap) [] [] pos) (SE T xc cs gl Wx (.mth .bits a .nil)) := by
  subst hx
  refine (pe_bits ha (base_of hb) hl).imp fun σ H Q z => ?_
  obtain ⟨B, r, P, m, en, R, g⟩ := z
  simp only [ev] at g
  refine SG.go R (g.bind fun x en1 m1 B1 r1 H1 e1 R1 h1 v hv => ?_)
  obtain ⟨n, e, h2⟩ := h1.opt
  have e := intR_some e
  subst e
  cases hv
  exact ⟨n, rfl, h2.fin R1 _ (.int _)⟩
theorem boxP_of {x : RV} {en : En} {m : Sto} (h : x ≠ .val .non) : boxP x en m = Mp.opt2 (boxR x en) fun ws en => .ok (.val (.ref m.length)) en (m ++ [.lst ws]) := by
  unfold boxP
  split
  · exact absurd rfl h
  · rfl
theorem box_ok {a : E} {σ : Slo} {H : Hp} {Q : VK} (h : SE T xc cs gl Wx (.box a) σ H Q) : SE T xc cs gl Wx a σ H Q := by
  obtain ⟨B, r, P, m, en, R, g⟩ := h
  simp only [ev] at g
  refine SG.go R (g.bind fun x en1 m1 B1 r1 H1 e1 R1 h1 v hv => ?_)
  cases x with
  | val w =>
    cases w with
    | non => exact h1 B1 r1 H1 Ext.refl R1 v hv
    | _ =>
      rw [boxP_of (fun h => by cases h)] at h1
      obtain ⟨ws, en2, e, h2⟩ := h1.opt2
      cases e
  | new zs =>
    rw [boxP_of (fun h => by cases h)] at h1
    obtain ⟨ws, en2, e, h2⟩ := h1.opt2
    simp only [boxR, Option.some.injEq, Prod.mk.injEq] at e
    obtain ⟨rfl, rfl⟩ := e
    obtain ⟨r2, e2, R2, h3⟩ := R1.box_new hv
    exact h2 B1 r2 H1 e2 R2 v h3
  | bor j =>
    rw [boxP_of (fun h => by cases h)] at h1
    obtain ⟨ws, en2, e, h2⟩ := h1.opt2
    simp only [boxR] at e
    cases q : enGet en1 j with
    | none => rw [q] at e; cases e
    | some s =>
      rw [q] at e
      cases s with
      | val w => cases e
      | own zs =>
        simp only [Option.some.injEq, Prod.mk.injEq] at e
        obtain ⟨rfl, rfl⟩ := e
        have hj := enGet_some q
        have hv : σ[j]? = some (some v) := hv
        obtain ⟨p, e3, o⟩ := R1.e.own_at hj
        rw [hv] at e3; cases e3
        have hl : j < en1.length := (List.getElem?_eq_some_iff.mp hj).1
        have get : ∀ (i : Nat) (s : Sl), (en1.set j none)[i]? = some (some s) → j ≠ i ∧ en1[i]? = some (some s) := fun i s hi => by
          by_cases c : j = i
          · subst c; rw [List.getElem?_set_self hl] at hi; cases hi
          · rw [List.getElem?_set_ne c] at hi; exact ⟨c, hi⟩
        have R0 : Rel T B1 r1 P m1 (en1.set j none) σ H1 :=
          ⟨R1.s, by rw [List.length_set]; exact R1.e.len, fun i s hi => R1.e.sl i s (get i s hi).2, fun i l xs ys q e1 e2 e3 e4 => R1.e.dis i l xs ys q (get i _ e1).2 (get l _ e2).2 e3 e4⟩
        have hn : RepR T B1 r1 P (en1.set j none) σ H1 (.ref p) (.new zs) := ⟨p, rfl, o, fun i ys hi e => by
          obtain ⟨c, hi⟩ := get i _ hi
          exact c (R1.e.dis j i zs ys p hj hi hv e)⟩
        obtain ⟨r2, e2, R2, h3⟩ := R0.box_new hn
        exact h2 B1 r2 H1 e2 R2 _ h3
/-! ### pop -/
theorem snd_pop (C : CxOk T xc S cs gl k N fb sc Wx X) {a es : E} {pa q : Expr} {x : Str} {ap pos : Pos} (hx : x = ("pop" : Str)) (hb : baseB pa = true) (hl : (ap.endLine == pos.line) = true) (hn : noStar q = true) (ha : PE X pa (SE T xc cs gl Wx a)) (hq : PA X [q] (SA T xc cs gl Wx es)) :
    PE X (.Call (.Attribute pa x ap) [q] [] pos) (SE T xc cs gl Wx (.mth .pop a es)) := by
  subst hx
  have hfew : ((backTo pos (starEach [q] X.env)).all (fun x => !x.1) && (backToKw pos (keywordEach [] X.env)).all (fun x => x.1.isSome)
      && decide (([q] : List Expr).length + ([] : List Keyword).length + (if ([] : List Keyword).isEmpty then 0 else 1) < 30)) = true := by
    rw [star_of hn]; rfl
  refine (pe_bm PySem.F.plainAttrs_list PySem.F.slot_list_pop PySem.F.type_list_pop mt_popAt ha hq (base_of hb) hfew hl (star_of hn) rfl).imp fun σ H Q z => ?_
  obtain ⟨B, r, P, m, en, R, g⟩ := z
  simp only [ev] at g
  refine SG.go R (g.bind fun x en1 m1 B1 r1 H1 e1 R1 h1 v hv => ?_)
  obtain ⟨ws0, e0, h1⟩ := h1.opt
  obtain ⟨B2, e2, R2, hv2⟩ := R1.hold hv
  unfold rvL at e0
  cases g0 : rvW en1 (hold x) with
  | none => rw [g0] at e0; cases e0
  | some w0 =>
    rw [g0] at e0
    obtain ⟨l, vs0, rfl, d0, _⟩ := RepT.lst R2.s (R2.top hv2 g0) e0
    refine ⟨.inl ⟨rfl, vs0, .inl d0⟩, B2, r1, P, m1, en1, R2, (PostG.mono e2 h1).bind fun zs en3 m3 B3 r3 H3 e3 R3 h3 us hus => ?_⟩
    obtain ⟨i, e4, h4⟩ := h3.opt
    have e4 := int1_some e4
    subst e4
    obtain ⟨⟨w, en5, m5⟩, e5, h5⟩ := h4.opt
    cases hus with
    | cons hu hr =>
      cases hr
      cases hu
      split at e5
      · rename_i hi
        have hv3 := hv2.held (P2 := P) (en3 := en3) (H3 := H3) e3.sub e3.pre
        -- where the list stands
        have own : ∀ (j : Nat) (ws : List W), enGet en3 j = some (.own ws) → σ[j]? = some (some (.ref l)) → ((ixN ws.length i).bind fun k => (ws[k]?).map fun w => (w, en3.set j (some (.own (ws.eraseIdx k))), m3)) = some (w, en5, m5) →
            rPopAt (.ref l) [.int i] H3 Q := fun j ws gj hj e => by
          obtain ⟨p, a1, a2⟩ := R3.e.own_at (enGet_some gj)
          rw [hj] at a1; cases a1
          obtain ⟨vs, b1, b2⟩ := a2.at_
          cases c1 : ixN ws.length i with
          | none => rw [c1] at e; cases e
          | some k =>
            rw [c1] at e
            simp only [Option.bind_some] at e
            cases c2 : ws[k]? with
            | none => rw [c2] at e; cases e
            | some u =>
              rw [c2] at e
              simp only [Option.map_some, Option.some.injEq, Prod.mk.injEq] at e
              obtain ⟨rfl, rfl, rfl⟩ := e
              obtain ⟨y, c3, c4⟩ := b2.get c2
              refine ⟨l, vs, i, k, y, rfl, rfl, b1, by omega, by omega, ?_, c3, ?_⟩
              · rw [b2.len]; exact (ixN_seq c1).1
              · exact h5 B3 r3 _ Ext.refl (R3.upd_own (enGet_some gj) hj (b2.erase k)) y c4
        have sto : ∀ (n : Nat) (ws : List W), m3[n]? = some (.lst ws) → r3[n]? = some l → ((ixN ws.length i).bind fun k => (ws[k]?).map fun w => (w, en3, m3.set n (.lst (ws.eraseIdx k)))) = some (w, en5, m5) →
            rPopAt (.ref l) [.int i] H3 Q := fun n ws gn hn2 e => by
          obtain ⟨a1, o, b1, b2, b3⟩ := R3.s.ob n _ gn
          rw [hn2] at b1; cases b1
          cases b3 with
          | lst b3 =>
            rename_i vs
            cases c1 : ixN ws.length i with
            | none => rw [c1] at e; cases e
            | some k =>
              rw [c1] at e
              simp only [Option.bind_some] at e
              cases c2 : ws[k]? with
              | none => rw [c2] at e; cases e
              | some u =>
                rw [c2] at e
                simp only [Option.map_some, Option.some.injEq, Prod.mk.injEq] at e
                obtain ⟨rfl, rfl, rfl⟩ := e
                obtain ⟨y, c3, c4⟩ := b3.get c2
                refine ⟨l, vs, i, k, y, rfl, rfl, b2, by omega, by omega, ?_, c3, ?_⟩
                · rw [b3.len]; exact (ixN_seq c1).1
                · exact h5 B3 r3 _ Ext.refl (R3.upd_sto hn2 gn rfl rfl (.lst (b3.erase k))) y c4
        have e6 : popAt en3 m3 (hold x) i = some (w, en5, m5) := e5
        cases hx : hold x with
        | new ws => rw [hx] at e6; cases e6
        | bor j =>
          rw [hx] at e6 hv3
          unfold popAt at e6
          dsimp only at e6
          split at e6
          · rename_i ws gj; exact own j ws gj hv3 e6
          · rename_i n gj
            split at e6
            · rename_i ws gn
              obtain ⟨v2, a1, a2⟩ := R3.e.sl j _ (enGet_some gj)
              have hv3 : σ[j]? = some (some (.ref l)) := hv3
              rw [hv3] at a1; cases a1
              cases a2 with
              | ref a2 => exact sto n ws gn a2 e6
            · cases e6
          · cases e6
        | val u =>
          rw [hx] at e6 hv3
          cases u with
          | ref n =>
            simp only [popAt] at e6
            split at e6
            · rename_i ws gn
              cases hv3 with
              | ref a2 => exact sto n ws gn a2 e6
            · cases e6
          | _ => cases e6
      · cases e5
end
end Mp

set_option Elab.async false
set_option linter.all false
set_option maxRecDepth 100000
set_option maxHeartbeats 4000000
namespace Mp
open PySem PySem.Spec PyProof.Rows L2

section
variable {T : Tab} {xc : Nat → Value} {S : Sta} {cs : Nat → List W → Sto → CR} {gl : List W} {k : Nat} {N : List Str} {fb : Str → Bool} {sc : Scope} {Wx : WX} {X : Cx}
/-! ### isinstance -/
def tyS : Option Ty → String
  | some .int => "int" | some .bool => "bool" | some .list => "list" | some .tuple => "tuple" | some .str => "str" | none => "NoneType"
theorem kit_all (t : Option Ty) (u : Ty) : kitB (tyS t) (tyS (some u)) = some (isT t u) := by
  cases t with
  | none => cases u <;> decide +kernel
  | some t => cases t <;> cases u <;> decide +kernel
theorem ty_top {B P H : Hp} {r : List Addr} {m : Sto} {v : V} {w : W} {t : Option Ty} (R : RelS T B r P m H) (h : RepT T B r H v w) (e : tyR m w = some t) : TyX T.K H v (.type (tyS t)) := by
  cases w with
  | non => simp only [tyR, Option.some.injEq] at e; subst e; have := h.non; subst this; exact .base .non
  | bl b => simp only [tyR, tyW, Option.map_some, Option.some.injEq] at e; subst e; have := h.bl; subst this; exact .base (.bl b)
  | int b => simp only [tyR, tyW, Option.map_some, Option.some.injEq] at e; subst e; have := h.int; subst this; exact .base (.int b)
  | str b => simp only [tyR, tyW, Option.map_some, Option.some.injEq] at e; subst e; have := h.str; subst this; exact .base (.str b)
  | lst ws =>
    simp only [tyR, tyW, Option.map_some, Option.some.injEq] at e; subst e
    obtain ⟨a, vs, rfl, d, _⟩ := RepT.lst R h (ws := ws) rfl
    rcases d with d | ⟨o, d⟩
    · exact .base (.lst d)
    · exact .base (.frz d)
  | tup ws =>
    simp only [tyR, tyW, Option.map_some, Option.some.injEq] at e; subst e
    obtain ⟨a, vs, rfl, d, _⟩ := RepT.seq R h (ws := ws) rfl
    rcases h with h | ⟨_, _, _, _, h, _⟩
    · cases h with
      | tup d _ =>
        have d := R.bh.sqt d
        rcases d with (d | ⟨o, d⟩) | ⟨o, its, n, d, c, _⟩
        · exact .base (.tup d)
        · exact .fTuple d
        · exact .kTuple d c
    · cases h
  | ref i =>
    simp only [tyR] at e
    split at e
    · rename_i ws g
      cases e
      obtain ⟨a, vs, rfl, d, _⟩ := RepT.lst R h (ws := ws) (by simp only [lstW]; rw [g])
      rcases d with d | ⟨o, d⟩
      · exact .base (.lst d)
      · exact .base (.frz d)
    · cases e
  | raw v => simp [tyR, tyW] at e
  | scr v => simp [tyR, tyW] at e
  | fn f => simp [tyR, tyW] at e
  | exc f => simp [tyR, tyW] at e
theorem boot_ty : ∀ t : Ty, bootBuiltins (tyName t) = some (.type (tyS (some t))) := fun t => by cases t <;> decide +kernel
theorem tyName_in : ∀ t : Ty, tyName t ∈ bltNames := fun t => by cases t <;> decide +kernel
theorem tyName_pl : ∀ t : Ty, tyName t ≠ ("__name__" : Str) ∧ (tyName t == ("__debug__" : Str)) = false := fun t => by cases t <;> exact ⟨by decide +kernel, by decide +kernel⟩
theorem pe_ty (C : CxOk T xc S cs gl k N fb sc Wx X) {t : Ty} {y : Str} {p : Pos} (hy : y = tyName t) (hg : glB sc y = true) : PE X (.Name y p) (tC (.ty (tyS (some t)))) := by
  subst hy
  exact pe_bltn (gl_of C.es hg) (C.md.blt _ (tyName_in t)) (boot_ty t) rfl (tyName_pl t).1 (tyName_pl t).2
/-- the classes of a tuple of names -/
def tTys : List Ty → TA
  | [] => tNil
  | t :: ts => tCons (tC (.ty (tyS (some t)))) (tTys ts)
theorem pa_tys (C : CxOk T xc S cs gl k N fb sc Wx X) : ∀ {ts : List Ty} {es : List Expr}, tyList sc ts es = true → PA X es (tTys ts)
  | [], [], _ => pa_nil
  | [], _ :: _, h => by simp [tyList] at h
  | t :: ts, [], h => by simp [tyList] at h
  | t :: ts, e :: es, h => by
    cases e with
    | Name x p =>
      simp only [tyList, Bool.and_eq_true] at h
      exact pa_cons (pe_ty C (eq_of_beq h.1.1) h.1.2) (pa_tys C h.2) rfl
    | _ => simp [tyList] at h
theorem tTys_go {σ : Slo} {H : Hp} : ∀ {ts : List Ty} {Q : List V → Hp → Prop}, Q (ts.map fun t => V.ty (tyS (some t))) H → tTys ts σ H Q
  | [], _, q => q
  | t :: ts, Q, q => by
    show tTys ts σ H fun xs H2 => Q (V.ty (tyS (some t)) :: xs) H2
    exact tTys_go q
theorem kit_list (K : PySem.W.Frag) (t : Option Ty) : ∀ ts : List Ty, PySem.W.kitAny K (.type (tyS t)) (ts.map fun u => Value.type (tyS (some u))) = some (ts.any (isT t))
  | [] => kitAny_nil
  | u :: ts => by
    rw [List.map_cons, List.any_cons]
    refine kitAny_cons (kit_ty (kit_all t u)) (fun h => ?_) (fun h => by rw [h, Bool.true_or])
    rw [h, Bool.false_or]
    exact kit_list K t ts
theorem clsV_all : ∀ ts : List Ty, Paired ClsV (ts.map fun t => V.ty (tyS (some t))) (ts.map fun u => Value.type (tyS (some u)))
  | [] => .nil
  | t :: ts => .cons (.ty _) (clsV_all ts)
theorem snd_isi (C : CxOk T xc S cs gl k N fb sc Wx X) {a : E} {ts : List Ty} {pa pt : Expr} {x : Str} {p pos : Pos} (hx : x = ("isinstance" : Str)) (hg : glB sc x = true) (hn : noStar pa = true) (ha : PE X pa (SE T xc cs gl Wx a))
    (ht : (match ts, pt with
      | [t], .Name y _ => (y == tyName t) && glB sc y
      | ts, .Tuple es _ _ => tyList sc ts es
      | _, _ => false) = true) (hts : ts.length ≤ 100) : PE X (.Call (.Name x p) [pa, pt] [] pos) (SE T xc cs gl Wx (.isi a ts)) := by
  subst hx
  have G := gl_of C.es hg
  have hm := C.md.blt "isinstance" (by decide +kernel)
  have fin : ∀ {σ : Slo} {H : Hp} {Q : VK}, SE T xc cs gl Wx (.isi a ts) σ H Q → SE T xc cs gl Wx a σ H fun v H1 => ∃ t : Option Ty, TyX T.K H1 v (.type (tyS t)) ∧ Q (.bl (ts.any (isT t))) H1 ∧ ∀ q o, H1 q = none → TyX T.K (upd H1 q o) v (.type (tyS t)) ∧ Q (.bl (ts.any (isT t))) (upd H1 q o) := fun {σ H Q} z => by
    obtain ⟨B, r, P, m, en, R, g⟩ := z
    simp only [ev] at g
    refine SG.go R (g.bind fun x en1 m1 B1 r1 H1 e1 R1 h1 v hv => ?_)
    obtain ⟨w, e, h2⟩ := h1.opt
    obtain ⟨t, e2, h3⟩ := h2.opt
    refine ⟨t, ty_top R1.s (R1.top hv e) e2, h3.fin R1 _ (.bl _), fun q o hq => ?_⟩
    have R2 := R1.grow (Sub.new (o := o) hq)
    exact ⟨ty_top R2.s (R2.top (hv.grow (Sub.new hq)) e) e2, h3 B1 r1 _ Ext.refl R2 _ (.bl _)⟩
  split at ht
  · rename_i t y p2
    rw [Bool.and_eq_true] at ht
    refine (pe_callB call_isi G hm (by decide +kernel) (pa_cons ha (pa_cons (pe_ty C (eq_of_beq ht.1) ht.2) pa_nil rfl) (star_of hn)) (by decide) (by decide) (star_of hn) rfl).imp fun σ H Q z => ?_
    obtain ⟨B, r, P, m, en, R, g⟩ := fin z
    refine ⟨B, r, P, m, en, R, g.imp fun x en2 m2 B2 r2 H2 _ _ z v hv => ?_⟩
    obtain ⟨t2, h1, h2, _⟩ := z v hv
    rw [C.eK]
    refine ⟨v, .ty (tyS (some t)), .type (tyS t2), .type (tyS (some t)), _, rfl, .ty _, h1, kit_ty (kit_all t2 t), ?_⟩
    have e : [t].any (isT t2) = isT t2 t := by simp
    rw [← e]; exact h2
  · rename_i es n p2
    refine (pe_callB call_isiT G hm (by decide +kernel) (pa_cons ha (pa_cons (pe_tup (pa_tys C ht)) pa_nil rfl) (star_of hn)) (by decide) (by decide) (star_of hn) rfl).imp fun σ H Q z => ?_
    obtain ⟨B, r, P, m, en, R, g⟩ := fin z
    refine ⟨B, r, P, m, en, R, g.imp fun x en2 m2 B2 r2 H2 _ R2 z v hv => ?_⟩
    obtain ⟨t2, h1, h2, h3⟩ := z v hv
    refine tTys_go ?_
    have hl : (ts.map fun t => V.ty (tyS (some t))).length ≤ sizeLine := by
      rw [List.length_map]
      exact Nat.le_trans hts (by decide)
    refine ⟨hl, fun q hq => ?_⟩
    obtain ⟨h4, h5⟩ := h3 q (.tup (ts.map fun t => V.ty (tyS (some t)))) hq
    rw [C.eK]
    exact ⟨v, q, _, .type (tyS t2), _, _, rfl, upd_same, clsV_all ts, h4, kit_list T.K t2 ts, h5⟩
  · cases ht

/-! ### what is walked -/
structure ItSim (T : Tab) (B : Hp) (r : List Addr) (J : L2.It) (zs : List W) (ck : List (Nat × List W)) : Prop where
  go : ∀ {B2 : Hp} {r2 : List Addr} {P : Hp} {m : Sto} {en : En} {σ : Slo} {H : Hp} (i : Nat), Sub B B2 → r <+: r2 → Rel T B2 r2 P m en σ H → chk ck m = true → i < zs.length → J.go i H
  stop : ∀ {B2 : Hp} {r2 : List Addr} {P : Hp} {m : Sto} {en : En} {σ : Slo} {H : Hp}, Sub B B2 → r <+: r2 → Rel T B2 r2 P m en σ H → chk ck m = true → J.stop zs.length H
  yld : ∀ {B2 : Hp} {r2 : List Addr} {P : Hp} {m : Sto} {en : En} {σ : Slo} {H H2 : Hp} {x : V} {z : W} (i : Nat), Sub B B2 → r <+: r2 → Rel T B2 r2 P m en σ H → chk ck m = true → J.yld i H x H2 → zs[i]? = some z →
    ∃ B3, Ext P B2 r2 B3 r2 ∧ Rel T B3 r2 P m en σ H2 ∧ Rep T B3 r2 x z ∧ Sub H H2
def SrcAt (T : Tab) (B : Hp) (r : List Addr) (a : Addr) (zs : List W) (ck : List (Nat × List W)) : Prop := ∀ {B2 : Hp} {r2 : List Addr} {P : Hp} {m : Sto} {H : Hp}, Sub B B2 → r <+: r2 → RelS T B2 r2 P m H → chk ck m = true → ∃ vs, Rd H a (.lst vs) ∧ RepL T B2 r2 vs zs
theorem chk_app {c1 c2 : List (Nat × List W)} {m : Sto} (h : chk (c1 ++ c2) m = true) : chk c1 m = true ∧ chk c2 m = true := by
  unfold chk at h ⊢
  rw [List.all_append, Bool.and_eq_true] at h
  exact h
theorem srcL_at {B P H : Hp} {r : List Addr} {m : Sto} {v : V} {w : W} {zs : List W} {ck : List (Nat × List W)} (h : Rep T B r v w) (e : srcL m w = some (zs, ck)) : ∃ a, v = .ref a ∧ SrcAt T B r a zs ck := by
  cases w with
  | lst ws =>
    simp only [srcL, Option.some.injEq, Prod.mk.injEq] at e
    obtain ⟨rfl, rfl⟩ := e
    cases h with
    | lst d l =>
      exact ⟨_, rfl, fun {B2 r2 P m H} s p R _ => ⟨_, (s.trans R.bh).rd d, l.mono s p⟩⟩
  | ref i =>
    simp only [srcL] at e
    split at e
    · rename_i ws g
      simp only [Option.some.injEq, Prod.mk.injEq] at e
      obtain ⟨rfl, rfl⟩ := e
      cases h with
      | ref d =>
        refine ⟨_, rfl, fun {B2 r2 P m H} s p R c => ?_⟩
        simp only [chk, List.all_cons, List.all_nil, Bool.and_true] at c
        split at c
        · rename_i us g2
          have e2 := W.sames_eq _ _ c
          subst e2
          obtain ⟨a2, o, h1, h2, h3⟩ := R.ob i _ g2
          rw [pre_get p d] at h1; cases h1
          cases h3 with
          | lst l => exact ⟨_, .inl h2, l⟩
        · cases c
    · cases e
  | _ => simp [srcL] at e
theorem srcL_chk {m : Sto} {w : W} {zs : List W} {ck : List (Nat × List W)} (e : srcL m w = some (zs, ck)) : chk ck m = true := by
  cases w with
  | lst ws => simp only [srcL, Option.some.injEq, Prod.mk.injEq] at e; obtain ⟨rfl, rfl⟩ := e; rfl
  | ref i =>
    simp only [srcL] at e
    split at e
    · rename_i ws g
      simp only [Option.some.injEq, Prod.mk.injEq] at e
      obtain ⟨rfl, rfl⟩ := e
      simp only [chk, List.all_cons, List.all_nil, Bool.and_true, g]
      exact W.sames_refl _
    · cases e
  | _ => simp [srcL] at e
theorem sim_list {B : Hp} {r : List Addr} {a : Addr} {zs : List W} {ck : List (Nat × List W)} (s : SrcAt T B r a zs ck) : ItSim T B r (Itl T.K a) zs ck where
  go := fun i h1 h2 R c hi => by
    obtain ⟨vs, d, l⟩ := s h1 h2 R.s c
    obtain ⟨v, g, _⟩ := l.get (List.getElem?_eq_getElem hi)
    exact ⟨vs, v, .inl d, g⟩
  stop := fun h1 h2 R c => by
    obtain ⟨vs, d, l⟩ := s h1 h2 R.s c
    exact ⟨vs, .inl d, Nat.le_of_eq l.len⟩
  yld := fun {B2 _ _ _ _ _ _ _ _ _} i h1 h2 R c y e => by
    obtain ⟨rfl, y⟩ := y
    obtain ⟨vs, d, l⟩ := s h1 h2 R.s c
    obtain ⟨v, g, rv⟩ := l.get e
    have := y vs (.inl d)
    rw [g] at this; cases this
    exact ⟨B2, Ext.refl, R, rv, Sub.refl _⟩
theorem sim_tup {B : Hp} {r : List Addr} {a : Addr} {vs : List V} {zs : List W} (d : SqT T.K B a vs) (l : RepL T B r vs zs) : ItSim T B r (Itt T.K a) zs [] where
  go := fun i h1 h2 R c hi => by
    obtain ⟨v, g, _⟩ := l.get (List.getElem?_eq_getElem hi)
    exact ⟨vs, v, (h1.trans R.s.bh).sqt d, g⟩
  stop := fun h1 h2 R c => ⟨vs, (h1.trans R.s.bh).sqt d, Nat.le_of_eq l.len⟩
  yld := fun {B2 _ _ _ _ _ _ _ _ _} i h1 h2 R c y e => by
    obtain ⟨rfl, y⟩ := y
    obtain ⟨v, g, rv⟩ := l.get e
    have := y vs ((h1.trans R.s.bh).sqt d)
    rw [g] at this; cases this
    exact ⟨B2, Ext.refl, R, rv.mono h1 h2, Sub.refl _⟩
theorem sim_str {B : Hp} {r : List Addr} {x : Str} : ItSim T B r (Its x) (x.cps.toList.map fun c => .str ⟨#[c]⟩) [] where
  go := fun i _ _ _ _ hi => by
    rw [List.length_map, Array.length_toList] at hi
    exact hi
  stop := fun _ _ _ _ => by
    rw [List.length_map, Array.length_toList]
    exact Nat.le_refl _
  yld := fun {B2 _ _ _ _ _ _ _ _ _} i _ _ R _ y e => by
    obtain ⟨rfl, c, h1, rfl⟩ := y
    rw [List.getElem?_map, Array.getElem?_toList, h1] at e
    simp only [Option.map_some, Option.some.injEq] at e
    subst e
    exact ⟨B2, Ext.refl, R, .str _, Sub.refl _⟩
theorem sim_rng {B : Hp} {r : List Addr} {lo : Int} {n : Nat} : ItSim T B r (Itr lo n) ((List.range n).map fun (i : Nat) => .int (lo + (i : Int))) [] where
  go := fun i _ _ _ _ hi => by
    rw [List.length_map, List.length_range] at hi
    exact hi
  stop := fun _ _ _ _ => by
    rw [List.length_map, List.length_range]
    exact Nat.le_refl _
  yld := fun {B2 _ _ _ _ _ _ _ _ _} i _ _ R _ y e => by
    obtain ⟨rfl, rfl⟩ := y
    rw [List.getElem?_map] at e
    cases g : (List.range n)[i]? with
    | none => rw [g] at e; cases e
    | some j =>
      rw [g] at e
      have hl := (List.getElem?_eq_some_iff.mp g).1
      rw [List.length_range] at hl
      rw [List.getElem?_range hl] at g
      cases g
      simp only [Option.map_some, Option.some.injEq] at e
      subst e
      exact ⟨B2, Ext.refl, R, .int _, Sub.refl _⟩
theorem sim_rngC {B : Hp} {r : List Addr} {lo c : Int} {n : Nat} {zs : List W} (hz : zs = (List.range n).map fun (i : Nat) => .int (lo + (i : Int) * c)) : ItSim T B r (Itc lo c n) zs [] where
  go := fun i _ _ _ _ hi => by
    rw [hz, List.length_map, List.length_range] at hi
    exact hi
  stop := fun _ _ _ _ => by
    rw [hz, List.length_map, List.length_range]
    exact Nat.le_refl _
  yld := fun {B2 _ _ _ _ _ _ _ _ _} i _ _ R _ y e => by
    obtain ⟨rfl, rfl⟩ := y
    rw [hz, List.getElem?_map] at e
    cases g : (List.range n)[i]? with
    | none => rw [g] at e; cases e
    | some j =>
      rw [g] at e
      have hl := (List.getElem?_eq_some_iff.mp g).1
      rw [List.length_range] at hl
      rw [List.getElem?_range hl] at g
      cases g
      simp only [Option.map_some, Option.some.injEq] at e
      subst e
      exact ⟨B2, Ext.refl, R, .int _, Sub.refl _⟩
theorem sim_rev {B : Hp} {r : List Addr} {a : Addr} {zs : List W} {ck : List (Nat × List W)} {n : Nat} (s : SrcAt T B r a zs ck) (hn : n = zs.length) : ItSim T B r (Itv T.K a n) zs.reverse ck where
  go := fun i h1 h2 R c hi => by
    obtain ⟨vs, d, l⟩ := s h1 h2 R.s c
    rw [List.length_reverse] at hi
    have hj : n - 1 - i < zs.length := by omega
    obtain ⟨v, g, _⟩ := l.get (List.getElem?_eq_getElem hj)
    exact ⟨by omega, vs, v, .inl d, g⟩
  stop := fun h1 h2 R c => by
    show n ≤ zs.reverse.length
    rw [List.length_reverse, hn]
    exact Nat.le_refl _
  yld := fun {B2 _ _ _ _ _ _ _ _ _} i h1 h2 R c y e => by
    obtain ⟨rfl, y⟩ := y
    obtain ⟨vs, d, l⟩ := s h1 h2 R.s c
    have hi := (List.getElem?_eq_some_iff.mp e).1
    rw [List.length_reverse] at hi
    rw [List.getElem?_reverse hi, ← hn] at e
    obtain ⟨v, g, rv⟩ := l.get e
    have := y vs (.inl d)
    rw [g] at this; cases this
    exact ⟨B2, Ext.refl, R, rv, Sub.refl _⟩
theorem enumL_len (zs : List W) : (enumL zs).length = zs.length := by
  unfold enumL
  rw [List.length_zipWith, List.length_range, Nat.min_self]
theorem enumL_get {zs : List W} {i : Nat} {z : W} (h : (enumL zs)[i]? = some z) : ∃ w, zs[i]? = some w ∧ z = .tup [.int (i : Nat), w] := by
  unfold enumL at h
  rw [List.getElem?_zipWith] at h
  cases g : zs[i]? with
  | none => rw [g] at h; cases q : (List.range zs.length)[i]? <;> rw [q] at h <;> cases h
  | some w =>
    have hl := (List.getElem?_eq_some_iff.mp g).1
    rw [List.getElem?_range hl, g] at h
    simp only [Option.some.injEq] at h
    exact ⟨w, rfl, h.symm⟩
theorem sim_enum {B : Hp} {r : List Addr} {a : Addr} {zs : List W} {ck : List (Nat × List W)} (s : SrcAt T B r a zs ck) : ItSim T B r (Ite T.K a) (enumL zs) ck where
  go := fun i h1 h2 R c hi => by
    obtain ⟨vs, d, l⟩ := s h1 h2 R.s c
    rw [enumL_len] at hi
    obtain ⟨v, g, _⟩ := l.get (List.getElem?_eq_getElem hi)
    exact ⟨vs, v, .inl d, g⟩
  stop := fun h1 h2 R c => by
    obtain ⟨vs, d, l⟩ := s h1 h2 R.s c
    exact ⟨vs, .inl d, by rw [enumL_len]; exact Nat.le_of_eq l.len⟩
  yld := fun {B2 r2 _ _ _ _ _ _ _ _} i h1 h2 R c y e => by
    obtain ⟨t, x, rfl, ht, rfl, y⟩ := y
    obtain ⟨vs, d, l⟩ := s h1 h2 R.s c
    obtain ⟨w, e1, rfl⟩ := enumL_get e
    obtain ⟨v, g, rv⟩ := l.get e1
    have := y vs (.inl d)
    rw [g] at this; cases this
    obtain ⟨B3, e3, R3, hb⟩ := R.new_frz (o := .tup [.int (i : Nat), x]) ht
    exact ⟨B3, e3, R3, .tup (.inl (.inl hb)) (.cons (.int _) (.cons (rv.mono e3.sub e3.pre) .nil)), Sub.new ht⟩
theorem sim_zip {B : Hp} {r : List Addr} {a b : Addr} {zs us : List W} {c1 c2 : List (Nat × List W)} (s : SrcAt T B r a zs c1) (t : SrcAt T B r b us c2) : ItSim T B r (Itz T.K a b) (zs.zipWith (fun x y => .tup [x, y]) us) (c1 ++ c2) where
  go := fun i h1 h2 R c hi => by
    obtain ⟨ca, cb⟩ := chk_app c
    obtain ⟨vs, d, l⟩ := s h1 h2 R.s ca
    obtain ⟨xs, d2, l2⟩ := t h1 h2 R.s cb
    rw [List.length_zipWith] at hi
    obtain ⟨v, g, _⟩ := l.get (i := i) (List.getElem?_eq_getElem (by omega))
    obtain ⟨x, g2, _⟩ := l2.get (i := i) (List.getElem?_eq_getElem (by omega))
    exact ⟨vs, xs, v, x, .inl d, .inl d2, g, g2⟩
  stop := fun h1 h2 R c => by
    obtain ⟨ca, cb⟩ := chk_app c
    obtain ⟨vs, d, l⟩ := s h1 h2 R.s ca
    obtain ⟨xs, d2, l2⟩ := t h1 h2 R.s cb
    refine ⟨vs, xs, .inl d, .inl d2, ?_⟩
    rw [List.length_zipWith, l.len, l2.len]
    omega
  yld := fun {B2 r2 _ _ _ _ _ _ _ _} i h1 h2 R c y e => by
    obtain ⟨ca, cb⟩ := chk_app c
    obtain ⟨q, x, x2, rfl, ht, rfl, y, y2⟩ := y
    obtain ⟨vs, d, l⟩ := s h1 h2 R.s ca
    obtain ⟨xs, d2, l2⟩ := t h1 h2 R.s cb
    rw [List.getElem?_zipWith] at e
    cases g : zs[i]? with
    | none => rw [g] at e; cases e
    | some z1 =>
      cases g2 : us[i]? with
      | none => rw [g, g2] at e; cases e
      | some z2 =>
        rw [g, g2] at e
        simp only [Option.some.injEq] at e
        subst e
        obtain ⟨v, k1, rv⟩ := l.get g
        obtain ⟨u, k2, ru⟩ := l2.get g2
        have i1 := y vs (.inl d)
        have i2 := y2 xs (.inl d2)
        rw [k1] at i1; cases i1
        rw [k2] at i2; cases i2
        obtain ⟨B3, e3, R3, hb⟩ := R.new_frz (o := .tup [x, x2]) ht
        exact ⟨B3, e3, R3, .tup (.inl (.inl hb)) (.cons (rv.mono e3.sub e3.pre) (.cons (ru.mono e3.sub e3.pre) .nil)), Sub.new ht⟩
def SI (T : Tab) (xc : Nat → Value) (cs : Nat → List W → Sto → CR) (gl : List W) (Wx : WX) (it : It) (src : E) : TI := fun σ H Rr => ∃ B r P m en, Rel T B r P m en σ H ∧
  PostG T xc Wx P σ B r (evs cs gl src en m) fun ws en m B2 r2 H2 => ∃ zs ck, itemsR it m ws = some (zs, ck) ∧ ∀ J, ItSim T B2 r2 J zs ck → Rr J H2
/-- one thing that is walked -/
theorem one_src {a : E} {it : It} {σ : Slo} {H : Hp} {Q : V → Hp → Prop} (h : ∃ B r P m en, Rel T B r P m en σ H ∧ PostG T xc Wx P σ B r (evs cs gl (.cons a .nil) en m) fun ws en m B2 r2 H2 => ∀ v w, ws = [w] → Rep T B2 r2 v w → Q v H2) : SE T xc cs gl Wx a σ H Q := by
  obtain ⟨B, r, P, m, en, R, g⟩ := h
  simp only [evs] at g
  refine SG.go R (g.bind fun x en1 m1 B1 r1 H1 e1 R1 h1 v hv => ?_)
  obtain ⟨w, en2, e, h2⟩ := h1.opt2
  obtain ⟨B2, e2, R2, hw⟩ := R1.esc hv e
  exact (PostG.mono e2 h2).fin R2 v w rfl hw
theorem pi_src (C : CxOk T xc S cs gl k N fb sc Wx X) {it : It} {a : E} {tg p : Expr} (hit : it = .list ∨ it = .tup ∨ it = .str) (ha : PE X p (SE T xc cs gl Wx a)) : PI X tg p (SI T xc cs gl Wx it (.cons a .nil)) := by
  have eK := C.eK
  rcases hit with rfl | rfl | rfl
  · refine (pi_list ha).imp fun σ H Rr z => one_src (it := .list) ?_
    obtain ⟨B, r, P, m, en, R, g⟩ := z
    refine ⟨B, r, P, m, en, R, g.imp fun ws en2 m2 B2 r2 H2 _ R2 z v w hw hv => ?_⟩
    obtain ⟨zs, ck, e, q⟩ := z
    subst hw
    obtain ⟨b, rfl, s⟩ := srcL_at (P := P) (H := H2) hv e
    rw [eK]
    refine ⟨b, rfl, ?_, q _ (sim_list s)⟩
    cases w with
    | lst us => cases hv with
      | lst d _ => exact ⟨_, .inl (R2.s.bh.rd d)⟩
    | ref i =>
      simp only [itemsR, listI, srcL] at e
      split at e
      · rename_i us g2
        cases hv with
        | ref d =>
          obtain ⟨a2, o, h1, h2, h3⟩ := R2.s.ob i _ g2
          rw [d] at h1; cases h1
          cases h3 with
          | lst l => exact ⟨_, .inl (.inl h2)⟩
      · cases e
    | _ => simp [itemsR, listI, srcL] at e
  · refine (pi_tup ha).imp fun σ H Rr z => one_src (it := .tup) ?_
    obtain ⟨B, r, P, m, en, R, g⟩ := z
    refine ⟨B, r, P, m, en, R, g.imp fun ws en2 m2 B2 r2 H2 _ R2 z v w hw hv => ?_⟩
    obtain ⟨zs, ck, e, q⟩ := z
    subst hw
    rw [eK]
    cases w with
    | tup us =>
      simp only [itemsR, tupI, Option.some.injEq, Prod.mk.injEq] at e
      obtain ⟨rfl, rfl⟩ := e
      cases hv with
      | tup d l => exact ⟨_, rfl, ⟨_, R2.s.bh.sqt d⟩, q _ (sim_tup d l)⟩
    | _ => simp [itemsR, tupI] at e
  · refine (pi_str ha).imp fun σ H Rr z => one_src (it := .str) ?_
    obtain ⟨B, r, P, m, en, R, g⟩ := z
    refine ⟨B, r, P, m, en, R, g.imp fun ws en2 m2 B2 r2 H2 _ R2 z v w hw hv => ?_⟩
    obtain ⟨zs, ck, e, q⟩ := z
    subst hw
    cases w with
    | str s =>
      simp only [itemsR, strI, Option.some.injEq, Prod.mk.injEq] at e
      obtain ⟨rfl, rfl⟩ := e
      cases hv
      exact ⟨s, rfl, q _ sim_str⟩
    | _ => simp [itemsR, strI] at e
theorem rng_ok {i : Int} (h : rngOk i = true) : -(2 ^ 62) ≤ i ∧ i < 2 ^ 62 := of_decide_eq_true h
theorem RepL.v1 {B : Hp} {r : List Addr} {vs : List V} {w : W} (h : RepL T B r vs [w]) : ∃ v, vs = [v] ∧ Rep T B r v w := by
  cases h with
  | cons h l => cases l; exact ⟨_, rfl, h⟩
theorem RepL.v2 {B : Hp} {r : List Addr} {vs : List V} {w u : W} (h : RepL T B r vs [w, u]) : ∃ v z, vs = [v, z] ∧ Rep T B r v w ∧ Rep T B r z u := by
  cases h with
  | cons h l =>
    obtain ⟨z, rfl, q⟩ := RepL.v1 l
    exact ⟨_, _, rfl, h, q⟩
theorem RepL.v3 {B : Hp} {r : List Addr} {vs : List V} {w u t : W} (h : RepL T B r vs [w, u, t]) : ∃ v z y, vs = [v, z, y] ∧ Rep T B r v w ∧ Rep T B r z u ∧ Rep T B r y t := by
  cases h with
  | cons h l =>
    obtain ⟨z, y, rfl, q, q2⟩ := RepL.v2 l
    exact ⟨_, _, _, rfl, h, q, q2⟩
theorem pi_rng1 (C : CxOk T xc S cs gl k N fb sc Wx X) {a : E} {tg q : Expr} {x : Str} {p pos : Pos} (hx : x = ("range" : Str)) (hg : glB sc x = true) (hn : noStar q = true) (ha : PA X [q] (SA T xc cs gl Wx a)) : PI X tg (.Call (.Name x p) [q] [] pos) (SI T xc cs gl Wx .rng1 a) := by
  subst hx
  refine (pi_range1 (gl_of C.es hg) (C.md.blt _ (by decide +kernel)) ha (star_of hn)).imp fun σ H Rr z => ?_
  obtain ⟨B, r, P, m, en, R, g⟩ := z
  refine ⟨B, r, P, m, en, R, g.imp fun ws en2 m2 B2 r2 H2 _ R2 z vs hvs => ?_⟩
  obtain ⟨zs, ck, e, q⟩ := z
  simp only [itemsR] at e
  unfold rng1I at e
  split at e
  · split at e
    · rename_i c
      cases e
      obtain ⟨v, rfl, h⟩ := hvs.v1
      cases h
      exact ⟨_, rfl, (rng_ok c).1, (rng_ok c).2, q _ sim_rng⟩
    · cases e
  · cases e
theorem pi_rng2 (C : CxOk T xc S cs gl k N fb sc Wx X) {a : E} {tg q q2 : Expr} {x : Str} {p pos : Pos} (hx : x = ("range" : Str)) (hg : glB sc x = true) (hn : noStar q = true) (hn2 : noStar q2 = true) (ha : PA X [q, q2] (SA T xc cs gl Wx a)) : PI X tg (.Call (.Name x p) [q, q2] [] pos) (SI T xc cs gl Wx .rng2 a) := by
  subst hx
  have s2 : starEach [q2] X.env = [(false, eval q2 X.env)] := star_of hn2
  refine (pi_range2 (gl_of C.es hg) (C.md.blt _ (by decide +kernel)) ha (by rw [star_of hn, s2]) s2).imp fun σ H Rr z => ?_
  obtain ⟨B, r, P, m, en, R, g⟩ := z
  refine ⟨B, r, P, m, en, R, g.imp fun ws en2 m2 B2 r2 H2 _ R2 z vs hvs => ?_⟩
  obtain ⟨zs, ck, e, q⟩ := z
  simp only [itemsR] at e
  unfold rng2I at e
  split at e
  · split at e
    · rename_i c
      rw [Bool.and_eq_true] at c
      cases e
      obtain ⟨v, u, rfl, h, h2⟩ := hvs.v2
      cases h; cases h2
      exact ⟨_, _, rfl, ⟨(rng_ok c.1).1, (rng_ok c.1).2, (rng_ok c.2).1, (rng_ok c.2).2⟩, q _ sim_rng⟩
    · cases e
  · cases e
theorem pi_rng3 (C : CxOk T xc S cs gl k N fb sc Wx X) {a : E} {tg q q2 q3 : Expr} {x : Str} {p pos : Pos} (hx : x = ("range" : Str)) (hg : glB sc x = true) (hn : noStar q = true) (hn2 : noStar q2 = true) (hn3 : noStar q3 = true) (ha : PA X [q, q2, q3] (SA T xc cs gl Wx a)) :
    PI X tg (.Call (.Name x p) [q, q2, q3] [] pos) (SI T xc cs gl Wx .rng3 a) := by
  subst hx
  have nb : (backTo pos (starEach [q2, q3] X.env)).any (·.1) = false := back_no fun r hr => by
    rcases List.mem_cons.mp hr with e | e
    · rw [e]; exact hn2
    · rw [List.mem_singleton.mp e]; exact hn3
  refine (pi_range3 (gl_of C.es hg) (C.md.blt _ (by decide +kernel)) ha (star_of hn) nb).imp fun σ H Rr z => ?_
  obtain ⟨B, r, P, m, en, R, g⟩ := z
  refine ⟨B, r, P, m, en, R, g.imp fun ws en2 m2 B2 r2 H2 _ R2 z vs hvs => ?_⟩
  obtain ⟨zs, ck, e, q⟩ := z
  simp only [itemsR] at e
  unfold rng3I at e
  split at e
  · split at e
    · rename_i c
      cases e
      obtain ⟨v, u, t, rfl, h, h2, h3⟩ := hvs.v3
      cases h; cases h2; cases h3
      obtain ⟨c1, c2, c3⟩ := c
      subst c1
      exact ⟨_, _, _, _, rfl, RgC.neg (rng_ok c2).1 (rng_ok c2).2 (rng_ok c3).1 (rng_ok c3).2, q _ (sim_rngC rfl)⟩
    · cases e
  · cases e
theorem pi_enumS (C : CxOk T xc S cs gl k N fb sc Wx X) {a : E} {tg q : Expr} {x : Str} {p pos : Pos} (htg : isTup tg = true) (hx : x = ("enumerate" : Str)) (hg : glB sc x = true) (hn : noStar q = true) (ha : PA X [q] (SA T xc cs gl Wx a)) : PI X tg (.Call (.Name x p) [q] [] pos) (SI T xc cs gl Wx .enum a) := by
  subst hx
  cases tg with
  | Tuple es n tp =>
    refine (pi_enum (gl_of C.es hg) (C.md.blt _ (by decide +kernel)) ha (star_of hn)).imp fun σ H Rr z => ?_
    obtain ⟨B, r, P, m, en, R, g⟩ := z
    refine ⟨B, r, P, m, en, R, g.imp fun ws en2 m2 B2 r2 H2 _ R2 z vs hvs => ?_⟩
    obtain ⟨zs, ck, e, q⟩ := z
    simp only [itemsR] at e
    unfold enumI at e
    split at e
    · rename_i w
      split at e
      · rename_i us c g2
        cases e
        obtain ⟨v, rfl, h⟩ := hvs.v1
        obtain ⟨b, rfl, s⟩ := srcL_at (P := P) (H := H2) h g2
        rw [C.eK]
        obtain ⟨xs, d, _⟩ := s (Sub.refl _) (List.prefix_refl _) R2.s (srcL_chk g2)
        exact ⟨b, xs, rfl, .inl d, q _ (sim_enum s)⟩
      · cases e
    · cases e
  | _ => cases htg
theorem pi_revS (C : CxOk T xc S cs gl k N fb sc Wx X) {a : E} {tg q : Expr} {x : Str} {p pos : Pos} (hx : x = ("reversed" : Str)) (hg : glB sc x = true) (hn : noStar q = true) (ha : PA X [q] (SA T xc cs gl Wx a)) : PI X tg (.Call (.Name x p) [q] [] pos) (SI T xc cs gl Wx .rev a) := by
  subst hx
  refine (pi_reversed (gl_of C.es hg) (C.md.blt _ (by decide +kernel)) ha (star_of hn)).imp fun σ H Rr z => ?_
  obtain ⟨B, r, P, m, en, R, g⟩ := z
  refine ⟨B, r, P, m, en, R, g.imp fun ws en2 m2 B2 r2 H2 _ R2 z vs hvs => ?_⟩
  obtain ⟨zs, ck, e, q⟩ := z
  simp only [itemsR] at e
  unfold revI at e
  split at e
  · rename_i w
    split at e
    · rename_i us c g2
      cases e
      obtain ⟨v, rfl, h⟩ := hvs.v1
      obtain ⟨b, rfl, s⟩ := srcL_at (P := P) (H := H2) h g2
      rw [C.eK]
      obtain ⟨xs, d, l⟩ := s (Sub.refl _) (List.prefix_refl _) R2.s (srcL_chk g2)
      exact ⟨b, xs, rfl, .inl d, q _ (sim_rev s l.len)⟩
    · cases e
  · cases e
theorem pi_zipS (C : CxOk T xc S cs gl k N fb sc Wx X) {a : E} {tg q q2 : Expr} {x : Str} {p pos : Pos} (htg : isTup tg = true) (hx : x = ("zip" : Str)) (hg : glB sc x = true) (hn : noStar q = true) (hn2 : noStar q2 = true) (ha : PA X [q, q2] (SA T xc cs gl Wx a)) :
    PI X tg (.Call (.Name x p) [q, q2] [] pos) (SI T xc cs gl Wx .zip a) := by
  subst hx
  cases tg with
  | Tuple es n tp =>
    have nb : (backTo pos (starEach [q2] X.env)).any (·.1) = false := back_no fun r hr => by rw [List.mem_singleton.mp hr]; exact hn2
    refine (pi_zip (gl_of C.es hg) (C.md.blt _ (by decide +kernel)) ha (star_of hn) nb).imp fun σ H Rr z => ?_
    obtain ⟨B, r, P, m, en, R, g⟩ := z
    refine ⟨B, r, P, m, en, R, g.imp fun ws en2 m2 B2 r2 H2 _ R2 z vs hvs => ?_⟩
    obtain ⟨zs, ck, e, q⟩ := z
    simp only [itemsR] at e
    unfold zipI at e
    split at e
    · split at e
      · rename_i us c us2 c2 g1 g2
        cases e
        obtain ⟨v, u, rfl, h, h2⟩ := hvs.v2
        obtain ⟨b, rfl, s⟩ := srcL_at (P := P) (H := H2) h g1
        obtain ⟨b2, rfl, s2⟩ := srcL_at (P := P) (H := H2) h2 g2
        rw [C.eK]
        obtain ⟨xs, d, l⟩ := s (Sub.refl _) (List.prefix_refl _) R2.s (srcL_chk g1)
        obtain ⟨xs2, d2, l2⟩ := s2 (Sub.refl _) (List.prefix_refl _) R2.s (srcL_chk g2)
        exact ⟨b, b2, xs, xs2, rfl, .inl d, .inl d2, q _ (sim_zip s s2)⟩
      · cases e
    · cases e
  | _ => cases htg
theorem pi_revrngS (C : CxOk T xc S cs gl k N fb sc Wx X) {a : E} {tg q : Expr} {x y : Str} {p p2 pos pos2 : Pos} (hx : x = ("reversed" : Str)) (hg : glB sc x = true) (hy : y = ("range" : Str)) (hg2 : glB sc y = true) (hn : noStar q = true) (ha : PE X q (SE T xc cs gl Wx a)) :
    PI X tg (.Call (.Name x p) [.Call (.Name y p2) [q] [] pos2] [] pos) (SI T xc cs gl Wx .revrng (.cons a .nil)) := by
  subst hx hy
  refine (pi_revR (gl_of C.es hg) (C.md.blt _ (by decide +kernel)) (prg_1 (gl_of C.es hg2) (C.md.blt _ (by decide +kernel)) ha (star_of hn)) rfl).imp fun σ H Rr z => one_src (it := .list) ?_
  obtain ⟨B, r, P, m, en, R, g⟩ := z
  refine ⟨B, r, P, m, en, R, g.imp fun ws en2 m2 B2 r2 H2 _ R2 z v w hw hv => ?_⟩
  obtain ⟨zs, ck, e, q⟩ := z
  subst hw
  simp only [itemsR] at e
  unfold revrngI at e
  split at e
  · rename_i n h
    split at e
    · rename_i c
      cases e
      cases h
      cases hv
      have c := rng_ok c
      refine ⟨n, rfl, by decide, by decide, c.1, c.2, q _ (sim_rngC ?_)⟩
      have e0 : (n - 0).toNat = n.toNat := by omega
      rw [e0]
      apply List.map_congr_left
      intro i hi
      rw [List.mem_range] at hi
      have e1 : (0 : Int) + ((n.toNat : Nat) : Int) - 1 = n - 1 := by omega
      rw [e1]
    · cases e
  · cases e
theorem RepK.getV {κ : Type} {B : Hp} {r : List Addr} : ∀ {vs : List (κ × V)} {ws : List (κ × W)} {i : Nat} {k : κ} {v : V}, RepK T B r vs ws → vs[i]? = some (k, v) → ∃ w, ws[i]? = some (k, w)
  | _, _, _, _, _, .nil, e => by simp at e
  | _, _, 0, _, _, .cons h _, e => by
    rw [List.getElem?_cons_zero] at e; cases e
    exact ⟨_, rfl⟩
  | _, _, i + 1, _, _, .cons _ l, e => by
    rw [List.getElem?_cons_succ] at e
    obtain ⟨w, h1⟩ := RepK.getV l e
    exact ⟨w, by rw [List.getElem?_cons_succ]; exact h1⟩
theorem RepK.lenK {κ : Type} {B : Hp} {r : List Addr} : ∀ {vs : List (κ × V)} {ws : List (κ × W)}, RepK T B r vs ws → vs.length = ws.length
  | _, _, .nil => rfl
  | _, _, .cons _ l => by rw [List.length_cons, List.length_cons, RepK.lenK l]
theorem sim_keys {B : Hp} {r : List Addr} {d : Addr} {o : PySem.Obj} {vs : List (Key × V)} {kvs : List (Key × W)} (h : B d = some (.frz o (.dK vs))) (l : RepK T B r vs kvs) : ItSim T B r (Itk d o vs) (kvs.map fun q => keyToW q.1) [] where
  go := fun i h1 h2 R c hi => ⟨R.s.bh d _ (h1 d _ h), by rw [List.length_map] at hi; rw [l.lenK]; exact hi⟩
  stop := fun h1 h2 R c => ⟨R.s.bh d _ (h1 d _ h), by rw [List.length_map, l.lenK]; exact Nat.le_refl _⟩
  yld := fun {B2 _ _ _ _ _ _ _ _ _} i h1 h2 R c y e => by
    obtain ⟨rfl, k, v, g, rfl⟩ := y
    obtain ⟨w, g2⟩ := l.getV g
    rw [List.getElem?_map, g2] at e
    simp only [Option.map_some, Option.some.injEq] at e
    subst e
    refine ⟨B2, Ext.refl, R, ?_, Sub.refl _⟩
    cases k with
    | inl i => exact .int i
    | inr s => exact .str s
theorem pi_keysS {a : E} {tg q : Expr} (ha : PE X q (SE T xc cs gl Wx a)) : PI X tg q (SI T xc cs gl Wx .keys (.cons a .nil)) := by
  refine (pi_keys ha).imp fun σ H Rr z => one_src (it := .keys) ?_
  obtain ⟨B, r, P, m, en, R, g⟩ := z
  refine ⟨B, r, P, m, en, R, g.imp fun ws en2 m2 B2 r2 H2 _ R2 z v w hw hv => ?_⟩
  obtain ⟨zs, ck, e, q⟩ := z
  subst hw
  simp only [itemsR] at e
  unfold keysI at e
  split at e
  · rename_i i h0
    cases h0
    split at e
    · rename_i kvs g
      simp only [Option.some.injEq, Prod.mk.injEq] at e
      obtain ⟨rfl, rfl⟩ := e
      cases hv with
      | ref d =>
        obtain ⟨a2, o2, e1, e2, e3⟩ := R2.s.ob i _ g
        rw [d] at e1; cases e1
        obtain ⟨o, vs, lb⟩ := R2.s.lkb i _ _ g d
        rw [R2.s.bh _ _ lb] at e2; cases e2
        cases e3 with
        | lk l => exact ⟨_, _, rfl, .inl ⟨vs, R2.s.bh _ _ lb, q _ (sim_keys lb l)⟩⟩
    · cases e
  · cases e
end
end Mp

set_option Elab.async false
set_option linter.all false
set_option maxRecDepth 100000
set_option maxHeartbeats 4000000
namespace Mp
open PySem PySem.Spec PyProof.Rows L2

/-! ### targets -/
def setN : List Nat → List V → Slo → Slo
  | j :: js, v :: vs, σ => setN js vs (σ.set j (some v))
  | _, _, σ => σ
def tgJs : Tg → List Nat
  | .one j => [j]
  | .many js => js
  | .manyL js => js
section
variable {T : Tab} {xc : Nat → Value} {S : Sta} {cs : Nat → List W → Sto → CR} {gl : List W} {k : Nat} {N : List Str} {fb : Str → Bool} {sc : Scope} {Wx : WX} {X : Cx}
theorem Rel.bindN {B P H : Hp} {r : List Addr} {m : Sto} : ∀ {js : List Nat} {ws : List W} {vs : List V} {en en2 : En} {σ : Slo}, Rel T B r P m en σ H → RepL T B r vs ws → Mp.bindN js ws en = some en2 → Rel T B r P m en2 (setN js vs σ) H ∧ vs.length = js.length
  | [], [], _, _, _, _, R, l, e => by
    cases l
    simp only [Mp.bindN, Option.some.injEq] at e; subst e
    exact ⟨R, rfl⟩
  | j :: js, w :: ws, _, _, _, _, R, l, e => by
    cases l with
    | cons h l =>
      simp only [Mp.bindN] at e
      obtain ⟨h1, h2⟩ := Rel.bindN (R.set_val h) l e
      exact ⟨h1, by rw [List.length_cons, List.length_cons, h2]⟩
  | [], _ :: _, _, _, _, _, _, _, e => by simp [Mp.bindN] at e
  | _ :: _, [], _, _, _, _, _, _, e => by simp [Mp.bindN] at e
def STg (T : Tab) (tg : Tg) : TG := fun v σ H Q => ∃ B r P m en w en2, Rel T B r P m en σ H ∧ Rep T B r v w ∧ bindT tg w m en = some en2 ∧
  ∀ us, Rel T B r P m en2 (setN (tgJs tg) us σ) H → Q (setN (tgJs tg) us σ) H
theorem PG_imp {X : Cx} {e : Expr} {t u : TG} (h : PG X e t) (q : ∀ v σ H Q, u v σ H Q → t v σ H Q) : PG X e u := ⟨fun pins s σ H v x Q I r z => h.run pins s σ H v x Q I r (q v σ H Q z)⟩
def SGs (js : List Nat) : TGs := fun vs σ H Q => vs.length = js.length ∧ Q (setN js vs σ) H
theorem pgs_names (C : CxOk T xc S cs gl k N fb sc Wx X) : ∀ {js : List Nat} {es : List Expr}, tgNames N js es fb sc = true → PGs X es (SGs js) ∧ (assignEach es X.env).length = js.length ∧ (assignEach es X.env).findIdx? (·.1) = none
  | [], [], _ => ⟨⟨fun pins s σ H vs us Q I r h => pgs_nil.run pins s σ H vs us Q I r ⟨List.length_eq_zero_iff.mp h.1, by
      have := List.length_eq_zero_iff.mp h.1
      subst this
      exact h.2⟩⟩, rfl, rfl⟩
  | [], _ :: _, h => by simp [tgNames] at h
  | j :: js, [], h => by simp [tgNames] at h
  | j :: js, e :: es, h => by
    cases e with
    | Name x p =>
      simp only [tgNames, Bool.and_eq_true] at h
      obtain ⟨⟨h1, h2⟩, h3⟩ := h
      obtain ⟨g1, g2, g3⟩ := pgs_names C h3
      obtain ⟨l1, l2⟩ := loc_of h2
      have G : PG X (.Name x p) (gName j) := pg_name (by rw [C.eN]; exact C.nd) (C.name h1) (by rw [C.es]; exact l1) (by rw [C.ef, C.es]; exact l2)
      refine ⟨⟨fun pins s σ H vs us Q I r z => (pgs_cons G g1 rfl).run pins s σ H vs us Q I r ?_⟩, ?_, ?_⟩
      · obtain ⟨z1, z2⟩ := z
        cases vs with
        | nil => simp at z1
        | cons v vs => exact ⟨v, vs, rfl, by simpa using z1, z2⟩
      · show (assignEach es X.env).length + 1 = js.length + 1
        rw [g2]
      · show ((false, assign (.Name x p) X.env) :: assignEach es X.env).findIdx? (·.1) = none
        rw [List.findIdx?_cons, g3]; rfl
    | _ => simp [tgNames] at h
theorem pg_tg (C : CxOk T xc S cs gl k N fb sc Wx X) (hcB : S.cB = true) {tg : Tg} {p : Expr} (h : okT N fb sc tg p = true) : PG X p (STg T tg) := by
  unfold okT at h
  split at h
  · rename_i j x pos
    rw [Bool.and_eq_true] at h
    obtain ⟨l1, l2⟩ := loc_of h.2
    refine PG_imp (pg_name (by rw [C.eN]; exact C.nd) (C.name h.1) (by rw [C.es]; exact l1) (by rw [C.ef, C.es]; exact l2)) fun v σ H Q z => ?_
    obtain ⟨B, r, P, m, en, w, en2, R, hv, e, q⟩ := z
    simp only [bindT, Option.some.injEq] at e
    subst e
    exact q [v] (R.set_val hv)
  · rename_i js es n pos
    obtain ⟨g1, g2, g3⟩ := pgs_names C h
    refine PG_imp (pg_tup (C.calm hcB) g1 g2 g3) fun v σ H Q z => ?_
    obtain ⟨B, r, P, m, en, w, en2, R, hv, e, q⟩ := z
    cases w with
    | tup ws =>
      simp only [bindT] at e
      cases hv with
      | tup d l =>
        obtain ⟨R2, hl⟩ := R.bindN l e
        rw [C.eK]
        exact ⟨_, _, rfl, R.s.bh.sqt d, hl, hl, q _ R2⟩
    | _ => simp [bindT] at e
  · rename_i js es n pos
    obtain ⟨g1, g2, g3⟩ := pgs_names C h
    refine PG_imp (pg_lst (C.calm hcB) g1 g2 g3) fun v σ H Q z => ?_
    obtain ⟨B, r, P, m, en, w, en2, R, hv, e, q⟩ := z
    simp only [bindT] at e
    split at e
    · rename_i ws g
      obtain ⟨a, vs, rfl, d, l⟩ := RepT.lst R.s (.inl hv) g
      obtain ⟨R2, hl⟩ := R.bindN l e
      rw [C.eK]
      exact ⟨a, vs, rfl, .inl d, hl, hl, q _ R2⟩
    · cases e
  · cases h

/-! ### names forgotten and found again -/
theorem Rel.set_none {B P H : Hp} {r : List Addr} {m : Sto} {en : En} {σ : Slo} {j : Nat} (R : Rel T B r P m en σ H) : Rel T B r P m (en.set j none) (σ.set j none) H := by
  have get : ∀ (i : Nat) (s : Sl), (en.set j none)[i]? = some (some s) → j ≠ i ∧ en[i]? = some (some s) := fun i s hi => by
    by_cases c : j = i
    · subst c
      by_cases hl : j < en.length
      · rw [List.getElem?_set_self hl] at hi; cases hi
      · rw [List.getElem?_eq_none (by rw [List.length_set]; omega)] at hi; cases hi
    · rw [List.getElem?_set_ne c] at hi; exact ⟨c, hi⟩
  refine ⟨R.s, by rw [List.length_set, List.length_set]; exact R.e.len, fun i s hi => ?_, fun i l xs ys q e1 e2 e3 e4 => ?_⟩
  · obtain ⟨c, hi⟩ := get i s hi
    rw [List.getElem?_set_ne c]
    exact R.e.sl i s hi
  · obtain ⟨c1, e1⟩ := get i _ e1
    obtain ⟨c2, e2⟩ := get l _ e2
    rw [List.getElem?_set_ne c1] at e3
    rw [List.getElem?_set_ne c2] at e4
    exact R.e.dis i l xs ys q e1 e2 e3 e4
theorem Rel.wipe {B P H : Hp} {r : List Addr} {m : Sto} {en : En} {σ : Slo} (R : Rel T B r P m en σ H) : ∀ js : List Nat, Rel T B r P m (wipeE en js) (L2.wipe σ js) H
  | [] => R
  | j :: js => (R.wipe js).set_none
theorem wipe_get (σ : Slo) (i : Nat) : ∀ js : List Nat, (L2.wipe σ js)[i]? = if i ∈ js ∧ i < σ.length then some none else σ[i]?
  | [] => by simp [L2.wipe]
  | j :: js => by
    unfold L2.wipe
    have ih := wipe_get σ i js
    have hl : (L2.wipe σ js).length = σ.length := wipe_length σ js
    by_cases c : j = i
    · subst c
      by_cases h : j < σ.length
      · rw [List.getElem?_set_self (by rw [hl]; exact h), if_pos ⟨List.mem_cons_self, h⟩]
      · rw [List.getElem?_eq_none (by rw [List.length_set, hl]; omega), if_neg (fun z => h z.2), List.getElem?_eq_none (by omega)]
    · rw [List.getElem?_set_ne c, ih]
      by_cases h : i ∈ js ∧ i < σ.length
      · rw [if_pos h, if_pos ⟨List.mem_cons_of_mem _ h.1, h.2⟩]
      · rw [if_neg h, if_neg fun z => h ⟨(List.mem_cons.mp z.1).resolve_left (fun e => c e.symm), z.2⟩]
theorem setN_len (js : List Nat) : ∀ (vs : List V) (σ : Slo), (setN js vs σ).length = σ.length := by
  induction js with
  | nil => intro vs σ; rfl
  | cons j js ih =>
    intro vs σ
    cases vs with
    | nil => rfl
    | cons v vs =>
      show (setN js vs (σ.set j (some v))).length = _
      rw [ih, List.length_set]
theorem setN_get (js : List Nat) : ∀ (vs : List V) (σ : Slo) (i : Nat), i ∉ js → (setN js vs σ)[i]? = σ[i]? := by
  induction js with
  | nil => intro vs σ i _; rfl
  | cons j js ih =>
    intro vs σ i hi
    cases vs with
    | nil => rfl
    | cons v vs =>
      show (setN js vs (σ.set j (some v)))[i]? = _
      rw [ih _ _ _ fun z => hi (List.mem_cons_of_mem _ z), List.getElem?_set_ne fun e => hi (by rw [← e]; exact List.mem_cons_self)]
theorem wipe_setN (js : List Nat) (vs : List V) (σ : Slo) : L2.wipe (setN js vs (L2.wipe σ js)) js = L2.wipe σ js := by
  apply List.ext_getElem?
  intro i
  rw [wipe_get, wipe_get, setN_len, wipe_length]
  by_cases h : i ∈ js
  · by_cases h2 : i < σ.length
    · rw [if_pos ⟨h, h2⟩, if_pos ⟨h, h2⟩]
    · rw [if_neg fun z => h2 z.2, if_neg fun z => h2 z.2, List.getElem?_eq_none (by rw [setN_len, wipe_length]; omega), List.getElem?_eq_none (by omega)]
  · rw [if_neg fun z => h z.1, if_neg fun z => h z.1, setN_get _ _ _ _ h, wipe_get, if_neg fun z => h z.1]
theorem frzE_len (en : En) : ∀ js : List Nat, (frzE en js).length = en.length
  | [] => rfl
  | j :: js => by
    unfold frzE
    split
    · rw [List.length_set, frzE_len en js]
    · exact frzE_len en js
theorem Rel.frzs {B P H : Hp} {r : List Addr} {m : Sto} {en : En} {σ : Slo} (R : Rel T B r P m en σ H) : ∀ js : List Nat, ∃ B2, Ext P B r B2 r ∧ Rel T B2 r P m (frzE en js) σ H
  | [] => ⟨B, Ext.refl, R⟩
  | j :: js => by
    obtain ⟨B2, e, R2⟩ := R.frzs js
    unfold frzE
    split
    · rename_i ws g
      obtain ⟨v, h1, h2⟩ := R2.e.sl j _ (enGet_some g)
      obtain ⟨B3, e3, R3, _⟩ := R2.frz_slot (enGet_some g) h1
      exact ⟨B3, e.trans e3, R3⟩
    · exact ⟨B2, e, R2⟩
theorem frzE_val (en : En) {i : Nat} {ws : List W} : ∀ js : List Nat, i ∈ js → (frzE en js)[i]? ≠ some (some (.own ws))
  | [], h => by cases h
  | j :: js, h => by
    unfold frzE
    by_cases c : i ∈ js
    · have ih := frzE_val en (ws := ws) js c
      split
      · rename_i us g
        by_cases cj : j = i
        · subst cj
          by_cases hl : j < (frzE en js).length
          · rw [List.getElem?_set_self hl]; intro z; cases z
          · rw [List.getElem?_eq_none (by rw [List.length_set]; omega)]; intro z; cases z
        · rw [List.getElem?_set_ne cj]; exact ih
      · exact ih
    · have e : i = j := (List.mem_cons.mp h).resolve_right c
      subst e
      split
      · rename_i us g
        by_cases hl : i < (frzE en js).length
        · rw [List.getElem?_set_self hl]; intro z; cases z
        · rw [List.getElem?_eq_none (by rw [List.length_set]; omega)]; intro z; cases z
      · rename_i g
        intro z
        exact g ws (enGet_of z)
theorem restE_len (a b : En) : ∀ js : List Nat, (restE a b js).length = b.length
  | [] => rfl
  | j :: js => by unfold restE; rw [List.length_set, restE_len a b js]
theorem restE_get (a b : En) (i : Nat) : ∀ js : List Nat, (restE a b js)[i]? = if i ∈ js ∧ i < b.length then some (enGet a i) else b[i]?
  | [] => by simp [restE]
  | j :: js => by
    unfold restE
    have ih := restE_get a b i js
    by_cases c : j = i
    · subst c
      by_cases h : j < b.length
      · rw [List.getElem?_set_self (by rw [restE_len]; exact h), if_pos ⟨List.mem_cons_self, h⟩]
      · rw [List.getElem?_eq_none (by rw [List.length_set, restE_len]; omega), if_neg (fun z => h z.2), List.getElem?_eq_none (by omega)]
    · rw [List.getElem?_set_ne c, ih]
      by_cases h : i ∈ js ∧ i < b.length
      · rw [if_pos h, if_pos ⟨List.mem_cons_of_mem _ h.1, h.2⟩]
      · rw [if_neg h, if_neg fun z => h ⟨(List.mem_cons.mp z.1).resolve_left (fun e => c e.symm), z.2⟩]
theorem Rel.rest {B B2 P H H2 : Hp} {r r2 : List Addr} {m m2 : Sto} {en en2 : En} {σ : Slo} {js : List Nat} (R : Rel T B r P m (frzE en js) σ H) (e : Ext P B r B2 r2) (R2 : Rel T B2 r2 P m2 en2 (L2.wipe σ js) H2) : Rel T B2 r2 P m2 (restE (frzE en js) en2 js) σ H2 := by
  have l2 : en2.length = σ.length := by rw [R2.e.len, wipe_length]
  have get : ∀ (i : Nat) (s : Sl), (restE (frzE en js) en2 js)[i]? = some (some s) → (i ∈ js ∧ (frzE en js)[i]? = some (some s)) ∨ (i ∉ js ∧ en2[i]? = some (some s) ∧ σ[i]? = (L2.wipe σ js)[i]?) := fun i s hi => by
    rw [restE_get] at hi
    by_cases c : i ∈ js
    · by_cases h : i < en2.length
      · rw [if_pos ⟨c, h⟩] at hi
        simp only [Option.some.injEq] at hi
        exact .inl ⟨c, enGet_some hi⟩
      · rw [if_neg fun z => h z.2, List.getElem?_eq_none (by omega)] at hi; cases hi
    · rw [if_neg fun z => c z.1] at hi
      exact .inr ⟨c, hi, by rw [wipe_get, if_neg fun z => c z.1]⟩
  refine ⟨R2.s, by rw [restE_len]; exact l2, fun i s hi => ?_, fun i l xs ys q e1 e2 e3 e4 => ?_⟩
  · rcases get i s hi with ⟨c, h⟩ | ⟨c, h, hσ⟩
    · obtain ⟨v, h1, h2⟩ := R.e.sl i s h
      refine ⟨v, h1, ?_⟩
      cases s with
      | val w => exact Rep.mono e.sub e.pre h2
      | own ws => exact absurd h (frzE_val en js c)
    · rw [hσ]; exact R2.e.sl i s h
  · rcases get i _ e1 with ⟨c, h⟩ | ⟨c, h, hσ⟩
    · exact absurd h (frzE_val en js c)
    · rcases get l _ e2 with ⟨c2, h2⟩ | ⟨c2, h2, hσ2⟩
      · exact absurd h2 (frzE_val en js c2)
      · rw [hσ] at e3
        rw [hσ2] at e4
        exact R2.e.dis i l xs ys q h h2 e3 e4
/-- less is protected -/
theorem Rel.weak {B P P2 H : Hp} {r : List Addr} {m : Sto} {en : En} {σ : Slo} (s : Sub P P2) (R : Rel T B r P2 m en σ H) : Rel T B r P m en σ H := by
  refine ⟨⟨R.s.bh, s.trans R.s.ph, R.s.nd, R.s.len, fun a ha => ⟨(R.s.fr a ha).1, s.none (R.s.fr a ha).2⟩, R.s.ob, R.s.lkb⟩, R.e.len, fun i sl hi => ?_, R.e.dis⟩
  obtain ⟨v, h1, h2⟩ := R.e.sl i sl hi
  refine ⟨v, h1, ?_⟩
  cases sl with
  | val w => exact h2
  | own ws =>
    obtain ⟨p, rfl, o⟩ := h2
    exact ⟨p, rfl, o.at_, o.nb, s.none o.np, o.nr⟩
theorem Ext.weak {B B2 P P2 : Hp} {r r2 : List Addr} (s : Sub P P2) (e : Ext P2 B r B2 r2) : Ext P B r B2 r2 := ⟨e.sub, e.pre, fun a h => e.fix a fun z => h (s.none z)⟩
/-- a place that nobody holds is protected, too, and may be put otherwise -/
theorem Rel.prot {B P H : Hp} {r : List Addr} {m : Sto} {en : En} {σ : Slo} {D : Addr} {o : HO} (R : Rel T B r P m en σ H) (hH : H D = none) : Rel T B r (upd P D o) m en σ (upd H D o) := by
  have R2 := R.grow (Sub.new (o := o) hH)
  have hr := R.no_sto hH
  have ne : ∀ {a : Addr}, a ∈ r → a ≠ D := fun ha e => hr (e ▸ ha)
  refine ⟨⟨R2.s.bh, fun a u h => ?_, R2.s.nd, R2.s.len, fun a ha => ⟨(R2.s.fr a ha).1, by rw [upd_ne (ne ha)]; exact (R2.s.fr a ha).2⟩, R2.s.ob, R2.s.lkb⟩, R2.e.len, fun i sl hi => ?_, R2.e.dis⟩
  · by_cases c : a = D
    · rw [c, upd_same] at h; cases h; rw [c]; exact upd_same
    · rw [upd_ne c] at h; exact R2.s.ph a u h
  · obtain ⟨v, h1, h2⟩ := R2.e.sl i sl hi
    refine ⟨v, h1, ?_⟩
    cases sl with
    | val w => exact h2
    | own ws =>
      obtain ⟨p, rfl, q⟩ := h2
      have c : p ≠ D := fun e => by
        subst e
        obtain ⟨p2, e2, o2⟩ := R.e.own_at hi
        rw [h1] at e2; cases e2
        obtain ⟨vs, b1, _⟩ := o2.at_
        rw [hH] at b1; cases b1
      exact ⟨p, rfl, q.at_, q.nb, by rw [upd_ne c]; exact q.np, q.nr⟩
theorem Rel.reprot {B P H : Hp} {r : List Addr} {m : Sto} {en : En} {σ : Slo} {D : Addr} {o u : HO} (R : Rel T B r (upd P D o) m en σ H) (hB : B D = none) : Rel T B r (upd P D u) m en σ (upd H D u) := by
  have hr : D ∉ r := fun z => by
    have := (R.s.fr D z).2
    rw [upd_same] at this; cases this
  have ne : ∀ {a : Addr}, a ∈ r → a ≠ D := fun ha e => hr (e ▸ ha)
  refine ⟨⟨sub_upd R.s.bh hB, fun a q h => ?_, R.s.nd, R.s.len, fun a ha => ⟨(R.s.fr a ha).1, ?_⟩, fun i b h => ?_, R.s.lkb⟩, R.e.len, fun i sl hi => ?_, R.e.dis⟩
  · by_cases c : a = D
    · rw [c, upd_same] at h; cases h; rw [c]; exact upd_same
    · rw [upd_ne c] at h ⊢
      exact R.s.ph a q (by rw [upd_ne c]; exact h)
  · have := (R.s.fr a ha).2
    rw [upd_ne (ne ha)] at this ⊢
    exact this
  · obtain ⟨a, q, h1, h2, h3⟩ := R.s.ob i b h
    exact ⟨a, q, h1, by rw [upd_ne (ne (List.mem_of_getElem? h1))]; exact h2, h3⟩
  · obtain ⟨v, h1, h2⟩ := R.e.sl i sl hi
    refine ⟨v, h1, ?_⟩
    cases sl with
    | val w => exact h2
    | own ws =>
      obtain ⟨p, rfl, q⟩ := h2
      have c : p ≠ D := fun e => by
        have := q.np
        rw [e, upd_same] at this; cases this
      obtain ⟨⟨vs, b1, b2⟩, b3, b4, b5⟩ := q
      rw [upd_ne c] at b4
      exact ⟨p, rfl, ⟨vs, by rw [upd_ne c]; exact b1, b2⟩, b3, by rw [upd_ne c]; exact b4, b5⟩
end
/-! ### results that are known -/
theorem bind_ok {A C : Type} {x : R A} {f : A → En → Sto → R C} {c : C} {en : En} {m : Sto} (h : x.bind f = .ok c en m) : ∃ a en1 m1, x = .ok a en1 m1 ∧ f a en1 m1 = .ok c en m := by
  cases x with
  | ok a en1 m1 => exact ⟨a, en1, m1, rfl, h⟩
  | ex c en m => cases h
  | bad => cases h
theorem noex_ok {A : Type} {x : R A} {a : A} {en : En} {m : Sto} (h : x.noex = .ok a en m) : x = .ok a en m := by
  cases x with
  | ok _ _ _ => exact h
  | ex _ _ _ => cases h
  | bad => cases h
theorem opt_ok {A C : Type} {o : Option A} {f : A → R C} {c : C} {en : En} {m : Sto} (h : Mp.opt o f = .ok c en m) : ∃ a, o = some a ∧ f a = .ok c en m := by
  cases o with
  | none => cases h
  | some a => exact ⟨a, rfl, h⟩
theorem opt2_ok {A A2 C : Type} {o : Option (A × A2)} {f : A → A2 → R C} {c : C} {en : En} {m : Sto} (h : Mp.opt2 o f = .ok c en m) : ∃ a b, o = some (a, b) ∧ f a b = .ok c en m := by
  cases o with
  | none => cases h
  | some p => exact ⟨p.1, p.2, rfl, h⟩
theorem if_ok {A : Type} {p : Prop} [Decidable p] {x : R A} {a : A} {en : En} {m : Sto} (h : (if p then x else .bad) = .ok a en m) : p ∧ x = .ok a en m := by
  by_cases c : p
  · rw [if_pos c] at h; exact ⟨c, h⟩
  · rw [if_neg c] at h; cases h
theorem compL_ex {ck : Sto → Bool} {f : W → En → Sto → R (Option W)} : ∀ {zs : List W} {en : En} {m : Sto} {c : Nat} {en2 : En} {m2 : Sto}, compL ck f zs en m ≠ .ex c en2 m2
  | [], en, m, c, en2, m2, h => by
    unfold compL at h
    split at h <;> cases h
  | z :: zs, en, m, c, en2, m2, h => by
    unfold compL at h
    split at h
    · cases q : (f z en m).noex with
      | ok o e1 m1 =>
        rw [q] at h
        simp only [R.bind] at h
        cases q2 : compL ck f zs e1 m1 with
        | ok r e2 m3 => rw [q2] at h; cases h
        | ex c2 e2 m3 => exact compL_ex q2
        | bad => rw [q2] at h; cases h
      | ex c e1 m1 => cases g : f z en m <;> rw [g] at q <;> cases q
      | bad => rw [q] at h; cases h
    · cases h
end Mp

set_option Elab.async false
set_option linter.all false
set_option maxRecDepth 100000
set_option maxHeartbeats 4000000
namespace Mp
open PySem PySem.Spec PyProof.Rows L2

section
variable {T : Tab} {xc : Nat → Value} {S : Sta} {cs : Nat → List W → Sto → CR} {gl : List W} {k : Nat} {N : List Str} {fb : Str → Bool} {sc : Scope} {Wx : WX} {X : Cx}
abbrev W0 : WX := fun _ _ _ _ => False
theorem CxOk.blk (C : CxOk T xc S cs gl k N fb sc Wx X) (s : Shared) (H : Hp) (scope : Scope) (cl : List (Str × Addr)) (A : Addr) (fp : List Addr) :
    CxOk T xc S cs gl k N (fun x => scope.names.lookup x == some .cell) (relS scope sc) W0 (X.blk s H scope (compEnvC scope cl A X.env) fp) where
  eK := C.eK
  eN := C.eN
  nd := C.nd
  es := by rw [← C.es]; rfl
  ef := rfl
  calm := C.calm
  room := C.room
  un := C.un
  tk := takes0
  md := C.md
/-- a test of a comprehension, or none -/
def ST (T : Tab) (xc : Nat → Value) (cs : Nat → List W → Sto → CR) (gl : List W) (Wx : WX) (c : E) : TT := fun σ H Q => (isNil c = true ∧ Q true H) ∨ (isNil c = false ∧ SB T xc cs gl Wx c σ H Q)
theorem ownN_js (N : List Str) (js : List Nat) : (ownN N js).map (·.2) = js := by
  unfold ownN
  rw [List.map_map]
  exact (List.map_congr_left fun j _ => rfl).trans (List.map_id js)
theorem snd_comp (C : CxOk T xc S cs gl k N fb sc Wx X) (hcB : S.cB = true) {it : It} {src c elt : E} {tg : Tg} {js : List Nat} {pe pt pi : Expr} {ifs : List Expr} {scope : Scope} {pos : Pos}
    (hi : PI X pt pi (SI T xc cs gl Wx it src)) (hb : blkC N sc scope (ownN N js) = true) (htg : okT N (fun x => scope.names.lookup x == some .cell) (relS scope sc) tg pt = true) (hj : js = tgJs tg)
    (ht : ∀ {Y : Cx}, CxOk T xc S cs gl k N (fun x => scope.names.lookup x == some .cell) (relS scope sc) W0 Y → PTs Y ifs (ST T xc cs gl W0 c))
    (he : ∀ {Y : Cx}, CxOk T xc S cs gl k N (fun x => scope.names.lookup x == some .cell) (relS scope sc) W0 Y → PE Y pe (SE T xc cs gl W0 elt)) (hs : setB pi = false) :
    PE X (.ListComp pe [⟨pt, pi, ifs, 0⟩] scope pos) (SE T xc cs gl Wx (.comp it src tg js c elt)) ∧ ∀ σ H Q, SE T xc cs gl Wx (.comp it src tg js c elt) σ H Q → tLc (SI T xc cs gl Wx it src) (STg T tg) (ST T xc cs gl W0 c) (SE T xc cs gl W0 elt) ((ownN N js).map (·.2)) σ H Q := by
  have rd : ∀ σ H Q, SE T xc cs gl Wx (.comp it src tg js c elt) σ H Q → tLc (SI T xc cs gl Wx it src) (STg T tg) (ST T xc cs gl W0 c) (SE T xc cs gl W0 elt) ((ownN N js).map (·.2)) σ H Q := fun σ H Q z => by
    rw [ownN_js]
    obtain ⟨B, r, P, m, en, R, g⟩ := z
    simp only [ev] at g
    refine ⟨B, r, P, m, en, R, g.bind fun ws en1 m1 B1 r1 H1 e1 R1 h1 => ?_⟩
    obtain ⟨zs, ck, e2, h2⟩ := h1.opt2
    obtain ⟨hz, h3⟩ := h2.ifp
    refine ⟨zs, ck, e2, fun J sim D hD => ?_⟩
    obtain ⟨B2, e3, R2⟩ := R1.frzs js
    have h3 := PostG.mono e3 h3
    -- the loop's result is known
    generalize hf : compF tg js (isNil c) (fun en m => ev cs gl c en m) (fun en m => ev cs gl elt en m) = f at h3
    cases hx : compL (chk ck) f zs (wipeE (frzE en1 js) js) m1 with
    | bad => rw [hx] at h3; exact h3.elim
    | ex c0 en0 m0 => exact absurd hx compL_ex
    | ok rr en2 m2 =>
      rw [hx] at h3
      have hB : B2 D = none := R2.s.bh.none hD
      have hP : P D = none := R2.s.ph.none hD
      have sP : Sub P (upd P D (.lst [])) := Sub.new hP
      -- what holds between two turns
      refine ⟨fun i mm H3 => mm = zs.length - i ∧ i ≤ zs.length ∧ ∃ B3 r3 m3 en3 acc wacc rest, Ext P B2 r1 B3 r3 ∧ Rel T B3 r3 (upd P D (.lst acc)) m3 en3 (L2.wipe σ js) H3 ∧ RepL T B3 r3 acc wacc ∧ wacc.length ≤ i ∧ B3 D = none ∧
        compL (chk ck) f (zs.drop i) en3 m3 = .ok rest en2 m2 ∧ wacc ++ rest = rr, ⟨zs.length, rfl, Nat.zero_le _, B2, r1, m1, _, [], [], rr, Ext.refl, (R2.wipe js).prot hD, .nil, Nat.zero_le _, hB, hx, rfl⟩, fun i mm H3 hW => ?_⟩
      obtain ⟨rfl, hi, B3, r3, m3, en3, acc, wacc, rest, e4, R3, la, hl, hB3, hc, hrr⟩ := hW
      have e5 := e3.trans e4
      have pre3 : r1 <+: r3 := e4.pre
      by_cases hlt : i < zs.length
      · -- one more turn
        right
        have hd : zs.drop i = zs[i] :: zs.drop (i + 1) := List.drop_eq_getElem_cons hlt
        rw [hd] at hc
        unfold compL at hc
        obtain ⟨hck, hc⟩ := if_ok hc
        obtain ⟨o, en4, m4, f1, hc⟩ := bind_ok hc
        obtain ⟨rest2, en5, m5, f2, hc⟩ := bind_ok hc
        simp only [Mp.R.ok.injEq] at hc
        obtain ⟨hrest, rfl, rfl⟩ := hc
        have f1 := noex_ok f1
        refine ⟨sim.go i e5.sub pre3 R3 hck hlt, fun H4 => ∃ B4 r4 acc2 wacc2, Ext P B2 r1 B4 r4 ∧ Rel T B4 r4 (upd P D (.lst acc2)) m4 en4 (L2.wipe σ js) H4 ∧ RepL T B4 r4 acc2 wacc2 ∧ wacc2.length ≤ i + 1 ∧ B4 D = none ∧ wacc2 ++ rest2 = rr, fun H4 q => ?_, fun x H4 y => ?_⟩
        · obtain ⟨B4, r4, acc2, wacc2, q1, q2, q3, q4, q5, q6⟩ := q
          exact ⟨zs.length - (i + 1), by omega, rfl, hlt, B4, r4, m4, en4, acc2, wacc2, rest2, q1, q2, q3, q4, q5, f2, q6⟩
        · obtain ⟨B4, e6, R4, hz2, sH⟩ := sim.yld i e5.sub pre3 R3 hck y (List.getElem?_eq_getElem hlt)
          rw [← hf] at f1
          unfold compF at f1
          obtain ⟨en6, f3, f1⟩ := opt_ok f1
          obtain ⟨t, en7, m7, f4, f1⟩ := bind_ok f1
          have sp : Sub P (upd P D (.lst acc)) := Sub.new hP
          refine ⟨B4, r3, upd P D (.lst acc), m3, en3, _, en6, R4, hz2, f3, fun us R6 => ⟨?_, ?_⟩⟩
          · rw [← hj]; exact wipe_setN js us σ
          · rw [← hj] at R6 ⊢
            -- behind the test
            have body : ∀ {B7 : Hp} {r7 : List Addr} {H7 : Hp}, Ext (upd P D (.lst acc)) B4 r3 B7 r7 → Rel T B7 r7 (upd P D (.lst acc)) m7 en7 (setN js us (L2.wipe σ js)) H7 →
                (if t = true then SE T xc cs gl W0 elt (setN js us (L2.wipe σ js)) H7 fun y H8 => ∃ acc3, H8 D = some (.lst acc3) ∧ acc3.length < sizeLine ∧ ∃ B4 r4 acc2 wacc2, Ext P B2 r1 B4 r4 ∧ Rel T B4 r4 (upd P D (.lst acc2)) m4 en4 (L2.wipe σ js) (upd H8 D (.lst (acc3 ++ [y]))) ∧ RepL T B4 r4 acc2 wacc2 ∧ wacc2.length ≤ i + 1 ∧ B4 D = none ∧ wacc2 ++ rest2 = rr
                else ∃ B4 r4 acc2 wacc2, Ext P B2 r1 B4 r4 ∧ Rel T B4 r4 (upd P D (.lst acc2)) m4 en4 (L2.wipe σ js) H7 ∧ RepL T B4 r4 acc2 wacc2 ∧ wacc2.length ≤ i + 1 ∧ B4 D = none ∧ wacc2 ++ rest2 = rr) := fun {B7 r7 H7} e7 R7 => by
              have hB7 : B7 D = none := by
                rw [e7.fix D (by rw [upd_same]; exact fun z => nomatch z), e6.fix D (by rw [upd_same]; exact fun z => nomatch z)]
                exact hB3
              have back := fun {B8 : Hp} {r8 : List Addr} {H8 : Hp} {en8 : En} {m8 : Sto} (R8 : Rel T B8 r8 (upd P D (.lst acc)) m8 en8 (setN js us (L2.wipe σ js)) H8) => R8.wipe js
              have e47 : Ext P B2 r1 B7 r7 := e4.trans ((e6.weak sp).trans (e7.weak sp))
              have l7 : RepL T B7 r7 acc wacc := la.mono (e6.sub.trans e7.sub) (e6.pre.trans e7.pre)
              cases t with
              | false =>
                rw [if_neg Bool.false_ne_true] at f1
                simp only [Mp.R.ok.injEq] at f1
                obtain ⟨rfl, rfl, rfl⟩ := f1
                refine iteF ⟨B7, r7, acc, wacc, e47, ?_, l7, by omega, hB7, ?_⟩
                · have := R7.wipe js
                  rw [wipe_setN] at this; exact this
                · rw [← hrr, ← hrest]
              | true =>
                rw [if_pos rfl] at f1
                obtain ⟨x2, en8, m8, f5, f1⟩ := bind_ok f1
                obtain ⟨w, en9, f6, f1⟩ := opt2_ok f1
                simp only [Mp.R.ok.injEq] at f1
                obtain ⟨rfl, rfl, rfl⟩ := f1
                have f5 : ev cs gl elt en7 m7 = Mp.R.ok x2 en8 m8 := f5
                refine iteT ⟨B7, r7, _, m7, en7, R7, ?_⟩
                rw [f5]
                intro B8 r8 H8 e8 R8 v hv
                obtain ⟨B9, e9, R9, hw⟩ := R8.esc hv f6
                have hD8 : H8 D = some (.lst acc) := R9.s.ph D _ upd_same
                have hB9 : B9 D = none := by
                  rw [e9.fix D (by rw [upd_same]; exact fun z => nomatch z), e8.fix D (by rw [upd_same]; exact fun z => nomatch z)]
                  exact hB7
                have l9 : RepL T B9 r8 acc wacc := (l7.mono e8.sub e8.pre).mono e9.sub e9.pre
                refine ⟨acc, hD8, ?_, B9, r8, acc ++ [v], wacc ++ [w], e47.trans ((e8.weak sp).trans (e9.weak sp)), ?_, l9.app (.cons hw .nil), ?_, hB9, ?_⟩
                · rw [la.len]
                  refine Nat.lt_of_le_of_lt hl (Nat.lt_of_lt_of_le hlt (lim_line hz))
                · have := (R9.reprot (u := .lst (acc ++ [v])) hB9).wipe js
                  rw [wipe_setN] at this; exact this
                · rw [List.length_append, List.length_singleton]; omega
                · rw [← hrr, ← hrest, List.append_assoc]; rfl
            by_cases hn : isNil c = true
            · rw [if_pos hn] at f4
              simp only [Mp.R.ok.injEq] at f4
              obtain ⟨rfl, rfl, rfl⟩ := f4
              exact .inl ⟨hn, body Ext.refl R6⟩
            · have hn : isNil c = false := by simpa using hn
              rw [if_neg (by rw [hn]; exact Bool.false_ne_true)] at f4
              obtain ⟨x2, en8, m8, f5, f4⟩ := bind_ok f4
              obtain ⟨t2, f6, f4⟩ := opt_ok f4
              simp only [Mp.R.ok.injEq] at f4
              obtain ⟨rfl, rfl, rfl⟩ := f4
              have f5 : ev cs gl c en6 m3 = Mp.R.ok x2 en8 m8 := f5
              refine .inr ⟨hn, B4, r3, _, m3, en6, R6, ?_⟩
              rw [f5]
              exact fun B8 r8 H8 e8 R8 => ⟨_, f6, body e8 R8⟩
      · -- the end
        left
        have e : i = zs.length := by omega
        subst e
        rw [List.drop_length] at hc
        unfold compL at hc
        obtain ⟨hck, hc⟩ := if_ok hc
        simp only [Mp.R.ok.injEq] at hc
        obtain ⟨rfl, rfl, rfl⟩ := hc
        rw [List.append_nil] at hrr
        subst hrr
        refine ⟨sim.stop e5.sub pre3 R3 hck, ?_⟩
        have sp : Sub P (upd P D (.lst acc)) := Sub.new hP
        have R6 := R2.rest e4 (R3.weak sp)
        refine h3 B3 r3 H3 e4 R6 _ ⟨D, rfl, ⟨⟨acc, R3.s.ph D _ upd_same, la⟩, hB3, hP, fun z => ?_⟩, fun j ys hj2 e => ?_⟩
        · have := (R3.s.fr D z).2
          rw [upd_same] at this; cases this
        · obtain ⟨q, q1, q2⟩ := R6.e.own_at hj2
          rw [e] at q1; cases q1
          rw [restE_get] at hj2
          have l2 : en3.length = σ.length := by rw [R3.e.len, wipe_length]
          by_cases cj : j ∈ js
          · by_cases cl : j < en3.length
            · rw [if_pos ⟨cj, cl⟩] at hj2
              simp only [Option.some.injEq] at hj2
              exact frzE_val en1 js cj (enGet_some hj2)
            · rw [if_neg fun z => cl z.2, List.getElem?_eq_none (by omega)] at hj2; cases hj2
          · rw [if_neg fun z => cj z.1] at hj2
            obtain ⟨q, q3, q4⟩ := R3.e.own_at hj2
            rw [wipe_get, if_neg fun z => cj z.1, e] at q3
            cases q3
            have := q4.np
            rw [upd_same] at this; cases this
  refine ⟨(pe_lc (C.calm hcB) (by rw [C.eN]; exact C.nd) hi (by rw [C.eN, C.es]; exact blkOk_by hb) (fun s H A cl fp => pg_tg (C.blk s H scope cl A fp) hcB htg) (fun s H A cl fp => ht (C.blk s H scope cl A fp)) (fun s H A cl fp => he (C.blk s H scope cl A fp)) (fold_of hs)).imp rd, rd⟩
end
end Mp

set_option Elab.async false
set_option linter.all false
set_option maxRecDepth 100000
set_option maxHeartbeats 4000000
/-! objects: attributes, methods, makings, dicts -/
namespace Mp
open PySem PySem.Spec PyProof.Rows L2

section
variable {κ : Type} {T : Tab} {B B2 P H : Hp} {r r2 : List Addr} {m : Sto} {en : En} {σ : Slo}
theorem RepK.look : ∀ {vs : List (Str × V)} {ws : List (Str × W)} {x : Str} {w : W}, RepK T B r vs ws → ws.lookup x = some w → ∃ v, vs.lookup x = some v ∧ Rep T B r v w
  | _, _, _, _, .nil, e => by simp at e
  | _, _, x, w, .cons (k := k) h l, e => by
    by_cases c : (x == k) = true
    · simp only [List.lookup, c] at e ⊢
      cases e
      exact ⟨_, rfl, h⟩
    · have c : (x == k) = false := by simpa using c
      simp only [List.lookup, c] at e ⊢
      exact RepK.look l e
theorem RepK.lookN : ∀ {vs : List (Str × V)} {ws : List (Str × W)} {x : Str}, RepK T B r vs ws → ws.lookup x = none → vs.lookup x = none
  | _, _, _, .nil, e => rfl
  | _, _, x, .cons (k := k) h l, e => by
    by_cases c : (x == k) = true
    · simp only [List.lookup, c] at e
      cases e
    · have c : (x == k) = false := by simpa using c
      simp only [List.lookup, c] at e ⊢
      exact RepK.lookN l e
theorem RepK.len : ∀ {vs : List (κ × V)} {ws : List (κ × W)}, RepK T B r vs ws → vs.length = ws.length
  | _, _, .nil => rfl
  | _, _, .cons _ l => by rw [List.length_cons, List.length_cons, RepK.len l]
theorem RepK.putF {v : V} {w : W} (hw : Rep T B r v w) (x : Str) : ∀ {vs : List (Str × V)} {ws : List (Str × W)}, RepK T B r vs ws → RepK T B r (L2.putF x v vs) (putFA x w ws)
  | _, _, .nil => .cons hw .nil
  | _, _, .cons (k := k) h l => by
    unfold L2.putF putFA
    by_cases c : k = x
    · rw [if_pos c, if_pos c]; exact .cons hw l
    · rw [if_neg c, if_neg c]; exact .cons h (RepK.putF hw x l)
theorem RepK.val : ∀ {vs : List (Key × V)} {ws : List (Key × W)} {k : Key} {w : W}, RepK T B r vs ws → valA ws k = some w → ∃ v, valV vs k = some v ∧ Rep T B r v w
  | _, _, _, _, .nil, e => by cases e
  | _, _, x, w, .cons (k := k) h l, e => by
    by_cases c : k = x
    · simp only [valA, List.find?_cons, c, decide_true, Option.map_some, Option.some.injEq] at e
      subst e
      exact ⟨_, by simp only [valV, List.find?_cons, c, decide_true, Option.map_some], h⟩
    · simp only [valA, List.find?_cons, c, decide_false] at e
      obtain ⟨v, h1, h2⟩ := RepK.val l e
      exact ⟨v, by simp only [valV, List.find?_cons, c, decide_false]; exact h1, h2⟩
theorem RepK.valN : ∀ {vs : List (Key × V)} {ws : List (Key × W)} {k : Key}, RepK T B r vs ws → valA ws k = none → valV vs k = none
  | _, _, _, .nil, e => rfl
  | _, _, x, .cons (k := k) h l, e => by
    by_cases c : k = x
    · simp [valA, List.find?_cons, c] at e
    · simp only [valA, List.find?_cons, c, decide_false] at e
      simp only [valV, List.find?_cons, c, decide_false]
      exact RepK.valN l e
theorem RepK.any : ∀ {vs : List (Key × V)} {ws : List (Key × W)} (q : Key → Bool), RepK T B r vs ws → (vs.any fun kv => q kv.1) = ws.any fun kv => q kv.1
  | _, _, _, .nil => rfl
  | _, _, q, .cons h l => by rw [List.any_cons, List.any_cons, RepK.any q l]
theorem RepK.app : ∀ {vs us : List (κ × V)} {ws zs : List (κ × W)}, RepK T B r vs ws → RepK T B r us zs → RepK T B r (vs ++ us) (ws ++ zs)
  | _, _, _, _, .nil, q => q
  | _, _, _, _, .cons h l, q => .cons h (RepK.app l q)
theorem RepK.mapK {v : V} {w : W} (hw : Rep T B r v w) (x : Key) : ∀ {vs : List (Key × V)} {ws : List (Key × W)}, RepK T B r vs ws → RepK T B r (vs.map fun kv => if kv.1 = x then (kv.1, v) else kv) (ws.map fun kv => if kv.1 = x then (kv.1, w) else kv)
  | _, _, .nil => .nil
  | _, _, .cons (k := k) h l => by
    rw [List.map_cons, List.map_cons]
    by_cases c : k = x
    · simp only [c, if_true]
      exact .cons hw (by simpa [c] using RepK.mapK hw x l)
    · simp only [c, if_false]
      exact .cons h (RepK.mapK hw x l)
theorem RepK.putK {v : V} {w : W} (hw : Rep T B r v w) (x : Key) {vs : List (Key × V)} {ws : List (Key × W)} (h : RepK T B r vs ws) : RepK T B r (L2.putK vs x v) (putA_ ws x w) := by
  unfold L2.putK putA_
  rw [RepK.any (fun k => decide (k = x)) h]
  split
  · exact h.mapK hw x
  · exact h.app (.cons hw .nil)
theorem RepK.keys : ∀ {vs : List (Key × V)} {ws : List (Key × W)}, RepK T B r vs ws → RepL T B r (vs.map fun kv => kV kv.1) (ws.map fun q => keyToW q.1)
  | _, _, .nil => .nil
  | _, _, .cons (k := k) h l => by
    rw [List.map_cons, List.map_cons]
    refine .cons ?_ (RepK.keys l)
    cases k with
    | inl i => exact .int i
    | inr s => exact .str s
theorem key_of {x : RV} {k : Key} {v : V} (e : keyR x = some k) (h : RepR T B r P en σ H v x) : v = kV k := by
  cases x with
  | val w =>
    cases w with
    | int i => cases e; cases h; rfl
    | str s => cases e; cases h; rfl
    | _ => cases e
  | _ => cases e
theorem ins_of (R : RelS T B r P m H) {v : V} {w : W} {c : Nat} {fs : List (Str × W)} (h : RepT T B r H v w) (e : insW m w = some (c, fs)) :
    ∃ i a dx vs, w = .ref i ∧ r[i]? = some a ∧ m[i]? = some (.ins c fs) ∧ v = .ref a ∧ H a = some (.ins (T.ca c) dx vs) ∧ RepK T B r vs fs := by
  cases w with
  | ref i =>
    unfold insW at e
    cases q : m[i]? with
    | none => simp [q] at e
    | some ob =>
      cases ob with
      | ins c2 fs2 =>
        simp only [q, Option.some.injEq, Prod.mk.injEq] at e
        obtain ⟨rfl, rfl⟩ := e
        obtain ⟨a, o, h1, h2, h3⟩ := R.ob i _ q
        rcases h with h | ⟨_, _, _, _, h, _⟩
        · cases h with
          | ref h0 =>
            rw [h0] at h1; cases h1
            cases h3 with
            | ins l => exact ⟨i, _, _, _, rfl, h0, q, rfl, h2, l⟩
        · cases h
      | _ => simp [q] at e
  | _ => cases e
theorem dic_of (R : RelS T B r P m H) {v : V} {w : W} {kvs : List (Key × W)} (h : RepT T B r H v w) (e : dicW m w = some kvs) :
    ∃ i a vs, w = .ref i ∧ r[i]? = some a ∧ m[i]? = some (.dic kvs) ∧ v = .ref a ∧ H a = some (.dK vs) ∧ RepK T B r vs kvs := by
  cases w with
  | ref i =>
    unfold dicW at e
    cases q : m[i]? with
    | none => simp [q] at e
    | some ob =>
      cases ob with
      | dic k2 =>
        simp only [q, Option.some.injEq] at e
        subst e
        obtain ⟨a, o, h1, h2, h3⟩ := R.ob i _ q
        rcases h with h | ⟨_, _, _, _, h, _⟩
        · cases h with
          | ref h0 =>
            rw [h0] at h1; cases h1
            cases h3 with
            | dic l => exact ⟨i, _, _, rfl, h0, q, rfl, h2, l⟩
        · cases h
      | _ => simp [q] at e
  | _ => cases e
/-- a reference of the store stays what it is -/
theorem ref_keep {i : Nat} {a : Addr} (s : r <+: r2) (h : r[i]? = some a) : r2[i]? = some a := pre_get s h
/-- the top of a held value, later: only for references -/
theorem RepT.ref {i : Nat} {v : V} (h : RepT T B r H v (.ref i)) : ∃ a, v = .ref a ∧ r[i]? = some a := by
  rcases h with h | ⟨_, _, _, _, h, _⟩
  · cases h with
    | ref h0 => exact ⟨_, rfl, h0⟩
  · cases h
end

section
variable {T : Tab} {xc : Nat → Value} {S : Sta} {cs : Nat → List W → Sto → CR} {gl : List W} {k : Nat} {N : List Str} {fb : Str → Bool} {sc : Scope} {Wx : WX} {X : Cx}
theorem snd_fld (C : CxOk T xc S cs gl k N fb sc Wx X) {a : E} {x : Str} {cl : List Nat} {pa : Expr} {pos : Pos} (hb : baseB pa = true) (hc : ∀ c ∈ cl, ∃ ci, S.cls[c]? = some ci ∧ x ∈ ci.flds) (ha : PE X pa (SE T xc cs gl Wx a)) :
    PE X (.Attribute pa x pos) (SE T xc cs gl Wx (.fld a x cl)) := by
  refine (pe_fld ha (base_of hb)).imp fun σ H Q z => ?_
  obtain ⟨B, r, P, m, en, R, g⟩ := z
  simp only [ev] at g
  refine SG.go R (g.bind fun y en1 m1 B1 r1 H1 e1 R1 h1 v hv => ?_)
  obtain ⟨w, e2, h2⟩ := h1.opt
  obtain ⟨z, e3, h3⟩ := h2.opt
  unfold fldR at e3
  cases q : insW m1 w with
  | none => rw [q] at e3; cases e3
  | some cf =>
    obtain ⟨c, fs⟩ := cf
    rw [q] at e3
    simp only [Option.bind_some] at e3
    split at e3
    · rename_i hcl
      obtain ⟨i, ad, dx, vs, rfl, g1, g2, rfl, g4, g5⟩ := ins_of R1.s (R1.top hv e2) q
      obtain ⟨ci, k1, k2⟩ := hc c (by simpa using hcl)
      obtain ⟨d1, d2, _⟩ := C.md.cls c ci k1
      obtain ⟨v, l1, l2⟩ := g5.look e3
      rw [C.eK]
      exact ⟨ad, T.ca c, dx, vs, v, rfl, g4, d1, d2 x k2, l1, h3.fin R1 v l2⟩
    · cases e3
/-- what a call's end gives, ahead and behind -/
theorem call_back {P : Hp} {m1 : Sto} {en1 : En} {σ : Slo} {H1 : Hp} {B1 : Hp} {r1 : List Addr} {Q : VK} {x : CR} (R1 : Rel T B1 r1 P m1 en1 σ H1)
    (h : PostG T xc Wx P σ B1 r1 (x.toR en1) fun x en m B2 r2 H2 => ∀ v, RepR T B2 r2 P en σ H2 v x → Q v H2) : CPost T xc (outP r1 H1) B1 r1 x Q (WE Wx σ) := by
  cases x with
  | ok a m2 =>
    intro v B2 r2 H2 e2 S2 hv
    obtain ⟨e3, R3⟩ := R1.back e2 S2
    exact h B2 r2 H2 e3 R3 v (R1.back_new S2 hv)
  | ex c m2 =>
    intro B2 r2 H2 e2 S2
    obtain ⟨e3, R3⟩ := R1.back e2 S2
    exact h B2 r2 H2 e3 R3
  | bad => exact h
theorem mem_lookup : ∀ {cf : List (Nat × Nat)} {c f : Nat}, cf.lookup c = some f → (c, f) ∈ cf
  | [], _, _, e => by simp at e
  | (c2, f2) :: cf, c, f, e => by
    by_cases cc : (c == c2) = true
    · simp only [List.lookup, cc] at e
      cases e
      have := eq_of_beq cc
      subst this
      exact List.mem_cons_self
    · have cc : (c == c2) = false := by simpa using cc
      simp only [List.lookup, cc] at e
      exact List.mem_cons_of_mem _ (mem_lookup e)
theorem snd_mcall (C : CxOk T xc S cs gl k N fb sc Wx X) (hcB : S.cB = true) {a es : E} {x : Str} {cf : List (Nat × Nat)} {n : Nat} {pa : Expr} {qs : List Expr} {ap pos : Pos} (hb : baseB pa = true) (hl : (ap.endLine == pos.line) = true) (hq : qs.length < 29)
    (hc : ∀ q ∈ cf, ∃ ci, S.cls[q.1]? = some ci ∧ (x, q.2) ∈ ci.mts ∧ ∃ y, S.fns[q.2]? = some (y, n + 1)) (hs : ∀ q ∈ qs, noStar q = true) (hnil : qs = [] → es = .nil) (ha : PE X pa (SE T xc cs gl Wx a)) (he : PA X qs (SA T xc cs gl Wx es)) :
    PE X (.Call (.Attribute pa x ap) qs [] pos) (SE T xc cs gl Wx (.mcall a x cf n es)) := by
  refine ⟨fun pins s σ H Q I z => ?_⟩
  obtain ⟨B, r, P, m, en, R, g⟩ := z
  simp only [ev] at g
  -- the class is known ahead
  cases hx : ev cs gl a en m with
  | bad => rw [hx] at g; exact g.elim
  | ex c0 en0 m0 => rw [hx] at g; exact g.elim
  | ok y en1 m1 =>
    rw [hx] at g
    have g : PostG T xc Wx P σ B r (Mp.opt (rvW en1 y) fun w => Mp.opt (mthR m1 x cf w) fun f => (evs cs gl es en1 m1).bind fun ws en m => if ws.length = n then (cs f (w :: ws) m).toR en else .bad) _ := g
    obtain ⟨w, e2, g⟩ := g.opt
    obtain ⟨f, e3, g⟩ := g.opt
    unfold mthR at e3
    cases q : insW m1 w with
    | none => rw [q] at e3; cases e3
    | some cfs =>
      obtain ⟨c, fs⟩ := cfs
      rw [q] at e3
      simp only [Option.bind_some] at e3
      split at e3
      · rename_i hnone
        have hnone : fs.lookup x = none := by simpa using hnone
        have hm : (c, f) ∈ cf := mem_lookup e3
        obtain ⟨ci, k1, k2, y2, k3⟩ := hc (c, f) hm
        obtain ⟨d1, d2, d3, _⟩ := C.md.cls c ci k1
        obtain ⟨fd, ps, g1, g2, g3, g4⟩ := C.md.fns f y2 (n + 1) k3
        have F : FnOk X.prog X.w X.K X.mg X.base (L2.CX X.prog X.w) (2 * k) (T.fa f) fd ps (spF T xc cs f (n + 1)) := by rw [C.eK]; exact g4
        have cl : Cls X.K (T.ca c) := by rw [C.eK]; exact d1
        have mt : Meth X.K (T.ca c) x (T.fa f) := by rw [C.eK]; exact d3 x f k2
        have bn : L2.Binds X.K fd ps [] := by rw [C.eK]; exact g3
        have hev := meth_eval (o := pa) (m := x) (ap := ap) (pos := pos) (es := qs) (env := X.env) (base_of hb) (few_of hs hq) hl
        have key : tMethS (T.ca c) x (spF T xc cs f (n + 1)) (WE Wx) (SE T xc cs gl Wx a) (SA T xc cs gl Wx es) σ H Q := by
          refine SG.go R ?_
          rw [hx]
          intro B1 r1 H1 e1 R1 v hv
          have g := PostG.mono e1 g
          obtain ⟨i, ad, dx, vs, rfl, j1, j2, rfl, j4, j5⟩ := ins_of R1.s (R1.top hv e2) q
          refine ⟨ad, dx, vs, rfl, j4, j5.lookN hnone, B1, r1, P, m1, en1, R1, g.bind fun ws en2 m2 B2 r2 H2 e4 R2 h2 us hus => ?_⟩
          obtain ⟨hn, h3⟩ := h2.ifp
          refine ⟨by rw [List.length_cons, hus.len, hn], B2, r2, outP r2 H2, m2, W.ref i :: ws, R2.s.out, .cons (.ref (ref_keep e4.pre j1)) hus, ?_⟩
          exact call_back R2 h3
        cases qs with
        | nil =>
          refine (pe_methX0 ha cl mt F ((C.room hcB).mono (by omega)) bn (passAt C.tk) hev).run pins s σ H Q I ?_
          obtain ⟨B0, r0, P0, m0, en0, R0, key⟩ := key
          refine ⟨B0, r0, P0, m0, en0, R0, key.imp fun y0 en1 m1 B1 r1 H1 e1 R1 h1 v hv => ?_⟩
          obtain ⟨ad, dx, fs, j1, j2, j3, j4⟩ := h1 v hv
          refine ⟨ad, dx, fs, j1, j2, j3, ?_⟩
          have e0 := hnil rfl
          subst e0
          obtain ⟨B2, r2, P2, m2, en2, R2, g2⟩ := j4
          simp only [evs] at g2
          exact g2.fin R2 [] .nil
        | cons q0 qs =>
          exact (pe_methX ha cl mt F ((C.room hcB).mono (by omega)) bn (passAt C.tk) he (star_of (hs _ List.mem_cons_self)) (back_no fun r hr => hs r (List.mem_cons_of_mem _ hr)) hev).run pins s σ H Q I key
      · cases e3
theorem add_new {P : Hp} {m : Sto} {en : En} {σ : Slo} {B H : Hp} {r : List Addr} {p : Addr} {o : HO} {b : Ob} (R : Rel T B r P m en σ H) (hp : H p = none) (hv : b.un = true) (ob : RepO T B (r ++ [p]) o b) : Ext P B r B (r ++ [p]) ∧ Rel T B (r ++ [p]) P (m ++ [b]) en σ (upd H p o) ∧ (r ++ [p])[m.length]? = some p := by
  refine ⟨⟨Sub.refl B, List.prefix_append r [p], fun _ _ => rfl⟩, (R.grow (Sub.new hp)).add_sto (R.s.bh.none hp) (R.s.ph.none hp) (R.no_sto hp) upd_same hv ob fun j zs hj e => ?_, ?_⟩
  · obtain ⟨q, e1, o⟩ := R.e.own_at hj
    rw [e] at e1; cases e1
    obtain ⟨vs, b1, _⟩ := o.at_
    rw [hp] at b1; cases b1
  · rw [List.getElem?_append_right (by rw [R.s.len]; exact Nat.le_refl _), R.s.len, Nat.sub_self]; rfl
theorem snd_make (C : CxOk T xc S cs gl k N fb sc Wx X) (hcB : S.cB = true) {c f n : Nat} {x : Str} {es : E} {q : Expr} {qs : List Expr} {p pos : Pos} {ci : CI} (hc : S.cls[c]? = some ci) (hx : x = ci.nm) (hf : ci.ini = f) (hn : ∃ y, S.fns[f]? = some (y, n + 1)) (hg : glB sc x = true) (hp : plB x = true)
    (hs : ∀ r ∈ q :: qs, noStar r = true) (he : PA X (q :: qs) (SA T xc cs gl Wx es)) : PE X (.Call (.Name x p) (q :: qs) [] pos) (SE T xc cs gl Wx (.make c f n es)) := by
  subst hx hf
  obtain ⟨d1, _, _, d4, d5⟩ := C.md.cls c ci hc
  obtain ⟨y, hy⟩ := hn
  obtain ⟨fd, ps, g1, g2, g3, g4⟩ := C.md.fns ci.ini y (n + 1) hy
  obtain ⟨e1, _, _⟩ := pl_of hp
  have F : FnOk X.prog X.w X.K X.mg X.base (L2.CX X.prog X.w) (2 * k) (T.fa ci.ini) fd ps (spF T xc cs ci.ini (n + 1)) := by rw [C.eK]; exact g4
  refine (pe_makeX (by rw [C.eK]; exact d5) F (C.room hcB) (gl_of C.es hg) d4 (by rw [C.eK]; exact g3) (passAt C.tk) he e1 (star_of (hs _ List.mem_cons_self)) (back_no fun r hr => hs r (List.mem_cons_of_mem _ hr))).imp fun σ H Q z => ?_
  obtain ⟨B, r, P, m, en, R, g⟩ := z
  simp only [ev] at g
  refine ⟨B, r, P, m, en, R, g.bind fun ws en1 m1 B1 r1 H1 e1 R1 h1 vs hvs ad dx ha hdx hne => ?_⟩
  obtain ⟨hl, h1⟩ := h1.ifp
  have hne2 : ad ≠ dx := fun z => hne z.symm
  obtain ⟨e2, R2, g5⟩ := add_new (b := .ins c []) (R1.grow (Sub.new (o := .own ad) hdx)) (p := ad) (o := .ins (T.ca c) dx []) (by rw [upd_ne hne2]; exact ha) rfl (.ins .nil)
  refine ⟨by rw [List.length_cons, hvs.len, hl], B1, r1 ++ [ad], outP (r1 ++ [ad]) _, m1 ++ [.ins c []], W.ref m1.length :: ws, R2.s.out, .cons (.ref g5) (hvs.mono e2.sub e2.pre), ?_⟩
  revert h1
  cases cs ci.ini (.ref m1.length :: ws) (m1 ++ [.ins c []]) with
  | ok a m2 =>
    cases a with
    | val w =>
      cases w with
      | non =>
        intro h1 v B2 r2 H2 e3 S2 hv
        cases hv
        obtain ⟨e4, R4⟩ := R2.back e3 S2
        exact ⟨rfl, h1 B2 r2 H2 (e2.trans e4) R4 (.ref ad) (.ref (pre_get e4.pre g5))⟩
      | _ => intro h1; exact h1.elim
    | _ => intro h1; exact h1.elim
  | ex c2 m2 =>
    intro h1 B2 r2 H2 e3 S2
    obtain ⟨e4, R4⟩ := R2.back e3 S2
    exact h1 B2 r2 H2 (e2.trans e4) R4
  | bad => intro h1; exact h1.elim
theorem snd_dnew {pos : Pos} : PE X (.Dict [] [] pos) (SE T xc cs gl Wx .dnew) := by
  refine pe_dnewK.imp fun σ H Q z p hp => ?_
  obtain ⟨B, r, P, m, en, R, g⟩ := z
  simp only [ev] at g
  obtain ⟨e2, R2, g5⟩ := add_new (b := .dic []) (o := .dK []) R hp rfl (.dic .nil)
  exact g B (r ++ [p]) _ e2 R2 _ (.ref g5)
theorem noSl_of {e : Expr} (h : plainIxB e = true) : NoSl e := by
  cases e <;> first | exact fun _ _ => rfl | cases h
/-- a dict that is told, later -/
theorem dic_later {P : Hp} {m m2 : Sto} {en en2 : En} {σ : Slo} {B B2 H H2 : Hp} {r r2 : List Addr} {v : V} {w : W} {kvs kvs2 : List (Key × W)} (h : RepT T B r H v w) (R : RelS T B r P m H) (e : dicW m w = some kvs) (x : r <+: r2) (R2 : RelS T B2 r2 P m2 H2) (e2 : dicW m2 w = some kvs2) :
    ∃ a vs, v = .ref a ∧ H2 a = some (.dK vs) ∧ RepK T B2 r2 vs kvs2 := by
  obtain ⟨i, a, vs, rfl, g1, _, rfl, _, _⟩ := dic_of R h e
  obtain ⟨i2, a2, vs2, e3, j1, _, e4, j3, j4⟩ := dic_of R2 (v := .ref a) (.inl (.ref (pre_get x g1))) e2
  cases e4
  exact ⟨a, vs2, rfl, j3, j4⟩
theorem dic_is {P : Hp} {m : Sto} {σ : Slo} {B H : Hp} {r : List Addr} {v : V} {w : W} {kvs : List (Key × W)} (h : RepT T B r H v w) (R : RelS T B r P m H) (e : dicW m w = some kvs) : ∃ a vs, v = .ref a ∧ H a = some (.dK vs) ∧ RepK T B r vs kvs := by
  obtain ⟨i, a, vs, rfl, g1, _, rfl, g3, g4⟩ := dic_of R h e
  exact ⟨a, vs, rfl, g3, g4⟩
theorem snd_dget (C : CxOk T xc S cs gl k N fb sc Wx X) {a kk : E} {pa pk : Expr} {pos : Pos} (hp : plainIxB pk = true) (ha : PE X pa (SE T xc cs gl Wx a)) (hk : PE X pk (SE T xc cs gl Wx kk)) : PE X (.Subscript pa pk pos) (SE T xc cs gl Wx (.dget a kk .nil)) := by
  have hu := C.un
  refine (pe_dget (by omega) ha hk (noSl_of hp)).imp fun σ H Q z => ?_
  obtain ⟨B, r, P, m, en, R, g⟩ := z
  simp only [ev] at g
  refine SG.go R (g.bind fun y en1 m1 B1 r1 H1 e1 R1 h1 v hv => ?_)
  obtain ⟨w, e2, h2⟩ := h1.opt
  obtain ⟨kvs, e3, h3⟩ := h2.opt
  have hw := R1.top hv e2
  refine SG.go R1 (h3.bind fun y2 en2 m2 B2 r2 H2 e4 R2 h4 u hu => ?_)
  obtain ⟨key, e5, h5⟩ := h4.opt
  rw [if_pos (by rfl)] at h5
  obtain ⟨wv, e6, h6⟩ := h5.opt
  cases q : dicW m2 w with
  | none => rw [q] at e6; cases e6
  | some kvs2 =>
    rw [q] at e6
    obtain ⟨ad, vs, rfl, g1, g2⟩ := dic_later (en := en1) (en2 := en2) (σ := σ) hw R1.s e3 e4.pre R2.s q
    obtain ⟨v2, l1, l2⟩ := g2.val e6
    have ek := key_of e5 hu
    subst ek
    refine ⟨ad, v2, rfl, ?_, h6.fin R2 v2 l2⟩
    rw [← l1]; exact DGet.k g1
theorem snd_dget2 (C : CxOk T xc S cs gl k N fb sc Wx X) {a kk d : E} {pa pk pd : Expr} {ap pos : Pos} (hb : baseB pa = true) (hl : (ap.endLine == pos.line) = true) (n1 : noStar pk = true) (n2 : noStar pd = true) (hd : isNil d = false) (ha : PE X pa (SE T xc cs gl Wx a)) (hk : PE X pk (SE T xc cs gl Wx kk)) (hpd : PE X pd (SE T xc cs gl Wx d)) :
    PE X (.Call (.Attribute pa "get" ap) [pk, pd] [] pos) (SE T xc cs gl Wx (.dget a kk d)) := by
  have hu := C.un
  have st : starEach [pk, pd] X.env = [(false, eval pk X.env), (false, eval pd X.env)] := by rw [star_of n1, star_of n2]; rfl
  refine (pe_dget2 (by omega) ha hk hpd ⟨base_of hb, few_of (fun q hq => by
    rcases List.mem_cons.mp hq with rfl | hq
    · exact n1
    · rcases List.mem_cons.mp hq with rfl | hq
      · exact n2
      · cases hq) (show 2 < 29 by decide), hl, by rw [st]; rfl⟩).imp fun σ H Q z => ?_
  obtain ⟨B, r, P, m, en, R, g⟩ := z
  simp only [ev] at g
  refine SG.go R (g.bind fun y en1 m1 B1 r1 H1 e1 R1 h1 v hv => ?_)
  obtain ⟨w, e2, h2⟩ := h1.opt
  obtain ⟨kvs, e3, h3⟩ := h2.opt
  have hw := R1.top hv e2
  obtain ⟨ad, vs, rfl, g1, g2⟩ := dic_is (σ := σ) hw R1.s e3
  refine ⟨ad, rfl, .inl ⟨vs, .inl g1⟩, SG.go R1 (h3.bind fun y2 en2 m2 B2 r2 H2 e4 R2 h4 u hu => ?_)⟩
  obtain ⟨key, e5, h5⟩ := h4.opt
  rw [if_neg (by rw [hd]; exact Bool.false_ne_true)] at h5
  have ek := key_of e5 hu
  subst ek
  refine SG.go R2 (h5.bind fun y3 en3 m3 B3 r3 H3 e6 R3 h6 t ht => ?_)
  obtain ⟨wz, en4, e7, h7⟩ := h6.opt2
  obtain ⟨kvs3, e8, h8⟩ := h7.opt
  obtain ⟨B4, e9, R4, hz⟩ := R3.esc ht e7
  have h8 := PostG.mono e9 h8
  obtain ⟨ad2, vs3, q1, q2, q3⟩ := dic_later (en := en1) (en2 := en4) (σ := σ) hw R1.s e3 (e4.trans (e6.trans e9)).pre R4.s e8
  cases q1
  refine ⟨valV vs3 key, DGet.k q2, ?_⟩
  cases c : valA kvs3 key with
  | none =>
    rw [q3.valN c]
    rw [c] at h8
    exact h8.fin R4 t hz
  | some w3 =>
    obtain ⟨v3, l1, l2⟩ := q3.val c
    rw [l1]
    rw [c] at h8
    exact h8.fin R4 v3 l2
theorem snd_din (C : CxOk T xc S cs gl k N fb sc Wx X) {ng : Bool} {a kk : E} {pa pk : Expr} {pos : Pos} (hs : setB pa = false) (hk : PE X pk (SE T xc cs gl Wx kk)) (ha : PE X pa (SE T xc cs gl Wx a)) :
    Snd T xc cs gl Wx X (.din ng kk a) (.Compare pk [if ng then .NotIn else .In] [pa] pos) := by
  have hu := C.un
  have rd : ∀ σ H Q, SE T xc cs gl Wx (.din ng kk a) σ H Q → SE T xc cs gl Wx kk σ H fun y H1 => SE T xc cs gl Wx a σ H1 fun x H2 => ∃ ad o, x = .ref ad ∧ DGet H2 ad y o ∧ Q (.bl (o.isSome != ng)) H2 := fun σ H Q z => by
    obtain ⟨B, r, P, m, en, R, g⟩ := z
    simp only [ev] at g
    refine SG.go R (g.bind fun y en1 m1 B1 r1 H1 e1 R1 h1 v hv => ?_)
    obtain ⟨key, e2, h2⟩ := h1.opt
    have ek := key_of e2 hv
    subst ek
    refine SG.go R1 (h2.bind fun y2 en2 m2 B2 r2 H2 e4 R2 h4 u hu => ?_)
    obtain ⟨w, e3, h5⟩ := h4.opt
    obtain ⟨kvs, e5, h6⟩ := h5.opt
    obtain ⟨ad, vs, rfl, g1, g2⟩ := dic_is (σ := σ) (R2.top hu e3) R2.s e5
    refine ⟨ad, valV vs key, rfl, DGet.k g1, ?_⟩
    cases c : valA kvs key with
    | none => rw [g2.valN c]; rw [c] at h6; exact h6.fin R2 _ (.bl _)
    | some w3 =>
      obtain ⟨v3, l1, _⟩ := g2.val c
      rw [l1]; rw [c] at h6; exact h6.fin R2 _ (.bl _)
  cases ng with
  | false =>
    refine ⟨(pe_cmp (pc_din (by omega) hk ha) (noSet_of hs)).imp fun σ H Q z => ?_, fun _ => (pt_cmp (pc_din (by omega) hk ha) (noSet_of hs)).imp fun σ H Q z => ?_⟩
    · obtain ⟨B, r, P, m, en, R, g⟩ := rd σ H Q z
      refine ⟨B, r, P, m, en, R, g.imp fun y en1 m1 B1 r1 H1 e1 R1 h1 v hv => ?_⟩
      obtain ⟨B2, r2, P2, m2, en2, R2, g2⟩ := h1 v hv
      refine ⟨B2, r2, P2, m2, en2, R2, g2.imp fun y3 en3 m3 B3 r3 H3 e3 R3 h3 v3 hv3 => ?_⟩
      obtain ⟨ad, o, q1, q2, q3⟩ := h3 v3 hv3
      exact ⟨ad, o, q1, q2, by simpa using q3⟩
    · obtain ⟨B, r, P, m, en, R, g⟩ := rd σ H _ (SBG.tB z)
      refine ⟨B, r, P, m, en, R, g.imp fun y en1 m1 B1 r1 H1 e1 R1 h1 v hv => ?_⟩
      obtain ⟨B2, r2, P2, m2, en2, R2, g2⟩ := h1 v hv
      refine ⟨B2, r2, P2, m2, en2, R2, g2.imp fun y3 en3 m3 B3 r3 H3 e3 R3 h3 v3 hv3 => ?_⟩
      obtain ⟨ad, o, q1, q2, q3⟩ := h3 v3 hv3
      exact ⟨ad, o, q1, q2, by simpa using q3⟩
  | true =>
    refine ⟨(pe_cmp (pc_dnotin (by omega) hk ha) (noSet_of hs)).imp fun σ H Q z => ?_, fun _ => (pt_cmp (pc_dnotin (by omega) hk ha) (noSet_of hs)).imp fun σ H Q z => ?_⟩
    · obtain ⟨B, r, P, m, en, R, g⟩ := rd σ H Q z
      refine ⟨B, r, P, m, en, R, g.imp fun y en1 m1 B1 r1 H1 e1 R1 h1 v hv => ?_⟩
      obtain ⟨B2, r2, P2, m2, en2, R2, g2⟩ := h1 v hv
      refine ⟨B2, r2, P2, m2, en2, R2, g2.imp fun y3 en3 m3 B3 r3 H3 e3 R3 h3 v3 hv3 => ?_⟩
      obtain ⟨ad, o, q1, q2, q3⟩ := h3 v3 hv3
      exact ⟨ad, o, q1, q2, by simpa using q3⟩
    · obtain ⟨B, r, P, m, en, R, g⟩ := rd σ H _ (SBG.tB z)
      refine ⟨B, r, P, m, en, R, g.imp fun y en1 m1 B1 r1 H1 e1 R1 h1 v hv => ?_⟩
      obtain ⟨B2, r2, P2, m2, en2, R2, g2⟩ := h1 v hv
      refine ⟨B2, r2, P2, m2, en2, R2, g2.imp fun y3 en3 m3 B3 r3 H3 e3 R3 h3 v3 hv3 => ?_⟩
      obtain ⟨ad, o, q1, q2, q3⟩ := h3 v3 hv3
      exact ⟨ad, o, q1, q2, by simpa using q3⟩
theorem snd_dkeys (C : CxOk T xc S cs gl k N fb sc Wx X) (hcB : S.cB = true) {a : E} {x : Str} {q : Expr} {p pos : Pos} (hx : x = ("list" : Str)) (hg : glB sc x = true) (hn : noStar q = true) (ha : PE X q (SE T xc cs gl Wx a)) :
    PE X (.Call (.Name x p) [q] [] pos) (SE T xc cs gl Wx (.dkeys a)) := by
  subst hx
  refine (pe_callTy (call_listD (C.calm hcB)) (gl_of C.es hg) (C.md.blt _ (by decide +kernel)) (by decide +kernel) (pa_cons ha pa_nil (star_of hn)) (by decide) (by decide) (star_of hn) rfl).imp fun σ H Q z => ?_
  obtain ⟨B, r, P, m, en, R, g⟩ := z
  simp only [ev] at g
  refine SG.go R (g.bind fun y en1 m1 B1 r1 H1 e1 R1 h1 v hv => ?_)
  obtain ⟨w, e2, h2⟩ := h1.opt
  obtain ⟨kvs, e3, h3⟩ := h2.opt
  obtain ⟨ad, vs, rfl, g1, g2⟩ := dic_is (σ := σ) (R1.top hv e2) R1.s e3
  refine ⟨ad, vs, rfl, .inl g1, fun p hp => ?_⟩
  exact h3 B1 r1 _ Ext.refl (R1.grow (Sub.new hp)) _ (R1.new_own hp g2.keys)
end
end Mp

set_option Elab.async false
set_option linter.all false
set_option maxRecDepth 100000
set_option maxHeartbeats 4000000
/-! count, index, dicts that are walked or written out, caught errors -/
namespace Mp
open PySem PySem.Spec PyProof.Rows L2
/-! ### how often, where -/
theorem count_eqU {x : V} : ∀ {xs : List V} {us : List Value}, Vals xs us → xs.all flatV = true → us.countP (eqU x) = xs.countP fun y => eqV y x
  | _, _, .nil, _ => rfl
  | y :: xs, u :: us, .cons r t, f => by
    rw [List.all_cons, Bool.and_eq_true] at f
    rw [List.countP_cons, List.countP_cons, eqU_of r f.1, count_eqU t f.2]
def rCntF (K : PySem.W.Frag) : V → List V → Hp → VK → Prop := fun x xs H Q => ∃ (p : Addr) (vs : List V) (y : V), x = .ref p ∧ xs = [y] ∧ SqL K H p vs ∧ flatV y = true ∧ vs.all flatV = true ∧ Q (.int (vs.countP (fun z => eqV z y) : Nat)) H
theorem mt_countF {X : Cx} : MtR X "list.count" (rCntF X.K) := by
  intro pins s σ H x xs v us Q I rx rxs h
  obtain ⟨p, vs, y, rfl, rfl, hs, fy, fvs, q⟩ := h
  cases rx
  obtain ⟨u, rfl, ru⟩ := rxs.one
  obtain ⟨its, rv, ⟨⟨cls, dd, data, sl⟩, n, ho, hc, hdn, hd⟩, hlen⟩ := I.list hs
  simp only at hc hd
  subst hc hd
  have e := count_eqU (x := y) rv fvs
  refine call_meets PySem.F.slot_list_count ⟨_, ho, rfl⟩ PySem.F.entry_list_count (PySem.F.args_list_count_2 _ _) (SeqAt.list_countAt p its.toArray n dd sl u (eqU y)) ⟨ho, fun z hz => mem_eqAt ru fy rv fvs z (by simpa using hz), ?_⟩
  refine ⟨.int (vs.countP (fun z => eqV z y) : Nat), H, I.tok _, ⟨s.toks, ?_⟩, q⟩
  show Value.int ((its.countP (eqU y) : Nat) : Int) s.toks = _
  rw [e]
section
variable {T : Tab} {B P H : Hp} {r : List Addr} {m : Sto}
theorem RepL.countEq {v : V} {w : W} (h : RepT T B r H v w) (f : flatW w = true) : ∀ {vs : List V} {ws : List W}, RepL T B r vs ws → ws.all flatW = true → vs.countP (fun z => eqV z v) = ws.countP fun z => eqFl z w
  | _, _, .nil, _ => rfl
  | _, _, .cons h2 l, fs => by
    rw [List.all_cons, Bool.and_eq_true] at fs
    rw [List.countP_cons, List.countP_cons, (RepT.flat h f).2 h2 fs.1, RepL.countEq h f l fs.2]
theorem countW_some {a : W} {ws : List W} {q : Nat × Nat × Nat} (e : countW m a ws = some q) : ∃ x zs, ws = [x] ∧ lstW m a = some zs ∧ flatW x = true ∧ zs.all flatW = true ∧ q = (zs.countP (fun z => eqFl z x), zs.findIdx (fun z => eqFl z x), zs.length) := by
  unfold countW at e
  split at e
  · rename_i x
    cases c : lstW m a with
    | none => rw [c] at e; cases e
    | some zs =>
      rw [c] at e
      simp only [Option.bind_some] at e
      split at e
      · rename_i h
        rw [Bool.and_eq_true] at h
        cases e
        exact ⟨x, zs, rfl, rfl, h.1, h.2, rfl⟩
      · cases e
  · cases e
end
section
variable {T : Tab} {xc : Nat → Value} {S : Sta} {cs : Nat → List W → Sto → CR} {gl : List W} {k : Nat} {N : List Str} {fb : Str → Bool} {sc : Scope} {Wx : WX} {X : Cx}
theorem snd_count (C : CxOk T xc S cs gl k N fb sc Wx X) {a es : E} {pa q : Expr} {x : Str} {ap pos : Pos} (hx : x = ("count" : Str)) (hb : baseB pa = true) (hl : (ap.endLine == pos.line) = true) (hn : noStar q = true) (ha : PE X pa (SE T xc cs gl Wx a)) (hq : PA X [q] (SA T xc cs gl Wx es)) :
    PE X (.Call (.Attribute pa x ap) [q] [] pos) (SE T xc cs gl Wx (.mth .count a es)) := by
  subst hx
  have hfew := few_of (qs := [q]) (env := X.env) (pos := pos) (fun r hr => by rcases List.mem_cons.mp hr with rfl | hr; exact hn; cases hr) (show 1 < 29 by decide)
  refine (pe_bm PySem.F.plainAttrs_list PySem.F.slot_list_count PySem.F.type_list_count mt_countF ha hq (base_of hb) hfew hl (star_of hn) rfl).imp fun σ H Q z => ?_
  obtain ⟨B, r, P, m, en, R, g⟩ := z
  simp only [ev] at g
  refine SG.go R (g.bind fun y en1 m1 B1 r1 H1 e1 R1 h1 v hv => ?_)
  obtain ⟨ws0, e0, h1⟩ := h1.opt
  obtain ⟨B2, e2, R2, hv2⟩ := R1.hold hv
  unfold rvL at e0
  cases g0 : rvW en1 (hold y) with
  | none => rw [g0] at e0; cases e0
  | some w0 =>
    rw [g0] at e0
    obtain ⟨l, vs0, rfl, d0, _⟩ := RepT.lst R2.s (R2.top hv2 g0) e0
    refine ⟨.inl ⟨rfl, vs0, .inl d0⟩, B2, r1, P, m1, en1, R2, (PostG.mono e2 h1).bind fun zs en3 m3 B3 r3 H3 e3 R3 h3 us hus => ?_⟩
    obtain ⟨⟨c1, c2, c3⟩, e4, h4⟩ := h3.opt
    have hv3 := hv2.held (P2 := P) (en3 := en3) (H3 := H3) e3.sub e3.pre
    obtain ⟨w, g1, e5⟩ := Option.bind_eq_some_iff.mp e4
    obtain ⟨u, ws, rfl, hw, f1, f2, e6⟩ := countW_some e5
    obtain ⟨l2, vs, e7, d, lz⟩ := RepT.lst R3.s (R3.top hv3 g1) hw
    cases e7
    cases hus with
    | cons hu hr =>
      cases hr
      simp only [Prod.mk.injEq] at e6
      obtain ⟨rfl, _, _⟩ := e6
      rw [C.eK]
      refine ⟨l, vs, _, rfl, rfl, .inl d, (RepT.flat (H := H3) (.inl hu) f1).1, lz.flats f2, ?_⟩
      rw [RepL.countEq (H := H3) (.inl hu) f1 lz f2]
      exact h4.fin R3 _ (.int _)
theorem snd_index (C : CxOk T xc S cs gl k N fb sc Wx X) {a es : E} {pa q : Expr} {x : Str} {ap pos : Pos} (hx : x = ("index" : Str)) (hb : baseB pa = true) (hl : (ap.endLine == pos.line) = true) (hn : noStar q = true) (ha : PE X pa (SE T xc cs gl Wx a)) (hq : PA X [q] (SA T xc cs gl Wx es)) :
    PE X (.Call (.Attribute pa x ap) [q] [] pos) (SE T xc cs gl Wx (.mth .index a es)) := by
  subst hx
  have hfew := few_of (qs := [q]) (env := X.env) (pos := pos) (fun r hr => by rcases List.mem_cons.mp hr with rfl | hr; exact hn; cases hr) (show 1 < 29 by decide)
  refine (pe_bm PySem.F.plainAttrs_list PySem.F.slot_list_index PySem.F.type_list_index mt_index ha hq (base_of hb) hfew hl (star_of hn) rfl).imp fun σ H Q z => ?_
  obtain ⟨B, r, P, m, en, R, g⟩ := z
  simp only [ev] at g
  refine SG.go R (g.bind fun y en1 m1 B1 r1 H1 e1 R1 h1 v hv => ?_)
  obtain ⟨ws0, e0, h1⟩ := h1.opt
  obtain ⟨B2, e2, R2, hv2⟩ := R1.hold hv
  unfold rvL at e0
  cases g0 : rvW en1 (hold y) with
  | none => rw [g0] at e0; cases e0
  | some w0 =>
    rw [g0] at e0
    obtain ⟨l, vs0, rfl, d0, _⟩ := RepT.lst R2.s (R2.top hv2 g0) e0
    refine ⟨.inl ⟨rfl, vs0, .inl d0⟩, B2, r1, P, m1, en1, R2, (PostG.mono e2 h1).bind fun zs en3 m3 B3 r3 H3 e3 R3 h3 us hus => ?_⟩
    obtain ⟨⟨c1, c2, c3⟩, e4, h4⟩ := h3.opt
    obtain ⟨hlt, h4⟩ := h4.ifp
    have hv3 := hv2.held (P2 := P) (en3 := en3) (H3 := H3) e3.sub e3.pre
    obtain ⟨w, g1, e5⟩ := Option.bind_eq_some_iff.mp e4
    obtain ⟨u, ws, rfl, hw, f1, f2, e6⟩ := countW_some e5
    obtain ⟨l2, vs, e7, d, lz⟩ := RepT.lst R3.s (R3.top hv3 g1) hw
    cases e7
    cases hus with
    | cons hu hr =>
      cases hr
      simp only [Prod.mk.injEq] at e6
      obtain ⟨_, rfl, rfl⟩ := e6
      have hlt : ws.findIdx (fun z => eqFl z u) < ws.length := hlt
      have hfl := RepT.flat (H := H3) (.inl hu) f1
      obtain ⟨z, hz, rz⟩ := lz.get (List.getElem?_eq_getElem hlt)
      have fz : ∀ (i : Nat) (hi : i < ws.length), flatW ws[i] = true := fun i hi => List.all_eq_true.mp f2 _ (List.getElem_mem hi)
      rw [C.eK]
      refine ⟨l, vs, _, _, z, rfl, rfl, .inl d, hfl.1, lz.flats f2, hz, ?_, fun i z2 hi hz2 => ?_, ?_⟩
      · rw [hfl.2 rz (fz _ hlt)]
        exact List.findIdx_getElem (p := fun z => eqFl z u) (w := hlt)
      · have hi2 : i < ws.length := by omega
        obtain ⟨z3, hz3, rz3⟩ := lz.get (List.getElem?_eq_getElem hi2)
        rw [hz2] at hz3; cases hz3
        rw [hfl.2 rz3 (fz _ hi2)]
        have := List.not_of_lt_findIdx (p := fun z => eqFl z u) hi
        simpa using this
      · exact h4.fin R3 _ (.int _)
theorem snd_lrng2 (C : CxOk T xc S cs gl k N fb sc Wx X) (hcB : S.cB = true) {a b : E} {x y : Str} {q q2 : Expr} {p p2 pos pos2 : Pos} (hx : x = ("list" : Str)) (hy : y = ("range" : Str)) (hg : glB sc x = true) (hg2 : glB sc y = true) (hn : noStar q = true) (hn2 : noStar q2 = true) (ha : PE X q (SE T xc cs gl Wx a)) (hb : PE X q2 (SE T xc cs gl Wx b)) :
    PE X (.Call (.Name x p) [.Call (.Name y p2) [q, q2] [] pos2] [] pos) (SE T xc cs gl Wx (.lrng2 a b)) := by
  subst hx hy
  have s2 : starEach [q2] X.env = [(false, eval q2 X.env)] := star_of hn2
  refine (pe_listRg (C.calm hcB) (gl_of C.es hg) (C.md.blt _ (by decide +kernel)) (prg_2 (gl_of C.es hg2) (C.md.blt _ (by decide +kernel)) ha hb (star_of hn) s2 (by rw [s2]; rfl)) rfl).imp fun σ H Q z => ?_
  obtain ⟨B, r, P, m, en, R, g⟩ := z
  simp only [ev] at g
  refine SG.go R (g.bind fun x en1 m1 B1 r1 H1 e1 R1 h1 v hv => ?_)
  refine SG.go R1 (h1.bind fun y en2 m2 B2 r2 H2 e2 R2 h2 u hu => ?_)
  obtain ⟨n, e, h3⟩ := h2.opt
  obtain ⟨n2, e3, h4⟩ := h3.opt
  obtain ⟨hl, h5⟩ := h4.ifp
  have e := intR_some e
  have e3 := intR_some e3
  subst e e3
  cases hv
  cases hu
  refine ⟨n, n2, rfl, rfl, ⟨by omega, by omega, by omega, by omega, by omega⟩, fun p hp => ?_⟩
  refine h5 B2 r2 _ Ext.refl (R2.grow (Sub.new hp)) _ (R2.new_own hp ?_)
  unfold rgV
  generalize List.range (n2 - n).toNat = ls
  induction ls with
  | nil => exact .nil
  | cons i r ih => exact .cons (.int _) ih
/-! ### a dict that is walked -/
end
section
variable {T : Tab} {B P H : Hp} {r : List Addr} {d : Addr} {o : PySem.Obj} {dv : List (Key × V)}
/-- without what stands at d -/
def dropB (B : Hp) (d : Addr) : Hp := fun a => if a = d then none else B a
theorem dropB_ne {a : Addr} (h : a ≠ d) : dropB B d a = B a := by unfold dropB; rw [if_neg h]
theorem dropB_self : dropB B d d = none := by unfold dropB; rw [if_pos rfl]
theorem drop_rd (hB : B d = some (.frz o (.dK dv))) {a : Addr} {u : HO} (hu : ∀ kvs, u ≠ .dK kvs) (hu2 : ∀ ob z, u ≠ .frz ob z) (h : Rd B a u) : Rd (dropB B d) a u := by
  have ne : a ≠ d := fun z => by
    subst z
    rcases h with h | ⟨o2, h⟩
    · rw [hB] at h; cases h; exact hu2 _ _ rfl
    · rw [hB] at h; cases h; exact hu _ rfl
  rcases h with h | ⟨o2, h⟩
  · exact .inl (by rw [dropB_ne ne]; exact h)
  · exact .inr ⟨o2, by rw [dropB_ne ne]; exact h⟩
theorem drop_sqt (hB : B d = some (.frz o (.dK dv))) {K : PySem.W.Frag} {a : Addr} {vs : List V} (h : SqT K B a vs) : SqT K (dropB B d) a vs := by
  rcases h with h | h
  · exact .inl (drop_rd hB (fun _ z => nomatch z) (fun _ _ z => nomatch z) h)
  · exact .inr h
theorem drop_sql (hB : B d = some (.frz o (.dK dv))) {K : PySem.W.Frag} {a : Addr} {vs : List V} (h : SqL K B a vs) : SqL K (dropB B d) a vs := by
  rcases h with h | h
  · exact .inl (drop_rd hB (fun _ z => nomatch z) (fun _ _ z => nomatch z) h)
  · exact .inr h
theorem drop_lst (hB : B d = some (.frz o (.dK dv))) {a : Addr} {vs : List V} (h : Rd B a (.lst vs)) : Rd (dropB B d) a (.lst vs) := drop_rd hB (fun _ z => nomatch z) (fun _ _ z => nomatch z) h
theorem drop_ext (hB : B d = some (.frz o (.dK dv))) {a : Addr} {φ : Heap → Prop} (h : B a = some (.ext φ)) : dropB B d a = some (.ext φ) := by
  have ne : a ≠ d := fun z => by subst z; rw [hB] at h; cases h
  rw [dropB_ne ne]; exact h
mutual
theorem Rep.unlk (hB : B d = some (.frz o (.dK dv))) : ∀ {v : V} {w : W}, Rep T B r v w → Rep T (dropB B d) r v w
  | _, _, .non => .non
  | _, _, .bl b => .bl b
  | _, _, .int i => .int i
  | _, _, .str x => .str x
  | _, _, .lst h l => .lst (drop_lst hB h) (RepL.unlk hB l)
  | _, _, .tup h l => .tup (drop_sqt hB h) (RepL.unlk hB l)
  | _, _, .scr h l => .scr (drop_sql hB h) (RepL.unlk hB l)
  | _, _, .ref h => .ref h
  | _, _, .raw v => .raw v
  | _, _, .fn f => .fn f
  | _, _, .exc c h => .exc c (drop_ext hB h)
theorem RepL.unlk (hB : B d = some (.frz o (.dK dv))) : ∀ {vs : List V} {ws : List W}, RepL T B r vs ws → RepL T (dropB B d) r vs ws
  | _, _, .nil => .nil
  | _, _, .cons h l => .cons (Rep.unlk hB h) (RepL.unlk hB l)
end
theorem RepK.unlk {κ : Type} (hB : B d = some (.frz o (.dK dv))) : ∀ {vs : List (κ × V)} {ws : List (κ × W)}, RepK T B r vs ws → RepK T (dropB B d) r vs ws
  | _, _, .nil => .nil
  | _, _, .cons h l => .cons (h.unlk hB) (RepK.unlk hB l)
theorem RepO.unlk (hB : B d = some (.frz o (.dK dv))) {u : HO} {b : Ob} (h : RepO T B r u b) : RepO T (dropB B d) r u b := by
  cases h with
  | lst l => exact .lst (l.unlk hB)
  | dic l => exact .dic (l.unlk hB)
  | ins l => exact .ins (l.unlk hB)
  | lk l => exact .lk (l.unlk hB)
theorem dicAt_some {m : Sto} {i : Nat} {kvs : List (Key × W)} (e : dicAt m i = some kvs) : m[i]? = some (.dic kvs) := by
  unfold dicAt at e
  split at e
  · cases e; assumption
  · cases e
theorem lkAt_some {m : Sto} {i : Nat} {kvs : List (Key × W)} (e : lkAt m i = some kvs) : m[i]? = some (.lk kvs) := by
  unfold lkAt at e
  split at e
  · cases e; assumption
  · cases e
/-- the dict at d stands still from here on -/
theorem Rel.lock {m : Sto} {en : En} {σ : Slo} {i : Nat} {kvs : List (Key × W)} (R : Rel T B r P m en σ H) (hi : r[i]? = some d) (hm : m[i]? = some (.dic kvs)) (l : RepK T B r dv kvs) (od : PySem.Obj) :
    Ext P B r (upd B d (.frz od (.dK dv))) r ∧ Rel T (upd B d (.frz od (.dK dv))) r P (m.set i (.lk kvs)) en σ (upd H d (.frz od (.dK dv))) := by
  have hd := List.mem_of_getElem? hi
  have nb : B d = none := R.s.nb_of hi hm rfl
  have np := (R.s.fr d hd).2
  have sb : Sub B (upd B d (.frz od (.dK dv))) := Sub.new nb
  have hl : i < m.length := (List.getElem?_eq_some_iff.mp hm).1
  refine ⟨⟨sb, List.prefix_refl r, fun a ha => upd_ne (fun z => ha (z ▸ np))⟩, ⟨⟨fun a q e => ?_, fun a q e => ?_, R.s.nd, by rw [List.length_set]; exact R.s.len, fun a ha => ⟨?_, (R.s.fr a ha).2⟩, fun j b hj => ?_, fun j ks a hj ha => ?_⟩, R.e.len, fun j s hj => ?_, R.e.dis⟩⟩
  · by_cases c : a = d
    · rw [c, upd_same] at e; cases e; rw [c]; exact upd_same
    · rw [upd_ne c] at e ⊢; exact R.s.bh a q e
  · have c : a ≠ d := fun z => by rw [z, np] at e; cases e
    rw [upd_ne c]; exact R.s.ph a q e
  · by_cases c : a = d
    · exact .inr ⟨od, dv, by rw [c]; exact upd_same⟩
    · exact LkB.upd c (R.s.fr a ha).1
  · by_cases c : i = j
    · subst c
      rw [List.getElem?_set_self hl] at hj; cases hj
      exact ⟨d, _, hi, upd_same, .lk (l.mono sb (List.prefix_refl r))⟩
    · rw [List.getElem?_set_ne c] at hj
      obtain ⟨a, q, e1, e2, e3⟩ := R.s.ob j b hj
      have ne : a ≠ d := fun z => c (nd_ix R.s.nd hi (z ▸ e1))
      exact ⟨a, q, e1, by rw [upd_ne ne]; exact e2, e3.mono sb (List.prefix_refl r)⟩
  · by_cases c : i = j
    · subst c
      rw [hi] at ha; cases ha
      exact ⟨od, dv, upd_same⟩
    · rw [List.getElem?_set_ne c] at hj
      exact (R.s.lkb j ks a hj ha).mono sb
  · obtain ⟨v, e1, e2⟩ := R.e.sl j s hj
    refine ⟨v, e1, ?_⟩
    cases s with
    | val w => exact Rep.mono sb (List.prefix_refl r) e2
    | own zs =>
      obtain ⟨p, rfl, o2⟩ := e2
      have ne : p ≠ d := fun z => o2.nr (z ▸ hd)
      obtain ⟨⟨xs, a1, a2⟩, a3, a4, a5⟩ := o2
      exact ⟨p, rfl, ⟨xs, by rw [upd_ne ne]; exact a1, a2.mono sb (List.prefix_refl r)⟩, by rw [upd_ne ne]; exact a3, a4, a5⟩
/-- and no more -/
theorem Rel.unlock {m : Sto} {en : En} {σ : Slo} {i : Nat} {kvs : List (Key × W)} (R : Rel T B r P m en σ H) (hB : B d = some (.frz o (.dK dv))) (hi : r[i]? = some d) (hm : m[i]? = some (.lk kvs)) :
    Rel T (dropB B d) r P (m.set i (.dic kvs)) en σ (upd H d (.dK dv)) := by
  have hd := List.mem_of_getElem? hi
  have np := (R.s.fr d hd).2
  have hl : i < m.length := (List.getElem?_eq_some_iff.mp hm).1
  obtain ⟨a0, q0, f1, f2, f3⟩ := R.s.ob i _ hm
  rw [hi] at f1; cases f1
  rw [R.s.bh d _ hB] at f2; cases f2
  cases f3 with
  | lk l =>
    refine ⟨⟨fun a q e => ?_, fun a q e => ?_, R.s.nd, by rw [List.length_set]; exact R.s.len, fun a ha => ⟨?_, (R.s.fr a ha).2⟩, fun j b hj => ?_, fun j ks a hj ha => ?_⟩, R.e.len, fun j s hj => ?_, R.e.dis⟩
    · by_cases c : a = d
      · rw [c, dropB_self] at e; cases e
      · rw [dropB_ne c] at e; rw [upd_ne c]; exact R.s.bh a q e
    · have c : a ≠ d := fun z => by rw [z, np] at e; cases e
      rw [upd_ne c]; exact R.s.ph a q e
    · by_cases c : a = d
      · exact .inl (by rw [c]; exact dropB_self)
      · unfold LkB
        rw [dropB_ne c]; exact (R.s.fr a ha).1
    · by_cases c : i = j
      · subst c
        rw [List.getElem?_set_self hl] at hj; cases hj
        exact ⟨d, _, hi, upd_same, .dic (l.unlk hB)⟩
      · rw [List.getElem?_set_ne c] at hj
        obtain ⟨a, q, e1, e2, e3⟩ := R.s.ob j b hj
        have ne : a ≠ d := fun z => c (nd_ix R.s.nd hi (z ▸ e1))
        exact ⟨a, q, e1, by rw [upd_ne ne]; exact e2, e3.unlk hB⟩
    · by_cases c : i = j
      · subst c
        rw [List.getElem?_set_self hl] at hj; cases hj
      · rw [List.getElem?_set_ne c] at hj
        have ne : a ≠ d := fun z => c (nd_ix R.s.nd hi (z ▸ ha))
        unfold LkB
        rw [dropB_ne ne]; exact R.s.lkb j ks a hj ha
    · obtain ⟨v, e1, e2⟩ := R.e.sl j s hj
      refine ⟨v, e1, ?_⟩
      cases s with
      | val w => exact Rep.unlk hB e2
      | own zs =>
        obtain ⟨p, rfl, o2⟩ := e2
        have ne : p ≠ d := fun z => o2.nr (z ▸ hd)
        obtain ⟨⟨xs, a1, a2⟩, a3, a4, a5⟩ := o2
        exact ⟨p, rfl, ⟨xs, by rw [upd_ne ne]; exact a1, a2.unlk hB⟩, by rw [dropB_ne ne]; exact a3, a4, a5⟩
theorem RepR.unlock {en : En} {σ : Slo} {v : V} {x : RV} (hB : B d = some (.frz o (.dK dv))) (hd : d ∈ r) (h : RepR T B r P en σ H v x) : RepR T (dropB B d) r P en σ (upd H d (.dK dv)) v x := by
  cases x with
  | val w => exact Rep.unlk hB h
  | bor j => exact h
  | new ws =>
    obtain ⟨p, rfl, ⟨⟨xs, a1, a2⟩, a3, a4, a5⟩, h3⟩ := h
    have ne : p ≠ d := fun z => a5 (z ▸ hd)
    exact ⟨p, rfl, ⟨⟨xs, by rw [upd_ne ne]; exact a1, a2.unlk hB⟩, by rw [dropB_ne ne]; exact a3, a4, a5⟩, h3⟩
end
section
variable {T : Tab} {xc : Nat → Value} {S : Sta} {cs : Nat → List W → Sto → CR} {gl : List W} {k : Nat} {N : List Str} {fb : Str → Bool} {sc : Scope} {Wx : WX} {X : Cx}
theorem snd_lock {a e : E} {p : Expr} (he : PE X p (SE T xc cs gl Wx e)) : PE X p (SE T xc cs gl Wx (.lock a e)) := by
  refine (pe_lock he).imp fun σ H Q z => ?_
  obtain ⟨B, r, P, m, en, R, g⟩ := z
  simp only [ev] at g
  obtain ⟨i, _, g⟩ := g.opt
  obtain ⟨kvs, ek, g⟩ := g.opt
  have hm := dicAt_some ek
  obtain ⟨d, q, hi, hd, ob⟩ := R.s.ob i _ hm
  cases ob with
  | dic l =>
    rename_i dv
    refine ⟨d, .dK dv, hd, trivial, fun od => ?_⟩
    obtain ⟨e1, R1⟩ := R.lock hi hm l od
    refine ⟨_, r, P, _, en, R1, ?_⟩
    revert g
    cases ev cs gl e en (m.set i (.lk kvs)) with
    | bad => exact fun g => g
    | ex c en2 m2 => exact fun g => g.elim
    | ok x en2 m2 =>
      intro g B2 r2 H2 e2 R2 v hv
      have hB2 := e2.sub d _ upd_same
      have hi2 := pre_get e2.pre hi
      have hdr := List.mem_of_getElem? hi2
      refine ⟨R2.s.bh d _ hB2, ?_⟩
      have g : PostG T xc Wx P σ B r (Mp.opt (lkAt m2 i) fun kvs => .ok x en2 (m2.set i (.dic kvs))) _ := g
      obtain ⟨kvs2, ek2, g⟩ := g.opt
      have hm2 := lkAt_some ek2
      have nb : B d = none := R.s.nb_of hi hm rfl
      have np := (R.s.fr d (List.mem_of_getElem? hi)).2
      refine g (dropB B2 d) r2 _ ⟨fun b u hb => ?_, e2.pre, fun b hb => ?_⟩ (R2.unlock hB2 hi2 hm2) v (hv.unlock hB2 hdr)
      · have c : b ≠ d := fun z => by rw [z, nb] at hb; cases hb
        rw [dropB_ne c]
        exact e2.sub b _ (e1.sub b _ hb)
      · have c : b ≠ d := fun z => hb (z ▸ np)
        rw [dropB_ne c, e2.fix b hb, e1.fix b hb]
/-! ### a dict written out -/
theorem PostG.bindW {A D : Type} {B P P2 : Hp} {r : List Addr} {σ : Slo} {x : Mp.R A} {f : A → En → Sto → Mp.R D} {g : D → En → Sto → Hp → List Addr → Hp → Prop} {h : A → En → Sto → Hp → List Addr → Hp → Prop} (s : Sub P P2)
    (z : PostG T xc Wx P σ B r (x.bind f) g) (q : ∀ a en m B2 r2 H2, Ext P2 B r B2 r2 → Rel T B2 r2 P2 m en σ H2 → PostG T xc Wx P σ B2 r2 (f a en m) g → h a en m B2 r2 H2) : PostG T xc Wx P2 σ B r x h := by
  cases x with
  | ok a en m => exact fun B2 r2 H2 e R => q a en m B2 r2 H2 e R (PostG.mono (e.weak s) z)
  | ex c en m => exact fun B2 r2 H2 e R => z B2 r2 H2 (e.weak s) (R.weak s)
  | bad => exact z
def trsOf (T : Tab) (xc : Nat → Value) (cs : Nat → List W → Sto → CR) (gl : List W) (Wx : WX) : List Str → E → List (TE × TE)
  | k :: ks, .cons e es => (fun _ H Q => Q (.str k) H, SE T xc cs gl Wx e) :: trsOf T xc cs gl Wx ks es
  | _, _ => []
theorem pairs_go : ∀ {ks : List Str} {es : E} {en : En} {m : Sto} {B P H : Hp} {r : List Addr} {σ : Slo} {Q : List (V × V) → Hp → Prop}, sameL ks es = true → Rel T B r P m en σ H →
    PostG T xc Wx P σ B r (evs cs gl es en m) (fun ws en m B2 r2 H2 => ∀ vs, RepL T B2 r2 vs ws → Q ((ks.map V.str).zip vs) H2) → tPairs (trsOf T xc cs gl Wx ks es) σ H Q
  | [], .nil, en, m, B, P, H, r, σ, Q, _, R, g => by
    simp only [evs] at g
    exact g.fin R [] .nil
  | k :: ks, .cons e es, en, m, B, P, H, r, σ, Q, hl, R, g => by
    simp only [evs] at g
    show SE T xc cs gl Wx e σ H _
    refine ⟨B, r, P, m, en, R, g.bind fun x en1 m1 B1 r1 H1 e1 R1 h1 v hv => ?_⟩
    obtain ⟨w, en2, e2, h2⟩ := h1.opt2
    obtain ⟨B2, e3, R2, hw⟩ := R1.esc hv e2
    refine pairs_go (ks := ks) (es := es) (by simpa [sameL] using hl) R2 ((PostG.mono e3 h2).bind fun ws en3 m3 B3 r3 H3 e4 R3 h3 vs hvs => ?_)
    exact h3.fin R3 (v :: vs) (.cons (hw.mono e4.sub e4.pre) hvs)
  | [], .cons _ _, _, _, _, _, _, _, _, _, hl, _, _ => by simp [sameL] at hl
  | _ :: _, .nil, _, _, _, _, _, _, _, _, hl, _, _ => by simp [sameL] at hl
theorem merge_nodup : ∀ (l acc : List (Key × V)), (acc.map (·.1) ++ l.map (·.1)).Nodup → mergeK acc l = acc ++ l
  | [], acc, _ => by rw [List.append_nil]; rfl
  | (k, v) :: l, acc, h => by
    show mergeK (putK acc k v) l = _
    have hk : putK acc k v = acc ++ [(k, v)] := by
      unfold putK
      rw [if_neg]
      intro z
      rw [List.any_eq_true] at z
      obtain ⟨q, hq, e⟩ := z
      rw [List.nodup_append] at h
      exact h.2.2 q.1 (List.mem_map_of_mem hq) k (by simp) (of_decide_eq_true e)
    rw [hk, merge_nodup l (acc ++ [(k, v)]) (by simpa [List.append_assoc] using h), List.append_assoc]
    rfl
theorem repK_zip {B : Hp} {r : List Addr} : ∀ {ks : List Str} {vs : List V} {ws : List W}, RepL T B r vs ws → RepK T B r ((ks.zip vs).map fun q => ((.inr q.1 : Key), q.2)) ((ks.zip ws).map fun q => ((.inr q.1 : Key), q.2))
  | [], _, _, _ => .nil
  | _ :: _, _, _, .nil => .nil
  | _ :: _, _, _, .cons h l => .cons h (repK_zip l)
theorem snd_dlit {ks : List Str} {es : E} {keys : List (Option Expr)} {ps : List Expr} {pos : Pos} (hl : sameL ks es = true) (h1 : keys.length = ps.length) (h2 : keys.length ≤ 15) (h3 : keys ≠ []) (h4 : keys.all (·.isSome) = true)
    (hp : PPs X pos keys ps (trsOf T xc cs gl Wx ks es)) : PE X (.Dict keys ps pos) (SE T xc cs gl Wx (.dlit ks es)) := by
  refine (pe_disp hp h4 h1 h3 h2).imp fun σ H Q z p hp => ?_
  obtain ⟨B, r, P, m, en, R, g⟩ := z
  simp only [ev] at g
  have hP := R.s.ph.none hp
  have hB := R.s.bh.none hp
  refine pairs_go hl (R.prot (o := .dK []) hp) (g.bindW (Sub.new hP) fun ws en2 m2 B2 r2 H2 e2 R2 q vs hvs => ?_)
  obtain ⟨⟨c1, c2, c3, c4⟩, q⟩ := q.ifp
  have hB2 : B2 p = none := by rw [e2.fix p (by rw [upd_same]; exact fun z => nomatch z)]; exact hB
  have lv := hvs.len
  refine ⟨R2.s.ph p _ upd_same, (ks.zip vs).map fun q => (.inr q.1, q.2), ?_, ?_, ?_⟩
  · rw [List.map_map, List.zip_map_left]
    rfl
  · rw [List.length_map, List.length_zip, lv, c1, Nat.min_self]; exact c2
  · have nd : (((ks.zip vs).map fun q => ((.inr q.1 : Key), q.2)).map (·.1)).Nodup := by
      have e : ((ks.zip vs).map fun q => ((.inr q.1 : Key), q.2)).map (·.1) = ks.map (fun s => (.inr s : Key)) := by
        rw [List.map_map]
        show (ks.zip vs).map ((fun s => (.inr s : Key)) ∘ Prod.fst) = _
        rw [← List.map_map, List.map_fst_zip (by omega)]
      rw [e]
      exact List.Pairwise.map _ (fun a b hab => fun z => hab (Sum.inr.inj z)) c4
    rw [merge_nodup _ [] (by simpa using nd), List.nil_append]
    have px : r2 <+: r2 ++ [p] := List.prefix_append r2 [p]
    have hr : p ∉ r2 := fun z => by
      have := (R2.s.fr p z).2
      rw [upd_same] at this; cases this
    have rk : RepK T B2 (r2 ++ [p]) ((ks.zip vs).map fun q => ((.inr q.1 : Key), q.2)) ((ks.zip ws).map fun q => ((.inr q.1 : Key), q.2)) := repK_zip (hvs.mono (Sub.refl B2) px)
    have R3 := (R2.reprot (u := .dK ((ks.zip vs).map fun q => (.inr q.1, q.2))) hB2)
    have R4 := (R3.weak (Sub.new hP)).add_sto (b := .dic ((ks.zip ws).map fun q => (.inr q.1, q.2))) hB2 hP hr upd_same rfl (.dic rk) (fun j zs hj e => by
      obtain ⟨q2, f1, f2⟩ := R3.e.own_at hj
      rw [e] at f1; cases f1
      have := f2.np
      rw [upd_same] at this; cases this)
    exact q B2 (r2 ++ [p]) _ ⟨Sub.refl B2, px, fun _ _ => rfl⟩ R4 _ (.ref (by
      rw [← R2.s.len, List.getElem?_append_right (Nat.le_refl _), Nat.sub_self]; rfl))
/-! ### isinstance of what was caught -/
theorem exn_at (C : CxOk T xc S cs gl k N fb sc Wx X) {y : Str} (h : exNm S sc y = true) : ∃ (c : V) (u : Value), (∀ p, PE X (.Name y p) (tC c)) ∧ ClsV c u ∧ (∀ i xi, S.exs[i]? = some xi → PySem.W.kitOne T.K (.ref (T.xa i)) u = some (xi.up.contains y)) ∧ PySem.W.kitOne T.K (.type "NoneType") u = some false := by
  unfold exNm at h
  simp only [Bool.and_eq_true, Bool.or_eq_true] at h
  obtain ⟨⟨h1, h2⟩, h3⟩ := h
  obtain ⟨d1, d2, d3⟩ := pl_of h2
  rcases h3 with h3 | h3
  · have e := eq_of_beq h3
    subst e
    refine ⟨.ty "ValueError", .type "ValueError", fun p => pe_bltn (gl_of C.es h1) (C.md.blt _ (by decide +kernel)) (by decide +kernel) rfl d3 d1, .ty _, fun i xi hi => ?_, kit_ty (by decide +kernel)⟩
    obtain ⟨_, _, _, _, _, _, g, _⟩ := C.md.exs i xi hi
    exact g
  · rw [List.any_eq_true] at h3
    obtain ⟨xd, hm, e⟩ := h3
    have e := eq_of_beq e
    subst e
    obtain ⟨d, hd⟩ := List.mem_iff_getElem?.mp hm
    obtain ⟨_, g2, _, _, _, _, _, g8, _⟩ := C.md.exs d xd hd
    refine ⟨.ref (T.xa d), .ref (T.xa d), fun p => pe_glob (gl_of C.es h1) g2 rfl d1, .own _, fun i xi hi => ?_, g8⟩
    obtain ⟨_, _, _, _, _, _, _, _, g⟩ := C.md.exs i xi hi
    exact (g d xd hd).1
def tCs : List V → TA
  | [] => tNil
  | c :: cs => tCons (tC c) (tCs cs)
theorem tCs_go {σ : Slo} {H : Hp} : ∀ {cs : List V} {Q : List V → Hp → Prop}, Q cs H → tCs cs σ H Q
  | [], _, q => q
  | c :: cs, Q, q => by
    show tCs cs σ H fun xs H2 => Q (c :: xs) H2
    exact tCs_go q
theorem exns_at (C : CxOk T xc S cs gl k N fb sc Wx X) : ∀ {es : List Expr} {ys : List Str}, exNms S sc es = some ys → ∃ (vs : List V) (us : List Value), PA X es (tCs vs) ∧ Paired ClsV vs us ∧ vs.length = ys.length ∧
      (∀ i xi, S.exs[i]? = some xi → PySem.W.kitAny T.K (.ref (T.xa i)) us = some (ys.any fun y => xi.up.contains y)) ∧ PySem.W.kitAny T.K (.type "NoneType") us = some false
  | [], ys, h => by
    simp only [exNms, Option.some.injEq] at h; subst h
    exact ⟨[], [], pa_nil, .nil, rfl, fun _ _ _ => rfl, rfl⟩
  | e :: es, ys, h => by
    cases e with
    | Name y p =>
      simp only [exNms] at h
      split at h
      · rename_i hy
        cases q : exNms S sc es with
        | none => rw [q] at h; cases h
        | some zs =>
          rw [q] at h
          simp only [Option.map_some, Option.some.injEq] at h
          subst h
          obtain ⟨c, u, a1, a2, a3, a4⟩ := exn_at C hy
          obtain ⟨vs, us, b1, b2, b3, b4, b5⟩ := exns_at C q
          refine ⟨c :: vs, u :: us, pa_cons (a1 p) b1 rfl, .cons a2 b2, by rw [List.length_cons, List.length_cons, b3], fun i xi hi => ?_, ?_⟩
          · rw [List.any_cons]
            refine kitAny_cons (a3 i xi hi) (fun z => ?_) (fun z => by rw [z, Bool.true_or])
            rw [z, Bool.false_or]; exact b4 i xi hi
          · exact kitAny_cons a4 (fun _ => b5) (fun z => nomatch z)
      · cases h
    | _ => simp [exNms] at h
/-- the value that is asked of, its class, and the answer -/
theorem isx_val (C : CxOk T xc S cs gl k N fb sc Wx X) {ys : List Str} {B P H : Hp} {r : List Addr} {m : Sto} {v : V} {w : W} {b : Bool} (R : RelS T B r P m H) (h : RepT T B r H v w) (e : excW (exTab S ys) w = some b) :
    ∃ t, TyE T.K H v t ∧ (∀ q o, H q = none → TyE T.K (upd H q o) v t) ∧ ((t = .type "NoneType" ∧ b = false) ∨ ∃ i xi, S.exs[i]? = some xi ∧ t = .ref (T.xa i) ∧ b = ys.any fun y => xi.up.contains y) := by
  unfold excW at e
  split at e
  · rename_i c
    rcases h with h | ⟨_, _, _, _, h, _⟩
    · cases h with
      | exc c h =>
        unfold exTab at e
        rw [List.getElem?_map] at e
        cases q : S.exs[c]? with
        | none => rw [q] at e; cases e
        | some xi =>
          rw [q] at e
          simp only [Option.map_some, Option.some.injEq] at e
          obtain ⟨_, _, g3, _⟩ := C.md.exs c xi q
          have hh := R.bh _ _ h
          refine ⟨_, .exc g3 hh, fun p o hp => .exc g3 ?_, .inr ⟨c, xi, q, rfl, e.symm⟩⟩
          rw [upd_ne (fun z => by rw [z, hp] at hh; cases hh)]; exact hh
    · cases h
  · have := h.non
    subst this
    cases e
    exact ⟨_, .non, fun _ _ _ => .non, .inl ⟨rfl, rfl⟩⟩
  · cases e
theorem snd_isx (C : CxOk T xc S cs gl k N fb sc Wx X) {a : E} {tab : List Bool} {pa pt : Expr} {x : Str} {p pos : Pos} (hx : x = ("isinstance" : Str)) (hg : glB sc x = true) (hn : noStar pa = true) (ha : PE X pa (SE T xc cs gl Wx a)) (ht : isxB S sc tab pt = true) :
    PE X (.Call (.Name x p) [pa, pt] [] pos) (SE T xc cs gl Wx (.isx a tab)) := by
  subst hx
  have G := gl_of C.es hg
  have hm := C.md.blt "isinstance" (by decide +kernel)
  unfold isxB at ht
  split at ht
  · rename_i y p2
    rw [Bool.and_eq_true] at ht
    obtain ⟨c, u, a1, a2, a3, a4⟩ := exn_at C ht.1
    have et := eq_of_beq ht.2
    refine (pe_callB call_isX G hm (by decide +kernel) (pa_cons ha (pa_cons (a1 p2) pa_nil rfl) (star_of hn)) (by decide) (by decide) (star_of hn) rfl).imp fun σ H Q z => ?_
    obtain ⟨B, r, P, m, en, R, g⟩ := z
    simp only [ev] at g
    refine SG.go R (g.bind fun y en1 m1 B1 r1 H1 e1 R1 h1 v hv => ?_)
    obtain ⟨b, e2, h2⟩ := h1.opt
    obtain ⟨w, e3, e4⟩ := Option.bind_eq_some_iff.mp e2
    rw [et] at e4
    obtain ⟨t, k1, _, k2⟩ := isx_val C R1.s (R1.top hv e3) e4
    rw [C.eK]
    refine ⟨v, c, t, u, b, rfl, a2, k1, ?_, h2.fin R1 _ (.bl _)⟩
    rcases k2 with ⟨rfl, rfl⟩ | ⟨i, xi, hi, rfl, rfl⟩
    · exact a4
    · rw [a3 i xi hi]; simp
  · rename_i es n p2
    split at ht
    · rename_i ys q
      rw [Bool.and_eq_true] at ht
      have et := eq_of_beq ht.1
      have hl := of_decide_eq_true ht.2
      obtain ⟨vs, us, b1, b2, b3, b4, b5⟩ := exns_at C q
      refine (pe_callB call_isXT G hm (by decide +kernel) (pa_cons ha (pa_cons (pe_tup b1) pa_nil rfl) (star_of hn)) (by decide) (by decide) (star_of hn) rfl).imp fun σ H Q z => ?_
      obtain ⟨B, r, P, m, en, R, g⟩ := z
      simp only [ev] at g
      refine SG.go R (g.bind fun y en1 m1 B1 r1 H1 e1 R1 h1 v hv => ?_)
      obtain ⟨b, e2, h2⟩ := h1.opt
      obtain ⟨w, e3, e4⟩ := Option.bind_eq_some_iff.mp e2
      rw [et] at e4
      obtain ⟨t, _, k1, k2⟩ := isx_val C R1.s (R1.top hv e3) e4
      refine tCs_go ⟨by rw [b3]; exact Nat.le_trans hl (by decide), fun p hp => ?_⟩
      rw [C.eK]
      refine ⟨v, p, vs, t, us, b, rfl, upd_same, b2, k1 p _ hp, ?_, h2 B1 r1 _ Ext.refl (R1.grow (Sub.new hp)) _ (.bl _)⟩
      rcases k2 with ⟨rfl, rfl⟩ | ⟨i, xi, hi, rfl, rfl⟩
      · exact b5
      · exact b4 i xi hi
    · cases ht
  · cases ht
end
end Mp

set_option Elab.async false
set_option linter.all false
set_option maxRecDepth 100000
set_option maxHeartbeats 4000000
namespace Mp
open PySem PySem.Spec PyProof.Rows L2

section
variable (T : Tab) (xc : Nat → Value) (S : Sta) (cs : Nat → List W → Sto → CR) (gl : List W) (k : Nat) (N : List Str)
/-- what holds of an expression wherever it is written -/
structure Bd (e : E) : Prop where
  val : ∀ {fb sc Wx X p}, CxOk T xc S cs gl k N fb sc Wx X → okE S N fb sc e p = true → Snd T xc cs gl Wx X e p
  args : ∀ {fb sc Wx X ps}, CxOk T xc S cs gl k N fb sc Wx X → okEs S N fb sc e ps = true → PA X ps (SA T xc cs gl Wx e)
  few : ∀ {fb sc Wx X ps}, CxOk T xc S cs gl k N fb sc Wx X → ps ≠ [] → okEs S N fb sc e ps = true → PA X ps (SL T xc cs gl Wx e)
  ands : ∀ {fb sc Wx X ps pos}, CxOk T xc S cs gl k N fb sc Wx X → okB S N fb sc e ps = true → PE X (.BoolOp .And ps pos) (SG T xc Wx (evAnd cs gl e)) ∧ PW X (.BoolOp .And ps pos) (SBG T xc Wx (evAnd cs gl e))
  ors : ∀ {fb sc Wx X ps pos}, CxOk T xc S cs gl k N fb sc Wx X → okB S N fb sc e ps = true → PE X (.BoolOp .Or ps pos) (SG T xc Wx (evOr cs gl e)) ∧ PW X (.BoolOp .Or ps pos) (SBG T xc Wx (evOr cs gl e))
  src : ∀ {fb sc Wx X it tg p}, CxOk T xc S cs gl k N fb sc Wx X → okI S N fb sc it e tg p = true → PI X tg p (SI T xc cs gl Wx it e) ∧ setB p = false
  prs : ∀ {fb sc Wx X ps ks keys pos}, CxOk T xc S cs gl k N fb sc Wx X → okEs S N fb sc e ps = true → sameL ks e = true → keysB ks keys = true → PPs X pos keys ps (trsOf T xc cs gl Wx ks e)
end
section
variable {T : Tab} {xc : Nat → Value} {S : Sta} {cs : Nat → List W → Sto → CR} {gl : List W} {k : Nat} {N : List Str}
theorem okEs_stars {fb : Str → Bool} {sc : Scope} : ∀ {e : E} {ps : List Expr}, okEs S N fb sc e ps = true → ∀ q ∈ ps, noStar q = true
  | .nil, ps, h => by
    unfold okEs at h
    split at h
    · intro q hq; cases hq
    · cases h
  | .cons a e, ps, h => by
    unfold okEs at h
    split at h
    · simp only [Bool.and_eq_true] at h
      intro q hq
      rcases List.mem_cons.mp hq with rfl | hq
      · exact h.1.1
      · exact okEs_stars h.2 q hq
    · cases h
  | .var _, _, h => by simp [okEs] at h
  | .int _, _, h => by simp [okEs] at h
  | .bl _, _, h => by simp [okEs] at h
  | .non, _, h => by simp [okEs] at h
  | .str _, _, h => by simp [okEs] at h
  | .glob _, _, h => by simp [okEs] at h
  | .bin _ _ _, _, h => by simp [okEs] at h
  | .neg _, _, h => by simp [okEs] at h
  | .cmp _ _ _, _, h => by simp [okEs] at h
  | .chain _ _ _ _ _, _, h => by simp [okEs] at h
  | .and _, _, h => by simp [okEs] at h
  | .or _, _, h => by simp [okEs] at h
  | .not _, _, h => by simp [okEs] at h
  | .ite _ _ _, _, h => by simp [okEs] at h
  | .lst _, _, h => by simp [okEs] at h
  | .tup _, _, h => by simp [okEs] at h
  | .idx _ _, _, h => by simp [okEs] at h
  | .slc _ _ _, _, h => by simp [okEs] at h
  | .call _ _ _, _, h => by simp [okEs] at h
  | .blt _ _, _, h => by simp [okEs] at h
  | .lrng _, _, h => by simp [okEs] at h
  | .isi _ _, _, h => by simp [okEs] at h
  | .mth _ _ _, _, h => by simp [okEs] at h
  | .comp _ _ _ _ _ _, _, h => by simp [okEs] at h
  | .box _, _, h => by simp [okEs] at h
  | .fld _ _ _, _, h => by simp [okEs] at h
  | .mcall _ _ _ _ _, _, h => by simp [okEs] at h
  | .make _ _ _ _, _, h => by simp [okEs] at h
  | .dnew, _, h => by simp [okEs] at h
  | .dget _ _ _, _, h => by simp [okEs] at h
  | .din _ _ _, _, h => by simp [okEs] at h
  | .dkeys _, _, h => by simp [okEs] at h
/-- an expression that is no list of arguments -/
theorem Bd.mk1 {e : E} (h : ∀ {fb sc Wx X p}, CxOk T xc S cs gl k N fb sc Wx X → okE S N fb sc e p = true → Snd T xc cs gl Wx X e p)
    (h1 : ∀ {fb sc ps}, okEs S N fb sc e ps = false) (h2 : ∀ {fb sc ps}, okB S N fb sc e ps = false) (h3 : ∀ {fb sc it tg p}, okI S N fb sc it e tg p = false) : Bd T xc S cs gl k N e where
  val := h
  args := fun _ q => by rw [h1] at q; cases q
  few := fun _ _ q => by rw [h1] at q; cases q
  ands := fun _ q => by rw [h2] at q; cases q
  ors := fun _ q => by rw [h2] at q; cases q
  src := fun _ q => by rw [h3] at q; cases q
  prs := fun _ q => by rw [h1] at q; cases q
theorem bd_cmp {op : Cm} {a b : E} (A : Bd T xc S cs gl k N a) (B : Bd T xc S cs gl k N b) : Bd T xc S cs gl k N (.cmp op a b) := by
  refine Bd.mk1 (fun C h => ?_) (by simp [okEs]) (by simp [okB]) (by simp [okI])
  unfold okE at h
  split at h
  · simp only [Bool.and_eq_true, Bool.not_eq_true'] at h
    exact snd_cmp C h.1.1.1 h.1.1.2 (A.val C h.1.2).pe (B.val C h.2).pe
  · cases h
theorem bd_chain {op op2 : Cm} {a b c : E} (A : Bd T xc S cs gl k N a) (B : Bd T xc S cs gl k N b) (D : Bd T xc S cs gl k N c) : Bd T xc S cs gl k N (.chain op op2 a b c) := by
  refine Bd.mk1 (fun C h => ?_) (by simp [okEs]) (by simp [okB]) (by simp [okI])
  unfold okE at h
  split at h
  · simp only [Bool.and_eq_true, Bool.not_eq_true'] at h
    obtain ⟨⟨⟨⟨⟨⟨h1, h2⟩, h3⟩, h4⟩, h5⟩, h6⟩, h7⟩ := h
    exact snd_chain C h1 h2 h4 (A.val C h5).pe (B.val C h6).pe (D.val C h7).pe
  · cases h
theorem bd_slc {a lo hi : E} (A : Bd T xc S cs gl k N a) (L : Bd T xc S cs gl k N lo) (U : Bd T xc S cs gl k N hi) : Bd T xc S cs gl k N (.slc a lo hi) := by
  refine Bd.mk1 (fun C h => ?_) (by simp [okEs]) (by simp [okB]) (by simp [okI])
  unfold okE at h
  split at h
  · simp only [Bool.and_eq_true] at h
    obtain ⟨⟨h1, h2⟩, h3⟩ := h
    refine Snd.val (snd_slc C (A.val C h1).pe (snd_part ?_) (snd_part ?_)) fun _ => rfl
    · split at h2
      · exact h2
      · simp only [Bool.and_eq_true, Bool.not_eq_true'] at h2
        exact ⟨h2.1, (L.val C h2.2).pe⟩
    · split at h3
      · exact h3
      · simp only [Bool.and_eq_true, Bool.not_eq_true'] at h3
        exact ⟨h3.1, (U.val C h3.2).pe⟩
  · cases h
theorem bd_call {f n : Nat} {es : E} (A : Bd T xc S cs gl k N es) : Bd T xc S cs gl k N (.call f n es) := by
  refine Bd.mk1 (fun C h => ?_) (by simp [okEs]) (by simp [okB]) (by simp [okI])
  unfold okE at h
  split at h
  · simp only [Bool.and_eq_true] at h
    obtain ⟨⟨⟨⟨h1, hc⟩, h2⟩, h3⟩, h4⟩ := h
    split at h1
    · simp only [Bool.and_eq_true, decide_eq_true_eq] at h1
      obtain ⟨h5, rfl⟩ := h1
      have h5 := eq_of_beq h5
      subst h5
      exact Snd.val (snd_call C hc (by assumption) h2 h3 h4 (A.args C h4)) fun _ => rfl
    · cases h1
  · cases h
theorem bd_blt {b : Bi} {es : E} (A : Bd T xc S cs gl k N es) : Bd T xc S cs gl k N (.blt b es) := by
  refine Bd.mk1 (fun C h => ?_) (by simp [okEs]) (by simp [okB]) (by simp [okI])
  unfold okE at h
  split at h
  · simp only [Bool.and_eq_true] at h
    obtain ⟨⟨⟨hc, h1⟩, h2⟩, h3⟩ := h
    have st := okEs_stars h3
    refine Snd.val (snd_blt C hc (eq_of_beq h1) h2 ?_ (back_no fun q hq => st q (List.mem_cons_of_mem _ hq)) (star_of (st _ List.mem_cons_self)) (A.few C (by simp) h3)) fun _ => rfl
    cases b <;> simp [bltTy]
  · cases h
theorem bd_comp {it : It} {src c elt : E} {tg : Tg} {js : List Nat} (A : Bd T xc S cs gl k N src) (C0 : Bd T xc S cs gl k N c) (D : Bd T xc S cs gl k N elt) : Bd T xc S cs gl k N (.comp it src tg js c elt) := by
  refine Bd.mk1 (fun C h => ?_) (by simp [okEs]) (by simp [okB]) (by simp [okI])
  unfold okE at h
  split at h
  · simp only [Bool.and_eq_true] at h
    obtain ⟨⟨⟨⟨⟨⟨hc, h1⟩, h2⟩, h3⟩, h4⟩, h5⟩, h6⟩ := h
    obtain ⟨pi, hs⟩ := A.src C h1
    refine Snd.val (snd_comp C hc pi h2 h3 (by split at h6 <;> exact eq_of_beq h6) (fun CY => ?_) (fun CY => (D.val CY h5).pe) hs).1 fun _ => rfl
    split at h4
    · exact ⟨fun pins s σ H Q I z => pts_nil.run pins s σ H Q I (by
        rcases z with z | z
        · exact z.2
        · rw [h4] at z; cases z.1)⟩
    · simp only [Bool.and_eq_true, Bool.not_eq_true'] at h4
      obtain ⟨⟨h7, h8⟩, h9⟩ := h4
      exact ⟨fun pins s σ H Q I z => (pts_one ((C0.val CY h9).pt h8)).run pins s σ H Q I (by
        rcases z with z | z
        · rw [h7] at z; cases z.1
        · exact z.2)⟩
    · cases h4
  · cases h

theorem bd_mth {t : Mt} {a es : E} (A : Bd T xc S cs gl k N a) (B : Bd T xc S cs gl k N es) : Bd T xc S cs gl k N (.mth t a es) := by
  refine Bd.mk1 (fun C h => ?_) (by simp [okEs]) (by simp [okB]) (by simp [okI])
  unfold okE at h
  split at h
  · simp only [Bool.and_eq_true] at h
    obtain ⟨⟨⟨⟨⟨h1, h2⟩, h3⟩, h4⟩, h5⟩, h6⟩ := h
    exact Snd.val (snd_pop C (eq_of_beq h1) h2 h3 h5 (A.val C h4).pe (B.args C h6)) fun _ => rfl
  · simp only [Bool.and_eq_true] at h
    obtain ⟨⟨⟨⟨h1, h2⟩, h3⟩, h4⟩, h5⟩ := h
    cases es <;> first | (exact absurd h5 Bool.false_ne_true) | skip
    exact Snd.val (snd_bits (eq_of_beq h1) h2 h3 (A.val C h4).pe) fun _ => rfl
  · simp only [Bool.and_eq_true] at h
    obtain ⟨⟨⟨⟨⟨h1, h2⟩, h3⟩, h4⟩, h5⟩, h6⟩ := h
    exact Snd.val (snd_count C (eq_of_beq h1) h2 h3 h5 (A.val C h4).pe (B.args C h6)) fun _ => rfl
  · simp only [Bool.and_eq_true] at h
    obtain ⟨⟨⟨⟨⟨h1, h2⟩, h3⟩, h4⟩, h5⟩, h6⟩ := h
    exact Snd.val (snd_index C (eq_of_beq h1) h2 h3 h5 (A.val C h4).pe (B.args C h6)) fun _ => rfl
  · simp only [Bool.and_eq_true] at h
    have e := eq_of_beq h.1.1
    subst e
    exact Snd.val (snd_rev C (A.val C h.1.2).pe) fun _ => rfl
  · cases h
theorem bd_fld {a : E} {x : Str} {cl : List Nat} (A : Bd T xc S cs gl k N a) : Bd T xc S cs gl k N (.fld a x cl) := by
  refine Bd.mk1 (fun C h => ?_) (by simp [okEs]) (by simp [okB]) (by simp [okI])
  unfold okE at h
  split at h
  · simp only [Bool.and_eq_true, List.all_eq_true] at h
    obtain ⟨⟨⟨h1, h2⟩, h3⟩, h4⟩ := h
    have e := eq_of_beq h1
    subst e
    refine Snd.val (snd_fld C h2 (fun c hc => ?_) (A.val C h4).pe) fun _ => rfl
    have h5 := h3 c hc
    split at h5
    · exact ⟨_, by assumption, by simpa using h5⟩
    · cases h5
  · cases h
theorem bd_mcall {a es : E} {x : Str} {cf : List (Nat × Nat)} {n : Nat} (A : Bd T xc S cs gl k N a) (B : Bd T xc S cs gl k N es) : Bd T xc S cs gl k N (.mcall a x cf n es) := by
  refine Bd.mk1 (fun C h => ?_) (by simp [okEs]) (by simp [okB]) (by simp [okI])
  unfold okE at h
  split at h
  · simp only [Bool.and_eq_true, List.all_eq_true, decide_eq_true_eq] at h
    obtain ⟨⟨⟨⟨⟨⟨⟨hc, h1⟩, h2⟩, h3⟩, h4⟩, h5⟩, h6⟩, h7⟩ := h
    have e := eq_of_beq h1
    subst e
    refine Snd.val (snd_mcall C hc h2 h3 h4 (fun q hq => ?_) (okEs_stars h7) (fun e => ?_) (A.val C h6).pe (B.args C h7)) fun _ => rfl
    · have h8 := h5 q hq
      split at h8
      · simp only [Bool.and_eq_true] at h8
        obtain ⟨h9, h10⟩ := h8
        split at h10
        · have e := of_decide_eq_true h10
          subst e
          exact ⟨_, by assumption, by simpa using h9, _, by assumption⟩
        · cases h10
      · cases h8
    · subst e
      cases es <;> first | rfl | (exfalso; revert h7; simp [okEs])
  · cases h
theorem bd_make {c f n : Nat} {es : E} (B : Bd T xc S cs gl k N es) : Bd T xc S cs gl k N (.make c f n es) := by
  refine Bd.mk1 (fun C h => ?_) (by simp [okEs]) (by simp [okB]) (by simp [okI])
  unfold okE at h
  split at h
  · simp only [Bool.and_eq_true] at h
    obtain ⟨⟨⟨⟨⟨h1, h2⟩, hc⟩, h3⟩, h4⟩, h5⟩ := h
    split at h1
    · simp only [Bool.and_eq_true, decide_eq_true_eq] at h1
      split at h2
      · have e := of_decide_eq_true h2
        subst e
        exact Snd.val (snd_make C hc (by assumption) (eq_of_beq h1.1) h1.2 ⟨_, by assumption⟩ h3 h4 (okEs_stars h5) (B.args C h5)) fun _ => rfl
      · cases h2
    · cases h1
  · cases h
theorem bd_dget {a kk d : E} (A : Bd T xc S cs gl k N a) (B : Bd T xc S cs gl k N kk) (D : Bd T xc S cs gl k N d) : Bd T xc S cs gl k N (.dget a kk d) := by
  refine Bd.mk1 (fun C h => ?_) (by simp [okEs]) (by simp [okB]) (by simp [okI])
  unfold okE at h
  split at h
  · simp only [Bool.and_eq_true] at h
    obtain ⟨⟨⟨h1, h2⟩, h3⟩, h4⟩ := h
    cases d <;> first | (exact absurd h2 Bool.false_ne_true) | skip
    exact Snd.val (snd_dget C h1 (A.val C h3).pe (B.val C h4).pe) fun _ => rfl
  · simp only [Bool.and_eq_true, Bool.not_eq_true'] at h
    obtain ⟨⟨⟨⟨⟨⟨⟨⟨h1, h2⟩, h3⟩, h4⟩, h5⟩, h6⟩, h7⟩, h8⟩, h9⟩ := h
    have e := eq_of_beq h1
    subst e
    exact Snd.val (snd_dget2 C h2 h3 h4 h5 h6 (A.val C h7).pe (B.val C h8).pe (D.val C h9).pe) fun _ => rfl
  · cases h
theorem bd_din {ng : Bool} {kk a : E} (A : Bd T xc S cs gl k N a) (B : Bd T xc S cs gl k N kk) : Bd T xc S cs gl k N (.din ng kk a) := by
  refine Bd.mk1 (fun C h => ?_) (by simp [okEs]) (by simp [okB]) (by simp [okI])
  unfold okE at h
  split at h
  · simp only [Bool.and_eq_true, Bool.not_eq_true'] at h
    obtain ⟨⟨⟨h1, h2⟩, h3⟩, h4⟩ := h
    subst h1
    exact snd_din (ng := false) C h2 (B.val C h3).pe (A.val C h4).pe
  · simp only [Bool.and_eq_true, Bool.not_eq_true'] at h
    obtain ⟨⟨⟨h1, h2⟩, h3⟩, h4⟩ := h
    subst h1
    exact snd_din (ng := true) C h2 (B.val C h3).pe (A.val C h4).pe
  · cases h
theorem keysB_cons {k0 : Str} {ks : List Str} {keys : List (Option Expr)} (h : keysB (k0 :: ks) keys = true) : ∃ k2 r p o, keys = some (.Constant (.str k2) o p) :: r ∧ k0 = k2 ∧ keysB ks r = true := by
  unfold keysB at h
  split at h
  · rename_i heq; cases heq
  · rename_i a b c d e f heq
    cases heq
    rw [Bool.and_eq_true] at h
    exact ⟨_, _, _, _, rfl, eq_of_beq h.1, h.2⟩
  · cases h
theorem keys_some : ∀ {ks : List Str} {keys : List (Option Expr)}, keysB ks keys = true → keys.all (·.isSome) = true
  | [], [], _ => rfl
  | [], _ :: _, h => by simp [keysB] at h
  | k :: ks, keys, h => by
    obtain ⟨_, _, _, _, rfl, _, h2⟩ := keysB_cons h
    rw [List.all_cons, keys_some h2]; rfl
theorem bd_nil : Bd T xc S cs gl k N .nil where
  val := fun _ h => by simp [okE] at h
  args := fun C h => by
    unfold okEs at h
    split at h
    · exact snd_nil
    · cases h
  few := fun C hp h => by
    unfold okEs at h
    split at h
    · exact absurd rfl hp
    · cases h
  ands := fun C h => by simp [okB] at h
  ors := fun C h => by simp [okB] at h
  src := fun C h => by simp [okI] at h
  prs := fun {fb sc Wx X ps ks keys pos} C h hl hk => by
    cases ks with
    | cons k0 ks => simp [sameL] at hl
    | nil =>
      cases keys with
      | cons q r => simp [keysB] at hk
      | nil =>
        unfold okEs at h
        split at h
        · exact pps_nil
        · cases h
theorem setB_call {f : Expr} {es : List Expr} {ks : List Keyword} {p : Pos} : setB (.Call f es ks p) = false := rfl
theorem bd_cons {a es : E} (A : Bd T xc S cs gl k N a) (B : Bd T xc S cs gl k N es) : Bd T xc S cs gl k N (.cons a es) := by
  have ar : ∀ {fb sc Wx X ps}, CxOk T xc S cs gl k N fb sc Wx X → okEs S N fb sc (.cons a es) ps = true → PA X ps (SA T xc cs gl Wx (.cons a es)) := fun C h => by
    unfold okEs at h
    split at h
    · simp only [Bool.and_eq_true] at h
      exact snd_args h.1.1 (A.val C h.1.2).pe (B.args C h.2)
    · cases h
  refine ⟨fun _ h => by simp [okE] at h, ar, fun C hp h => ?_, fun C h => ?_, fun C h => ?_, fun C h => ?_, fun {fb sc Wx X ps ks keys pos} C h hl hk => ?_⟩
  · unfold okEs at h
    split at h
    · simp only [Bool.and_eq_true] at h
      refine snd_few h.1.1 (A.val C h.1.2).pe (B.args C h.2) fun hn => ?_
      have h2 := h.2
      cases es <;> first | (exact absurd hn Bool.false_ne_true) | skip
      unfold okEs at h2
      split at h2
      · rfl
      · cases h2
    · cases h
  · unfold okB at h
    split at h
    · cases h
    · simp only [Bool.and_eq_true, Bool.not_eq_true'] at h
      obtain ⟨⟨h1, h2⟩, h3⟩ := h
      cases es <;> first | (exact absurd h1 Bool.false_ne_true) | skip
      exact snd_and1 h2 (A.val C h3)
    · simp only [Bool.and_eq_true, Bool.not_eq_true'] at h
      obtain ⟨⟨h1, h2⟩, h3⟩ := h
      obtain ⟨v, w⟩ := B.ands C h3
      rename_i qs hne
      cases qs with
      | nil => exact (hne rfl).elim
      | cons q2 qs => exact snd_andl h1 (by cases es <;> first | rfl | (exfalso; revert h3; simp [okB])) (A.val C h2) v w
  · unfold okB at h
    split at h
    · cases h
    · simp only [Bool.and_eq_true, Bool.not_eq_true'] at h
      obtain ⟨⟨h1, h2⟩, h3⟩ := h
      cases es <;> first | (exact absurd h1 Bool.false_ne_true) | skip
      exact snd_or1 h2 (A.val C h3)
    · simp only [Bool.and_eq_true, Bool.not_eq_true'] at h
      obtain ⟨⟨h1, h2⟩, h3⟩ := h
      obtain ⟨v, w⟩ := B.ors C h3
      rename_i qs hne
      cases qs with
      | nil => exact (hne rfl).elim
      | cons q2 qs => exact snd_orl h1 (by cases es <;> first | rfl | (exfalso; revert h3; simp [okB])) (A.val C h2) v w
  · unfold okI at h
    split at h
    · rename_i heq
      simp only [E.cons.injEq] at heq
      obtain ⟨rfl, rfl⟩ := heq
      split at h
      · simp only [Bool.and_eq_true, Bool.not_eq_true'] at h
        exact ⟨pi_src C (.inl rfl) (A.val C h.2).pe, h.1⟩
      · simp only [Bool.and_eq_true, Bool.not_eq_true'] at h
        exact ⟨pi_src C (.inr (.inl rfl)) (A.val C h.2).pe, h.1⟩
      · simp only [Bool.and_eq_true, Bool.not_eq_true'] at h
        exact ⟨pi_src C (.inr (.inr rfl)) (A.val C h.2).pe, h.1⟩
      · simp only [Bool.and_eq_true, Bool.not_eq_true'] at h
        exact ⟨pi_keysS (A.val C h.2).pe, h.1⟩
      · split at h
        · simp only [Bool.and_eq_true] at h
          obtain ⟨⟨⟨h1, h2⟩, h3⟩, h4⟩ := h
          exact ⟨pi_rng1 C (eq_of_beq h1) h2 h3 (snd_args h3 (A.val C h4).pe snd_nil), rfl⟩
        · cases h
      · simp only [Bool.and_eq_true] at h
        obtain ⟨h0, h⟩ := h
        split at h
        · simp only [Bool.and_eq_true] at h
          obtain ⟨⟨⟨h1, h2⟩, h3⟩, h4⟩ := h
          exact ⟨pi_enumS C h0 (eq_of_beq h1) h2 h3 (snd_args h3 (A.val C h4).pe snd_nil), rfl⟩
        · cases h
      · split at h
        · simp only [Bool.and_eq_true] at h
          obtain ⟨⟨⟨h1, h2⟩, h3⟩, h4⟩ := h
          exact ⟨pi_revS C (eq_of_beq h1) h2 h3 (snd_args h3 (A.val C h4).pe snd_nil), rfl⟩
        · cases h
      · split at h
        · simp only [Bool.and_eq_true] at h
          obtain ⟨⟨⟨⟨⟨h1, h2⟩, h5⟩, h6⟩, h3⟩, h4⟩ := h
          exact ⟨pi_revrngS C (eq_of_beq h1) h2 (eq_of_beq h5) h6 h3 (A.val C h4).pe, rfl⟩
        · cases h
      · cases h
    · rename_i b heq
      simp only [E.cons.injEq] at heq
      obtain ⟨rfl, rfl⟩ := heq
      split at h
      · split at h
        · simp only [Bool.and_eq_true] at h
          obtain ⟨⟨⟨⟨⟨h1, h2⟩, h3⟩, h4⟩, h5⟩, h6⟩ := h
          exact ⟨pi_rng2 C (eq_of_beq h1) h2 h3 h5 (snd_args h3 (A.val C h4).pe (B.args C (by simp [okEs, h5, h6]))), rfl⟩
        · cases h
      · simp only [Bool.and_eq_true] at h
        obtain ⟨h0, h⟩ := h
        split at h
        · simp only [Bool.and_eq_true] at h
          obtain ⟨⟨⟨⟨⟨h1, h2⟩, h3⟩, h4⟩, h5⟩, h6⟩ := h
          exact ⟨pi_zipS C h0 (eq_of_beq h1) h2 h3 h5 (snd_args h3 (A.val C h4).pe (B.args C (by simp [okEs, h5, h6]))), rfl⟩
        · cases h
      · cases h
    · rename_i b c heq
      simp only [E.cons.injEq] at heq
      obtain ⟨rfl, rfl⟩ := heq
      split at h
      · split at h
        · simp only [Bool.and_eq_true] at h
          obtain ⟨⟨⟨⟨⟨⟨⟨h1, h2⟩, h3⟩, h4⟩, h5⟩, h6⟩, h7⟩, h8⟩ := h
          exact ⟨pi_rng3 C (eq_of_beq h1) h2 h3 h5 h7 (snd_args h3 (A.val C h4).pe (B.args C (by simp [okEs, h5, h6, h7, h8]))), rfl⟩
        · cases h
      · cases h
    · cases h
  · cases ks with
    | nil => simp [sameL] at hl
    | cons k0 ks =>
      unfold okEs at h
      split at h
      · simp only [Bool.and_eq_true] at h
        obtain ⟨q2, r2, p2, k2, rfl, e, hk2⟩ := keysB_cons hk
        subst e
        exact pps_cons (pe_str.imp fun σ H Q z => z) (A.val C h.1.2).pe (B.prs C h.2 (by simpa [sameL] using hl) hk2)
      · cases h
theorem bd_all : ∀ e : E, Bd T xc S cs gl k N e
  | .nil => bd_nil
  | .cons a es => bd_cons (bd_all a) (bd_all es)
  | .var j => Bd.mk1 (fun C h => snd_var C h) (by simp [okEs]) (by simp [okB]) (by simp [okI])
  | .int i => Bd.mk1 (fun C h => by
      unfold okE at h
      split at h
      · have h := of_decide_eq_true h
        subst h
        exact Snd.val (pe_int.imp fun σ H Q z => by
          obtain ⟨B, r, P, m, en, R, g⟩ := z
          simp only [ev] at g
          exact g.fin R _ (Rep.int _)) fun _ => rfl
      · cases h) (by simp [okEs]) (by simp [okB]) (by simp [okI])
  | .bl b => Bd.mk1 (fun C h => by
      unfold okE at h
      split at h
      · have h := eq_of_beq h
        subst h
        exact Snd.val (pe_bl.imp fun σ H Q z => by
          obtain ⟨B, r, P, m, en, R, g⟩ := z
          simp only [ev] at g
          exact g.fin R _ (Rep.bl _)) fun _ => rfl
      · cases h) (by simp [okEs]) (by simp [okB]) (by simp [okI])
  | .non => Bd.mk1 (fun C h => by
      unfold okE at h
      split at h
      · exact Snd.val (pe_non.imp fun σ H Q z => by
          obtain ⟨B, r, P, m, en, R, g⟩ := z
          simp only [ev] at g
          exact g.fin R _ Rep.non) fun _ => rfl
      · cases h) (by simp [okEs]) (by simp [okB]) (by simp [okI])
  | .str s => Bd.mk1 (fun C h => by
      unfold okE at h
      split at h
      · have h := eq_of_beq h
        subst h
        exact Snd.val (pe_str.imp fun σ H Q z => by
          obtain ⟨B, r, P, m, en, R, g⟩ := z
          simp only [ev] at g
          exact g.fin R _ (Rep.str _)) fun _ => rfl
      · cases h) (by simp [okEs]) (by simp [okB]) (by simp [okI])
  | .glob g => Bd.mk1 (fun C h => snd_glob C h) (by simp [okEs]) (by simp [okB]) (by simp [okI])
  | .bin op a b => Bd.mk1 (fun C h => by
      unfold okE at h
      split at h
      · simp only [Bool.and_eq_true] at h
        exact Snd.val (snd_bin C h.1.1 ((bd_all a).val C h.1.2).pe ((bd_all b).val C h.2).pe) fun _ => rfl
      · cases h) (by simp [okEs]) (by simp [okB]) (by simp [okI])
  | .neg a => Bd.mk1 (fun C h => by
      unfold okE at h
      split at h
      · exact Snd.val (snd_neg ((bd_all a).val C h).pe) fun _ => rfl
      · cases h) (by simp [okEs]) (by simp [okB]) (by simp [okI])
  | .cmp op a b => bd_cmp (bd_all a) (bd_all b)
  | .chain op op2 a b c => bd_chain (bd_all a) (bd_all b) (bd_all c)
  | .and es => Bd.mk1 (fun C h => by
      unfold okE at h
      split at h
      · obtain ⟨v, w⟩ := (bd_all es).ands C h
        refine ⟨v.imp fun σ H Q z => ?_, fun _ => w.pt.imp fun σ H Q z => ?_⟩
        · obtain ⟨B, r, P, m, en, R, g⟩ := z
          simp only [ev] at g
          exact ⟨B, r, P, m, en, R, g⟩
        · obtain ⟨B, r, P, m, en, R, g⟩ := z
          simp only [ev] at g
          exact ⟨B, r, P, m, en, R, g⟩
      · cases h) (by simp [okEs]) (by simp [okB]) (by simp [okI])
  | .or es => Bd.mk1 (fun C h => by
      unfold okE at h
      split at h
      · obtain ⟨v, w⟩ := (bd_all es).ors C h
        refine ⟨v.imp fun σ H Q z => ?_, fun _ => w.pt.imp fun σ H Q z => ?_⟩
        · obtain ⟨B, r, P, m, en, R, g⟩ := z
          simp only [ev] at g
          exact ⟨B, r, P, m, en, R, g⟩
        · obtain ⟨B, r, P, m, en, R, g⟩ := z
          simp only [ev] at g
          exact ⟨B, r, P, m, en, R, g⟩
      · cases h) (by simp [okEs]) (by simp [okB]) (by simp [okI])
  | .not a => Bd.mk1 (fun C h => by
      unfold okE at h
      split at h
      · simp only [Bool.and_eq_true, Bool.not_eq_true'] at h
        exact snd_not ((bd_all a).val C h.2) h.1
      · cases h) (by simp [okEs]) (by simp [okB]) (by simp [okI])
  | .ite c a b => Bd.mk1 (fun C h => by
      unfold okE at h
      split at h
      · simp only [Bool.and_eq_true, Bool.not_eq_true'] at h
        exact snd_ite (((bd_all c).val C h.1.1.2).pt h.1.1.1) ((bd_all a).val C h.1.2).pe ((bd_all b).val C h.2).pe
      · cases h) (by simp [okEs]) (by simp [okB]) (by simp [okI])
  | .lst es => Bd.mk1 (fun C h => by
      unfold okE at h
      split at h
      · exact Snd.val (snd_lst ((bd_all es).args C h)) fun _ => rfl
      · cases h) (by simp [okEs]) (by simp [okB]) (by simp [okI])
  | .tup es => Bd.mk1 (fun C h => by
      unfold okE at h
      split at h
      · exact Snd.val (snd_tup ((bd_all es).args C h)) fun _ => rfl
      · cases h) (by simp [okEs]) (by simp [okB]) (by simp [okI])
  | .idx a i => Bd.mk1 (fun C h => by
      unfold okE at h
      split at h
      · simp only [Bool.and_eq_true] at h
        exact Snd.val (snd_idx C h.1.1 ((bd_all a).val C h.1.2).pe ((bd_all i).val C h.2).pe) fun _ => rfl
      · cases h) (by simp [okEs]) (by simp [okB]) (by simp [okI])
  | .slc a lo hi => bd_slc (bd_all a) (bd_all lo) (bd_all hi)
  | .call f n es => bd_call (bd_all es)
  | .blt b es => bd_blt (bd_all es)
  | .lrng a => Bd.mk1 (fun C h => by
      unfold okE at h
      split at h
      · simp only [Bool.and_eq_true] at h
        obtain ⟨⟨⟨⟨⟨⟨hc, h1⟩, h2⟩, h3⟩, h4⟩, h5⟩, h6⟩ := h
        exact Snd.val (snd_lrng C hc (eq_of_beq h1) (eq_of_beq h3) h2 h4 h5 ((bd_all a).val C h6).pe) fun _ => rfl
      · cases h) (by simp [okEs]) (by simp [okB]) (by simp [okI])
  | .isi a ts => Bd.mk1 (fun C h => by
      unfold okE at h
      split at h
      · simp only [Bool.and_eq_true, decide_eq_true_eq] at h
        obtain ⟨⟨⟨⟨⟨h1, h2⟩, h3⟩, h4⟩, h5⟩, h6⟩ := h
        exact Snd.val (snd_isi C (eq_of_beq h1) h2 h3 ((bd_all a).val C h4).pe h6 h5) fun _ => rfl
      · cases h) (by simp [okEs]) (by simp [okB]) (by simp [okI])
  | .mth t a es => bd_mth (bd_all a) (bd_all es)
  | .comp it src tg js c elt => bd_comp (bd_all src) (bd_all c) (bd_all elt)
  | .box a => Bd.mk1 (fun C h => by
      unfold okE at h
      exact ⟨((bd_all a).val C h).pe.imp fun σ H Q z => box_ok z, fun q => by cases q⟩) (by simp [okEs]) (by simp [okB]) (by simp [okI])
  | .fld a x cl => bd_fld (bd_all a)
  | .mcall a x cf n es => bd_mcall (bd_all a) (bd_all es)
  | .make c f n es => bd_make (bd_all es)
  | .dnew => Bd.mk1 (fun C h => by
      unfold okE at h
      split at h
      · exact Snd.val snd_dnew fun _ => rfl
      · cases h) (by simp [okEs]) (by simp [okB]) (by simp [okI])
  | .dget a kk d => bd_dget (bd_all a) (bd_all kk) (bd_all d)
  | .din ng kk a => bd_din (bd_all a) (bd_all kk)
  | .dkeys a => Bd.mk1 (fun C h => by
      unfold okE at h
      split at h
      · simp only [Bool.and_eq_true] at h
        obtain ⟨⟨⟨⟨hc, h1⟩, h2⟩, h3⟩, h4⟩ := h
        exact Snd.val (snd_dkeys C hc (eq_of_beq h1) h2 h3 ((bd_all a).val C h4).pe) fun _ => rfl
      · cases h) (by simp [okEs]) (by simp [okB]) (by simp [okI])
  | .isx a tab => Bd.mk1 (fun C h => by
      unfold okE at h
      split at h
      · simp only [Bool.and_eq_true] at h
        obtain ⟨⟨⟨⟨h1, h2⟩, h3⟩, h4⟩, h5⟩ := h
        exact Snd.val (snd_isx C (eq_of_beq h1) h2 h3 ((bd_all a).val C h4).pe h5) fun _ => rfl
      · cases h) (by simp [okEs]) (by simp [okB]) (by simp [okI])
  | .lock a e => Bd.mk1 (fun C h => by
      unfold okE at h
      exact ⟨snd_lock ((bd_all e).val C h).pe, fun q => by cases q⟩) (by simp [okEs]) (by simp [okB]) (by simp [okI])
  | .dlit ks es => Bd.mk1 (fun C h => by
      unfold okE at h
      split at h
      · simp only [Bool.and_eq_true, decide_eq_true_eq, Bool.not_eq_true'] at h
        obtain ⟨⟨⟨⟨⟨h1, h2⟩, h3⟩, h4⟩, h5⟩, h6⟩ := h
        exact Snd.val (snd_dlit h1 h2 h3 (by intro z; rw [z] at h4; cases h4) (keys_some h5) ((bd_all es).prs C h6 h1 h5)) fun _ => rfl
      · cases h) (by simp [okEs]) (by simp [okB]) (by simp [okI])
  | .lrng2 a b => Bd.mk1 (fun C h => by
      unfold okE at h
      split at h
      · simp only [Bool.and_eq_true] at h
        obtain ⟨⟨⟨⟨⟨⟨⟨⟨hc, h1⟩, h2⟩, h3⟩, h4⟩, h5⟩, h6⟩, h7⟩, h8⟩ := h
        exact Snd.val (snd_lrng2 C hc (eq_of_beq h1) (eq_of_beq h3) h2 h4 h5 h6 ((bd_all a).val C h7).pe ((bd_all b).val C h8).pe) fun _ => rfl
      · cases h) (by simp [okEs]) (by simp [okB]) (by simp [okI])
end
end Mp

set_option Elab.async false
set_option linter.all false
set_option maxRecDepth 100000
set_option maxHeartbeats 4000000
namespace Mp
open PySem PySem.Spec PyProof.Rows L2

/-! that a block is the one of the program -/
def swOk (sc : Scope) (x : Str) (py : Pos) (v : Expr) : Bool := match v with
  | .ListComp _ _ scope cpos => (sc.names.lookup x == some .cell) || swB sc x py scope cpos
  | .SetComp _ _ _ _ => false
  | .DictComp _ _ _ _ _ => false
  | _ => true
def lcB (sc : Scope) (x : Str) : Bool := sc.names.lookup x == some .local
def isLk : E → Bool
  | .lock _ _ => true
  | .box a => isLk a
  | _ => false
def xupB (S : Sta) (x : Str) (c : Nat) : Bool := match S.exs[c]? with
  | some xi => xi.up.contains x
  | none => false
def xnmB (S : Sta) (x : Str) (c : Nat) : Bool := match S.exs[c]? with
  | some xi => x == xi.nm
  | none => false
section
mutual
def okS (S : Sta) (N : List Str) (fb : Str → Bool) (sc : Scope) (s : Mp.S) (p : Stmt) : Bool :=
  match s with
  | .skip => match p with
    | .Pass _ => true
    | .Expr (.Constant (.str _) _ _) _ => true
    | _ => false
  | .seq _ _ => false
  | .asg j e => match p with
    | .Assign [.Name x py] v _ => (N[j]? == some x) && locB fb sc x && swOk sc x py v && (notComp v || (S.cB && !isLk e)) && okE S N fb sc e v
    | _ => false
  | .unp tg e => match p with
    | .Assign [t] v _ => S.cB && okT N fb sc tg t && notTup v && notComp v && okE S N fb sc e v
    | _ => false
  | .par i j a b => match p with
    | .Assign [.Tuple [.Name x px, .Name y py] _ _] (.Tuple [pa, pb] _ _) _ => S.cB && (N[i]? == some x) && (N[j]? == some y) && decide (i ≠ j) && lcB sc x && lcB sc y && (px.line == py.line) && !(x == y) &&
        noStar pa && noStar pb && !([pa, pb].all (foldedForSure 8)) && !([pa, pb].all (constantsAlone 8)) && okE S N fb sc a pa && okE S N fb sc b pb
    | _ => false
  | .seti a i e => match p with
    | .Assign [.Subscript pa pi _] v _ => plainIxB pi && notComp v && okE S N fb sc a pa && okE S N fb sc i pi && okE S N fb sc e v
    | _ => false
  | .app a e => match p with
    | .Expr (.Call (.Attribute pa x ap) [q] [] cp) _ => (x == ("append" : Str)) && baseB pa && (ap.endLine == cp.line) && noStar q && okE S N fb sc a pa && okE S N fb sc e q
    | _ => false
  | .ex e => match p with
    | .Expr v _ => notComp v && okE S N fb sc e v
    | _ => false
  | .ret e => match p with
    | .Return (some v) _ => okE S N fb sc e v
    | _ => false
  | .retn => match p with
    | .Return none _ => true
    | _ => false
  | .iff c s t => match p with
    | .If pc ps qs _ => !isIte c && okE S N fb sc c pc && okSs S N fb sc s ps && okSs S N fb sc t qs
    | _ => false
  | .for_ it src tg b => match p with
    | .For pt pi ps [] _ => S.cB && okI S N fb sc it src pt pi && okT N fb sc tg pt && okSs S N fb sc b ps
    | _ => false
  | .whl c b => match p with
    | .While pc ps [] _ => !isIte c && okE S N fb sc c pc && okSs S N fb sc b ps
    | _ => false
  | .raise c => match p with
    | .Raise (some (.Call (.Name x _) [.Constant (.str _) _ _] [] _)) none _ => S.cB && xnmB S x c && glB sc x && plB x
    | _ => false
  | .tryx b cl j s => match p with
    | .Try ps [.ExceptHandler (some (.Name x _)) (some n) (q :: qs) _] [] [] _ => (N[j]? == some n) && lcB sc n && glB sc x && plB x && (S.exs.any fun xi => xi.nm == x) && (cl.all fun c => xupB S x c) && okSs S N fb sc b ps && okSs S.hot N fb sc s (q :: qs)
    | _ => false
  | .lockS _ s => okS S N fb sc s p
  | .augf a x cl e => match p with
    | .AugAssign (.Attribute pa y _) .Add v _ => (x == y) && (cl.all fun c => match S.cls[c]? with
        | some ci => ci.flds.contains x
        | none => false) && okE S N fb sc a pa && okE S N fb sc e v
    | _ => false
  | .never => true
  | .augn j op e => match p with
    | .AugAssign (.Name x _) o v _ => (N[j]? == some x) && locB fb sc x && (match op with
        | .add => true
        | .sub => true
        | _ => false) && opB op o && okE S N fb sc e v
    | _ => false
  | .extd a e => match p with
    | .Expr (.Call (.Attribute pa x ap) [q] [] cp) _ => (x == ("extend" : Str)) && baseB pa && (ap.endLine == cp.line) && noStar q && okE S N fb sc a pa && okE S N fb sc e q
    | _ => false
  | .setf a x cl e => match p with
    | .Assign [.Attribute pa y _] v _ => (x == y) && notComp v && (cl.all fun c => match S.cls[c]? with
        | some ci => ci.flds.contains x
        | none => false) && okE S N fb sc a pa && okE S N fb sc e v
    | _ => false
  | .dput a k e => match p with
    | .Assign [.Subscript pa pk _] v _ => plainIxB pk && notComp v && okE S N fb sc a pa && okE S N fb sc k pk && okE S N fb sc e v
    | _ => false
def okSs (S : Sta) (N : List Str) (fb : Str → Bool) (sc : Scope) (s : Mp.S) (ps : List Stmt) : Bool :=
  match s with
  | .seq a b => match ps with
    | p :: ps => okS S N fb sc a p && okSs S N fb sc b ps
    | [] => false
  | .skip => match ps with
    | [] => true
    | _ => false
  | .never => true
  | _ => false
end
end

/-! what a statement promises -/
section
variable (T : Tab) (xc : Nat → Value) (Wx : WX) (P : Hp) (cs : Nat → List W → Sto → CR) (gl : List W) (Nf : Nat)
def PostSt (B : Hp) (r : List Addr) (x : R Out) (D : Ends) : Prop :=
  match x with
  | .ok o en m => ∀ σ B2 r2 H2, Ext P B r B2 r2 → Rel T B2 r2 P m en σ H2 → (match o with
    | .nx => D.nx σ H2
    | .rt a => ∀ v, RepC T B2 r2 P H2 v a → D.rt v H2)
  | .ex c en m => ∀ σ B2 r2 H2, Ext P B r B2 r2 → Rel T B2 r2 P m en σ H2 → Wx (xc c) none σ H2
  | .bad => False
end
def SVg (T : Tab) (xc : Nat → Value) (Wx : WX) (f : En → Sto → R Out) : TS := fun D σ H => ∃ B r P m en, Rel T B r P m en σ H ∧ PostSt T xc Wx P B r (f en m) D
def SV (T : Tab) (xc : Nat → Value) (cs : Nat → List W → Sto → CR) (gl : List W) (Nf : Nat) (Wx : WX) (s : Mp.S) : TS := SVg T xc Wx (sv cs gl Nf s)
section
variable {T : Tab} {xc : Nat → Value} {S : Sta} {cs : Nat → List W → Sto → CR} {gl : List W} {k Nf : Nat} {N : List Str} {fb : Str → Bool} {sc : Scope} {Wx : WX} {X : Cx} {P B B1 H : Hp} {r r1 : List Addr} {D : Ends} {σ : Slo} {A : Type}
theorem PostSt.mono {x : R Out} (e : Ext P B r B1 r1) (h : PostSt T xc Wx P B r x D) : PostSt T xc Wx P B1 r1 x D := by
  cases x with
  | ok a en m => exact fun σ B2 r2 H2 e2 R => h σ B2 r2 H2 (e.trans e2) R
  | ex c en m => exact fun σ B2 r2 H2 e2 R => h σ B2 r2 H2 (e.trans e2) R
  | bad => exact h
theorem PostSt.bindE {x : R A} {f : A → En → Sto → R Out} {g : A → En → Sto → Hp → List Addr → Hp → Prop} (h : PostSt T xc Wx P B r (x.bind f) D)
    (q : ∀ a en m B2 r2 H2, Ext P B r B2 r2 → Rel T B2 r2 P m en σ H2 → PostSt T xc Wx P B2 r2 (f a en m) D → g a en m B2 r2 H2) : PostG T xc Wx P σ B r x g := by
  cases x with
  | ok a en m => exact fun B2 r2 H2 e R => q a en m B2 r2 H2 e R (PostSt.mono e h)
  | ex c en m => exact fun B2 r2 H2 e R => h σ B2 r2 H2 e R
  | bad => exact h
theorem PostSt.bindS {x : R Out} {f : Out → En → Sto → R Out} {D2 : Ends} (h : PostSt T xc Wx P B r (x.bind f) D)
    (q : ∀ en m σ B2 r2 H2, Ext P B r B2 r2 → Rel T B2 r2 P m en σ H2 → PostSt T xc Wx P B2 r2 (f .nx en m) D → D2.nx σ H2)
    (q2 : ∀ a en m σ B2 r2 H2 v, Ext P B r B2 r2 → Rel T B2 r2 P m en σ H2 → PostSt T xc Wx P B2 r2 (f (.rt a) en m) D → RepC T B2 r2 P H2 v a → D2.rt v H2) : PostSt T xc Wx P B r x D2 := by
  cases x with
  | ok a en m =>
    intro σ B2 r2 H2 e R
    cases a with
    | nx => exact q en m σ B2 r2 H2 e R (PostSt.mono e h)
    | rt a => exact fun v hv => q2 a en m σ B2 r2 H2 v e R (PostSt.mono e h) hv
  | ex c en m => exact h
  | bad => exact h
theorem PostSt.opt {o : Option A} {f : A → R Out} (h : PostSt T xc Wx P B r (Mp.opt o f) D) : ∃ a, o = some a ∧ PostSt T xc Wx P B r (f a) D := by
  cases o with
  | none => exact False.elim h
  | some a => exact ⟨a, rfl, h⟩
theorem PostSt.opt2 {A2 : Type} {o : Option (A × A2)} {f : A → A2 → R Out} (h : PostSt T xc Wx P B r (Mp.opt2 o f) D) : ∃ a b, o = some (a, b) ∧ PostSt T xc Wx P B r (f a b) D := by
  cases o with
  | none => exact False.elim h
  | some p => exact ⟨p.1, p.2, rfl, h⟩
theorem PostSt.nx {en : En} {m : Sto} (h : PostSt T xc Wx P B r (.ok .nx en m) D) (R : Rel T B r P m en σ H) : D.nx σ H := h σ B r H Ext.refl R
/-- what must be so where a block runs -/
structure CsOk (T : Tab) (xc : Nat → Value) (S : Sta) (cs : Nat → List W → Sto → CR) (gl : List W) (k : Nat) (N : List Str) (fb : Str → Bool) (sc : Scope) (Wx : WX) (X : Cx) : Prop where
  C : CxOk T xc S cs gl k N fb sc Wx X
  po : PassesOwn (model X.prog X.w) X.A X.env X.xe
  kf : sc.kind = .function
  stk : X.stack = X.env :: X.outer
  frm : X.env.frame = some X.env.locals
  exn : X.ex = []
theorem notComp_sole {t v : Expr} {l : Nat} {env : PySem.Env} (h : notComp v = true) : swapsWithSole [t] v l env = pure false := noSwap_of h
theorem notTup_sw {t v : Expr} {env : PySem.Env} (h : notTup v = true) : swappedStores [t] v env = pure none := by
  cases v <;> first | (cases t <;> rfl) | cases h
theorem one_each {t : Expr} {env : PySem.Env} (h : noStar t = true) : (assignEach [t] env).map (·.2) = [assign t env] := by
  cases t <;> first | rfl | cases h
theorem okT_star {tg : Tg} {t : Expr} (h : okT N fb sc tg t = true) : noStar t = true := by
  unfold okT at h
  split at h <;> first | rfl | cases h
theorem lb_of {x : Str} (h : lcB sc x = true) : sc.names.lookup x = some .local := eq_of_beq h
/-- the next name's value -/
theorem slOf_rel {B P H : Hp} {r : List Addr} {m : Sto} {en en2 : En} {v : V} {x : RV} {s : Sl} {j : Nat} (R : Rel T B r P m en σ H) (hv : RepR T B r P en σ H v x) (e : slOf x en = some (s, en2)) :
    ∃ B2, Ext P B r B2 r ∧ Rel T B2 r P m (en2.set j (some s)) (σ.set j (some v)) H := by
  have es : ∀ {x : RV}, RepR T B r P en σ H v x → ((esc x en).map fun p => ((.val p.1 : Sl), p.2)) = some (s, en2) → ∃ B2, Ext P B r B2 r ∧ Rel T B2 r P m (en2.set j (some s)) (σ.set j (some v)) H := fun {x} hv e => by
    cases q : esc x en with
    | none => rw [q] at e; cases e
    | some p =>
      rw [q] at e
      simp only [Option.map_some, Option.some.injEq, Prod.mk.injEq] at e
      obtain ⟨rfl, rfl⟩ := e
      obtain ⟨B2, e2, R2, h2⟩ := R.esc hv q
      exact ⟨B2, e2, R2.set_val h2⟩
  cases x with
  | new ws =>
    simp only [slOf, Option.some.injEq, Prod.mk.injEq] at e
    obtain ⟨rfl, rfl⟩ := e
    exact ⟨B, Ext.refl, R.set_own hv⟩
  | val w => exact es hv e
  | bor i => exact es hv e
/-- name = value, by what the value's reading gives -/
theorem asg_go {j : Nat} {e : E} {D : Ends} {H : Hp} {σ : Slo} (z : SV T xc cs gl Nf Wx (.asg j e) D σ H) : SE T xc cs gl Wx e σ H fun x H1 => gName j x σ H1 D.nx := by
  obtain ⟨B, r, P, m, en, R, g⟩ := z
  simp only [sv] at g
  refine ⟨B, r, P, m, en, R, g.bindE fun x en1 m1 B1 r1 H1 e1 R1 h1 v hv => ?_⟩
  obtain ⟨s, en2, e2, h2⟩ := h1.opt2
  obtain ⟨B2, e3, R2⟩ := slOf_rel (j := j) R1 hv e2
  exact (PostSt.mono e3 h2).nx R2

/-- a comprehension's parts, boxed or not -/
theorem lc_parts (C : CxOk T xc S cs gl k N fb sc Wx X) {pe : Expr} {gens : List Comprehension} {scope : Scope} {pos : Pos} : ∀ {e : E}, isLk e = false → okE S N fb sc e (.ListComp pe gens scope pos) = true →
    ∃ pt pi ifs wi tt te tg js, gens = [⟨pt, pi, ifs, 0⟩] ∧ PI X pt pi wi ∧ blkC N sc scope (ownN N js) = true ∧
      (∀ (s : Shared) (H : Hp) (A : Addr) (cl : List (Str × Addr)) (fp : List Addr), PG (X.blk s H scope (compEnvC scope cl A X.env) fp) pt (STg T tg)) ∧
      (∀ (s : Shared) (H : Hp) (A : Addr) (cl : List (Str × Addr)) (fp : List Addr), PTs (X.blk s H scope (compEnvC scope cl A X.env) fp) ifs tt) ∧
      (∀ (s : Shared) (H : Hp) (A : Addr) (cl : List (Str × Addr)) (fp : List Addr), PE (X.blk s H scope (compEnvC scope cl A X.env) fp) pe te) ∧ setB pi = false ∧
      ∀ σ H Q, SE T xc cs gl Wx e σ H Q → tLc wi (STg T tg) tt te ((ownN N js).map (·.2)) σ H Q
  | .comp it src tg js c elt, _, h => by
    unfold okE at h
    split at h
    · rename_i pe2 pt pi ifs scope2 pos2 heq
      simp only [Expr.ListComp.injEq] at heq
      obtain ⟨rfl, rfl, rfl, rfl⟩ := heq
      simp only [Bool.and_eq_true] at h
      obtain ⟨⟨⟨⟨⟨⟨hc, h1⟩, h2⟩, h3⟩, h4⟩, h5⟩, h6⟩ := h
      obtain ⟨pi, hs⟩ := (bd_all (T := T) (xc := xc) (cs := cs) (gl := gl) (k := k) src).src C h1
      have htt : ∀ {Y : Cx}, CxOk T xc S cs gl k N (fun x => scope.names.lookup x == some .cell) (relS scope sc) W0 Y → PTs Y ifs (ST T xc cs gl W0 c) := fun {Y} CY => by
        split at h4
        · exact ⟨fun pins s σ H Q I z => pts_nil.run pins s σ H Q I (by
            rcases z with z | z
            · exact z.2
            · rw [h4] at z; cases z.1)⟩
        · simp only [Bool.and_eq_true, Bool.not_eq_true'] at h4
          obtain ⟨⟨h7, h8⟩, h9⟩ := h4
          exact ⟨fun pins s σ H Q I z => (pts_one (((bd_all c).val CY h9).pt h8)).run pins s σ H Q I (by
            rcases z with z | z
            · rw [h7] at z; cases z.1
            · exact z.2)⟩
        · cases h4
      exact ⟨_, _, _, _, _, _, tg, js, rfl, pi, h2, fun s H A cl fp => pg_tg (C.blk s H scope cl A fp) hc h3, fun s H A cl fp => htt (C.blk s H scope cl A fp), fun s H A cl fp => ((bd_all elt).val (C.blk s H scope cl A fp) h5).pe, hs,
        (snd_comp C hc (pos := pos) pi h2 h3 (by split at h6 <;> exact eq_of_beq h6) htt (fun CY => ((bd_all elt).val CY h5).pe) hs).2⟩
    · cases h
  | .box a, hk, h => by
    unfold okE at h
    obtain ⟨pt, pi, ifs, wi, tt, te, tg, js, h1, h2, h3, h4, h5, h6, h7, h8⟩ := lc_parts C (by simpa [isLk] using hk) h
    exact ⟨pt, pi, ifs, wi, tt, te, tg, js, h1, h2, h3, h4, h5, h6, h7, fun σ H Q z => h8 σ H Q (box_ok z)⟩
  | .nil, _, h => by simp [okE] at h
  | .cons _ _, _, h => by simp [okE] at h
  | .var _, _, h => by simp [okE] at h
  | .int _, _, h => by simp [okE] at h
  | .bl _, _, h => by simp [okE] at h
  | .non, _, h => by simp [okE] at h
  | .str _, _, h => by simp [okE] at h
  | .glob _, _, h => by simp [okE] at h
  | .bin _ _ _, _, h => by simp [okE] at h
  | .neg _, _, h => by simp [okE] at h
  | .cmp _ _ _, _, h => by simp [okE] at h
  | .chain _ _ _ _ _, _, h => by simp [okE] at h
  | .and _, _, h => by simp [okE] at h
  | .or _, _, h => by simp [okE] at h
  | .not _, _, h => by simp [okE] at h
  | .ite _ _ _, _, h => by simp [okE] at h
  | .lst _, _, h => by simp [okE] at h
  | .tup _, _, h => by simp [okE] at h
  | .idx _ _, _, h => by simp [okE] at h
  | .slc _ _ _, _, h => by simp [okE] at h
  | .call _ _ _, _, h => by simp [okE] at h
  | .blt _ _, _, h => by simp [okE] at h
  | .lrng _, _, h => by simp [okE] at h
  | .isi _ _, _, h => by simp [okE] at h
  | .mth _ _ _, _, h => by simp [okE] at h
  | .fld _ _ _, _, h => by simp [okE] at h
  | .mcall _ _ _ _ _, _, h => by simp [okE] at h
  | .make _ _ _ _, _, h => by simp [okE] at h
  | .dnew, _, h => by simp [okE] at h
  | .dget _ _ _, _, h => by simp [okE] at h
  | .din _ _ _, _, h => by simp [okE] at h
  | .dkeys _, _, h => by simp [okE] at h
  | .isx _ _, _, h => by simp [okE] at h
  | .lock _ _, hk, _ => by simp [isLk] at hk
  | .dlit _ _, _, h => by simp [okE] at h
  | .lrng2 _ _, _, h => by simp [okE] at h
theorem st_asg (C : CsOk T xc S cs gl k N fb sc Wx X) {j : Nat} {e : E} {p : Stmt} (h : okS S N fb sc (.asg j e) p = true) : PS X p (SV T xc cs gl Nf Wx (.asg j e)) := by
  unfold okS at h
  split at h
  · rename_i x py v pos
    simp only [Bool.and_eq_true] at h
    obtain ⟨⟨⟨⟨h1, h2⟩, h3⟩, h0⟩, h4⟩ := h
    obtain ⟨hl, hf⟩ := loc_of h2
    have hx : Loc X.env.scope x := by rw [C.C.es]; exact hl
    have hf2 : X.fn x = true ∨ X.env.scope.names.lookup x = some .local := by rw [C.C.ef, C.C.es]; exact hf
    have nd : X.N.Nodup := by rw [C.C.eN]; exact C.C.nd
    by_cases hn : notComp v = true
    · exact (ps_set nd (C.C.name h1) hx ((bd_all e).val C.C h4).pe (noSwap_of hn) hf2).imp fun D σ H z => asg_go z
    · cases v with
      | ListComp pe gens scope cpos =>
        unfold swOk at h3
        dsimp only at h3
        by_cases hcl : (sc.names.lookup x == some .cell) = true
        · have ky : X.env.kindOf x = some .cell := by
            show X.env.scope.names.lookup x = _
            rw [C.C.es]; exact eq_of_beq hcl
          have sw : swapsWith (.ListComp pe gens scope cpos) (some (.Name x py)) pos.line X.env = pure false := by
            unfold swapsWith
            simp only [ky, Expr.pos]
            have z : (some NameKind.cell == some NameKind.local) = false := rfl
            simp only [z, Bool.and_false, Bool.false_and]
          exact (ps_set nd (C.C.name h1) hx ((bd_all e).val C.C h4).pe sw hf2).imp fun D σ H z => asg_go z
        rw [Bool.or_eq_true] at h3
        have h3 := h3.resolve_left hcl
        unfold swB at h3
        simp only [Bool.and_eq_true, Bool.not_eq_true'] at h3
        obtain ⟨⟨h5, h6⟩, h7⟩ := h3
        obtain ⟨pt, pi, ifs, wi, tt, te, tg, js, rfl, q2, q3, q4, q5, q6, q7, q8⟩ := lc_parts C.C (by simp only [notComp, Bool.false_or, Bool.and_eq_true, Bool.not_eq_true'] at h0; exact h0.2) h4
        have hyl : X.env.scope.names.lookup x = some .local := by rw [C.C.es]; exact eq_of_beq h5
        refine (ps_setLc (C.C.calm (by simp only [notComp, Bool.false_or, Bool.and_eq_true] at h0; exact h0.1)) nd (C.C.name h1) hyl (sw_true (by rw [C.C.es]; exact C.kf) hyl h6 h7) q2 (by rw [C.C.eN, C.C.es]; exact blkOk_by q3) q4 q5 q6 (fold_of q7)).imp fun D σ H z => ?_
        exact q8 σ H _ (asg_go z)
      | SetComp _ _ _ _ => cases h3
      | DictComp _ _ _ _ _ => cases h3
      | _ => exact absurd rfl hn
  · cases h
theorem st_unp (C : CsOk T xc S cs gl k N fb sc Wx X) {tg : Tg} {e : E} {p : Stmt} (h : okS S N fb sc (.unp tg e) p = true) : PS X p (SV T xc cs gl Nf Wx (.unp tg e)) := by
  unfold okS at h
  split at h
  · simp only [Bool.and_eq_true] at h
    obtain ⟨⟨⟨⟨hc, h1⟩, h2⟩, h3⟩, h4⟩ := h
    refine (ps_asg ((bd_all e).val C.C h4).pe (pg_tg C.C hc h1) (notComp_sole h3) (notTup_sw h2) (one_each (okT_star h1))).imp fun D σ H z => ?_
    obtain ⟨B, r, P, m, en, R, g⟩ := z
    simp only [sv] at g
    refine ⟨B, r, P, m, en, R, g.bindE fun x en1 m1 B1 r1 H1 e1 R1 h1 v hv => ?_⟩
    obtain ⟨w, en2, e2, h2⟩ := h1.opt2
    obtain ⟨en3, e3, h3⟩ := h2.opt
    obtain ⟨B2, e4, R2, hw⟩ := R1.esc hv e2
    exact ⟨B2, r1, P, m1, en2, w, en3, R2, hw, e3, fun us R3 => (PostSt.mono e4 h3).nx R3⟩
  · cases h
theorem sws_some {x y : Str} {px py pt pt2 : Pos} {kt k2 : Nat} {a b : Expr} {env : PySem.Env} (hk : env.scope.kind = .function) (hx : env.scope.names.lookup x = some .local) (hy : env.scope.names.lookup y = some .local) (hl : (px.line == py.line) = true) (hn : (x == y) = false)
    (ha : noStar a = true) (hb : noStar b = true) (h1 : [a, b].all (foldedForSure 8) = false) (h2 : [a, b].all (constantsAlone 8) = false) : swappedStores [.Tuple [.Name x px, .Name y py] kt pt] (.Tuple [a, b] k2 pt2) env = pure (some [x, y]) := by
  have kx : env.kindOf x = some .local := hx
  have ky : env.kindOf y = some .local := hy
  have hb2 : env.blockKind = .function := by unfold Env.blockKind; rw [hk]; rfl
  have hl2 : px.line = py.line := eq_of_beq hl
  have hn2 : ([x, y] : List Str).eraseDups.length = 2 := by
    have : (y == x) = false := by
      cases q : y == x with
      | false => rfl
      | true =>
        have := eq_of_beq q
        subst this
        rw [beq_self_eq_true] at hn; cases hn
    simp [List.eraseDups, List.eraseDupsBy, List.eraseDupsBy.loop, this]
  unfold swappedStores
  simp only [hb2, Expr.pos, kx, ky, hl2, List.head?_cons, Option.map_some, Option.getD_some, List.filterMap_cons, beq_self_eq_true, Bool.and_self, if_true, List.filterMap_nil, h1, h2, hn2]
  cases a <;> cases b <;> first | rfl | (cases ha; done) | (cases hb; done)
end
end Mp

set_option Elab.async false
set_option linter.all false
set_option maxRecDepth 100000
set_option maxHeartbeats 4000000
namespace Mp
open PySem PySem.Spec PyProof.Rows L2
section
variable {T : Tab} {xc : Nat → Value} {S : Sta} {cs : Nat → List W → Sto → CR} {gl : List W} {k Nf : Nat} {N : List Str} {fb : Str → Bool} {sc : Scope} {Wx : WX} {X : Cx} {P B B1 H : Hp} {r r1 : List Addr} {D : Ends} {σ : Slo} {A : Type}
theorem st_par (C : CsOk T xc S cs gl k N fb sc Wx X) {i j : Nat} {a b : E} {p : Stmt} (h : okS S N fb sc (.par i j a b) p = true) : PS X p (SV T xc cs gl Nf Wx (.par i j a b)) := by
  unfold okS at h
  split at h
  · rename_i x px y py kt pt pa pb k2 pt2 pos
    simp only [Bool.and_eq_true, Bool.not_eq_true', decide_eq_true_eq] at h
    obtain ⟨⟨⟨⟨⟨⟨⟨⟨⟨⟨⟨⟨⟨hc, h1⟩, h2⟩, h3⟩, h4⟩, h5⟩, h6⟩, h7⟩, h8⟩, h9⟩, h10⟩, h11⟩, h12⟩, h13⟩ := h
    have nd : X.N.Nodup := by rw [C.C.eN]; exact C.C.nd
    have lx : X.env.scope.names.lookup x = some .local := by rw [C.C.es]; exact lb_of h4
    have ly : X.env.scope.names.lookup y = some .local := by rw [C.C.es]; exact lb_of h5
    have kf : X.env.scope.kind = .function := by rw [C.C.es]; exact C.kf
    have ha : PA X [pa, pb] (SA T xc cs gl Wx (.cons a (.cons b .nil))) := (bd_all (.cons a (.cons b .nil))).args C.C (by simp [okEs, h8, h9, h12, h13])
    refine (ps_par (C.C.calm hc) nd (C.C.name h1) (C.C.name h2) h3 lx ly ha (sws_some kf lx ly h6 h7 h8 h9 h10 h11)).imp fun D σ H z => ?_
    obtain ⟨B, r, P, m, en, R, g⟩ := z
    simp only [sv] at g
    refine ⟨B, r, P, m, en, R, g.bindE fun ws en1 m1 B1 r1 H1 e1 R1 h1 vs hv => ?_⟩
    split at h1
    · rename_i w u
      obtain ⟨v, z, rfl, h2, h3⟩ := hv.v2
      exact ⟨v, z, rfl, h1.nx ((R1.set_val h2).set_val h3)⟩
    · exact h1.elim
  · cases h
theorem st_seti (C : CsOk T xc S cs gl k N fb sc Wx X) {a i e : E} {p : Stmt} (h : okS S N fb sc (.seti a i e) p = true) : PS X p (SV T xc cs gl Nf Wx (.seti a i e)) := by
  unfold okS at h
  split at h
  · rename_i pa pi px v pos
    simp only [Bool.and_eq_true] at h
    obtain ⟨⟨⟨⟨h1, h2⟩, h3⟩, h4⟩, h5⟩ := h
    have hp : PG X (.Subscript pa pi px) (gSub (SE T xc cs gl Wx a) (SE T xc cs gl Wx i) rSetL) := pg_sub ((bd_all a).val C.C h3).pe ((bd_all i).val C.C h4).pe set_list (by
      intro v
      cases pi <;> first | rfl | cases h1)
    refine (ps_asg ((bd_all e).val C.C h5).pe hp (notComp_sole h2) (by cases v <;> rfl) rfl).imp fun D σ H z => ?_
    obtain ⟨B, r, P, m, en, R, g⟩ := z
    simp only [sv] at g
    refine ⟨B, r, P, m, en, R, g.bindE fun x en1 m1 B1 r1 H1 e1 R1 h1 v hv => ?_⟩
    obtain ⟨w, en2, e2, h2⟩ := h1.opt2
    obtain ⟨B2, e3, R2, hw⟩ := R1.esc hv e2
    refine ⟨B2, r1, P, m1, en2, R2, (PostSt.mono e3 h2).bindE fun o en3 m3 B3 r3 H3 e4 R3 h3 ov hov => ?_⟩
    obtain ⟨B4, e5, R4, hov⟩ := R3.hold hov
    refine ⟨B4, r3, P, m3, en3, R4, (PostSt.mono e5 h3).bindE fun y en5 m5 B5 r5 H5 e6 R5 h5 yv hyv => ?_⟩
    obtain ⟨iw, e7, h6⟩ := h5.opt
    obtain ⟨en6, m6, e8, h7⟩ := h6.opt2
    have hov := hov.held (P2 := P) (en3 := en5) (H3 := H5) e6.sub e6.pre
    have hw : Rep T B5 r5 v w := ((hw.mono e4.sub e4.pre).mono e5.sub e5.pre).mono e6.sub e6.pre
    cases y with
    | val y =>
      simp only [val?, Option.some.injEq] at e7
      subst e7
      generalize hold o = ho at e8 hov
      -- where the list stands
      have own : ∀ (j : Nat) (ws : List W) (n : Int), enGet en5 j = some (.own ws) → σ[j]? = some (some ov) → yv = .int n → ((ixN ws.length n).map fun k => (en5.set j (some (.own (ws.set k w))), m5)) = some (en6, m6) →
          rSetL ov yv v H5 fun H6 => D.nx σ H6 := fun j ws n gj hj hy e => by
        obtain ⟨p, a1, a2⟩ := R5.e.own_at (enGet_some gj)
        rw [hj] at a1; cases a1
        obtain ⟨vs, b1, b2⟩ := a2.at_
        cases c1 : ixN ws.length n with
        | none => rw [c1] at e; cases e
        | some k =>
          rw [c1] at e
          simp only [Option.map_some, Option.some.injEq, Prod.mk.injEq] at e
          obtain ⟨rfl, rfl⟩ := e
          exact ⟨p, vs, n, k, rfl, hy, b1, by rw [b2.len]; exact c1, h7.nx (R5.upd_own (enGet_some gj) hj (b2.set hw k))⟩
      have sto : ∀ (q : Nat) (ws : List W) (n : Int) (l : Addr), m5[q]? = some (.lst ws) → r5[q]? = some l → ov = .ref l → yv = .int n → ((ixN ws.length n).map fun k => (en5, m5.set q (.lst (ws.set k w)))) = some (en6, m6) →
          rSetL ov yv v H5 fun H6 => D.nx σ H6 := fun q ws n l gn hn2 ho hy e => by
        obtain ⟨a1, o, b1, b2, b3⟩ := R5.s.ob q _ gn
        rw [hn2] at b1; cases b1
        cases b3 with
        | lst b3 =>
          rename_i vs
          cases c1 : ixN ws.length n with
          | none => rw [c1] at e; cases e
          | some k =>
            rw [c1] at e
            simp only [Option.map_some, Option.some.injEq, Prod.mk.injEq] at e
            obtain ⟨rfl, rfl⟩ := e
            exact ⟨l, vs, n, k, ho, hy, b2, by rw [b3.len]; exact c1, h7.nx (R5.upd_sto hn2 gn rfl rfl (.lst (b3.set hw k)))⟩
      cases y with
      | int n =>
        have hy : yv = .int n := by cases hyv; rfl
        cases ho with
        | new ws => cases e8
        | bor j =>
          simp only [setAt] at e8
          split at e8
          · rename_i ws gj
            exact own j ws n gj hov hy e8
          · cases e8
        | val u =>
          cases u with
          | ref q =>
            simp only [setAt] at e8
            split at e8
            · rename_i ws gn
              cases hov with
              | ref a2 => exact sto q ws n _ gn a2 rfl hy e8
            · cases e8
          | _ => cases e8
      | _ =>
        cases ho with
        | val u => cases u <;> cases e8
        | new _ => cases e8
        | bor _ => cases e8
    | new _ => cases e7
    | bor _ => cases e7
  · cases h
theorem st_app (C : CsOk T xc S cs gl k N fb sc Wx X) {a e : E} {p : Stmt} (h : okS S N fb sc (.app a e) p = true) : PS X p (SV T xc cs gl Nf Wx (.app a e)) := by
  unfold okS at h
  split at h
  · rename_i pa x ap q cp pos
    simp only [Bool.and_eq_true] at h
    obtain ⟨⟨⟨⟨⟨h1, h2⟩, h3⟩, h4⟩, h5⟩, h6⟩ := h
    have h1 := eq_of_beq h1
    subst h1
    have hfew : ((backTo cp (starEach [q] X.env)).all (fun x => !x.1) && (backToKw cp (keywordEach [] X.env)).all (fun x => x.1.isSome)
        && decide (([q] : List Expr).length + ([] : List Keyword).length + (if ([] : List Keyword).isEmpty then 0 else 1) < 30)) = true := by
      rw [star_of h4]; rfl
    have hq : PA X [q] (SA T xc cs gl Wx (.cons e .nil)) := snd_args h4 ((bd_all e).val C.C h6).pe snd_nil
    refine (ps_expr (pe_bm PySem.F.plainAttrs_list PySem.F.slot_list_append PySem.F.type_list_append mt_append ((bd_all a).val C.C h5).pe hq (base_of h2) hfew h3 (star_of h4) rfl) rfl).imp fun D σ H z => ?_
    obtain ⟨B, r, P, m, en, R, g⟩ := z
    simp only [sv] at g
    refine ⟨B, r, P, m, en, R, g.bindE fun x en1 m1 B1 r1 H1 e1 R1 h1 v hv => ?_⟩
    obtain ⟨ws0, e0, h1⟩ := h1.opt
    obtain ⟨B2, e2, R2, hv2⟩ := R1.hold hv
    unfold rvL at e0
    cases g0 : rvW en1 (hold x) with
    | none => rw [g0] at e0; cases e0
    | some w0 =>
      rw [g0] at e0
      obtain ⟨l, vs0, rfl, d0, _⟩ := RepT.lst R2.s (R2.top hv2 g0) e0
      refine ⟨.inl ⟨rfl, vs0, .inl d0⟩, B2, r1, P, m1, en1, R2, ?_⟩
      have h1 := PostSt.mono e2 h1
      have z : PostG T xc Wx P σ B2 r1 (evs cs gl (.cons e .nil) en1 m1) fun zs en3 m3 B3 r3 H3 => ∃ w, zs = [w] ∧ ∃ en6 m6, appTo en3 m3 (hold x) w = some (en6, m6) ∧ Ext P B2 r1 B3 r3 ∧ Rel T B3 r3 P m3 en3 σ H3 ∧ PostSt T xc Wx P B3 r3 (.ok .nx en6 m6) D := by
        simp only [evs]
        cases q1 : ev cs gl e en1 m1 with
        | bad => rw [q1] at h1; exact h1
        | ex c en m => rw [q1] at h1; exact fun B2 r2 H2 e R => h1 σ B2 r2 H2 e R
        | ok x2 en3 m3 =>
          rw [q1] at h1
          obtain ⟨w, en4, q2, h2⟩ := PostSt.opt2 h1
          obtain ⟨en6, m6, q3, h3⟩ := PostSt.opt2 h2
          show PostG T xc Wx P σ B2 r1 (Mp.opt2 (esc x2 en3) fun w en => Mp.R.ok [w] en m3) _
          rw [q2]
          exact fun B3 r3 H3 e R => ⟨w, rfl, en6, m6, q3, e, R, PostSt.mono e h3⟩
      refine z.imp fun zs en3 m3 B3 r3 H3 _ _ z us hus => ?_
      obtain ⟨w, rfl, en6, m6, e8, e3, R3, h7⟩ := z
      obtain ⟨u, rfl, hw⟩ := hus.v1
      have hv3 := hv2.held (P2 := P) (en3 := en3) (H3 := H3) e3.sub e3.pre
      generalize hold x = ho at e8 hv3
      have lt : ∀ {ws : List W} {vs : List V}, RepL T B3 r3 vs ws → ws.length < LIM → vs.length < sizeLine := fun l q => by
        rw [l.len]; exact Nat.lt_of_lt_of_le q (by decide)
      have own : ∀ (j : Nat) (ws : List W), enGet en3 j = some (.own ws) → σ[j]? = some (some (.ref l)) → (if ws.length < LIM then some (en3.set j (some (.own (ws ++ [w]))), m3) else none) = some (en6, m6) →
          rAppend (.ref l) [u] H3 fun _ H6 => D.nx σ H6 := fun j ws gj hj e => by
        obtain ⟨p, a1, a2⟩ := R3.e.own_at (enGet_some gj)
        rw [hj] at a1; cases a1
        obtain ⟨vs, b1, b2⟩ := a2.at_
        split at e
        · rename_i hl
          simp only [Option.some.injEq, Prod.mk.injEq] at e
          obtain ⟨rfl, rfl⟩ := e
          exact ⟨l, vs, u, rfl, rfl, b1, lt b2 hl, h7.nx (R3.upd_own (enGet_some gj) hj (b2.app (.cons hw .nil)))⟩
        · cases e
      have sto : ∀ (n : Nat) (ws : List W), m3[n]? = some (.lst ws) → r3[n]? = some l → (if ws.length < LIM then some (en3, m3.set n (.lst (ws ++ [w]))) else none) = some (en6, m6) →
          rAppend (.ref l) [u] H3 fun _ H6 => D.nx σ H6 := fun n ws gn hn2 e => by
        obtain ⟨a1, o, b1, b2, b3⟩ := R3.s.ob n _ gn
        rw [hn2] at b1; cases b1
        cases b3 with
        | lst b3 =>
          rename_i vs
          split at e
          · rename_i hl
            simp only [Option.some.injEq, Prod.mk.injEq] at e
            obtain ⟨rfl, rfl⟩ := e
            exact ⟨l, vs, u, rfl, rfl, b2, lt b3 hl, h7.nx (R3.upd_sto hn2 gn rfl rfl (.lst (b3.app (.cons hw .nil))))⟩
          · cases e
      cases ho with
      | new ws => cases e8
      | bor j =>
        unfold appTo at e8
        dsimp only at e8
        split at e8
        · rename_i ws gj; exact own j ws gj hv3 e8
        · cases e8
      | val y =>
        cases y with
        | ref n =>
          simp only [appTo] at e8
          split at e8
          · rename_i ws gn
            cases hv3 with
            | ref a2 => exact sto n ws gn a2 e8
          · cases e8
        | _ => cases e8
  · cases h
/-- xs.extend(ys), where ys may be one that is only read -/
def rExtR (K : PySem.W.Frag) : V → List V → Hp → VK → Prop := fun x vs H Q => ∃ l b xs zs, x = .ref l ∧ vs = [.ref b] ∧ H l = some (.lst xs) ∧ Rd H b (.lst zs) ∧ xs.length + zs.length ≤ sizeLine ∧ Q .non (upd H l (.lst (xs ++ zs)))
theorem mt_extR {X : Cx} {K : PySem.W.Frag} : MtM X "list.extend" (rExtR K) := by
  intro pins s σ H x vs v us Q I rx rv ⟨l, b, xs, zs, e1, e2, hH, hB, hz, q⟩
  subst e1 e2
  cases rx
  obtain ⟨u, rfl, ru⟩ := rv.one
  cases ru
  obtain ⟨_, ia, na, ra, la, ea⟩ := I.lstM hH
  obtain ⟨_, ib, nb, rb, eb⟩ := hB.ok I.hok
  have lb := rb.length
  have nl : ¬ (!ia.toArray.isEmpty && Builtin.List.listTooLong (ia.toArray.size + ib.toArray.size)) = true := by
    rw [notLongL (by rw [List.size_toArray, List.size_toArray]; omega), Bool.and_false]; exact Bool.false_ne_true
  have go := AutoSeq1.list_extend_list_list_0 l ia.toArray na b ib.toArray nb nl (by simp only [List.size_toArray]; omega) (by simp only [List.size_toArray]; omega)
  refine call_meets PySem.F.slot_list_extend ⟨_, ea, rfl⟩ PySem.F.entry_list_extend (PySem.F.args_list_extend_2 _ _) go ⟨ea, eb, .non, _, I.lset (its' := ia ++ ib) hH ea (by simp) (ra.append rb) ?_, rfl, q⟩
  rw [List.length_append]; omega
theorem st_extd (C : CsOk T xc S cs gl k N fb sc Wx X) {a e : E} {p : Stmt} (h : okS S N fb sc (.extd a e) p = true) : PS X p (SV T xc cs gl Nf Wx (.extd a e)) := by
  unfold okS at h
  split at h
  · rename_i pa x ap q cp pos
    simp only [Bool.and_eq_true] at h
    obtain ⟨⟨⟨⟨⟨h1, h2⟩, h3⟩, h4⟩, h5⟩, h6⟩ := h
    have h1 := eq_of_beq h1
    subst h1
    have hfew : ((backTo cp (starEach [q] X.env)).all (fun x => !x.1) && (backToKw cp (keywordEach [] X.env)).all (fun x => x.1.isSome)
        && decide (([q] : List Expr).length + ([] : List Keyword).length + (if ([] : List Keyword).isEmpty then 0 else 1) < 30)) = true := by
      rw [star_of h4]; rfl
    have hq : PA X [q] (SA T xc cs gl Wx (.cons e .nil)) := snd_args h4 ((bd_all e).val C.C h6).pe snd_nil
    refine (ps_expr (pe_bm PySem.F.plainAttrs_list PySem.F.slot_list_extend PySem.F.type_list_extend (mt_extR (K := T.K)) ((bd_all a).val C.C h5).pe hq (base_of h2) hfew h3 (star_of h4) rfl) rfl).imp fun D σ H z => ?_
    obtain ⟨B, r, P, m, en, R, g⟩ := z
    simp only [sv] at g
    refine ⟨B, r, P, m, en, R, g.bindE fun x en1 m1 B1 r1 H1 e1 R1 h1 v hv => ?_⟩
    obtain ⟨ws0, e0, h1⟩ := h1.opt
    obtain ⟨B2, e2, R2, hv2⟩ := R1.hold hv
    unfold rvL at e0
    cases g0 : rvW en1 (hold x) with
    | none => rw [g0] at e0; cases e0
    | some w0 =>
      rw [g0] at e0
      obtain ⟨l, vs0, rfl, d0, _⟩ := RepT.lst R2.s (R2.top hv2 g0) e0
      refine ⟨.inl ⟨rfl, vs0, .inl d0⟩, B2, r1, P, m1, en1, R2, ?_⟩
      have h1 := PostSt.mono e2 h1
      have z : PostG T xc Wx P σ B2 r1 (evs cs gl (.cons e .nil) en1 m1) fun zs en3 m3 B3 r3 H3 => ∃ w, zs = [w] ∧ ∃ es en6 m6, lstW m3 w = some es ∧ extTo en3 m3 (hold x) es = some (en6, m6) ∧ Ext P B2 r1 B3 r3 ∧ Rel T B3 r3 P m3 en3 σ H3 ∧ PostSt T xc Wx P B3 r3 (.ok .nx en6 m6) D := by
        simp only [evs]
        cases q1 : ev cs gl e en1 m1 with
        | bad => rw [q1] at h1; exact h1
        | ex c en m => rw [q1] at h1; exact fun B2 r2 H2 e R => h1 σ B2 r2 H2 e R
        | ok x2 en3 m3 =>
          rw [q1] at h1
          obtain ⟨w, en4, q2, h2⟩ := PostSt.opt2 h1
          obtain ⟨es, q4, h2⟩ := PostSt.opt h2
          obtain ⟨en6, m6, q3, h3⟩ := PostSt.opt2 h2
          show PostG T xc Wx P σ B2 r1 (Mp.opt2 (esc x2 en3) fun w en => Mp.R.ok [w] en m3) _
          rw [q2]
          exact fun B3 r3 H3 e R => ⟨w, rfl, es, en6, m6, q4, q3, e, R, PostSt.mono e h3⟩
      refine z.imp fun zs en3 m3 B3 r3 H3 _ _ z us hus => ?_
      obtain ⟨w, rfl, es, en6, m6, e9, e8, e3, R3, h7⟩ := z
      obtain ⟨u, rfl, hw⟩ := hus.v1
      obtain ⟨pb, ys, rfl, dz, lz⟩ := RepT.lst R3.s (.inl hw) e9
      have hv3 := hv2.held (P2 := P) (en3 := en3) (H3 := H3) e3.sub e3.pre
      generalize hold x = ho at e8 hv3
      have lt : ∀ {ws : List W} {vs : List V}, RepL T B3 r3 vs ws → ws.length + es.length ≤ LIM → vs.length + ys.length ≤ sizeLine := fun l q => by
        rw [l.len, lz.len]; exact Nat.le_trans q (by decide)
      have own : ∀ (j : Nat) (ws : List W), enGet en3 j = some (.own ws) → σ[j]? = some (some (.ref l)) → (if ws.length + es.length ≤ LIM then some (en3.set j (some (.own (ws ++ es))), m3) else none) = some (en6, m6) →
          rExtR T.K (.ref l) [.ref pb] H3 fun _ H6 => D.nx σ H6 := fun j ws gj hj e => by
        obtain ⟨p, a1, a2⟩ := R3.e.own_at (enGet_some gj)
        rw [hj] at a1; cases a1
        obtain ⟨vs, b1, b2⟩ := a2.at_
        split at e
        · rename_i hl
          simp only [Option.some.injEq, Prod.mk.injEq] at e
          obtain ⟨rfl, rfl⟩ := e
          exact ⟨l, pb, vs, ys, rfl, rfl, b1, dz, lt b2 hl, h7.nx (R3.upd_own (enGet_some gj) hj (b2.app lz))⟩
        · cases e
      have sto : ∀ (n : Nat) (ws : List W), m3[n]? = some (.lst ws) → r3[n]? = some l → (if ws.length + es.length ≤ LIM then some (en3, m3.set n (.lst (ws ++ es))) else none) = some (en6, m6) →
          rExtR T.K (.ref l) [.ref pb] H3 fun _ H6 => D.nx σ H6 := fun n ws gn hn2 e => by
        obtain ⟨a1, o, b1, b2, b3⟩ := R3.s.ob n _ gn
        rw [hn2] at b1; cases b1
        cases b3 with
        | lst b3 =>
          rename_i vs
          split at e
          · rename_i hl
            simp only [Option.some.injEq, Prod.mk.injEq] at e
            obtain ⟨rfl, rfl⟩ := e
            exact ⟨l, pb, vs, ys, rfl, rfl, b2, dz, lt b3 hl, h7.nx (R3.upd_sto hn2 gn rfl rfl (.lst (b3.app lz)))⟩
          · cases e
      cases ho with
      | new ws => cases e8
      | bor j =>
        unfold extTo at e8
        dsimp only at e8
        split at e8
        · rename_i ws gj; exact own j ws gj hv3 e8
        · cases e8
      | val y =>
        cases y with
        | ref n =>
          simp only [extTo] at e8
          split at e8
          · rename_i ws gn
            cases hv3 with
            | ref a2 => exact sto n ws gn a2 e8
          · cases e8
        | _ => cases e8
  · cases h
theorem st_augn (C : CsOk T xc S cs gl k N fb sc Wx X) {j : Nat} {op : Op} {e : E} {p : Stmt} (h : okS S N fb sc (.augn j op e) p = true) : PS X p (SV T xc cs gl Nf Wx (.augn j op e)) := by
  unfold okS at h
  split at h
  · rename_i x px o v pos
    simp only [Bool.and_eq_true] at h
    obtain ⟨⟨⟨⟨h1, h2⟩, h5⟩, h3⟩, h4⟩ := h
    obtain ⟨hl, hf⟩ := loc_of h2
    have hx : Loc X.env.scope x := by rw [C.C.es]; exact hl
    have hf2 : X.fn x = true ∨ X.env.scope.names.lookup x = some .local := by rw [C.C.ef, C.C.es]; exact hf
    have nd : X.N.Nodup := by rw [C.C.eN]; exact C.C.nd
    have go : ∀ {f : Int → Int → Int}, (∀ i n, augF op i n = some (f i n)) → ∀ D σ H, SV T xc cs gl Nf Wx (.augn j op e) D σ H → tAug j (SE T xc cs gl Wx e) (ipI f) D σ H := fun {f} hf D σ H z => by
      obtain ⟨B, r, P, m, en, R, g⟩ := z
      simp only [sv] at g
      obtain ⟨s, e1, h1⟩ := PostSt.opt g
      cases s with
      | own ws => exact h1.elim
      | val w =>
        cases w with
        | int i =>
          obtain ⟨v1, a1, a2⟩ := R.e.sl j _ (enGet_some e1)
          have a2 : Rep T B r v1 (.int i) := a2
          cases a2
          refine ⟨.int i, a1, B, r, P, m, en, R, h1.bindE fun y en1 m1 B1 r1 H1 e1 R1 h1 yv hy => ?_⟩
          obtain ⟨n, e2, h2⟩ := PostSt.opt h1
          cases q : intR y with
          | none => rw [q] at e2; cases e2
          | some i2 =>
            rw [q, Option.bind_some, hf] at e2
            cases e2
            have q := intR_some q
            subst q
            have hy : Rep T B1 r1 yv (.int i2) := hy
            cases hy
            exact ⟨i, i2, rfl, rfl, h2.nx (R1.set_val (.int _))⟩
        | _ => exact h1.elim
    cases op <;> first | (exact absurd h5 Bool.false_ne_true) | skip
    · cases o <;> first | (exact absurd h3 Bool.false_ne_true) | skip
      exact (ps_aug nd (C.C.name h1) hx ((bd_all e).val C.C h4).pe ip_add hf2).imp (go fun _ _ => rfl)
    · cases o <;> first | (exact absurd h3 Bool.false_ne_true) | skip
      exact (ps_aug nd (C.C.name h1) hx ((bd_all e).val C.C h4).pe ip_sub hf2).imp (go fun _ _ => rfl)
  · cases h

/-- a result handed back, as the caller sees it -/
theorem ret_rep {B P H : Hp} {r : List Addr} {m : Sto} {en : En} {v : V} {x c : RV} (R : Rel T B r P m en σ H) (hv : RepR T B r P en σ H v x) (e : retR x en = some c) : RepC T B r P H v c := by
  cases x with
  | val w =>
    simp only [retR, Option.some.injEq] at e
    subst e; exact hv
  | new ws =>
    simp only [retR, Option.some.injEq] at e
    subst e
    obtain ⟨p, h1, h2, _⟩ := hv
    exact ⟨p, h1, h2⟩
  | bor j =>
    simp only [retR] at e
    cases q : enGet en j with
    | none => rw [q] at e; cases e
    | some s =>
      rw [q] at e
      obtain ⟨u, a1, a2⟩ := R.e.sl j s (enGet_some q)
      have hv : σ[j]? = some (some v) := hv
      rw [hv] at a1; cases a1
      cases s with
      | own ws =>
        simp only [Option.map_some, Option.some.injEq] at e
        subst e; exact a2
      | val w =>
        simp only [Option.map_some, Option.some.injEq] at e
        subst e; exact a2
/-- a test of a block -/
theorem tst_go {A : Type} {c : E} {H : Hp} {σ : Slo} {Q : Bool → Hp → Prop} {B P : Hp} {r : List Addr} {m : Sto} {en : En} {f : Bool → En → Sto → R Out} {D : Ends} (R : Rel T B r P m en σ H)
    (g : PostSt T xc Wx P B r ((ev cs gl c en m).bind fun x en m => Mp.opt (blR x) fun b => f b en m) D)
    (q : ∀ b en m B2 r2 H2, Ext P B r B2 r2 → Rel T B2 r2 P m en σ H2 → PostSt T xc Wx P B2 r2 (f b en m) D → Q b H2) : SB T xc cs gl Wx c σ H Q := by
  refine ⟨B, r, P, m, en, R, g.bindE fun x en1 m1 B1 r1 H1 e1 R1 h1 => ?_⟩
  obtain ⟨b, e2, h2⟩ := h1.opt
  exact ⟨b, e2, q b en1 m1 B1 r1 H1 e1 R1 h2⟩
theorem bind_tst {A : Type} {y : R RV} {f : Bool → En → Sto → R A} : (y.bind fun x en m => Mp.opt (blR x) fun t => (Mp.R.ok t en m : Mp.R Bool)).bind f = y.bind fun x en m => Mp.opt (blR x) fun t => f t en m := by
  cases y with
  | ok x en1 m1 =>
    show (Mp.opt (blR x) fun t => (Mp.R.ok t en1 m1 : Mp.R Bool)).bind _ = Mp.opt (blR x) _
    cases blR x <;> rfl
  | ex _ _ _ => rfl
  | bad => rfl
theorem st_whl (C : CsOk T xc S cs gl k N fb sc Wx X) {c : E} {b : Mp.S} {pc : Expr} {ps : List Stmt} {pos : Pos} (hc : PT X pc (SB T xc cs gl Wx c)) (hb : PSs X ps (SV T xc cs gl Nf Wx b)) : PS X (.While pc ps [] pos) (SV T xc cs gl Nf Wx (.whl c b)) := by
  refine (ps_while C.po hc hb).imp fun D σ H z => ?_
  obtain ⟨B, r, P, m, en, R, g⟩ := z
  simp only [sv] at g
  -- by the turns that are left
  refine ⟨fun n σ H => ∃ B r P m en, Rel T B r P m en σ H ∧ PostSt T xc Wx P B r (whileL (fun en m => (ev cs gl c en m).bind fun x en m => Mp.opt (blR x) fun t => .ok t en m) (fun en m => sv cs gl Nf b en m) n en m) D, ⟨Nf, B, r, P, m, en, R, g⟩, fun n σ H hW => ?_⟩
  obtain ⟨B, r, P, m, en, R, g⟩ := hW
  cases n with
  | zero => exact g.elim
  | succ n =>
    unfold whileL at g
    rw [bind_tst] at g
    refine tst_go (A := Unit) R g fun t en2 m2 B2 r2 H2 e2 R2 h2 => ?_
    cases t with
    | false =>
      rw [if_neg Bool.false_ne_true] at h2 ⊢
      exact h2.nx R2
    | true =>
      rw [if_pos rfl] at h2 ⊢
      refine ⟨fun σ H => ∃ B r P m en, Rel T B r P m en σ H ∧ PostSt T xc Wx P B r (whileL (fun en m => (ev cs gl c en m).bind fun x en m => Mp.opt (blR x) fun t => .ok t en m) (fun en m => sv cs gl Nf b en m) n en m) D, fun σ' H' h => ⟨n, Nat.lt_succ_self n, h⟩, B2, r2, P, m2, en2, R2, ?_⟩
      exact h2.bindS (fun en3 m3 σ3 B3 r3 H3 e3 R3 h3 => ⟨B3, r3, P, m3, en3, R3, h3⟩) fun a en3 m3 σ3 B3 r3 H3 v e3 R3 h3 hv => h3 σ3 B3 r3 H3 Ext.refl R3 v hv
theorem st_for (C : CsOk T xc S cs gl k N fb sc Wx X) (hc : S.cB = true) {it : It} {src : E} {tg : Tg} {b : Mp.S} {pt pi : Expr} {ps : List Stmt} {pos : Pos} (hi : PI X pt pi (SI T xc cs gl Wx it src)) (hs : setB pi = false) (ht : okT N fb sc tg pt = true) (hb : PSs X ps (SV T xc cs gl Nf Wx b)) :
    PS X (.For pt pi ps [] pos) (SV T xc cs gl Nf Wx (.for_ it src tg b)) := by
  refine (ps_for C.po (C.C.calm hc) hi (pg_tg C.C hc ht) hb (fold_of hs)).imp fun D σ H z => ?_
  obtain ⟨B, r, P, m, en, R, g⟩ := z
  simp only [sv] at g
  refine ⟨B, r, P, m, en, R, g.bindE fun ws en1 m1 B1 r1 H1 e1 R1 h1 => ?_⟩
  obtain ⟨zs, ck, e2, h2⟩ := h1.opt2
  refine ⟨zs, ck, e2, fun J sim => ?_⟩
  generalize hf : (fun w en m => Mp.opt (bindT tg w m en) fun en => sv cs gl Nf b en m) = f at h2
  refine ⟨fun i mm σ H => mm = zs.length - i ∧ i ≤ zs.length ∧ ∃ B2 r2 m2 en2, Ext P B1 r1 B2 r2 ∧ Rel T B2 r2 P m2 en2 σ H ∧ PostSt T xc Wx P B2 r2 (forL (chk ck) f (zs.drop i) en2 m2) D, ⟨zs.length, rfl, Nat.zero_le _, B1, r1, m1, en1, Ext.refl, R1, h2⟩, fun i mm σ3 H3 hW => ?_⟩
  obtain ⟨rfl, hi, B2, r2, m2, en2, e3, R2, h3⟩ := hW
  by_cases hlt : i < zs.length
  · right
    have hd : zs.drop i = zs[i] :: zs.drop (i + 1) := List.drop_eq_getElem_cons hlt
    rw [hd] at h3
    unfold forL at h3
    by_cases hck : chk ck m2 = true
    · rw [if_pos hck] at h3
      refine ⟨sim.go i e3.sub e3.pre R2 hck hlt, fun σ4 H4 => i + 1 ≤ zs.length ∧ ∃ B4 r4 m4 en4, Ext P B1 r1 B4 r4 ∧ Rel T B4 r4 P m4 en4 σ4 H4 ∧ PostSt T xc Wx P B4 r4 (forL (chk ck) f (zs.drop (i + 1)) en4 m4) D, fun σ4 H4 q => ⟨zs.length - (i + 1), by omega, rfl, q⟩, fun x H4 y => ?_⟩
      obtain ⟨B4, e6, R4, hz2, sH⟩ := sim.yld i e3.sub e3.pre R2 hck y (List.getElem?_eq_getElem hlt)
      rw [← hf] at h3
      cases q : bindT tg zs[i] m2 en2 with
      | none => dsimp only at h3; rw [q] at h3; exact h3.elim
      | some en6 =>
        dsimp only at h3
        rw [q] at h3
        refine ⟨B4, r2, P, m2, en2, _, en6, R4, hz2, q, fun us R6 => ⟨B4, r2, P, m2, en6, R6, ?_⟩⟩
        have h3 : PostSt T xc Wx P B2 r2 ((sv cs gl Nf b en6 m2).bind _) D := h3
        rw [hf] at h3
        refine (PostSt.mono e6 h3).bindS (fun en7 m7 σ7 B7 r7 H7 e7 R7 h7 => ⟨by omega, B7, r7, m7, en7, (e3.trans e6).trans e7, R7, h7⟩) fun a en7 m7 σ7 B7 r7 H7 v e7 R7 h7 hv => h7 σ7 B7 r7 H7 Ext.refl R7 v hv
    · rw [if_neg hck] at h3; exact h3.elim
  · left
    have e : i = zs.length := by omega
    subst e
    rw [List.drop_length] at h3
    unfold forL at h3
    by_cases hck : chk ck m2 = true
    · rw [if_pos hck] at h3
      exact ⟨sim.stop e3.sub e3.pre R2 hck, h3.nx R2⟩
    · rw [if_neg hck] at h3; exact h3.elim
end
end Mp

set_option Elab.async false
set_option linter.all false
set_option maxRecDepth 100000
set_option maxHeartbeats 4000000
/-! stores into objects and dicts -/
namespace Mp
open PySem PySem.Spec PyProof.Rows L2
section
variable {T : Tab} {xc : Nat → Value} {S : Sta} {cs : Nat → List W → Sto → CR} {gl : List W} {k Nf : Nat} {N : List Str} {fb : Str → Bool} {sc : Scope} {Wx : WX} {X : Cx}
theorem putK_lim {kvs : List (Key × V)} (h : kvs.length < LIM) : kvs.length < sizeLine := Nat.lt_of_lt_of_le h (by rw [sizeLine_eq]; decide)
theorem st_setf (C : CsOk T xc S cs gl k N fb sc Wx X) {a e : E} {x : Str} {cl : List Nat} {p : Stmt} (h : okS S N fb sc (.setf a x cl e) p = true) : PS X p (SV T xc cs gl Nf Wx (.setf a x cl e)) := by
  unfold okS at h
  split at h
  · rename_i pa y py v pos
    simp only [Bool.and_eq_true, List.all_eq_true] at h
    obtain ⟨⟨⟨⟨h1, h2⟩, hcs⟩, h4⟩, h5⟩ := h
    have hxy := eq_of_beq h1
    subst hxy
    refine (ps_fld ((bd_all a).val C.C h4).pe ((bd_all e).val C.C h5).pe (noSwap_of h2)).imp fun D σ H z => ?_
    obtain ⟨B, r, P, m, en, R, g⟩ := z
    simp only [sv] at g
    refine ⟨B, r, P, m, en, R, g.bindE fun y1 en1 m1 B1 r1 H1 e1 R1 h1 v1 hv => ?_⟩
    obtain ⟨w, en2, e2, h2⟩ := h1.opt2
    obtain ⟨B2, e3, R2, hw⟩ := R1.esc hv e2
    refine ⟨B2, r1, P, m1, en2, R2, (PostSt.mono e3 h2).bindE fun o en3 m3 B3 r3 H3 e4 R3 h3 ov hov => ?_⟩
    obtain ⟨z, e5, h6⟩ := h3.opt
    have hz := R3.top hov e5
    cases z with
    | ref i =>
      cases q : m3[i]? with
      | none => simp only [q] at h6; exact h6.elim
      | some ob =>
        cases ob with
        | ins c fs =>
          simp only [q] at h6
          split at h6
          · rename_i hc
            obtain ⟨i2, ad, dx, vs, j1, j2, j3, j4, j5, j6⟩ := ins_of R3.s hz (c := c) (fs := fs) (by unfold insW; simp only [q])
            cases j1
            subst j4
            have h8 : ∃ ci, S.cls[c]? = some ci ∧ x ∈ ci.flds := by
              have hcl : c ∈ cl := by simpa using hc.1
              have h9 := hcs c hcl
              split at h9
              · exact ⟨_, by assumption, by simpa using h9⟩
              · cases h9
            obtain ⟨ci, k1, k2⟩ := h8
            obtain ⟨d1, d2, _⟩ := C.C.md.cls c ci k1
            rw [C.C.eK]
            refine ⟨ad, T.ca c, dx, vs, rfl, j5, d1, d2 x k2, by rw [j6.len]; omega, ?_⟩
            exact h6.nx (R3.upd_sto j2 j3 rfl rfl (.ins (j6.putF (hw.mono e4.sub e4.pre) x)))
          · exact h6.elim
        | _ => simp only [q] at h6; exact h6.elim
    | _ => exact h6.elim
  · cases h
theorem st_dput (C : CsOk T xc S cs gl k N fb sc Wx X) {a kk e : E} {p : Stmt} (h : okS S N fb sc (.dput a kk e) p = true) : PS X p (SV T xc cs gl Nf Wx (.dput a kk e)) := by
  unfold okS at h
  split at h
  · rename_i pa pk py v pos
    simp only [Bool.and_eq_true] at h
    obtain ⟨⟨⟨⟨h1, h2⟩, h3⟩, h4⟩, h5⟩ := h
    have hu := C.C.un
    refine (ps_dput (by omega) ((bd_all a).val C.C h3).pe ((bd_all kk).val C.C h4).pe ((bd_all e).val C.C h5).pe (noSwap_of h2)).imp fun D σ H z => ?_
    obtain ⟨B, r, P, m, en, R, g⟩ := z
    simp only [sv] at g
    refine ⟨B, r, P, m, en, R, g.bindE fun y1 en1 m1 B1 r1 H1 e1 R1 h1 v1 hv => ?_⟩
    obtain ⟨w, en2, e2, h2⟩ := h1.opt2
    obtain ⟨B2, e3, R2, hw⟩ := R1.esc hv e2
    refine ⟨B2, r1, P, m1, en2, R2, (PostSt.mono e3 h2).bindE fun o en3 m3 B3 r3 H3 e4 R3 h3 ov hov => ?_⟩
    obtain ⟨z, e5, h6⟩ := h3.opt
    have hz := R3.top hov e5
    refine ⟨B3, r3, P, m3, en3, R3, h6.bindE fun y2 en4 m4 B4 r4 H4 e6 R4 h7 u hu => ?_⟩
    obtain ⟨key, e7, h8⟩ := h7.opt
    have ek := key_of e7 hu
    subst ek
    cases z with
    | ref i =>
      cases q : m4[i]? with
      | none => simp only [q] at h8; exact h8.elim
      | some ob =>
        cases ob with
        | dic kvs =>
          simp only [q] at h8
          split at h8
          · rename_i hc
            obtain ⟨ad, rfl, j0⟩ := hz.ref
            obtain ⟨i2, ad2, vs, j1, j2, j3, j4, j5, j6⟩ := dic_of R4.s (v := .ref ad) (.inl (.ref (pre_get e6.pre j0))) (kvs := kvs) (by unfold dicW; simp only [q])
            cases j1
            cases j4
            refine ⟨ad, _, rfl, DPut.k j5 (putK_lim (by rw [j6.len]; exact hc)), ?_⟩
            exact h8.nx (R4.upd_sto j2 j3 rfl rfl (.dic (j6.putK ((hw.mono e4.sub e4.pre).mono e6.sub e6.pre) key)))
          · exact h8.elim
        | _ => simp only [q] at h8; exact h8.elim
    | _ => exact h8.elim
  · cases h
end
end Mp

set_option Elab.async false
set_option linter.all false
set_option maxRecDepth 100000
set_option maxHeartbeats 4000000
namespace Mp
open PySem PySem.Spec PyProof.Rows L2
section
variable {T : Tab} {xc : Nat → Value} {S : Sta} {cs : Nat → List W → Sto → CR} {gl : List W} {k Nf : Nat} {N : List Str} {fb : Str → Bool} {sc : Scope} {Wx : WX} {X : Cx}
theorem st_skip {p : Stmt} (h : okS S N fb sc .skip p = true) : PS X p (SV T xc cs gl Nf Wx .skip) := by
  have e : ∀ D σ H, SV T xc cs gl Nf Wx .skip D σ H → tNext D σ H := fun D σ H z => by
    obtain ⟨B, r, P, m, en, R, g⟩ := z
    simp only [sv] at g
    exact PostSt.nx g R
  unfold okS at h
  split at h
  · exact ps_pass.imp e
  · exact ps_doc.imp e
  · cases h
theorem st_ex (C : CsOk T xc S cs gl k N fb sc Wx X) {e : E} {p : Stmt} (h : okS S N fb sc (.ex e) p = true) : PS X p (SV T xc cs gl Nf Wx (.ex e)) := by
  unfold okS at h
  split at h
  · simp only [Bool.and_eq_true] at h
    refine (ps_expr ((bd_all e).val C.C h.2).pe (noSwap_of h.1)).imp fun D σ H z => ?_
    obtain ⟨B, r, P, m, en, R, g⟩ := z
    simp only [sv] at g
    exact ⟨B, r, P, m, en, R, g.bindE fun x en1 m1 B1 r1 H1 e1 R1 h1 v hv => h1.nx R1⟩
  · cases h
theorem st_ret (C : CsOk T xc S cs gl k N fb sc Wx X) {e : E} {p : Stmt} (h : okS S N fb sc (.ret e) p = true) : PS X p (SV T xc cs gl Nf Wx (.ret e)) := by
  unfold okS at h
  split at h
  · refine (ps_ret ((bd_all e).val C.C h).pe).imp fun D σ H z => ?_
    obtain ⟨B, r, P, m, en, R, g⟩ := z
    simp only [sv] at g
    refine ⟨B, r, P, m, en, R, g.bindE fun x en1 m1 B1 r1 H1 e1 R1 h1 v hv => ?_⟩
    obtain ⟨c, e2, h2⟩ := h1.opt
    exact h2 σ B1 r1 H1 Ext.refl R1 v (ret_rep R1 hv e2)
  · cases h
theorem st_retn {p : Stmt} (h : okS S N fb sc .retn p = true) : PS X p (SV T xc cs gl Nf Wx .retn) := by
  unfold okS at h
  split at h
  · refine ps_retN.imp fun D σ H z => ?_
    obtain ⟨B, r, P, m, en, R, g⟩ := z
    simp only [sv] at g
    exact g σ B r H Ext.refl R .non Rep.non
  · cases h
theorem st_never {p : Stmt} : PS X p (SV T xc cs gl Nf Wx .never) := ps_never.imp fun D σ H z => by
  obtain ⟨B, r, P, m, en, R, g⟩ := z
  simp only [sv] at g
  exact g.elim
theorem sts_never {ps : List Stmt} : PSs X ps (SV T xc cs gl Nf Wx .never) := pss_never.imp fun D σ H z => by
  obtain ⟨B, r, P, m, en, R, g⟩ := z
  simp only [sv] at g
  exact g.elim
/-- what holds of a statement wherever it is written -/
structure Bs (T : Tab) (xc : Nat → Value) (S : Sta) (cs : Nat → List W → Sto → CR) (gl : List W) (k Nf : Nat) (N : List Str) (s : Mp.S) : Prop where
  one : ∀ {fb sc Wx X p}, CsOk T xc S cs gl k N fb sc Wx X → okS S N fb sc s p = true → PS X p (SV T xc cs gl Nf Wx s)
  many : ∀ {fb sc Wx X ps}, CsOk T xc S cs gl k N fb sc Wx X → okSs S N fb sc s ps = true → PSs X ps (SV T xc cs gl Nf Wx s)
theorem Bs.mk1 {s : Mp.S} (h : ∀ {fb sc Wx X p}, CsOk T xc S cs gl k N fb sc Wx X → okS S N fb sc s p = true → PS X p (SV T xc cs gl Nf Wx s)) (h1 : ∀ {fb sc ps}, okSs S N fb sc s ps = false) : Bs T xc S cs gl k Nf N s :=
  ⟨h, fun _ q => by rw [h1] at q; cases q⟩
theorem bs_iff {c : E} {s t : Mp.S} (A : Bs T xc S cs gl k Nf N s) (B : Bs T xc S cs gl k Nf N t) : Bs T xc S cs gl k Nf N (.iff c s t) := by
  refine Bs.mk1 (fun C h => ?_) (by simp [okSs])
  unfold okS at h
  split at h
  · simp only [Bool.and_eq_true, Bool.not_eq_true'] at h
    obtain ⟨⟨⟨h1, h2⟩, h3⟩, h4⟩ := h
    refine (ps_if (((bd_all c).val C.C h2).pt h1) (A.many C h3) (B.many C h4)).imp fun D σ H z => ?_
    obtain ⟨B, r, P, m, en, R, g⟩ := z
    simp only [sv] at g
    refine tst_go (A := Unit) R g fun b en2 m2 B2 r2 H2 e2 R2 h2 => ?_
    cases b with
    | false =>
      rw [if_neg Bool.false_ne_true] at h2 ⊢
      exact ⟨B2, r2, P, m2, en2, R2, h2⟩
    | true =>
      rw [if_pos rfl] at h2 ⊢
      exact ⟨B2, r2, P, m2, en2, R2, h2⟩
  · cases h
theorem st_raise (C : CsOk T xc S cs gl k N fb sc Wx X) {c : Nat} {p : Stmt} (h : okS S N fb sc (.raise c) p = true) : PS X p (SV T xc cs gl Nf Wx (.raise c)) := by
  unfold okS at h
  split at h
  · simp only [Bool.and_eq_true] at h
    obtain ⟨⟨⟨h0, h1⟩, h2⟩, h3⟩ := h
    unfold xnmB at h1
    split at h1
    · rename_i xi hx
      have e := eq_of_beq h1
      subst e
      obtain ⟨g1, g2, g3, g4, g5, g6, _⟩ := C.C.md.exs c xi hx
      refine (ps_raise (C.C.calm h0) C.C.tk (pmk_own PySem.F.excBase_ValueError (by rw [C.C.eK]; exact g4) g2 (by rw [C.C.eK]; exact g5) (raises_own (by rw [C.C.eK]; exact g3.hs) (by rw [C.C.eK]; exact g6)) (gl_of C.C.es h2) (pl_of h3).1)).imp fun D σ H z => ?_
      obtain ⟨B, r, P, m, en, R, g⟩ := z
      simp only [sv] at g
      rw [← g1]
      exact g σ B r H Ext.refl R
    · cases h1
  · cases h
theorem st_augf (C : CsOk T xc S cs gl k N fb sc Wx X) {a e : E} {x : Str} {cl : List Nat} {p : Stmt} (h : okS S N fb sc (.augf a x cl e) p = true) : PS X p (SV T xc cs gl Nf Wx (.augf a x cl e)) := by
  unfold okS at h
  split at h
  · simp only [Bool.and_eq_true, List.all_eq_true] at h
    obtain ⟨⟨⟨h1, hcs⟩, h4⟩, h5⟩ := h
    have hxy := eq_of_beq h1
    subst hxy
    refine (ps_fldaug ((bd_all a).val C.C h4).pe ((bd_all e).val C.C h5).pe in_add).imp fun D σ H z => ?_
    obtain ⟨B, r, P, m, en, R, g⟩ := z
    simp only [sv] at g
    refine ⟨B, r, P, m, en, R, g.bindE fun o en1 m1 B1 r1 H1 e1 R1 h1 ov hov => ?_⟩
    obtain ⟨z, e2, h2⟩ := h1.opt
    obtain ⟨⟨c, fs⟩, e3, h3⟩ := h2.opt
    obtain ⟨i0, e4, h4⟩ := h3.opt
    have hz := R1.top hov e2
    obtain ⟨i, ad, dx, vs, rfl, j2, j3, rfl, j5, j6⟩ := ins_of R1.s hz e3
    dsimp only at e4
    split at e4
    · rename_i hc
      obtain ⟨w, e5, e6⟩ := Option.bind_eq_some_iff.mp e4
      have e6 := intR_some e6
      simp only [RV.val.injEq] at e6
      subst e6
      obtain ⟨v, l1, l2⟩ := j6.look e5
      cases l2
      have h8 : ∃ ci, S.cls[c]? = some ci ∧ x ∈ ci.flds := by
        have hcl : c ∈ cl := by simpa using hc.1
        have h9 := hcs c hcl
        split at h9
        · exact ⟨_, by assumption, by simpa using h9⟩
        · cases h9
      obtain ⟨ci, k1, k2⟩ := h8
      obtain ⟨d1, d2, _⟩ := C.C.md.cls c ci k1
      rw [C.C.eK]
      refine ⟨ad, T.ca c, dx, vs, _, rfl, j5, d1, d2 x k2, l1, B1, r1, P, m1, en1, R1, h4.bindE fun y en2 m2 B2 r2 H2 e7 R2 h5 u hu => ?_⟩
      obtain ⟨k0, f1, h6⟩ := h5.opt
      obtain ⟨⟨c2, fs2⟩, f2, h7⟩ := h6.opt
      have f1 := intR_some f1
      subst f1
      cases hu
      obtain ⟨i2, ad2, dx2, vs2, q1, q2, q3, q4, q5, q6⟩ := ins_of R2.s (v := .ref ad) (.inl (.ref (pre_get e7.pre j2))) f2
      cases q1
      cases q4
      dsimp only at h7
      split at h7
      · rename_i hc2
        obtain ⟨rfl, hl2⟩ := hc2
        refine ⟨_, _, rfl, rfl, dx2, vs2, q5, by rw [q6.len]; omega, ?_⟩
        exact h7.nx (R2.upd_sto q2 q3 rfl rfl (.ins (q6.putF (.int _) x)))
      · exact h7.elim
    · cases e4
  · cases h
theorem RepC.unlock {B P H : Hp} {r : List Addr} {d : Addr} {o : PySem.Obj} {dv : List (Key × V)} {v : V} {x : RV} (hB : B d = some (.frz o (.dK dv))) (hd : d ∈ r) (h : RepC T B r P H v x) : RepC T (dropB B d) r P (upd H d (.dK dv)) v x := by
  cases x with
  | val w => exact Rep.unlk hB h
  | bor j => exact h
  | new ws =>
    obtain ⟨p, rfl, ⟨xs, a1, a2⟩, a3, a4, a5⟩ := h
    have ne : p ≠ d := fun z => a5 (z ▸ hd)
    exact ⟨p, rfl, ⟨xs, by rw [upd_ne ne]; exact a1, a2.unlk hB⟩, by rw [dropB_ne ne]; exact a3, a4, a5⟩
theorem bs_lock {a : E} {s : Mp.S} (A : Bs T xc S cs gl k Nf N s) : Bs T xc S cs gl k Nf N (.lockS a s) := by
  refine Bs.mk1 (fun C h => ?_) (by simp [okSs])
  unfold okS at h
  refine (ps_lock (A.one C h)).imp fun D σ H z => ?_
  obtain ⟨B, r, P, m, en, R, g⟩ := z
  simp only [sv] at g
  obtain ⟨i, _, g⟩ := g.opt
  obtain ⟨kvs, ek, g⟩ := g.opt
  have hm := dicAt_some ek
  obtain ⟨d, q, hi, hd, ob⟩ := R.s.ob i _ hm
  cases ob with
  | dic l =>
    rename_i dv
    refine ⟨d, .dK dv, hd, trivial, fun od => ?_⟩
    obtain ⟨e1, R1⟩ := R.lock hi hm l od
    refine ⟨_, r, P, _, en, R1, ?_⟩
    have nb : B d = none := R.s.nb_of hi hm rfl
    have np := (R.s.fr d (List.mem_of_getElem? hi)).2
    revert g
    cases sv cs gl Nf s en (m.set i (.lk kvs)) with
    | bad => exact fun g => g
    | ex c en2 m2 => exact fun g => g.elim
    | ok o en2 m2 =>
      intro g σ2 B2 r2 H2 e2 R2
      have hB2 := e2.sub d _ upd_same
      have hi2 := pre_get e2.pre hi
      have hdr := List.mem_of_getElem? hi2
      have g : PostSt T xc _ P B r (Mp.opt (lkAt m2 i) fun kvs => .ok o en2 (m2.set i (.dic kvs))) D := g
      obtain ⟨kvs2, ek2, g⟩ := g.opt
      have hm2 := lkAt_some ek2
      have g := g σ2 (dropB B2 d) r2 _ ⟨fun b u hb => by
        have c : b ≠ d := fun z => by rw [z, nb] at hb; cases hb
        rw [dropB_ne c]
        exact e2.sub b _ (e1.sub b _ hb), e2.pre, fun b hb => by
        have c : b ≠ d := fun z => hb (z ▸ np)
        rw [dropB_ne c, e2.fix b hb, e1.fix b hb]⟩ (R2.unlock hB2 hi2 hm2)
      cases o with
      | nx => exact ⟨R2.s.bh d _ hB2, g⟩
      | rt a => exact fun v hv => ⟨R2.s.bh d _ hB2, g v (hv.unlock hB2 hdr)⟩
theorem bs_try {b s : Mp.S} {cl : List Nat} {j : Nat} (A : Bs T xc S cs gl k Nf N b) (B : Bs T xc S.hot cs gl k Nf N s) : Bs T xc S cs gl k Nf N (.tryx b cl j s) := by
  refine Bs.mk1 (fun {fb sc Wx X p} C h => ?_) (by simp [okSs])
  unfold okS at h
  split at h
  · simp only [Bool.and_eq_true, List.all_eq_true] at h
    obtain ⟨⟨⟨⟨⟨⟨⟨h1, h2⟩, h3⟩, h4⟩, h5⟩, h6⟩, h7⟩, h8⟩ := h
    rw [List.any_eq_true] at h5
    obtain ⟨xd, hm, e⟩ := h5
    have e := eq_of_beq e
    subst e
    obtain ⟨d, hd⟩ := List.mem_iff_getElem?.mp hm
    obtain ⟨_, gd, _⟩ := C.C.md.exs d xd hd
    obtain ⟨pd1, _, _⟩ := pl_of h4
    have hi := C.C.name h1
    refine (ps_try_keep (c := .ref (T.xa d)) (i := j) (tb := fun W => SV T xc cs gl Nf W b) (ts := SV T xc cs gl Nf (fun _ _ _ _ => False) s) C.stk C.frm C.exn (by rw [C.C.eN]; exact C.C.nd) hi (by show X.env.scope.names.lookup _ = _; rw [C.C.es]; exact lb_of h2) ⟨gl_of C.C.es h3, pd1, .inl gd⟩
      (fun W pn xe tk po => A.many (X := X.tr pn xe) ⟨⟨C.C.eK, C.C.eN, C.C.nd, C.C.es, C.C.ef, C.C.calm, C.C.room, C.C.un, tk, C.C.md⟩, po, C.kf, C.stk, C.frm, C.exn⟩ h7)
      (fun a pn => B.many (X := X.suite a pn) ⟨⟨C.C.eK, C.C.eN, C.C.nd, C.C.es, C.C.ef, (fun z => absurd z Bool.false_ne_true), (fun z => absurd z Bool.false_ne_true), C.C.un, takes_none5, ⟨C.C.md.fns, C.C.md.cls, C.C.md.gls, C.C.md.blt, C.C.md.exs⟩⟩, PassesOwn.never, C.kf, C.stk, C.frm, C.exn⟩ h8)).imp fun D σ H z => ?_
    obtain ⟨B0, r, P, m, en, R, g⟩ := z
    simp only [sv] at g
    refine ⟨B0, r, P, m, en, R, ?_⟩
    revert g
    cases sv cs gl Nf b en m with
    | bad => exact fun g => g
    | ok o en2 m2 => exact fun g => g
    | ex c en2 m2 =>
      intro g σ2 B2 r2 H2 e2 R2
      dsimp only at g
      split at g
      · rename_i hc
        have hup := h6 c (by simpa using hc)
        unfold xupB at hup
        split at hup
        · rename_i xi hx
          obtain ⟨g1, _, _, _, _, _, _, _, g9⟩ := C.C.md.exs c xi hx
          have hx2 := (g9 d xd hd).2
          rw [hup] at hx2
          refine ⟨T.xa c, g1, rfl, by rw [C.C.eK, g1]; exact hx2, fun a na => ?_⟩
          obtain ⟨B3, e3, R3, hB3⟩ := R2.new_frz (o := .ext (ExcAt a (T.xa c))) na
          refine ⟨B3, r2, P, m2, _, R3.set_val (j := j) (.exc c hB3), ?_⟩
          have g := PostSt.mono (e2.trans e3) g
          revert g
          cases sv cs gl Nf s (en2.set j (some (.val (.exc c)))) m2 with
          | bad => exact fun g => g
          | ex c2 en3 m3 => exact fun g => g.elim
          | ok o en3 m3 =>
            intro g σ4 B4 r4 H4 e4 R4
            have g := g (σ4.set j none) B4 r4 H4 e4 (R4.set_none (j := j))
            cases o with
            | nx => exact g
            | rt a => exact g
        · cases hup
      · exact g.elim
  · cases h
theorem bs_seq {s t : Mp.S} (A : Bs T xc S cs gl k Nf N s) (B : Bs T xc S cs gl k Nf N t) : Bs T xc S cs gl k Nf N (.seq s t) := by
  refine ⟨fun _ h => by simp [okS] at h, fun C h => ?_⟩
  unfold okSs at h
  split at h
  · simp only [Bool.and_eq_true] at h
    refine (pss_cons (A.one C h.1) (B.many C h.2)).imp fun D σ H z => ?_
    obtain ⟨B, r, P, m, en, R, g⟩ := z
    simp only [sv] at g
    exact ⟨B, r, P, m, en, R, g.bindS (fun en3 m3 σ3 B3 r3 H3 e3 R3 h3 => ⟨B3, r3, P, m3, en3, R3, h3⟩) fun a en3 m3 σ3 B3 r3 H3 v e3 R3 h3 hv => h3 σ3 B3 r3 H3 Ext.refl R3 v hv⟩
  · cases h
theorem bs_all : ∀ (s : Mp.S) {S : Sta}, Bs T xc S cs gl k Nf N s
  | .skip, S => ⟨fun _ h => st_skip h, fun C h => by
      unfold okSs at h
      split at h
      · exact pss_nil.imp fun D σ H z => by
          obtain ⟨B, r, P, m, en, R, g⟩ := z
          simp only [sv] at g
          exact PostSt.nx g R
      · cases h⟩
  | .seq s t, S => bs_seq (bs_all s) (bs_all t)
  | .asg j e, S => Bs.mk1 (fun C h => st_asg C h) (by simp [okSs])
  | .unp tg e, S => Bs.mk1 (fun C h => st_unp C h) (by simp [okSs])
  | .par i j a b, S => Bs.mk1 (fun C h => st_par C h) (by simp [okSs])
  | .seti a i e, S => Bs.mk1 (fun C h => st_seti C h) (by simp [okSs])
  | .app a e, S => Bs.mk1 (fun C h => st_app C h) (by simp [okSs])
  | .extd a e, S => Bs.mk1 (fun C h => st_extd C h) (by simp [okSs])
  | .ex e, S => Bs.mk1 (fun C h => st_ex C h) (by simp [okSs])
  | .ret e, S => Bs.mk1 (fun C h => st_ret C h) (by simp [okSs])
  | .retn, S => Bs.mk1 (fun C h => st_retn h) (by simp [okSs])
  | .iff c s t, S => bs_iff (bs_all s) (bs_all t)
  | .for_ it src tg b, S => Bs.mk1 (fun C h => by
      unfold okS at h
      split at h
      · simp only [Bool.and_eq_true] at h
        obtain ⟨pi, hs⟩ := (bd_all src).src C.C h.1.1.2
        exact st_for C h.1.1.1 pi hs h.1.2 ((bs_all b).many C h.2)
      · cases h) (by simp [okSs])
  | .whl c b, S => Bs.mk1 (fun C h => by
      unfold okS at h
      split at h
      · simp only [Bool.and_eq_true, Bool.not_eq_true'] at h
        exact st_whl C (((bd_all c).val C.C h.1.2).pt h.1.1) ((bs_all b).many C h.2)
      · cases h) (by simp [okSs])
  | .raise c, S => Bs.mk1 (fun C h => st_raise C h) (by simp [okSs])
  | .never, S => ⟨fun _ _ => st_never, fun _ _ => sts_never⟩
  | .augn j op e, S => Bs.mk1 (fun C h => st_augn C h) (by simp [okSs])
  | .tryx b cl j s, S => bs_try (bs_all b) (bs_all s)
  | .lockS a s, S => bs_lock (bs_all s)
  | .augf a x cl e, S => Bs.mk1 (fun C h => st_augf C h) (by simp [okSs])
  | .setf a x cl e, S => Bs.mk1 (fun C h => st_setf C h) (by simp [okSs])
  | .dput a kk e, S => Bs.mk1 (fun C h => st_dput C h) (by simp [okSs])
end
end Mp

set_option Elab.async false
set_option linter.all false
set_option maxRecDepth 100000
set_option maxHeartbeats 4000000
namespace Mp
open PySem PySem.Spec PyProof.Rows L2

/-! ### defs, level by level -/
/-- a def with its text and its meaning -/
structure Fx where
  x : Str
  q : Str
  ps : List Str
  N : List Str
  st : Stmt
  fd : Fd
def scopeB (N ps : List Str) (sc : Scope) : Bool :=
  (match sc.kind with
    | .function => true
    | _ => false) && !sc.isCoroutine && !sc.isGenerator && decide N.Nodup && (N.take ps.length == ps) &&
  (ps.all fun x => match sc.names.lookup x with
    | some .local => true
    | some .cell => true
    | _ => false) && sc.names.all fun y => match y.2 with
    | .free => false
    | _ => true
theorem scope_of {N ps : List Str} {sc : Scope} (h : scopeB N ps sc = true) : FnScope N ps sc := by
  unfold scopeB at h
  simp only [Bool.and_eq_true, Bool.not_eq_true', decide_eq_true_eq, List.all_eq_true] at h
  obtain ⟨⟨⟨⟨⟨⟨h1, h2⟩, h3⟩, h4⟩, h5⟩, h6⟩, h7⟩ := h
  refine ⟨?_, h2, h3, h4, eq_of_beq h5, fun x hx => ?_, fun y hy e => ?_⟩
  · cases q : sc.kind <;> rw [q] at h1 <;> first | rfl | cases h1
  · have z := h6 x hx
    split at z
    · exact .inl (by assumption)
    · exact .inr (by assumption)
    · cases z
  · have z := h7 y hy
    rw [e] at z; cases z
def okF (S : Sta) (f : Fx) : Bool :=
  decide (f.fd.np = f.ps.length) && decide (f.fd.nn = f.N.length) && scopeB f.N f.ps (defScope f.st) && okSs S f.N (fun _ => true) (defScope f.st) f.fd.body (defBody f.st)
def staOf (fs : List Fx) (gn : List Str) (ci : List CI) (ex : List XI := []) : Sta := ⟨fs.map fun f => (if f.x = f.q then some f.x else none, f.ps.length), gn, ci, ex, true⟩
theorem start_rel {T : Tab} {B P H : Hp} {r : List Addr} {m : Sto} {N : List Str} {vs : List V} {ws : List W} (R : RelS T B r P m H) (l : RepL T B r vs ws) : Rel T B r P m (ws.map (fun w => some (.val w)) ++ List.replicate (N.length - ws.length) none) (L2.start N vs) H := by
  have len := l.len
  have cases_ : ∀ {j : Nat} {s : Sl}, (ws.map (fun w => some (Sl.val w)) ++ List.replicate (N.length - ws.length) none)[j]? = some (some s) → ∃ w, ws[j]? = some w ∧ s = .val w := fun {j s} h => by
    by_cases hj : j < ws.length
    · rw [List.getElem?_append_left (by rw [List.length_map]; exact hj), List.getElem?_map, List.getElem?_eq_getElem hj] at h
      simp only [Option.map_some, Option.some.injEq] at h
      exact ⟨_, List.getElem?_eq_getElem hj, h.symm⟩
    · rw [List.getElem?_append_right (by rw [List.length_map]; omega)] at h
      have := List.mem_of_getElem? h
      rw [List.mem_replicate] at this
      cases this.2
  refine ⟨R, ?_, fun j s h => ?_, fun j k ws1 zs p h => ?_⟩
  · unfold L2.start
    simp only [List.length_append, List.length_map, List.length_replicate, len]
  · obtain ⟨w, e, rfl⟩ := cases_ h
    obtain ⟨v, e2, h2⟩ := l.get e
    refine ⟨v, ?_, h2⟩
    unfold L2.start
    have hj : j < vs.length := (List.getElem?_eq_some_iff.mp e2).1
    rw [List.getElem?_append_left (by rw [List.length_map]; exact hj), List.getElem?_map, e2]
    rfl
  · obtain ⟨w, _, e⟩ := cases_ h
    cases e
/-- what the written part says of the defs -/
structure FnsIn (T : Tab) (mg : Str → Option Value) (fs : List Fx) : Prop where
  at_ : ∀ i f, fs[i]? = some f → ∃ fd, L2.Fun T.K f.x f.q f.st (T.fa i) fd ∧ Binds T.K fd f.ps [] ∧ (f.x = f.q → mg f.x = some (.ref (T.fa i)))
/-- what it says of the classes -/
def ClsIn (T : Tab) (mg : Str → Option Value) (cis : List CI) : Prop := ∀ c ci, cis[c]? = some ci → Cls T.K (T.ca c) ∧ (∀ x ∈ ci.flds, NoAttr T.K (T.ca c) x) ∧ (∀ x f, (x, f) ∈ ci.mts → Meth T.K (T.ca c) x (T.fa f)) ∧ mg ci.nm = some (.ref (T.ca c)) ∧ Mk T.K (T.ca c) (T.fa ci.ini)
/-- what it says of the error classes -/
def ExsIn (T : Tab) (xc : Nat → Value) (mg : Str → Option Value) (exs : List XI) : Prop := ∀ c xi, exs[c]? = some xi → xc c = .ref (T.xa c) ∧ mg xi.nm = some (.ref (T.xa c)) ∧ L2.ExcC T.K (T.xa c) ∧ PySem.W.excIn T.K (T.xa c) [.type "ValueError", .type "Exception", .type "BaseException", .type "object"] "ValueError.__new__" = true ∧ PySem.W.keepIn T.K (.ref (T.xa c)) = true ∧ PySem.W.typeIn T.K (.ref (T.xa c)) = some (.type "type") ∧
    PySem.W.kitOne T.K (.ref (T.xa c)) (.type "ValueError") = some (xi.up.contains "ValueError") ∧ PySem.W.kitOne T.K (.type "NoneType") (.ref (T.xa c)) = some false ∧ ∀ d xd, exs[d]? = some xd → PySem.W.kitOne T.K (.ref (T.xa c)) (.ref (T.xa d)) = some (xi.up.contains xd.nm) ∧ PySem.W.exmOne T.K (.ref (T.xa c)) (.ref (T.xa d)) = some (xi.up.contains xd.nm)
section
variable {T : Tab} {xc : Nat → Value} {mg : Str → Option Value} {fs : List Fx} {gn : List Str} {cis : List CI} {exs : List XI} {gl : List W} {Nf : Nat} {P : Program} {w : World} {base : Heap}
theorem fn_levels (F : FnsIn T mg fs) (ok : fs.all (okF (staOf fs gn cis exs)) = true) (G : ∀ (i : Nat) (x : Str), gn[i]? = some x → ∃ v u w, mg x = some u ∧ RelV v u ∧ gl[i]? = some w ∧ ∀ B r, Rep T B r v w) (Bl : ∀ x ∈ bltNames, mg x = none) (CI_ : ClsIn T mg cis) (XI_ : ExsIn T xc mg exs) :
    ∀ k i f, fs[i]? = some f → ∃ fd, L2.Fun T.K f.x f.q f.st (T.fa i) fd ∧ Binds T.K fd f.ps [] ∧ (f.x = f.q → mg f.x = some (.ref (T.fa i))) ∧ FnOk P w T.K mg base (L2.CX P w) (2 * k) (T.fa i) fd f.ps (spF T xc (callN (fs.map (·.fd)) gl Nf k) i f.ps.length)
  | 0, i, f, h => by
    obtain ⟨fd, h1, h2, h3⟩ := F.at_ i f h
    refine ⟨fd, h1, h2, h3, fun vs H Q E z => z.1, fun A outer s H args us vs Q E hr he hb hv z => ?_⟩
    obtain ⟨_, B, r, Pp, m, ws, R, l, c⟩ := z
    exact c.elim
  | k + 1, i, f, h => by
    obtain ⟨fd, h1, h2, h3⟩ := F.at_ i f h
    refine ⟨fd, h1, h2, h3, ?_⟩
    have hf := List.all_eq_true.mp ok f (List.mem_of_getElem? h)
    unfold okF at hf
    simp only [Bool.and_eq_true, decide_eq_true_eq] at hf
    obtain ⟨⟨⟨k1, k2⟩, k3⟩, k4⟩ := hf
    have SC := scope_of k3
    show FnOk P w T.K mg base (L2.CX P w) (2 * k + 1 + 1) (T.fa i) fd f.ps _
    refine L2.Fun.okX h1 SC (fun vs H Q E z => z.1) fun cdv A outer s H vs Q E hr z => ?_
    obtain ⟨hl, B, r, Pp, m, ws, R, l, c⟩ := z
    have C : CsOk T xc (staOf fs gn cis exs) (callN (fs.map (·.fd)) gl Nf k) gl k f.N (fun _ => true) (defScope f.st) (fun cls d _ H => E cls d H) (cxOf (L2.CX P w) P w T.K mg base f.N f.q (defScope f.st) (T.fa i) cdv A outer s H E) :=
      ⟨⟨rfl, rfl, SC.nd, rfl, rfl, (fun _ => rfl), (fun _ => hr), hr.units, takes_of rfl rfl rfl rfl, ⟨fun i x n e => by
        unfold staOf at e
        dsimp only at e
        rw [List.getElem?_map] at e
        cases q : fs[i]? with
        | none => rw [q] at e; cases e
        | some g =>
          rw [q] at e
          simp only [Option.map_some, Option.some.injEq, Prod.mk.injEq] at e
          obtain ⟨rfl, rfl⟩ := e
          obtain ⟨fd2, j1, j2, j3, j4⟩ := fn_levels F ok G Bl CI_ XI_ k i g q
          have jm : ∀ y, (if g.x = g.q then some g.x else none) = some y → mg y = some (.ref (T.fa i)) := fun y hy => by
            split at hy
            · rename_i hxq
              cases hy
              exact j3 hxq
            · cases hy
          exact ⟨fd2, g.ps, jm, j1.kp, j2, j4⟩, CI_, G, Bl, XI_⟩⟩, passes_of rfl, SC.kind, rfl, rfl, rfl⟩
    refine ⟨_, (bs_all (Nf := Nf) f.fd.body).many C k4, B, r, Pp, m, _, start_rel (N := f.N) R l, ?_⟩
    have e1 : ((fs.map (·.fd))[i]?) = some f.fd := by rw [List.getElem?_map, h]; rfl
    have e2 : ws.length = f.fd.np := by rw [k1, ← l.len, hl]
    unfold callN at c
    rw [e1] at c
    dsimp only at c
    rw [if_pos e2] at c
    unfold runB at c
    rw [k2] at c
    show PostSt T xc _ Pp B r (sv (callN (fs.map (·.fd)) gl Nf k) gl Nf f.fd.body _ m) _
    generalize sv (callN (fs.map (·.fd)) gl Nf k) gl Nf f.fd.body (ws.map (fun w => some (Sl.val w)) ++ List.replicate (f.N.length - ws.length) none) m = x at c ⊢
    cases x with
    | bad => exact c
    | ex cc en m2 => exact fun σ B2 r2 H2 e R2 => c B2 r2 H2 e R2.s
    | ok o en m2 =>
      cases o with
      | nx => exact fun σ B2 r2 H2 e R2 => c .non B2 r2 H2 e R2.s .non
      | rt a => exact fun σ B2 r2 H2 e R2 v hv => c v B2 r2 H2 e R2.s hv
/-- a law's spec: it is true -/
def spTrue (K : PySem.W.Frag) (most : Nat) : Sp := fun vs H Q _ => ∃ (a : Addr) (ns : List Int), vs = [.ref a] ∧ SqL K H a (ns.map V.int) ∧ ns.length ≤ most ∧ ∀ H', Q (.bl true) H'
theorem law_level {most : Nat} (F : FnsIn T mg fs) (ok : fs.all (okF (staOf fs gn cis exs)) = true) (G : ∀ (i : Nat) (x : Str), gn[i]? = some x → ∃ v u w, mg x = some u ∧ RelV v u ∧ gl[i]? = some w ∧ ∀ B r, Rep T B r v w) (Bl : ∀ x ∈ bltNames, mg x = none) (CI_ : ClsIn T mg cis) (XI_ : ExsIn T (fun c => .ref (T.xa c)) mg exs)
    {k i : Nat} {f : Fx} (h : fs[i]? = some f) (hp : f.ps.length = 1) (law : ∀ ns : List Int, ns.length ≤ most → ∃ m, callN (fs.map (·.fd)) gl Nf k i [.scr (ns.map W.int)] [] = .ok (.val (.bl true)) m) :
    ∃ fd, L2.Fun T.K f.x f.q f.st (T.fa i) fd ∧ FnOk P w T.K mg base (L2.CX P w) (2 * k) (T.fa i) fd f.ps (spTrue T.K most) := by
  obtain ⟨fd, h1, h2, h3, h4⟩ := fn_levels (xc := fun c => .ref (T.xa c)) (P := P) (w := w) (base := base) (Nf := Nf) F ok G Bl CI_ XI_ k i f h
  refine ⟨fd, h1, h4.imp fun vs H Q E z => ?_⟩
  obtain ⟨a, ns, rfl, hS, hm, q⟩ := z
  obtain ⟨m, e⟩ := law ns hm
  have li : ∀ ns : List Int, RepL T H [] (ns.map V.int) (ns.map W.int) := fun ns => by
    induction ns with
    | nil => exact .nil
    | cons n ns ih => exact .cons (.int n) ih
  refine ⟨hp.symm, H, [], fun _ => none, [], [.scr (ns.map W.int)], ⟨Sub.refl H, fun _ _ z => (nomatch z), .nil, rfl, fun _ z => (nomatch z), fun i b z => by simp at z, fun i kvs a z => by simp at z⟩, .cons (.scr hS (li ns)) .nil, ?_⟩
  · show CPost T _ _ H [] (callN (fs.map (·.fd)) gl Nf k i [.scr (ns.map W.int)] []) Q E
    rw [e]
    intro v B2 r2 H2 _ _ hv
    cases hv
    exact q H2
end
end Mp

set_option Elab.async false
set_option linter.all false
set_option maxRecDepth 100000
set_option maxHeartbeats 4000000
namespace Mp
open PySem PySem.Spec PyProof.Rows L2

/-! ### from what the top has written to a law -/
/-- a def stands in the written part -/
structure FF (K : PySem.W.Frag) (f : Fx) (a : Addr) : Prop where
  ns : f.x = f.q → PySem.W.nsIn K mainGlobals f.x = some (some (.ref a))
  fn : ∃ fd, L2.Fun K f.x f.q f.st a fd ∧ ∀ us : List Value, us.length = f.ps.length → bindArgs fd ⟨us, []⟩ = pure (f.ps.zip us)
theorem ff_mk {K : PySem.W.Frag} {x : Str} {ps N : List Str} {st : Stmt} {fd : Fd} {a : Addr} {oc : Value} {od an : Option Addr} {osl : Array (Option Value)} {kV doc pm cdv ct : Value}
    (hb : ∀ (kV doc pm : Value) (an : Option Addr) (cdv ct : Value) (us : List Value), us.length = ps.length → bindArgs (PySem.W.fnOf x x (defArgs st) (defBody st) (defScope st) .none kV doc pm an cdv ct) ⟨us, []⟩ = pure (ps.zip us))
    (h1 : PySem.W.nsIn K mainGlobals x = some (some (.ref a))) (h2 : K.lookup a = some ⟨oc, od, .func (PySem.W.fnOf x x (defArgs st) (defBody st) (defScope st) .none kV doc pm an cdv ct), osl⟩)
    (h3 : PySem.W.codeIn K cdv x = true) (h4 : PySem.W.keepIn K (.ref a) = true) : FF K ⟨x, x, ps, N, st, fd⟩ a :=
  ⟨fun _ => h1, _, fun_mk h2 h3 h4, hb kV doc pm an cdv ct⟩
/-- a def of a class -/
theorem ff_mkM {K : PySem.W.Frag} {x y : Str} {ps N : List Str} {st : Stmt} {fd : Fd} {a : Addr} {oc : Value} {od an : Option Addr} {osl : Array (Option Value)} {kV doc pm cdv ct : Value}
    (hb : ∀ (kV doc pm : Value) (an : Option Addr) (cdv ct : Value) (us : List Value), us.length = ps.length → bindArgs (PySem.W.fnOf x y (defArgs st) (defBody st) (defScope st) .none kV doc pm an cdv ct) ⟨us, []⟩ = pure (ps.zip us))
    (hxy : x ≠ y) (h2 : K.lookup a = some ⟨oc, od, .func (PySem.W.fnOf x y (defArgs st) (defBody st) (defScope st) .none kV doc pm an cdv ct), osl⟩)
    (h3 : PySem.W.codeIn K cdv y = true) (h4 : PySem.W.keepIn K (.ref a) = true) : FF K ⟨x, y, ps, N, st, fd⟩ a :=
  ⟨fun e => absurd e hxy, _, fun_mk h2 h3 h4, hb kV doc pm an cdv ct⟩
/-- the methods of a class -/
inductive MTs (K : PySem.W.Frag) (C : Addr) (as : List Addr) : List (Str × Nat) → Prop
  | nil : MTs K C as []
  | cons {x : Str} {f : Nat} {b : Addr} {r : List (Str × Nat)} : as[f]? = some b → PySem.W.findIn K (.ref C) x = some (some (.ref b)) → PySem.W.isFn K (.ref b) = true → PySem.W.keepIn K (.ref b) = true → MTs K C as r → MTs K C as ((x, f) :: r)
theorem MTs.at_ {K : PySem.W.Frag} {C : Addr} {as : List Addr} : ∀ {l : List (Str × Nat)}, MTs K C as l → ∀ x f, (x, f) ∈ l → Meth K C x (as.getD f 0)
  | [], .nil, x, f, h => by cases h
  | (x0, f0) :: _, .cons (b := b) e h1 h2 h3 l, x, f, h => by
    rcases List.mem_cons.mp h with q | h
    · obtain ⟨rfl, rfl⟩ := Prod.mk.inj q
      have : as.getD f 0 = b := by rw [List.getD_eq_getElem?_getD, e]; rfl
      rw [this]
      exact ⟨h1, h2, h3⟩
    · exact l.at_ x f h
/-- attributes that no class hides -/
inductive NAs (K : PySem.W.Frag) (C : Addr) : List Str → Prop
  | nil : NAs K C []
  | cons {x : Str} {r : List Str} : PySem.W.findIn K (.ref C) x = some none → NAs K C r → NAs K C (x :: r)
theorem NAs.at_ {K : PySem.W.Frag} {C : Addr} : ∀ {l : List Str}, NAs K C l → ∀ x ∈ l, NoAttr K C x
  | _, .nil, x, h => by cases h
  | _, .cons h1 l, x, h => by
    rcases List.mem_cons.mp h with rfl | h
    · exact h1
    · exact l.at_ x h
/-- a class stands in the written part -/
structure CC (K : PySem.W.Frag) (as : List Addr) (ci : CI) (a : Addr) : Prop where
  ns : PySem.W.nsIn K mainGlobals ci.nm = some (some (.ref a))
  cl : Cls K a
  fl : NAs K a ci.flds
  mt : MTs K a as ci.mts
  mkk : Mk K a (as.getD ci.ini 0)
theorem cc_mk {K : PySem.W.Frag} {as : List Addr} {nm : Str} {flds : List Str} {mts : List (Str × Nat)} {ini : Nat} {a b : Addr} (hns : PySem.W.nsIn K mainGlobals nm = some (some (.ref a)))
    (pg : PySem.W.plainGet K a Str.empty = true) (hd : PySem.W.hasDictIn K a = true) (po : PySem.W.plainOver K a = true) (sa : PySem.W.findIn K (.ref a) "__setattr__" = some (some (.builtin "object.__setattr__")))
    (hb : as[ini]? = some b) (mk : PySem.W.makesIn K a = true) (i1 : PySem.W.findIn K (.ref a) "__init__" = some (some (.ref b))) (i2 : PySem.W.isFn K (.ref b) = true) (kc : PySem.W.keepIn K (.ref a) = true)
    (fl : NAs K a flds) (mt : MTs K a as mts) : CC K as ⟨nm, flds, mts, ini⟩ a :=
  ⟨hns, ⟨pg, hd, po, sa⟩, fl, mt, by
    have : as.getD ini 0 = b := by rw [List.getD_eq_getElem?_getD, hb]; rfl
    show Mk K a (as.getD ini 0)
    rw [this]
    exact ⟨mk, i1, i2, kc⟩⟩
inductive CCs (K : PySem.W.Frag) (as : List Addr) : List CI → List Addr → Prop
  | nil : CCs K as [] []
  | cons {c : CI} {a : Addr} {cs : List CI} {cas : List Addr} : CC K as c a → CCs K as cs cas → CCs K as (c :: cs) (a :: cas)
theorem CCs.at_ {K : PySem.W.Frag} {as : List Addr} : ∀ {cs : List CI} {cas : List Addr}, CCs K as cs cas → ∀ (i : Nat) (c : CI), cs[i]? = some c → ∃ a, cas[i]? = some a ∧ CC K as c a
  | _, _, .nil, i, f, h => by simp at h
  | _, _, .cons h0 l, 0, f, h => by
    simp only [List.getElem?_cons_zero, Option.some.injEq] at h
    subst h
    exact ⟨_, rfl, h0⟩
  | _, _, .cons h0 l, i + 1, f, h => by
    simp only [List.getElem?_cons_succ] at h
    obtain ⟨a, h1, h2⟩ := l.at_ i f h
    exact ⟨a, by simpa using h1, h2⟩
inductive FFs (K : PySem.W.Frag) : List Fx → List Addr → Prop
  | nil : FFs K [] []
  | cons {f : Fx} {a : Addr} {fs : List Fx} {as : List Addr} : FF K f a → FFs K fs as → FFs K (f :: fs) (a :: as)
theorem FFs.at_ {K : PySem.W.Frag} : ∀ {fs : List Fx} {as : List Addr}, FFs K fs as → ∀ (i : Nat) (f : Fx), fs[i]? = some f → ∃ a, as[i]? = some a ∧ FF K f a
  | _, _, .nil, i, f, h => by simp at h
  | _, _, .cons h0 l, 0, f, h => by
    simp only [List.getElem?_cons_zero, Option.some.injEq] at h
    subst h
    exact ⟨_, rfl, h0⟩
  | _, _, .cons h0 l, i + 1, f, h => by
    simp only [List.getElem?_cons_succ] at h
    obtain ⟨a, h1, h2⟩ := l.at_ i f h
    exact ⟨a, by simpa using h1, h2⟩
/-- an error class stands in the written part: what it is one of -/
inductive XRow (K : PySem.W.Frag) (xi : XI) (a : Addr) : List XI → List Addr → Prop
  | nil : XRow K xi a [] []
  | cons {xd : XI} {b : Addr} {r : List XI} {as : List Addr} : PySem.W.subIn K (.ref a) (.ref b) = some (xi.up.contains xd.nm) → XRow K xi a r as → XRow K xi a (xd :: r) (b :: as)
theorem XRow.at_ {K : PySem.W.Frag} {xi : XI} {a : Addr} : ∀ {r : List XI} {as : List Addr}, XRow K xi a r as → ∀ (i : Nat) (xd : XI), r[i]? = some xd → ∃ b, as[i]? = some b ∧ PySem.W.subIn K (.ref a) (.ref b) = some (xi.up.contains xd.nm)
  | _, _, .nil, i, xd, h => by simp at h
  | _, _, .cons h0 l, 0, xd, h => by
    simp only [List.getElem?_cons_zero, Option.some.injEq] at h
    subst h
    exact ⟨_, rfl, h0⟩
  | _, _, .cons h0 l, i + 1, xd, h => by
    simp only [List.getElem?_cons_succ] at h
    obtain ⟨b, h1, h2⟩ := l.at_ i xd h
    exact ⟨b, by simpa using h1, h2⟩
structure XX (K : PySem.W.Frag) (xi : XI) (a : Addr) : Prop where
  ns : PySem.W.nsIn K mainGlobals xi.nm = some (some (.ref a))
  ec : L2.ExcC K a
  ex : PySem.W.excIn K a [.type "ValueError", .type "Exception", .type "BaseException", .type "object"] "ValueError.__new__" = true
  kp : PySem.W.keepIn K (.ref a) = true
  ty : PySem.W.typeIn K (.ref a) = some (.type "type")
  ve : PySem.W.subIn K (.ref a) (.type "ValueError") = some (xi.up.contains "ValueError")
theorem xx_mk {K : PySem.W.Frag} {nm : Str} {up : List Str} {a : Addr} (ns : PySem.W.nsIn K mainGlobals nm = some (some (.ref a)))
    (h1 : PySem.W.findIn K (.ref a) "__getattribute__" = some (some (.builtin "BaseException.__getattribute__"))) (h2 : PySem.W.findIn K (.ref a) "__getattr__" = some none) (h3 : PySem.W.subIn K (.ref a) (.type "BaseException") = some true) (h4 : PySem.W.hasDictIn K a = true)
    (h5 : PySem.W.findIn K (.ref a) "__class__" = some (some (.builtin "object.__class__"))) (h6 : PySem.W.specialIn K (.builtin "object.__class__") "__get__" = some (some (.builtin "getset_descriptor.__get__"))) (h7 : PySem.W.takesIn K (.builtin "object.__class__") = some true) (h8 : PySem.W.mroIn K a (.type "object") = some true)
    (ex : PySem.W.excIn K a [.type "ValueError", .type "Exception", .type "BaseException", .type "object"] "ValueError.__new__" = true) (kp : PySem.W.keepIn K (.ref a) = true) (ty : PySem.W.typeIn K (.ref a) = some (.type "type")) (ve : PySem.W.subIn K (.ref a) (.type "ValueError") = some (up.contains "ValueError")) : XX K ⟨nm, up⟩ a :=
  ⟨ns, ⟨h1, h2, h3, h4, h5, h6, h7, h8⟩, ex, kp, ty, ve⟩
/-- the error classes, each beside the whole list of them -/
inductive XXs (K : PySem.W.Frag) (all : List XI) (alls : List Addr) : List XI → List Addr → Prop
  | nil : XXs K all alls [] []
  | cons {xi : XI} {a : Addr} {r : List XI} {as : List Addr} : XX K xi a → XRow K xi a all alls → XXs K all alls r as → XXs K all alls (xi :: r) (a :: as)
theorem XXs.at_ {K : PySem.W.Frag} {all : List XI} {alls : List Addr} : ∀ {r : List XI} {as : List Addr}, XXs K all alls r as → ∀ (i : Nat) (xi : XI), r[i]? = some xi → ∃ a, as[i]? = some a ∧ XX K xi a ∧ XRow K xi a all alls
  | _, _, .nil, i, xd, h => by simp at h
  | _, _, .cons h0 h1 l, 0, xd, h => by
    simp only [List.getElem?_cons_zero, Option.some.injEq] at h
    subst h
    exact ⟨_, rfl, h0, h1⟩
  | _, _, .cons h0 h1 l, i + 1, xd, h => by
    simp only [List.getElem?_cons_succ] at h
    obtain ⟨b, h1, h2⟩ := l.at_ i xd h
    exact ⟨b, by simpa using h1, h2⟩
theorem kitCls_ref {K : PySem.W.Frag} {t : Value} {C : Addr} {b : Bool} (hd : PySem.W.hasDictIn K C = true) (ht : PySem.W.typeIn K (.ref C) = some (.type "type")) (h : PySem.W.subIn K t (.ref C) = some b) : PySem.W.kitCls K t (.ref C) = some b := by
  obtain ⟨cd, hc, _⟩ := PySem.W.any_some hd
  have e : ((PySem.W.clsIn K C).isSome && PySem.W.typeIn K (.ref C) == some (.type "type")) = true := by rw [hc, ht] <;> rfl
  show (if ((PySem.W.clsIn K C).isSome && PySem.W.typeIn K (.ref C) == some (.type "type")) = true then PySem.W.subIn K t (.ref C) else none) = some b
  rw [if_pos e]; exact h
/-- names that nothing hides -/
inductive Bare (K : PySem.W.Frag) : List Str → Prop
  | nil : Bare K []
  | cons {x : Str} {xs : List Str} : PySem.W.nsIn K mainGlobals x = some none → Bare K xs → Bare K (x :: xs)
theorem Bare.of {K : PySem.W.Frag} {h : Heap} {mg : Str → Option Value} (X : K.In h) (G : h.Ns mainGlobals mg) : ∀ {xs : List Str}, Bare K xs → ∀ x ∈ xs, mg x = none
  | _, .nil, x, hx => by cases hx
  | _, .cons h0 l, x, hx => by
    rcases List.mem_cons.mp hx with rfl | hx
    · exact PySem.W.mg_none_of X G h0
    · exact l.of X G x hx
/-- a constant of the module -/
structure GC (K : PySem.W.Frag) (x : Str) (w : W) : Prop where
  ex : ∃ v u, PySem.W.nsIn K mainGlobals x = some (some u) ∧ RelV v u ∧ ∀ (T : Tab) (B : Hp) (r : List Addr), T.K = K → Rep T B r v w
theorem gc_int {K : PySem.W.Frag} {x : Str} {i : Int} {t : Nat} (h : PySem.W.nsIn K mainGlobals x = some (some (.int i t))) : GC K x (.int i) :=
  ⟨.int i, .int i t, h, ⟨t, rfl⟩, fun _ _ _ _ => .int i⟩
def intVs : List Value → Option (List Int)
  | [] => some []
  | .int i _ :: r => (intVs r).map fun s => i :: s
  | _ => none
theorem intVs_vals : ∀ {us : List Value} {ns : List Int}, intVs us = some ns → Vals (ns.map V.int) us
  | [], ns, h => by simp only [intVs, Option.some.injEq] at h; subst h; exact .nil
  | u :: us, ns, h => by
    cases u with
    | int i t =>
      simp only [intVs] at h
      cases q : intVs us with
      | none => rw [q] at h; cases h
      | some s =>
        rw [q] at h
        simp only [Option.map_some, Option.some.injEq] at h
        subst h
        exact .cons ⟨t, rfl⟩ (intVs_vals q)
    | _ => simp [intVs] at h
theorem rep_ints {T : Tab} {B : Hp} {r : List Addr} : ∀ ns : List Int, RepL T B r (ns.map V.int) (ns.map W.int)
  | [] => .nil
  | n :: ns => .cons (.int n) (rep_ints ns)
theorem gc_tup {K : PySem.W.Frag} {x : Str} {a : Addr} {o : Obj} {its : Array Value} {n : Nat} {is_ : List Int} (h : PySem.W.nsIn K mainGlobals x = some (some (.ref a))) (l : K.lookup a = some o) (hc : o.cls = .type "tuple") (hd : o.data = .seq its n) (hz : its.size ≤ sizeLine)
    (hv : intVs its.toList = some is_) : GC K x (.tup (is_.map W.int)) :=
  ⟨.ref a, .ref a, h, rfl, fun T B r e => .tup (.inr ⟨o, its, n, by rw [e]; exact l, hc, hd, hz, intVs_vals hv⟩) (rep_ints is_)⟩
theorem gc_list {K : PySem.W.Frag} {x : Str} {a : Addr} {o : Obj} {its : Array Value} {n : Nat} {is_ : List Int} (h : PySem.W.nsIn K mainGlobals x = some (some (.ref a))) (l : K.lookup a = some o) (hc : o.cls = .type "list") (hn : o.dict = none) (hd : o.data = .seq its n) (hz : its.size ≤ sizeLine)
    (hv : intVs its.toList = some is_) : GC K x (.scr (is_.map W.int)) :=
  ⟨.ref a, .ref a, h, rfl, fun T B r e => .scr (.inr ⟨o, its, n, by rw [e]; exact l, hc, hn, hd, hz, intVs_vals hv⟩) (rep_ints is_)⟩
inductive GCs (K : PySem.W.Frag) : List Str → List W → Prop
  | nil : GCs K [] []
  | cons {x : Str} {w : W} {xs : List Str} {ws : List W} : GC K x w → GCs K xs ws → GCs K (x :: xs) (w :: ws)
theorem GCs.at_ {K : PySem.W.Frag} : ∀ {xs : List Str} {ws : List W}, GCs K xs ws → ∀ (i : Nat) x, xs[i]? = some x → ∃ w, ws[i]? = some w ∧ GC K x w
  | _, _, .nil, i, f, h => by simp at h
  | _, _, .cons h0 l, 0, f, h => by
    simp only [List.getElem?_cons_zero, Option.some.injEq] at h
    subst h
    exact ⟨_, rfl, h0⟩
  | _, _, .cons h0 l, i + 1, f, h => by
    simp only [List.getElem?_cons_succ] at h
    obtain ⟨a, h1, h2⟩ := l.at_ i f h
    exact ⟨a, by simpa using h1, h2⟩
/-- the law's head, from the interpreter's answer -/
theorem law_mk {P : Program} {w : World} {K : PySem.W.Frag} {h : Heap} {mg : Str → Option Value} {fa : Addr} {fs : List Fx} {as cas xas : List Addr} {cis : List CI} {exs : List XI} {gn : List Str} {gl : List W} {k i Nf most : Nat} {f : Fx} {x : Str}
    (X : K.In h) (G : h.Ns mainGlobals mg) (hfa : mg f.x = some (.ref fa)) (ok : fs.all (okF (staOf fs gn cis exs)) = true) (hf : fs[i]? = some f) (hq : f.x = f.q) (hp : f.ps = [x])
    (law : ∀ ns : List Int, ns.length ≤ most → ∃ m, callN (fs.map (·.fd)) gl Nf k i [.scr (ns.map W.int)] [] = .ok (.val (.bl true)) m)
    (F : FFs K fs as) (C : GCs K gn gl) (Bl : Bare K bltNames) (CL : CCs K as cis cas) (XL : XXs K exs xas exs xas) (XS : exs.all (fun xi => xi.up.contains xi.nm) = true) :
    ∃ fd : FuncData, (∀ (s : Shared) (u : Value), BindsTo s fd ⟨[u], []⟩ [(x, u)]) ∧ ∀ base : Heap, K.In base → base.Ns mainGlobals mg → FnOk P w K mg base (L2.CX P w) (2 * k) fa fd [x] (spTrue K most) := by
  obtain ⟨a, e1, e2⟩ := F.at_ i f hf
  have e3 := PySem.W.mg_of X G (e2.ns hq)
  rw [hfa] at e3
  cases e3
  have FI : FnsIn ⟨K, fun i => cas.getD i 0, fun i => as.getD i 0, fun i => xas.getD i 0⟩ mg fs := ⟨fun j g hg => by
    obtain ⟨b, q1, q2⟩ := F.at_ j g hg
    obtain ⟨fd, q3, q4⟩ := q2.fn
    have e : as.getD j 0 = b := by rw [List.getD_eq_getElem?_getD, q1]; rfl
    refine ⟨fd, ?_, .all q4, ?_⟩
    · show L2.Fun K g.x g.q g.st (as.getD j 0) fd
      rw [e]; exact q3
    · intro hxq
      show mg g.x = some (.ref (as.getD j 0))
      rw [e]; exact PySem.W.mg_of X G (q2.ns hxq)⟩
  have XN : ExsIn ⟨K, fun i => cas.getD i 0, fun i => as.getD i 0, fun i => xas.getD i 0⟩ (fun c => .ref (xas.getD c 0)) mg exs := fun c xi hc => by
    obtain ⟨b, q1, q2, q3⟩ := XL.at_ c xi hc
    have e : xas.getD c 0 = b := by rw [List.getD_eq_getElem?_getD, q1]; rfl
    have hself := List.all_eq_true.mp XS xi (List.mem_of_getElem? hc)
    refine ⟨rfl, ?_⟩
    show mg xi.nm = some (.ref (xas.getD c 0)) ∧ L2.ExcC K (xas.getD c 0) ∧ PySem.W.excIn K (xas.getD c 0) _ _ = true ∧ PySem.W.keepIn K (.ref (xas.getD c 0)) = true ∧ PySem.W.typeIn K (.ref (xas.getD c 0)) = _ ∧ PySem.W.kitOne K (.ref (xas.getD c 0)) _ = _ ∧ PySem.W.kitOne K _ (.ref (xas.getD c 0)) = _ ∧ ∀ d xd, exs[d]? = some xd → PySem.W.kitOne K (.ref (xas.getD c 0)) (.ref (xas.getD d 0)) = some (xi.up.contains xd.nm) ∧ PySem.W.exmOne K (.ref (xas.getD c 0)) (.ref (xas.getD d 0)) = some (xi.up.contains xd.nm)
    rw [e]
    refine ⟨PySem.W.mg_of X G q2.ns, q2.ec, q2.ex, q2.kp, q2.ty, ?_, ?_, fun d xd hd => ?_⟩
    · have h1 : ((Value.ref b) == (Value.type "ValueError")) = false := rfl
      unfold PySem.W.kitOne
      rw [h1, if_neg Bool.false_ne_true]
      show (if PySem.W.kitMeta "ValueError" = true then _ else none) = _
      rw [if_pos (by decide +kernel)]; exact q2.ve
    · have h1 : ((Value.type "NoneType") == (Value.ref b)) = false := rfl
      unfold PySem.W.kitOne
      rw [h1, if_neg Bool.false_ne_true]
      exact kitCls_ref q2.ec.hd q2.ty rfl
    · obtain ⟨b2, p1, p2, p3⟩ := XL.at_ d xd hd
      obtain ⟨b3, p4, p5⟩ := q3.at_ d xd hd
      rw [p1] at p4; cases p4
      have e2 : xas.getD d 0 = b2 := by rw [List.getD_eq_getElem?_getD, p1]; rfl
      rw [e2]
      refine ⟨?_, PySem.W.exm_ref p2.ec.hs p2.ec.hd p2.ty p5⟩
      unfold PySem.W.kitOne
      by_cases cc : (Value.ref b == Value.ref b2) = true
      · rw [if_pos cc]
        have e3 : b = b2 := Value.ref.inj (beq_iff_eq.mp cc)
        subst e3
        obtain ⟨b4, s1, s2⟩ := q3.at_ c xi hc
        rw [q1] at s1; cases s1
        rw [hself] at s2
        exact s2.symm.trans p5
      · rw [if_neg cc]
        exact kitCls_ref p2.ec.hd p2.ty p5
  have CN : ClsIn ⟨K, fun i => cas.getD i 0, fun i => as.getD i 0, fun i => xas.getD i 0⟩ mg cis := fun c ci hc => by
    obtain ⟨b, q1, q2⟩ := CL.at_ c ci hc
    have e : cas.getD c 0 = b := by rw [List.getD_eq_getElem?_getD, q1]; rfl
    show Cls K (cas.getD c 0) ∧ (∀ x ∈ ci.flds, NoAttr K (cas.getD c 0) x) ∧ (∀ x f, (x, f) ∈ ci.mts → Meth K (cas.getD c 0) x (as.getD f 0)) ∧ mg ci.nm = some (.ref (cas.getD c 0)) ∧ Mk K (cas.getD c 0) (as.getD ci.ini 0)
    rw [e]
    exact ⟨q2.cl, q2.fl.at_, q2.mt.at_, PySem.W.mg_of X G q2.ns, q2.mkk⟩
  obtain ⟨fd, q3, q4⟩ := e2.fn
  have ea : as.getD i 0 = fa := by rw [List.getD_eq_getElem?_getD, e1]; rfl
  refine ⟨fd, fun s u => .of_eq ?_, fun base _ _ => ?_⟩
  · have := q4 [u] (by rw [hp]; rfl)
    rw [hp] at this; exact this
  · obtain ⟨fd2, q5, q6⟩ := law_level (P := P) (w := w) (base := base) (Nf := Nf) (k := k) (most := most) FI ok (fun j y hy => by
      obtain ⟨w, z1, z2⟩ := C.at_ j y hy
      obtain ⟨v, u, z3, z4, z5⟩ := z2.ex
      exact ⟨v, u, w, PySem.W.mg_of X G z3, z4, z1, fun B r => z5 _ B r rfl⟩) (Bl.of X G) CN XN hf (by rw [hp]; rfl) law
    have q5 : L2.Fun K f.x f.q f.st (as.getD i 0) fd2 := q5
    have q6 : FnOk P w K mg base (L2.CX P w) (2 * k) (as.getD i 0) fd2 f.ps (spTrue K most) := q6
    rw [ea] at q5 q6
    have e : fd = fd2 := by
      obtain ⟨oc, od, kV, doc, pm, an, cdv, ct, osl, r1, lk, hcd⟩ := q3.ex
      obtain ⟨oc', od', kV', doc', pm', an', cdv', ct', osl', r2, lk', hcd'⟩ := q5.ex
      rw [lk] at lk'
      injection lk' with lk'
      injection lk' with _ _ lk' _
      injection lk' with lk'
    rw [e, ← hp]; exact q6
end Mp

set_option Elab.async false
set_option linter.all false
namespace Mp
/-- 0:table 1:many 2:p -/
def b_first_sums (c_need_prime c_need_table c_sums_by g_MOST_SUMS : Nat) : S := (.seq (.ex (.call c_need_prime 1 (.cons (.var 2) .nil)))
  (.seq (.ex (.call c_need_table 2 (.cons (.var 0) (.cons (.var 2) .nil))))
  (.seq (.iff (.not (.chain .le .le (.int 0) (.var 1) (.glob g_MOST_SUMS))) (.seq .never
  .skip) .skip)
  (.seq (.ret (.call c_sums_by 3 (.cons (.var 0) (.cons (.var 1) (.cons (.var 2) .nil)))))
  .skip))))
/-- 0:one 1:other 2:p 3:j -/
def b_first_unlike_sum (c_places_unlike c_sum_by : Nat) : S := (.seq (.for_ .rng1 (.cons (.blt .len (.cons (.call c_places_unlike 3 (.cons (.var 0) (.cons (.var 1) (.cons (.var 2) .nil)))) .nil)) .nil) (.one 3) (.seq (.iff (.cmp .ne (.call c_sum_by 3 (.cons (.var 0) (.cons (.var 3) (.cons (.var 2) .nil)))) (.call c_sum_by 3 (.cons (.var 1) (.cons (.var 3) (.cons (.var 2) .nil))))) (.seq (.ret (.var 3))
  .skip) .skip)
  .skip))
  (.seq (.ret .non)
  .skip))
/-- 0:a 1:p -/
def b_inverse_by (c_need_prime c_power_by : Nat) : S := (.seq (.ex (.call c_need_prime 1 (.cons (.var 1) .nil)))
  (.seq (.iff (.cmp .eq (.bin .mod (.var 0) (.var 1)) (.int 0)) (.seq .never
  .skip) .skip)
  (.seq (.ret (.call c_power_by 3 (.cons (.var 0) (.cons (.bin .sub (.var 1) (.int 2)) (.cons (.var 1) .nil)))))
  .skip)))
/-- 0:n 1:base -/
def b_is_prime (c_stands g_BASES : Nat) : S := (.seq (.iff (.cmp .lt (.var 0) (.int 2)) (.seq (.ret (.bl false))
  .skip) .skip)
  (.seq (.for_ .tup (.cons (.glob g_BASES) .nil) (.one 1) (.seq (.iff (.cmp .eq (.bin .mod (.var 0) (.var 1)) (.int 0)) (.seq (.ret (.cmp .eq (.var 0) (.var 1)))
  .skip) .skip)
  .skip))
  (.seq (.ret (.cmp .eq (.comp .tup (.cons (.glob g_BASES) .nil) (.one 1) [1] (.not (.call c_stands 2 (.cons (.var 0) (.cons (.var 1) .nil)))) (.var 1)) (.lst .nil)))
  .skip)))
/-- 0:script 1:cell 2:deck 3:p 4:table 5:handed 6:j 7:due 8:place 9:worth 10:found; boxed deck -/
def b_law_v4 (c_law_deck c_law_power c_law_table c_law_take c_sum_number : Nat) : S := (.seq (.for_ .list (.cons (.bin .add (.lst (.cons (.bin .pow (.int 10) (.int 18)) .nil)) (.slc (.var 0) .nil (.int 12))) .nil) (.one 1) (.seq (.asg 2 (.box (.call c_law_deck 1 (.cons (.var 1) .nil))))
  (.seq (.unp (.many [3, 4]) (.call c_law_table 2 (.cons (.var 2) (.cons (.idx (.lst (.cons (.int 12) (.cons (.int 40) .nil))) (.blt .int (.cons (.cmp .eq (.call c_law_take 2 (.cons (.var 2) (.cons (.int 8) .nil))) (.int 3)) .nil))) .nil))))
  (.seq (.asg 5 (.blt .list (.cons (.var 4) .nil)))
  (.seq (.for_ .list (.cons (.lst (.cons (.int 0) (.cons (.int 1) (.cons (.int 2) (.cons (.call c_law_take 2 (.cons (.var 2) (.cons (.int 40) .nil))) (.cons (.call c_law_take 2 (.cons (.var 2) (.cons (.int 10001) .nil))) (.cons (.int 10000) (.cons (.bin .mod (.var 3) (.int 9999)) .nil)))))))) .nil) (.one 6) (.seq (.asg 7 (.bin .mod (.blt .sum (.cons (.comp .enum (.cons (.var 4) .nil) (.many [8, 9]) [8, 9] .nil (.bin .mul (.var 9) (.call c_law_power 3 (.cons (.bin .add (.var 8) (.int 1)) (.cons (.var 6) (.cons (.var 3) .nil)))))) .nil)) (.var 3)))
  (.seq (.asg 10 (.call c_sum_number 3 (.cons (.var 5) (.cons (.var 6) (.cons (.var 3) .nil)))))
  (.seq (.iff (.or (.cons (.not (.isi (.var 10) [.int])) (.cons (.isi (.var 10) [.bool]) (.cons (.cmp .ne (.var 10) (.var 7)) (.cons (.cmp .ne (.var 5) (.var 4)) .nil))))) (.seq (.ret (.bl false))
  .skip) .skip)
  .skip))))
  .skip)))))
  (.seq (.ret (.bl true))
  .skip))
/-- 0:script 1:cell 2:deck 3:p 4:table 5:handed 6:many 7:again 8:found; boxed deck found -/
def b_law_v5 (c_first_sums c_law_deck c_law_sums c_law_table c_law_take c_law_wholes : Nat) : S := (.seq (.for_ .list (.cons (.bin .add (.lst (.cons (.bin .pow (.int 10) (.int 18)) .nil)) (.slc (.var 0) .nil (.int 12))) .nil) (.one 1) (.seq (.asg 2 (.box (.call c_law_deck 1 (.cons (.var 1) .nil))))
  (.seq (.unp (.many [3, 4]) (.call c_law_table 2 (.cons (.var 2) (.cons (.idx (.lst (.cons (.int 12) (.cons (.int 40) .nil))) (.blt .int (.cons (.cmp .eq (.call c_law_take 2 (.cons (.var 2) (.cons (.int 8) .nil))) (.int 3)) .nil))) .nil))))
  (.seq (.asg 5 (.blt .list (.cons (.var 4) .nil)))
  (.seq (.for_ .list (.cons (.slc (.lst (.cons (.int 0) (.cons (.int 1) (.cons (.call c_law_take 2 (.cons (.var 2) (.cons (.int 20) .nil))) (.cons (.blt .len (.cons (.var 4) .nil)) (.cons (.bin .mul (.int 2) (.blt .len (.cons (.var 4) .nil))) (.cons (.int 100) .nil))))))) .nil (.bin .add (.int 5) (.call c_law_take 2 (.cons (.var 2) (.cons (.int 2) .nil))))) .nil) (.one 6) (.seq (.for_ .rng1 (.cons (.int 2) .nil) (.one 7) (.seq (.asg 8 (.box (.call c_first_sums 3 (.cons (.var 5) (.cons (.var 6) (.cons (.var 3) .nil))))))
  (.seq (.iff (.or (.cons (.not (.call c_law_wholes 2 (.cons (.var 8) (.cons (.call c_law_sums 3 (.cons (.var 4) (.cons (.var 6) (.cons (.var 3) .nil)))) .nil)))) (.cons (.cmp .ne (.var 5) (.var 4)) .nil))) (.seq (.ret (.bl false))
  .skip) .skip)
  (.seq (.app (.var 8) (.int 0))
  .skip))))
  .skip))
  .skip)))))
  (.seq (.ret (.bl true))
  .skip))
/-- 0:script 1:cell 2:deck 3:p 4:table 5:far 6:numbers 7:way 8:bad 9:number 10:place; boxed deck -/
def b_law_v7 (c_law_bad_tables c_law_deck c_law_said c_law_table c_law_take : Nat) : S := (.seq (.for_ .list (.cons (.bin .add (.lst (.cons (.bin .pow (.int 10) (.int 18)) .nil)) (.slc (.var 0) .nil (.int 15))) .nil) (.one 1) (.seq (.asg 2 (.box (.call c_law_deck 1 (.cons (.var 1) .nil))))
  (.seq (.unp (.many [3, 4]) (.call c_law_table 2 (.cons (.var 2) (.cons (.int 12) .nil))))
  (.seq (.asg 5 (.call c_law_take 2 (.cons (.var 2) (.cons (.idx (.lst (.cons (.int 1) (.cons (.int 50) (.cons (.bin .pow (.int 10) (.int 50)) .nil)))) (.call c_law_take 2 (.cons (.var 2) (.cons (.int 3) .nil)))) .nil))))
  (.seq (.asg 6 (.lst (.cons (.lst (.cons (.bin .sub (.neg (.int 1)) (.var 5)) (.cons (.bin .add (.int 10001) (.var 5)) .nil))) (.cons (.lst (.cons (.bin .sub (.neg (.int 1)) (.var 5)) (.cons (.bin .add (.int 101) (.var 5)) .nil))) .nil))))
  (.seq (.for_ .rng1 (.cons (.int 2) .nil) (.one 7) (.seq (.for_ .list (.cons (.call c_law_bad_tables 3 (.cons (.var 2) (.cons (.var 3) (.cons (.var 4) .nil)))) .nil) (.one 8) (.seq (.for_ .list (.cons (.bin .add (.lst (.cons (.int 0) (.cons (.int 3) .nil))) (.idx (.var 6) (.var 7))) .nil) (.one 9) (.seq (.iff (.cmp .ne (.call c_law_said 4 (.cons (.var 7) (.cons (.var 8) (.cons (.var 9) (.cons (.var 3) .nil))))) (.str "NoTable")) (.seq (.ret (.bl false))
  .skip) .skip)
  .skip))
  .skip))
  (.seq (.iff (.cmp .ne (.comp .list (.cons (.idx (.var 6) (.var 7)) .nil) (.one 9) [9] (.cmp .ne (.call c_law_said 4 (.cons (.var 7) (.cons (.var 4) (.cons (.var 9) (.cons (.var 3) .nil))))) (.str "NoNumber")) (.var 9)) (.lst .nil)) (.seq (.ret (.bl false))
  .skip) .skip)
  (.seq (.iff (.or (.cons (.cmp .ne (.call c_law_said 4 (.cons (.var 7) (.cons (.var 4) (.cons (.int 0) (.cons (.var 3) .nil))))) (.str "told")) (.cons (.cmp .ne (.call c_law_said 4 (.cons (.var 7) (.cons (.var 4) (.cons (.idx (.lst (.cons (.int 10000) (.cons (.int 100) .nil))) (.var 7)) (.cons (.var 3) .nil))))) (.str "told")) .nil))) (.seq (.ret (.bl false))
  .skip) .skip)
  .skip))))
  (.seq (.for_ .list (.cons (.lst (.cons (.bin .sub (.neg (.int 1)) (.var 5)) (.cons (.bin .sub (.var 3) (.int 1)) (.cons (.var 3) (.cons (.bin .add (.var 3) (.var 5)) .nil))))) .nil) (.one 10) (.seq (.iff (.or (.cons (.cmp .ne (.call c_law_said 4 (.cons (.int 2) (.cons (.lst (.cons (.int 0) (.cons (.int 1) .nil))) (.cons (.var 10) (.cons (.var 3) .nil))))) (.str "NoPlace")) (.cons (.cmp .ne (.call c_law_said 4 (.cons (.int 2) (.cons (.lst .nil) (.cons (.var 10) (.cons (.var 3) .nil))))) (.str "NoPlace")) .nil))) (.seq (.ret (.bl false))
  .skip) .skip)
  .skip))
  (.seq (.iff (.or (.cons (.cmp .ne (.call c_law_said 4 (.cons (.int 2) (.cons (.lst (.cons (.int 0) (.cons (.int 1) .nil))) (.cons (.bin .sub (.var 3) (.int 2)) (.cons (.var 3) .nil))))) (.str "told")) (.cons (.cmp .ne (.call c_law_said 4 (.cons (.int 2) (.cons (.lst (.cons (.int 0) (.cons (.int 1) .nil))) (.cons (.int 0) (.cons (.var 3) .nil))))) (.str "told")) .nil))) (.seq (.ret (.bl false))
  .skip) .skip)
  .skip))))))))
  (.seq (.ret (.bl true))
  .skip))
/-- 0:deck 1:p 2:table 3:at 4:far 5:found; boxed deck -/
def b_law_bad_tables (c_law_take : Nat) : S := (.seq (.asg 3 (.call c_law_take 2 (.cons (.var 0) (.cons (.blt .len (.cons (.var 2) .nil)) .nil))))
  (.seq (.asg 4 (.call c_law_take 2 (.cons (.var 0) (.cons (.idx (.lst (.cons (.int 1) (.cons (.int 9) (.cons (.bin .pow (.int 10) (.int 50)) .nil)))) (.call c_law_take 2 (.cons (.var 0) (.cons (.int 3) .nil)))) .nil))))
  (.seq (.asg 5 (.lst (.cons (.lst .nil) (.cons (.bin .add (.bin .add (.slc (.var 2) .nil (.var 3)) (.lst (.cons (.bin .sub (.neg (.int 1)) (.var 4)) .nil))) (.slc (.var 2) (.bin .add (.var 3) (.int 1)) .nil)) (.cons (.bin .add (.bin .add (.slc (.var 2) .nil (.var 3)) (.lst (.cons (.bin .add (.var 1) (.var 4)) .nil))) (.slc (.var 2) (.bin .add (.var 3) (.int 1)) .nil)) .nil)))))
  (.seq (.iff (.cmp .lt (.var 1) (.int 38)) (.seq (.asg 5 (.bin .add (.var 5) (.lst (.cons (.bin .mul (.lst (.cons (.int 0) .nil)) (.var 1)) (.cons (.bin .mul (.lst (.cons (.int 1) .nil)) (.bin .add (.var 1) (.call c_law_take 2 (.cons (.var 0) (.cons (.int 3) .nil))))) .nil)))))
  .skip) .skip)
  (.seq (.ret (.var 5))
  .skip)))))
/-- 0:places 1:p 2:found 3:place 4:product 5:other -/
def b_law_blind (c_law_power : Nat) : S := (.seq (.asg 2 (.lst .nil))
  (.seq (.for_ .list (.cons (.var 0) .nil) (.one 3) (.seq (.asg 4 (.int 1))
  (.seq (.for_ .list (.cons (.var 0) .nil) (.one 5) (.seq (.iff (.cmp .ne (.var 5) (.var 3)) (.seq (.asg 4 (.bin .mod (.bin .mul (.var 4) (.bin .sub (.var 3) (.var 5))) (.var 1)))
  .skip) .skip)
  .skip))
  (.seq (.app (.var 2) (.call c_law_power 3 (.cons (.var 4) (.cons (.bin .sub (.var 1) (.int 2)) (.cons (.var 1) .nil)))))
  .skip))))
  (.seq (.ret (.var 2))
  .skip)))
/-- 0:deck 1:table 2:many 3:p 4:left 5:found 6:k 7:at; boxed deck -/
def b_law_changed (c_law_take : Nat) : S := (.seq (.asg 4 (.lrng (.blt .len (.cons (.var 1) .nil))))
  (.seq (.asg 5 (.blt .list (.cons (.var 1) .nil)))
  (.seq (.for_ .rng1 (.cons (.var 2) .nil) (.one 6) (.seq (.asg 7 (.mth .pop (.var 4) (.cons (.call c_law_take 2 (.cons (.var 0) (.cons (.blt .len (.cons (.var 4) .nil)) .nil))) .nil)))
  (.seq (.seti (.var 5) (.var 7) (.bin .mod (.bin .add (.bin .add (.idx (.var 5) (.var 7)) (.int 1)) (.call c_law_take 2 (.cons (.var 0) (.cons (.bin .sub (.var 3) (.int 1)) .nil)))) (.var 3)))
  .skip)))
  (.seq (.ret (.var 5))
  .skip))))
/-- 0:cell -/
def b_law_deck (c_law_stir : Nat) : S := (.seq (.iff (.cmp .ge (.var 0) (.bin .pow (.int 10) (.int 18))) (.seq (.ret (.lst (.cons (.bin .sub (.var 0) (.bin .pow (.int 10) (.int 18))) .nil)))
  .skip) .skip)
  (.seq (.ret (.lst (.cons (.bin .add (.bin .mul (.bin .add (.bin .mul (.call c_law_stir 2 (.cons (.var 0) (.cons (.int 1) .nil))) (.bin .pow (.int 10) (.int 60))) (.call c_law_stir 2 (.cons (.var 0) (.cons (.int 2) .nil)))) (.bin .pow (.int 10) (.int 60))) (.call c_law_stir 2 (.cons (.var 0) (.cons (.int 3) .nil)))) .nil)))
  .skip))
/-- 0:one 1:other 2:p 3:first 4:second 5:found 6:j -/
def b_law_due (c_law_sums : Nat) : S := (.seq (.asg 3 (.call c_law_sums 3 (.cons (.var 0) (.cons (.blt .len (.cons (.var 0) .nil)) (.cons (.var 2) .nil)))))
  (.seq (.asg 4 (.call c_law_sums 3 (.cons (.var 1) (.cons (.blt .len (.cons (.var 0) .nil)) (.cons (.var 2) .nil)))))
  (.seq (.asg 5 (.comp .rng1 (.cons (.blt .len (.cons (.var 0) .nil)) .nil) (.one 6) [6] (.cmp .ne (.idx (.var 3) (.var 6)) (.idx (.var 4) (.var 6))) (.var 6)))
  (.seq (.ret (.idx (.bin .add (.var 5) (.lst (.cons .non .nil))) (.int 0)))
  .skip))))
/-- 0:base 1:exponent 2:n 3:found 4:at -/
def b_law_power : S := (.seq (.asg 3 (.bin .mod (.int 1) (.var 2)))
  (.seq (.for_ .rng3 (.cons (.bin .sub (.mth .bits (.var 1) .nil) (.int 1)) (.cons (.neg (.int 1)) (.cons (.neg (.int 1)) .nil))) (.one 4) (.seq (.asg 3 (.bin .mod (.bin .mul (.var 3) (.var 3)) (.var 2)))
  (.seq (.iff (.cmp .eq (.bin .band (.bin .shr (.var 1) (.var 4)) (.int 1)) (.int 1)) (.seq (.asg 3 (.bin .mod (.bin .mul (.var 3) (.var 0)) (.var 2)))
  .skip) .skip)
  .skip)))
  (.seq (.ret (.var 3))
  .skip)))
/-- 0:deck 1:least 2:some 3:p; boxed deck -/
def b_law_prime (c_law_take : Nat) : S := (.seq (.asg 2 (.lst (.cons (.int 2) (.cons (.int 3) (.cons (.int 5) (.cons (.int 7) (.cons (.int 11) (.cons (.int 13) (.cons (.int 17) (.cons (.int 23) (.cons (.int 41) (.cons (.int 43) (.cons (.int 101) (.cons (.int 257) (.cons (.int 10007) (.cons (.int 65537) (.cons (.int 999983) (.cons (.int 1000000007) (.cons (.int 9999999967) .nil)))))))))))))))))))
  (.seq (.asg 2 (.comp .list (.cons (.var 2) .nil) (.one 3) [3] (.cmp .ge (.var 3) (.var 1)) (.var 3)))
  (.seq (.ret (.idx (.var 2) (.call c_law_take 2 (.cons (.var 0) (.cons (.blt .len (.cons (.var 2) .nil)) .nil)))))
  .skip)))
/-- 0:cell 1:k 2:number -/
def b_law_stir : S := (.seq (.asg 2 (.bin .add (.bin .add (.bin .mul (.bin .mod (.var 0) (.bin .pow (.int 10) (.int 40))) (.int 48271)) (.bin .mul (.bin .mul (.bin .pow (.int 3) (.int 60)) (.bin .add (.var 1) (.int 1))) (.bin .add (.var 1) (.int 1)))) (.var 1)))
  (.seq (.asg 2 (.bin .add (.bin .mul (.var 2) (.var 2)) (.bin .mul (.int 69621) (.var 2))))
  (.seq (.ret (.bin .fdiv (.bin .mod (.bin .mul (.var 2) (.var 2)) (.bin .add (.bin .pow (.int 10) (.int 61)) (.int 7))) (.int 8)))
  .skip)))
/-- 0:table 1:many 2:p 3:found 4:powers 5:j 6:worth 7:power 8:place -/
def b_law_sums : S := (.seq (.asg 3 (.lst .nil))
  (.seq (.asg 4 (.bin .mul (.lst (.cons (.int 1) .nil)) (.blt .len (.cons (.var 0) .nil))))
  (.seq (.for_ .rng1 (.cons (.var 1) .nil) (.one 5) (.seq (.app (.var 3) (.bin .mod (.blt .sum (.cons (.comp .zip (.cons (.var 0) (.cons (.var 4) .nil)) (.many [6, 7]) [6, 7] .nil (.bin .mul (.var 6) (.var 7))) .nil)) (.var 2)))
  (.seq (.asg 4 (.comp .enum (.cons (.var 4) .nil) (.many [8, 7]) [8, 7] .nil (.bin .mod (.bin .mul (.var 7) (.bin .add (.var 8) (.int 1))) (.var 2))))
  .skip)))
  (.seq (.ret (.var 3))
  .skip))))
/-- 0:deck 1:most 2:many 3:p 4:far 5:k; boxed deck -/
def b_law_table (c_law_prime c_law_take : Nat) : S := (.seq (.asg 2 (.bin .add (.int 1) (.call c_law_take 2 (.cons (.var 0) (.cons (.var 1) .nil)))))
  (.seq (.asg 3 (.call c_law_prime 2 (.cons (.var 0) (.cons (.bin .add (.var 2) (.int 1)) .nil))))
  (.seq (.asg 4 (.idx (.lst (.cons (.int 2) (.cons (.var 3) .nil))) (.call c_law_take 2 (.cons (.var 0) (.cons (.int 2) .nil)))))
  (.seq (.ret (.tup (.cons (.var 3) (.cons (.comp .rng1 (.cons (.var 2) .nil) (.one 5) [5] .nil (.call c_law_take 2 (.cons (.var 0) (.cons (.var 4) .nil)))) .nil))))
  .skip))))
/-- 0:deck 1:many 2:taken -/
def b_law_take : S := (.seq (.asg 2 (.bin .mod (.idx (.var 0) (.int 0)) (.var 1)))
  (.seq (.seti (.var 0) (.int 0) (.bin .fdiv (.idx (.var 0) (.int 0)) (.var 1)))
  (.seq (.ret (.var 2))
  .skip)))
/-- 0:found 1:due 2:one -/
def b_law_wholes : S := (.seq (.iff (.or (.cons (.not (.isi (.var 0) [.list])) (.cons (.cmp .ne (.var 0) (.var 1)) .nil))) (.seq (.ret (.bl false))
  .skip) .skip)
  (.seq (.ret (.cmp .eq (.comp .list (.cons (.var 0) .nil) (.one 2) [2] (.or (.cons (.not (.isi (.var 2) [.int])) (.cons (.isi (.var 2) [.bool]) .nil))) (.var 2)) (.lst .nil)))
  .skip))
/-- 0:one 1:other 2:p -/
def b_need_like (c_need_prime c_need_table : Nat) : S := (.seq (.ex (.call c_need_prime 1 (.cons (.var 2) .nil)))
  (.seq (.ex (.call c_need_table 2 (.cons (.var 0) (.cons (.var 2) .nil))))
  (.seq (.ex (.call c_need_table 2 (.cons (.var 1) (.cons (.var 2) .nil))))
  (.seq (.iff (.cmp .ne (.blt .len (.cons (.var 0) .nil)) (.blt .len (.cons (.var 1) .nil))) (.seq .never
  .skip) .skip)
  .skip))))
/-- 0:p -/
def b_need_prime (c_is_prime : Nat) : S := (.seq (.iff (.not (.call c_is_prime 1 (.cons (.var 0) .nil))) (.seq .never
  .skip) .skip)
  .skip)
/-- 0:table 1:p 2:worth -/
def b_need_table : S := (.seq (.iff (.or (.cons (.not (.chain .le .lt (.int 1) (.blt .len (.cons (.var 0) .nil)) (.var 1))) (.cons (.cmp .ne (.comp .list (.cons (.var 0) .nil) (.one 2) [2] (.not (.chain .le .lt (.int 0) (.var 2) (.var 1))) (.var 2)) (.lst .nil)) .nil))) (.seq .never
  .skip) .skip)
  .skip)
/-- 0:one 1:other 2:p 3:place -/
def b_places_unlike (c_need_like : Nat) : S := (.seq (.ex (.call c_need_like 3 (.cons (.var 0) (.cons (.var 1) (.cons (.var 2) .nil)))))
  (.seq (.ret (.comp .rng1 (.cons (.blt .len (.cons (.var 0) .nil)) .nil) (.one 3) [3] (.cmp .ne (.idx (.var 0) (.var 3)) (.idx (.var 1) (.var 3))) (.var 3)))
  .skip))
/-- 0:base 1:exponent 2:n 3:found 4:square -/
def b_power_by : S := (.seq (.asg 3 (.bin .mod (.int 1) (.var 2)))
  (.seq (.asg 4 (.bin .mod (.var 0) (.var 2)))
  (.seq (.whl (.cmp .gt (.var 1) (.int 0)) (.seq (.iff (.cmp .eq (.bin .mod (.var 1) (.int 2)) (.int 1)) (.seq (.asg 3 (.bin .mod (.bin .mul (.var 3) (.var 4)) (.var 2)))
  .skip) .skip)
  (.seq (.asg 4 (.bin .mod (.bin .mul (.var 4) (.var 4)) (.var 2)))
  (.seq (.asg 1 (.bin .fdiv (.var 1) (.int 2)))
  .skip))))
  (.seq (.ret (.var 3))
  .skip))))
/-- 0:n 1:base 2:odd 3:power -/
def b_stands (c_power_by : Nat) : S := (.seq (.asg 2 (.bin .sub (.var 0) (.int 1)))
  (.seq (.whl (.cmp .eq (.bin .mod (.var 2) (.int 2)) (.int 0)) (.seq (.asg 2 (.bin .fdiv (.var 2) (.int 2)))
  .skip))
  (.seq (.asg 3 (.call c_power_by 3 (.cons (.var 1) (.cons (.var 2) (.cons (.var 0) .nil)))))
  (.seq (.iff (.cmp .eq (.var 3) (.int 1)) (.seq (.ret (.bl true))
  .skip) .skip)
  (.seq (.whl (.cmp .lt (.var 2) (.bin .sub (.var 0) (.int 1))) (.seq (.iff (.cmp .eq (.var 3) (.bin .sub (.var 0) (.int 1))) (.seq (.ret (.bl true))
  .skip) .skip)
  (.seq (.asg 3 (.bin .mod (.bin .mul (.var 3) (.var 3)) (.var 0)))
  (.seq (.asg 2 (.bin .mul (.int 2) (.var 2)))
  .skip))))
  (.seq (.ret (.bl false))
  .skip))))))
/-- 0:table 1:j 2:p 3:place 4:worth -/
def b_sum_by (c_power_by : Nat) : S := (.seq (.ret (.bin .mod (.blt .sum (.cons (.comp .enum (.cons (.var 0) .nil) (.many [3, 4]) [3, 4] .nil (.bin .mul (.var 4) (.call c_power_by 3 (.cons (.bin .add (.var 3) (.int 1)) (.cons (.var 1) (.cons (.var 2) .nil)))))) .nil)) (.var 2)))
  .skip)
/-- 0:table 1:j 2:p -/
def b_sum_number (c_need_prime c_need_table c_sum_by g_MOST_NUMBER : Nat) : S := (.seq (.ex (.call c_need_prime 1 (.cons (.var 2) .nil)))
  (.seq (.ex (.call c_need_table 2 (.cons (.var 0) (.cons (.var 2) .nil))))
  (.seq (.iff (.not (.chain .le .le (.int 0) (.var 1) (.glob g_MOST_NUMBER))) (.seq .never
  .skip) .skip)
  (.seq (.ret (.call c_sum_by 3 (.cons (.var 0) (.cons (.var 1) (.cons (.var 2) .nil)))))
  .skip))))
/-- 0:sums 1:place 2:old 3:new 4:p 5:j 6:one -/
def b_sums_behind (c_need_prime c_power_by : Nat) : S := (.seq (.ex (.call c_need_prime 1 (.cons (.var 4) .nil)))
  (.seq (.iff (.not (.chain .le .lt (.int 0) (.var 1) (.bin .sub (.var 4) (.int 1)))) (.seq .never
  .skip) .skip)
  (.seq (.ret (.comp .enum (.cons (.var 0) .nil) (.many [5, 6]) [5, 6] .nil (.bin .mod (.bin .add (.var 6) (.bin .mul (.bin .sub (.var 3) (.var 2)) (.call c_power_by 3 (.cons (.bin .add (.var 1) (.int 1)) (.cons (.var 5) (.cons (.var 4) .nil)))))) (.var 4))))
  .skip)))
/-- 0:table 1:many 2:p 3:j -/
def b_sums_by (c_sum_by : Nat) : S := (.seq (.ret (.comp .rng1 (.cons (.var 1) .nil) (.one 3) [3] .nil (.call c_sum_by 3 (.cons (.var 0) (.cons (.var 3) (.cons (.var 2) .nil))))))
  .skip)
end Mp

set_option Elab.async false
set_option linter.all false
set_option maxRecDepth 100000
set_option maxHeartbeats 4000000
namespace Mp
open PySem PySem.Spec PyProof.Rows L2

/-! ### running -/
/-- so that a rewriting does not go into what comes later -/
structure Pin {F : Type} (f : F) : Type where
def bnd {A B : Type} (x : R A) (f : A → En → Sto → R B) (_ : Pin f := ⟨⟩) : R B := x.bind f
def optp {A B : Type} (o : Option A) (f : A → R B) (_ : Pin f := ⟨⟩) : R B := opt o f
def opt2p {A B C : Type} (o : Option (A × B)) (f : A → B → R C) (_ : Pin f := ⟨⟩) : R C := opt2 o f
@[simp] theorem bnd_ok {A B : Type} {a : A} {en : En} {m : Sto} {f : A → En → Sto → R B} {h : Pin f} : bnd (.ok a en m) f h = f a en m := rfl
@[simp] theorem bnd_ex {A B : Type} {c : Nat} {en : En} {m : Sto} {f : A → En → Sto → R B} {h : Pin f} : bnd (.ex c en m) f h = .ex c en m := rfl
@[simp] theorem optp_some {A B : Type} {a : A} {f : A → R B} {h : Pin f} : optp (some a) f h = f a := rfl
@[simp] theorem opt2p_some {A B C : Type} {a : A} {b : B} {f : A → B → R C} {h : Pin f} : opt2p (some (a, b)) f h = f a b := rfl
@[simp] theorem bind_okR {A B : Type} {a : A} {en : En} {m : Sto} {f : A → En → Sto → R B} : (R.ok a en m).bind f = f a en m := rfl
@[simp] theorem bind_exR {A B : Type} {c : Nat} {en : En} {m : Sto} {f : A → En → Sto → R B} : (R.ex c en m : R A).bind f = .ex c en m := rfl
@[simp] theorem opt_someR {A B : Type} {a : A} {f : A → R B} : opt (some a) f = f a := rfl
@[simp] theorem opt2_someR {A B C : Type} {a : A} {b : B} {f : A → B → R C} : opt2 (some (a, b)) f = f a b := rfl
@[simp] theorem noex_okR {A : Type} {a : A} {en : En} {m : Sto} : (R.ok a en m).noex = .ok a en m := rfl
@[simp] theorem toR_ok {r : RV} {en : En} {m : Sto} : (CR.ok r m).toR en = .ok r en m := rfl
@[simp] theorem toR_ex {c : Nat} {en : En} {m : Sto} : (CR.ex c m).toR en = .ex c en m := rfl
@[simp] theorem hold_val {w : W} : hold (.val w) = .val w := rfl
@[simp] theorem hold_new {ws : List W} : hold (.new ws) = .val (.lst ws) := rfl
@[simp] theorem hold_bor {j : Nat} : hold (.bor j) = .bor j := rfl
@[simp] theorem rvW_val {en : En} {w : W} : rvW en (.val w) = some w := rfl
@[simp] theorem rvW_new {en : En} {ws : List W} : rvW en (.new ws) = some (.lst ws) := rfl
@[simp] theorem rvW_bor {en : En} {j : Nat} : rvW en (.bor j) = (enGet en j).map slW := rfl
@[simp] theorem slW_val {w : W} : slW (.val w) = w := rfl
@[simp] theorem slW_own {ws : List W} : slW (.own ws) = .lst ws := rfl
@[simp] theorem enGet_0 {s : Option Sl} {en : En} : enGet (s :: en) 0 = s := by cases s <;> rfl
@[simp] theorem enGet_s {s : Option Sl} {en : En} {j : Nat} : enGet (s :: en) (j + 1) = enGet en j := rfl
@[simp] theorem intR_int {i : Int} : intR (.val (.int i)) = some i := rfl
@[simp] theorem blR_bl {b : Bool} : blR (.val (.bl b)) = some b := rfl
@[simp] theorem esc_val {w : W} {en : En} : esc (.val w) en = some (w, en) := rfl
@[simp] theorem esc_new {ws : List W} {en : En} : esc (.new ws) en = some (.lst ws, en) := rfl
@[simp] theorem slOf_val {w : W} {en : En} : slOf (.val w) en = some (.val w, en) := rfl
@[simp] theorem slOf_new {ws : List W} {en : En} : slOf (.new ws) en = some (.own ws, en) := rfl
@[simp] theorem retR_val {w : W} {en : En} : retR (.val w) en = some (.val w) := rfl
@[simp] theorem retR_new {ws : List W} {en : En} : retR (.new ws) en = some (.new ws) := rfl
theorem esc_own {j : Nat} {ws : List W} {en : En} (h : enGet en j = some (.own ws)) : esc (.bor j) en = some (.lst ws, en.set j (some (.val (.lst ws)))) := by unfold esc; simp only [h]
theorem retR_own {j : Nat} {ws : List W} {en : En} (h : enGet en j = some (.own ws)) : retR (.bor j) en = some (.new ws) := by unfold retR; simp only [h]; rfl
@[simp] theorem boxR_new {ws : List W} {en : En} {m : Sto} : boxP (.new ws) en m = .ok (.val (.ref m.length)) en (m ++ [.lst ws]) := rfl
@[simp] theorem boxP_non {en : En} {m : Sto} : boxP (.val .non) en m = .ok (.val .non) en m := rfl
@[simp] theorem lstW_lst {m : Sto} {ws : List W} : lstW m (.lst ws) = some ws := rfl
theorem lstW_ref {m : Sto} {i : Nat} {ws : List W} (h : m[i]? = some (.lst ws)) : lstW m (.ref i) = some ws := by unfold lstW; simp only [h]
@[simp] theorem add_ints {en : En} {m : Sto} {i j : Int} : binR .add en m (.val (.int i)) (.val (.int j)) = some (.val (.int (i + j))) := rfl
@[simp] theorem sub_ints {en : En} {m : Sto} {i j : Int} : binR .sub en m (.val (.int i)) (.val (.int j)) = some (.val (.int (i - j))) := rfl
theorem mul_ints {en : En} {m : Sto} {i j : Int} (h : mulOk i j = true) : binR .mul en m (.val (.int i)) (.val (.int j)) = some (.val (.int (i * j))) := by show (if mulOk i j then _ else _) = _; rw [if_pos h]
theorem mod_ints {en : En} {m : Sto} {i j : Int} (h : 0 < j) : binR .mod en m (.val (.int i)) (.val (.int j)) = some (.val (.int (i % j))) := by show (if 0 < j then _ else _) = _; rw [if_pos h]
theorem fdiv_ints {en : En} {m : Sto} {i j : Int} (h : 0 < j ∧ j < BIG) : binR .fdiv en m (.val (.int i)) (.val (.int j)) = some (.val (.int (i / j))) := by show (if 0 < j ∧ j < BIG then _ else _) = _; rw [if_pos h]
theorem pow_ints {en : En} {m : Sto} {i j : Int} (h : 0 ≤ j ∧ j ≤ 1000 ∧ -(2 ^ 64) < i ∧ i < 2 ^ 64) : binR .pow en m (.val (.int i)) (.val (.int j)) = some (.val (.int (i ^ j.toNat))) := by show (if _ then _ else _) = _; rw [if_pos h]
theorem mulOk_l {i j : Int} (h : -(2 ^ 64) < i ∧ i < 2 ^ 64) : mulOk i j = true := by unfold mulOk; rw [decide_eq_true h]; rfl
theorem mulOk_r {i j : Int} (h : -(2 ^ 64) < j ∧ j < 2 ^ 64) : mulOk i j = true := by unfold mulOk; rw [decide_eq_true h]; simp
theorem mulOk_b {i j : Int} (h : -BIG < i ∧ i < BIG) (h2 : -BIG < j ∧ j < BIG) : mulOk i j = true := by unfold mulOk small; rw [decide_eq_true h, decide_eq_true h2]; simp
@[simp] theorem lt_ints {en : En} {m : Sto} {i j : Int} : cmpR .lt en m (.val (.int i)) (.val (.int j)) = some (decide (i < j)) := rfl
@[simp] theorem le_ints {en : En} {m : Sto} {i j : Int} : cmpR .le en m (.val (.int i)) (.val (.int j)) = some (decide (i ≤ j)) := rfl
@[simp] theorem gt_ints {en : En} {m : Sto} {i j : Int} : cmpR .gt en m (.val (.int i)) (.val (.int j)) = some (decide (j < i)) := rfl
@[simp] theorem ge_ints {en : En} {m : Sto} {i j : Int} : cmpR .ge en m (.val (.int i)) (.val (.int j)) = some (decide (j ≤ i)) := rfl
theorem eq_data {en : En} {m : Sto} {x y : RV} {a b : W} {d e : PyData} (hx : rvW en x = some a) (hy : rvW en y = some b) (ha : pd m DEEP a = some d) (hb : pd m DEEP b = some e) (sa : SeqAt.shaped d = true) (sb : SeqAt.shaped e = true) : cmpR .eq en m x y = some (PyData.eqv d e) := by
  unfold cmpR; simp only [hx, hy, ha, hb, sa, sb]; rfl
theorem ne_data {en : En} {m : Sto} {x y : RV} {a b : W} {d e : PyData} (hx : rvW en x = some a) (hy : rvW en y = some b) (ha : pd m DEEP a = some d) (hb : pd m DEEP b = some e) (sa : SeqAt.shaped d = true) (sb : SeqAt.shaped e = true) : cmpR .ne en m x y = some (!PyData.eqv d e) := by
  unfold cmpR; simp only [hx, hy, ha, hb, sa, sb]; rfl

/-! ### what is equal -/
mutual
def W.dat : Nat → W → Bool
  | _, .non => true
  | _, .int _ => true
  | _, .str s => PyData.strOk s
  | n + 1, .lst ws => W.dats n ws
  | n + 1, .tup ws => W.dats n ws
  | _, _ => false
def W.dats : Nat → List W → Bool
  | _, [] => true
  | n, w :: ws => W.dat n w && W.dats n ws
end
mutual
def W.toD : W → PyData
  | .non => .none
  | .int i => .int i
  | .str s => .str s
  | .lst ws => .list (W.toDs ws)
  | .tup ws => .tuple (W.toDs ws)
  | _ => .none
def W.toDs : List W → List PyData
  | [] => []
  | w :: ws => W.toD w :: W.toDs ws
end
mutual
theorem pd_dat {m : Sto} : ∀ (n : Nat) (w : W), W.dat n w = true → pd m n w = some (W.toD w)
  | n, .non, h => by cases n <;> rfl
  | n, .int i, h => by cases n <;> rfl
  | n, .str i, h => by cases n <;> rfl
  | n + 1, .lst ws, h => by
    simp only [W.dat] at h
    simp only [pd, pds_dat n ws h, Option.map_some, W.toD]
  | n + 1, .tup ws, h => by
    simp only [W.dat] at h
    simp only [pd, pds_dat n ws h, Option.map_some, W.toD]
  | n, .bl _, h => by cases n <;> simp [W.dat] at h
  | n, .scr _, h => by cases n <;> simp [W.dat] at h
  | n, .ref _, h => by cases n <;> simp [W.dat] at h
  | n, .raw _, h => by cases n <;> simp [W.dat] at h
  | n, .fn _, h => by cases n <;> simp [W.dat] at h
  | n, .exc _, h => by cases n <;> simp [W.dat] at h
  | 0, .lst _, h => by simp [W.dat] at h
  | 0, .tup _, h => by simp [W.dat] at h
theorem pds_dat {m : Sto} : ∀ (n : Nat) (ws : List W), W.dats n ws = true → pdAll (pd m n) ws = some (W.toDs ws)
  | n, [], h => rfl
  | n, w :: ws, h => by
    simp only [W.dats, Bool.and_eq_true] at h
    simp only [pdAll, pd_dat n w h.1, pds_dat n ws h.2, W.toDs]
end
mutual
theorem shaped_dat : ∀ (n : Nat) (w : W), W.dat n w = true → (W.toD w).canLay0 = true ∧ (W.toD w).depth ≤ n
  | n, .non, h => by simp [W.toD, PyData.canLay0, PyData.depth]
  | n, .int i, h => by simp [W.toD, PyData.canLay0, PyData.depth]
  | n, .str i, h => by
    have h : PyData.strOk i = true := by cases n <;> simpa [W.dat] using h
    simp [W.toD, PyData.canLay0, PyData.depth, h]
  | n + 1, .lst ws, h => by
    simp only [W.dat] at h
    have := shapeds_dat n ws h
    simp only [W.toD, PyData.canLay0, PyData.depth]
    exact ⟨this.1, by omega⟩
  | n + 1, .tup ws, h => by
    simp only [W.dat] at h
    have := shapeds_dat n ws h
    simp only [W.toD, PyData.canLay0, PyData.depth]
    exact ⟨this.1, by omega⟩
  | n, .bl _, h => by cases n <;> simp [W.dat] at h
  | n, .scr _, h => by cases n <;> simp [W.dat] at h
  | n, .ref _, h => by cases n <;> simp [W.dat] at h
  | n, .raw _, h => by cases n <;> simp [W.dat] at h
  | n, .fn _, h => by cases n <;> simp [W.dat] at h
  | n, .exc _, h => by cases n <;> simp [W.dat] at h
  | 0, .lst _, h => by simp [W.dat] at h
  | 0, .tup _, h => by simp [W.dat] at h
theorem shapeds_dat : ∀ (n : Nat) (ws : List W), W.dats n ws = true → PyData.canLayAll0 (W.toDs ws) = true ∧ PyData.depthAll (W.toDs ws) ≤ n
  | n, [], h => by simp [W.toDs, PyData.canLayAll0, PyData.depthAll]
  | n, w :: ws, h => by
    simp only [W.dats, Bool.and_eq_true] at h
    have h1 := shaped_dat n w h.1
    have h2 := shapeds_dat n ws h.2
    simp only [W.toDs, PyData.canLayAll0, PyData.depthAll, h1.1, h2.1, Bool.and_self, true_and]
    omega
end
mutual
theorem eqv_dat : ∀ (n k : Nat) (a b : W), W.dat n a = true → W.dat k b = true → PyData.eqv (W.toD a) (W.toD b) = W.same a b
  | n, k, .non, b, h, h2 => by cases k <;> cases b <;> simp_all [W.dat, W.toD, PyData.eqv, W.same]
  | n, k, .int i, b, h, h2 => by cases k <;> cases b <;> simp_all [W.dat, W.toD, PyData.eqv, W.same]
  | n, k, .str i, b, h, h2 => by cases k <;> cases b <;> simp_all [W.dat, W.toD, PyData.eqv, W.same]
  | n + 1, k, .lst ws, b, h, h2 => by
    cases b with
    | lst zs =>
      cases k with
      | zero => simp [W.dat] at h2
      | succ k =>
        simp only [W.dat] at h h2
        simp only [W.toD, PyData.eqv, W.same]
        exact eqvs_dat n k ws zs h h2
    | _ => cases k <;> simp_all [W.dat, W.toD, PyData.eqv, W.same]
  | n + 1, k, .tup ws, b, h, h2 => by
    cases b with
    | tup zs =>
      cases k with
      | zero => simp [W.dat] at h2
      | succ k =>
        simp only [W.dat] at h h2
        simp only [W.toD, PyData.eqv, W.same]
        exact eqvs_dat n k ws zs h h2
    | _ => cases k <;> simp_all [W.dat, W.toD, PyData.eqv, W.same]
  | n, k, .bl _, b, h, h2 => by cases n <;> simp [W.dat] at h
  | n, k, .scr _, b, h, h2 => by cases n <;> simp [W.dat] at h
  | n, k, .ref _, b, h, h2 => by cases n <;> simp [W.dat] at h
  | n, k, .raw _, b, h, h2 => by cases n <;> simp [W.dat] at h
  | n, k, .fn _, b, h, h2 => by cases n <;> simp [W.dat] at h
  | n, k, .exc _, b, h, h2 => by cases n <;> simp [W.dat] at h
  | 0, k, .lst _, b, h, h2 => by simp [W.dat] at h
  | 0, k, .tup _, b, h, h2 => by simp [W.dat] at h
theorem eqvs_dat : ∀ (n k : Nat) (a b : List W), W.dats n a = true → W.dats k b = true → PyData.eqvAll (W.toDs a) (W.toDs b) = W.sames a b
  | n, k, [], b, h, h2 => by cases b <;> simp [W.toDs, PyData.eqvAll, W.sames]
  | n, k, a :: as, b, h, h2 => by
    cases b with
    | nil => simp [W.toDs, PyData.eqvAll, W.sames]
    | cons b bs =>
      simp only [W.dats, Bool.and_eq_true] at h h2
      simp only [W.toDs, PyData.eqvAll, W.sames, eqv_dat n k a b h.1 h2.1, eqvs_dat n k as bs h.2 h2.2]
end
/-- a value as the comparison reads it: a list of the store as it stands -/
def rd (m : Sto) : W → W
  | .ref i => match m[i]? with
    | some (.lst ws) => .lst ws
    | _ => .ref i
  | w => w
theorem pd_rd {m : Sto} {n : Nat} {w : W} : pd m n (rd m w) = pd m n w := by
  cases w with
  | ref i =>
    cases q : m[i]? with
    | none => simp only [rd, q]
    | some b =>
      cases b with
      | lst ws => cases n with
        | zero => simp only [rd, q, pd]
        | succ n => simp only [rd, q, pd]
      | _ => simp only [rd, q]
  | _ => rfl
theorem eqR_dat {en : En} {m : Sto} {x y : RV} {a b : W} (hx : rvW en x = some a) (hy : rvW en y = some b) (ha : W.dat DEEP (rd m a) = true) (hb : W.dat DEEP (rd m b) = true) : cmpR .eq en m x y = some (W.same (rd m a) (rd m b)) := by
  have sh : ∀ {w}, W.dat DEEP w = true → SeqAt.shaped (W.toD w) = true := fun {w} h => by
    obtain ⟨h1, h2⟩ := shaped_dat DEEP w h
    unfold SeqAt.shaped
    rw [h1, decide_eq_true (Nat.le_trans h2 (by decide)), Bool.and_self]
  rw [eq_data hx hy (by rw [← pd_rd]; exact pd_dat _ _ ha) (by rw [← pd_rd]; exact pd_dat _ _ hb) (sh ha) (sh hb), eqv_dat _ _ _ _ ha hb]
theorem neR_dat {en : En} {m : Sto} {x y : RV} {a b : W} (hx : rvW en x = some a) (hy : rvW en y = some b) (ha : W.dat DEEP (rd m a) = true) (hb : W.dat DEEP (rd m b) = true) : cmpR .ne en m x y = some (!W.same (rd m a) (rd m b)) := by
  have sh : ∀ {w}, W.dat DEEP w = true → SeqAt.shaped (W.toD w) = true := fun {w} h => by
    obtain ⟨h1, h2⟩ := shaped_dat DEEP w h
    unfold SeqAt.shaped
    rw [h1, decide_eq_true (Nat.le_trans h2 (by decide)), Bool.and_self]
  rw [ne_data hx hy (by rw [← pd_rd]; exact pd_dat _ _ ha) (by rw [← pd_rd]; exact pd_dat _ _ hb) (sh ha) (sh hb), eqv_dat _ _ _ _ ha hb]
theorem dats_ints (n : Nat) : ∀ ns : List Int, W.dats n (ns.map W.int) = true
  | [] => by simp [W.dats]
  | i :: ns => by
    have : W.dat n (.int i) = true := by cases n <;> rfl
    simp [W.dats, this, dats_ints n ns]
@[simp] theorem sames_ints : ∀ (a b : List Int), W.sames (a.map W.int) (b.map W.int) = decide (a = b)
  | [], [] => by simp [W.sames]
  | [], _ :: _ => by simp [W.sames]
  | _ :: _, [] => by simp [W.sames]
  | x :: a, y :: b => by
    simp only [List.map_cons, W.sames, W.same, sames_ints a b]
    by_cases h1 : x = y <;> by_cases h2 : a = b <;> simp [h1, h2]
@[simp] theorem eq_ints {en : En} {m : Sto} {i j : Int} : cmpR .eq en m (.val (.int i)) (.val (.int j)) = some (decide (i = j)) := by
  rw [eqR_dat rfl rfl rfl rfl]
  show some (i == j) = _
  by_cases h : i = j <;> simp [h]
@[simp] theorem ne_ints {en : En} {m : Sto} {i j : Int} : cmpR .ne en m (.val (.int i)) (.val (.int j)) = some (decide (i ≠ j)) := by
  rw [neR_dat rfl rfl rfl rfl]
  show some (!(i == j)) = _
  by_cases h : i = j <;> simp [h]
/-- lists of ints, wherever they lie -/
theorem eq_lists {en : En} {m : Sto} {x y : RV} {a b : W} {ns ms : List Int} (hx : rvW en x = some a) (hy : rvW en y = some b) (ha : rd m a = .lst (ns.map W.int)) (hb : rd m b = .lst (ms.map W.int)) : cmpR .eq en m x y = some (decide (ns = ms)) := by
  rw [eqR_dat hx hy (by rw [ha]; exact dats_ints _ _) (by rw [hb]; exact dats_ints _ _), ha, hb]
  simp only [W.same, sames_ints]
theorem ne_lists {en : En} {m : Sto} {x y : RV} {a b : W} {ns ms : List Int} (hx : rvW en x = some a) (hy : rvW en y = some b) (ha : rd m a = .lst (ns.map W.int)) (hb : rd m b = .lst (ms.map W.int)) : cmpR .ne en m x y = some (decide (ns ≠ ms)) := by
  rw [neR_dat hx hy (by rw [ha]; exact dats_ints _ _) (by rw [hb]; exact dats_ints _ _), ha, hb]
  simp only [W.same, sames_ints, decide_not]

/-! ### calls -/
theorem call_at {fs : List Fd} {gl : List W} {N k f : Nat} {d : Fd} {ws : List W} {m : Sto} (h : fs[f]? = some d) (hn : ws.length = d.np) :
    callN fs gl N (k + 1) f ws m = endR (sv (callN fs gl N k) gl N d.body (ws.map (fun w => some (.val w)) ++ List.replicate (d.nn - ws.length) none) m) := by
  show (match fs[f]? with
    | some d => if ws.length = d.np then runB (callN fs gl N k) gl N d ws m else .bad
    | none => .bad) = _
  rw [h]
  dsimp only
  rw [if_pos hn]
  rfl
theorem get_set {m : Sto} {r : Nat} {o b : Ob} (h : m[r]? = some o) : (m.set r b)[r]? = some b := by
  have := (List.getElem?_eq_some_iff.mp h).1
  rw [List.getElem?_set_self this]

@[simp] theorem val_val {w : W} : val? (.val w) = some w := rfl
theorem at_ok {A : Type} {xs : List A} {i : Int} {v : A} (h0 : 0 ≤ i) (h : xs[i.toNat]? = some v) : atI xs i = some v := by
  have := atI_nat h
  rwa [Int.toNat_of_nonneg h0] at this
@[simp] theorem at_0 {A : Type} {x : A} {xs : List A} : atI (x :: xs) 0 = some x := at_ok (by decide) rfl
@[simp] theorem at_1 {A : Type} {x y : A} {xs : List A} : atI (x :: y :: xs) 1 = some y := at_ok (by decide) rfl
@[simp] theorem at_2 {A : Type} {x y z : A} {xs : List A} : atI (x :: y :: z :: xs) 2 = some z := at_ok (by decide) rfl
@[simp] theorem at_3 {A : Type} {x y z u : A} {xs : List A} : atI (x :: y :: z :: u :: xs) 3 = some u := at_ok (by decide) rfl
@[simp] theorem at_4 {A : Type} {x y z u v : A} {xs : List A} : atI (x :: y :: z :: u :: v :: xs) 4 = some v := at_ok (by decide) rfl
@[simp] theorem idx_lst {en : En} {m : Sto} {ws : List W} {i : Int} : idxR en m (.val (.lst ws)) (.val (.int i)) = atI ws i := rfl
@[simp] theorem idx_tup {en : En} {m : Sto} {ws : List W} {i : Int} : idxR en m (.val (.tup ws)) (.val (.int i)) = atI ws i := rfl
@[simp] theorem idx_scr {en : En} {m : Sto} {ws : List W} {i : Int} : idxR en m (.val (.scr ws)) (.val (.int i)) = atI ws i := rfl
theorem idx_ref {en : En} {m : Sto} {ws : List W} {r : Nat} {i : Int} (h : m[r]? = some (.lst ws)) : idxR en m (.val (.ref r)) (.val (.int i)) = atI ws i := by
  show (seqW m (.ref r)).bind _ = _
  unfold seqW lstS
  simp only [lstW_ref h, Option.bind_some]
theorem idx_own {en : En} {m : Sto} {ws : List W} {j : Nat} {i : Int} (h : enGet en j = some (.own ws)) : idxR en m (.bor j) (.val (.int i)) = atI ws i := by
  unfold idxR
  simp only [rvW_bor, h, Option.map_some, slW_own, rvW_val]
  rfl
theorem set_ref {en : En} {m : Sto} {ws : List W} {r k : Nat} {i : Int} {v : W} (h : m[r]? = some (.lst ws)) (hk : ixN ws.length i = some k) : setAt en m (.val (.ref r)) (.int i) v = some (en, m.set r (.lst (ws.set k v))) := by
  unfold setAt
  simp only [h, hk, Option.map_some]
theorem set_own {en : En} {m : Sto} {ws : List W} {j k : Nat} {i : Int} {v : W} (h : enGet en j = some (.own ws)) (hk : ixN ws.length i = some k) : setAt en m (.bor j) (.int i) v = some (en.set j (some (.own (ws.set k v))), m) := by
  unfold setAt
  simp only [h, hk, Option.map_some]
theorem app_ref {en : En} {m : Sto} {ws : List W} {r : Nat} {v : W} (h : m[r]? = some (.lst ws)) (hl : ws.length < LIM) : appTo en m (.val (.ref r)) v = some (en, m.set r (.lst (ws ++ [v]))) := by
  unfold appTo
  simp only [h, if_pos hl]
theorem app_own {en : En} {m : Sto} {ws : List W} {j : Nat} {v : W} (h : enGet en j = some (.own ws)) (hl : ws.length < LIM) : appTo en m (.bor j) v = some (en.set j (some (.own (ws ++ [v]))), m) := by
  unfold appTo
  simp only [h, if_pos hl]
@[simp] theorem ix_0 {n : Nat} : ixN (n + 1) 0 = some 0 := by unfold ixN; rw [if_pos (by decide), if_pos (by omega)]; rfl
@[simp] theorem end_nx {en : En} {m : Sto} : endR (.ok .nx en m) = .ok (.val .non) m := rfl
@[simp] theorem end_rt {r : RV} {en : En} {m : Sto} : endR (.ok (.rt r) en m) = .ok r m := rfl
/-! ### loops, turn by turn -/
section
variable (cs : Nat → List W → Sto → CR) (gl : List W) (N : Nat)
def wl (c : E) (b : S) (n : Nat) (en : En) (m : Sto) : R Out := whileL (fun en m => (ev cs gl c en m).bind fun x en m => opt (blR x) fun t => .ok t en m) (fun en m => sv cs gl N b en m) n en m
def thn (o : R Out) (f : En → Sto → R Out) (_ : Pin f := ⟨⟩) : R Out := o.bind fun o en m => match o with
  | .nx => f en m
  | .rt r => .ok (.rt r) en m
def fl (tg : Tg) (b : S) (ck : List (Nat × List W)) (zs : List W) (en : En) (m : Sto) : R Out := forL (chk ck) (fun w en m => opt (bindT tg w m en) fun en => sv cs gl N b en m) zs en m
def cl (tg : Tg) (js : List Nat) (c elt : E) (ck : List (Nat × List W)) (zs : List W) (en : En) (m : Sto) : R (List W) :=
  compL (chk ck) (compF tg js (isNil c) (fun en m => ev cs gl c en m) (fun en m => ev cs gl elt en m)) zs en m
end
section
variable {cs : Nat → List W → Sto → CR} {gl : List W} {N : Nat} {en en2 : En} {m m2 : Sto}
@[simp] theorem thn_nx {f : En → Sto → R Out} {h : Pin f} : thn (.ok .nx en m) f h = f en m := rfl
@[simp] theorem thn_rt {r : RV} {f : En → Sto → R Out} {h : Pin f} : thn (.ok (.rt r) en m) f h = .ok (.rt r) en m := rfl
@[simp] theorem sv_seq {s t : S} : sv cs gl N (.seq s t) en m = thn (sv cs gl N s en m) (sv cs gl N t) := by
  simp only [sv]
  rfl
@[simp] theorem sv_whl {c : E} {b : S} : sv cs gl N (.whl c b) en m = wl cs gl N c b N en m := rfl
theorem wl_succ {c : E} {b : S} {n : Nat} : wl cs gl N c b (n + 1) en m = (ev cs gl c en m).bind fun x en m => opt (blR x) fun t => if t then thn (sv cs gl N b en m) (wl cs gl N c b n) else .ok .nx en m := by
  show ((ev cs gl c en m).bind fun x en m => Mp.opt (blR x) fun t => (R.ok t en m : R Bool)).bind _ = _
  rw [bind_tst]
  rfl
theorem wl_stop {c : E} {b : S} {n : Nat} (hn : 0 < n) (h : ev cs gl c en m = .ok (.val (.bl false)) en m) : wl cs gl N c b n en m = .ok .nx en m := by
  obtain ⟨n, rfl⟩ : ∃ k, n = k + 1 := ⟨n - 1, by omega⟩
  rw [wl_succ, h]; rfl
theorem wl_go {c : E} {b : S} {n : Nat} (h : ev cs gl c en m = .ok (.val (.bl true)) en m) (h2 : sv cs gl N b en m = .ok .nx en2 m2) : wl cs gl N c b (n + 1) en m = wl cs gl N c b n en2 m2 := by
  rw [wl_succ, h]
  show thn (sv cs gl N b en m) _ = _
  rw [h2]; rfl
theorem wl_ret {c : E} {b : S} {n : Nat} {r : RV} (hn : 0 < n) (h : ev cs gl c en m = .ok (.val (.bl true)) en m) (h2 : sv cs gl N b en m = .ok (.rt r) en2 m2) : wl cs gl N c b n en m = .ok (.rt r) en2 m2 := by
  obtain ⟨n, rfl⟩ : ∃ k, n = k + 1 := ⟨n - 1, by omega⟩
  rw [wl_succ, h]
  show thn (sv cs gl N b en m) _ = _
  rw [h2]; rfl
@[simp] theorem sv_for {it : It} {src : E} {tg : Tg} {b : S} : sv cs gl N (.for_ it src tg b) en m = bnd (evs cs gl src en m) fun ws en m => opt2p (itemsR it m ws) fun zs ck => fl cs gl N tg b ck zs en m := rfl
theorem fl_nil {tg : Tg} {b : S} {ck : List (Nat × List W)} (h : chk ck m = true) : fl cs gl N tg b ck [] en m = .ok .nx en m := by
  unfold fl forL
  rw [if_pos h]
theorem fl_cons {tg : Tg} {b : S} {ck : List (Nat × List W)} {z : W} {zs : List W} (h : chk ck m = true) : fl cs gl N tg b ck (z :: zs) en m = thn (optp (bindT tg z m en) fun en => sv cs gl N b en m) (fl cs gl N tg b ck zs) := by
  show forL _ _ _ _ _ = _
  unfold forL
  rw [if_pos h]
  rfl
@[simp] theorem chk_nil : chk [] m = true := rfl
@[simp] theorem ev_comp {it : It} {src c elt : E} {tg : Tg} {js : List Nat} : ev cs gl (.comp it src tg js c elt) en m = bnd (evs cs gl src en m) fun ws en m => opt2p (itemsR it m ws) fun zs ck =>
    if zs.length ≤ LIM then bnd (cl cs gl tg js c elt ck zs (wipeE (frzE en js) js) m) fun r en2 m => .ok (.new r) (restE (frzE en js) en2 js) m else .bad := by
  simp only [ev]; rfl
theorem cl_nil {tg : Tg} {js : List Nat} {c elt : E} {ck : List (Nat × List W)} (h : chk ck m = true) : cl cs gl tg js c elt ck [] en m = .ok [] en m := by
  unfold cl compL
  rw [if_pos h]
/-- a turn that keeps its item, and one that does not -/
theorem cl_keep {tg : Tg} {js : List Nat} {c elt : E} {ck : List (Nat × List W)} {z w : W} {zs : List W} {x : RV} {en3 en4 en5 : En} {m3 m4 : Sto} (h : chk ck m = true) (hb : bindT tg z m en = some en2)
    (hc : if isNil c then en3 = en2 ∧ m3 = m else ev cs gl c en2 m = .ok (.val (.bl true)) en3 m3) (he : ev cs gl elt en3 m3 = .ok x en4 m4) (hx : esc x en4 = some (w, en5)) :
    cl cs gl tg js c elt ck (z :: zs) en m = (cl cs gl tg js c elt ck zs (wipeE en5 js) m4).bind fun r en m => .ok (w :: r) en m := by
  show compL _ _ _ _ _ = _
  unfold compL
  rw [if_pos h]
  have e : compF tg js (isNil c) (fun en m => ev cs gl c en m) (fun en m => ev cs gl elt en m) z en m = .ok (some w) (wipeE en5 js) m4 := by
    unfold compF
    rw [hb]
    cases q : isNil c with
    | true =>
      rw [q] at hc
      obtain ⟨rfl, rfl⟩ := hc
      simp only [opt_someR, ↓reduceIte, bind_okR, he, hx, opt2_someR]
    | false =>
      rw [q] at hc
      have hc : ev cs gl c en2 m = .ok (.val (.bl true)) en3 m3 := hc
      simp only [opt_someR, Bool.false_eq_true, ↓reduceIte, hc, bind_okR, blR_bl, he, hx, opt2_someR]
  rw [e]; rfl
theorem cl_drop {tg : Tg} {js : List Nat} {c elt : E} {ck : List (Nat × List W)} {z : W} {zs : List W} {en3 : En} {m3 : Sto} (h : chk ck m = true) (hb : bindT tg z m en = some en2)
    (hn : isNil c = false) (hc : ev cs gl c en2 m = .ok (.val (.bl false)) en3 m3) : cl cs gl tg js c elt ck (z :: zs) en m = cl cs gl tg js c elt ck zs (wipeE en3 js) m3 := by
  show compL _ _ _ _ _ = _
  unfold compL
  rw [if_pos h]
  have e : compF tg js (isNil c) (fun en m => ev cs gl c en m) (fun en m => ev cs gl elt en m) z en m = .ok none (wipeE en3 js) m3 := by
    unfold compF
    rw [hb, hn]
    simp only [opt_someR, Bool.false_eq_true, ↓reduceIte, hc, bind_okR, blR_bl]
  rw [e]
  show ((R.ok none (wipeE en3 js) m3 : R (Option W)).noex.bind _) = _
  show (compL _ _ zs _ _).bind _ = _
  unfold cl
  cases compL (chk ck) (compF tg js (isNil c) (fun en m => ev cs gl c en m) (fun en m => ev cs gl elt en m)) zs (wipeE en3 js) m3 <;> rfl
/-- a comprehension whose turns leave all as it is: by a function -/
theorem cl_map {tg : Tg} {js : List Nat} {c elt : E} {ck : List (Nat × List W)} (p : W → Bool) (f : W → W) : ∀ {zs : List W}, chk ck m = true → (∀ z ∈ zs, ∃ en2, bindT tg z m en = some en2 ∧ wipeE en2 js = en ∧
      (if isNil c then p z = true else ev cs gl c en2 m = .ok (.val (.bl (p z))) en2 m) ∧ (p z = true → ev cs gl elt en2 m = .ok (.val (f z)) en2 m)) →
    cl cs gl tg js c elt ck zs en m = .ok ((zs.filter p).map f) en m
  | [], h, _ => cl_nil h
  | z :: zs, h, q => by
    obtain ⟨en2, q1, q2, q3, q4⟩ := q z List.mem_cons_self
    have ih := cl_map (tg := tg) (js := js) (c := c) (elt := elt) (ck := ck) p f (zs := zs) h fun y hy => q y (List.mem_cons_of_mem _ hy)
    cases hp : p z with
    | true =>
      rw [cl_keep h q1 (en3 := en2) (m3 := m) (by
        split
        · exact ⟨rfl, rfl⟩
        · rename_i hn
          rw [if_neg hn, hp] at q3; exact q3) (q4 hp) rfl, q2, ih, List.filter_cons_of_pos hp]
      rfl
    | false =>
      cases hn : isNil c with
      | true => rw [hn, if_pos rfl, hp] at q3; cases q3
      | false =>
        rw [hn, if_neg Bool.false_ne_true, hp] at q3
        rw [cl_drop h q1 hn q3, q2, ih, List.filter_cons_of_neg (by rw [hp]; exact Bool.false_ne_true)]
end

/-! ### one step each -/
section
variable {cs : Nat → List W → Sto → CR} {gl : List W} {N : Nat} {en : En} {m : Sto}
@[simp] theorem ev_var {j : Nat} : ev cs gl (.var j) en m = match enGet en j with
    | some (.val w) => .ok (.val w) en m
    | some (.own _) => .ok (.bor j) en m
    | none => .bad := by
  simp only [ev] <;> (cases enGet en j with
  | none => rfl
  | some s => cases s <;> rfl)
@[simp] theorem ev_int {i : Int} : ev cs gl (.int i) en m = .ok (.val (.int i)) en m := by simp only [ev]
@[simp] theorem ev_bl {i : Bool} : ev cs gl (.bl i) en m = .ok (.val (.bl i)) en m := by simp only [ev]
@[simp] theorem ev_non : ev cs gl .non en m = .ok (.val .non) en m := by simp only [ev]
@[simp] theorem ev_str {s : Str} : ev cs gl (.str s) en m = .ok (.val (.str s)) en m := by simp only [ev]
@[simp] theorem ev_glob {g : Nat} : ev cs gl (.glob g) en m = optp gl[g]? fun w => .ok (.val w) en m := by simp only [ev]; rfl
@[simp] theorem ev_bin {op : Op} {a b : E} : ev cs gl (.bin op a b) en m = bnd (ev cs gl a en m) fun x en m => bnd (ev cs gl b en m) fun y en m => optp (binR op en m (hold x) (hold y)) fun r => .ok r en m := by simp only [ev]; rfl
@[simp] theorem ev_neg {a : E} : ev cs gl (.neg a) en m = bnd (ev cs gl a en m) fun x en m => optp (intR x) fun i => .ok (.val (.int (-i))) en m := by simp only [ev]; rfl
@[simp] theorem ev_cmp {op : Cm} {a b : E} : ev cs gl (.cmp op a b) en m = bnd (ev cs gl a en m) fun x en m => bnd (ev cs gl b en m) fun y en m => optp (cmpR op en m (hold x) (hold y)) fun r => .ok (.val (.bl r)) en m := by simp only [ev]; rfl
@[simp] theorem ev_chain {op op2 : Cm} {a b c : E} : ev cs gl (.chain op op2 a b c) en m = bnd (ev cs gl a en m) fun x en m => bnd (ev cs gl b en m) fun y en m => optp (cmpR op en m (hold x) (hold y)) fun r =>
      if r then bnd (ev cs gl c en m) fun z en m => optp (cmpR op2 en m (hold y) (hold z)) fun r => .ok (.val (.bl r)) en m else .ok (.val (.bl false)) en m := by simp only [ev]; rfl
@[simp] theorem ev_not {a : E} : ev cs gl (.not a) en m = bnd (ev cs gl a en m) fun x en m => optp (blR x) fun b => .ok (.val (.bl (!b))) en m := by simp only [ev]; rfl
@[simp] theorem ev_ite {c a b : E} : ev cs gl (.ite c a b) en m = bnd (ev cs gl c en m) fun x en m => optp (blR x) fun t => if t then ev cs gl a en m else ev cs gl b en m := by simp only [ev]; rfl
@[simp] theorem ev_lst {es : E} : ev cs gl (.lst es) en m = bnd (evs cs gl es en m) fun ws en m => if ws.length ≤ LIM then .ok (.new ws) en m else .bad := by simp only [ev]; rfl
@[simp] theorem ev_tup {es : E} : ev cs gl (.tup es) en m = bnd (evs cs gl es en m) fun ws en m => if ws.length ≤ LIM then .ok (.val (.tup ws)) en m else .bad := by simp only [ev]; rfl
@[simp] theorem ev_idx {a i : E} : ev cs gl (.idx a i) en m = bnd (ev cs gl a en m) fun x en m => bnd (ev cs gl i en m) fun y en m => optp (idxR en m (hold x) (hold y)) fun w => .ok (.val w) en m := by simp only [ev]; rfl
@[simp] theorem ev_call {f n : Nat} {es : E} : ev cs gl (.call f n es) en m = bnd (evs cs gl es en m) fun ws en m => if ws.length = n then (cs f ws m).toR en else .bad := by simp only [ev]; rfl
@[simp] theorem ev_blt {b : Bi} {es : E} : ev cs gl (.blt b es) en m = bnd (evl cs gl es en m) fun ws en m => optp (bltR b m ws) fun r => .ok r en m := by simp only [ev]; rfl
@[simp] theorem ev_and {es : E} : ev cs gl (.and es) en m = evAnd cs gl es en m := by simp only [ev]
@[simp] theorem ev_or {es : E} : ev cs gl (.or es) en m = evOr cs gl es en m := by simp only [ev]
@[simp] theorem evAnd_1 {a : E} : evAnd cs gl (.cons a .nil) en m = ev cs gl a en m := by simp only [evAnd]
@[simp] theorem evAnd_2 {a b c : E} : evAnd cs gl (.cons a (.cons b c)) en m = bnd (ev cs gl a en m) fun x en m => optp (blR x) fun t => if t then evAnd cs gl (.cons b c) en m else .ok (.val (.bl false)) en m := by simp only [evAnd]; rfl
@[simp] theorem evOr_1 {a : E} : evOr cs gl (.cons a .nil) en m = ev cs gl a en m := by simp only [evOr]
@[simp] theorem evOr_2 {a b c : E} : evOr cs gl (.cons a (.cons b c)) en m = bnd (ev cs gl a en m) fun x en m => optp (blR x) fun t => if t then .ok (.val (.bl true)) en m else evOr cs gl (.cons b c) en m := by simp only [evOr]; rfl
@[simp] theorem evs_nil : evs cs gl .nil en m = .ok [] en m := by simp only [evs]
@[simp] theorem evs_cons {e es : E} : evs cs gl (.cons e es) en m = bnd (ev cs gl e en m) fun x en m => opt2p (esc x en) fun w en => bnd (evs cs gl es en m) fun ws en m => .ok (w :: ws) en m := by simp only [evs]; rfl
@[simp] theorem evl_1 {e : E} : evl cs gl (.cons e .nil) en m = bnd (ev cs gl e en m) fun x en m => optp (rvW en x) fun w => .ok [w] en m := by simp only [evl]; rfl
@[simp] theorem evl_2 {e a es : E} : evl cs gl (.cons e (.cons a es)) en m = bnd (ev cs gl e en m) fun x en m => opt2p (esc x en) fun w en => bnd (evs cs gl (.cons a es) en m) fun ws en m => .ok (w :: ws) en m := by simp only [evl]; rfl
@[simp] theorem ev_box {a : E} : ev cs gl (.box a) en m = bnd (ev cs gl a en m) boxP := by simp only [ev]; rfl
@[simp] theorem ev_isi {a : E} {ts : List Ty} : ev cs gl (.isi a ts) en m = bnd (ev cs gl a en m) fun x en m => optp (rvW en x) fun w => optp (tyR m w) fun t => .ok (.val (.bl (ts.any (isT t)))) en m := by simp only [ev]; rfl
@[simp] theorem sv_skip : sv cs gl N .skip en m = .ok .nx en m := by simp only [sv]
@[simp] theorem sv_asg {j : Nat} {e : E} : sv cs gl N (.asg j e) en m = bnd (ev cs gl e en m) fun x en m => opt2p (slOf x en) fun s en => .ok .nx (en.set j (some s)) m := by simp only [sv]; rfl
@[simp] theorem sv_unp {tg : Tg} {e : E} : sv cs gl N (.unp tg e) en m = bnd (ev cs gl e en m) fun x en m => opt2p (esc x en) fun w en => optp (bindT tg w m en) fun en => .ok .nx en m := by simp only [sv]; rfl
@[simp] theorem sv_seti {a i e : E} : sv cs gl N (.seti a i e) en m = bnd (ev cs gl e en m) fun x en m => opt2p (esc x en) fun w en => bnd (ev cs gl a en m) fun o en m => bnd (ev cs gl i en m) fun y en m =>
      optp (val? y) fun i => opt2p (setAt en m (hold o) i w) fun en m => .ok .nx en m := by simp only [sv]; rfl
@[simp] theorem sv_app {a e : E} : sv cs gl N (.app a e) en m = bnd (ev cs gl a en m) fun o en m => optp (rvL en m (hold o)) fun _ => bnd (ev cs gl e en m) fun x en m => opt2p (esc x en) fun w en => opt2p (appTo en m (hold o) w) fun en m => .ok .nx en m := by simp only [sv]; rfl
@[simp] theorem sv_ex {e : E} : sv cs gl N (.ex e) en m = bnd (ev cs gl e en m) fun _ en m => .ok .nx en m := by simp only [sv]; rfl
@[simp] theorem sv_ret {e : E} : sv cs gl N (.ret e) en m = bnd (ev cs gl e en m) fun x en m => optp (retR x en) fun r => .ok (.rt r) en m := by simp only [sv]; rfl
@[simp] theorem sv_retn : sv cs gl N .retn en m = .ok (.rt (.val .non)) en m := by simp only [sv]
@[simp] theorem sv_iff {c : E} {s t : S} : sv cs gl N (.iff c s t) en m = bnd (ev cs gl c en m) fun x en m => optp (blR x) fun b => if b then sv cs gl N s en m else sv cs gl N t en m := by simp only [sv]; rfl
@[simp] theorem sv_never : sv cs gl N .never en m = .bad := by simp only [sv]
end

inductive All2 {A B : Type} (Q : A → B → Prop) : List A → List B → Prop
  | nil : All2 Q [] []
  | cons {a : A} {b : B} {as : List A} {bs : List B} : Q a b → All2 Q as bs → All2 Q (a :: as) (b :: bs)
theorem All2.len {A B : Type} {Q : A → B → Prop} : ∀ {as : List A} {bs : List B}, All2 Q as bs → as.length = bs.length
  | _, _, .nil => rfl
  | _, _, .cons _ l => by rw [List.length_cons, List.length_cons, l.len]
section
variable {cs : Nat → List W → Sto → CR} {gl : List W} {N : Nat} {en : En} {m : Sto}
/-- a comprehension without a test whose turns may change the store -/
theorem cl_each {tg : Tg} {js : List Nat} {elt : E} (I : Sto → Prop) (Q : W → W → Prop) : ∀ {zs : List W} {m : Sto}, I m →
    (∀ z ∈ zs, ∀ m, I m → ∃ en2 x en3 m2 w en4, bindT tg z m en = some en2 ∧ ev cs gl elt en2 m = .ok x en3 m2 ∧ esc x en3 = some (w, en4) ∧ wipeE en4 js = en ∧ I m2 ∧ Q z w) →
    ∃ rs m2, cl cs gl tg js .nil elt [] zs en m = .ok rs en m2 ∧ I m2 ∧ All2 Q zs rs
  | [], m, h, _ => ⟨[], m, cl_nil rfl, h, .nil⟩
  | z :: zs, m, h, q => by
    obtain ⟨en2, x, en3, m2, w, en4, q1, q2, q3, q4, q5, q6⟩ := q z List.mem_cons_self m h
    obtain ⟨rs, m3, r1, r2, r3⟩ := cl_each (tg := tg) (js := js) (elt := elt) I Q q5 fun y hy => q y (List.mem_cons_of_mem _ hy)
    refine ⟨w :: rs, m3, ?_, r2, .cons q6 r3⟩
    rw [cl_keep rfl q1 (en3 := en2) (m3 := m) (by simp [isNil]) q2 q3, q4, r1]
    rfl
/-- a loop whose turns all go on -/
theorem fl_each {tg : Tg} {b : S} (I : En → Sto → Prop) : ∀ {zs : List W} {en : En} {m : Sto}, I en m →
    (∀ z ∈ zs, ∀ en m, I en m → ∃ en2 en3 m3, bindT tg z m en = some en2 ∧ sv cs gl N b en2 m = .ok .nx en3 m3 ∧ I en3 m3) → ∃ en2 m2, fl cs gl N tg b [] zs en m = .ok .nx en2 m2 ∧ I en2 m2
  | [], en, m, h, _ => ⟨en, m, fl_nil rfl, h⟩
  | z :: zs, en, m, h, q => by
    obtain ⟨en2, en3, m3, q1, q2, q3⟩ := q z List.mem_cons_self en m h
    obtain ⟨en4, m4, r1, r2⟩ := fl_each (tg := tg) (b := b) I q3 fun y hy => q y (List.mem_cons_of_mem _ hy)
    refine ⟨en4, m4, ?_, r2⟩
    rw [fl_cons rfl, q1, optp_some, q2]
    exact r1
theorem set_set {r : Nat} {a b : Ob} : (m.set r a).set r b = m.set r b := List.set_set ..
theorem lt_of_get {r : Nat} {a : Ob} (h : m[r]? = some a) : r < m.length := (List.getElem?_eq_some_iff.mp h).1
end
section
variable {fs : List Fd} {gl : List W} {N k f : Nat} {m : Sto}
/-- a digit off the deck -/
theorem take_run {r : Nat} {d n : Int} (hf : fs[f]? = some ⟨2, 3, b_law_take⟩) (hm : m[r]? = some (.lst [.int d])) (hn : 0 < n) (hb : n < BIG) :
    callN fs gl N (k + 1) f [.ref r, .int n] m = .ok (.val (.int (d % n))) (m.set r (.lst [.int (d / n)])) := by
  rw [call_at hf rfl]
  simp [b_law_take, idx_ref hm, mod_ints hn, fdiv_ints ⟨hn, hb⟩, set_ref hm]
end
end Mp

set_option Elab.async false
set_option linter.all false
namespace Mp
end Mp

set_option Elab.async false
set_option linter.all false
namespace Mp
/-- 0:table 1:many 2:p -/
def b_first_sums_v1 (c_need_prime c_need_table c_sums_by g_MOST_SUMS x_NoNumber : Nat) : S := (.seq (.ex (.call c_need_prime 1 (.cons (.var 2) .nil)))
  (.seq (.ex (.call c_need_table 2 (.cons (.var 0) (.cons (.var 2) .nil))))
  (.seq (.iff (.not (.chain .le .le (.int 0) (.var 1) (.glob g_MOST_SUMS))) (.seq (.raise x_NoNumber)
  .skip) .skip)
  (.seq (.ret (.call c_sums_by 3 (.cons (.var 0) (.cons (.var 1) (.cons (.var 2) .nil)))))
  .skip))))
/-- 0:a 1:p -/
def b_inverse_by_v1 (c_need_prime c_power_by x_NoNumber : Nat) : S := (.seq (.ex (.call c_need_prime 1 (.cons (.var 1) .nil)))
  (.seq (.iff (.cmp .eq (.bin .mod (.var 0) (.var 1)) (.int 0)) (.seq (.raise x_NoNumber)
  .skip) .skip)
  (.seq (.ret (.call c_power_by 3 (.cons (.var 0) (.cons (.bin .sub (.var 1) (.int 2)) (.cons (.var 1) .nil)))))
  .skip)))
/-- 0:way 1:thing 2:number 3:p 4:caught 5:e 6:kinds -/
def b_law_said (c_first_sums : Nat) (c_sum_number : Nat) (c_sums_behind : Nat) (xs_CopyError : List Nat) (xt_NoForm_NoLetter_NoMend_NoPrime_NoRun_NoSums_NoText : List Bool) (xt_NoNumber : List Bool) (xt_NoPlace : List Bool) (xt_NoTable : List Bool) (xt_ValueError : List Bool) : S := (.seq (.asg 4 .non)
  (.seq (.tryx (.seq (.iff (.cmp .eq (.var 0) (.int 0)) (.seq (.ex (.call c_sum_number 3 (.cons (.var 1) (.cons (.var 2) (.cons (.var 3) .nil)))))
  .skip) (.seq (.iff (.cmp .eq (.var 0) (.int 1)) (.seq (.ex (.call c_first_sums 3 (.cons (.var 1) (.cons (.var 2) (.cons (.var 3) .nil)))))
  .skip) (.seq (.ex (.call c_sums_behind 5 (.cons (.var 1) (.cons (.var 2) (.cons (.int 1) (.cons (.int 2) (.cons (.var 3) .nil)))))))
  .skip))
  .skip))
  .skip) xs_CopyError 5 (.seq (.asg 4 (.var 5))
  .skip))
  (.seq (.iff (.cmp .is (.var 4) .non) (.seq (.ret (.str "told"))
  .skip) .skip)
  (.seq (.iff (.isx (.var 4) xt_NoForm_NoLetter_NoMend_NoPrime_NoRun_NoSums_NoText) (.seq (.ret (.str "other"))
  .skip) .skip)
  (.seq (.asg 6 (.lst (.cons (.isx (.var 4) xt_NoTable) (.cons (.isx (.var 4) xt_NoNumber) (.cons (.isx (.var 4) xt_NoPlace) .nil)))))
  (.seq (.iff (.or (.cons (.not (.isx (.var 4) xt_ValueError)) (.cons (.cmp .ne (.mth .count (.var 6) (.cons (.bl true) .nil)) (.int 1)) .nil))) (.seq (.ret (.str "other"))
  .skip) .skip)
  (.seq (.ret (.idx (.lst (.cons (.str "NoTable") (.cons (.str "NoNumber") (.cons (.str "NoPlace") .nil)))) (.mth .index (.var 6) (.cons (.bl true) .nil))))
  .skip)))))))
/-- 0:p -/
def b_need_prime_v1 (c_is_prime x_NoPrime : Nat) : S := (.seq (.iff (.not (.call c_is_prime 1 (.cons (.var 0) .nil))) (.seq (.raise x_NoPrime)
  .skip) .skip)
  .skip)
/-- 0:table 1:p 2:worth -/
def b_need_table_v1 (x_NoTable : Nat) : S := (.seq (.iff (.or (.cons (.not (.chain .le .lt (.int 1) (.blt .len (.cons (.var 0) .nil)) (.var 1))) (.cons (.cmp .ne (.comp .list (.cons (.var 0) .nil) (.one 2) [2] (.not (.chain .le .lt (.int 0) (.var 2) (.var 1))) (.var 2)) (.lst .nil)) .nil))) (.seq (.raise x_NoTable)
  .skip) .skip)
  .skip)
/-- 0:table 1:j 2:p -/
def b_sum_number_v1 (c_need_prime c_need_table c_sum_by g_MOST_NUMBER x_NoNumber : Nat) : S := (.seq (.ex (.call c_need_prime 1 (.cons (.var 2) .nil)))
  (.seq (.ex (.call c_need_table 2 (.cons (.var 0) (.cons (.var 2) .nil))))
  (.seq (.iff (.not (.chain .le .le (.int 0) (.var 1) (.glob g_MOST_NUMBER))) (.seq (.raise x_NoNumber)
  .skip) .skip)
  (.seq (.ret (.call c_sum_by 3 (.cons (.var 0) (.cons (.var 1) (.cons (.var 2) .nil)))))
  .skip))))
/-- 0:sums 1:place 2:old 3:new 4:p 5:j 6:one -/
def b_sums_behind_v1 (c_need_prime c_power_by x_NoPlace : Nat) : S := (.seq (.ex (.call c_need_prime 1 (.cons (.var 4) .nil)))
  (.seq (.iff (.not (.chain .le .lt (.int 0) (.var 1) (.bin .sub (.var 4) (.int 1)))) (.seq (.raise x_NoPlace)
  .skip) .skip)
  (.seq (.ret (.comp .enum (.cons (.var 0) .nil) (.many [5, 6]) [5, 6] .nil (.bin .mod (.bin .add (.var 6) (.bin .mul (.bin .sub (.var 3) (.var 2)) (.call c_power_by 3 (.cons (.bin .add (.var 1) (.int 1)) (.cons (.var 5) (.cons (.var 4) .nil)))))) (.var 4))))
  .skip)))
end Mp

set_option Elab.async false
set_option linter.all false
set_option maxRecDepth 100000
set_option maxHeartbeats 4000000
/-! where the text without errors comes to an end, so does the text with them -/
namespace Mp
open PySem PySem.Spec PyProof.Rows L2
def LeR {A : Type} (a b : R A) : Prop := a = .bad ∨ a = b
def LeC (a b : CR) : Prop := a = .bad ∨ a = b
theorem LeR.rfl' {A : Type} (a : R A) : LeR a a := .inr rfl
theorem LeR.bind {A B : Type} {x y : R A} {f g : A → En → Sto → R B} (h : LeR x y) (q : ∀ a en m, LeR (f a en m) (g a en m)) : LeR (x.bind f) (y.bind g) := by
  rcases h with rfl | rfl
  · exact .inl rfl
  · cases x with
    | ok a en m => exact q a en m
    | ex c en m => exact .inr rfl
    | bad => exact .inr rfl
theorem LeR.opt {A B : Type} {o : Option A} {f g : A → R B} (q : ∀ a, LeR (f a) (g a)) : LeR (Mp.opt o f) (Mp.opt o g) := by
  cases o with
  | none => exact .inl rfl
  | some a => exact q a
theorem LeR.opt2 {A B D : Type} {o : Option (A × B)} {f g : A → B → R D} (q : ∀ a b, LeR (f a b) (g a b)) : LeR (Mp.opt2 o f) (Mp.opt2 o g) := by
  cases o with
  | none => exact .inl rfl
  | some a => exact q a.1 a.2
theorem LeR.ite {A : Type} {c : Prop} [Decidable c] {x y z w : R A} (h : LeR x y) (q : LeR z w) : LeR (if c then x else z) (if c then y else w) := by
  by_cases k : c
  · rw [if_pos k, if_pos k]; exact h
  · rw [if_neg k, if_neg k]; exact q
theorem LeR.noex {A : Type} {x y : R A} (h : LeR x y) : LeR x.noex y.noex := by
  rcases h with rfl | rfl
  · exact .inl rfl
  · exact .inr rfl
theorem LeC.toR {x y : CR} {en : En} (h : LeC x y) : LeR (x.toR en) (y.toR en) := by
  rcases h with rfl | rfl
  · exact .inl rfl
  · exact .inr rfl
theorem LeR.compL {ck : Sto → Bool} {f g : W → En → Sto → R (Option W)} (q : ∀ w en m, LeR (f w en m) (g w en m)) : ∀ (ws : List W) (en : En) (m : Sto), LeR (compL ck f ws en m) (compL ck g ws en m)
  | [], en, m => .inr rfl
  | w :: ws, en, m => by
    unfold Mp.compL
    exact .ite (.bind (.noex (q w en m)) fun o en m => .bind (LeR.compL q ws en m) fun r en m => .inr rfl) (.inr rfl)
theorem LeR.compF {tg : Tg} {js : List Nat} {b : Bool} {f g h k : En → Sto → R RV} (q : ∀ en m, LeR (f en m) (g en m)) (z : ∀ en m, LeR (h en m) (k en m)) (w : W) (en : En) (m : Sto) : LeR (compF tg js b f h w en m) (compF tg js b g k w en m) := by
  unfold Mp.compF
  exact .opt fun en => .bind (.ite (.inr rfl) (.bind (q en m) fun t en m => .inr rfl)) fun t en m => .ite (.bind (z en m) fun x en m => .inr rfl) (.inr rfl)
theorem LeR.forL {ck : Sto → Bool} {f g : W → En → Sto → R Out} (q : ∀ w en m, LeR (f w en m) (g w en m)) : ∀ (ws : List W) (en : En) (m : Sto), LeR (forL ck f ws en m) (forL ck g ws en m)
  | [], en, m => .inr rfl
  | w :: ws, en, m => by
    unfold Mp.forL
    refine .ite (.bind (q w en m) fun o en m => ?_) (.inr rfl)
    cases o with
    | nx => exact LeR.forL q ws en m
    | rt r => exact .inr rfl
theorem LeR.whileL {c d : En → Sto → R Bool} {f g : En → Sto → R Out} (p : ∀ en m, LeR (c en m) (d en m)) (q : ∀ en m, LeR (f en m) (g en m)) : ∀ (n : Nat) (en : En) (m : Sto), LeR (whileL c f n en m) (whileL d g n en m)
  | 0, en, m => .inr rfl
  | n + 1, en, m => by
    unfold Mp.whileL
    refine .bind (p en m) fun t en m => .ite (.bind (q en m) fun o en m => ?_) (.inr rfl)
    cases o with
    | nx => exact LeR.whileL p q n en m
    | rt r => exact .inr rfl
section
variable {cs cs2 : Nat → List W → Sto → CR} (H : ∀ f ws m, LeC (cs f ws m) (cs2 f ws m)) (gl : List W)
include H
mutual
theorem ev_le : ∀ (e : E) (en : En) (m : Sto), LeR (ev cs gl e en m) (ev cs2 gl e en m)
  | .nil, en, m => by simp only [ev]; exact .inr rfl
  | .cons _ _, en, m => by simp only [ev]; exact .inr rfl
  | .var j, en, m => by simp only [ev]; exact .inr rfl
  | .int i, en, m => by simp only [ev]; exact .inr rfl
  | .bl b, en, m => by simp only [ev]; exact .inr rfl
  | .non, en, m => by simp only [ev]; exact .inr rfl
  | .str s, en, m => by simp only [ev]; exact .inr rfl
  | .glob g, en, m => by simp only [ev]; exact .inr rfl
  | .bin op a b, en, m => by simp only [ev]; exact .bind (ev_le a en m) fun x en m => .bind (ev_le b en m) fun y en m => .inr rfl
  | .neg a, en, m => by simp only [ev]; exact .bind (ev_le a en m) fun x en m => .inr rfl
  | .cmp op a b, en, m => by simp only [ev]; exact .bind (ev_le a en m) fun x en m => .bind (ev_le b en m) fun y en m => .inr rfl
  | .chain op op2 a b c, en, m => by simp only [ev]; exact .bind (ev_le a en m) fun x en m => .bind (ev_le b en m) fun y en m => .opt fun r => .ite (.bind (ev_le c en m) fun z en m => .inr rfl) (.inr rfl)
  | .and es, en, m => by simp only [ev]; exact evAnd_le es en m
  | .or es, en, m => by simp only [ev]; exact evOr_le es en m
  | .not a, en, m => by simp only [ev]; exact .bind (ev_le a en m) fun x en m => .inr rfl
  | .ite c a b, en, m => by simp only [ev]; exact .bind (ev_le c en m) fun x en m => .opt fun t => .ite (ev_le a en m) (ev_le b en m)
  | .lst es, en, m => by simp only [ev]; exact .bind (evs_le es en m) fun x en m => .inr rfl
  | .tup es, en, m => by simp only [ev]; exact .bind (evs_le es en m) fun x en m => .inr rfl
  | .idx a i, en, m => by simp only [ev]; exact .bind (ev_le a en m) fun x en m => .bind (ev_le i en m) fun y en m => .inr rfl
  | .slc a lo hi, en, m => by
    simp only [ev]
    exact .bind (ev_le a en m) fun x en m => .bind (.ite (.inr rfl) (.bind (ev_le lo en m) fun y en m => .inr rfl)) fun l en m => .bind (.ite (.inr rfl) (.bind (ev_le hi en m) fun y en m => .inr rfl)) fun h en m => .inr rfl
  | .call f n es, en, m => by simp only [ev]; exact .bind (evs_le es en m) fun ws en m => .ite (H f ws m).toR (.inr rfl)
  | .blt b es, en, m => by simp only [ev]; exact .bind (evl_le es en m) fun ws en m => .inr rfl
  | .lrng a, en, m => by simp only [ev]; exact .bind (ev_le a en m) fun x en m => .inr rfl
  | .isi a ts, en, m => by simp only [ev]; exact .bind (ev_le a en m) fun x en m => .inr rfl
  | .mth t a es, en, m => by
    cases t with
    | pop => simp only [ev]; exact .bind (ev_le a en m) fun x en m => .opt fun _ => .bind (evs_le es en m) fun ws en m => .inr rfl
    | bits => simp only [ev]; exact .bind (ev_le a en m) fun x en m => .inr rfl
    | count => simp only [ev]; exact .bind (ev_le a en m) fun x en m => .opt fun _ => .bind (evs_le es en m) fun ws en m => .inr rfl
    | index => simp only [ev]; exact .bind (ev_le a en m) fun x en m => .opt fun _ => .bind (evs_le es en m) fun ws en m => .inr rfl
    | get => simp only [ev]; exact .inr rfl
    | rev => simp only [ev]; exact .bind (ev_le a en m) fun x en m => .inr rfl
  | .comp it src tg js c elt, en, m => by
    simp only [ev]
    exact .bind (evs_le src en m) fun ws en m => .opt2 fun zs ck => .ite (.bind (.compL (fun w en m => .compF (fun en m => ev_le c en m) (fun en m => ev_le elt en m) w en m) zs _ m) fun r en m => .inr rfl) (.inr rfl)
  | .box a, en, m => by simp only [ev]; exact .bind (ev_le a en m) fun x en m => .inr rfl
  | .fld a x cl, en, m => by simp only [ev]; exact .bind (ev_le a en m) fun x en m => .inr rfl
  | .mcall a x cf n es, en, m => by simp only [ev]; exact .bind (.noex (ev_le a en m)) fun y en m => .opt fun w => .opt fun f => .bind (evs_le es en m) fun ws en m => .ite (H f _ m).toR (.inr rfl)
  | .make c f n es, en, m => by
    simp only [ev]
    refine .bind (evs_le es en m) fun ws en m => .ite ?_ (.inr rfl)
    rcases H f (.ref m.length :: ws) (m ++ [.ins c []]) with h | h
    · rw [h]; exact .inl rfl
    · rw [h]; exact .inr rfl
  | .dnew, en, m => by simp only [ev]; exact .inr rfl
  | .dget a k d, en, m => by
    simp only [ev]
    exact .bind (ev_le a en m) fun x en m => .opt fun w => .opt fun _ => .bind (ev_le k en m) fun y en m => .opt fun kk => .ite (.inr rfl) (.bind (ev_le d en m) fun z en m => .inr rfl)
  | .din ng k a, en, m => by simp only [ev]; exact .bind (ev_le k en m) fun y en m => .opt fun kk => .bind (ev_le a en m) fun x en m => .inr rfl
  | .dkeys a, en, m => by simp only [ev]; exact .bind (ev_le a en m) fun x en m => .inr rfl
  | .isx a tab, en, m => by simp only [ev]; exact .bind (ev_le a en m) fun x en m => .inr rfl
  | .lock a e, en, m => by simp only [ev]; exact .opt fun i => .opt fun kvs => .bind (.noex (ev_le e en _)) fun x en m => .inr rfl
  | .dlit ks es, en, m => by simp only [ev]; exact .bind (evs_le es en m) fun ws en m => .inr rfl
  | .lrng2 a b, en, m => by simp only [ev]; exact .bind (ev_le a en m) fun x en m => .bind (ev_le b en m) fun y en m => .inr rfl
theorem evAnd_le : ∀ (e : E) (en : En) (m : Sto), LeR (evAnd cs gl e en m) (evAnd cs2 gl e en m)
  | e, en, m => by
    cases e with
    | cons a es =>
      cases es <;> first
        | (simp only [evAnd]; exact ev_le a en m)
        | (simp only [evAnd]; exact .bind (ev_le a en m) fun x en m => .opt fun t => .ite (.inr rfl) (.inr rfl))
        | (simp only [evAnd]; exact .bind (ev_le a en m) fun x en m => .opt fun t => .ite (evAnd_le _ en m) (.inr rfl))
        | (rw [evAnd, evAnd]; exact .bind (ev_le a en m) fun x en m => .opt fun t => .ite (evAnd_le _ en m) (.inr rfl))
    | _ => simp only [evAnd]; exact .inr rfl
theorem evOr_le : ∀ (e : E) (en : En) (m : Sto), LeR (evOr cs gl e en m) (evOr cs2 gl e en m)
  | e, en, m => by
    cases e with
    | cons a es =>
      cases es <;> first
        | (simp only [evOr]; exact ev_le a en m)
        | (simp only [evOr]; exact .bind (ev_le a en m) fun x en m => .opt fun t => .ite (.inr rfl) (.inr rfl))
        | (simp only [evOr]; exact .bind (ev_le a en m) fun x en m => .opt fun t => .ite (.inr rfl) (evOr_le _ en m))
        | (rw [evOr, evOr]; exact .bind (ev_le a en m) fun x en m => .opt fun t => .ite (.inr rfl) (evOr_le _ en m))
    | _ => simp only [evOr]; exact .inr rfl
theorem evs_le : ∀ (e : E) (en : En) (m : Sto), LeR (evs cs gl e en m) (evs cs2 gl e en m)
  | e, en, m => by
    cases e with
    | nil => simp only [evs]; exact .inr rfl
    | cons a es => simp only [evs]; exact .bind (ev_le a en m) fun x en m => .opt2 fun w en => .bind (evs_le es en m) fun ws en m => .inr rfl
    | _ => simp only [evs]; exact .inr rfl
theorem evl_le : ∀ (e : E) (en : En) (m : Sto), LeR (evl cs gl e en m) (evl cs2 gl e en m)
  | e, en, m => by
    cases e with
    | cons a es =>
      cases es <;> first
        | (simp only [evl]; exact .bind (ev_le a en m) fun x en m => .inr rfl)
        | (simp only [evl]; exact .bind (ev_le a en m) fun x en m => .opt2 fun w en => .bind (evs_le _ en m) fun ws en m => .inr rfl)
    | _ => simp only [evl]; exact .inr rfl
end
/-- the text without what raises -/
def unr (b : Bool) : S → S
  | .raise c => if b then .never else .raise c
  | .seq s t => .seq (unr b s) (unr b t)
  | .iff c s t => .iff c (unr b s) (unr b t)
  | .for_ it src tg s => .for_ it src tg (unr b s)
  | .whl c s => .whl c (unr b s)
  | .tryx s cl j t => .tryx (unr b s) cl j (unr b t)
  | .lockS a s => .lockS a (unr b s)
  | s => s
theorem sv_le (N : Nat) (b : Bool) : ∀ (s : S) (en : En) (m : Sto), LeR (sv cs gl N (unr b s) en m) (sv cs2 gl N s en m)
  | .skip, en, m => by simp only [unr, sv]; exact .inr rfl
  | .seq s t, en, m => by
    simp only [unr, sv]
    refine .bind (sv_le N b s en m) fun o en m => ?_
    cases o with
    | nx => exact sv_le N b t en m
    | rt r => exact .inr rfl
  | .asg j e, en, m => by simp only [unr, sv]; exact .bind (ev_le H gl e en m) fun x en m => .inr rfl
  | .unp tg e, en, m => by simp only [unr, sv]; exact .bind (ev_le H gl e en m) fun x en m => .inr rfl
  | .par i j x y, en, m => by simp only [unr, sv]; exact .bind (evs_le H gl _ en m) fun x en m => .inr rfl
  | .seti a i e, en, m => by simp only [unr, sv]; exact .bind (ev_le H gl e en m) fun x en m => .opt2 fun w en => .bind (ev_le H gl a en m) fun o en m => .bind (ev_le H gl i en m) fun y en m => .inr rfl
  | .app a e, en, m => by simp only [unr, sv]; exact .bind (ev_le H gl a en m) fun o en m => .opt fun _ => .bind (ev_le H gl e en m) fun x en m => .inr rfl
  | .ex e, en, m => by simp only [unr, sv]; exact .bind (ev_le H gl e en m) fun x en m => .inr rfl
  | .ret e, en, m => by simp only [unr, sv]; exact .bind (ev_le H gl e en m) fun x en m => .inr rfl
  | .retn, en, m => by simp only [unr, sv]; exact .inr rfl
  | .iff c s t, en, m => by simp only [unr, sv]; exact .bind (ev_le H gl c en m) fun x en m => .opt fun t => .ite (sv_le N b s en m) (sv_le N b _ en m)
  | .for_ it src tg s, en, m => by
    simp only [unr, sv]
    exact .bind (evs_le H gl src en m) fun ws en m => .opt2 fun zs ck => .forL (fun w en m => LeR.opt fun en => sv_le N b s en m) zs en m
  | .whl c s, en, m => by
    simp only [unr, sv]
    exact LeR.whileL (fun en m => LeR.bind (ev_le H gl c en m) fun x en m => .inr rfl) (fun en m => sv_le N b s en m) N en m
  | .raise c, en, m => by
    cases b with
    | true => simp only [unr, if_true, sv]; exact .inl rfl
    | false => simp only [unr, Bool.false_eq_true, if_false, sv]; exact .inr rfl
  | .never, en, m => by simp only [unr, sv]; exact .inr rfl
  | .augn j op e, en, m => by
    simp only [unr, sv]
    refine .opt fun s => ?_
    cases s with
    | own ws => exact .inr rfl
    | val w => cases w <;> first | exact .inr rfl | exact .bind (ev_le H gl e en m) fun x en m => .inr rfl
  | .extd a e, en, m => by simp only [unr, sv]; exact .bind (ev_le H gl a en m) fun o en m => .opt fun _ => .bind (ev_le H gl e en m) fun x en m => .inr rfl
  | .setf a x cl e, en, m => by simp only [unr, sv]; exact .bind (ev_le H gl e en m) fun y en m => .opt2 fun w en => .bind (ev_le H gl a en m) fun o en m => .inr rfl
  | .dput a k e, en, m => by simp only [unr, sv]; exact .bind (ev_le H gl e en m) fun y en m => .opt2 fun w en => .bind (ev_le H gl a en m) fun o en m => .opt fun z => .bind (ev_le H gl k en m) fun y en m => .inr rfl
  | .tryx s cl j t, en, m => by
    simp only [unr, sv]
    rcases sv_le N b s en m with h | h
    · rw [h]; exact .inl rfl
    · rw [h]
      cases sv cs2 gl N s en m with
      | ok o en m => exact .inr rfl
      | bad => exact .inr rfl
      | ex c en m => exact .ite (.bind (.noex (sv_le N b t _ m)) fun o en m => .inr rfl) (.inr rfl)
  | .lockS a s, en, m => by simp only [unr, sv]; exact .opt fun i => .opt fun kvs => .bind (.noex (sv_le N b s en _)) fun x en m => .inr rfl
  | .augf a x cl e, en, m => by simp only [unr, sv]; exact .bind (ev_le H gl a en m) fun o en m => .opt fun z => .opt fun q => .opt fun i => .bind (ev_le H gl e en m) fun y en m => .inr rfl
end
def unF (b : Bool) (d : Fd) : Fd := ⟨d.np, d.nn, unr b d.body⟩
theorem callN_le (fs : List Fd) (gl : List W) (N : Nat) (b : Bool) : ∀ (k f : Nat) (ws : List W) (m : Sto), LeC (callN (fs.map (unF b)) gl N k f ws m) (callN fs gl N k f ws m)
  | 0, f, ws, m => .inr rfl
  | k + 1, f, ws, m => by
    unfold callN
    rw [List.getElem?_map]
    cases fs[f]? with
    | none => exact .inr rfl
    | some d =>
      dsimp only [Option.map_some, unF]
      by_cases h : ws.length = d.np
      · rw [if_pos h, if_pos h]
        unfold runB
        dsimp only
        rcases sv_le (callN_le fs gl N b k) gl N b d.body (ws.map (fun w => some (.val w)) ++ List.replicate (d.nn - ws.length) none) m with q | q
        · rw [q]; exact .inl rfl
        · rw [q]; exact .inr rfl
      · rw [if_neg h, if_neg h]; exact .inr rfl
/-- what comes to an end without errors does so in the whole text -/
theorem call_up {fs : List Fd} {gl : List W} {N k f : Nat} {ws : List W} {m m2 : Sto} {r : RV} (h : callN (fs.map (unF true)) gl N k f ws m = .ok r m2) : callN fs gl N k f ws m = .ok r m2 := by
  rcases callN_le fs gl N true k f ws m with q | q
  · rw [q] at h; cases h
  · rw [← q]; exact h
theorem unr_false : ∀ s : S, unr false s = s
  | .skip => rfl
  | .seq s t => by simp only [unr, unr_false s, unr_false t]
  | .asg j e => rfl
  | .unp tg e => rfl
  | .par i j x y => rfl
  | .seti a i e => rfl
  | .app a e => rfl
  | .ex e => rfl
  | .ret e => rfl
  | .retn => rfl
  | .iff c s t => by simp only [unr, unr_false s, unr_false t]
  | .for_ it src tg s => by simp only [unr, unr_false s]
  | .whl c s => by simp only [unr, unr_false s]
  | .raise c => rfl
  | .never => rfl
  | .augn j op e => rfl
  | .extd a e => rfl
  | .setf a x cl e => rfl
  | .dput a k e => rfl
  | .tryx s cl j t => by simp only [unr, unr_false s, unr_false t]
  | .lockS a s => by simp only [unr, unr_false s]
  | .augf a x cl e => rfl
/-- one level more -/
theorem callN_lev (fs : List Fd) (gl : List W) (N : Nat) : ∀ (k f : Nat) (ws : List W) (m : Sto), LeC (callN fs gl N k f ws m) (callN fs gl N (k + 1) f ws m)
  | 0, f, ws, m => .inl rfl
  | k + 1, f, ws, m => by
    show LeC (match fs[f]? with
      | some d => if ws.length = d.np then runB (callN fs gl N k) gl N d ws m else .bad
      | none => .bad) (match fs[f]? with
      | some d => if ws.length = d.np then runB (callN fs gl N (k + 1)) gl N d ws m else .bad
      | none => .bad)
    cases fs[f]? with
    | none => exact .inr rfl
    | some d =>
      dsimp only
      by_cases h : ws.length = d.np
      · rw [if_pos h, if_pos h]
        unfold runB
        have q := sv_le (callN_lev fs gl N k) gl N false d.body (ws.map (fun w => some (.val w)) ++ List.replicate (d.nn - ws.length) none) m
        rw [unr_false] at q
        rcases q with q | q
        · rw [q]; exact .inl rfl
        · rw [q]; exact .inr rfl
      · rw [if_neg h, if_neg h]; exact .inr rfl
theorem call_lev {fs : List Fd} {gl : List W} {N k f : Nat} {ws : List W} {m : Sto} {r : CR} (hr : r ≠ .bad) (h : callN fs gl N k f ws m = r) : ∀ j, callN fs gl N (k + j) f ws m = r
  | 0 => h
  | j + 1 => by
    have ih := call_lev hr h j
    rcases callN_lev fs gl N (k + j) f ws m with q | q
    · rw [ih] at q; exact absurd q hr
    · show callN fs gl N (k + j + 1) f ws m = r
      rw [← q]; exact ih
end Mp

set_option Elab.async false
set_option linter.all false
set_option maxRecDepth 100000
set_option maxHeartbeats 4000000
namespace Mp
open PySem PySem.Spec PyProof.Rows L2

/-! ### powers under a number -/
theorem pow_mod (a n : Int) : ∀ k : Nat, (a % n) ^ k % n = a ^ k % n
  | 0 => by rw [Int.pow_zero, Int.pow_zero]
  | k + 1 => by
    rw [Int.pow_succ, Int.pow_succ, Int.mul_emod, pow_mod a n k, Int.emod_emod, ← Int.mul_emod]
theorem pow_two_mul (a : Int) (k : Nat) : (a * a) ^ k = a ^ (2 * k) := by
  induction k with
  | zero => rw [Int.pow_zero, Nat.mul_zero, Int.pow_zero]
  | succ k ih =>
    rw [Int.pow_succ, ih, show 2 * (k + 1) = 2 * k + 1 + 1 by omega, Int.pow_succ, Int.pow_succ, Int.mul_assoc]
/-- a digit of the exponent -/
theorem pow_step {f s n e : Int} (he : 0 ≤ e) : (if e % 2 = 1 then f * s % n else f) * (s * s % n) ^ (e / 2).toNat % n = f * s ^ e.toNat % n := by
  rw [Int.mul_emod, pow_mod, pow_two_mul]
  by_cases h : e % 2 = 1
  · rw [if_pos h, Int.emod_emod, ← Int.mul_emod]
    have : e.toNat = 2 * (e / 2).toNat + 1 := by omega
    rw [this, Int.pow_succ, Int.mul_assoc, Int.mul_comm s]
  · rw [if_neg h, ← Int.mul_emod]
    have : e.toNat = 2 * (e / 2).toNat := by omega
    rw [this]
def c_power : E := .cmp .gt (.var 1) (.int 0)
def w_power : S := (.seq (.iff (.cmp .eq (.bin .mod (.var 1) (.int 2)) (.int 1)) (.seq (.asg 3 (.bin .mod (.bin .mul (.var 3) (.var 4)) (.var 2)))
  .skip) .skip)
  (.seq (.asg 4 (.bin .mod (.bin .mul (.var 4) (.var 4)) (.var 2)))
  (.seq (.asg 1 (.bin .fdiv (.var 1) (.int 2)))
  .skip)))
section
variable {cs : Nat → List W → Sto → CR} {fs : List Fd} {gl : List W} {N k f : Nat} {m : Sto}
theorem two_big : (0 : Int) < 2 ∧ (2 : Int) < BIG := ⟨by decide, by decide +kernel⟩
theorem lim64 {i n : Int} (h : 0 ≤ i) (h2 : i < n) (h3 : n ≤ 2 ^ 64) : mulOk i i = true := mulOk_l ⟨by omega, by omega⟩
theorem power_loop {b n : Int} (hn : 0 < n) (hn2 : n ≤ 2 ^ 64) : ∀ (t : Nat) (q : Nat) (e f s : Int), 0 ≤ e → e < 2 ^ t → t < q → 0 ≤ f → f < n → 0 ≤ s → s < n →
    ∃ e2 s2, wl cs gl N c_power w_power q [some (.val (.int b)), some (.val (.int e)), some (.val (.int n)), some (.val (.int f)), some (.val (.int s))] m =
      .ok .nx [some (.val (.int b)), some (.val (.int e2)), some (.val (.int n)), some (.val (.int (f * s ^ e.toNat % n))), some (.val (.int s2))] m
  | t, q, e, f, s, h0, h1, hq, f0, f1, s0, s1 => by
    by_cases he : 0 < e
    · cases t with
      | zero => simp at h1; omega
      | succ t =>
        cases q with
        | zero => omega
        | succ q =>
          have m1 : mulOk f s = true := mulOk_l ⟨by omega, by omega⟩
          have m2 : mulOk s s = true := mulOk_l ⟨by omega, by omega⟩
          have p2 : (2 : Int) ^ (t + 1) = 2 * 2 ^ t := by rw [Int.pow_succ, Int.mul_comm]
          obtain ⟨e2, s2, ih⟩ := power_loop hn hn2 t q (e / 2) (if e % 2 = 1 then f * s % n else f) (s * s % n) (by omega) (by rw [p2] at h1; omega) (by omega)
            (by split; exact Int.emod_nonneg _ (by omega); exact f0) (by split; exact Int.emod_lt_of_pos _ hn; exact f1) (Int.emod_nonneg _ (by omega)) (Int.emod_lt_of_pos _ hn)
          refine ⟨e2, s2, ?_⟩
          rw [wl_go (m2 := m) (en2 := [some (.val (.int b)), some (.val (.int (e / 2))), some (.val (.int n)), some (.val (.int (if e % 2 = 1 then f * s % n else f))), some (.val (.int (s * s % n)))]), ih, pow_step h0]
          · simp [c_power, he]
          · by_cases h : e % 2 = 1
            · simp [w_power, mod_ints hn, mod_ints two_big.1, fdiv_ints two_big, mul_ints m1, mul_ints m2, h]
            · simp [w_power, mod_ints hn, mod_ints two_big.1, fdiv_ints two_big, mul_ints m1, mul_ints m2, h]
    · have : e = 0 := by omega
      subst this
      refine ⟨0, s, ?_⟩
      rw [wl_stop (by omega) (by simp [c_power])]
      simp [Int.emod_eq_of_lt f0 f1]
theorem power_run {b e n : Int} {t : Nat} (hf : fs[f]? = some ⟨3, 5, b_power_by⟩) (hn : 0 < n) (hn2 : n ≤ 2 ^ 64) (he : 0 ≤ e) (ht : e < 2 ^ t) (hN : t < N) :
    callN fs gl N (k + 1) f [.int b, .int e, .int n] m = .ok (.val (.int (b ^ e.toNat % n))) m := by
  rw [call_at hf rfl]
  have q : b_power_by = .seq (.asg 3 (.bin .mod (.int 1) (.var 2))) (.seq (.asg 4 (.bin .mod (.var 0) (.var 2))) (.seq (.whl c_power w_power) (.seq (.ret (.var 3)) .skip))) := rfl
  obtain ⟨e2, s2, h⟩ := power_loop (cs := callN fs gl N k) (gl := gl) (N := N) (m := m) (b := b) hn hn2 t N e (1 % n) (b % n) he ht hN (Int.emod_nonneg _ (by omega)) (Int.emod_lt_of_pos _ hn) (Int.emod_nonneg _ (by omega)) (Int.emod_lt_of_pos _ hn)
  have z : 1 % n * (b % n) ^ e.toNat % n = b ^ e.toNat % n := by
    rw [Int.mul_emod, Int.emod_emod, pow_mod, ← Int.mul_emod, Int.one_mul]
  rw [z] at h
  simp [q, mod_ints hn, h]

/-! ### is it a prime -/
def oddP : Nat → Int → Int
  | 0, o => o
  | t + 1, o => if o % 2 = 0 then oddP t (o / 2) else o
def sqP : Nat → Int → Int → Int → Bool
  | 0, _, _, _ => false
  | t + 1, n, o, p => if o < n - 1 then (if p = n - 1 then true else sqP t n (2 * o) (p * p % n)) else false
def powM : Nat → Int → Int → Int → Int → Int
  | 0, _, f, _, _ => f
  | t + 1, e, f, s, n => if 0 < e then powM t (e / 2) (if e % 2 = 1 then f * s % n else f) (s * s % n) n else f
theorem powM_eq {n : Int} (hn : 0 < n) : ∀ (t : Nat) (e f s : Int), 0 ≤ e → e < 2 ^ t → 0 ≤ f → f < n → powM t e f s n = f * s ^ e.toNat % n
  | 0, e, f, s, h0, h1, f0, f1 => by
    have : e = 0 := by simp at h1; omega
    subst this
    simp [powM, Int.emod_eq_of_lt f0 f1]
  | t + 1, e, f, s, h0, h1, f0, f1 => by
    have p2 : (2 : Int) ^ (t + 1) = 2 * 2 ^ t := by rw [Int.pow_succ, Int.mul_comm]
    rw [p2] at h1
    unfold powM
    by_cases he : 0 < e
    · rw [if_pos he, powM_eq hn t (e / 2) _ _ (by omega) (by omega) (by split; exact Int.emod_nonneg _ (by omega); exact f0) (by split; exact Int.emod_lt_of_pos _ hn; exact f1), pow_step h0]
    · have : e = 0 := by omega
      subst this
      simp [Int.emod_eq_of_lt f0 f1]
def standsP (n b : Int) : Bool :=
  if powM 64 (oddP 64 (n - 1)) (1 % n) (b % n) n = 1 then true else sqP 64 n (oddP 64 (n - 1)) (powM 64 (oddP 64 (n - 1)) (1 % n) (b % n) n)
def c_odd : E := .cmp .eq (.bin .mod (.var 2) (.int 2)) (.int 0)
def w_odd : S := .seq (.asg 2 (.bin .fdiv (.var 2) (.int 2))) .skip
def c_sq : E := .cmp .lt (.var 2) (.bin .sub (.var 0) (.int 1))
def w_sq : S := (.seq (.iff (.cmp .eq (.var 3) (.bin .sub (.var 0) (.int 1))) (.seq (.ret (.bl true))
  .skip) .skip)
  (.seq (.asg 3 (.bin .mod (.bin .mul (.var 3) (.var 3)) (.var 0)))
  (.seq (.asg 2 (.bin .mul (.int 2) (.var 2)))
  .skip)))
theorem oddP_pos : ∀ (t : Nat) {o : Int}, 0 < o → 0 < oddP t o ∧ oddP t o ≤ o
  | 0, o, h => ⟨h, Int.le_refl _⟩
  | t + 1, o, h => by
    unfold oddP
    split
    · have := oddP_pos t (o := o / 2) (by omega)
      exact ⟨this.1, by omega⟩
    · exact ⟨h, Int.le_refl _⟩
theorem odd_loop {n b : Int} : ∀ (t q : Nat) (o : Int), 0 < o → o < 2 ^ t → t < q →
    wl cs gl N c_odd w_odd q [some (.val (.int n)), some (.val (.int b)), some (.val (.int o)), none] m = .ok .nx [some (.val (.int n)), some (.val (.int b)), some (.val (.int (oddP t o))), none] m
  | t, q, o, h0, h1, hq => by
    by_cases he : o % 2 = 0
    · cases t with
      | zero => simp at h1; omega
      | succ t =>
        cases q with
        | zero => omega
        | succ q =>
          have p2 : (2 : Int) ^ (t + 1) = 2 * 2 ^ t := by rw [Int.pow_succ, Int.mul_comm]
          have ih := odd_loop (n := n) (b := b) t q (o / 2) (by omega) (by rw [p2] at h1; omega) (by omega)
          rw [wl_go (m2 := m) (en2 := [some (.val (.int n)), some (.val (.int b)), some (.val (.int (o / 2))), none]), ih]
          · rw [show oddP (t + 1) o = oddP t (o / 2) by rw [oddP, if_pos he]]
          · simp [c_odd, mod_ints two_big.1, he]
          · simp [w_odd, fdiv_ints two_big]
    · have : oddP t o = o := by cases t <;> simp [oddP, he]
      rw [wl_stop (by omega) (by simp [c_odd, mod_ints two_big.1, he]), this]
theorem sq_loop {n b : Int} (hn : 2 ≤ n) (hn2 : n ≤ 2 ^ 63) : ∀ (t q : Nat) (o p : Int), 0 < o → n ≤ o * 2 ^ t → t < q → 0 ≤ p → p < n →
    (∃ o2 p2, sqP t n o p = false ∧ wl cs gl N c_sq w_sq q [some (.val (.int n)), some (.val (.int b)), some (.val (.int o)), some (.val (.int p))] m = .ok .nx [some (.val (.int n)), some (.val (.int b)), some (.val (.int o2)), some (.val (.int p2))] m) ∨
    (∃ en, sqP t n o p = true ∧ wl cs gl N c_sq w_sq q [some (.val (.int n)), some (.val (.int b)), some (.val (.int o)), some (.val (.int p))] m = .ok (.rt (.val (.bl true))) en m)
  | t, q, o, p, h0, h1, hq, p0, p1 => by
    by_cases ho : o < n - 1
    · cases t with
      | zero => simp at h1; omega
      | succ t =>
        cases q with
        | zero => omega
        | succ q =>
          by_cases hp : p = n - 1
          · right
            refine ⟨_, by unfold sqP; rw [if_pos ho, if_pos hp], wl_ret (Nat.succ_pos q) (by simp [c_sq, ho]) (by simp [w_sq, hp]; rfl)⟩
          · have p2 : o * (2 : Int) ^ (t + 1) = 2 * o * 2 ^ t := by rw [Int.pow_succ, Int.mul_comm 2 o, Int.mul_assoc, Int.mul_comm 2]
            have m1 : mulOk p p = true := mulOk_l ⟨by omega, by omega⟩
            have m2 : mulOk 2 o = true := mulOk_l ⟨by omega, by omega⟩
            have e : sqP (t + 1) n o p = sqP t n (2 * o) (p * p % n) := by
              rw [sqP, if_pos ho, if_neg hp]
            have g : wl cs gl N c_sq w_sq (q + 1) [some (.val (.int n)), some (.val (.int b)), some (.val (.int o)), some (.val (.int p))] m = wl cs gl N c_sq w_sq q [some (.val (.int n)), some (.val (.int b)), some (.val (.int (2 * o))), some (.val (.int (p * p % n)))] m :=
              wl_go (by simp [c_sq, ho]) (by simp [w_sq, hp, mul_ints m1, mul_ints m2, mod_ints (show 0 < n by omega)])
            rw [e, g]
            exact sq_loop hn hn2 t q (2 * o) (p * p % n) (by omega) (by rw [← p2]; exact h1) (by omega) (Int.emod_nonneg _ (by omega)) (Int.emod_lt_of_pos _ (by omega))
    · left
      refine ⟨o, p, ?_, wl_stop (by omega) (by simp [c_sq, ho])⟩
      cases t <;> simp [sqP, ho]
theorem stands_run {n b : Int} {c : Nat} (hf : fs[f]? = some ⟨2, 4, b_stands c⟩) (hc : fs[c]? = some ⟨3, 5, b_power_by⟩) (hn : 2 ≤ n) (hn2 : n ≤ 2 ^ 63) (hN : 100 ≤ N) :
    callN fs gl N (k + 2) f [.int n, .int b] m = .ok (.val (.bl (standsP n b))) m := by
  rw [call_at hf rfl]
  have q : b_stands c = .seq (.asg 2 (.bin .sub (.var 0) (.int 1))) (.seq (.whl c_odd w_odd) (.seq (.asg 3 (.call c 3 (.cons (.var 1) (.cons (.var 2) (.cons (.var 0) .nil))))) (.seq (.iff (.cmp .eq (.var 3) (.int 1)) (.seq (.ret (.bl true)) .skip) .skip)
    (.seq (.whl c_sq w_sq) (.seq (.ret (.bl false)) .skip))))) := rfl
  have ho := oddP_pos 64 (o := n - 1) (by omega)
  have h1 := odd_loop (cs := callN fs gl N (k + 1)) (gl := gl) (N := N) (m := m) (n := n) (b := b) 64 N (n - 1) (by omega) (by omega) (by omega)
  have h2 := power_run (k := k) (gl := gl) (N := N) (m := m) (b := b) (e := oddP 64 (n - 1)) (n := n) (t := 64) hc (by omega) (by omega) (by omega) (by omega) (by omega)
  have h3 := powM_eq (n := n) (by omega) 64 (oddP 64 (n - 1)) (1 % n) (b % n) (by omega) (by omega) (Int.emod_nonneg _ (by omega)) (Int.emod_lt_of_pos _ (by omega))
  have z : 1 % n * (b % n) ^ (oddP 64 (n - 1)).toNat % n = b ^ (oddP 64 (n - 1)).toNat % n := by
    rw [Int.mul_emod, Int.emod_emod, pow_mod, ← Int.mul_emod, Int.one_mul]
  rw [z] at h3
  rw [← h3] at h2
  unfold standsP
  have b0 : 0 ≤ powM 64 (oddP 64 (n - 1)) (1 % n) (b % n) n := by rw [h3]; exact Int.emod_nonneg _ (by omega)
  have b1 : powM 64 (oddP 64 (n - 1)) (1 % n) (b % n) n < n := by rw [h3]; exact Int.emod_lt_of_pos _ (by omega)
  generalize powM 64 (oddP 64 (n - 1)) (1 % n) (b % n) n = pw at *
  by_cases hp : pw = 1
  · simp [q, h1, h2, hp]
  · have := sq_loop (cs := callN fs gl N (k + 1)) (gl := gl) (N := N) (m := m) (b := b) hn hn2 64 N (oddP 64 (n - 1)) pw ho.1 (by omega) (by omega) b0 b1
    rw [if_neg hp]
    rcases this with ⟨o2, p2, e1, e2⟩ | ⟨en, e1, e2⟩
    · simp [q, h1, h2, hp, e1, e2]
    · simp [q, h1, h2, hp, e1, e2]
end
end Mp

set_option Elab.async false
set_option linter.all false
set_option maxRecDepth 100000
set_option maxHeartbeats 4000000
namespace Mp
open PySem PySem.Spec PyProof.Rows L2
@[simp] theorem wipe_nil {en : En} : wipeE en [] = en := rfl
@[simp] theorem wipe_cons {en : En} {j : Nat} {js : List Nat} : wipeE en (j :: js) = (wipeE en js).set j none := rfl
@[simp] theorem rest_nil {a b : En} : restE a b [] = b := rfl
@[simp] theorem rest_cons {a b : En} {j : Nat} {js : List Nat} : restE a b (j :: js) = (restE a b js).set j (enGet a j) := rfl
@[simp] theorem frz_nil {en : En} : frzE en [] = en := rfl
theorem frz_cons {en : En} {j : Nat} {js : List Nat} : frzE en (j :: js) = match enGet (frzE en js) j with
    | some (.own ws) => (frzE en js).set j (some (.val (.lst ws)))
    | _ => frzE en js := rfl
@[simp] theorem items_tup {m : Sto} {zs : List W} : itemsR .tup m [.tup zs] = some (zs, []) := rfl
@[simp] theorem items_lst {m : Sto} {zs : List W} : itemsR .list m [.lst zs] = some (zs, []) := rfl
theorem items_ref {m : Sto} {r : Nat} {zs : List W} (h : m[r]? = some (.lst zs)) : itemsR .list m [.ref r] = some (zs, [(r, zs)]) := by
  show srcL m (.ref r) = _
  unfold srcL
  simp only [h]
theorem chk_ref {m : Sto} {r : Nat} {zs : List W} (h : m[r]? = some (.lst zs)) : chk [(r, zs)] m = true := by
  unfold chk
  simp only [List.all_cons, List.all_nil, h, W.sames_refl, Bool.and_self]
theorem items_rng1 {m : Sto} {n : Int} (h : rngOk n = true) : itemsR .rng1 m [.int n] = some ((List.range n.toNat).map fun (i : Nat) => .int (0 + (i : Int)), []) := by
  show (if rngOk n then _ else _) = _
  rw [if_pos h]
@[simp] theorem items_enum {m : Sto} {zs : List W} : itemsR .enum m [.lst zs] = some (enumL zs, []) := rfl
@[simp] theorem items_zip {m : Sto} {zs us : List W} : itemsR .zip m [.lst zs, .lst us] = some (zs.zipWith (fun a b => .tup [a, b]) us, []) := rfl
@[simp] theorem bind_one {j : Nat} {w : W} {m : Sto} {en : En} : bindT (.one j) w m en = some (en.set j (some (.val w))) := rfl
@[simp] theorem bind_many2 {i j : Nat} {w u : W} {m : Sto} {en : En} : bindT (.many [i, j]) (.tup [w, u]) m en = some ((en.set i (some (.val w))).set j (some (.val u))) := rfl
section
variable {cs : Nat → List W → Sto → CR} {gl : List W} {N : Nat} {m : Sto} {en : En}
@[simp] theorem fl_cons0 {tg : Tg} {b : S} {z : W} {zs : List W} : fl cs gl N tg b [] (z :: zs) en m = thn (optp (bindT tg z m en) fun en => sv cs gl N b en m) (fl cs gl N tg b [] zs) := fl_cons rfl
@[simp] theorem fl_nil0 {tg : Tg} {b : S} : fl cs gl N tg b [] [] en m = .ok .nx en m := fl_nil rfl
end
section
variable {cs : Nat → List W → Sto → CR} {fs : List Fd} {gl : List W} {N k f : Nat} {m : Sto} {en : En}
/-- a comprehension over whole numbers, all as it was behind each turn -/
theorem cl_ints {j : Nat} {c elt : E} {ck : List (Nat × List W)} (p : Int → Bool) (g : Int → Int) {ns : List Int} (hk : chk ck m = true) (hw : en.set j none = en)
    (h : ∀ i ∈ ns, (if isNil c then p i = true else ev cs gl c (en.set j (some (.val (.int i)))) m = .ok (.val (.bl (p i))) (en.set j (some (.val (.int i)))) m) ∧
      (p i = true → ev cs gl elt (en.set j (some (.val (.int i)))) m = .ok (.val (.int (g i))) (en.set j (some (.val (.int i)))) m)) :
    cl cs gl (.one j) [j] c elt ck (ns.map W.int) en m = .ok (((ns.filter p).map g).map W.int) en m := by
  rw [cl_map (m := m) (fun z => match z with | .int i => p i | _ => false) (fun z => match z with | .int i => .int (g i) | z => z) hk fun z hz => ?_]
  · congr 1
    induction ns with
    | nil => rfl
    | cons i ns ih =>
      have ih := ih fun y hy => h y (List.mem_cons_of_mem _ hy)
      rw [List.map_cons]
      cases hp : p i with
      | true => rw [List.filter_cons_of_pos hp, List.filter_cons_of_pos (by simpa using hp), List.map_cons, List.map_cons, List.map_cons, ih]
      | false => rw [List.filter_cons_of_neg (by simp [hp]), List.filter_cons_of_neg (by simp [hp]), ih]
  · obtain ⟨i, hi, rfl⟩ := List.mem_map.mp hz
    obtain ⟨h1, h2⟩ := h i hi
    refine ⟨_, rfl, by simp [hw], h1, h2⟩
def isP (n : Int) : Bool := if n < 2 then false else if n % 2 = 0 then decide (n = 2) else if n % 3 = 0 then decide (n = 3) else if n % 5 = 0 then decide (n = 5) else if n % 7 = 0 then decide (n = 7) else if n % 11 = 0 then decide (n = 11)
  else decide ((([2, 3, 5, 7, 11] : List Int).filter (fun b => !standsP n b)).map id = [])
theorem prime_run {n : Int} {c g cp : Nat} (hf : fs[f]? = some ⟨1, 2, b_is_prime c g⟩) (hc : fs[c]? = some ⟨2, 4, b_stands cp⟩) (hp : fs[cp]? = some ⟨3, 5, b_power_by⟩) (hg : gl[g]? = some (.tup (([2, 3, 5, 7, 11] : List Int).map W.int)))
    (hn2 : n ≤ 2 ^ 63) (hN : 100 ≤ N) : callN fs gl N (k + 3) f [.int n] m = .ok (.val (.bl (isP n))) m := by
  rw [call_at hf rfl]
  unfold isP
  by_cases h0 : n < 2
  · simp [b_is_prime, h0]
  rw [if_neg h0]
  have st : ∀ b, callN fs gl N (k + 2) c [.int n, .int b] m = .ok (.val (.bl (standsP n b))) m := fun b => stands_run hc hp (by omega) hn2 hN
  have hcl := cl_ints (cs := callN fs gl N (k + 2)) (gl := gl) (m := m) (en := [some (.val (.int n)), none]) (j := 1) (c := .not (.call c 2 (.cons (.var 0) (.cons (.var 1) .nil)))) (elt := .var 1) (ck := [])
    (fun b => !standsP n b) id (ns := [2, 3, 5, 7, 11]) rfl rfl (fun i hi => ⟨by simp [isNil, st], fun _ => by simp⟩)
  by_cases h2 : n % 2 = 0
  · simp [b_is_prime, h0, h2, hg, mod_ints]
  by_cases h3 : n % 3 = 0
  · simp [b_is_prime, h0, h2, h3, hg, mod_ints]
  by_cases h5 : n % 5 = 0
  · simp [b_is_prime, h0, h2, h3, h5, hg, mod_ints]
  by_cases h7 : n % 7 = 0
  · simp [b_is_prime, h0, h2, h3, h5, h7, hg, mod_ints]
  by_cases h11 : n % 11 = 0
  · simp [b_is_prime, h0, h2, h3, h5, h7, h11, hg, mod_ints]
  have hd : (if n % 2 = 0 then decide (n = 2) else if n % 3 = 0 then decide (n = 3) else if n % 5 = 0 then decide (n = 5) else if n % 7 = 0 then decide (n = 7) else if n % 11 = 0 then decide (n = 11)
    else decide ((([2, 3, 5, 7, 11] : List Int).filter (fun b => !standsP n b)).map id = [])) = decide ((([2, 3, 5, 7, 11] : List Int).filter (fun b => !standsP n b)).map id = []) := by
    rw [if_neg h2, if_neg h3, if_neg h5, if_neg h7, if_neg h11]
  rw [hd]
  generalize (([2, 3, 5, 7, 11] : List Int).filter (fun b => !standsP n b)).map id = L at *
  have e : ∀ en, cmpR .eq en m (.val (.lst (L.map W.int))) (.val (.lst [])) = some (decide (L = [])) := fun en => eq_lists (ns := L) (ms := []) rfl rfl rfl rfl
  simp only [List.map_cons, List.map_nil] at hcl hg
  have hl : (5 : Nat) ≤ LIM := by decide
  simp [b_is_prime, h0, h2, h3, h5, h7, h11, hg, mod_ints, frz_cons, hcl, e, hl]
end
end Mp

set_option Elab.async false
set_option linter.all false
set_option maxRecDepth 100000
set_option maxHeartbeats 4000000
namespace Mp
open PySem PySem.Spec PyProof.Rows L2
def PR17 : List Int := [2, 3, 5, 7, 11, 13, 17, 23, 41, 43, 101, 257, 10007, 65537, 999983, 1000000007, 9999999967]
def PRS : List Int := [2, 3, 5, 7, 11, 13, 17, 23, 41, 43, 101, 257, 10007, 65537, 999983, 1000000007, 9999999967, 31, 53, 97, 1000003, 999999937]
theorem pr17_prs : ∀ p ∈ PR17, p ∈ PRS := by decide +kernel
theorem prs_prime : PRS.all isP = true := by decide +kernel
theorem prs_lim : ∀ p ∈ PRS, 2 ≤ p ∧ p ≤ 9999999967 := by decide +kernel
theorem prs_is {p : Int} (h : p ∈ PRS) : isP p = true := List.all_eq_true.mp prs_prime p h
theorem big200 : (10 : Int) ^ 200 < BIG := by decide +kernel
theorem mulOk_200 {i j : Int} (h : 0 ≤ i) (h1 : i ≤ 10 ^ 200) (h2 : 0 ≤ j) (h3 : j ≤ 10 ^ 200) : mulOk i j = true := by
  have := big200
  exact mulOk_b ⟨by omega, by omega⟩ ⟨by omega, by omega⟩
section
variable {cs : Nat → List W → Sto → CR} {fs : List Fd} {gl : List W} {N k f : Nat} {m : Sto} {en : En}
theorem need_prime_run {n : Int} {q c g cp : Nat} (hq : fs[q]? = some ⟨1, 1, b_need_prime f⟩) (hf : fs[f]? = some ⟨1, 2, b_is_prime c g⟩) (hc : fs[c]? = some ⟨2, 4, b_stands cp⟩) (hp : fs[cp]? = some ⟨3, 5, b_power_by⟩)
    (hg : gl[g]? = some (.tup (([2, 3, 5, 7, 11] : List Int).map W.int))) (hn : n ∈ PRS) (hN : 100 ≤ N) : callN fs gl N (k + 4) q [.int n] m = .ok (.val .non) m := by
  rw [call_at hq rfl]
  have h := prime_run (k := k) (gl := gl) (N := N) (m := m) (n := n) hf hc hp hg (by have := (prs_lim n hn).2; omega) hN
  simp [b_need_prime, h, prs_is hn]
@[simp] theorem len_lst {m : Sto} {ws : List W} : bltR .len m [.lst ws] = some (.val (.int (ws.length : Nat))) := rfl
theorem cmp_pow {en : En} {m : Sto} {b e r : Int} (h : 0 ≤ e ∧ e ≤ 1000 ∧ -(2 ^ 64) < b ∧ b < 2 ^ 64) (hr : b ^ e.toNat = r) : binR .pow en m (.val (.int b)) (.val (.int e)) = some (.val (.int r)) := by rw [pow_ints h, hr]
theorem need_table_run {tb : List Int} {p : Int} (hf : fs[f]? = some ⟨2, 3, b_need_table⟩) (h1 : 1 ≤ tb.length) (h2 : (tb.length : Int) < p) (h3 : ∀ x ∈ tb, 0 ≤ x ∧ x < p) (hl : tb.length ≤ LIM) :
    callN fs gl N (k + 1) f [.lst (tb.map W.int), .int p] m = .ok (.val .non) m := by
  rw [call_at hf rfl]
  have hcl := cl_ints (cs := callN fs gl N k) (gl := gl) (m := m) (en := [some (.val (.lst (tb.map W.int))), some (.val (.int p)), none]) (j := 2) (c := .not (.chain .le .lt (.int 0) (.var 2) (.var 1))) (elt := .var 2) (ck := [])
    (fun _ => false) id (ns := tb) rfl rfl (fun i hi => ⟨by simp [isNil, h3 i hi], fun h => by simp at h⟩)
  rw [show tb.filter (fun _ => false) = [] by simp] at hcl
  have e : ∀ en, cmpR .ne en m (.val (.lst [])) (.val (.lst [])) = some false := fun en => ne_lists (ns := []) (ms := []) rfl rfl rfl rfl
  have h1' : (1 : Int) ≤ (tb.length : Int) := by omega
  simp only [List.map_nil] at hcl
  simp [b_need_table, h1', h2, hl, hcl, frz_cons, e]
def stirV (cell k : Int) : Int :=
  let n := cell % 10 ^ 40 * 48271 + 3 ^ 60 * (k + 1) * (k + 1) + k
  let n2 := n * n + 69621 * n
  n2 * n2 % (10 ^ 61 + 7) / 8
theorem stir_lim {cell k : Int} : 0 ≤ stirV cell k ∧ stirV cell k ≤ 10 ^ 61 := by
  unfold stirV
  dsimp only
  generalize (cell % 10 ^ 40 * 48271 + 3 ^ 60 * (k + 1) * (k + 1) + k) * (cell % 10 ^ 40 * 48271 + 3 ^ 60 * (k + 1) * (k + 1) + k) + 69621 * (cell % 10 ^ 40 * 48271 + 3 ^ 60 * (k + 1) * (k + 1) + k) = z
  have h1 := Int.emod_nonneg (z * z) (show (10 ^ 61 + 7 : Int) ≠ 0 by decide)
  have h2 := Int.emod_lt_of_pos (z * z) (show (0 : Int) < 10 ^ 61 + 7 by decide)
  omega
theorem sq_le {a b : Int} (h : 0 ≤ a) (h2 : a ≤ b) : a * a ≤ b * b := Int.mul_le_mul h2 h2 h (by omega)
theorem stir_run {cell j : Int} (hf : fs[f]? = some ⟨2, 3, b_law_stir⟩) (hj : j = 1 ∨ j = 2 ∨ j = 3) : callN fs gl N (k + 1) f [.int cell, .int j] m = .ok (.val (.int (stirV cell j))) m := by
  rw [call_at hf rfl]
  have p40 : ∀ en m, binR .pow en m (.val (.int 10)) (.val (.int 40)) = some (.val (.int (10 ^ 40))) := fun en m => cmp_pow (by decide) rfl
  have p60 : ∀ en m, binR .pow en m (.val (.int 3)) (.val (.int 60)) = some (.val (.int (3 ^ 60))) := fun en m => cmp_pow (by decide) rfl
  have p61 : ∀ en m, binR .pow en m (.val (.int 10)) (.val (.int 61)) = some (.val (.int (10 ^ 61))) := fun en m => cmp_pow (by decide) rfl
  have c0 := Int.emod_nonneg cell (show (10 ^ 40 : Int) ≠ 0 by decide)
  have c1 := Int.emod_lt_of_pos cell (show (0 : Int) < 10 ^ 40 by decide)
  have m1 : mulOk (cell % 10 ^ 40) 48271 = true := mulOk_r (by decide)
  have m2 : mulOk (3 ^ 60) (j + 1) = true := mulOk_r (by omega)
  have m3 : mulOk (3 ^ 60 * (j + 1)) (j + 1) = true := mulOk_r (by omega)
  have nb : 0 ≤ cell % 10 ^ 40 * 48271 + 3 ^ 60 * (j + 1) * (j + 1) + j ∧ cell % 10 ^ 40 * 48271 + 3 ^ 60 * (j + 1) * (j + 1) + j ≤ 10 ^ 46 := by
    rcases hj with rfl | rfl | rfl <;> omega
  unfold stirV
  dsimp only
  generalize hn : cell % 10 ^ 40 * 48271 + 3 ^ 60 * (j + 1) * (j + 1) + j = n at nb ⊢
  have q1 := sq_le nb.1 nb.2
  have q0 : 0 ≤ n * n := Int.mul_nonneg nb.1 nb.1
  have m4 : mulOk n n = true := mulOk_200 nb.1 (by omega) nb.1 (by omega)
  have m5 : mulOk 69621 n = true := mulOk_l (by decide)
  have m6 : mulOk (n * n + 69621 * n) (n * n + 69621 * n) = true := mulOk_200 (by omega) (by omega) (by omega) (by omega)
  have d1 : (0 : Int) < 10 ^ 61 + 7 := by decide
  have d2 : (0 : Int) < 8 ∧ (8 : Int) < BIG := ⟨by decide, by decide +kernel⟩
  have d3 : (0 : Int) < 10 ^ 40 := by decide
  simp only [b_law_stir, List.map_cons, List.map_nil, List.length_cons, List.length_nil, List.replicate, sv_seq, sv_asg, sv_ret, sv_skip, ev_bin, ev_var, ev_int, enGet_0, enGet_s, bind_okR, bnd_ok, optp_some, opt2p_some, hold_val, List.cons_append, List.nil_append,
    p40, p60, p61, opt_someR, mod_ints d3, mod_ints d1, mul_ints m1, mul_ints m2, mul_ints m3, add_ints, slOf_val, opt2_someR, hn, mul_ints m4, mul_ints m5, mul_ints m6, fdiv_ints d2, List.set_cons_succ, List.set_cons_zero, thn_nx, thn_rt, retR_val, end_rt, Nat.reduceSub, Nat.reduceAdd, List.replicate_succ, List.replicate_zero]

theorem deck_run {cell : Int} {c : Nat} (hf : fs[f]? = some ⟨1, 1, b_law_deck c⟩) (hc : fs[c]? = some ⟨2, 3, b_law_stir⟩) : ∃ d, callN fs gl N (k + 2) f [.int cell] m = .ok (.new [.int d]) m := by
  rw [call_at hf rfl]
  have p18 : ∀ en m, binR .pow en m (.val (.int 10)) (.val (.int 18)) = some (.val (.int (10 ^ 18))) := fun en m => cmp_pow (by decide) rfl
  have p60 : ∀ en m, binR .pow en m (.val (.int 10)) (.val (.int 60)) = some (.val (.int (10 ^ 60))) := fun en m => cmp_pow (by decide) rfl
  by_cases h : 10 ^ 18 ≤ cell
  · refine ⟨cell - 10 ^ 18, ?_⟩
    have hl : (1 : Nat) ≤ LIM := by decide
    simp only [b_law_deck, List.map_cons, List.map_nil, List.length_cons, List.length_nil, List.replicate, sv_seq, sv_iff, sv_ret, sv_skip, ev_cmp, ev_bin, ev_var, ev_int, ev_lst, evs_cons, evs_nil, enGet_0, enGet_s, bind_okR, bnd_ok, optp_some, opt2p_some, hold_val, List.cons_append, List.nil_append,
      p18, opt_someR, ge_ints, blR_bl, h, decide_true, if_true, sub_ints, esc_val, opt2_someR, Nat.zero_add, hl, thn_nx, thn_rt, retR_new, end_rt, Nat.reduceSub, Nat.reduceAdd]
  · have s := fun j (hj : j = 1 ∨ j = 2 ∨ j = 3) => stir_run (k := k) (gl := gl) (N := N) (m := m) (cell := cell) hc hj
    have l1 := stir_lim (cell := cell) (k := 1)
    have l2 := stir_lim (cell := cell) (k := 2)
    have l3 := stir_lim (cell := cell) (k := 3)
    have s1 := s 1 (.inl rfl)
    have s2 := s 2 (.inr (.inl rfl))
    have s3 := s 3 (.inr (.inr rfl))
    have hl : (1 : Nat) ≤ LIM := by decide
    generalize stirV cell 1 = v1 at *
    generalize stirV cell 2 = v2 at *
    generalize stirV cell 3 = v3 at *
    have m1 : mulOk v1 (10 ^ 60) = true := mulOk_200 (by omega) (by omega) (by decide) (by decide)
    have m2 : mulOk (v1 * 10 ^ 60 + v2) (10 ^ 60) = true := mulOk_200 (by omega) (by omega) (by decide) (by decide)
    refine ⟨(v1 * 10 ^ 60 + v2) * 10 ^ 60 + v3, ?_⟩
    simp only [b_law_deck, List.map_cons, List.map_nil, List.length_cons, List.length_nil, List.replicate, sv_seq, sv_iff, sv_ret, sv_skip, ev_cmp, ev_bin, ev_var, ev_int, ev_lst, ev_call, evs_cons, evs_nil, enGet_0, enGet_s, bind_okR, bnd_ok, optp_some, opt2p_some, hold_val, List.cons_append, List.nil_append,
      p18, p60, opt_someR, ge_ints, blR_bl, h, decide_false, Bool.false_eq_true, if_false, if_true, add_ints, mul_ints m1, mul_ints m2, esc_val, opt2_someR, Nat.zero_add, hl, thn_nx, thn_rt, retR_new, end_rt, Nat.reduceSub, Nat.reduceAdd, s1, s2, s3, toR_ok]
theorem emod_get {A : Type} {xs : List A} {d : Int} (h : 0 < xs.length) : ∃ x ∈ xs, atI xs (d % (xs.length : Int)) = some x := by
  have h1 := Int.emod_nonneg d (show (xs.length : Int) ≠ 0 by omega)
  have h2 := Int.emod_lt_of_pos d (show (0 : Int) < xs.length by omega)
  have h3 : (d % (xs.length : Int)).toNat < xs.length := by omega
  exact ⟨xs[(d % (xs.length : Int)).toNat], List.getElem_mem _, at_ok h1 (List.getElem?_eq_getElem h3)⟩
theorem prime_drawn {r : Nat} {d least : Int} {c : Nat} (hf : fs[f]? = some ⟨2, 4, b_law_prime c⟩) (hc : fs[c]? = some ⟨2, 3, b_law_take⟩) (hm : m[r]? = some (.lst [.int d])) (hl : least ≤ 9999999967) :
    ∃ p d2, callN fs gl N (k + 2) f [.ref r, .int least] m = .ok (.val (.int p)) (m.set r (.lst [.int d2])) ∧ p ∈ PRS ∧ least ≤ p := by
  rw [call_at hf rfl]
  have hcl := cl_ints (cs := callN fs gl N (k + 1)) (gl := gl) (m := m) (en := [some (.val (.ref r)), some (.val (.int least)), some (.val (.lst (PR17.map W.int))), none]) (j := 3) (c := .cmp .ge (.var 3) (.var 1)) (elt := .var 3) (ck := [])
    (fun x => decide (least ≤ x)) id (ns := PR17) rfl rfl (fun i hi => ⟨by simp [isNil], fun _ => by simp⟩)
  rw [List.map_id] at hcl
  have hin : (9999999967 : Int) ∈ PR17.filter (fun x => decide (least ≤ x)) := List.mem_filter.mpr ⟨by decide, by simpa using hl⟩
  have hlen : 0 < (PR17.filter (fun x => decide (least ≤ x))).length := List.length_pos_iff_exists_mem.mpr ⟨_, hin⟩
  have hlen2 : (PR17.filter (fun x => decide (least ≤ x))).length ≤ 17 := List.length_filter_le _ _
  have hmem : ∀ x ∈ PR17.filter (fun x => decide (least ≤ x)), x ∈ PRS ∧ least ≤ x := fun x hx => by
    obtain ⟨h1, h2⟩ := List.mem_filter.mp hx
    exact ⟨pr17_prs x h1, by simpa using h2⟩
  generalize PR17.filter (fun x => decide (least ≤ x)) = L at *
  have hb : (17 : Int) < BIG := by decide +kernel
  have tk := take_run (k := k) (gl := gl) (N := N) (n := (L.length : Int)) hc hm (by omega) (by omega)
  obtain ⟨w, hw, e⟩ := emod_get (xs := L.map W.int) (d := d) (by rw [List.length_map]; exact hlen)
  obtain ⟨p, hp, rfl⟩ := List.mem_map.mp hw
  rw [List.length_map] at e
  refine ⟨p, d / L.length, ?_, (hmem p hp).1, (hmem p hp).2⟩
  have g17 : (17 : Nat) ≤ LIM := by decide
  simp only [PR17, List.map_cons, List.map_nil] at hcl
  simp [b_law_prime, g17, frz_cons, esc, hcl, idx_own, tk, e, List.length_map]
theorem at_two {A : Type} {x y : A} {d : Int} : atI [x, y] (d % 2) = some x ∨ atI [x, y] (d % 2) = some y := by
  have : d % 2 = 0 ∨ d % 2 = 1 := by omega
  rcases this with h | h <;> rw [h]
  · exact .inl (at_0)
  · exact .inr (at_1)
/-- a drawn table -/
structure TableOk (most : Int) (p : Int) (tb : List Int) : Prop where
  prime : p ∈ PRS
  one : 1 ≤ tb.length
  most : (tb.length : Int) ≤ most
  few : (tb.length : Int) < p
  worth : ∀ x ∈ tb, 0 ≤ x ∧ x < p
theorem table_drawn {r : Nat} {d most : Int} {c cp : Nat} (hf : fs[f]? = some ⟨2, 6, b_law_table cp c⟩) (hp : fs[cp]? = some ⟨2, 4, b_law_prime c⟩) (hc : fs[c]? = some ⟨2, 3, b_law_take⟩) (hm : m[r]? = some (.lst [.int d])) (h1 : 1 ≤ most) (h2 : most ≤ 1000) :
    ∃ p tb d2, callN fs gl N (k + 3) f [.ref r, .int most] m = .ok (.val (.tup [.int p, .lst (tb.map W.int)])) (m.set r (.lst [.int d2])) ∧ TableOk most p tb := by
  rw [call_at hf rfl]
  have hb : (9999999968 : Int) < BIG := by decide +kernel
  have t1 := take_run (k := k + 1) (gl := gl) (N := N) (n := most) hc hm (by omega) (by omega)
  have q0 := Int.emod_nonneg d (show most ≠ 0 by omega)
  have q1 := Int.emod_lt_of_pos d (show 0 < most by omega)
  obtain ⟨p, d2, t2, hp1, hp2⟩ := prime_drawn (k := k) (gl := gl) (N := N) (d := d / most) (least := 1 + d % most + 1) hp hc (get_set hm) (by omega)
  have hp3 := prs_lim p hp1
  rw [set_set] at t2
  have t3 := take_run (k := k + 1) (gl := gl) (N := N) (n := 2) hc (get_set (b := .lst [.int d2]) hm) (by omega) (by omega)
  rw [set_set] at t3
  generalize hd3 : d2 / 2 = d3 at t3
  have hf2 : ∃ far, atI [W.int 2, W.int p] (d2 % 2) = some (.int far) ∧ 0 < far ∧ far ≤ p := by
    rcases at_two (x := W.int 2) (y := W.int p) (d := d2) with h | h
    · exact ⟨2, h, by omega, by omega⟩
    · exact ⟨p, h, by omega, by omega⟩
  obtain ⟨far, e1, f0, f1⟩ := hf2
  -- the worths
  have ea := cl_each (cs := callN fs gl N (k + 2)) (gl := gl) (tg := .one 5) (js := [5]) (elt := .call c 2 (.cons (.var 0) (.cons (.var 4) .nil)))
    (en := [some (.val (.ref r)), some (.val (.int most)), some (.val (.int (1 + d % most))), some (.val (.int p)), some (.val (.int far)), none])
    (fun mm => ∃ dd, mm = m.set r (.lst [.int dd])) (fun _ w => ∃ x, w = .int x ∧ 0 ≤ x ∧ x < p) (zs := (List.range (1 + d % most).toNat).map fun (i : Nat) => W.int (0 + (i : Int))) (m := m.set r (.lst [.int d3])) ⟨d3, rfl⟩ (fun z hz mm hI => by
      obtain ⟨dd, rfl⟩ := hI
      have t := take_run (k := k + 1) (gl := gl) (N := N) (n := far) hc (get_set (b := .lst [.int dd]) hm) f0 (by omega)
      rw [set_set] at t
      refine ⟨_, _, _, _, _, _, rfl, by simp [t]; exact ⟨rfl, rfl, rfl⟩, rfl, by simp, ⟨_, rfl⟩, dd % far, rfl, Int.emod_nonneg _ (by omega), ?_⟩
      have := Int.emod_lt_of_pos dd f0
      omega)
  obtain ⟨rs, mm, e2, ⟨d4, rfl⟩, e4⟩ := ea
  have hrs : ∃ tb : List Int, rs = tb.map W.int ∧ ∀ x ∈ tb, 0 ≤ x ∧ x < p := by
    have : ∀ {zs rs : List W}, All2 (fun _ w => ∃ x, w = W.int x ∧ 0 ≤ x ∧ x < p) zs rs → ∃ tb : List Int, rs = tb.map W.int ∧ ∀ x ∈ tb, 0 ≤ x ∧ x < p := by
      intro zs rs h
      induction h with
      | nil => exact ⟨[], rfl, fun x hx => by cases hx⟩
      | cons hq _ ih =>
        obtain ⟨x, rfl, hx⟩ := hq
        obtain ⟨tb, rfl, ht⟩ := ih
        exact ⟨x :: tb, rfl, fun y hy => by
          rcases List.mem_cons.mp hy with rfl | hy
          · exact hx
          · exact ht y hy⟩
    exact this e4
  obtain ⟨tb, rfl, hw⟩ := hrs
  have hlen := e4.len
  rw [List.length_map, List.length_range, List.length_map] at hlen
  refine ⟨p, tb, d4, ?_, hp1, by omega, by omega, by omega, hw⟩
  have g1 : rngOk (1 + d % most) = true := by unfold rngOk; exact decide_eq_true ⟨by omega, by omega⟩
  have g2 : (2 : Nat) ≤ LIM := by decide
  have g3 : (1 + d % most).toNat ≤ LIM := by unfold LIM; omega
  simp only [Int.zero_add] at e2
  simp [b_law_table, t1, t2, t3, e1, items_rng1 g1, e2, g2, g3, frz_cons]
end
end Mp

set_option Elab.async false
set_option linter.all false
set_option maxRecDepth 100000
set_option maxHeartbeats 4000000
namespace Mp
open PySem PySem.Spec PyProof.Rows L2
theorem shr_ints {en : En} {m : Sto} {i j : Int} (h : 0 ≤ j) : binR .shr en m (.val (.int i)) (.val (.int j)) = some (.val (.int (i / 2 ^ j.toNat))) := by show (if 0 ≤ j then _ else _) = _; rw [if_pos h]
theorem band_ints {en : En} {m : Sto} {i : Int} (h : 0 ≤ i) : binR .band en m (.val (.int i)) (.val (.int 1)) = some (.val (.int (i % 2))) := by show (if (1 : Int) = 1 ∧ 0 ≤ i then _ else _) = _; rw [if_pos ⟨rfl, h⟩]
theorem items_rng3 {m : Sto} {a b : Int} (h : rngOk a = true) (h2 : rngOk b = true) : itemsR .rng3 m [.int a, .int b, .int (-1)] = some ((List.range (a - b).toNat).map fun (i : Nat) => .int (a + (i : Int) * (-1)), []) := by
  show (if (-1 : Int) = -1 ∧ rngOk a = true ∧ rngOk b = true then _ else _) = _
  rw [if_pos ⟨rfl, h, h2⟩]
theorem bits_lt {e : Int} (h : 0 ≤ e) : e < 2 ^ (Builtin.Int.intBits e) := by
  unfold Builtin.Int.intBits
  by_cases h0 : e = 0
  · subst h0; decide
  · have : (e == 0) = false := by simpa using h0
    rw [this, if_neg Bool.false_ne_true]
    have q := Nat.lt_log2_self (n := e.natAbs)
    have q2 : ((e.natAbs : Nat) : Int) < ((2 ^ (e.natAbs.log2 + 1) : Nat) : Int) := by exact_mod_cast q
    rw [Int.natCast_pow] at q2
    have q3 : ((e.natAbs : Nat) : Int) = e := by omega
    rw [q3] at q2
    exact q2
theorem bits_le {e : Int} {n : Nat} (h : 0 ≤ e) (h2 : e < 2 ^ n) (hn : 0 < n) : Builtin.Int.intBits e ≤ n := by
  unfold Builtin.Int.intBits
  by_cases h0 : e = 0
  · subst h0; simp
  · have : (e == 0) = false := by simpa using h0
    rw [this, if_neg Bool.false_ne_true]
    have q3 : ((e.natAbs : Nat) : Int) = e := by omega
    have h4 : ((e.natAbs : Nat) : Int) < ((2 ^ n : Nat) : Int) := by
      rw [Int.natCast_pow, q3]
      exact h2
    have h3 : e.natAbs < 2 ^ n := by exact_mod_cast h4
    have := (Nat.log2_lt (by omega)).mpr h3
    omega
theorem pow_down {b p q : Int} (h : 0 ≤ q) : (if q % 2 = 1 then (b ^ (q / 2).toNat % p) * (b ^ (q / 2).toNat % p) % p * b % p else (b ^ (q / 2).toNat % p) * (b ^ (q / 2).toNat % p) % p) = b ^ q.toNat % p := by
  have e1 : (b ^ (q / 2).toNat % p) * (b ^ (q / 2).toNat % p) % p = b ^ (2 * (q / 2).toNat) % p := by
    rw [← Int.mul_emod, show 2 * (q / 2).toNat = (q / 2).toNat + (q / 2).toNat by omega, Int.pow_add]
  rw [e1]
  by_cases c : q % 2 = 1
  · rw [if_pos c, show q.toNat = 2 * (q / 2).toNat + 1 by omega, Int.pow_succ, Int.mul_emod, Int.emod_emod, ← Int.mul_emod]
  · rw [if_neg c, show q.toNat = 2 * (q / 2).toNat by omega]
def w_pow2 : S := (.seq (.asg 3 (.bin .mod (.bin .mul (.var 3) (.var 3)) (.var 2)))
  (.seq (.iff (.cmp .eq (.bin .band (.bin .shr (.var 1) (.var 4)) (.int 1)) (.int 1)) (.seq (.asg 3 (.bin .mod (.bin .mul (.var 3) (.var 0)) (.var 2)))
  .skip) .skip)
  .skip))
section
variable {cs : Nat → List W → Sto → CR} {fs : List Fd} {gl : List W} {N k f : Nat} {m : Sto} {en : En}
theorem pow2_loop {b e p : Int} (he : 0 ≤ e) (hp : 0 < p) (hp2 : p ≤ 2 ^ 64) : ∀ (n : Nat) (x : Option Sl), ∃ y, fl cs gl N (.one 4) w_pow2 [] ((List.range n).map fun (i : Nat) => .int ((n : Int) - 1 + (i : Int) * (-1)))
    [some (.val (.int b)), some (.val (.int e)), some (.val (.int p)), some (.val (.int (b ^ (e / 2 ^ n).toNat % p))), x] m = .ok .nx [some (.val (.int b)), some (.val (.int e)), some (.val (.int p)), some (.val (.int (b ^ e.toNat % p))), y] m
  | 0, x => ⟨x, by simp⟩
  | n + 1, x => by
    have e0 : e / 2 ^ (n + 1) = (e / 2 ^ n) / 2 := by
      rw [Int.pow_succ, Int.ediv_ediv_of_nonneg (Int.le_of_lt (Int.pow_pos (by decide)))]
    have q0 : 0 ≤ e / 2 ^ n := Int.ediv_nonneg he (Int.le_of_lt (Int.pow_pos (by decide)))
    obtain ⟨y, ih⟩ := pow2_loop he hp hp2 n (some (.val (.int (n : Int))))
    refine ⟨y, ?_⟩
    rw [List.range_succ_eq_map, List.map_cons, List.map_map, fl_cons0]
    have el : (List.range n).map ((fun (i : Nat) => W.int (((n + 1 : Nat) : Int) - 1 + (i : Int) * (-1))) ∘ Nat.succ) = (List.range n).map fun (i : Nat) => W.int ((n : Int) - 1 + (i : Int) * (-1)) := by
      refine List.map_congr_left fun i _ => ?_
      show W.int _ = W.int _
      congr 1
      push_cast
      omega
    rw [el, e0]
    have pd := pow_down (b := b) (p := p) q0
    have b0 := Int.emod_nonneg (b ^ (e / 2 ^ n / 2).toNat) (show p ≠ 0 by omega)
    have b1 := Int.emod_lt_of_pos (b ^ (e / 2 ^ n / 2).toNat) hp
    generalize b ^ (e / 2 ^ n / 2).toNat % p = fd at *
    have c0 := Int.emod_nonneg (fd * fd) (show p ≠ 0 by omega)
    have c1 := Int.emod_lt_of_pos (fd * fd) hp
    have m1 : mulOk fd fd = true := mulOk_l ⟨by omega, by omega⟩
    have m2 : mulOk (fd * fd % p) b = true := mulOk_l ⟨by omega, by omega⟩
    have ez : ((n + 1 : Nat) : Int) - 1 + ((0 : Nat) : Int) * (-1) = (n : Int) := by omega
    rw [ez]
    have hn : (0 : Int) ≤ (n : Int) := by omega
    rw [← pd] at ih
    have hs : sv cs gl N w_pow2 [some (.val (.int b)), some (.val (.int e)), some (.val (.int p)), some (.val (.int fd)), some (.val (.int (n : Int)))] m =
        .ok .nx [some (.val (.int b)), some (.val (.int e)), some (.val (.int p)), some (.val (.int (if e / 2 ^ n % 2 = 1 then fd * fd % p * b % p else fd * fd % p))), some (.val (.int (n : Int)))] m := by
      by_cases hq : e / 2 ^ n % 2 = 1 <;> simp [w_pow2, mul_ints m1, mul_ints m2, mod_ints hp, shr_ints hn, band_ints q0, hq]
    show thn (sv cs gl N w_pow2 [some (.val (.int b)), some (.val (.int e)), some (.val (.int p)), some (.val (.int fd)), some (.val (.int (n : Int)))] m) _ = _
    rw [hs, thn_nx]
    exact ih
theorem pow2_run {b e p : Int} (hf : fs[f]? = some ⟨3, 5, b_law_power⟩) (he : 0 ≤ e) (he2 : e < 2 ^ 60) (hp : 0 < p) (hp2 : p ≤ 2 ^ 64) : callN fs gl N (k + 1) f [.int b, .int e, .int p] m = .ok (.val (.int (b ^ e.toNat % p))) m := by
  rw [call_at hf rfl]
  have q : b_law_power = .seq (.asg 3 (.bin .mod (.int 1) (.var 2))) (.seq (.for_ .rng3 (.cons (.bin .sub (.mth .bits (.var 1) .nil) (.int 1)) (.cons (.neg (.int 1)) (.cons (.neg (.int 1)) .nil))) (.one 4) w_pow2) (.seq (.ret (.var 3)) .skip)) := rfl
  have hb := bits_lt he
  have hb2 := bits_le he he2 (by decide)
  obtain ⟨y, h⟩ := pow2_loop (cs := callN fs gl N k) (gl := gl) (N := N) (m := m) (b := b) he hp hp2 (Builtin.Int.intBits e) none
  rw [Int.ediv_eq_zero_of_lt he hb] at h
  simp only [Int.toNat_zero, Int.pow_zero] at h
  have ev_bits : ∀ {a : E} {en : En} {m : Sto}, ev (callN fs gl N k) gl (.mth .bits a .nil) en m = bnd (ev (callN fs gl N k) gl a en m) fun x en m => optp (intR x) fun i => .ok (.val (.int (bitsOf i))) en m := by intros; simp only [ev]; rfl
  have eb : bitsOf e = (Builtin.Int.intBits e : Nat) := rfl
  have g1 : rngOk ((Builtin.Int.intBits e : Int) - 1) = true := by unfold rngOk; exact decide_eq_true ⟨by omega, by omega⟩
  have g2 : rngOk (-1) = true := by decide
  have e2 : ((Builtin.Int.intBits e : Int) - 1 - (-1)).toNat = Builtin.Int.intBits e := by omega
  have it := fun m => items_rng3 (m := m) g1 g2
  rw [e2] at it
  simp only [q, List.map_cons, List.map_nil, List.length_cons, List.length_nil, List.replicate, sv_seq, sv_asg, sv_for, sv_ret, sv_skip, ev_bits, ev_bin, ev_neg, ev_var, ev_int, evs_cons, evs_nil, enGet_0, enGet_s, bind_okR, bnd_ok, optp_some, opt2p_some, hold_val, List.cons_append, List.nil_append,
    opt_someR, mod_ints hp, slOf_val, opt2_someR, List.set_cons_succ, List.set_cons_zero, thn_nx, intR_int, eb, sub_ints, esc_val, it, h, thn_rt, retR_val, end_rt, Nat.reduceSub, Nat.reduceAdd]
/-- a sum of products over places -/
def sumF (f : Int → Int → Int) : Int → List Int → Int
  | _, [] => 0
  | i, x :: xs => f i x + sumF f (i + 1) xs
theorem intsW_ints : ∀ ns : List Int, intsW (ns.map W.int) = some ns
  | [] => rfl
  | n :: ns => by simp only [List.map_cons, intsW, intsW_ints ns, Option.map_some]
@[simp] theorem sum_lst {m : Sto} {ns : List Int} : bltR .sum m [.lst (ns.map W.int)] = some (.val (.int ns.sum)) := by
  show ((lstW m (.lst (ns.map W.int))).bind fun ws => (intsW ws).map fun s => RV.val (.int s.sum)) = _
  rw [lstW_lst, Option.bind_some, intsW_ints]; rfl
def enumF (i : Nat) : List W → List W
  | [] => []
  | w :: ws => .tup [.int (i : Nat), w] :: enumF (i + 1) ws
theorem enumL_eq : ∀ (ws : List W), enumL ws = enumF 0 ws := by
  have go : ∀ (ws : List W) (i : Nat), ((List.range ws.length).map (· + i)).zipWith (fun i w => W.tup [.int (i : Nat), w]) ws = enumF i ws := by
    intro ws
    induction ws with
    | nil => intro i; rfl
    | cons w ws ih =>
      intro i
      rw [List.length_cons, List.range_succ_eq_map, List.map_cons, List.map_map, List.zipWith_cons_cons]
      unfold enumF
      rw [Nat.zero_add]
      congr 1
      rw [← ih (i + 1)]
      congr 1
      exact List.map_congr_left fun j _ => by show j.succ + i = j + (i + 1); omega
  intro ws
  have := go ws 0
  rw [← this]
  unfold enumL
  congr 1
  exact (List.map_id'' (fun _ => rfl) _).symm
/-- a comprehension over places and worths, all as it was behind each turn -/
theorem cl_enum {i j : Nat} {elt : E} (g : Int → Int → Int) : ∀ {tb : List Int} (s : Nat), ((en.set j none).set i none = en) →
    (∀ (q : Nat) x, x ∈ tb → s ≤ q → q < s + tb.length → ev cs gl elt ((en.set i (some (.val (.int (q : Int))))).set j (some (.val (.int x)))) m = .ok (.val (.int (g q x))) ((en.set i (some (.val (.int (q : Int))))).set j (some (.val (.int x)))) m) →
    (∀ a b : Option Sl, (((((en.set i a).set j b)).set j none).set i none) = en) →
    ∃ rs : List Int, cl cs gl (.many [i, j]) [i, j] .nil elt [] (enumF s (tb.map W.int)) en m = .ok (rs.map W.int) en m ∧ rs.sum = sumF g s tb ∧ rs.length = tb.length
  | [], s, hw, h, hv => ⟨[], cl_nil rfl, rfl, rfl⟩
  | x :: tb, s, hw, h, hv => by
    obtain ⟨rs, h1, h2, h3⟩ := cl_enum (i := i) (j := j) (elt := elt) g (tb := tb) (s + 1) hw (fun q y hy a b => h q y (List.mem_cons_of_mem _ hy) (by omega) (by rw [List.length_cons]; omega)) hv
    refine ⟨g s x :: rs, ?_, ?_, by rw [List.length_cons, List.length_cons, h3]⟩
    · rw [List.map_cons, enumF, cl_keep rfl bind_many2 (by simp [isNil]) (h s x List.mem_cons_self (Nat.le_refl _) (by rw [List.length_cons]; omega)) rfl, wipe_cons, wipe_cons, wipe_nil, hv, h1]
      rfl
    · rw [List.sum_cons, h2]
      show _ = g (s : Int) x + sumF g ((s : Int) + 1) tb
      rfl
end
end Mp

set_option Elab.async false
set_option linter.all false
set_option maxRecDepth 100000
set_option maxHeartbeats 4000000
namespace Mp
open PySem PySem.Spec PyProof.Rows L2
theorem cut_ints {ns : List Int} {lo hi : Option Int} : ∃ l : List Int, cutL (ns.map W.int) lo hi = l.map W.int ∧ l.length ≤ ns.length := by
  unfold cutL
  rw [List.length_map, ← List.map_drop, ← List.map_take]
  refine ⟨_, rfl, ?_⟩
  rw [List.length_take, List.length_drop]
  omega
theorem slc_ev {cs : Nat → List W → Sto → CR} {gl : List W} {m : Sto} {en : En} {a lo hi : E} : ev cs gl (.slc a lo hi) en m = bnd (ev cs gl a en m) fun x en m => bnd (if isNil lo then .ok none en m else bnd (ev cs gl lo en m) fun y en m => optp (intR y) fun i => .ok (some i) en m) fun l en m =>
      bnd (if isNil hi then .ok none en m else bnd (ev cs gl hi en m) fun y en m => optp (intR y) fun i => .ok (some i) en m) fun h en m =>
      optp ((rvW en (hold x)).bind (lstS m)) fun ws => .ok (.new (cutL ws l h)) en m := by simp only [ev]; rfl
@[simp] theorem lstS_scr {m : Sto} {ws : List W} : lstS m (.scr ws) = some ws := rfl
@[simp] theorem lstS_lst {m : Sto} {ws : List W} : lstS m (.lst ws) = some ws := rfl
theorem add_lsts {en : En} {m : Sto} {ws zs : List W} (h : ws.length + zs.length ≤ LIM) : binR .add en m (.val (.lst ws)) (.val (.lst zs)) = some (.new (ws ++ zs)) := by
  show (if ws.length + zs.length ≤ LIM then _ else _) = _
  rw [if_pos h]
@[simp] theorem int_bl {m : Sto} {b : Bool} : bltR .int m [.bl b] = some (.val (.int (if b then 1 else 0))) := rfl
@[simp] theorem list_lst {m : Sto} {ws : List W} : bltR .list m [.lst ws] = some (.new ws) := rfl
@[simp] theorem ty_int {m : Sto} {i : Int} : tyR m (.int i) = some (some .int) := rfl
section
variable {fs : List Fd} {gl : List W} {N k f : Nat} {m : Sto} {en : En}
def sumJ (p j : Int) (tb : List Int) : Int := sumF (fun i x => x * ((i + 1) ^ j.toNat % p)) 0 tb % p
theorem sum_by_run {tb : List Int} {j p : Int} {c : Nat} (hf : fs[f]? = some ⟨3, 5, b_sum_by c⟩) (hc : fs[c]? = some ⟨3, 5, b_power_by⟩) (hp : 0 < p) (hp2 : p ≤ 2 ^ 60) (hj : 0 ≤ j) (hj2 : j < 2 ^ 60) (hl : tb.length ≤ LIM) (hN : 100 ≤ N) :
    callN fs gl N (k + 2) f [.lst (tb.map W.int), .int j, .int p] m = .ok (.val (.int (sumJ p j tb))) m := by
  rw [call_at hf rfl]
  obtain ⟨rs, h1, h2, h3⟩ := cl_enum (cs := callN fs gl N (k + 1)) (gl := gl) (m := m) (en := [some (.val (.lst (tb.map W.int))), some (.val (.int j)), some (.val (.int p)), none, none]) (i := 3) (j := 4)
    (elt := .bin .mul (.var 4) (.call c 3 (.cons (.bin .add (.var 3) (.int 1)) (.cons (.var 1) (.cons (.var 2) .nil))))) (fun i x => x * ((i + 1) ^ j.toNat % p)) (tb := tb) 0 rfl (fun q x hx _ _ => by
      have h := power_run (k := k) (gl := gl) (N := N) (m := m) (b := (q : Int) + 1) (e := j) (n := p) (t := 60) hc hp (by omega) hj hj2 (by omega)
      have z0 := Int.emod_nonneg (((q : Int) + 1) ^ j.toNat) (show p ≠ 0 by omega)
      have z1 := Int.emod_lt_of_pos (((q : Int) + 1) ^ j.toNat) hp
      have m1 : mulOk x (((q : Int) + 1) ^ j.toNat % p) = true := mulOk_r ⟨by omega, by omega⟩
      simp [h, mul_ints m1]) (fun a b => rfl)
  have hl2 : (enumF 0 (tb.map W.int)).length ≤ LIM := by
    have : ∀ (ws : List W) (i : Nat), (enumF i ws).length = ws.length := by
      intro ws
      induction ws with
      | nil => intro i; rfl
      | cons w ws ih => intro i; simp [enumF, ih]
    rw [this, List.length_map]; exact hl
  have e : rs.sum % p = sumJ p j tb := by rw [h2]; rfl
  simp [b_sum_by, frz_cons, enumL_eq, hl2, h1, mod_ints hp, e]
/-- what the functions of the sums want of the list of defs -/
structure SumFs (fs : List Fd) (gl : List W) (pb st ip np nt sb gB : Nat) : Prop where
  fpb : fs[pb]? = some ⟨3, 5, b_power_by⟩
  fst : fs[st]? = some ⟨2, 4, b_stands pb⟩
  fip : fs[ip]? = some ⟨1, 2, b_is_prime st gB⟩
  fnp : fs[np]? = some ⟨1, 1, b_need_prime ip⟩
  fnt : fs[nt]? = some ⟨2, 3, b_need_table⟩
  fsb : fs[sb]? = some ⟨3, 5, b_sum_by pb⟩
  fgB : gl[gB]? = some (.tup (([2, 3, 5, 7, 11] : List Int).map W.int))
theorem sum_number_run {pb st ip np nt sb sn gB gM : Nat} (F : SumFs fs gl pb st ip np nt sb gB) (hsn : fs[sn]? = some ⟨3, 3, b_sum_number np nt sb gM⟩) (hgM : gl[gM]? = some (.int 10000)) {most p j : Int} {tb : List Int} (T : TableOk most p tb) (hm : most ≤ 1000) (hj : 0 ≤ j) (hj2 : j ≤ 10000) (hN : 100 ≤ N) :
    callN fs gl N (k + 5) sn [.lst (tb.map W.int), .int j, .int p] m = .ok (.val (.int (sumJ p j tb))) m := by
  rw [call_at hsn rfl]
  have hp := prs_lim p T.prime
  have hl : tb.length ≤ LIM := by have := T.most; unfold LIM; omega
  have a1 := need_prime_run (k := k) (gl := gl) (N := N) (m := m) F.fnp F.fip F.fst F.fpb F.fgB T.prime hN
  have a2 : callN fs gl N (k + 4) nt [.lst (tb.map W.int), .int p] m = .ok (.val .non) m := need_table_run (k := k + 3) F.fnt T.one T.few T.worth hl
  have a3 : callN fs gl N (k + 4) sb [.lst (tb.map W.int), .int j, .int p] m = .ok (.val (.int (sumJ p j tb))) m := sum_by_run (k := k + 2) F.fsb F.fpb (by omega) (by omega) hj (by omega) hl hN
  simp [b_sum_number, a1, a2, a3, hgM, hj, hj2]

/-- what the decks want -/
structure DeckFs (fs : List Fd) (sr dk tk pr tb : Nat) : Prop where
  fsr : fs[sr]? = some ⟨2, 3, b_law_stir⟩
  fdk : fs[dk]? = some ⟨1, 1, b_law_deck sr⟩
  ftk : fs[tk]? = some ⟨2, 3, b_law_take⟩
  fpr : fs[pr]? = some ⟨2, 4, b_law_prime tk⟩
  ftb : fs[tb]? = some ⟨2, 6, b_law_table pr tk⟩
def k6_body (tk lp sn : Nat) : S := (.seq (.asg 7 (.bin .mod (.blt .sum (.cons (.comp .enum (.cons (.var 4) .nil) (.many [8, 9]) [8, 9] .nil (.bin .mul (.var 9) (.call lp 3 (.cons (.bin .add (.var 8) (.int 1)) (.cons (.var 6) (.cons (.var 3) .nil)))))) .nil)) (.var 3)))
  (.seq (.asg 10 (.call sn 3 (.cons (.var 5) (.cons (.var 6) (.cons (.var 3) .nil)))))
  (.seq (.iff (.or (.cons (.not (.isi (.var 10) [.int])) (.cons (.isi (.var 10) [.bool]) (.cons (.cmp .ne (.var 10) (.var 7)) (.cons (.cmp .ne (.var 5) (.var 4)) .nil))))) (.seq (.ret (.bl false))
  .skip) .skip)
  .skip)))
theorem k6_turn {pb st ip np nt sb sn gB gM tk lp : Nat} (F : SumFs fs gl pb st ip np nt sb gB) (hsn : fs[sn]? = some ⟨3, 3, b_sum_number np nt sb gM⟩) (hgM : gl[gM]? = some (.int 10000)) (hlp : fs[lp]? = some ⟨3, 5, b_law_power⟩) {most p j : Int} {tb : List Int} (T : TableOk most p tb) (hm : most ≤ 1000) (hj : 0 ≤ j) (hj2 : j ≤ 10000) (hN : 100 ≤ N)
    {s0 s1 s2 s5 s7 s10 : Option Sl} (h5 : s5 = some (.own (tb.map W.int)) ∨ s5 = some (.val (.lst (tb.map W.int)))) :
    ∃ a b, sv (callN fs gl N (k + 5)) gl N (k6_body tk lp sn) [s0, s1, s2, some (.val (.int p)), some (.val (.lst (tb.map W.int))), s5, some (.val (.int j)), s7, none, none, s10] m =
      .ok .nx [s0, s1, s2, some (.val (.int p)), some (.val (.lst (tb.map W.int))), some (.val (.lst (tb.map W.int))), some (.val (.int j)), some (.val (.int a)), none, none, some (.val (.int b))] m := by
  have hp := prs_lim p T.prime
  have hl : tb.length ≤ LIM := by have := T.most; unfold LIM; omega
  have hsn := sum_number_run (k := k) (gl := gl) (N := N) (m := m) F hsn hgM T hm hj hj2 hN
  have e5 : ∀ {s8 s9 : Option Sl}, ∃ rs : List Int, cl (callN fs gl N (k + 5)) gl (.many [8, 9]) [8, 9] .nil (.bin .mul (.var 9) (.call lp 3 (.cons (.bin .add (.var 8) (.int 1)) (.cons (.var 6) (.cons (.var 3) .nil))))) [] (enumF 0 (tb.map W.int))
      [s0, s1, s2, some (.val (.int p)), some (.val (.lst (tb.map W.int))), s5, some (.val (.int j)), s7, none, none, s10] m = .ok (rs.map W.int) [s0, s1, s2, some (.val (.int p)), some (.val (.lst (tb.map W.int))), s5, some (.val (.int j)), s7, none, none, s10] m ∧
      rs.sum % p = sumJ p j tb := by
    intros
    obtain ⟨rs, h1, h2, h3⟩ := cl_enum (cs := callN fs gl N (k + 5)) (gl := gl) (m := m) (en := [s0, s1, s2, some (.val (.int p)), some (.val (.lst (tb.map W.int))), s5, some (.val (.int j)), s7, none, none, s10]) (i := 8) (j := 9)
      (elt := .bin .mul (.var 9) (.call lp 3 (.cons (.bin .add (.var 8) (.int 1)) (.cons (.var 6) (.cons (.var 3) .nil))))) (fun i x => x * ((i + 1) ^ j.toNat % p)) (tb := tb) 0 rfl (fun q x hx _ _ => by
        have h : callN fs gl N (k + 5) lp [.int ((q : Int) + 1), .int j, .int p] m = _ := pow2_run (k := k + 4) (gl := gl) (N := N) (m := m) (b := (q : Int) + 1) (e := j) (p := p) hlp hj (by omega) (by omega) (by omega)
        have z0 := Int.emod_nonneg (((q : Int) + 1) ^ j.toNat) (show p ≠ 0 by omega)
        have z1 := Int.emod_lt_of_pos (((q : Int) + 1) ^ j.toNat) (show 0 < p by omega)
        have m1 : mulOk x (((q : Int) + 1) ^ j.toNat % p) = true := mulOk_r ⟨by omega, by omega⟩
        simp [h, mul_ints m1]) (fun a b => rfl)
    exact ⟨rs, h1, by rw [h2]; rfl⟩
  obtain ⟨rs, h1, h2⟩ := e5 (s8 := none) (s9 := none)
  have hl2 : (enumF 0 (tb.map W.int)).length ≤ LIM := by
    have : ∀ (ws : List W) (i : Nat), (enumF i ws).length = ws.length := by
      intro ws
      induction ws with
      | nil => intro i; rfl
      | cons w ws ih => intro i; simp [enumF, ih]
    rw [this, List.length_map]; exact hl
  have m0 := mod_ints (en := [s0, s1, s2, some (.val (.int p)), some (.val (.lst (tb.map W.int))), s5, some (.val (.int j)), s7, none, none, s10]) (m := m) (i := rs.sum) (show 0 < p by omega)
  have ne : ∀ en m, cmpR .ne en m (.val (.lst (tb.map W.int))) (.val (.lst (tb.map W.int))) = some false := fun en m => by
    rw [ne_lists (ns := tb) (ms := tb) rfl rfl rfl rfl]; simp
  refine ⟨sumJ p j tb, sumJ p j tb, ?_⟩
  rcases h5 with rfl | rfl
  · simp [k6_body, frz_cons, enumL_eq, hl2, h1, m0, h2, esc, hsn, isT, ne]
  · simp [k6_body, frz_cons, enumL_eq, hl2, h1, m0, h2, esc, hsn, isT, ne]

def k6_list (tk : Nat) : E := (.lst (.cons (.int 0) (.cons (.int 1) (.cons (.int 2) (.cons (.call tk 2 (.cons (.var 2) (.cons (.int 40) .nil))) (.cons (.call tk 2 (.cons (.var 2) (.cons (.int 10001) .nil))) (.cons (.int 10000) (.cons (.bin .mod (.var 3) (.int 9999)) .nil))))))))
def k6_turn_b (dk lp tbl tk sn : Nat) : S := (.seq (.asg 2 (.box (.call dk 1 (.cons (.var 1) .nil))))
  (.seq (.unp (.many [3, 4]) (.call tbl 2 (.cons (.var 2) (.cons (.idx (.lst (.cons (.int 12) (.cons (.int 40) .nil))) (.blt .int (.cons (.cmp .eq (.call tk 2 (.cons (.var 2) (.cons (.int 8) .nil))) (.int 3)) .nil))) .nil))))
  (.seq (.asg 5 (.blt .list (.cons (.var 4) .nil)))
  (.seq (.for_ .list (.cons (k6_list tk) .nil) (.one 6) (k6_body tk lp sn))
  .skip))))
theorem k6_outer {pb st ip np nt sb sn gB gM tk lp sr dk pr tbl : Nat} (F : SumFs fs gl pb st ip np nt sb gB) (hsn : fs[sn]? = some ⟨3, 3, b_sum_number np nt sb gM⟩) (hgM : gl[gM]? = some (.int 10000)) (D : DeckFs fs sr dk tk pr tbl) (hlp : fs[lp]? = some ⟨3, 5, b_law_power⟩) (hN : 100 ≤ N) {cell : Int}
    {s0 s2 s3 s4 s5 s6 s7 s10 : Option Sl} : ∃ x2 x3 x4 x5 x6 x7 x10 m2,
    sv (callN fs gl N (k + 5)) gl N (k6_turn_b dk lp tbl tk sn) [s0, some (.val (.int cell)), s2, s3, s4, s5, s6, s7, none, none, s10] m = .ok .nx [s0, some (.val (.int cell)), x2, x3, x4, x5, x6, x7, none, none, x10] m2 := by
  obtain ⟨d, h1⟩ : ∃ d, callN fs gl N (k + 5) dk [.int cell] m = .ok (.new [.int d]) m := deck_run (k := k + 3) D.fdk D.fsr
  have b8 : (10001 : Int) < BIG := by decide +kernel
  have r1 : (m ++ [Ob.lst [.int d]])[m.length]? = some (.lst [.int d]) := by simp
  generalize hm1 : m ++ [Ob.lst [.int d]] = m1 at r1
  generalize hr : m.length = r at *
  have h2 : callN fs gl N (k + 5) tk [.ref r, .int 8] m1 = _ := take_run (k := k + 4) D.ftk r1 (by decide) (by omega)
  have e12 : ∃ most : Int, atI [W.int 12, W.int 40] (if d % 8 = 3 then 1 else 0) = some (.int most) ∧ 1 ≤ most ∧ most ≤ 1000 := by
    by_cases c : d % 8 = 3
    · rw [if_pos c]; exact ⟨40, at_1, by decide, by decide⟩
    · rw [if_neg c]; exact ⟨12, at_0, by decide, by decide⟩
  obtain ⟨most, e1, e2, e3⟩ := e12
  obtain ⟨p, tb, d2, h3, T⟩ : ∃ p tb d2, callN fs gl N (k + 5) tbl [.ref r, .int most] (m1.set r (.lst [.int (d / 8)])) = .ok (.val (.tup [.int p, .lst (tb.map W.int)])) ((m1.set r (.lst [.int (d / 8)])).set r (.lst [.int d2])) ∧ TableOk most p tb :=
    table_drawn (k := k + 2) D.ftb D.fpr D.ftk (get_set r1) e2 e3
  rw [set_set] at h3
  have h4 : callN fs gl N (k + 5) tk [.ref r, .int 40] (m1.set r (.lst [.int d2])) = _ := take_run (k := k + 4) D.ftk (get_set r1) (by decide) (by omega)
  rw [set_set] at h4
  have h5 : callN fs gl N (k + 5) tk [.ref r, .int 10001] (m1.set r (.lst [.int (d2 / 40)])) = _ := take_run (k := k + 4) D.ftk (get_set r1) (by decide) (by omega)
  rw [set_set] at h5
  have hp := prs_lim p T.prime
  have mp := mod_ints (en := [s0, some (.val (.int cell)), some (.val (.ref r)), some (.val (.int p)), some (.val (.lst (tb.map W.int))), some (.own (tb.map W.int)), s6, s7, none, none, s10]) (m := m1.set r (.lst [.int (d2 / 40 / 10001)])) (i := p) (show (0 : Int) < 9999 by decide)
  obtain ⟨en3, m3, h6, ⟨t5, x6, x7, x10, e6⟩⟩ := fl_each (cs := callN fs gl N (k + 5)) (gl := gl) (N := N) (tg := .one 6) (b := k6_body tk lp sn)
    (fun en mm => ∃ t5 x6 x7 x10, (t5 = some (Sl.own (tb.map W.int)) ∨ t5 = some (.val (.lst (tb.map W.int)))) ∧ en = [s0, some (.val (.int cell)), some (.val (.ref r)), some (.val (.int p)), some (.val (.lst (tb.map W.int))), t5, x6, x7, none, none, x10])
    (zs := ([0, 1, 2, d2 % 40, d2 / 40 % 10001, 10000, p % 9999] : List Int).map W.int) (en := [s0, some (.val (.int cell)), some (.val (.ref r)), some (.val (.int p)), some (.val (.lst (tb.map W.int))), some (.own (tb.map W.int)), s6, s7, none, none, s10])
    (m := m1.set r (.lst [.int (d2 / 40 / 10001)])) ⟨_, _, _, _, .inl rfl, rfl⟩ (fun z hz en mm hI => by
      obtain ⟨j, hj, rfl⟩ := List.mem_map.mp hz
      obtain ⟨t5, x6, x7, x10, ht, rfl⟩ := hI
      have hj2 : 0 ≤ j ∧ j ≤ 10000 := by
        simp only [List.mem_cons, List.not_mem_nil, or_false] at hj
        rcases hj with rfl | rfl | rfl | rfl | rfl | rfl | rfl <;> omega
      obtain ⟨a, b, h⟩ := k6_turn (k := k) (gl := gl) (N := N) (m := mm) (tk := tk) F hsn hgM hlp T e3 hj2.1 hj2.2 hN (s0 := s0) (s1 := some (.val (.int cell))) (s2 := some (.val (.ref r))) (s7 := x7) (s10 := x10) ht
      exact ⟨_, _, _, rfl, h, _, _, _, _, .inr rfl, rfl⟩)
  obtain ⟨_, rfl⟩ := e6
  refine ⟨some (.val (.ref r)), some (.val (.int p)), some (.val (.lst (tb.map W.int))), t5, x6, x7, x10, m3, ?_⟩
  have l7 : (7 : Nat) ≤ LIM := by decide
  have l2 : (2 : Nat) ≤ LIM := by decide
  simp only [List.map_cons, List.map_nil] at h6
  simp [k6_turn_b, k6_list, h1, hm1, hr, h2, e1, h3, h4, h5, mp, h6, l7, l2]

theorem k6_law {pb st ip np nt sb sn gB gM tk lp sr dk pr tbl : Nat} (F : SumFs fs gl pb st ip np nt sb gB) (hsn : fs[sn]? = some ⟨3, 3, b_sum_number np nt sb gM⟩) (hgM : gl[gM]? = some (.int 10000)) (D : DeckFs fs sr dk tk pr tbl) (hlp : fs[lp]? = some ⟨3, 5, b_law_power⟩) (hN : 100 ≤ N) (hf : fs[f]? = some ⟨1, 11, b_law_v4 dk lp tbl tk sn⟩)
    {ns : List Int} (hns : ns.length ≤ 63) : ∃ m2, callN fs gl N (k + 6) f [.scr (ns.map W.int)] m = .ok (.val (.bl true)) m2 := by
  rw [call_at hf rfl]
  have q : b_law_v4 dk lp tbl tk sn = .seq (.for_ .list (.cons (.bin .add (.lst (.cons (.bin .pow (.int 10) (.int 18)) .nil)) (.slc (.var 0) .nil (.int 12))) .nil) (.one 1) (k6_turn_b dk lp tbl tk sn)) (.seq (.ret (.bl true)) .skip) := rfl
  obtain ⟨l, e1, e2⟩ := cut_ints (ns := ns) (lo := none) (hi := some 12)
  have p18 : ∀ en m, binR .pow en m (.val (.int 10)) (.val (.int 18)) = some (.val (.int (10 ^ 18))) := fun en m => cmp_pow (by decide) rfl
  obtain ⟨en2, m2, h, _⟩ := fl_each (cs := callN fs gl N (k + 5)) (gl := gl) (N := N) (tg := .one 1) (b := k6_turn_b dk lp tbl tk sn)
    (fun en _ => ∃ x1 x2 x3 x4 x5 x6 x7 x10, en = [some (.val (.scr (ns.map W.int))), x1, x2, x3, x4, x5, x6, x7, none, none, x10]) (zs := ((10 ^ 18 :: l : List Int)).map W.int)
    (en := [some (.val (.scr (ns.map W.int))), none, none, none, none, none, none, none, none, none, none]) (m := m) ⟨_, _, _, _, _, _, _, _, rfl⟩ (fun z hz en mm hI => by
      obtain ⟨cell, _, rfl⟩ := List.mem_map.mp hz
      obtain ⟨x1, x2, x3, x4, x5, x6, x7, x10, rfl⟩ := hI
      obtain ⟨y2, y3, y4, y5, y6, y7, y10, m2, h⟩ := k6_outer (k := k) (gl := gl) (N := N) (m := mm) F hsn hgM D hlp hN (cell := cell) (s0 := some (.val (.scr (ns.map W.int)))) (s2 := x2) (s3 := x3) (s4 := x4) (s5 := x5) (s6 := x6) (s7 := x7) (s10 := x10)
      exact ⟨_, _, _, rfl, h, _, _, _, _, _, _, _, _, rfl⟩)
  have l1 : (1 : Nat) ≤ LIM := by decide
  have ad : ∀ en m, binR .add en m (.val (.lst [W.int (10 ^ 18)])) (.val (.lst (l.map W.int))) = some (.new ([W.int (10 ^ 18)] ++ l.map W.int)) := fun en m => add_lsts (by rw [List.length_map]; unfold LIM; simp; omega)
  have ev1 : ∀ en m, ev (callN fs gl N (k + 5)) gl (.slc (.var 0) .nil (.int 12)) (some (.val (.scr (ns.map W.int))) :: en) m = .ok (.new (l.map W.int)) (some (.val (.scr (ns.map W.int))) :: en) m := fun en m => by
    rw [slc_ev]
    simp [isNil, e1]
  refine ⟨m2, ?_⟩
  simp only [List.map_cons] at h
  simp only [q, List.map_cons, List.map_nil, List.length_cons, List.length_nil, List.replicate, sv_seq, sv_for, sv_ret, ev_bin, ev_int, ev_lst, ev1, evs_cons, evs_nil, bind_okR, bnd_ok, optp_some, opt2p_some, hold_val, hold_new, List.cons_append, List.nil_append,
    p18, ad, opt_someR, opt2_someR, esc_val, esc_new, l1, if_true, Nat.zero_add, items_lst, h, thn_nx, ev_bl, retR_val, thn_rt, end_rt, Nat.reduceSub, Nat.reduceAdd]
end
end Mp

set_option Elab.async false
set_option linter.all false
set_option maxRecDepth 100000
set_option maxHeartbeats 4000000
namespace Mp
open PySem PySem.Spec PyProof.Rows L2
section
variable {cs : Nat → List W → Sto → CR} {fs : List Fd} {gl : List W} {N k f : Nat} {m : Sto} {en : En}
/-- a loop by its turns' number -/
theorem fl_steps {tg : Tg} {b : S} : ∀ {zs : List W} {en : En} {m : Sto} (I : Nat → En → Sto → Prop), I 0 en m →
    (∀ i z, zs[i]? = some z → ∀ en m, I i en m → ∃ en2 en3 m3, bindT tg z m en = some en2 ∧ sv cs gl N b en2 m = .ok .nx en3 m3 ∧ I (i + 1) en3 m3) → ∃ en2 m2, fl cs gl N tg b [] zs en m = .ok .nx en2 m2 ∧ I zs.length en2 m2
  | [], en, m, I, h, _ => ⟨en, m, fl_nil rfl, h⟩
  | z :: zs, en, m, I, h, q => by
    obtain ⟨en2, en3, m3, q1, q2, q3⟩ := q 0 z rfl en m h
    obtain ⟨en4, m4, r1, r2⟩ := fl_steps (tg := tg) (b := b) (zs := zs) (fun i => I (i + 1)) q3 fun i y hy => q (i + 1) y (by simpa using hy)
    refine ⟨en4, m4, ?_, r2⟩
    rw [fl_cons0, q1, optp_some, q2]
    exact r1
/-- a comprehension without a test, all as it was behind each turn -/
theorem cl_fun {A : Type} {tg : Tg} {js : List Nat} {elt : E} {ck : List (Nat × List W)} (enc : A → W) (g : A → Int) (hk : chk ck m = true) : ∀ {as : List A}, (∀ a ∈ as, ∃ en2, bindT tg (enc a) m en = some en2 ∧ wipeE en2 js = en ∧ ev cs gl elt en2 m = .ok (.val (.int (g a))) en2 m) →
    cl cs gl tg js .nil elt ck (as.map enc) en m = .ok ((as.map g).map W.int) en m
  | [], _ => cl_nil hk
  | a :: as, h => by
    obtain ⟨en2, h1, h2, h3⟩ := h a List.mem_cons_self
    rw [List.map_cons, cl_keep hk h1 (en3 := en2) (m3 := m) (by simp [isNil]) h3 rfl, h2, cl_fun enc g hk fun b hb => h b (List.mem_cons_of_mem _ hb)]
    rfl
def encP (q : Int × Int) : W := .tup [.int q.1, .int q.2]
theorem zip_enc : ∀ (a b : List Int), (a.map W.int).zipWith (fun x y => W.tup [x, y]) (b.map W.int) = (a.zip b).map encP
  | [], b => by simp
  | x :: a, [] => by simp
  | x :: a, y :: b => by
    simp only [List.map_cons, List.zipWith_cons_cons, List.zip_cons_cons, zip_enc a b]
    rfl
def numP (s : Int) : List Int → List (Int × Int)
  | [] => []
  | x :: xs => (s, x) :: numP (s + 1) xs
theorem enum_enc : ∀ (a : List Int) (i : Nat), enumF i (a.map W.int) = (numP i a).map encP
  | [], i => rfl
  | x :: a, i => by
    rw [List.map_cons, enumF, enum_enc a (i + 1)]
    rfl
theorem numP_len : ∀ (a : List Int) (s : Int), (numP s a).length = a.length
  | [], s => rfl
  | x :: a, s => by rw [numP, List.length_cons, List.length_cons, numP_len a]
/-- the powers of the places and 1 -/
def powL (p : Int) (j : Nat) : Int → List Int → List Int
  | _, [] => []
  | s, _ :: xs => ((s + 1) ^ j % p) :: powL p j (s + 1) xs
theorem powL_len (p : Int) (j : Nat) : ∀ (a : List Int) (s : Int), (powL p j s a).length = a.length
  | [], s => rfl
  | x :: a, s => by rw [powL, List.length_cons, List.length_cons, powL_len p j a]
theorem powL_next (p : Int) (j : Nat) : ∀ (a : List Int) (s : Int), (numP s (powL p j s a)).map (fun q => q.2 * (q.1 + 1) % p) = powL p (j + 1) s a
  | [], s => rfl
  | x :: a, s => by
    rw [powL, numP, List.map_cons, powL_next p j a (s + 1), powL]
    congr 1
    show (s + 1) ^ j % p * (s + 1) % p = _
    rw [Int.pow_succ, Int.mul_emod, Int.emod_emod, ← Int.mul_emod]
theorem powL_zero {p : Int} (hp : 2 ≤ p) : ∀ (a : List Int) (s : Int), powL p 0 s a = List.replicate a.length 1
  | [], s => rfl
  | x :: a, s => by
    rw [powL, powL_zero hp a, Int.pow_zero, Int.emod_eq_of_lt (by decide) (by omega), List.length_cons, List.replicate_succ]
theorem powL_sum (p : Int) (j : Nat) : ∀ (a : List Int) (s : Int), ((a.zip (powL p j s a)).map fun q => q.1 * q.2).sum = sumF (fun i x => x * ((i + 1) ^ j % p)) s a
  | [], s => rfl
  | x :: a, s => by
    rw [powL, List.zip_cons_cons, List.map_cons, List.sum_cons, powL_sum p j a (s + 1)]
    rfl
theorem powL_lim {p : Int} (hp : 0 < p) (j : Nat) : ∀ (a : List Int) (s : Int), ∀ q ∈ numP s (powL p j s a), s ≤ q.1 ∧ q.1 < s + a.length ∧ 0 ≤ q.2 ∧ q.2 < p
  | [], s, q, h => by cases h
  | x :: a, s, q, h => by
    rw [powL, numP] at h
    rcases List.mem_cons.mp h with rfl | h
    · refine ⟨Int.le_refl _, ?_, Int.emod_nonneg _ (by omega), Int.emod_lt_of_pos _ hp⟩
      show s < _
      rw [List.length_cons]; omega
    · have := powL_lim hp j a (s + 1) q h
      rw [List.length_cons]; omega
theorem zip_lim {p : Int} (hp : 0 < p) (j : Nat) : ∀ (a : List Int) (s : Int), ∀ q ∈ a.zip (powL p j s a), 0 ≤ q.2 ∧ q.2 < p
  | [], s, q, h => by cases h
  | x :: a, s, q, h => by
    rw [powL, List.zip_cons_cons] at h
    rcases List.mem_cons.mp h with rfl | h
    · exact ⟨Int.emod_nonneg _ (by omega), Int.emod_lt_of_pos _ hp⟩
    · exact zip_lim hp j a (s + 1) q h
/-- the sums of the numbers below many -/
def sumsL (p : Int) (tb : List Int) (many : Nat) : List Int := (List.range many).map fun (j : Nat) => sumJ p (j : Int) tb
theorem sumsL_succ {p : Int} {tb : List Int} {n : Nat} : sumsL p tb (n + 1) = sumsL p tb n ++ [sumJ p (n : Int) tb] := by
  unfold sumsL
  rw [List.range_succ, List.map_append]
  rfl
theorem rep_ones {en : En} {m : Sto} {n : Nat} (hn : n ≤ 1000) : binR .mul en m (.val (.lst [W.int 1])) (.val (.int (n : Int))) = some (.new ((List.replicate n (1 : Int)).map W.int)) := by
  show (match lstW m (.lst [W.int 1]) with
    | some ws => if (n : Int) ≤ 100000 ∧ -(2 ^ 60) < (n : Int) ∧ ws.length * (n : Int).toNat ≤ LIM then some (RV.new (List.replicate (n : Int).toNat ws).flatten) else none
    | none => none) = _
  have l : [W.int 1].length * (n : Int).toNat ≤ LIM := by unfold LIM; simp; omega
  simp only [lstW_lst, Int.toNat_natCast] at l ⊢
  rw [if_pos ⟨by omega, by omega, l⟩]
  congr 2
  rw [List.map_replicate]
  induction n with
  | zero => rfl
  | succ n ih =>
    rw [List.replicate_succ, List.replicate_succ, List.flatten_cons, ih (by omega) (by unfold LIM; simp; omega)]
    rfl
def w_sums : S := (.seq (.app (.var 3) (.bin .mod (.blt .sum (.cons (.comp .zip (.cons (.var 0) (.cons (.var 4) .nil)) (.many [6, 7]) [6, 7] .nil (.bin .mul (.var 6) (.var 7))) .nil)) (.var 2)))
  (.seq (.asg 4 (.comp .enum (.cons (.var 4) .nil) (.many [8, 7]) [8, 7] .nil (.bin .mod (.bin .mul (.var 7) (.bin .add (.var 8) (.int 1))) (.var 2))))
  .skip))
theorem law_sums_run {tb : List Int} {many p : Int} (hf : fs[f]? = some ⟨3, 9, b_law_sums⟩) (hp : 2 ≤ p) (hp2 : p ≤ 2 ^ 60) (h0 : 0 ≤ many) (h1 : many ≤ 1000) (hl : tb.length ≤ 1000) :
    callN fs gl N (k + 1) f [.lst (tb.map W.int), .int many, .int p] m = .ok (.new ((sumsL p tb many.toNat).map W.int)) m := by
  rw [call_at hf rfl]
  have q : b_law_sums = .seq (.asg 3 (.lst .nil)) (.seq (.asg 4 (.bin .mul (.lst (.cons (.int 1) .nil)) (.blt .len (.cons (.var 0) .nil)))) (.seq (.for_ .rng1 (.cons (.var 1) .nil) (.one 5) w_sums) (.seq (.ret (.var 3)) .skip))) := rfl
  have g1 : rngOk many = true := by unfold rngOk; exact decide_eq_true ⟨by omega, by omega⟩
  have hp0 : 0 < p := by omega
  have lim : ∀ n, n ≤ 1000 → n ≤ LIM := fun n h => by unfold LIM; omega
  -- a turn
  have turn : ∀ (j : Nat) (x5 : Option Sl) (s4 : Sl), (s4 = .own ((powL p j 0 tb).map W.int) ∨ s4 = .val (.lst ((powL p j 0 tb).map W.int))) → j < 1000 →
      sv (callN fs gl N k) gl N w_sums [some (.val (.lst (tb.map W.int))), some (.val (.int many)), some (.val (.int p)), some (.own ((sumsL p tb j).map W.int)), some s4, x5, none, none, none] m =
        .ok .nx [some (.val (.lst (tb.map W.int))), some (.val (.int many)), some (.val (.int p)), some (.own ((sumsL p tb (j + 1)).map W.int)), some (.own ((powL p (j + 1) 0 tb).map W.int)), x5, none, none, none] m := fun j x5 s4 h4 hj => by
    have c1 := cl_fun (cs := callN fs gl N k) (gl := gl) (m := m) (tg := .many [6, 7]) (js := [6, 7]) (elt := .bin .mul (.var 6) (.var 7)) (ck := []) encP (fun q => q.1 * q.2) rfl
      (en := [some (.val (.lst (tb.map W.int))), some (.val (.int many)), some (.val (.int p)), some (.own ((sumsL p tb j).map W.int)), some (.val (.lst ((powL p j 0 tb).map W.int))), x5, none, none, none]) (as := tb.zip (powL p j 0 tb)) (fun a ha => by
        have z := zip_lim hp0 j tb 0 a ha
        have m1 : mulOk a.1 a.2 = true := mulOk_r ⟨by omega, by omega⟩
        exact ⟨_, rfl, rfl, by simp [mul_ints m1]⟩)
    have c2 := cl_fun (cs := callN fs gl N k) (gl := gl) (m := m) (tg := .many [8, 7]) (js := [8, 7]) (elt := .bin .mod (.bin .mul (.var 7) (.bin .add (.var 8) (.int 1))) (.var 2)) (ck := []) encP (fun q => q.2 * (q.1 + 1) % p) rfl
      (en := [some (.val (.lst (tb.map W.int))), some (.val (.int many)), some (.val (.int p)), some (.own ((sumsL p tb (j + 1)).map W.int)), some (.val (.lst ((powL p j 0 tb).map W.int))), x5, none, none, none]) (as := numP 0 (powL p j 0 tb)) (fun a ha => by
        have z := powL_lim hp0 j tb 0 a ha
        have m1 : mulOk a.2 (a.1 + 1) = true := mulOk_l ⟨by omega, by omega⟩
        exact ⟨_, rfl, rfl, by simp [mul_ints m1, mod_ints hp0]⟩)
    rw [powL_next] at c2
    have ez := zip_enc tb (powL p j 0 tb)
    have ee : enumL ((powL p j 0 tb).map W.int) = (numP 0 (powL p j 0 tb)).map encP := by rw [enumL_eq, enum_enc]; rfl
    have es : ((tb.zip (powL p j 0 tb)).map fun q => q.1 * q.2).sum % p = sumJ p (j : Int) tb := by
      rw [powL_sum]; unfold sumJ; rw [Int.toNat_natCast]
    have lz : ((tb.zip (powL p j 0 tb)).map encP).length ≤ LIM := by
      rw [List.length_map, List.length_zip, powL_len]; exact lim _ (by omega)
    have le : ((numP 0 (powL p j 0 tb)).map encP).length ≤ LIM := by
      rw [List.length_map, numP_len, powL_len]; exact lim _ hl
    have ls : ((sumsL p tb j).map W.int).length < LIM := by
      rw [List.length_map]; unfold sumsL; rw [List.length_map, List.length_range]; unfold LIM; omega
    have ap : (sumsL p tb j).map W.int ++ [W.int (sumJ p (j : Int) tb)] = (sumsL p tb (j + 1)).map W.int := by rw [sumsL_succ, List.map_append]; rfl
    have a3 := fun en m (h : enGet en 3 = some (.own ((sumsL p tb j).map W.int))) => app_own (m := m) (v := W.int (sumJ p (j : Int) tb)) h ls
    have hrl : ∀ en m, enGet en 3 = some (.own ((sumsL p tb j).map W.int)) → rvL en m (.bor 3) = some ((sumsL p tb j).map W.int) := fun en m h => by unfold rvL; rw [rvW_bor, h]; rfl
    rw [List.length_map] at lz le
    rcases h4 with rfl | rfl
    · simp [w_sums, frz_cons, esc, ez, ee, lz, le, c1, c2, mod_ints hp0, es, hrl, a3, ap, -List.map_map, -List.length_zip]
    · simp [w_sums, frz_cons, esc, ez, ee, lz, le, c1, c2, mod_ints hp0, es, hrl, a3, ap, -List.map_map, -List.length_zip]
  obtain ⟨en2, m2, hfl, hI⟩ := fl_steps (cs := callN fs gl N k) (gl := gl) (N := N) (tg := .one 5) (b := w_sums) (zs := (List.range many.toNat).map fun (i : Nat) => W.int (0 + (i : Int)))
    (en := [some (.val (.lst (tb.map W.int))), some (.val (.int many)), some (.val (.int p)), some (.own []), some (.own ((List.replicate tb.length (1 : Int)).map W.int)), none, none, none, none]) (m := m)
    (fun i en mm => mm = m ∧ ∃ x5, en = [some (.val (.lst (tb.map W.int))), some (.val (.int many)), some (.val (.int p)), some (.own ((sumsL p tb i).map W.int)), some (.own ((powL p i 0 tb).map W.int)), x5, none, none, none])
    ⟨rfl, none, by rw [powL_zero hp]; rfl⟩ (fun i z hz en mm hI => by
      obtain ⟨rfl, x5, rfl⟩ := hI
      have hi : i < many.toNat := by
        have := (List.getElem?_eq_some_iff.mp hz).1
        rw [List.length_map, List.length_range] at this; exact this
      exact ⟨_, _, _, rfl, turn i _ _ (.inl rfl) (by omega), rfl, _, rfl⟩)
  obtain ⟨rfl, x5, rfl⟩ := hI
  rw [List.length_map, List.length_range] at hfl
  have ro := fun en => rep_ones (en := en) (m := m2) (n := tb.length) hl
  have l1 : (1 : Nat) ≤ LIM := by decide
  simp only [Int.zero_add, List.map_replicate] at hfl ro
  simp [q, ro, l1, items_rng1 g1, hfl, retR]

@[simp] theorem ty_lst {m : Sto} {ws : List W} : tyR m (.lst ws) = some (some .list) := rfl
theorem ty_ref {m : Sto} {r : Nat} {ws : List W} (h : m[r]? = some (.lst ws)) : tyR m (.ref r) = some (some .list) := by
  unfold tyR
  simp only [h]
/-- a list of whole numbers in the store is as it is due -/
theorem wholes_run {r : Nat} {ns ms : List Int} (hf : fs[f]? = some ⟨2, 3, b_law_wholes⟩) (hm : m[r]? = some (.lst (ns.map W.int))) (hl : ns.length ≤ LIM) :
    callN fs gl N (k + 1) f [.ref r, .lst (ms.map W.int)] m = .ok (.val (.bl (decide (ns = ms)))) m := by
  rw [call_at hf rfl]
  have hrd : rd m (.ref r) = .lst (ns.map W.int) := by simp only [rd, hm]
  have ne : ∀ en, cmpR .ne en m (.val (.ref r)) (.val (.lst (ms.map W.int))) = some (decide (ns ≠ ms)) := fun en => ne_lists rfl rfl hrd rfl
  have ty := ty_ref hm
  by_cases h : ns = ms
  · have hcl := cl_ints (cs := callN fs gl N k) (gl := gl) (m := m) (en := [some (.val (.ref r)), some (.val (.lst (ms.map W.int))), none]) (j := 2) (c := .or (.cons (.not (.isi (.var 2) [.int])) (.cons (.isi (.var 2) [.bool]) .nil))) (elt := .var 2) (ck := [(r, ns.map W.int)])
      (fun _ => false) id (ns := ns) (chk_ref hm) rfl (fun i hi => ⟨by simp [isNil, isT], fun h => by simp at h⟩)
    rw [show ns.filter (fun _ => false) = [] by simp] at hcl
    have e : ∀ en, cmpR .eq en m (.val (.lst [])) (.val (.lst [])) = some true := fun en => by rw [eq_lists (ns := []) (ms := []) rfl rfl rfl rfl]; rfl
    simp only [List.map_nil] at hcl
    have ir := items_ref hm
    rw [decide_eq_true h]
    have ne2 : ∀ en, cmpR .ne en m (.val (.ref r)) (.val (.lst (ms.map W.int))) = some false := fun en => by rw [ne en, h]; simp
    simp [b_law_wholes, ty, isT, ne2, ir, hcl, frz_cons, e, hl]
  · have ne2 : ∀ en, cmpR .ne en m (.val (.ref r)) (.val (.lst (ms.map W.int))) = some true := fun en => by rw [ne en]; simp [h]
    simp [b_law_wholes, ty, isT, ne2, h]
theorem sumsL_len {p : Int} {tb : List Int} {n : Nat} : (sumsL p tb n).length = n := by unfold sumsL; rw [List.length_map, List.length_range]
theorem sums_by_run {pb st ip np nt sb gB sy : Nat} (F : SumFs fs gl pb st ip np nt sb gB) (hsy : fs[sy]? = some ⟨3, 4, b_sums_by sb⟩) {tb : List Int} {many p : Int} (hp : 0 < p) (hp2 : p ≤ 2 ^ 60) (h0 : 0 ≤ many) (h1 : many ≤ 1000) (hl : tb.length ≤ 1000) (hN : 100 ≤ N) :
    callN fs gl N (k + 3) sy [.lst (tb.map W.int), .int many, .int p] m = .ok (.new ((sumsL p tb many.toNat).map W.int)) m := by
  rw [call_at hsy rfl]
  have g1 : rngOk many = true := by unfold rngOk; exact decide_eq_true ⟨by omega, by omega⟩
  have hcl := cl_fun (cs := callN fs gl N (k + 2)) (gl := gl) (m := m) (tg := .one 3) (js := [3]) (elt := .call sb 3 (.cons (.var 0) (.cons (.var 3) (.cons (.var 2) .nil)))) (ck := []) (fun (i : Nat) => W.int (i : Int)) (fun i => sumJ p (i : Int) tb) rfl
    (en := [some (.val (.lst (tb.map W.int))), some (.val (.int many)), some (.val (.int p)), none]) (as := List.range many.toNat) (fun i hi => by
      have hi := List.mem_range.mp hi
      have h := sum_by_run (k := k) (gl := gl) (N := N) (m := m) (tb := tb) (j := (i : Int)) (p := p) F.fsb F.fpb hp hp2 (by omega) (by omega) (by unfold LIM; omega) hN
      exact ⟨_, rfl, rfl, by simp [h]⟩)
  have e : ((List.range many.toNat).map fun (i : Nat) => sumJ p (i : Int) tb) = sumsL p tb many.toNat := rfl
  rw [e] at hcl
  have l1 : many.toNat ≤ LIM := by unfold LIM; omega
  simp [b_sums_by, items_rng1 g1, frz_cons, hcl, l1]
theorem first_sums_run {pb st ip np nt sb gB sy fi gS : Nat} (F : SumFs fs gl pb st ip np nt sb gB) (hsy : fs[sy]? = some ⟨3, 4, b_sums_by sb⟩) (hfi : fs[fi]? = some ⟨3, 3, b_first_sums np nt sy gS⟩) (hgS : gl[gS]? = some (.int 100))
    {most p many : Int} {tb : List Int} (T : TableOk most p tb) (hm : most ≤ 1000) (hj : 0 ≤ many) (hj2 : many ≤ 100) (hN : 100 ≤ N) :
    callN fs gl N (k + 5) fi [.lst (tb.map W.int), .int many, .int p] m = .ok (.new ((sumsL p tb many.toNat).map W.int)) m := by
  rw [call_at hfi rfl]
  have hp := prs_lim p T.prime
  have hl : tb.length ≤ 1000 := by have := T.most; omega
  have a1 := need_prime_run (k := k) (gl := gl) (N := N) (m := m) F.fnp F.fip F.fst F.fpb F.fgB T.prime hN
  have a2 : callN fs gl N (k + 4) nt [.lst (tb.map W.int), .int p] m = .ok (.val .non) m := need_table_run (k := k + 3) F.fnt T.one T.few T.worth (by unfold LIM; omega)
  have a3 : callN fs gl N (k + 4) sy [.lst (tb.map W.int), .int many, .int p] m = .ok (.new ((sumsL p tb many.toNat).map W.int)) m := sums_by_run (k := k + 1) F hsy (by omega) (by omega) hj (by omega) hl hN
  simp [b_first_sums, a1, a2, a3, hgS, hj, hj2]
end
end Mp

set_option Elab.async false
set_option linter.all false
set_option maxRecDepth 100000
set_option maxHeartbeats 4000000
namespace Mp
open PySem PySem.Spec PyProof.Rows L2
theorem cut_mem {ns : List Int} {lo hi : Option Int} : ∃ l : List Int, cutL (ns.map W.int) lo hi = l.map W.int ∧ l.length ≤ ns.length ∧ ∀ x ∈ l, x ∈ ns := by
  unfold cutL
  rw [List.length_map, ← List.map_drop, ← List.map_take]
  refine ⟨_, rfl, ?_, fun x hx => List.mem_of_mem_drop (List.mem_of_mem_take hx)⟩
  rw [List.length_take, List.length_drop]
  omega
section
variable {fs : List Fd} {gl : List W} {N k f : Nat} {m : Sto} {en : En}
def k7_in (fi wh ls : Nat) : S := (.seq (.asg 8 (.box (.call fi 3 (.cons (.var 5) (.cons (.var 6) (.cons (.var 3) .nil))))))
  (.seq (.iff (.or (.cons (.not (.call wh 2 (.cons (.var 8) (.cons (.call ls 3 (.cons (.var 4) (.cons (.var 6) (.cons (.var 3) .nil)))) .nil)))) (.cons (.cmp .ne (.var 5) (.var 4)) .nil))) (.seq (.ret (.bl false))
  .skip) .skip)
  (.seq (.app (.var 8) (.int 0))
  .skip)))
theorem k7_turn {pb st ip np nt sb gB sy fi gS wh ls : Nat} (F : SumFs fs gl pb st ip np nt sb gB) (hsy : fs[sy]? = some ⟨3, 4, b_sums_by sb⟩) (hfi : fs[fi]? = some ⟨3, 3, b_first_sums np nt sy gS⟩) (hgS : gl[gS]? = some (.int 100))
    (hwh : fs[wh]? = some ⟨2, 3, b_law_wholes⟩) (hls : fs[ls]? = some ⟨3, 9, b_law_sums⟩) {most p many : Int} {tb : List Int} (T : TableOk most p tb) (hm : most ≤ 1000) (hj : 0 ≤ many) (hj2 : many ≤ 100) (hN : 100 ≤ N)
    {s0 s1 s2 s5 s7 s8 : Option Sl} (h5 : s5 = some (.own (tb.map W.int)) ∨ s5 = some (.val (.lst (tb.map W.int)))) :
    ∃ x8 m2, sv (callN fs gl N (k + 5)) gl N (k7_in fi wh ls) [s0, s1, s2, some (.val (.int p)), some (.val (.lst (tb.map W.int))), s5, some (.val (.int many)), s7, s8] m =
      .ok .nx [s0, s1, s2, some (.val (.int p)), some (.val (.lst (tb.map W.int))), some (.val (.lst (tb.map W.int))), some (.val (.int many)), s7, x8] m2 := by
  have hp := prs_lim p T.prime
  have hl : tb.length ≤ 1000 := by have := T.most; omega
  have h1 := first_sums_run (k := k) (gl := gl) (N := N) (m := m) F hsy hfi hgS T hm hj hj2 hN
  have r1 : (m ++ [Ob.lst ((sumsL p tb many.toNat).map W.int)])[m.length]? = some (.lst ((sumsL p tb many.toNat).map W.int)) := by simp
  generalize hm1 : m ++ [Ob.lst ((sumsL p tb many.toNat).map W.int)] = m1 at r1
  generalize hr : m.length = r at r1
  have h2 : callN fs gl N (k + 5) ls [.lst (tb.map W.int), .int many, .int p] m1 = .ok (.new ((sumsL p tb many.toNat).map W.int)) m1 := law_sums_run (k := k + 4) hls (by omega) (by omega) hj (by omega) hl
  have h3 : callN fs gl N (k + 5) wh [.ref r, .lst ((sumsL p tb many.toNat).map W.int)] m1 = .ok (.val (.bl true)) m1 := by
    have := wholes_run (k := k + 4) (gl := gl) (N := N) (ms := sumsL p tb many.toNat) hwh r1 (by rw [sumsL_len]; unfold LIM; omega)
    rw [decide_eq_true rfl] at this
    exact this
  have ne : ∀ en m, cmpR .ne en m (.val (.lst (tb.map W.int))) (.val (.lst (tb.map W.int))) = some false := fun en m => by
    rw [ne_lists (ns := tb) (ms := tb) rfl rfl rfl rfl]; simp
  have ap := fun en => app_ref (en := en) (v := W.int 0) r1 (by rw [List.length_map, sumsL_len]; unfold LIM; omega)
  have rl : ∀ en, rvL en m1 (.val (.ref r)) = some ((sumsL p tb many.toNat).map W.int) := fun en => by unfold rvL; rw [rvW_val, Option.bind_some, lstW_ref r1]
  refine ⟨some (.val (.ref r)), m1.set r (.lst ((sumsL p tb many.toNat).map W.int ++ [W.int 0])), ?_⟩
  rcases h5 with rfl | rfl
  · simp [k7_in, esc, h1, hr, hm1, h2, h3, ne, rl, ap]
  · simp [k7_in, esc, h1, hr, hm1, h2, h3, ne, rl, ap]
def k7_list (tk : Nat) : E := (.lst (.cons (.int 0) (.cons (.int 1) (.cons (.call tk 2 (.cons (.var 2) (.cons (.int 20) .nil))) (.cons (.blt .len (.cons (.var 4) .nil)) (.cons (.bin .mul (.int 2) (.blt .len (.cons (.var 4) .nil))) (.cons (.int 100) .nil)))))))
def k7_mid (fi wh ls : Nat) : S := (.seq (.for_ .rng1 (.cons (.int 2) .nil) (.one 7) (k7_in fi wh ls)) .skip)
def k7_turn_b (dk fi ls tbl tk wh : Nat) : S := (.seq (.asg 2 (.box (.call dk 1 (.cons (.var 1) .nil))))
  (.seq (.unp (.many [3, 4]) (.call tbl 2 (.cons (.var 2) (.cons (.idx (.lst (.cons (.int 12) (.cons (.int 40) .nil))) (.blt .int (.cons (.cmp .eq (.call tk 2 (.cons (.var 2) (.cons (.int 8) .nil))) (.int 3)) .nil))) .nil))))
  (.seq (.asg 5 (.blt .list (.cons (.var 4) .nil)))
  (.seq (.for_ .list (.cons (.slc (k7_list tk) .nil (.bin .add (.int 5) (.call tk 2 (.cons (.var 2) (.cons (.int 2) .nil))))) .nil) (.one 6) (k7_mid fi wh ls))
  .skip))))
theorem k7_outer {pb st ip np nt sb gB sy fi gS wh ls tk sr dk pr tbl : Nat} (F : SumFs fs gl pb st ip np nt sb gB) (D : DeckFs fs sr dk tk pr tbl) (hsy : fs[sy]? = some ⟨3, 4, b_sums_by sb⟩) (hfi : fs[fi]? = some ⟨3, 3, b_first_sums np nt sy gS⟩) (hgS : gl[gS]? = some (.int 100))
    (hwh : fs[wh]? = some ⟨2, 3, b_law_wholes⟩) (hls : fs[ls]? = some ⟨3, 9, b_law_sums⟩) (hN : 100 ≤ N) {cell : Int} {s0 s2 s3 s4 s5 s6 s7 s8 : Option Sl} : ∃ x2 x3 x4 x5 x6 x7 x8 m2,
    sv (callN fs gl N (k + 5)) gl N (k7_turn_b dk fi ls tbl tk wh) [s0, some (.val (.int cell)), s2, s3, s4, s5, s6, s7, s8] m = .ok .nx [s0, some (.val (.int cell)), x2, x3, x4, x5, x6, x7, x8] m2 := by
  obtain ⟨d, h1⟩ : ∃ d, callN fs gl N (k + 5) dk [.int cell] m = .ok (.new [.int d]) m := deck_run (k := k + 3) D.fdk D.fsr
  have b8 : (10001 : Int) < BIG := by decide +kernel
  have r1 : (m ++ [Ob.lst [.int d]])[m.length]? = some (.lst [.int d]) := by simp
  generalize hm1 : m ++ [Ob.lst [.int d]] = m1 at r1
  generalize hr : m.length = r at *
  have h2 : callN fs gl N (k + 5) tk [.ref r, .int 8] m1 = _ := take_run (k := k + 4) D.ftk r1 (by decide) (by omega)
  have e12 : ∃ most : Int, atI [W.int 12, W.int 40] (if d % 8 = 3 then 1 else 0) = some (.int most) ∧ 1 ≤ most ∧ most ≤ 40 := by
    by_cases c : d % 8 = 3
    · rw [if_pos c]; exact ⟨40, at_1, by decide, by decide⟩
    · rw [if_neg c]; exact ⟨12, at_0, by decide, by decide⟩
  obtain ⟨most, e1, e2, e3⟩ := e12
  obtain ⟨p, tb, d2, h3, T⟩ : ∃ p tb d2, callN fs gl N (k + 5) tbl [.ref r, .int most] (m1.set r (.lst [.int (d / 8)])) = .ok (.val (.tup [.int p, .lst (tb.map W.int)])) ((m1.set r (.lst [.int (d / 8)])).set r (.lst [.int d2])) ∧ TableOk most p tb :=
    table_drawn (k := k + 2) D.ftb D.fpr D.ftk (get_set r1) e2 (by omega)
  rw [set_set] at h3
  have h4 : callN fs gl N (k + 5) tk [.ref r, .int 20] (m1.set r (.lst [.int d2])) = _ := take_run (k := k + 4) D.ftk (get_set r1) (by decide) (by omega)
  rw [set_set] at h4
  have h5 : callN fs gl N (k + 5) tk [.ref r, .int 2] (m1.set r (.lst [.int (d2 / 20)])) = _ := take_run (k := k + 4) D.ftk (get_set r1) (by decide) (by omega)
  rw [set_set] at h5
  have hp := prs_lim p T.prime
  have hml := T.most
  obtain ⟨l, c1, c2, c3⟩ := cut_mem (ns := [0, 1, d2 % 20, (tb.length : Int), 2 * (tb.length : Int), 100]) (lo := none) (hi := some (5 + d2 / 20 % 2))
  obtain ⟨en3, m3, h6, ⟨t5, x6, x7, x8, e6⟩⟩ := fl_each (cs := callN fs gl N (k + 5)) (gl := gl) (N := N) (tg := .one 6) (b := k7_mid fi wh ls)
    (fun en mm => ∃ t5 x6 x7 x8, (t5 = some (Sl.own (tb.map W.int)) ∨ t5 = some (.val (.lst (tb.map W.int)))) ∧ en = [s0, some (.val (.int cell)), some (.val (.ref r)), some (.val (.int p)), some (.val (.lst (tb.map W.int))), t5, x6, x7, x8])
    (zs := l.map W.int) (en := [s0, some (.val (.int cell)), some (.val (.ref r)), some (.val (.int p)), some (.val (.lst (tb.map W.int))), some (.own (tb.map W.int)), s6, s7, s8])
    (m := m1.set r (.lst [.int (d2 / 20 / 2)])) ⟨_, _, _, _, .inl rfl, rfl⟩ (fun z hz en mm hI => by
      obtain ⟨j, hj, rfl⟩ := List.mem_map.mp hz
      obtain ⟨t5, x6, x7, x8, ht, rfl⟩ := hI
      have hj2 : 0 ≤ j ∧ j ≤ 100 := by
        have hj := c3 j hj
        simp only [List.mem_cons, List.not_mem_nil, or_false] at hj
        rcases hj with rfl | rfl | rfl | rfl | rfl | rfl <;> omega
      obtain ⟨en4, m4, q1, ⟨y5, y7, y8, q2, q3⟩⟩ := fl_each (cs := callN fs gl N (k + 5)) (gl := gl) (N := N) (tg := .one 7) (b := k7_in fi wh ls)
        (fun en mm => ∃ t5 x7 x8, (t5 = some (Sl.own (tb.map W.int)) ∨ t5 = some (.val (.lst (tb.map W.int)))) ∧ en = [s0, some (.val (.int cell)), some (.val (.ref r)), some (.val (.int p)), some (.val (.lst (tb.map W.int))), t5, some (.val (.int j)), x7, x8])
        (zs := (List.range (2 : Int).toNat).map fun (i : Nat) => W.int (0 + (i : Int))) (en := [s0, some (.val (.int cell)), some (.val (.ref r)), some (.val (.int p)), some (.val (.lst (tb.map W.int))), t5, some (.val (.int j)), x7, x8])
        (m := mm) ⟨_, _, _, ht, rfl⟩ (fun z _ en mm hI => by
          obtain ⟨t5, x7, x8, ht, rfl⟩ := hI
          obtain ⟨i, _, rfl⟩ := List.mem_map.mp (by assumption)
          obtain ⟨y8, m5, h⟩ := k7_turn (k := k) (gl := gl) (N := N) (m := mm) F hsy hfi hgS hwh hls T (by omega) hj2.1 hj2.2 hN (s0 := s0) (s1 := some (.val (.int cell))) (s2 := some (.val (.ref r))) (s7 := some (.val (.int (0 + (i : Int))))) (s8 := x8) ht
          exact ⟨_, _, _, rfl, h, _, _, _, .inr rfl, rfl⟩)
      subst q3
      have g2 : rngOk 2 = true := by decide
      refine ⟨_, [s0, some (.val (.int cell)), some (.val (.ref r)), some (.val (.int p)), some (.val (.lst (tb.map W.int))), y5, some (.val (.int j)), y7, y8], m4, rfl, ?_, y5, some (.val (.int j)), y7, y8, q2, rfl⟩
      simp only [k7_mid, sv_seq, sv_for, evs_cons, evs_nil, ev_int, bnd_ok, esc_val, opt2p_some, items_rng1 g2, q1, thn_nx, sv_skip, List.set_cons_succ, List.set_cons_zero])
  obtain ⟨_, rfl⟩ := e6
  refine ⟨some (.val (.ref r)), some (.val (.int p)), some (.val (.lst (tb.map W.int))), t5, x6, x7, x8, m3, ?_⟩
  have l6 : (6 : Nat) ≤ LIM := by decide
  have l2 : (2 : Nat) ≤ LIM := by decide
  have m2 : mulOk 2 (tb.length : Int) = true := mulOk_l (by decide)
  simp only [List.map_cons, List.map_nil] at c1
  simp [k7_turn_b, k7_list, h1, hm1, hr, h2, e1, h3, h4, h5, slc_ev, isNil, mul_ints m2, c1, h6, l6, l2]
theorem k7_law {pb st ip np nt sb gB sy fi gS wh ls tk sr dk pr tbl : Nat} (F : SumFs fs gl pb st ip np nt sb gB) (D : DeckFs fs sr dk tk pr tbl) (hsy : fs[sy]? = some ⟨3, 4, b_sums_by sb⟩) (hfi : fs[fi]? = some ⟨3, 3, b_first_sums np nt sy gS⟩) (hgS : gl[gS]? = some (.int 100))
    (hwh : fs[wh]? = some ⟨2, 3, b_law_wholes⟩) (hls : fs[ls]? = some ⟨3, 9, b_law_sums⟩) (hN : 100 ≤ N) (hf : fs[f]? = some ⟨1, 9, b_law_v5 fi dk ls tbl tk wh⟩)
    {ns : List Int} (hns : ns.length ≤ 63) : ∃ m2, callN fs gl N (k + 6) f [.scr (ns.map W.int)] m = .ok (.val (.bl true)) m2 := by
  rw [call_at hf rfl]
  have q : b_law_v5 fi dk ls tbl tk wh = .seq (.for_ .list (.cons (.bin .add (.lst (.cons (.bin .pow (.int 10) (.int 18)) .nil)) (.slc (.var 0) .nil (.int 12))) .nil) (.one 1) (k7_turn_b dk fi ls tbl tk wh)) (.seq (.ret (.bl true)) .skip) := rfl
  obtain ⟨l, e1, e2⟩ := cut_ints (ns := ns) (lo := none) (hi := some 12)
  have p18 : ∀ en m, binR .pow en m (.val (.int 10)) (.val (.int 18)) = some (.val (.int (10 ^ 18))) := fun en m => cmp_pow (by decide) rfl
  obtain ⟨en2, m2, h, _⟩ := fl_each (cs := callN fs gl N (k + 5)) (gl := gl) (N := N) (tg := .one 1) (b := k7_turn_b dk fi ls tbl tk wh)
    (fun en _ => ∃ x1 x2 x3 x4 x5 x6 x7 x8, en = [some (.val (.scr (ns.map W.int))), x1, x2, x3, x4, x5, x6, x7, x8]) (zs := ((10 ^ 18 :: l : List Int)).map W.int)
    (en := [some (.val (.scr (ns.map W.int))), none, none, none, none, none, none, none, none]) (m := m) ⟨_, _, _, _, _, _, _, _, rfl⟩ (fun z hz en mm hI => by
      obtain ⟨cell, _, rfl⟩ := List.mem_map.mp hz
      obtain ⟨x1, x2, x3, x4, x5, x6, x7, x8, rfl⟩ := hI
      obtain ⟨y2, y3, y4, y5, y6, y7, y8, m2, h⟩ := k7_outer (k := k) (gl := gl) (N := N) (m := mm) F D hsy hfi hgS hwh hls hN (cell := cell) (s0 := some (.val (.scr (ns.map W.int)))) (s2 := x2) (s3 := x3) (s4 := x4) (s5 := x5) (s6 := x6) (s7 := x7) (s8 := x8)
      exact ⟨_, _, _, rfl, h, _, _, _, _, _, _, _, _, rfl⟩)
  have l1 : (1 : Nat) ≤ LIM := by decide
  have ad : ∀ en m, binR .add en m (.val (.lst [W.int (10 ^ 18)])) (.val (.lst (l.map W.int))) = some (.new ([W.int (10 ^ 18)] ++ l.map W.int)) := fun en m => add_lsts (by rw [List.length_map]; unfold LIM; simp; omega)
  have ev1 : ∀ en m, ev (callN fs gl N (k + 5)) gl (.slc (.var 0) .nil (.int 12)) (some (.val (.scr (ns.map W.int))) :: en) m = .ok (.new (l.map W.int)) (some (.val (.scr (ns.map W.int))) :: en) m := fun en m => by
    rw [slc_ev]
    simp [isNil, e1]
  refine ⟨m2, ?_⟩
  simp only [List.map_cons] at h
  simp only [q, List.map_cons, List.map_nil, List.length_cons, List.length_nil, List.replicate, sv_seq, sv_for, sv_ret, ev_bin, ev_int, ev_lst, ev1, evs_cons, evs_nil, bnd_ok, opt2p_some, optp_some, hold_val, hold_new, List.cons_append, List.nil_append,
    p18, ad, esc_val, esc_new, l1, if_true, Nat.zero_add, items_lst, h, thn_nx, ev_bl, retR_val, thn_rt, end_rt, Nat.reduceSub, Nat.reduceAdd]
end
end Mp

set_option Elab.async false
set_option linter.all false
set_option maxRecDepth 100000
set_option maxHeartbeats 4000000
namespace Mp
open PySem PySem.Spec PyProof.Rows L2
/-- what the test for a prime wants of the list of defs -/
structure PrimeFs (fs : List Fd) (gl : List W) (pb st ip np gB : Nat) : Prop where
  fpb : fs[pb]? = some ⟨3, 5, b_power_by⟩
  fst : fs[st]? = some ⟨2, 4, b_stands pb⟩
  fip : fs[ip]? = some ⟨1, 2, b_is_prime st gB⟩
  fnp : fs[np]? = some ⟨1, 1, b_need_prime ip⟩
  fgB : gl[gB]? = some (.tup (([2, 3, 5, 7, 11] : List Int).map W.int))
section
variable {cs : Nat → List W → Sto → CR} {fs : List Fd} {gl : List W} {N k f : Nat} {m : Sto} {en : En}
/-- sums behind a change: df is what the worth at the place grows by -/
def behindL (p place df : Int) (sums : List Int) : List Int := (numP 0 sums).map fun q => (q.2 + df * ((place + 1) ^ q.1.toNat % p)) % p
theorem numP_lim : ∀ (a : List Int) (s : Int), ∀ q ∈ numP s a, s ≤ q.1 ∧ q.1 < s + a.length ∧ q.2 ∈ a
  | [], s, q, h => by cases h
  | x :: a, s, q, h => by
    rw [numP] at h
    rcases List.mem_cons.mp h with rfl | h
    · refine ⟨Int.le_refl _, ?_, List.mem_cons_self⟩
      show s < _
      rw [List.length_cons]; omega
    · have := numP_lim a (s + 1) q h
      rw [List.length_cons]
      exact ⟨by omega, by omega, List.mem_cons_of_mem _ this.2.2⟩
theorem behind_run {pb st ip np gB sh : Nat} (F : PrimeFs fs gl pb st ip np gB) (hsh : fs[sh]? = some ⟨5, 7, b_sums_behind np pb⟩) {p place old new : Int} {sums : List Int} (hp : p ∈ PRS) (h0 : 0 ≤ place) (h1 : place < p - 1) (hl : sums.length ≤ 1000) (hN : 100 ≤ N) :
    callN fs gl N (k + 5) sh [.lst (sums.map W.int), .int place, .int old, .int new, .int p] m = .ok (.new ((behindL p place (new - old) sums).map W.int)) m := by
  rw [call_at hsh rfl]
  have hp2 := prs_lim p hp
  have hp0 : 0 < p := by omega
  have a1 := need_prime_run (k := k) (gl := gl) (N := N) (m := m) F.fnp F.fip F.fst F.fpb F.fgB hp hN
  have hcl := cl_fun (cs := callN fs gl N (k + 4)) (gl := gl) (m := m) (tg := .many [5, 6]) (js := [5, 6]) (elt := .bin .mod (.bin .add (.var 6) (.bin .mul (.bin .sub (.var 3) (.var 2)) (.call pb 3 (.cons (.bin .add (.var 1) (.int 1)) (.cons (.var 5) (.cons (.var 4) .nil)))))) (.var 4)) (ck := []) encP
    (fun q => (q.2 + (new - old) * ((place + 1) ^ q.1.toNat % p)) % p) rfl (en := [some (.val (.lst (sums.map W.int))), some (.val (.int place)), some (.val (.int old)), some (.val (.int new)), some (.val (.int p)), none, none]) (as := numP 0 sums) (fun q hq => by
      have z := numP_lim sums 0 q hq
      have h : callN fs gl N (k + 4) pb [.int (place + 1), .int q.1, .int p] m = _ := power_run (k := k + 3) (gl := gl) (N := N) (m := m) (b := place + 1) (e := q.1) (n := p) (t := 60) F.fpb hp0 (by omega) (by omega) (by omega) (by omega)
      have z0 := Int.emod_nonneg ((place + 1) ^ q.1.toNat) (show p ≠ 0 by omega)
      have z1 := Int.emod_lt_of_pos ((place + 1) ^ q.1.toNat) hp0
      have m1 : mulOk (new - old) ((place + 1) ^ q.1.toNat % p) = true := mulOk_r ⟨by omega, by omega⟩
      exact ⟨_, rfl, rfl, by simp [h, mul_ints m1, mod_ints hp0]⟩)
  have ee : enumL (sums.map W.int) = (numP 0 sums).map encP := by rw [enumL_eq, enum_enc]; rfl
  have le : (numP 0 sums).length ≤ LIM := by rw [numP_len]; unfold LIM; omega
  have e : ((numP 0 sums).map fun q => (q.2 + (new - old) * ((place + 1) ^ q.1.toNat % p)) % p) = behindL p place (new - old) sums := rfl
  rw [e] at hcl
  simp [b_sums_behind, a1, h0, h1, frz_cons, ee, le, hcl]
/-- a list of whole numbers handed on as it is -/
theorem wholes_frz {ns ms : List Int} (hf : fs[f]? = some ⟨2, 3, b_law_wholes⟩) (hl : ns.length ≤ LIM) (h : ns = ms) :
    callN fs gl N (k + 1) f [.lst (ns.map W.int), .lst (ms.map W.int)] m = .ok (.val (.bl true)) m := by
  rw [call_at hf rfl]
  subst h
  have hcl := cl_ints (cs := callN fs gl N k) (gl := gl) (m := m) (en := [some (.val (.lst (ns.map W.int))), some (.val (.lst (ns.map W.int))), none]) (j := 2) (c := .or (.cons (.not (.isi (.var 2) [.int])) (.cons (.isi (.var 2) [.bool]) .nil))) (elt := .var 2) (ck := [])
    (fun _ => false) id (ns := ns) rfl rfl (fun i hi => ⟨by simp [isNil, isT], fun h => by simp at h⟩)
  rw [show ns.filter (fun _ => false) = [] by simp] at hcl
  have e : ∀ en, cmpR .eq en m (.val (.lst [])) (.val (.lst [])) = some true := fun en => by rw [eq_lists (ns := []) (ms := []) rfl rfl rfl rfl]; rfl
  simp only [List.map_nil] at hcl
  have ne2 : ∀ en, cmpR .ne en m (.val (.lst (ns.map W.int))) (.val (.lst (ns.map W.int))) = some false := fun en => by rw [ne_lists (ns := ns) (ms := ns) rfl rfl rfl rfl]; simp
  simp [b_law_wholes, isT, ne2, hcl, frz_cons, e, hl]
/-- the table with one worth put otherwise -/
def putT (tb : List Int) (at_ : Nat) (y : Int) : List Int := tb.take at_ ++ [y] ++ tb.drop (at_ + 1)
theorem putT_len {tb : List Int} {a : Nat} {y : Int} (h : a < tb.length) : (putT tb a y).length = tb.length := by
  unfold putT
  simp only [List.length_append, List.length_take, List.length_drop, List.length_singleton]
  omega
theorem sumF_put (g : Int → Int → Int) : ∀ (tb : List Int) (a : Nat) (y x s : Int), tb[a]? = some x → sumF g s (putT tb a y) = sumF g s tb + g (s + a) y - g (s + a) x
  | [], a, y, x, s, h => by simp at h
  | z :: tb, 0, y, x, s, h => by
    simp only [List.getElem?_cons_zero, Option.some.injEq] at h
    subst h
    simp [putT, sumF]
    omega
  | z :: tb, a + 1, y, x, s, h => by
    simp only [List.getElem?_cons_succ] at h
    have ih := sumF_put g tb a y x (s + 1) h
    have e : putT (z :: tb) (a + 1) y = z :: putT tb a y := rfl
    rw [e, sumF, ih, sumF]
    have : s + 1 + (a : Int) = s + ((a + 1 : Nat) : Int) := by push_cast; omega
    rw [this]
    omega
theorem behind_put {p : Int} (hp : 0 < p) {tb : List Int} {a : Nat} {x new : Int} (h : tb[a]? = some x) {many : Nat} {given : List Int} (hl : given.length = many) (hg : ∀ (j : Nat) (g : Int), given[j]? = some g → g % p = sumJ p (j : Int) tb) :
    behindL p (a : Int) (new - x) given = sumsL p (putT tb a (new % p)) many := by
  have go : ∀ (gs : List Int) (s : Nat), (∀ (j : Nat) (g : Int), gs[j]? = some g → g % p = sumJ p ((s + j : Nat) : Int) tb) →
      (numP (s : Int) gs).map (fun q => (q.2 + (new - x) * (((a : Int) + 1) ^ q.1.toNat % p)) % p) = (List.range gs.length).map fun (j : Nat) => sumJ p ((s + j : Nat) : Int) (putT tb a (new % p)) := by
    intro gs
    induction gs with
    | nil => intro s _; rfl
    | cons g gs ih =>
      intro s hq
      have ih := ih (s + 1) fun j y hy => by
        have := hq (j + 1) y (by simpa using hy)
        rw [this]; congr 1; push_cast; omega
      rw [numP, List.map_cons, List.length_cons, List.range_succ_eq_map, List.map_cons, List.map_map]
      congr 1
      · have h0 := hq 0 g rfl
        show (g + (new - x) * (((a : Int) + 1) ^ ((s : Int)).toNat % p)) % p = sumJ p ((s + 0 : Nat) : Int) _
        rw [Nat.add_zero] at h0 ⊢
        unfold sumJ at h0 ⊢
        rw [Int.toNat_natCast] at h0 ⊢
        rw [sumF_put _ tb a (new % p) x 0 h, Int.zero_add]
        generalize sumF (fun i x => x * ((i + 1) ^ s % p)) 0 tb = sf at *
        generalize ((a : Int) + 1) ^ s % p = w
        have e1 : (g + (new - x) * w) % p = (sf + (new - x) * w) % p := by rw [Int.add_emod, h0, ← Int.add_emod]
        rw [e1]
        have e2 : sf + new % p * w - x * w = sf + (new - x) * w - p * (new / p * w) := by
          have h5 := Int.emod_add_mul_ediv new p
          have h6 : new % p = new - p * (new / p) := by omega
          rw [h6, Int.sub_mul, Int.sub_mul, Int.mul_assoc]
          omega
        rw [e2, Int.sub_mul_emod_self_left]
      · rw [show ((s : Int) + 1) = ((s + 1 : Nat) : Int) by push_cast; rfl, ih]
        refine List.map_congr_left fun j _ => ?_
        show sumJ p ((s + 1 + j : Nat) : Int) _ = sumJ p ((s + (j + 1) : Nat) : Int) _
        congr 1
        push_cast
        omega
  have := go given 0 (fun j g hj => by rw [Nat.zero_add]; exact hg j g hj)
  unfold behindL sumsL
  rw [hl] at this
  rw [show (0 : Int) = ((0 : Nat) : Int) from rfl, this]
  exact List.map_congr_left fun j _ => by rw [Nat.zero_add]
theorem set_idle {r : Nat} {a b : Ob} (h : m[r]? = some a) : (m.set r b)[r]? = some b := get_set h
/-- a digit off a deck that was put anew -/
theorem take_set {r c : Nat} {d n : Int} {a : Ob} (hc : fs[c]? = some ⟨2, 3, b_law_take⟩) (h : m[r]? = some a) (h0 : 0 < n) (h1 : n ≤ 10 ^ 200) :
    callN fs gl N (k + 1) c [.ref r, .int n] (m.set r (.lst [.int d])) = .ok (.val (.int (d % n))) (m.set r (.lst [.int (d / n)])) := by
  have := take_run (k := k) (gl := gl) (N := N) (n := n) hc (get_set (b := .lst [.int d]) h) h0 (by have := big200; omega)
  rwa [set_set] at this
end
end Mp

set_option Elab.async false
set_option linter.all false
set_option maxRecDepth 100000
set_option maxHeartbeats 4000000
namespace Mp
open PySem PySem.Spec PyProof.Rows L2
theorem pop_ev {cs : Nat → List W → Sto → CR} {gl : List W} {m : Sto} {en : En} {a es : E} : ev cs gl (.mth .pop a es) en m = bnd (ev cs gl a en m) fun x en m => optp (rvL en m (hold x)) fun _ => bnd (evs cs gl es en m) fun ws en m => optp (int1 ws) fun i => optp (if -(2 ^ 62) < i ∧ i < 2 ^ 62 then popAt en m (hold x) i else none) fun q => .ok (.val q.1) q.2.1 q.2.2 := by simp only [ev]; rfl
theorem lrng_ev {cs : Nat → List W → Sto → CR} {gl : List W} {m : Sto} {en : En} {a : E} : ev cs gl (.lrng a) en m = bnd (ev cs gl a en m) fun x en m => optp (intR x) fun a => if -100000 ≤ a ∧ a ≤ 100000 then .ok (.new ((List.range (a - 0).toNat).map fun (i : Nat) => .int (0 + (i : Int)))) en m else .bad := by simp only [ev]; rfl
theorem pop_own {en : En} {m : Sto} {ws : List W} {j k : Nat} {i : Int} {w : W} (h : enGet en j = some (.own ws)) (hk : ixN ws.length i = some k) (hw : ws[k]? = some w) : popAt en m (.bor j) i = some (w, en.set j (some (.own (ws.eraseIdx k))), m) := by
  unfold popAt
  simp only [h, hk, Option.bind_some, hw, Option.map_some]
theorem erase_ints : ∀ (l : List Int) (k : Nat), (l.map W.int).eraseIdx k = (l.eraseIdx k).map W.int
  | [], k => by cases k <;> rfl
  | x :: l, 0 => rfl
  | x :: l, k + 1 => by
    show W.int x :: (l.map W.int).eraseIdx k = _
    rw [erase_ints l k]; rfl
theorem ix_of {n : Nat} {i : Int} (h0 : 0 ≤ i) (h1 : i < n) : ixN n i = some i.toNat := by unfold ixN; rw [if_pos h0, if_pos h1]
@[simp] theorem int1_one {i : Int} : int1 [.int i] = some i := rfl
section
variable {cs : Nat → List W → Sto → CR} {fs : List Fd} {gl : List W} {N k f : Nat} {m : Sto} {en : En}
def w_chg (tk : Nat) : S := (.seq (.asg 7 (.mth .pop (.var 4) (.cons (.call tk 2 (.cons (.var 0) (.cons (.blt .len (.cons (.var 4) .nil)) .nil))) .nil)))
  (.seq (.seti (.var 5) (.var 7) (.bin .mod (.bin .add (.bin .add (.idx (.var 5) (.var 7)) (.int 1)) (.call tk 2 (.cons (.var 0) (.cons (.bin .sub (.var 3) (.int 1)) .nil)))) (.var 3)))
  .skip))
theorem changed_run {r tk : Nat} {d many p : Int} {tb : List Int} (hf : fs[f]? = some ⟨4, 8, b_law_changed tk⟩) (htk : fs[tk]? = some ⟨2, 3, b_law_take⟩) (hm : m[r]? = some (.lst [.int d])) (hp : 2 ≤ p) (hp2 : p ≤ 10 ^ 100) (h0 : 0 ≤ many) (h1 : many ≤ tb.length) (hl : tb.length ≤ 1000) (hw : ∀ x ∈ tb, 0 ≤ x ∧ x < p) :
    ∃ (other : List Int) (d2 : Int), callN fs gl N (k + 2) f [.ref r, .lst (tb.map W.int), .int many, .int p] m = .ok (.new (other.map W.int)) (m.set r (.lst [.int d2])) ∧ other.length = tb.length ∧ ∀ x ∈ other, 0 ≤ x ∧ x < p := by
  rw [call_at hf rfl]
  have q : b_law_changed tk = .seq (.asg 4 (.lrng (.blt .len (.cons (.var 1) .nil)))) (.seq (.asg 5 (.blt .list (.cons (.var 1) .nil))) (.seq (.for_ .rng1 (.cons (.var 2) .nil) (.one 6) (w_chg tk)) (.seq (.ret (.var 5)) .skip))) := rfl
  have g1 : rngOk many = true := by unfold rngOk; exact decide_eq_true ⟨by omega, by omega⟩
  have hm0 : m.set r (.lst [.int d]) = m := by
    apply List.ext_getElem?
    intro i
    by_cases c : i = r
    · subst c; rw [get_set hm, hm]
    · rw [List.getElem?_set_ne (Ne.symm c)]
  obtain ⟨en2, m2, hfl, hI⟩ := fl_steps (cs := callN fs gl N (k + 1)) (gl := gl) (N := N) (tg := .one 6) (b := w_chg tk) (zs := (List.range many.toNat).map fun (i : Nat) => W.int (0 + (i : Int)))
    (en := [some (.val (.ref r)), some (.val (.lst (tb.map W.int))), some (.val (.int many)), some (.val (.int p)), some (.own (((List.range tb.length).map fun (i : Nat) => (0 + (i : Int))).map W.int)), some (.own (tb.map W.int)), none, none]) (m := m)
    (fun i en mm => ∃ (left found : List Int) (dd : Int) (x6 x7 : Option Sl), mm = m.set r (.lst [.int dd]) ∧ left.length + i = tb.length ∧ (∀ x ∈ left, 0 ≤ x ∧ x < tb.length) ∧ found.length = tb.length ∧ (∀ x ∈ found, 0 ≤ x ∧ x < p) ∧
      en = [some (.val (.ref r)), some (.val (.lst (tb.map W.int))), some (.val (.int many)), some (.val (.int p)), some (.own (left.map W.int)), some (.own (found.map W.int)), x6, x7])
    ⟨_, tb, d, none, none, hm0.symm, by rw [List.length_map, List.length_range]; rfl, fun x hx => by
      obtain ⟨i, hi, rfl⟩ := List.mem_map.mp hx
      have := List.mem_range.mp hi
      omega, rfl, hw, rfl⟩ (fun i z hz en mm hI => by
      obtain ⟨left, found, dd, x6, x7, rfl, a1, a2, a3, a4, rfl⟩ := hI
      have hi : i < many.toNat := by
        have := (List.getElem?_eq_some_iff.mp hz).1
        rw [List.length_map, List.length_range] at this; exact this
      have ll : 0 < left.length := by omega
      have t1 := take_set (k := k) (gl := gl) (N := N) (d := dd) (n := (left.length : Int)) htk hm (by omega) (by omega)
      have c0 := Int.emod_nonneg dd (show (left.length : Int) ≠ 0 by omega)
      have c1 := Int.emod_lt_of_pos dd (show (0 : Int) < left.length by omega)
      have ix := ix_of c0 c1
      have hk : (dd % (left.length : Int)).toNat < left.length := by omega
      have hx := a2 left[(dd % (left.length : Int)).toNat] (List.getElem_mem hk)
      have hxe : left[(dd % (left.length : Int)).toNat]? = some left[(dd % (left.length : Int)).toNat] := List.getElem?_eq_getElem hk
      generalize hat : left[(dd % (left.length : Int)).toNat] = at_ at hx hxe
      generalize hkk : (dd % (left.length : Int)).toNat = kk at *
      have po := fun en m (h : enGet en 4 = some (.own (left.map W.int))) => pop_own (m := m) (j := 4) (ws := left.map W.int) (i := dd % (left.length : Int)) (k := kk) (w := .int at_) h (by rw [List.length_map]; exact ix) (by rw [List.getElem?_map, hxe]; rfl)
      have sm : -(2 ^ 62) < dd % (left.length : Int) ∧ dd % (left.length : Int) < 2 ^ 62 := by omega
      have er : (left.map W.int).eraseIdx kk = (left.eraseIdx kk).map W.int := erase_ints left kk
      have hrl : ∀ en m, enGet en 4 = some (.own (left.map W.int)) → rvL en m (.bor 4) = some (left.map W.int) := fun en m h => by unfold rvL; rw [rvW_bor, h]; rfl
      have fx : at_.toNat < found.length := by omega
      have ifo := fun en m (h : enGet en 5 = some (.own (found.map W.int))) => idx_own (m := m) (i := at_) h
      have fo : atI (found.map W.int) at_ = some (.int found[at_.toNat]) := at_ok hx.1 (by rw [List.getElem?_map, List.getElem?_eq_getElem fx]; rfl)
      have t2 := take_set (k := k) (gl := gl) (N := N) (d := dd / left.length) (n := p - 1) htk hm (by omega) (by omega)
      generalize dd / (left.length : Int) = d3 at *
      have so := fun en m v (h : enGet en 5 = some (.own (found.map W.int))) => set_own (m := m) (v := v) (i := at_) (k := at_.toNat) h (by rw [List.length_map]; exact ix_of hx.1 (by omega))
      have se : ∀ v : Int, (found.map W.int).set at_.toNat (.int v) = (found.set at_.toNat v).map W.int := fun v => by rw [List.map_set]
      have hpp : 0 < p := by omega
      refine ⟨_, [some (.val (.ref r)), some (.val (.lst (tb.map W.int))), some (.val (.int many)), some (.val (.int p)), some (.own ((left.eraseIdx kk).map W.int)), some (.own ((found.set at_.toNat ((found[at_.toNat] + 1 + d3 % (p - 1)) % p)).map W.int)), some (.val z), some (.val (.int at_))], m.set r (.lst [.int (d3 / (p - 1))]), rfl, ?_,
        left.eraseIdx kk, found.set at_.toNat ((found[at_.toNat] + 1 + d3 % (p - 1)) % p), d3 / (p - 1), _, _, rfl, ?_, ?_, by rw [List.length_set]; exact a3, ?_, rfl⟩
      · have lo := fun (m : Sto) => len_lst (m := m) (ws := left.map W.int)
        simp only [List.length_map] at lo
        simp only [w_chg, sv_seq, sv_asg, sv_seti, sv_skip, pop_ev, ev_bin, ev_idx, ev_call, ev_blt, ev_var, ev_int, evs_cons, evs_nil, evl_1, List.set_cons_succ, List.set_cons_zero, enGet_0, enGet_s, bnd_ok, hold_bor, hold_val, optp_some, opt2p_some, esc_val, rvW_bor, Option.map_some, slW_own, lo, List.length_cons, List.length_nil, Nat.zero_add, Nat.reduceAdd, if_true, t1, toR_ok, int1_one, if_pos sm, hrl, po, er, slOf_val, thn_nx, ifo, fo, add_ints, sub_ints, t2, mod_ints hpp, val_val, so, se]
      · rw [List.length_eraseIdx_of_lt hk]; omega
      · intro x hx2
        exact a2 x (List.mem_of_mem_eraseIdx hx2)
      · intro x hx2
        rcases List.mem_or_eq_of_mem_set hx2 with h | rfl
        · exact a4 x h
        · exact ⟨Int.emod_nonneg _ (by omega), Int.emod_lt_of_pos _ hpp⟩)
  obtain ⟨left, found, dd, x6, x7, rfl, a1, a2, a3, a4, rfl⟩ := hI
  refine ⟨found, dd, ?_, a3, a4⟩
  have lr : -100000 ≤ (tb.length : Int) ∧ (tb.length : Int) ≤ 100000 := by omega
  have e1 : ((tb.length : Int) - 0).toNat = tb.length := by omega
  rw [List.map_map] at hfl
  have e2 : (List.range tb.length).map (W.int ∘ fun (i : Nat) => (0 + (i : Int))) = (List.range tb.length).map fun (i : Nat) => W.int (0 + (i : Int)) := rfl
  rw [e2] at hfl
  simp only [q, List.map_cons, List.map_nil, List.length_cons, List.length_nil, List.replicate, sv_seq, sv_asg, sv_for, sv_ret, sv_skip, lrng_ev, ev_blt, ev_var, evl_1, evs_cons, evs_nil, enGet_0, enGet_s, bnd_ok, hold_val, List.cons_append, List.nil_append, rvW_val, optp_some, opt2p_some, len_lst, List.length_map, intR_int, if_pos lr, e1, slOf_new, List.set_cons_succ, List.set_cons_zero, thn_nx, list_lst, esc_val, items_rng1 g1, hfl, retR, Option.map_some, thn_rt, end_rt, Nat.reduceSub, Nat.reduceAdd]
end
end Mp

set_option Elab.async false
set_option linter.all false
set_option maxRecDepth 100000
set_option maxHeartbeats 4000000
namespace Mp
open PySem PySem.Spec PyProof.Rows L2
/-- where two tables differ -/
def unlikeL (a b : List Int) : List Int := ((List.range a.length).filter fun i => decide (a[i]? ≠ b[i]?)).map fun (i : Nat) => (i : Int)
/-- a table by a prime -/
structure TabOk (p : Int) (tb : List Int) : Prop where
  prime : p ∈ PRS
  one : 1 ≤ tb.length
  most : tb.length ≤ 1000
  few : (tb.length : Int) < p
  worth : ∀ x ∈ tb, 0 ≤ x ∧ x < p
theorem TableOk.tab {most p : Int} {tb : List Int} (T : TableOk most p tb) (h : most ≤ 1000) : TabOk p tb := ⟨T.prime, T.one, by have := T.most; omega, T.few, T.worth⟩
section
variable {cs : Nat → List W → Sto → CR} {fs : List Fd} {gl : List W} {N k f : Nat} {m : Sto} {en : En}
/-- what the likeness of two tables wants of the list of defs -/
structure LikeFs (fs : List Fd) (gl : List W) (pb st ip np gB nt nl pu : Nat) : Prop where
  pr : PrimeFs fs gl pb st ip np gB
  fnt : fs[nt]? = some ⟨2, 3, b_need_table⟩
  fnl : fs[nl]? = some ⟨3, 3, b_need_like np nt⟩
  fpu : fs[pu]? = some ⟨3, 4, b_places_unlike nl⟩
theorem need_like_run {pb st ip np gB nt nl pu : Nat} (F : LikeFs fs gl pb st ip np gB nt nl pu) {p : Int} {a b : List Int} (A : TabOk p a) (B : TabOk p b) (h : a.length = b.length) (hN : 100 ≤ N) :
    callN fs gl N (k + 5) nl [.lst (a.map W.int), .lst (b.map W.int), .int p] m = .ok (.val .non) m := by
  rw [call_at F.fnl rfl]
  have a1 := need_prime_run (k := k) (gl := gl) (N := N) (m := m) F.pr.fnp F.pr.fip F.pr.fst F.pr.fpb F.pr.fgB A.prime hN
  have a2 : callN fs gl N (k + 4) nt [.lst (a.map W.int), .int p] m = .ok (.val .non) m := need_table_run (k := k + 3) F.fnt A.one A.few A.worth (by have := A.most; unfold LIM; omega)
  have a3 : callN fs gl N (k + 4) nt [.lst (b.map W.int), .int p] m = .ok (.val .non) m := need_table_run (k := k + 3) F.fnt B.one B.few B.worth (by have := B.most; unfold LIM; omega)
  simp [b_need_like, a1, a2, a3, h]
theorem range_ints (n : Nat) : ((List.range n).map fun (i : Nat) => W.int (0 + (i : Int))) = ((List.range n).map fun (i : Nat) => (i : Int)).map W.int := by
  rw [List.map_map]
  exact List.map_congr_left fun i _ => by show W.int (0 + (i : Int)) = W.int (i : Int); rw [Int.zero_add]
theorem unlike_filter (a b : List Int) (h : a.length = b.length) : (((List.range a.length).map fun (i : Nat) => (i : Int)).filter fun i => decide (a[i.toNat]? ≠ b[i.toNat]?)).map id = unlikeL a b := by
  rw [List.map_id, List.filter_map]
  rfl
theorem at_get {a : List Int} {i : Int} (h0 : 0 ≤ i) (h1 : i < a.length) : atI (a.map W.int) i = some (.int (a.getD i.toNat 0)) := at_ok h0 (by
  have : i.toNat < a.length := by omega
  rw [List.getElem?_map, List.getElem?_eq_getElem this, List.getD_eq_getElem?_getD, List.getElem?_eq_getElem this]; rfl)
theorem getD_ne {a b : List Int} {i : Int} (h0 : 0 ≤ i) (h1 : i < a.length) (h2 : i < b.length) : decide (a.getD i.toNat 0 ≠ b.getD i.toNat 0) = decide (a[i.toNat]? ≠ b[i.toNat]?) := by
  have l1 : i.toNat < a.length := by omega
  have l2 : i.toNat < b.length := by omega
  rw [List.getD_eq_getElem?_getD, List.getD_eq_getElem?_getD, List.getElem?_eq_getElem l1, List.getElem?_eq_getElem l2]
  simp
theorem call3_run {nl : Nat} {x y z : W} {s : Option Sl} (a1 : cs nl [x, y, z] m = .ok (.val .non) m) : sv cs gl N (.ex (.call nl 3 (.cons (.var 0) (.cons (.var 1) (.cons (.var 2) .nil))))) [some (.val x), some (.val y), some (.val z), s] m = .ok .nx [some (.val x), some (.val y), some (.val z), s] m := by simp [a1]
theorem comp_run {it : It} {src c elt : E} {tg : Tg} {js : List Nat} {ws zs rs : List W} {ck : List (Nat × List W)} {e2 en1 en2 en3 : En} {m2 : Sto} (h1 : evs cs gl src en m = .ok ws e2 m) (h2 : itemsR it m ws = some (zs, ck)) (h3 : zs.length ≤ LIM) (h4 : wipeE (frzE e2 js) js = en1) (h5 : cl cs gl tg js c elt ck zs en1 m = .ok rs en2 m2) (h6 : restE (frzE e2 js) en2 js = en3) :
    ev cs gl (.comp it src tg js c elt) en m = .ok (.new rs) en3 m2 := by
  rw [ev_comp, h1, bnd_ok, h2, opt2p_some, if_pos h3, h4, h5, bnd_ok, h6]
theorem places_comp {pb st ip np gB nt nl pu : Nat} (F : LikeFs fs gl pb st ip np gB nt nl pu) {p : Int} {a b : List Int} (A : TabOk p a) (B : TabOk p b) (h : a.length = b.length) (hN : 100 ≤ N) :
    ev (callN fs gl N (k + 5)) gl (.comp .rng1 (.cons (.blt .len (.cons (.var 0) .nil)) .nil) (.one 3) [3] (.cmp .ne (.idx (.var 0) (.var 3)) (.idx (.var 1) (.var 3))) (.var 3)) [some (.val (.lst (a.map W.int))), some (.val (.lst (b.map W.int))), some (.val (.int p)), none] m = .ok (.new ((unlikeL a b).map W.int)) [some (.val (.lst (a.map W.int))), some (.val (.lst (b.map W.int))), some (.val (.int p)), none] m := by
  have hl := A.most
  have g1 : rngOk (a.length : Int) = true := by unfold rngOk; exact decide_eq_true ⟨by omega, by omega⟩
  have hcl := cl_ints (cs := callN fs gl N (k + 5)) (gl := gl) (m := m) (en := [some (.val (.lst (a.map W.int))), some (.val (.lst (b.map W.int))), some (.val (.int p)), none]) (j := 3) (c := .cmp .ne (.idx (.var 0) (.var 3)) (.idx (.var 1) (.var 3))) (elt := .var 3) (ck := [])
    (fun i => decide (a[i.toNat]? ≠ b[i.toNat]?)) id (ns := (List.range a.length).map fun (i : Nat) => (i : Int)) rfl rfl (fun i hi => by
      obtain ⟨j, hj, rfl⟩ := List.mem_map.mp hi
      have hj := List.mem_range.mp hj
      refine ⟨?_, fun _ => by simp⟩
      have g := getD_ne (a := a) (b := b) (i := (j : Int)) (by omega) (by omega) (by omega)
      have q1 := at_get (a := a) (i := (j : Int)) (by omega) (by omega)
      have q2 := at_get (a := b) (i := (j : Int)) (by omega) (by omega)
      simp only [isNil, Bool.false_eq_true, if_false, ev_cmp, ev_idx, ev_var, enGet_0, enGet_s, List.set_cons_succ, List.set_cons_zero, bnd_ok, hold_val, idx_lst, q1, q2, optp_some, ne_ints, g])
  rw [unlike_filter a b h, ← range_ints] at hcl
  have it := items_rng1 (m := m) g1
  rw [Int.toNat_natCast] at it
  have ll : a.length ≤ LIM := by unfold LIM; omega
  have lz : ((List.range a.length).map fun (i : Nat) => W.int (0 + (i : Int))).length ≤ LIM := by rw [List.length_map, List.length_range]; exact ll
  have h1 : evs (callN fs gl N (k + 5)) gl (.cons (.blt .len (.cons (.var 0) .nil)) .nil) [some (.val (.lst (a.map W.int))), some (.val (.lst (b.map W.int))), some (.val (.int p)), none] m = .ok [.int (a.length : Int)] [some (.val (.lst (a.map W.int))), some (.val (.lst (b.map W.int))), some (.val (.int p)), none] m := by simp
  exact comp_run h1 it lz rfl hcl rfl
theorem like_st {pb st ip np gB nt nl pu : Nat} (F : LikeFs fs gl pb st ip np gB nt nl pu) {p : Int} {a b : List Int} (A : TabOk p a) (B : TabOk p b) (h : a.length = b.length) (hN : 100 ≤ N) {s : Option Sl} : sv (callN fs gl N (k + 5)) gl N (.ex (.call nl 3 (.cons (.var 0) (.cons (.var 1) (.cons (.var 2) .nil))))) [some (.val (.lst (a.map W.int))), some (.val (.lst (b.map W.int))), some (.val (.int p)), s] m = .ok .nx [some (.val (.lst (a.map W.int))), some (.val (.lst (b.map W.int))), some (.val (.int p)), s] m := call3_run (need_like_run (k := k) F A B h hN)
theorem end_two {s : S} {e : E} {en en2 en3 : En} {m2 m3 : Sto} {ws : List W} (h1 : sv cs gl N s en m = .ok .nx en2 m2) (h2 : ev cs gl e en2 m2 = .ok (.new ws) en3 m3) : endR (sv cs gl N (.seq s (.seq (.ret e) .skip)) en m) = .ok (.new ws) m3 := by
  rw [sv_seq, h1, thn_nx, sv_seq, sv_ret, h2, bnd_ok, retR_new, optp_some, thn_rt, end_rt]
theorem places_run {pb st ip np gB nt nl pu : Nat} (F : LikeFs fs gl pb st ip np gB nt nl pu) {p : Int} {a b : List Int} (A : TabOk p a) (B : TabOk p b) (h : a.length = b.length) (hN : 100 ≤ N) :
    callN fs gl N (k + 6) pu [.lst (a.map W.int), .lst (b.map W.int), .int p] m = .ok (.new ((unlikeL a b).map W.int)) m := by
  rw [call_at F.fpu rfl]
  exact end_two (like_st F A B h hN) (places_comp F A B h hN)
end
end Mp

set_option Elab.async false
set_option linter.all false
set_option maxRecDepth 100000
set_option maxHeartbeats 4000000
namespace Mp
open PySem PySem.Spec PyProof.Rows L2
section
variable {fs : List Fd} {gl : List W} {N k f : Nat} {m : Sto} {en : En}
/-- a law that goes through the cells of a script -/
theorem cells_run {nn : Nat} {b : S} {cnt : Int} (hf : fs[f]? = some ⟨1, nn + 2, .seq (.for_ .list (.cons (.bin .add (.lst (.cons (.bin .pow (.int 10) (.int 18)) .nil)) (.slc (.var 0) .nil (.int cnt))) .nil) (.one 1) b) (.seq (.ret (.bl true)) .skip)⟩) {ns : List Int} (hns : ns.length ≤ 63) (I : En → Prop) (h0 : I (List.replicate nn none))
    (hb : ∀ (cell : Int) (tl : En) (mm : Sto), I tl → ∃ x tl2 m2, sv (callN fs gl N k) gl N b (some (.val (.scr (ns.map W.int))) :: some (.val (.int cell)) :: tl) mm = .ok .nx (some (.val (.scr (ns.map W.int))) :: x :: tl2) m2 ∧ I tl2) :
    ∃ m2, callN fs gl N (k + 1) f [.scr (ns.map W.int)] m = .ok (.val (.bl true)) m2 := by
  rw [call_at hf rfl]
  obtain ⟨l, e1, e2⟩ := cut_ints (ns := ns) (lo := none) (hi := some cnt)
  have p18 : ∀ en m, binR .pow en m (.val (.int 10)) (.val (.int 18)) = some (.val (.int (10 ^ 18))) := fun en m => cmp_pow (by decide) rfl
  obtain ⟨en2, m2, h, _⟩ := fl_each (cs := callN fs gl N k) (gl := gl) (N := N) (tg := .one 1) (b := b)
    (fun en _ => ∃ x1 tl, I tl ∧ en = some (.val (.scr (ns.map W.int))) :: x1 :: tl) (zs := ((10 ^ 18 :: l : List Int)).map W.int)
    (en := some (.val (.scr (ns.map W.int))) :: none :: List.replicate nn none) (m := m) ⟨_, _, h0, rfl⟩ (fun z hz en mm hI => by
      obtain ⟨cell, _, rfl⟩ := List.mem_map.mp hz
      obtain ⟨x1, tl, hI, rfl⟩ := hI
      obtain ⟨x, tl2, m2, h, h2⟩ := hb cell tl mm hI
      exact ⟨_, _, _, rfl, h, _, _, h2, rfl⟩)
  have l1 : (1 : Nat) ≤ LIM := by decide
  have ad : ∀ en m, binR .add en m (.val (.lst [W.int (10 ^ 18)])) (.val (.lst (l.map W.int))) = some (.new ([W.int (10 ^ 18)] ++ l.map W.int)) := fun en m => add_lsts (by rw [List.length_map]; unfold LIM; simp; omega)
  have ev1 : ∀ en m, ev (callN fs gl N k) gl (.slc (.var 0) .nil (.int cnt)) (some (.val (.scr (ns.map W.int))) :: en) m = .ok (.new (l.map W.int)) (some (.val (.scr (ns.map W.int))) :: en) m := fun en m => by
    rw [slc_ev]
    simp [isNil, e1]
  refine ⟨m2, ?_⟩
  simp only [List.map_cons] at h
  have e3 : List.map (fun w => some (Sl.val w)) [W.scr (ns.map W.int)] ++ List.replicate (nn + 2 - [W.scr (ns.map W.int)].length) none = some (.val (.scr (ns.map W.int))) :: none :: List.replicate nn none := by
    have : nn + 2 - [W.scr (ns.map W.int)].length = nn + 1 := by simp
    rw [this, List.replicate_succ]; rfl
  rw [e3]
  simp only [sv_seq, sv_for, sv_ret, ev_bin, ev_int, ev_lst, ev1, evs_cons, evs_nil, bnd_ok, opt2p_some, optp_some, hold_val, hold_new, List.cons_append, List.nil_append,
    p18, ad, esc_val, esc_new, List.length_cons, List.length_nil, l1, if_true, Nat.zero_add, items_lst, h, thn_nx, ev_bl, retR_val, thn_rt, end_rt]
/-- a list in a name of its own, or kept by others as well -/
def Held (s : Option Sl) (ns : List Int) : Prop := s = some (.own (ns.map W.int)) ∨ s = some (.val (.lst (ns.map W.int)))
theorem most_40 (d : Int) : ∃ most : Int, atI [W.int 12, W.int 40] (if d % 8 = 3 then 1 else 0) = some (.int most) ∧ 1 ≤ most ∧ most ≤ 40 := by
  by_cases c : d % 8 = 3
  · rw [if_pos c]; exact ⟨40, at_1, by decide, by decide⟩
  · rw [if_neg c]; exact ⟨12, at_0, by decide, by decide⟩
theorem pair_ne {en : En} {m : Sto} {a b c d : List Int} : cmpR .ne en m (.val (.tup [.lst (a.map W.int), .lst (b.map W.int)])) (.val (.tup [.lst (c.map W.int), .lst (d.map W.int)])) = some (!(decide (a = c) && decide (b = d))) := by
  have dd : ∀ a b : List Int, W.dat DEEP (rd m (.tup [.lst (a.map W.int), .lst (b.map W.int)])) = true := fun a b => by
    show W.dat DEEP (.tup [.lst (a.map W.int), .lst (b.map W.int)]) = true
    simp only [DEEP, W.dat, W.dats, Bool.and_true, Bool.and_eq_true]
    exact ⟨dats_ints _ _, dats_ints _ _⟩
  rw [neR_dat rfl rfl (dd a b) (dd c d)]
  show some (!W.same (.tup [.lst (a.map W.int), .lst (b.map W.int)]) (.tup [.lst (c.map W.int), .lst (d.map W.int)])) = _
  simp [W.same, W.sames]
theorem tup_ev {cs : Nat → List W → Sto → CR} {es : E} : ev cs gl (.tup es) en m = bnd (evs cs gl es en m) fun ws en m => if ws.length ≤ LIM then .ok (.val (.tup ws)) en m else .bad := by
  simp only [ev]; rfl
theorem unlike_symm {a b : List Int} (h : a.length = b.length) : unlikeL a b = unlikeL b a := by
  unfold unlikeL
  rw [h]
  congr 1
  apply List.filter_congr
  intro i _
  by_cases c : a[i]? = b[i]?
  · rw [c]
  · rw [decide_eq_true c, decide_eq_true (Ne.symm c)]
theorem unlike_self {a : List Int} : unlikeL a a = [] := by
  unfold unlikeL
  have : (List.range a.length).filter (fun i => decide (a[i]? ≠ a[i]?)) = [] := by
    apply List.filter_eq_nil_iff.mpr
    intro i _
    simp
  rw [this]; rfl
theorem unlike_len {a b : List Int} : (unlikeL a b).length ≤ a.length := by
  unfold unlikeL
  rw [List.length_map]
  exact Nat.le_trans (List.length_filter_le _ _) (by rw [List.length_range]; exact Nat.le_refl _)
theorem unlike_cl {cs : Nat → List W → Sto → CR} {x y z : E} {j : Nat} {a b : List Int} (h : a.length = b.length) (hw : en.set j none = en)
    (hA : ∀ i : Nat, i < a.length → ev cs gl x (en.set j (some (.val (.int (i : Int))))) m = .ok (.val (.int (a.getD i 0))) (en.set j (some (.val (.int (i : Int))))) m)
    (hB : ∀ i : Nat, i < a.length → ev cs gl y (en.set j (some (.val (.int (i : Int))))) m = .ok (.val (.int (b.getD i 0))) (en.set j (some (.val (.int (i : Int))))) m)
    (hJ : ∀ i : Nat, i < a.length → ev cs gl z (en.set j (some (.val (.int (i : Int))))) m = .ok (.val (.int (i : Int))) (en.set j (some (.val (.int (i : Int))))) m) :
    cl cs gl (.one j) [j] (.cmp .ne x y) z [] ((List.range a.length).map fun (i : Nat) => W.int (0 + (i : Int))) en m = .ok ((unlikeL a b).map W.int) en m := by
  have hcl := cl_ints (cs := cs) (gl := gl) (m := m) (en := en) (j := j) (c := .cmp .ne x y) (elt := z) (ck := [])
    (fun i => decide (a[i.toNat]? ≠ b[i.toNat]?)) id (ns := (List.range a.length).map fun (i : Nat) => (i : Int)) rfl hw (fun i hi => by
      obtain ⟨j2, hj, rfl⟩ := List.mem_map.mp hi
      have hj := List.mem_range.mp hj
      refine ⟨?_, fun _ => hJ j2 hj⟩
      have g := getD_ne (a := a) (b := b) (i := (j2 : Int)) (by omega) (by omega) (by omega)
      simp only [Int.toNat_natCast] at g
      simp only [isNil, Bool.false_eq_true, if_false, ev_cmp, hA j2 hj, hB j2 hj, bnd_ok, hold_val, optp_some, ne_ints, Int.toNat_natCast, g])
  rw [unlike_filter a b h, ← range_ints] at hcl
  exact hcl
end
end Mp

set_option linter.all false
/-! Numbers by a prime: plain arithmetic. -/
namespace Mp
/-- what a prime is good for -/
structure PrimeP (p : Int) : Prop where
  two : 2 ≤ p
  mul : ∀ a b : Int, p ∣ a * b → p ∣ a ∨ p ∣ b
def noDiv (n : Nat) : Nat → Nat → Bool
  | 0, lo => Nat.ble n lo || Nat.blt 0 (n % lo)
  | k + 1, lo => noDiv n k lo && noDiv n k (lo + 2 ^ k)
theorem noDiv_ok {n : Nat} : ∀ (k lo : Nat), noDiv n k lo = true → ∀ d, lo ≤ d → d < lo + 2 ^ k → d < n → ¬ d ∣ n
  | 0, lo, h, d, h1, h2, h3, h4 => by
    have : d = lo := by omega
    subst this
    unfold noDiv at h
    rw [Bool.or_eq_true] at h
    rcases h with h | h
    · have := Nat.le_of_ble_eq_true h; omega
    · have h5 : 0 < n % d := by unfold Nat.blt at h; exact Nat.le_of_ble_eq_true h
      have := Nat.mod_eq_zero_of_dvd h4
      omega
  | k + 1, lo, h, d, h1, h2, h3, h4 => by
    unfold noDiv at h
    rw [Bool.and_eq_true] at h
    rw [Nat.pow_succ] at h2
    by_cases c : d < lo + 2 ^ k
    · exact noDiv_ok k lo h.1 d h1 c h3 h4
    · exact noDiv_ok k (lo + 2 ^ k) h.2 d (by omega) (by omega) h3 h4
theorem prime_of {n k : Nat} (h2 : 2 ≤ n) (h : noDiv n k 2 = true) (hk : n < 2 ^ k * 2 ^ k) : PrimeP (n : Int) := by
  have key : ∀ g h : Nat, n = g * h → 1 < g → g < n → False := fun g h e g1 g2 => by
    have h1 : 1 < h := by
      rcases Nat.lt_or_ge 1 h with c | c
      · exact c
      · have : g * h ≤ g * 1 := Nat.mul_le_mul_left g c
        omega
    by_cases c : g < 2 ^ k
    · exact noDiv_ok k 2 ‹_› g (by omega) (by omega) g2 ⟨h, e⟩
    · have hh : h < 2 ^ k := by
        rcases Nat.lt_or_ge h (2 ^ k) with d | d
        · exact d
        · have := Nat.mul_le_mul (Nat.le_of_not_lt c) d
          omega
      have hn : h < n := by
        have : 2 * h ≤ g * h := Nat.mul_le_mul_right h g1
        omega
      exact noDiv_ok k 2 ‹_› h (by omega) (by omega) hn ⟨g, by rw [Nat.mul_comm]; exact e⟩
  refine ⟨by omega, fun a b hab => ?_⟩
  have hab2 : n ∣ a.natAbs * b.natAbs := by
    have := Int.natAbs_dvd_natAbs.mpr hab
    rw [Int.natAbs_mul, Int.natAbs_natCast] at this
    exact this
  have hg := Nat.gcd_dvd_right a.natAbs n
  obtain ⟨q, hq⟩ := hg
  rcases Nat.lt_or_ge 1 (Nat.gcd a.natAbs n) with c | c
  · have hle : Nat.gcd a.natAbs n ≤ n := Nat.gcd_le_right _ (by omega)
    rcases Nat.lt_or_eq_of_le hle with d | d
    · exact (key _ q hq c d).elim
    · left
      have : n ∣ a.natAbs := by rw [← d]; exact Nat.gcd_dvd_left a.natAbs n
      exact Int.natAbs_dvd_natAbs.mp (by rw [Int.natAbs_natCast]; exact this)
  · right
    have h0 : 0 < Nat.gcd a.natAbs n := Nat.gcd_pos_of_pos_right _ (by omega)
    have h1 : Nat.Coprime n a.natAbs := by
      show Nat.gcd n a.natAbs = 1
      rw [Nat.gcd_comm]; omega
    exact Int.natAbs_dvd_natAbs.mp (by rw [Int.natAbs_natCast]; exact h1.dvd_of_dvd_mul_left hab2)
section
variable {p : Int} (P : PrimeP p)
theorem PrimeP.not_one (P : PrimeP p) : ¬ p ∣ 1 := fun h => by
  have := Int.le_of_dvd (by decide) h
  have := P.two
  omega
theorem PrimeP.left (P : PrimeP p) {a b : Int} (h : p ∣ a * b) (h2 : ¬ p ∣ b) : p ∣ a := (P.mul a b h).resolve_right h2
theorem PrimeP.right (P : PrimeP p) {a b : Int} (h : p ∣ a * b) (h2 : ¬ p ∣ a) : p ∣ b := (P.mul a b h).resolve_left h2
def prodL : List Int → Int
  | [] => 1
  | x :: xs => x * prodL xs
theorem prodL_perm {a b : List Int} (h : a.Perm b) : prodL a = prodL b := by
  induction h with
  | nil => rfl
  | cons x _ ih => rw [prodL, prodL, ih]
  | swap x y l => simp only [prodL]; grind
  | trans _ _ i1 i2 => rw [i1, i2]
theorem PrimeP.prod (P : PrimeP p) : ∀ {l : List Int}, (∀ x ∈ l, ¬ p ∣ x) → ¬ p ∣ prodL l
  | [], _, h => P.not_one h
  | x :: l, hl, h => by
    rcases P.mul x (prodL l) h with c | c
    · exact hl x List.mem_cons_self c
    · exact P.prod (fun y hy => hl y (List.mem_cons_of_mem _ hy)) c
theorem perm_of_nodup : ∀ {a b : List Int}, a.Nodup → (∀ x ∈ a, x ∈ b) → b.length ≤ a.length → a.Perm b
  | [], b, _, _, h => by
    have : b = [] := List.eq_nil_of_length_eq_zero (by simpa using h)
    rw [this]
  | x :: a, b, hn, hs, hl => by
    have hx := hs x List.mem_cons_self
    have hp := List.perm_cons_erase hx
    have hn2 := List.nodup_cons.mp hn
    have hl2 : (b.erase x).length ≤ a.length := by
      have := hp.length_eq
      simp only [List.length_cons] at this hl
      omega
    have ih := perm_of_nodup hn2.2 (fun y hy => by
      have hy2 := hs y (List.mem_cons_of_mem _ hy)
      have hne : y ≠ x := fun e => hn2.1 (e ▸ hy)
      exact (List.mem_erase_of_ne hne).mpr hy2) hl2
    exact (ih.cons x).trans hp.symm
/-- 1 to n -/
def upto (n : Nat) : List Int := (List.range n).map fun (i : Nat) => (i : Int) + 1
theorem mem_upto {n : Nat} {x : Int} : x ∈ upto n ↔ 1 ≤ x ∧ x ≤ n := by
  unfold upto
  rw [List.mem_map]
  constructor
  · rintro ⟨i, hi, rfl⟩
    have := List.mem_range.mp hi
    omega
  · intro h
    exact ⟨(x - 1).toNat, List.mem_range.mpr (by omega), by omega⟩
theorem prod_map (a : Int) : ∀ l : List Int, p ∣ prodL (l.map fun x => a * x % p) - a ^ l.length * prodL l
  | [] => by simp [prodL]
  | x :: l => by
    have ih := prod_map a l
    obtain ⟨c, hc⟩ := ih
    have hm := Int.emod_add_mul_ediv (a * x) p
    generalize (a * x) / p = q at hm
    rw [List.map_cons, prodL, prodL, List.length_cons, Int.pow_succ]
    generalize prodL (List.map (fun x => a * x % p) l) = z at *
    generalize a * x % p = y at *
    refine ⟨y * c - q * (a ^ l.length * prodL l), ?_⟩
    grind
theorem nodup_map {f : Int → Int} : ∀ {l : List Int}, l.Nodup → (∀ x ∈ l, ∀ y ∈ l, f x = f y → x = y) → (l.map f).Nodup
  | [], _, _ => List.nodup_nil
  | x :: l, h, hf => by
    have h2 := List.nodup_cons.mp h
    rw [List.map_cons, List.nodup_cons]
    refine ⟨fun hm => ?_, nodup_map h2.2 fun a ha b hb => hf a (List.mem_cons_of_mem _ ha) b (List.mem_cons_of_mem _ hb)⟩
    obtain ⟨y, hy, e⟩ := List.mem_map.mp hm
    have := hf y (List.mem_cons_of_mem _ hy) x List.mem_cons_self e
    exact h2.1 (this ▸ hy)
theorem upto_nodup : ∀ n, (upto n).Nodup := fun n => by
  have : upto n = ((List.range n).map fun (i : Nat) => (i : Int)).map fun i => i + 1 := by unfold upto; rw [List.map_map]; rfl
  rw [this]
  refine nodup_map ?_ fun x _ y _ h => by omega
  have e : (List.range n).map (fun i : Nat => (i : Int)) = (List.range n).map Int.ofNat := rfl
  have := List.nodup_range (n := n)
  rw [List.Nodup, List.pairwise_map]
  exact this.imp fun h => by omega
/-- Fermat -/
theorem PrimeP.fermat (P : PrimeP p) {a : Int} (h : ¬ p ∣ a) : p ∣ a ^ (p - 1).toNat - 1 := by
  have h2 := P.two
  have hlen : (upto (p - 1).toNat).length = (p - 1).toNat := by unfold upto; rw [List.length_map, List.length_range]
  have hmem : ∀ x ∈ upto (p - 1).toNat, ¬ p ∣ x := fun x hx hd => by
    have := mem_upto.mp hx
    have := Int.le_of_dvd (by omega) hd
    omega
  have hp : ((upto (p - 1).toNat).map fun x => a * x % p).Perm (upto (p - 1).toNat) := by
    apply perm_of_nodup
    · apply nodup_map (upto_nodup _)
      intro x hx y hy e
      have hx2 := mem_upto.mp hx
      have hy2 := mem_upto.mp hy
      have hd : p ∣ a * (x - y) := by
        have := Int.emod_eq_emod_iff_emod_sub_eq_zero.mp e
        rw [Int.mul_sub]
        exact Int.dvd_of_emod_eq_zero this
      have hd2 := P.right hd h
      obtain ⟨c, hc⟩ := hd2
      have c1 : c < 1 := by
        by_cases d : c < 1
        · exact d
        · have : p * 1 ≤ p * c := Int.mul_le_mul_of_nonneg_left (by omega) (by omega)
          omega
      have c2 : -1 < c := by
        by_cases d : -1 < c
        · exact d
        · have : p * c ≤ p * (-1) := Int.mul_le_mul_of_nonneg_left (by omega) (by omega)
          omega
      have : c = 0 := by omega
      rw [this] at hc; omega
    · intro z hz
      obtain ⟨x, hx, rfl⟩ := List.mem_map.mp hz
      have e0 := Int.emod_nonneg (a * x) (show p ≠ 0 by omega)
      have e1 := Int.emod_lt_of_pos (a * x) (show 0 < p by omega)
      have : a * x % p ≠ 0 := fun e => by
        rcases P.mul a x (Int.dvd_of_emod_eq_zero e) with c | c
        · exact h c
        · exact hmem x hx c
      exact mem_upto.mpr (by omega)
    · rw [List.length_map]; exact Nat.le_refl _
  have e := prod_map (p := p) a (upto (p - 1).toNat)
  rw [prodL_perm hp, hlen] at e
  have e2 : p ∣ (a ^ (p - 1).toNat - 1) * prodL (upto (p - 1).toNat) := by
    obtain ⟨c, hc⟩ := e
    exact ⟨-c, by grind⟩
  exact P.left e2 (P.prod hmem)
/-- the inverse by a power -/
theorem PrimeP.inv (P : PrimeP p) {a : Int} (h : ¬ p ∣ a) : p ∣ a * (a ^ (p - 2).toNat % p) - 1 := by
  have h2 := P.two
  have e := P.fermat h
  have : (p - 1).toNat = (p - 2).toNat + 1 := by omega
  rw [this, Int.pow_succ] at e
  have hm := Int.emod_add_mul_ediv (a ^ (p - 2).toNat) p
  obtain ⟨c, hc⟩ := e
  generalize a ^ (p - 2).toNat / p = q at hm
  generalize a ^ (p - 2).toNat % p = y at *
  generalize a ^ (p - 2).toNat = z at *
  exact ⟨c - a * q, by grind⟩
end
end Mp

set_option linter.all false
namespace Mp
/-- worths times powers, all added: pairs of a point and a worth -/
def pw : List (Int × Int) → Nat → Int
  | [], _ => 0
  | q :: l, j => q.2 * q.1 ^ j + pw l j
def Unlike (p : Int) (l : List (Int × Int)) : Prop := l.Pairwise fun a b => ¬ p ∣ a.1 - b.1
/-- one point taken away -/
def lessPt (x1 : Int) (l : List (Int × Int)) : List (Int × Int) := l.map fun q => (q.1, q.2 * (q.1 - x1))
theorem pw_less (x1 : Int) (j : Nat) : ∀ l, pw (lessPt x1 l) j = pw l (j + 1) - x1 * pw l j
  | [] => by simp [lessPt, pw]
  | q :: l => by
    have ih := pw_less x1 j l
    unfold lessPt at *
    rw [List.map_cons, pw, ih, pw, pw, Int.pow_succ]
    grind
theorem pw_head (x1 w1 : Int) (j : Nat) (l : List (Int × Int)) : pw ((x1, w1) :: l) (j + 1) - x1 * pw ((x1, w1) :: l) j = pw (lessPt x1 l) j := by
  rw [pw_less, pw, pw, Int.pow_succ]
  grind
theorem less_unlike {p x1 : Int} {l : List (Int × Int)} (h : Unlike p l) : Unlike p (lessPt x1 l) := by
  unfold Unlike lessPt
  rw [List.pairwise_map]
  exact h
section
variable {p : Int}
/-- worths at unlike points to which as many sums are blind are 0 -/
theorem vand (P : PrimeP p) : ∀ (n : Nat) {l : List (Int × Int)}, l.length = n → Unlike p l → (∀ j, j < n → p ∣ pw l j) → ∀ q ∈ l, p ∣ q.2
  | 0, l, hn, _, _, q, hq => by
    rw [List.eq_nil_of_length_eq_zero hn] at hq
    cases hq
  | n + 1, [], hn, _, _, q, hq => by cases hq
  | n + 1, (x1, w1) :: l, hn, hu, hs, q, hq => by
    have hu2 := List.pairwise_cons.mp hu
    have hl : l.length = n := by simpa using hn
    have ih := vand P n (l := lessPt x1 l) (by unfold lessPt; rw [List.length_map]; exact hl) (less_unlike hu2.2) (fun j hj => by
      rw [← pw_head x1 w1]
      exact Int.dvd_sub (hs (j + 1) (by omega)) (Int.dvd_trans (hs j (by omega)) (Int.dvd_mul_left _ _)))
    have ht : ∀ r ∈ l, p ∣ r.2 := fun r hr => by
      have h1 := ih (r.1, r.2 * (r.1 - x1)) (List.mem_map.mpr ⟨r, hr, rfl⟩)
      refine P.left h1 fun h => hu2.1 r hr ?_
      obtain ⟨c, hc⟩ := h
      exact ⟨-c, by grind⟩
    rcases List.mem_cons.mp hq with rfl | hq
    · have h0 := hs 0 (by omega)
      have hz : ∀ l : List (Int × Int), (∀ r ∈ l, p ∣ r.2) → p ∣ pw l 0 := fun l => by
        induction l with
        | nil => intro _; exact Int.dvd_zero p
        | cons a l ih =>
          intro h
          rw [pw, Int.pow_zero, Int.mul_one]
          exact Int.dvd_add (h a List.mem_cons_self) (ih fun r hr => h r (List.mem_cons_of_mem _ hr))
      have hz2 := hz l ht
      rw [pw, Int.pow_zero, Int.mul_one] at h0
      obtain ⟨c, hc⟩ := h0
      obtain ⟨d, hd⟩ := hz2
      exact ⟨c - d, by grind⟩
    · exact ht q hq
theorem pw_perm {a b : List (Int × Int)} (h : a.Perm b) (j : Nat) : pw a j = pw b j := by
  induction h with
  | nil => rfl
  | cons x _ ih => rw [pw, pw, ih]
  | swap x y l => simp only [pw]; omega
  | trans _ _ i1 i2 => rw [i1, i2]
/-- the product of the differences to others -/
def apartP (x : Int) : List (Int × Int) → Int
  | [] => 1
  | q :: l => (x - q.1) * apartP x l
theorem apart_perm {x : Int} {a b : List (Int × Int)} (h : a.Perm b) : apartP x a = apartP x b := by
  induction h with
  | nil => rfl
  | cons y _ ih => rw [apartP, apartP, ih]
  | swap y z l => simp only [apartP]; grind
  | trans _ _ i1 i2 => rw [i1, i2]
theorem apart_less {x x1 : Int} : ∀ l, apartP x (lessPt x1 l) = apartP x l
  | [] => rfl
  | q :: l => by
    have ih := apart_less (x := x) (x1 := x1) l
    unfold lessPt at *
    rw [List.map_cons, apartP, apartP, ih]
/-- each worth is 1 over the product of the differences to the other points -/
def Weights (p : Int) (l : List (Int × Int)) : Prop := ∀ q r, l.Perm (q :: r) → p ∣ q.2 * apartP q.1 r - 1
theorem Weights.perm {a b : List (Int × Int)} (h : Weights p a) (e : a.Perm b) : Weights p b := fun q r h2 => h q r (e.trans h2)
theorem Weights.less {x1 w1 : Int} {l : List (Int × Int)} (h : Weights p ((x1, w1) :: l)) : Weights p (lessPt x1 l) := fun q' r' e => by
  have hq : q' ∈ lessPt x1 l := e.mem_iff.mpr List.mem_cons_self
  obtain ⟨q, hq2, rfl⟩ := List.mem_map.mp hq
  have hp := List.perm_cons_erase hq2
  have e1 : (lessPt x1 l).Perm ((q.1, q.2 * (q.1 - x1)) :: lessPt x1 (l.erase q)) := by
    have := hp.map fun q : Int × Int => (q.1, q.2 * (q.1 - x1))
    exact this
  have e2 : r'.Perm (lessPt x1 (l.erase q)) := (e.symm.trans e1).cons_inv
  have h1 := h q ((x1, w1) :: l.erase q) ((hp.cons (x1, w1)).trans (List.Perm.swap _ _ _))
  rw [apart_perm e2, apart_less]
  rw [apartP] at h1
  obtain ⟨c, hc⟩ := h1
  exact ⟨c, by grind⟩
theorem lag (P : PrimeP p) : ∀ (n : Nat) {l : List (Int × Int)}, l.length = n + 1 → Unlike p l → Weights p l → (∀ j, j < n → p ∣ pw l j) ∧ p ∣ pw l n - 1
  | 0, [q], _, _, hw => by
    have := hw q [] (List.Perm.refl _)
    refine ⟨fun j hj => by omega, ?_⟩
    simpa [pw, apartP] using this
  | n + 1, (x1, w1) :: (x2, w2) :: l, hn, hu, hw => by
    have hl : l.length = n := by simpa using hn
    have hu2 := List.pairwise_cons.mp hu
    have hu3 := List.pairwise_cons.mp hu2.2
    have i1 := lag P n (l := lessPt x1 ((x2, w2) :: l)) (by unfold lessPt; simp [hl]) (less_unlike hu2.2) hw.less
    have hsw : ((x1, w1) :: (x2, w2) :: l).Perm ((x2, w2) :: (x1, w1) :: l) := List.Perm.swap _ _ _
    have hu4 : Unlike p ((x1, w1) :: l) := List.pairwise_cons.mpr ⟨fun a ha => hu2.1 a (List.mem_cons_of_mem _ ha), hu3.2⟩
    have i2 := lag P n (l := lessPt x2 ((x1, w1) :: l)) (by unfold lessPt; simp [hl]) (less_unlike hu4) (hw.perm hsw).less
    have f1 := fun j => pw_head x1 w1 j ((x2, w2) :: l)
    have f2 := fun j => pw_head x2 w2 j ((x1, w1) :: l)
    have hx : ¬ p ∣ x1 - x2 := hu2.1 (x2, w2) List.mem_cons_self
    have sw := fun j => pw_perm hsw j
    generalize (x1, w1) :: (x2, w2) :: l = L at *
    have all : ∀ j, j < n + 1 → p ∣ pw L j := fun j hj => by
      have g1 := f1 j
      have g2 := f2 j
      rw [← sw, ← sw] at g2
      have : p ∣ pw (lessPt x2 ((x1, w1) :: l)) j - pw (lessPt x1 ((x2, w2) :: l)) j := by
        rcases Nat.lt_or_eq_of_le (Nat.le_of_lt_succ hj) with c | rfl
        · exact Int.dvd_sub (i2.1 j c) (i1.1 j c)
        · obtain ⟨c, hc⟩ := i1.2
          obtain ⟨d, hd⟩ := i2.2
          exact ⟨d - c, by grind⟩
      have h3 : p ∣ pw L j * (x1 - x2) := by
        obtain ⟨c, hc⟩ := this
        exact ⟨c, by grind⟩
      exact P.left h3 hx
    refine ⟨all, ?_⟩
    have g1 := f1 n
    obtain ⟨c, hc⟩ := i1.2
    obtain ⟨d, hd⟩ := all n (by omega)
    exact ⟨c + x1 * d, by grind⟩
end
end Mp

set_option linter.all false
namespace Mp
/-- as many terms added -/
def sumN : Nat → (Nat → Int) → Int
  | 0, _ => 0
  | n + 1, f => f 0 + sumN n fun k => f (k + 1)
theorem sumN_congr : ∀ {n : Nat} {f g : Nat → Int}, (∀ k, k < n → f k = g k) → sumN n f = sumN n g
  | 0, _, _, _ => rfl
  | n + 1, f, g, h => by rw [sumN, sumN, h 0 (by omega), sumN_congr fun k hk => h (k + 1) (by omega)]
theorem sumN_add : ∀ (n : Nat) (f g : Nat → Int), sumN n (fun k => f k + g k) = sumN n f + sumN n g
  | 0, _, _ => rfl
  | n + 1, f, g => by rw [sumN, sumN, sumN, sumN_add n]; omega
theorem sumN_mul (a : Int) : ∀ (n : Nat) (f : Nat → Int), sumN n (fun k => a * f k) = a * sumN n f
  | 0, _ => by simp [sumN]
  | n + 1, f => by rw [sumN, sumN, sumN_mul a n, Int.mul_add]
theorem sumN_last : ∀ (n : Nat) (f : Nat → Int), sumN (n + 1) f = sumN n f + f n
  | 0, f => by simp [sumN]
  | n + 1, f => by
    have := sumN_last n fun k => f (k + 1)
    rw [sumN, this, sumN]; omega
theorem sumN_dvd {p : Int} : ∀ {n : Nat} {f : Nat → Int}, (∀ k, k < n → p ∣ f k) → p ∣ sumN n f
  | 0, _, _ => Int.dvd_zero p
  | n + 1, f, h => Int.dvd_add (h 0 (by omega)) (sumN_dvd fun k hk => h (k + 1) (by omega))
theorem sumN_zero : ∀ {n : Nat} {f : Nat → Int}, (∀ k, k < n → f k = 0) → sumN n f = 0
  | 0, _, _ => rfl
  | n + 1, f, h => by rw [sumN, h 0 (by omega), sumN_zero fun k hk => h (k + 1) (by omega)]; rfl
theorem sumN_swap : ∀ (n m : Nat) (f : Nat → Nat → Int), sumN n (fun i => sumN m (f i)) = sumN m fun j => sumN n fun i => f i j
  | 0, m, f => (sumN_zero fun _ _ => rfl).symm
  | n + 1, m, f => by
    rw [sumN, sumN_swap n m, ← sumN_add]
    rfl
/-- one term alone -/
theorem sumN_one : ∀ {n i : Nat} {f : Nat → Int}, i < n → (∀ k, k < n → k ≠ i → f k = 0) → sumN n f = f i
  | 0, i, _, h, _ => by omega
  | n + 1, 0, f, _, h => by rw [sumN, sumN_zero fun k hk => h (k + 1) (by omega) (by omega)]; omega
  | n + 1, i + 1, f, hi, h => by rw [sumN, h 0 (by omega) (by omega), sumN_one (i := i) (by omega) fun k hk hne => h (k + 1) (by omega) (by omega)]; omega
/-- a polynomial's worth -/
def evp (n : Nat) (c : Nat → Int) (x : Int) : Int := sumN n fun k => c k * x ^ k
theorem evp_succ (n : Nat) (c : Nat → Int) (x : Int) : evp (n + 1) c x = c 0 + x * evp n (fun k => c (k + 1)) x := by
  unfold evp
  rw [sumN, Int.pow_zero, Int.mul_one, ← sumN_mul]
  congr 1
  exact sumN_congr fun k _ => by rw [Int.pow_succ]; grind
/-- a root taken away -/
theorem root_off : ∀ (n : Nat) (c : Nat → Int) (r : Int), ∃ d : Nat → Int, (∀ x, evp (n + 1) c x - evp (n + 1) c r = (x - r) * evp n d x) ∧ (∀ k, k + 1 = n → d k = c n)
  | 0, c, r => ⟨c, fun x => by rw [evp_succ, evp_succ]; simp [evp, sumN], fun k h => by omega⟩
  | n + 1, c, r => by
    obtain ⟨d, h1, h2⟩ := root_off n (fun k => c (k + 1)) r
    refine ⟨fun k => c (k + 1) + r * (if k < n then d k else 0), fun x => ?_, fun k hk => ?_⟩
    · have e : evp (n + 1) (fun k => c (k + 1) + r * (if k < n then d k else 0)) x = evp (n + 1) (fun k => c (k + 1)) x + r * evp n d x := by
        have e2 : evp n d x = sumN (n + 1) fun k => (if k < n then d k else 0) * x ^ k := by
          rw [sumN_last, if_neg (by omega), Int.zero_mul, Int.add_zero]
          exact sumN_congr fun k hk => by rw [if_pos hk]
        rw [e2]
        unfold evp
        rw [← sumN_mul, ← sumN_add]
        exact sumN_congr fun k _ => by grind
      rw [e, evp_succ (n + 1) c x, evp_succ (n + 1) c r]
      have := h1 x
      grind
    · have : ¬ k < n := by omega
      simp only [this, if_false, Int.mul_zero, Int.add_zero]
      congr 1
section
variable {p : Int}
/-- a polynomial of 1 ahead has no more roots than its degree -/
theorem few_roots (P : PrimeP p) : ∀ (n : Nat) (c : Nat → Int) (rs : List Int), c n = 1 → rs.length = n + 1 → rs.Pairwise (fun a b => ¬ p ∣ a - b) → (∀ r ∈ rs, p ∣ evp (n + 1) c r) → False
  | 0, c, r :: rs, h1, _, _, h => by
    have := h r List.mem_cons_self
    rw [evp_succ, h1] at this
    simp only [evp, sumN, Int.mul_zero, Int.add_zero] at this
    exact P.not_one this
  | n + 1, c, r :: rs, h1, hl, hd, h => by
    obtain ⟨d, e1, e2⟩ := root_off (n + 1) c r
    have hd2 := List.pairwise_cons.mp hd
    refine few_roots P n d rs (by rw [e2 n rfl, h1]) (by simpa using hl) hd2.2 fun s hs => ?_
    have a := h s (List.mem_cons_of_mem _ hs)
    have b := h r List.mem_cons_self
    have g := e1 s
    have g2 : p ∣ (s - r) * evp (n + 1) d s := by rw [← g]; exact Int.dvd_sub a b
    refine P.right g2 fun hh => hd2.1 s hs ?_
    obtain ⟨k, hk⟩ := hh
    exact ⟨-k, by grind⟩
end
/-- the polynomial with given roots -/
def overP (x : Int) : List Int → Int
  | [] => 1
  | r :: rs => (x - r) * overP x rs
theorem locator : ∀ rs : List Int, ∃ c : Nat → Int, c rs.length = 1 ∧ ∀ x, evp (rs.length + 1) c x = overP x rs
  | [] => ⟨fun _ => 1, rfl, fun x => by rw [evp_succ]; simp [evp, sumN, overP]⟩
  | r :: rs => by
    obtain ⟨c, h1, h2⟩ := locator rs
    refine ⟨fun k => (if k = 0 then 0 else c (k - 1)) - r * (if k < rs.length + 1 then c k else 0), by simp [h1], fun x => ?_⟩
    rw [overP, ← h2]
    have e1 : evp (rs.length + 1 + 1) (fun k => if k = 0 then 0 else c (k - 1)) x = x * evp (rs.length + 1) c x := by
      rw [evp_succ, if_pos rfl, Int.zero_add]
      congr 1
    have e2 : sumN (rs.length + 1 + 1) (fun k => (if k < rs.length + 1 then c k else 0) * x ^ k) = evp (rs.length + 1) c x := by
      rw [sumN_last, if_neg (by omega), Int.zero_mul, Int.add_zero]
      exact sumN_congr fun k hk => by rw [if_pos hk]
    have e3 : evp (rs.length + 1 + 1) (fun k => (if k = 0 then 0 else c (k - 1)) - r * (if k < rs.length + 1 then c k else 0)) x =
        evp (rs.length + 1 + 1) (fun k => if k = 0 then 0 else c (k - 1)) x + (-r) * sumN (rs.length + 1 + 1) (fun k => (if k < rs.length + 1 then c k else 0) * x ^ k) := by
      unfold evp
      rw [← sumN_mul, ← sumN_add]
      exact sumN_congr fun k _ => by grind
    rw [List.length_cons, e3, e1, e2]
    grind
theorem over_root {x : Int} : ∀ {rs : List Int}, x ∈ rs → overP x rs = 0
  | r :: rs, h => by
    rcases List.mem_cons.mp h with rfl | h
    · rw [overP, Int.sub_self, Int.zero_mul]
    · rw [overP, over_root h, Int.mul_zero]
end Mp

set_option linter.all false
namespace Mp
abbrev Row := List Int
def rat (r : Row) (k : Nat) : Int := r.getD k 0
/-- what a row makes of a list -/
def dotN (m : Nat) (r : Row) (x : Nat → Int) : Int := sumN m fun k => rat r k * x k
def Sat (p : Int) (m : Nat) (x : Nat → Int) (r : Row) : Prop := p ∣ dotN m r x - rat r m
def scaleR (p i : Int) (r : Row) : Row := r.map fun a => a * i % p
def elimR (p : Int) (c : Nat) (h r : Row) : Row := r.zipWith (fun a b => (a - rat r c * b) % p) h
def invP (p a : Int) : Int := a ^ (p - 2).toNat % p
/-- the first row that has a number at a column, and the others -/
def pickR (c : Nat) : List Row → Option (Row × List Row)
  | [] => none
  | r :: rs => if rat r c ≠ 0 then some (r, rs) else (pickR c rs).map fun q => (q.1, r :: q.2)
abbrev GSt := List (Nat × Row) × List Row
def gstep (p : Int) (c : Nat) (S : GSt) : GSt :=
  match pickR c S.2 with
  | none => S
  | some (r, rest) => ((S.1.map fun q => (q.1, elimR p c (scaleR p (invP p (rat r c)) r) q.2)) ++ [(c, scaleR p (invP p (rat r c)) r)], rest.map fun s => elimR p c (scaleR p (invP p (rat r c)) r) s)
def gsteps (p : Int) (rows : List Row) (m : Nat) : Nat → GSt
  | 0 => ([], rows)
  | n + 1 => gstep p (m - 1 - n) (gsteps p rows m n)
def foundG (m : Nat) (S : GSt) : List Int := S.1.foldl (fun f q => f.set q.1 (rat q.2 m)) (List.replicate m 0)
def startR (p : Int) (rows : List Row) (nums : List Int) : List Row := rows.zipWith (fun r n => (r.map fun a => a % p) ++ [n % p]) nums
def solveL (p : Int) (rows : List Row) (nums : List Int) : Option (List Int) :=
  let m := (rows.headD []).length
  let S := gsteps p (startR p rows nums) m m
  if (S.2.filter fun r => decide (rat r m ≠ 0)) ≠ [] then none else some (foundG m S)
/-! what it keeps -/
structure RowOk (p : Int) (m : Nat) (r : Row) : Prop where
  len : r.length = m + 1
  lo : ∀ k, 0 ≤ rat r k
  hi : ∀ k, rat r k < p
theorem rat_lt {r : Row} {k : Nat} (h : k < r.length) : rat r k = r[k] := by
  unfold rat
  rw [List.getD_eq_getElem?_getD, List.getElem?_eq_getElem h]; rfl
theorem rat_ge {r : Row} {k : Nat} (h : r.length ≤ k) : rat r k = 0 := by
  unfold rat
  rw [List.getD_eq_getElem?_getD, List.getElem?_eq_none h]; rfl
theorem rat_scale {p i : Int} {r : Row} {k : Nat} : rat (scaleR p i r) k = rat r k * i % p := by
  by_cases c : k < r.length
  · rw [rat_lt (by unfold scaleR; rw [List.length_map]; exact c), rat_lt c]
    unfold scaleR
    rw [List.getElem_map]
  · rw [rat_ge (by unfold scaleR; rw [List.length_map]; omega), rat_ge (by omega)]; simp
theorem rat_elim {p : Int} {m c k : Nat} {h r : Row} (h1 : h.length = m + 1) (h2 : r.length = m + 1) : rat (elimR p c h r) k = (rat r k - rat r c * rat h k) % p := by
  have hl : (elimR p c h r).length = m + 1 := by unfold elimR; rw [List.length_zipWith]; omega
  by_cases d : k < m + 1
  · rw [rat_lt (by omega), rat_lt (r := r) (k := k) (by omega), rat_lt (r := h) (k := k) (by omega)]
    unfold elimR
    rw [List.getElem_zipWith]
  · rw [rat_ge (by omega), rat_ge (r := r) (k := k) (by omega), rat_ge (r := h) (k := k) (by omega)]; simp
section
variable {p : Int} {m : Nat}
theorem scale_ok (P : PrimeP p) {i : Int} {r : Row} (h : RowOk p m r) : RowOk p m (scaleR p i r) := by
  have := P.two
  exact ⟨by unfold scaleR; rw [List.length_map]; exact h.len, fun k => by rw [rat_scale]; exact Int.emod_nonneg _ (by omega), fun k => by rw [rat_scale]; exact Int.emod_lt_of_pos _ (by omega)⟩
theorem elim_ok (P : PrimeP p) {c : Nat} {h r : Row} (h1 : RowOk p m h) (h2 : RowOk p m r) : RowOk p m (elimR p c h r) := by
  have := P.two
  exact ⟨by unfold elimR; rw [List.length_zipWith, h1.len, h2.len]; omega, fun k => by rw [rat_elim h1.len h2.len]; exact Int.emod_nonneg _ (by omega), fun k => by rw [rat_elim h1.len h2.len]; exact Int.emod_lt_of_pos _ (by omega)⟩
/-- two that are the same by the prime -/
theorem dvd_of_emod {a b : Int} (h : a = b % p) : p ∣ a - b := by
  subst h
  have := Int.emod_add_mul_ediv b p
  exact ⟨-(b / p), by grind⟩
theorem dot_congr {r s : Row} {x : Nat → Int} {a : Int} (h : ∀ k, k < m → p ∣ rat r k - a * rat s k) : p ∣ dotN m r x - a * dotN m s x := by
  unfold dotN
  rw [← sumN_mul]
  have : sumN m (fun k => rat r k * x k) - sumN m (fun k => a * (rat s k * x k)) = sumN m fun k => (rat r k - a * rat s k) * x k := by
    have e : sumN m (fun k => rat r k * x k) = sumN m fun k => (rat r k - a * rat s k) * x k + a * (rat s k * x k) := sumN_congr fun k _ => by grind
    rw [e, sumN_add]; omega
  rw [this]
  exact sumN_dvd fun k hk => Int.dvd_trans (h k hk) (Int.dvd_mul_right _ _)
theorem sat_scale (P : PrimeP p) {i : Int} {r : Row} {x : Nat → Int} (hi : ¬ p ∣ i) : Sat p m x (scaleR p i r) ↔ Sat p m x r := by
  have h1 : p ∣ dotN m (scaleR p i r) x - i * dotN m r x := dot_congr fun k _ => by
    have := dvd_of_emod (p := p) (rat_scale (p := p) (i := i) (r := r) (k := k))
    rw [Int.mul_comm i]; exact this
  have h2 := dvd_of_emod (p := p) (rat_scale (p := p) (i := i) (r := r) (k := m))
  unfold Sat
  generalize dotN m (scaleR p i r) x = A at *
  generalize dotN m r x = B at *
  generalize rat (scaleR p i r) m = C at *
  generalize rat r m = D at *
  obtain ⟨a, ha⟩ := h1
  obtain ⟨b, hb⟩ := h2
  constructor
  · rintro ⟨c, hc⟩
    refine P.right (a := i) ⟨c - a + b, by grind⟩ hi
  · rintro ⟨c, hc⟩
    exact ⟨i * c + a - b, by grind⟩
theorem sat_elim {c : Nat} {h r : Row} {x : Nat → Int} (h1 : h.length = m + 1) (h2 : r.length = m + 1) (hs : Sat p m x h) : Sat p m x (elimR p c h r) ↔ Sat p m x r := by
  have e := fun k => dvd_of_emod (p := p) (rat_elim (p := p) (c := c) (k := k) h1 h2)
  have g1 : p ∣ dotN m (elimR p c h r) x - (dotN m r x - rat r c * dotN m h x) := by
    have : dotN m r x - rat r c * dotN m h x = sumN m fun k => (rat r k - rat r c * rat h k) * x k := by
      unfold dotN
      rw [← sumN_mul]
      have e : sumN m (fun k => rat r k * x k) = sumN m fun k => (rat r k - rat r c * rat h k) * x k + rat r c * (rat h k * x k) := sumN_congr fun k _ => by grind
      rw [e, sumN_add]; omega
    rw [this]
    unfold dotN
    have e2 : sumN m (fun k => rat (elimR p c h r) k * x k) = sumN m fun k => (rat (elimR p c h r) k - (rat r k - rat r c * rat h k)) * x k + (rat r k - rat r c * rat h k) * x k := sumN_congr fun k _ => by grind
    rw [e2, sumN_add, Int.add_sub_cancel]
    exact sumN_dvd fun k _ => Int.dvd_trans (e k) (Int.dvd_mul_right _ _)
  have g2 := e m
  unfold Sat at *
  generalize dotN m (elimR p c h r) x = A at *
  generalize dotN m r x = B at *
  generalize dotN m h x = B2 at *
  generalize rat (elimR p c h r) m = C at *
  generalize rat r m = D at *
  generalize rat h m = D2 at *
  generalize rat r c = E at *
  obtain ⟨a, ha⟩ := g1
  obtain ⟨b, hb⟩ := g2
  obtain ⟨d, hd⟩ := hs
  constructor
  · rintro ⟨c, hc⟩
    exact ⟨c - a + b + E * d, by grind⟩
  · rintro ⟨c, hc⟩
    exact ⟨c + a - b - E * d, by grind⟩
theorem pick_none {c : Nat} : ∀ {rs : List Row}, pickR c rs = none → ∀ r ∈ rs, rat r c = 0
  | [], _, r, h => by cases h
  | s :: rs, h, r, hr => by
    unfold pickR at h
    by_cases d : rat s c ≠ 0
    · rw [if_pos d] at h; cases h
    · rw [if_neg d] at h
      have h2 : pickR c rs = none := by simpa using h
      rcases List.mem_cons.mp hr with rfl | hr
      · omega
      · exact pick_none h2 r hr
theorem pick_some {c : Nat} : ∀ {rs : List Row} {r : Row} {rest : List Row}, pickR c rs = some (r, rest) → rs.Perm (r :: rest) ∧ rat r c ≠ 0
  | [], r, rest, h => by cases h
  | s :: rs, r, rest, h => by
    unfold pickR at h
    by_cases d : rat s c ≠ 0
    · rw [if_pos d] at h
      simp only [Option.some.injEq, Prod.mk.injEq] at h
      obtain ⟨rfl, rfl⟩ := h
      exact ⟨List.Perm.refl _, d⟩
    · rw [if_neg d] at h
      cases hp : pickR c rs with
      | none => rw [hp] at h; cases h
      | some q =>
        rw [hp] at h
        simp only [Option.map_some, Option.some.injEq, Prod.mk.injEq] at h
        obtain ⟨rfl, rfl⟩ := h
        have := pick_some hp
        exact ⟨((this.1).cons s).trans (List.Perm.swap _ _ _), this.2⟩
/-- what holds of the rows when the columns from one on are cleared -/
structure GOk (p : Int) (m : Nat) (rows : List Row) (col : Nat) (S : GSt) : Prop where
  top : ∀ q ∈ S.1, RowOk p m q.2
  rest : ∀ r ∈ S.2, RowOk p m r
  same : ∀ x, ((∀ q ∈ S.1, Sat p m x q.2) ∧ ∀ r ∈ S.2, Sat p m x r) ↔ ∀ r ∈ rows, Sat p m x r
  piv : ∀ q ∈ S.1, col ≤ q.1 ∧ q.1 < m ∧ rat q.2 q.1 = 1 ∧ ∀ k, q.1 < k → k < m → rat q.2 k = 0
  pair : S.1.Pairwise fun q t => t.1 < q.1 ∧ rat q.2 t.1 = 0
  zero : ∀ r ∈ S.2, ∀ k, col ≤ k → k < m → rat r k = 0
theorem gstep_ok (P : PrimeP p) {rows : List Row} {c : Nat} {S : GSt} (hc : c < m) (G : GOk p m rows (c + 1) S) : GOk p m rows c (gstep p c S) := by
  have p2 := P.two
  unfold gstep
  cases hp : pickR c S.2 with
  | none =>
    have h0 := pick_none hp
    exact ⟨G.top, G.rest, G.same, fun q hq => ⟨by have := (G.piv q hq).1; omega, (G.piv q hq).2⟩, G.pair, fun r hr k k1 k2 => by
      by_cases d : k = c
      · rw [d]; exact h0 r hr
      · exact G.zero r hr k (by omega) k2⟩
  | some q =>
    obtain ⟨r, rest⟩ := q
    obtain ⟨pm, nz⟩ := pick_some hp
    have hr : r ∈ S.2 := pm.mem_iff.mpr List.mem_cons_self
    have rOk := G.rest r hr
    have hrest : ∀ s ∈ rest, s ∈ S.2 := fun s hs => pm.mem_iff.mpr (List.mem_cons_of_mem _ hs)
    have nd : ¬ p ∣ rat r c := fun h => by
      have h1 := rOk.lo c
      have h2 := rOk.hi c
      have := Int.le_of_dvd (by omega) h
      omega
    have hinv := P.inv nd
    have ni : ¬ p ∣ invP p (rat r c) := fun h => by
      unfold invP at h
      obtain ⟨a, ha⟩ := h
      obtain ⟨b, hb⟩ := hinv
      exact P.not_one ⟨rat r c * a - b, by grind⟩
    have hOk := scale_ok P (i := invP p (rat r c)) rOk
    have h1 : rat (scaleR p (invP p (rat r c)) r) c = 1 := by
      rw [rat_scale]
      unfold invP
      have : (rat r c * (rat r c ^ (p - 2).toNat % p)) % p = 1 % p := by
        rw [Int.emod_eq_emod_iff_emod_sub_eq_zero]
        exact Int.emod_eq_zero_of_dvd hinv
      rw [this]
      exact Int.emod_eq_of_lt (by omega) (by omega)
    have hz : ∀ k, c < k → k < m → rat (scaleR p (invP p (rat r c)) r) k = 0 := fun k k1 k2 => by
      rw [rat_scale, G.zero r hr k (by omega) k2]; simp
    have hsat : ∀ x, Sat p m x (scaleR p (invP p (rat r c)) r) ↔ Sat p m x r := fun x => sat_scale P ni
    dsimp only
    generalize scaleR p (invP p (rat r c)) r = h at *
    have el : ∀ s, RowOk p m s → ∀ k, rat (elimR p c h s) k = (rat s k - rat s c * rat h k) % p := fun s hs k => rat_elim hOk.len hs.len
    have keep : ∀ s, RowOk p m s → ∀ k, c < k → k < m → rat (elimR p c h s) k = rat s k := fun s hs k k1 k2 => by
      rw [el s hs, hz k k1 k2, Int.mul_zero, Int.sub_zero]
      exact Int.emod_eq_of_lt (hs.lo k) (hs.hi k)
    have clr : ∀ s, RowOk p m s → rat (elimR p c h s) c = 0 := fun s hs => by
      rw [el s hs, h1, Int.mul_one, Int.sub_self]; simp
    refine ⟨?_, ?_, ?_, ?_, ?_, ?_⟩
    · intro q hq
      rcases List.mem_append.mp hq with hq | hq
      · obtain ⟨t, ht, rfl⟩ := List.mem_map.mp hq
        exact elim_ok P hOk (G.top t ht)
      · rw [List.mem_singleton.mp hq]; exact hOk
    · intro s hs
      obtain ⟨t, ht, rfl⟩ := List.mem_map.mp hs
      exact elim_ok P hOk (G.rest t (hrest t ht))
    · intro x
      rw [← G.same x]
      constructor
      · rintro ⟨a1, a2⟩
        have sh : Sat p m x h := a1 (c, h) (List.mem_append.mpr (.inr (List.mem_singleton.mpr rfl)))
        refine ⟨fun q hq => ?_, fun s hs => ?_⟩
        · have := a1 (q.1, elimR p c h q.2) (List.mem_append.mpr (.inl (List.mem_map.mpr ⟨q, hq, rfl⟩)))
          exact (sat_elim hOk.len (G.top q hq).len sh).mp this
        · rcases List.mem_cons.mp (pm.mem_iff.mp hs) with rfl | hs2
          · exact (hsat x).mp sh
          · have := a2 (elimR p c h s) (List.mem_map.mpr ⟨s, hs2, rfl⟩)
            exact (sat_elim hOk.len (G.rest s hs).len sh).mp this
      · rintro ⟨a1, a2⟩
        have sh : Sat p m x h := (hsat x).mpr (a2 r hr)
        refine ⟨fun q hq => ?_, fun s hs => ?_⟩
        · rcases List.mem_append.mp hq with hq | hq
          · obtain ⟨t, ht, rfl⟩ := List.mem_map.mp hq
            exact (sat_elim hOk.len (G.top t ht).len sh).mpr (a1 t ht)
          · rw [List.mem_singleton.mp hq]; exact sh
        · obtain ⟨t, ht, rfl⟩ := List.mem_map.mp hs
          exact (sat_elim hOk.len (G.rest t (hrest t ht)).len sh).mpr (a2 t (hrest t ht))
    · intro q hq
      rcases List.mem_append.mp hq with hq | hq
      · obtain ⟨t, ht, rfl⟩ := List.mem_map.mp hq
        obtain ⟨b1, b2, b3, b4⟩ := G.piv t ht
        have tk := G.top t ht
        refine ⟨by show c ≤ t.1; omega, b2, ?_, fun k k1 k2 => ?_⟩
        · show rat (elimR p c h t.2) t.1 = 1
          rw [keep t.2 tk t.1 (by omega) b2, b3]
        · show rat (elimR p c h t.2) k = 0
          have : t.1 < k := k1
          rw [keep t.2 tk k (by omega) k2, b4 k k1 k2]
      · rw [List.mem_singleton.mp hq]
        exact ⟨Nat.le_refl _, hc, h1, hz⟩
    · rw [List.pairwise_append]
      refine ⟨?_, List.pairwise_singleton _ _, ?_⟩
      · rw [List.pairwise_map]
        refine List.Pairwise.imp_of_mem ?_ G.pair
        intro q t hq ht ⟨e1, e2⟩
        have b := G.piv t ht
        refine ⟨e1, ?_⟩
        show rat (elimR p c h q.2) t.1 = 0
        rw [keep q.2 (G.top q hq) t.1 (by omega) b.2.1, e2]
      · intro q hq t ht
        rw [List.mem_singleton.mp ht]
        obtain ⟨s, hs, rfl⟩ := List.mem_map.mp hq
        have b := G.piv s hs
        exact ⟨by show c < s.1; omega, clr s.2 (G.top s hs)⟩
    · intro s hs k k1 k2
      obtain ⟨t, ht, rfl⟩ := List.mem_map.mp hs
      have tk := G.rest t (hrest t ht)
      by_cases d : k = c
      · rw [d]; exact clr t tk
      · rw [keep t tk k (by omega) k2]; exact G.zero t (hrest t ht) k (by omega) k2
theorem gsteps_ok (P : PrimeP p) {rows : List Row} (hr : ∀ r ∈ rows, RowOk p m r) : ∀ n, n ≤ m → GOk p m rows (m - n) (gsteps p rows m n)
  | 0, _ => ⟨fun q h => (by cases h), hr, fun x => ⟨fun h => h.2, fun h => ⟨fun q hq => (by cases hq), h⟩⟩, fun q h => (by cases h), List.Pairwise.nil, fun r _ k k1 k2 => by omega⟩
  | n + 1, h => by
    have ih := gsteps_ok P hr n (by omega)
    have e : m - n = (m - 1 - n) + 1 := by omega
    rw [e] at ih
    have := gstep_ok P (c := m - 1 - n) (by omega) ih
    have e2 : m - (n + 1) = m - 1 - n := by omega
    rw [e2]
    exact this
end
theorem found_len (m : Nat) : ∀ (l : List (Nat × Row)) (f : List Int), (l.foldl (fun f q => f.set q.1 (rat q.2 m)) f).length = f.length
  | [], _ => rfl
  | q :: l, f => by rw [List.foldl_cons, found_len m l, List.length_set]
theorem found_at (m : Nat) : ∀ (l : List (Nat × Row)) (f : List Int), (l.Pairwise fun q t => t.1 < q.1) → (∀ q ∈ l, q.1 < f.length) →
    (∀ q ∈ l, rat (l.foldl (fun f q => f.set q.1 (rat q.2 m)) f) q.1 = rat q.2 m) ∧ ∀ k, (∀ q ∈ l, q.1 ≠ k) → rat (l.foldl (fun f q => f.set q.1 (rat q.2 m)) f) k = rat f k
  | [], f, _, _ => ⟨fun q h => (by cases h), fun k _ => rfl⟩
  | q :: l, f, hp, hl => by
    have hp2 := List.pairwise_cons.mp hp
    have hq := hl q List.mem_cons_self
    obtain ⟨i1, i2⟩ := found_at m l (f.set q.1 (rat q.2 m)) hp2.2 (fun t ht => by rw [List.length_set]; exact hl t (List.mem_cons_of_mem _ ht))
    refine ⟨fun t ht => ?_, fun k hk => ?_⟩
    · rw [List.foldl_cons]
      rcases List.mem_cons.mp ht with rfl | ht
      · rw [i2 t.1 fun s hs => by have := hp2.1 s hs; omega, rat_lt (by rw [List.length_set]; exact hq), List.getElem_set_self]
      · exact i1 t ht
    · rw [List.foldl_cons, i2 k fun s hs => hk s (List.mem_cons_of_mem _ hs)]
      have := hk q List.mem_cons_self
      by_cases d : k < f.length
      · rw [rat_lt (by rw [List.length_set]; exact d), rat_lt d, List.getElem_set_ne this]
      · rw [rat_ge (by rw [List.length_set]; omega), rat_ge (by omega)]
/-- what solves -/
structure Solves (p : Int) (m : Nat) (rows : List Row) (f : List Int) : Prop where
  len : f.length = m
  lo : ∀ k, 0 ≤ rat f k
  hi : ∀ k, rat f k < p
  sat : ∀ r ∈ rows, Sat p m (rat f) r
  /-- compared from the left it is the first -/
  least : ∀ y : Nat → Int, (∀ k, k < m → 0 ≤ y k ∧ y k < p) → (∀ r ∈ rows, Sat p m y r) → ∀ k, k < m → (∀ j, j < k → y j = rat f j) → rat f k ≤ y k
theorem same_rest {p a b : Int} (h1 : 0 ≤ a) (h2 : a < p) (h3 : 0 ≤ b) (h4 : b < p) (h : p ∣ a - b) : a = b := by
  obtain ⟨c, hc⟩ := h
  have c1 : c < 1 := by
    by_cases d : c < 1
    · exact d
    · have : p * 1 ≤ p * c := Int.mul_le_mul_of_nonneg_left (by omega) (by omega)
      omega
  have c2 : -1 < c := by
    by_cases d : -1 < c
    · exact d
    · have : p * c ≤ p * (-1) := Int.mul_le_mul_of_nonneg_left (by omega) (by omega)
      omega
  have : c = 0 := by omega
  rw [this] at hc; omega
section
variable {p : Int} {m : Nat}
theorem solve_some (P : PrimeP p) {rows : List Row} (hr : ∀ r ∈ rows, RowOk p m r) (h : ∀ r ∈ (gsteps p rows m m).2, rat r m = 0) : Solves p m rows (foundG m (gsteps p rows m m)) := by
  have G := gsteps_ok P hr m (Nat.le_refl _)
  rw [Nat.sub_self] at G
  have p2 := P.two
  generalize gsteps p rows m m = S at *
  have hpw : S.1.Pairwise fun q t => t.1 < q.1 := G.pair.imp fun h => h.1
  obtain ⟨f1, f2⟩ := found_at m S.1 (List.replicate m 0) hpw (fun q hq => by rw [List.length_replicate]; exact (G.piv q hq).2.1)
  have hl : (foundG m S).length = m := by unfold foundG; rw [found_len, List.length_replicate]
  change ∀ q ∈ S.1, rat (foundG m S) q.1 = rat q.2 m at f1
  change ∀ k, (∀ q ∈ S.1, q.1 ≠ k) → rat (foundG m S) k = rat (List.replicate m 0) k at f2
  have rep : ∀ k, rat (List.replicate m (0 : Int)) k = 0 := fun k => by
    by_cases d : k < m
    · rw [rat_lt (by rw [List.length_replicate]; exact d), List.getElem_replicate]
    · exact rat_ge (by rw [List.length_replicate]; omega)
  generalize foundG m S = f at *
  have dec : ∀ k, (∃ q ∈ S.1, q.1 = k) ∨ ∀ q ∈ S.1, q.1 ≠ k := fun k => by
    by_cases d : ∃ q ∈ S.1, q.1 = k
    · exact .inl d
    · exact .inr fun q hq e => d ⟨q, hq, e⟩
  have rng : ∀ k, 0 ≤ rat f k ∧ rat f k < p := fun k => by
    rcases dec k with ⟨q, hq, rfl⟩ | h
    · rw [f1 q hq]; exact ⟨(G.top q hq).lo m, (G.top q hq).hi m⟩
    · rw [f2 k h, rep]; omega
  -- rows that lead have 0 at the other leading columns
  have cross : ∀ q ∈ S.1, ∀ t ∈ S.1, t.1 ≠ q.1 → rat q.2 t.1 = 0 := fun q hq t ht hne => by
    by_cases d : q.1 < t.1
    · exact (G.piv q hq).2.2.2 t.1 d (G.piv t ht).2.1
    · have go : ∀ l : List (Nat × Row), (l.Pairwise fun q t => t.1 < q.1 ∧ rat q.2 t.1 = 0) → q ∈ l → t ∈ l → rat q.2 t.1 = 0 := by
        intro l
        induction l with
        | nil => intro _ h; cases h
        | cons a l ih =>
          intro hpw hq ht
          have hpw2 := List.pairwise_cons.mp hpw
          rcases List.mem_cons.mp hq with rfl | hq2
          · rcases List.mem_cons.mp ht with rfl | ht2
            · exact absurd rfl hne
            · exact (hpw2.1 t ht2).2
          · rcases List.mem_cons.mp ht with rfl | ht2
            · have := (hpw2.1 q hq2).1; omega
            · exact ih hpw2.2 hq2 ht2
      exact go S.1 G.pair hq ht
  refine ⟨hl, fun k => (rng k).1, fun k => (rng k).2, ?_, ?_⟩
  · rw [← G.same]
    refine ⟨fun q hq => ?_, fun r hr2 => ?_⟩
    · unfold Sat dotN
      rw [sumN_one (i := q.1) (G.piv q hq).2.1 fun k hk hne => by
        rcases dec k with ⟨t, ht, rfl⟩ | h
        · rw [cross q hq t ht hne, Int.zero_mul]
        · rw [f2 k h, rep, Int.mul_zero]]
      rw [(G.piv q hq).2.2.1, f1 q hq, Int.one_mul, Int.sub_self]
      exact Int.dvd_zero p
    · unfold Sat dotN
      rw [sumN_zero fun k hk => by rw [G.zero r hr2 k (Nat.zero_le _) hk, Int.zero_mul], h r hr2]
      exact Int.dvd_zero p
  · intro y hy hs k hk hj
    rcases dec k with ⟨q, hq, rfl⟩ | h
    · have hs2 := (G.same y).mpr hs
      have sq := hs2.1 q hq
      have sf : Sat p m (rat f) q.2 := by
        unfold Sat dotN
        rw [sumN_one (i := q.1) (G.piv q hq).2.1 fun k hk hne => by
          rcases dec k with ⟨t, ht, rfl⟩ | h
          · rw [cross q hq t ht hne, Int.zero_mul]
          · rw [f2 k h, rep, Int.mul_zero]]
        rw [(G.piv q hq).2.2.1, f1 q hq, Int.one_mul, Int.sub_self]
        exact Int.dvd_zero p
      have e : dotN m q.2 y - dotN m q.2 (rat f) = y q.1 - rat f q.1 := by
        unfold dotN
        have e1 : sumN m (fun k => rat q.2 k * y k) = sumN m fun k => rat q.2 k * (y k - rat f k) + rat q.2 k * rat f k := sumN_congr fun k _ => by grind
        rw [e1, sumN_add, Int.add_sub_cancel, sumN_one (i := q.1) (G.piv q hq).2.1 fun k hk2 hne => by
          by_cases d : k < q.1
          · rw [hj k d, Int.sub_self, Int.mul_zero]
          · rw [(G.piv q hq).2.2.2 k (by omega) hk2, Int.zero_mul]]
        rw [(G.piv q hq).2.2.1, Int.one_mul]
      have d : p ∣ y q.1 - rat f q.1 := by
        rw [← e]
        have := Int.dvd_sub sq sf
        have e3 : dotN m q.2 y - rat q.2 m - (dotN m q.2 (rat f) - rat q.2 m) = dotN m q.2 y - dotN m q.2 (rat f) := by omega
        rw [e3] at this
        exact this
      have := same_rest (hy q.1 hk).1 (hy q.1 hk).2 (rng q.1).1 (rng q.1).2 d
      omega
    · rw [f2 k h, rep]; exact (hy k hk).1
theorem solve_none (P : PrimeP p) {rows : List Row} (hr : ∀ r ∈ rows, RowOk p m r) (h : ∃ r ∈ (gsteps p rows m m).2, rat r m ≠ 0) : ∀ y : Nat → Int, ¬ ∀ r ∈ rows, Sat p m y r := by
  intro y hs
  have G := gsteps_ok P hr m (Nat.le_refl _)
  rw [Nat.sub_self] at G
  obtain ⟨r, h1, h2⟩ := h
  have := ((G.same y).mpr hs).2 r h1
  unfold Sat dotN at this
  rw [sumN_zero fun k hk => by rw [G.zero r h1 k (Nat.zero_le _) hk, Int.zero_mul]] at this
  have rk := G.rest r h1
  have h3 := rk.lo m
  have h4 := rk.hi m
  obtain ⟨c, hc⟩ := this
  have hd : p ∣ rat r m := ⟨-c, by rw [Int.mul_neg]; omega⟩
  have := Int.le_of_dvd (by omega) hd
  omega
end
end Mp

set_option linter.all false
namespace Mp
/-- the rows as they stand: what solves them -/
def SatP (p : Int) (m : Nat) (x : Nat → Int) (q : Row × Int) : Prop := p ∣ dotN m q.1 x - q.2
theorem rat_app {a : Row} {b : Int} {k : Nat} (h : k < a.length) : rat (a ++ [b]) k = rat a k := by
  rw [rat_lt (by simp; omega), rat_lt h, List.getElem_append_left h]
theorem rat_app_last {a : Row} {b : Int} : rat (a ++ [b]) a.length = b := by
  rw [rat_lt (by simp), List.getElem_append_right (Nat.le_refl _)]; simp
theorem rat_map {f : Int → Int} {a : Row} {k : Nat} (h : k < a.length) : rat (a.map f) k = f (rat a k) := by
  rw [rat_lt (by rw [List.length_map]; exact h), rat_lt h, List.getElem_map]
def oneR (p : Int) (q : Row × Int) : Row := (q.1.map fun a => a % p) ++ [q.2 % p]
theorem startR_map (p : Int) : ∀ (rows : List Row) (nums : List Int), startR p rows nums = (rows.zip nums).map (oneR p)
  | [], _ => by simp [startR]
  | r :: rs, [] => by simp [startR]
  | r :: rs, n :: ns => by
    have := startR_map p rs ns
    unfold startR at *
    rw [List.zipWith_cons_cons, this]
    rfl
section
variable {p : Int} {m : Nat}
theorem one_ok (P : PrimeP p) {q : Row × Int} (h : q.1.length = m) : RowOk p m (oneR p q) := by
  have p2 := P.two
  have hl : (oneR p q).length = m + 1 := by unfold oneR; simp [h]
  have key : ∀ k, 0 ≤ rat (oneR p q) k ∧ rat (oneR p q) k < p := fun k => by
    by_cases d : k < m + 1
    · rw [rat_lt (by omega)]
      have hm := List.getElem_mem (l := oneR p q) (n := k) (by omega)
      generalize (oneR p q)[k] = z at *
      unfold oneR at hm
      rcases List.mem_append.mp hm with hm | hm
      · obtain ⟨a, _, rfl⟩ := List.mem_map.mp hm
        exact ⟨Int.emod_nonneg _ (by omega), Int.emod_lt_of_pos _ (by omega)⟩
      · rw [List.mem_singleton.mp hm]
        exact ⟨Int.emod_nonneg _ (by omega), Int.emod_lt_of_pos _ (by omega)⟩
    · rw [rat_ge (by omega)]; omega
  exact ⟨hl, fun k => (key k).1, fun k => (key k).2⟩
theorem one_sat {q : Row × Int} {x : Nat → Int} (h : q.1.length = m) : Sat p m x (oneR p q) ↔ SatP p m x q := by
  have h1 : p ∣ dotN m (oneR p q) x - 1 * dotN m q.1 x := dot_congr fun k hk => by
    rw [Int.one_mul]
    refine dvd_of_emod ?_
    unfold oneR
    rw [rat_app (by rw [List.length_map]; omega), rat_map (by omega)]
  have h2 : p ∣ rat (oneR p q) m - q.2 := by
    refine dvd_of_emod ?_
    unfold oneR
    have : m = (q.1.map fun a => a % p).length := by rw [List.length_map, h]
    rw [this, rat_app_last]
  unfold Sat SatP
  rw [Int.one_mul] at h1
  generalize dotN m (oneR p q) x = A at *
  generalize dotN m q.1 x = B at *
  generalize rat (oneR p q) m = C at *
  obtain ⟨a, ha⟩ := h1
  obtain ⟨b, hb⟩ := h2
  constructor
  · rintro ⟨c, hc⟩; exact ⟨c - a + b, by grind⟩
  · rintro ⟨c, hc⟩; exact ⟨c + a - b, by grind⟩
/-- what solves rows as they stand -/
structure SolvesP (p : Int) (m : Nat) (qs : List (Row × Int)) (f : List Int) : Prop where
  len : f.length = m
  lo : ∀ k, 0 ≤ rat f k
  hi : ∀ k, rat f k < p
  sat : ∀ q ∈ qs, SatP p m (rat f) q
  least : ∀ y : Nat → Int, (∀ k, k < m → 0 ≤ y k ∧ y k < p) → (∀ q ∈ qs, SatP p m y q) → ∀ k, k < m → (∀ j, j < k → y j = rat f j) → rat f k ≤ y k
theorem solve_spec (P : PrimeP p) {rows : List Row} {nums : List Int} (h0 : rows ≠ []) (hm : ∀ r ∈ rows, r.length = m) :
    (∀ f, solveL p rows nums = some f → SolvesP p m (rows.zip nums) f) ∧ (solveL p rows nums = none → ∀ y : Nat → Int, ¬ ∀ q ∈ rows.zip nums, SatP p m y q) := by
  have he : (rows.headD []).length = m := by
    cases rows with
    | nil => exact absurd rfl h0
    | cons r rs => exact hm r List.mem_cons_self
  have hz : ∀ q ∈ rows.zip nums, q.1.length = m := fun q hq => hm q.1 (List.of_mem_zip hq).1
  have hr : ∀ r ∈ startR p rows nums, RowOk p m r := fun r hr => by
    rw [startR_map] at hr
    obtain ⟨q, hq, rfl⟩ := List.mem_map.mp hr
    exact one_ok P (hz q hq)
  have hs : ∀ y : Nat → Int, (∀ r ∈ startR p rows nums, Sat p m y r) ↔ ∀ q ∈ rows.zip nums, SatP p m y q := fun y => by
    rw [startR_map]
    constructor
    · intro h q hq
      exact (one_sat (hz q hq)).mp (h _ (List.mem_map.mpr ⟨q, hq, rfl⟩))
    · intro h r hr
      obtain ⟨q, hq, rfl⟩ := List.mem_map.mp hr
      exact (one_sat (hz q hq)).mpr (h q hq)
  unfold solveL
  simp only [he]
  by_cases c : (gsteps p (startR p rows nums) m m).2.filter (fun r => decide (rat r m ≠ 0)) ≠ []
  · rw [if_pos c]
    refine ⟨fun f h => (by cases h), fun _ y hy => ?_⟩
    obtain ⟨r, hr2⟩ := List.exists_mem_of_ne_nil _ c
    have h3 := List.mem_filter.mp hr2
    exact solve_none P hr ⟨r, h3.1, of_decide_eq_true h3.2⟩ y ((hs y).mpr hy)
  · rw [if_neg c]
    refine ⟨fun f h => ?_, fun h => (by cases h)⟩
    simp only [Option.some.injEq] at h
    subst h
    have hz0 : ∀ r ∈ (gsteps p (startR p rows nums) m m).2, rat r m = 0 := fun r hr2 => by
      have c2 : (gsteps p (startR p rows nums) m m).2.filter (fun r => decide (rat r m ≠ 0)) = [] := Decidable.byContradiction c
      by_cases d : rat r m = 0
      · exact d
      · have : r ∈ (gsteps p (startR p rows nums) m m).2.filter (fun r => decide (rat r m ≠ 0)) := List.mem_filter.mpr ⟨hr2, decide_eq_true d⟩
        rw [c2] at this; cases this
    have S := solve_some P hr hz0
    exact ⟨S.len, S.lo, S.hi, (hs _).mp S.sat, fun y h1 h2 => S.least y h1 ((hs y).mpr h2)⟩
end
end Mp

set_option linter.all false
namespace Mp
/-- added over some places -/
def lsum : List Nat → (Nat → Int) → Int
  | [], _ => 0
  | i :: l, f => f i + lsum l f
theorem lsum_congr : ∀ {l : List Nat} {f g : Nat → Int}, (∀ i ∈ l, f i = g i) → lsum l f = lsum l g
  | [], _, _, _ => rfl
  | i :: l, f, g, h => by rw [lsum, lsum, h i List.mem_cons_self, lsum_congr fun k hk => h k (List.mem_cons_of_mem _ hk)]
theorem lsum_add : ∀ (l : List Nat) (f g : Nat → Int), lsum l (fun i => f i + g i) = lsum l f + lsum l g
  | [], _, _ => rfl
  | i :: l, f, g => by rw [lsum, lsum, lsum, lsum_add l]; omega
theorem lsum_mul (a : Int) : ∀ (l : List Nat) (f : Nat → Int), lsum l (fun i => a * f i) = a * lsum l f
  | [], _ => by simp [lsum]
  | i :: l, f => by rw [lsum, lsum, lsum_mul a l, Int.mul_add]
theorem lsum_dvd {p : Int} : ∀ {l : List Nat} {f : Nat → Int}, (∀ i ∈ l, p ∣ f i) → p ∣ lsum l f
  | [], _, _ => Int.dvd_zero p
  | i :: l, f, h => Int.dvd_add (h i List.mem_cons_self) (lsum_dvd fun k hk => h k (List.mem_cons_of_mem _ hk))
theorem lsum_zero : ∀ {l : List Nat} {f : Nat → Int}, (∀ i ∈ l, f i = 0) → lsum l f = 0
  | [], _, _ => rfl
  | i :: l, f, h => by rw [lsum, h i List.mem_cons_self, lsum_zero fun k hk => h k (List.mem_cons_of_mem _ hk)]; rfl
theorem lsum_sumN : ∀ (n : Nat) (l : List Nat) (f : Nat → Nat → Int), sumN n (fun k => lsum l (f k)) = lsum l fun i => sumN n fun k => f k i
  | 0, l, f => (lsum_zero fun _ _ => rfl).symm
  | n + 1, l, f => by
    rw [sumN, lsum_sumN n l, ← lsum_add]
    rfl
theorem lsum_filter {q : Nat → Bool} {f : Nat → Int} : ∀ {l : List Nat}, (∀ i ∈ l, q i = false → f i = 0) → lsum (l.filter q) f = lsum l f
  | [], _ => rfl
  | i :: l, h => by
    have ih := lsum_filter (l := l) fun k hk => h k (List.mem_cons_of_mem _ hk)
    by_cases c : q i = true
    · rw [List.filter_cons_of_pos c, lsum, lsum, ih]
    · rw [List.filter_cons_of_neg c, lsum, ih, h i List.mem_cons_self (by simpa using c)]; omega
theorem lsum_pw (w : Nat → Int) (j : Nat) : ∀ l : List Nat, pw (l.map fun (i : Nat) => ((i : Int) + 1, w i)) j = lsum l fun i => w i * ((i : Int) + 1) ^ j
  | [] => rfl
  | i :: l => by rw [List.map_cons, pw, lsum, lsum_pw w j l]
theorem lsum_at (h : Nat → Int) : ∀ l : List Nat, sumN l.length (fun k => h (l.getD k 0)) = lsum l h
  | [] => rfl
  | i :: l => by
    rw [List.length_cons, sumN, lsum, ← lsum_at h l]
    rfl
def ptL (l : List Nat) (w : Nat → Int) (j : Nat) : Int := lsum l fun i => w i * ((i : Int) + 1) ^ j
/-- a table's sum as a whole number -/
def totS (tb : List Int) (j : Nat) : Int := ptL (List.range tb.length) (rat tb) j
section
variable {p : Int}
theorem pts_unlike {l : List Nat} {L : Nat} (w : Nat → Int) (hn : l.Nodup) (hl : ∀ i ∈ l, i < L) (hL : (L : Int) < p) : Unlike p (l.map fun (i : Nat) => ((i : Int) + 1, w i)) := by
  unfold Unlike
  rw [List.pairwise_map]
  refine List.Pairwise.imp_of_mem ?_ hn
  intro a b ha hb hne hd
  have h1 := hl a ha
  have h2 := hl b hb
  have := same_rest (p := p) (a := (a : Int)) (b := b) (by omega) (by omega) (by omega) (by omega) (by
    obtain ⟨c, hc⟩ := hd
    exact ⟨c, by rw [← hc]; dsimp only; omega⟩)
  exact hne (by omega)
theorem vandS (P : PrimeP p) {l : List Nat} {L : Nat} {w : Nat → Int} (hn : l.Nodup) (hl : ∀ i ∈ l, i < L) (hL : (L : Int) < p) (h : ∀ j, j < l.length → p ∣ ptL l w j) : ∀ i ∈ l, p ∣ w i := fun i hi =>
  vand P l.length (l := l.map fun (i : Nat) => ((i : Int) + 1, w i)) (List.length_map ..) (pts_unlike w hn hl hL) (fun j hj => by rw [lsum_pw]; exact h j hj) ((i : Int) + 1, w i) (List.mem_map.mpr ⟨i, hi, rfl⟩)
/-- where two tables are unlike -/
def offN (a b : List Int) : List Nat := (List.range a.length).filter fun i => decide (rat a i ≠ rat b i)
theorem off_mem {a b : List Int} {i : Nat} : i ∈ offN a b ↔ i < a.length ∧ rat a i ≠ rat b i := by
  unfold offN
  rw [List.mem_filter, List.mem_range]
  simp
theorem off_nodup {a b : List Int} : (offN a b).Nodup := List.Pairwise.filter _ List.nodup_range
theorem off_tot {a b : List Int} (h : a.length = b.length) (j : Nat) : ptL (offN a b) (fun i => rat b i - rat a i) j = totS b j - totS a j := by
  unfold ptL offN
  rw [lsum_filter (fun i _ hq => by
    have : rat a i = rat b i := by simpa using hq
    show (rat b i - rat a i) * _ = 0
    rw [this, Int.sub_self, Int.zero_mul])]
  unfold totS ptL
  rw [← h]
  have : lsum (List.range a.length) (fun i => rat b i * ((i : Int) + 1) ^ j) = lsum (List.range a.length) (fun i => (rat b i - rat a i) * ((i : Int) + 1) ^ j + rat a i * ((i : Int) + 1) ^ j) := lsum_congr fun i _ => by grind
  rw [this, lsum_add, Int.add_sub_cancel]
theorem eq_of_rat {a b : List Int} (h : a.length = b.length) (h2 : ∀ i, i < a.length → rat a i = rat b i) : a = b := by
  apply List.ext_getElem h
  intro i h1 h3
  have := h2 i h1
  rw [rat_lt h1, rat_lt h3] at this
  exact this
structure TabP (p : Int) (L : Nat) (tb : List Int) : Prop where
  len : tb.length = L
  lo : ∀ k, 0 ≤ rat tb k
  hi : ∀ k, rat tb k < p
/-- tables that are told apart by none of so many sums are alike -/
theorem alike_of_sums (P : PrimeP p) {L : Nat} {a b : List Int} (hL : (L : Int) < p) (A : TabP p L a) (B : TabP p L b) {n : Nat} (hn : (offN a b).length ≤ n) (h : ∀ j, j < n → p ∣ totS b j - totS a j) : a = b := by
  have hl : a.length = b.length := by rw [A.len, B.len]
  have hv := vandS P (l := offN a b) (L := L) (w := fun i => rat b i - rat a i) off_nodup (fun i hi => by rw [← A.len]; exact (off_mem.mp hi).1) hL (fun j hj => by rw [off_tot hl]; exact h j (by omega))
  apply eq_of_rat hl
  intro i hi
  by_cases c : rat a i = rat b i
  · exact c
  · have := hv i (off_mem.mpr ⟨hi, c⟩)
    exact (same_rest (B.lo i) (B.hi i) (A.lo i) (A.hi i) this).symm
theorem off_triangle {a b c : List Int} (h : a.length = b.length) (h2 : a.length = c.length) : (offN b c).length ≤ (offN a b).length + (offN a c).length := by
  have hs : ∀ i ∈ offN b c, i ∈ offN a b ++ offN a c := fun i hi => by
    obtain ⟨h3, h4⟩ := off_mem.mp hi
    rw [List.mem_append, off_mem, off_mem]
    by_cases d : rat a i = rat b i
    · exact .inr ⟨by omega, fun e => h4 (by rw [← d, e])⟩
    · exact .inl ⟨by omega, d⟩
  have go : ∀ (l m : List Nat), l.Nodup → (∀ i ∈ l, i ∈ m) → l.length ≤ m.length := by
    intro l
    induction l with
    | nil => intro m _ _; exact Nat.zero_le _
    | cons i l ih =>
      intro m hn hs
      have hn2 := List.nodup_cons.mp hn
      have hp := List.perm_cons_erase (hs i List.mem_cons_self)
      have := ih (m.erase i) hn2.2 fun k hk => (List.mem_erase_of_ne fun e : k = i => hn2.1 (e ▸ hk)).mpr (hs k (List.mem_cons_of_mem _ hk))
      have hl := hp.length_eq
      simp only [List.length_cons] at *
      omega
  have := go _ _ off_nodup hs
  rw [List.length_append] at this
  exact this
theorem len_le_of_sub {l m : List Nat} (hn : l.Nodup) (hs : ∀ i ∈ l, i ∈ m) : l.length ≤ m.length := by
  induction l generalizing m with
  | nil => exact Nat.zero_le _
  | cons i l ih =>
    have hn2 := List.nodup_cons.mp hn
    have hp := List.perm_cons_erase (hs i List.mem_cons_self)
    have := ih (m := m.erase i) hn2.2 fun k hk => (List.mem_erase_of_ne fun e : k = i => hn2.1 (e ▸ hk)).mpr (hs k (List.mem_cons_of_mem _ hk))
    have hl := hp.length_eq
    simp only [List.length_cons] at *
    omega
/-! what the program does -/
/-- a polynomial's worth at a place, as the program reckons it -/
def wholeP (p : Int) (x : Int) : Nat → List Int → Int → Int
  | _, [], w => w
  | k, c :: cs, w => wholeP p x (k + 1) cs ((w + c * (x ^ k % p)) % p)
def marksL (p : Int) (lacks : List Int) (width places : Nat) : Option (List Nat) :=
  if width = 0 then some [] else
    match solveL p ((List.range (lacks.length - width)).map fun j => (lacks.drop j).take width) ((lacks.drop width).map fun a => 0 - a) with
    | none => none
    | some f => some ((List.range places).filter fun i => decide (wholeP p ((i : Int) + 1) 0 f (((i : Int) + 1) ^ width % p) = 0))
def worthsL (p : Int) (marks : List Nat) (lacks : List Int) : Option (List Int) :=
  if marks = [] then (if (lacks.filter fun a => decide (a ≠ 0)) = [] then some [] else none)
  else solveL p ((List.range lacks.length).map fun j => marks.map fun (i : Nat) => ((i : Int) + 1) ^ j % p) lacks
def putAll (p : Int) (tb : List Int) (q : List (Nat × Int)) : List Int := q.foldl (fun f q => f.set q.1 ((rat f q.1 + q.2) % p)) tb
def widthL (p : Int) (tb lacks : List Int) (t width : Nat) : Option (List Int) :=
  match marksL p (lacks.take (2 * t)) width tb.length with
  | none => none
  | some marks => if marks.length ≠ width then none else
    match worthsL p marks lacks with
    | none => none
    | some ws => some (putAll p tb (marks.zip ws))
def firstL {A : Type} (F : Nat → Option A) : Nat → Nat → Option A
  | _, 0 => none
  | s, n + 1 => match F s with
    | some a => some a
    | none => firstL F (s + 1) n
def lacksL (p : Int) (tb sums : List Int) : List Int := sums.zipWith (fun a b => (a - b) % p) ((List.range sums.length).map fun j => totS tb j % p)
def nearL (p : Int) (tb sums : List Int) (t : Nat) : Option (List Int) := firstL (widthL p tb (lacksL p tb sums) t) 0 (min t tb.length + 1)
theorem first_some {A : Type} {F : Nat → Option A} {a : A} : ∀ {n s : Nat}, firstL F s n = some a → ∃ i, s ≤ i ∧ i < s + n ∧ F i = some a ∧ ∀ k, s ≤ k → k < i → F k = none
  | 0, s, h => by cases h
  | n + 1, s, h => by
    unfold firstL at h
    cases e : F s with
    | some b => rw [e] at h; simp only [Option.some.injEq] at h; exact ⟨s, Nat.le_refl _, by omega, by rw [e, h], fun k h1 h2 => by omega⟩
    | none =>
      rw [e] at h
      obtain ⟨i, h1, h2, h3, h4⟩ := first_some h
      exact ⟨i, by omega, by omega, h3, fun k k1 k2 => by
        by_cases d : k = s
        · rw [d]; exact e
        · exact h4 k (by omega) k2⟩
theorem first_none {A : Type} {F : Nat → Option A} : ∀ {n s : Nat}, firstL F s n = none → ∀ i, s ≤ i → i < s + n → F i = none
  | 0, s, h, i, h1, h2 => by omega
  | n + 1, s, h, i, h1, h2 => by
    unfold firstL at h
    cases e : F s with
    | some b => rw [e] at h; cases h
    | none =>
      rw [e] at h
      by_cases d : i = s
      · rw [d]; exact e
      · exact first_none h i (by omega) (by omega)
theorem whole_mod (P : PrimeP p) {x : Int} : ∀ (cs : List Int) (k : Nat) (w : Int), p ∣ wholeP p x k cs w - (w + sumN cs.length fun i => rat cs i * x ^ (k + i))
  | [], k, w => by simp [wholeP, sumN]
  | c :: cs, k, w => by
    have ih := whole_mod P (x := x) cs (k + 1) ((w + c * (x ^ k % p)) % p)
    rw [wholeP, List.length_cons, sumN]
    have e : sumN cs.length (fun i => rat (c :: cs) (i + 1) * x ^ (k + (i + 1))) = sumN cs.length fun i => rat cs i * x ^ (k + 1 + i) := sumN_congr fun i _ => by
      have : k + (i + 1) = k + 1 + i := by omega
      rw [this]; rfl
    have e0 : rat (c :: cs) 0 = c := rfl
    rw [e, e0]
    have d1 := dvd_of_emod (p := p) (a := (w + c * (x ^ k % p)) % p) (b := w + c * (x ^ k % p)) rfl
    have d2 := dvd_of_emod (p := p) (a := x ^ k % p) (b := x ^ k) rfl
    rw [Nat.add_zero]
    generalize wholeP p x (k + 1) cs ((w + c * (x ^ k % p)) % p) = A at *
    generalize (w + c * (x ^ k % p)) % p = B at *
    generalize x ^ k % p = D at *
    generalize x ^ k = E at *
    generalize sumN cs.length (fun i => rat cs i * x ^ (k + 1 + i)) = H at *
    obtain ⟨a, ha⟩ := ih
    obtain ⟨b, hb⟩ := d1
    obtain ⟨d, hd⟩ := d2
    exact ⟨a + b + c * d, by grind⟩
theorem whole_rng (P : PrimeP p) {x : Int} : ∀ (cs : List Int) (k : Nat) (w : Int), 0 ≤ w → w < p → 0 ≤ wholeP p x k cs w ∧ wholeP p x k cs w < p
  | [], k, w, h1, h2 => ⟨h1, h2⟩
  | c :: cs, k, w, h1, h2 => by
    have := P.two
    rw [wholeP]
    exact whole_rng P cs (k + 1) _ (Int.emod_nonneg _ (by omega)) (Int.emod_lt_of_pos _ (by omega))
end
end Mp

set_option linter.all false
namespace Mp
def prodM (p x : Int) : List Int → Int → Int
  | [], a => a
  | y :: ys, a => prodM p x ys (if y = x then a else a * (x - y) % p)
def restP (x : Int) : List Int → Int
  | [] => 1
  | y :: ys => (if y = x then 1 else x - y) * restP x ys
/-- the worths to which all sums but one fewer than places are blind -/
def blindL (p : Int) (places : List Int) : List Int := places.map fun x => prodM p x places 1 ^ (p - 2).toNat % p
theorem rest_perm {x : Int} {a b : List Int} (h : a.Perm b) : restP x a = restP x b := by
  induction h with
  | nil => rfl
  | cons y _ ih => rw [restP, restP, ih]
  | swap y z l => simp only [restP]; grind
  | trans _ _ i1 i2 => rw [i1, i2]
section
variable {p : Int}
theorem prodM_mod (P : PrimeP p) {x : Int} : ∀ (ys : List Int) (a : Int), p ∣ prodM p x ys a - a * restP x ys
  | [], a => by simp [prodM, restP]
  | y :: ys, a => by
    have ih := prodM_mod P (x := x) ys (if y = x then a else a * (x - y) % p)
    rw [prodM, restP]
    by_cases c : y = x
    · rw [if_pos c] at *; rw [if_pos c]; rw [Int.one_mul]; exact ih
    · rw [if_neg c] at *; rw [if_neg c]
      have d := dvd_of_emod (p := p) (a := a * (x - y) % p) (b := a * (x - y)) rfl
      generalize prodM p x ys (a * (x - y) % p) = A at *
      generalize a * (x - y) % p = B at *
      generalize restP x ys = C at *
      obtain ⟨u, hu⟩ := ih
      obtain ⟨v, hv⟩ := d
      exact ⟨u + v * C, by grind⟩
theorem prodM_rng (P : PrimeP p) {x : Int} : ∀ (ys : List Int) (a : Int), 0 ≤ a → a < p → 0 ≤ prodM p x ys a ∧ prodM p x ys a < p
  | [], a, h1, h2 => ⟨h1, h2⟩
  | y :: ys, a, h1, h2 => by
    have := P.two
    rw [prodM]
    by_cases c : y = x
    · rw [if_pos c]; exact prodM_rng P ys a h1 h2
    · rw [if_neg c]; exact prodM_rng P ys _ (Int.emod_nonneg _ (by omega)) (Int.emod_lt_of_pos _ (by omega))
/-- unlike numbers from 0 on below the prime -/
structure Pts (p : Int) (l : List Int) : Prop where
  nd : l.Nodup
  lo : ∀ x ∈ l, 0 ≤ x
  hi : ∀ x ∈ l, x < p
theorem rest_not (P : PrimeP p) {x : Int} (hx : 0 ≤ x) (hx2 : x < p) : ∀ ys : List Int, (∀ y ∈ ys, 0 ≤ y ∧ y < p) → ¬ p ∣ restP x ys
  | [], _, h => P.not_one h
  | y :: ys, hy, h => by
    rw [restP] at h
    have h1 := hy y List.mem_cons_self
    rcases P.mul _ _ h with c | c
    · by_cases d : y = x
      · rw [if_pos d] at c; exact P.not_one c
      · rw [if_neg d] at c
        exact d (same_rest hx hx2 h1.1 h1.2 c).symm
    · exact rest_not P hx hx2 ys (fun z hz => hy z (List.mem_cons_of_mem _ hz)) c
def blindP (p : Int) (places ys : List Int) : List (Int × Int) := ys.map fun x => (x + 1, prodM p x places 1 ^ (p - 2).toNat % p)
theorem apart_rest {x : Int} {places : List Int} : ∀ ys : List Int, (∀ y ∈ ys, y ≠ x) → apartP (x + 1) (blindP p places ys) = restP x ys
  | [], _ => rfl
  | y :: ys, h => by
    have ih := apart_rest (x := x) (places := places) ys fun z hz => h z (List.mem_cons_of_mem _ hz)
    unfold blindP at *
    rw [List.map_cons, apartP, restP, ih, if_neg (h y List.mem_cons_self)]
    congr 1
    dsimp only
    omega
theorem blind_weights (P : PrimeP p) {places : List Int} (H : Pts p places) : Weights p (blindP p places places) := fun q r e => by
  have hq : q ∈ blindP p places places := e.mem_iff.mpr List.mem_cons_self
  obtain ⟨x, hx, rfl⟩ := List.mem_map.mp hq
  have hp := List.perm_cons_erase hx
  have e1 : (blindP p places places).Perm ((x + 1, prodM p x places 1 ^ (p - 2).toNat % p) :: blindP p places (places.erase x)) := hp.map fun x => (x + 1, prodM p x places 1 ^ (p - 2).toNat % p)
  have e2 : r.Perm (blindP p places (places.erase x)) := (e.symm.trans e1).cons_inv
  have hn : (x :: places.erase x).Nodup := hp.nodup_iff.mp H.nd
  have hne : ∀ y ∈ places.erase x, y ≠ x := fun y hy c => (List.nodup_cons.mp hn).1 (c ▸ hy)
  rw [apart_perm e2, apart_rest _ hne]
  have e3 : restP x (places.erase x) = restP x places := by rw [rest_perm hp, restP, if_pos rfl, Int.one_mul]
  rw [e3]
  have d1 := prodM_mod P (x := x) places 1
  have nr := rest_not P (H.lo x hx) (H.hi x hx) places fun y hy => ⟨H.lo y hy, H.hi y hy⟩
  have np : ¬ p ∣ prodM p x places 1 := fun h => nr (by
    obtain ⟨u, hu⟩ := d1
    obtain ⟨v, hv⟩ := h
    exact ⟨v - u, by grind⟩)
  have hi := P.inv np
  generalize prodM p x places 1 ^ (p - 2).toNat % p = I at *
  generalize prodM p x places 1 = A at *
  generalize restP x places = R at *
  obtain ⟨u, hu⟩ := d1
  obtain ⟨v, hv⟩ := hi
  exact ⟨v - I * u, by grind⟩
theorem blind_unlike {places : List Int} (H : Pts p places) : Unlike p (blindP p places places) := by
  have go : ∀ ys : List Int, ys.Nodup → (∀ y ∈ ys, y ∈ places) → Unlike p (blindP p places ys) := fun ys hn hs => by
    unfold Unlike blindP
    rw [List.pairwise_map]
    refine List.Pairwise.imp_of_mem ?_ hn
    intro a b ha hb hne hd
    have : p ∣ a - b := by
      obtain ⟨c, hc⟩ := hd
      exact ⟨c, by rw [← hc]; dsimp only; omega⟩
    exact hne (same_rest (H.lo a (hs a ha)) (H.hi a (hs a ha)) (H.lo b (hs b hb)) (H.hi b (hs b hb)) this)
  exact go places H.nd fun y h => h
theorem blind_sums (P : PrimeP p) {places : List Int} (H : Pts p places) {n : Nat} (hn : places.length = n + 1) : (∀ j, j < n → p ∣ pw (blindP p places places) j) ∧ p ∣ pw (blindP p places places) n - 1 :=
  lag P n (by unfold blindP; rw [List.length_map]; exact hn) (blind_unlike H) (blind_weights P H)
/-- worths added at places: what it does to the sums -/
theorem set_tot {tb : List Int} {i : Nat} {v : Int} (hi : i < tb.length) (j : Nat) : totS (tb.set i v) j = totS tb j + (v - rat tb i) * ((i : Int) + 1) ^ j := by
  unfold totS ptL
  rw [List.length_set]
  have e : lsum (List.range tb.length) (fun k => rat (tb.set i v) k * ((k : Int) + 1) ^ j) = lsum (List.range tb.length) (fun k => rat tb k * ((k : Int) + 1) ^ j + (if k = i then (v - rat tb i) * ((i : Int) + 1) ^ j else 0)) := lsum_congr fun k hk => by
    have hk := List.mem_range.mp hk
    rw [rat_lt (by rw [List.length_set]; exact hk), List.getElem_set]
    by_cases c : i = k
    · subst c; rw [if_pos rfl, if_pos rfl]; rw [rat_lt hi]; grind
    · rw [if_neg c, if_neg (Ne.symm c), rat_lt hk]; omega
  rw [e, lsum_add]
  congr 1
  have : ∀ n, i < n → lsum (List.range n) (fun k => if k = i then (v - rat tb i) * ((i : Int) + 1) ^ j else 0) = (v - rat tb i) * ((i : Int) + 1) ^ j := fun n hn => by
    have e2 := lsum_at (fun k => if k = i then (v - rat tb i) * ((i : Int) + 1) ^ j else 0) (List.range n)
    rw [← e2, List.length_range, sumN_one (i := i) hn fun k hk hne => by
      rw [List.getD_eq_getElem?_getD, List.getElem?_range hk]
      show (if k = i then _ else _) = _
      rw [if_neg hne]]
    rw [List.getD_eq_getElem?_getD, List.getElem?_range hn]
    show (if i = i then _ else _) = _
    rw [if_pos rfl]
  exact this _ hi
theorem put_tot (P : PrimeP p) (j : Nat) : ∀ (qs : List (Nat × Int)) (tb : List Int), (∀ q ∈ qs, q.1 < tb.length) → p ∣ totS (putAll p tb qs) j - totS tb j - pw (qs.map fun q => ((q.1 : Int) + 1, q.2)) j
  | [], tb, _ => by simp [putAll, pw]
  | q :: qs, tb, h => by
    have h1 := h q List.mem_cons_self
    have ih := put_tot P j qs (tb.set q.1 ((rat tb q.1 + q.2) % p)) (fun t ht => by rw [List.length_set]; exact h t (List.mem_cons_of_mem _ ht))
    have e : putAll p tb (q :: qs) = putAll p (tb.set q.1 ((rat tb q.1 + q.2) % p)) qs := rfl
    rw [e, List.map_cons, pw]
    rw [set_tot h1] at ih
    have d := dvd_of_emod (p := p) (a := (rat tb q.1 + q.2) % p) (b := rat tb q.1 + q.2) rfl
    dsimp only
    generalize totS (putAll p (tb.set q.1 ((rat tb q.1 + q.2) % p)) qs) j = A at *
    generalize (rat tb q.1 + q.2) % p = B at *
    generalize pw (qs.map fun q => ((q.1 : Int) + 1, q.2)) j = C at *
    generalize ((q.1 : Int) + 1) ^ j = D at *
    obtain ⟨u, hu⟩ := ih
    obtain ⟨v, hv⟩ := d
    exact ⟨u + v * D, by grind⟩
theorem put_len : ∀ (qs : List (Nat × Int)) (tb : List Int), (putAll p tb qs).length = tb.length
  | [], _ => rfl
  | q :: qs, tb => by
    have e : putAll p tb (q :: qs) = putAll p (tb.set q.1 ((rat tb q.1 + q.2) % p)) qs := rfl
    rw [e, put_len qs, List.length_set]
theorem put_rng (P : PrimeP p) : ∀ (qs : List (Nat × Int)) (tb : List Int), (∀ x ∈ tb, 0 ≤ x ∧ x < p) → ∀ x ∈ putAll p tb qs, 0 ≤ x ∧ x < p
  | [], _, h => h
  | q :: qs, tb, h => by
    have := P.two
    have e : putAll p tb (q :: qs) = putAll p (tb.set q.1 ((rat tb q.1 + q.2) % p)) qs := rfl
    rw [e]
    refine put_rng P qs _ fun x hx => ?_
    rcases List.mem_or_eq_of_mem_set hx with c | rfl
    · exact h x c
    · exact ⟨Int.emod_nonneg _ (by omega), Int.emod_lt_of_pos _ (by omega)⟩
theorem put_same : ∀ (qs : List (Nat × Int)) (tb : List Int) (k : Nat), (∀ q ∈ qs, q.1 ≠ k) → rat (putAll p tb qs) k = rat tb k
  | [], _, _, _ => rfl
  | q :: qs, tb, k, h => by
    have e : putAll p tb (q :: qs) = putAll p (tb.set q.1 ((rat tb q.1 + q.2) % p)) qs := rfl
    rw [e, put_same qs _ k fun t ht => h t (List.mem_cons_of_mem _ ht)]
    have hq := h q List.mem_cons_self
    by_cases d : k < tb.length
    · rw [rat_lt (by rw [List.length_set]; exact d), rat_lt d, List.getElem_set_ne hq]
    · rw [rat_ge (by rw [List.length_set]; omega), rat_ge (by omega)]
end
end Mp

set_option Elab.async false
set_option linter.all false
set_option maxRecDepth 100000
set_option maxHeartbeats 4000000
namespace Mp
theorem prs_nodiv : ∀ q ∈ ([(2, 1), (3, 1), (5, 2), (7, 2), (11, 2), (13, 2), (17, 3), (23, 3), (41, 3), (43, 3), (101, 4), (257, 5), (10007, 7), (65537, 9), (999983, 10), (1000000007, 15), (9999999967, 17), (31, 3), (53, 3), (97, 4), (1000003, 10), (999999937, 15)] : List (Nat × Nat)), noDiv q.1 q.2 2 = true ∧ q.1 < 2 ^ q.2 * 2 ^ q.2 ∧ 2 ≤ q.1 := by
  decide +kernel
theorem prs_primeP {p : Int} (h : p ∈ PRS) : PrimeP p := by
  have h2 : ∃ q ∈ ([(2, 1), (3, 1), (5, 2), (7, 2), (11, 2), (13, 2), (17, 3), (23, 3), (41, 3), (43, 3), (101, 4), (257, 5), (10007, 7), (65537, 9), (999983, 10), (1000000007, 15), (9999999967, 17), (31, 3), (53, 3), (97, 4), (1000003, 10), (999999937, 15)] : List (Nat × Nat)), p = (q.1 : Int) := by
    have e : PRS = ([(2, 1), (3, 1), (5, 2), (7, 2), (11, 2), (13, 2), (17, 3), (23, 3), (41, 3), (43, 3), (101, 4), (257, 5), (10007, 7), (65537, 9), (999983, 10), (1000000007, 15), (9999999967, 17), (31, 3), (53, 3), (97, 4), (1000003, 10), (999999937, 15)] : List (Nat × Nat)).map fun q => (q.1 : Int) := by decide
    rw [e] at h
    obtain ⟨q, hq, rfl⟩ := List.mem_map.mp h
    exact ⟨q, hq, rfl⟩
  obtain ⟨q, hq, rfl⟩ := h2
  obtain ⟨a, b, c⟩ := prs_nodiv q hq
  exact prime_of c a b
/-- the sums of the program and those of plain arithmetic -/
theorem sumJ_tot {p : Int} (tb : List Int) (j : Int) : p ∣ sumJ p j tb - totS tb j.toNat := by
  have go : ∀ (tb : List Int) (s : Nat), p ∣ sumF (fun i x => x * ((i + 1) ^ j.toNat % p)) (s : Int) tb - lsum (List.range tb.length) (fun i => rat tb i * (((s + i : Nat) : Int) + 1) ^ j.toNat) := by
    intro tb
    induction tb with
    | nil => intro s; exact ⟨0, by simp [sumF, lsum]⟩
    | cons x tb ih =>
      intro s
      have ih := ih (s + 1)
      have e : List.range (x :: tb).length = 0 :: (List.range tb.length).map (· + 1) := by rw [List.length_cons, List.range_succ_eq_map]
      have e2 : ∀ (l : List Nat) (f : Nat → Int), lsum (l.map (· + 1)) f = lsum l fun i => f (i + 1) := fun l f => by
        induction l with
        | nil => rfl
        | cons a l ih => rw [List.map_cons, lsum, lsum, ih]
      rw [e, lsum, e2, sumF]
      have e3 : lsum (List.range tb.length) (fun i => rat (x :: tb) (i + 1) * (((s + (i + 1) : Nat) : Int) + 1) ^ j.toNat) = lsum (List.range tb.length) (fun i => rat tb i * (((s + 1 + i : Nat) : Int) + 1) ^ j.toNat) := lsum_congr fun i _ => by
        have : s + (i + 1) = s + 1 + i := by omega
        rw [this]; rfl
      rw [e3]
      have e4 : rat (x :: tb) 0 = x := rfl
      have e5 : ((s + 0 : Nat) : Int) = (s : Int) := by omega
      have e6 : ((s + 1 : Nat) : Int) = (s : Int) + 1 := by omega
      rw [e4, e5]
      rw [e6] at ih
      have d := dvd_of_emod (p := p) (a := ((s : Int) + 1) ^ j.toNat % p) (b := ((s : Int) + 1) ^ j.toNat) rfl
      generalize sumF (fun i x => x * ((i + 1) ^ j.toNat % p)) ((s : Int) + 1) tb = A at *
      generalize lsum (List.range tb.length) (fun i => rat tb i * (((s + 1 + i : Nat) : Int) + 1) ^ j.toNat) = B at *
      generalize ((s : Int) + 1) ^ j.toNat % p = C at *
      generalize ((s : Int) + 1) ^ j.toNat = D at *
      obtain ⟨u, hu⟩ := ih
      obtain ⟨v, hv⟩ := d
      exact ⟨u + x * v, by grind⟩
  have h := go tb 0
  have e : (lsum (List.range tb.length) fun i => rat tb i * (((0 + i : Nat) : Int) + 1) ^ j.toNat) = totS tb j.toNat := lsum_congr fun i _ => by rw [Nat.zero_add]
  rw [e] at h
  unfold sumJ
  have d := dvd_of_emod (p := p) (a := sumF (fun i x => x * ((i + 1) ^ j.toNat % p)) 0 tb % p) (b := sumF (fun i x => x * ((i + 1) ^ j.toNat % p)) 0 tb) rfl
  have h3 : ((0 : Nat) : Int) = 0 := rfl
  rw [h3] at h
  obtain ⟨u, hu⟩ := h
  obtain ⟨v, hv⟩ := d
  exact ⟨u + v, by rw [Int.mul_add]; omega⟩
theorem sumJ_eq {p : Int} (hp : 0 < p) (a b : List Int) (j : Nat) : sumJ p (j : Int) a = sumJ p (j : Int) b ↔ p ∣ totS a j - totS b j := by
  have h1 := sumJ_tot (p := p) a (j : Int)
  have h2 := sumJ_tot (p := p) b (j : Int)
  rw [Int.toNat_natCast] at h1 h2
  constructor
  · intro h
    rw [h] at h1
    obtain ⟨u, hu⟩ := h1
    obtain ⟨v, hv⟩ := h2
    exact ⟨v - u, by rw [Int.mul_sub]; omega⟩
  · intro h
    refine same_rest (p := p) ?_ ?_ ?_ ?_ ?_
    · exact Int.emod_nonneg _ (by omega)
    · exact Int.emod_lt_of_pos _ hp
    · exact Int.emod_nonneg _ (by omega)
    · exact Int.emod_lt_of_pos _ hp
    · obtain ⟨u, hu⟩ := h1
      obtain ⟨v, hv⟩ := h2
      obtain ⟨w, hw⟩ := h
      exact ⟨u - v + w, by rw [Int.mul_add, Int.mul_sub]; omega⟩
theorem TabOk.tab {p : Int} {tb : List Int} (T : TabOk p tb) : TabP p tb.length tb := by
  have hp := prs_lim p T.prime
  have key : ∀ k, 0 ≤ rat tb k ∧ rat tb k < p := fun k => by
    by_cases c : k < tb.length
    · rw [rat_lt c]; exact T.worth _ (List.getElem_mem c)
    · rw [rat_ge (by omega)]; omega
  exact ⟨rfl, fun k => (key k).1, fun k => (key k).2⟩
theorem unlike_off {a b : List Int} (h : a.length = b.length) : unlikeL a b = (offN a b).map fun (i : Nat) => (i : Int) := by
  unfold unlikeL offN
  congr 1
  apply List.filter_congr
  intro i hi
  have hi := List.mem_range.mp hi
  rw [rat_lt hi, rat_lt (by omega), List.getElem?_eq_getElem hi, List.getElem?_eq_getElem (by omega)]
  simp
/-- the first sum at which two tables are unlike, below how many places they differ at -/
def firstU (p : Int) (a b : List Int) : Option Nat := ((List.range (offN a b).length).filter fun (j : Nat) => decide (sumJ p (j : Int) a ≠ sumJ p (j : Int) b)).head?
end Mp

set_option Elab.async false
set_option linter.all false
set_option maxRecDepth 100000
set_option maxHeartbeats 4000000
namespace Mp
open PySem PySem.Spec PyProof.Rows L2
section
variable {cs : Nat → List W → Sto → CR} {fs : List Fd} {gl : List W} {N k f : Nat} {m : Sto} {en : En}
/-- a loop that looks for a first one -/
theorem fl_find {A B : Type} {tg : Tg} {b : S} (enc : A → W) (hit : A → Option B) (I : En → Sto → Prop) (J : B → RV → Sto → Prop) : ∀ {as : List A} {en : En} {m : Sto}, I en m →
    (∀ a ∈ as, ∀ en m, I en m → ∃ en2, bindT tg (enc a) m en = some en2 ∧
      (hit a = none → ∃ en3 m3, sv cs gl N b en2 m = .ok .nx en3 m3 ∧ I en3 m3) ∧ (∀ w, hit a = some w → ∃ r en3 m3, sv cs gl N b en2 m = .ok (.rt r) en3 m3 ∧ J w r m3)) →
    (as.findSome? hit = none → ∃ en2 m2, fl cs gl N tg b [] (as.map enc) en m = .ok .nx en2 m2 ∧ I en2 m2) ∧ (∀ w, as.findSome? hit = some w → ∃ r en2 m2, fl cs gl N tg b [] (as.map enc) en m = .ok (.rt r) en2 m2 ∧ J w r m2)
  | [], en, m, h, _ => ⟨fun _ => ⟨en, m, fl_nil rfl, h⟩, fun w h => by cases h⟩
  | a :: as, en, m, h, q => by
    obtain ⟨en2, q1, q2, q3⟩ := q a List.mem_cons_self en m h
    cases c : hit a with
    | none =>
      obtain ⟨en3, m3, r1, r2⟩ := q2 c
      have ih := fl_find (tg := tg) (b := b) enc hit I J (as := as) r2 fun x hx => q x (List.mem_cons_of_mem _ hx)
      rw [List.findSome?_cons, c, List.map_cons, fl_cons0, q1, optp_some, r1]
      exact ih
    | some w =>
      obtain ⟨r, en3, m3, r1, r2⟩ := q3 w c
      rw [List.findSome?_cons, c, List.map_cons, fl_cons0, q1, optp_some, r1]
      refine ⟨fun h => (by cases h), fun w2 h => ?_⟩
      cases h
      exact ⟨r, en3, m3, rfl, r2⟩
/-- a comprehension whose turns change something -/
theorem cl_steps {tg : Tg} {js : List Nat} {elt : E} : ∀ {zs : List W} {en : En} {m : Sto} (I : Nat → List W → En → Sto → Prop) (rs0 : List W), I 0 rs0 en m →
    (∀ i z rs, zs[i]? = some z → ∀ en m, I i rs en m → ∃ en2 x en3 m2 w en4, bindT tg z m en = some en2 ∧ ev cs gl elt en2 m = .ok x en3 m2 ∧ esc x en3 = some (w, en4) ∧ I (i + 1) (rs ++ [w]) (wipeE en4 js) m2) →
    ∃ rs en2 m2, cl cs gl tg js .nil elt [] zs en m = .ok rs en2 m2 ∧ I zs.length (rs0 ++ rs) en2 m2
  | [], en, m, I, rs0, h, _ => ⟨[], en, m, cl_nil rfl, by rw [List.append_nil]; exact h⟩
  | z :: zs, en, m, I, rs0, h, q => by
    obtain ⟨en2, x, en3, m2, w, en4, q1, q2, q3, q4⟩ := q 0 z rs0 rfl en m h
    obtain ⟨rs, en5, m3, r1, r2⟩ := cl_steps (tg := tg) (js := js) (elt := elt) (zs := zs) (fun i rs en m => I (i + 1) rs en m) (rs0 ++ [w]) q4 fun i y rs hy => q (i + 1) y rs (by simpa using hy)
    refine ⟨w :: rs, en5, m3, ?_, by rw [List.append_assoc] at r2; exact r2⟩
    rw [cl_keep rfl q1 (en3 := en2) (m3 := m) (by simp [isNil]) q2 q3, r1]; rfl
def optW : Option Nat → W
  | none => .non
  | some j => .int (j : Int)
theorem find_first {A : Type} {q : A → Bool} : ∀ {l : List A}, l.findSome? (fun a => if q a = true then some a else none) = (l.filter q).head?
  | [] => rfl
  | a :: l => by
    by_cases c : q a = true
    · rw [List.findSome?_cons, if_pos c, List.filter_cons_of_pos c]; rfl
    · rw [List.findSome?_cons, if_neg c, List.filter_cons_of_neg c]; exact find_first
/-- what the first unlike sum wants -/
structure FirstFs (fs : List Fd) (gl : List W) (pb st ip np gB nt nl pu sb fu : Nat) : Prop where
  lk : LikeFs fs gl pb st ip np gB nt nl pu
  fsb : fs[sb]? = some ⟨3, 5, b_sum_by pb⟩
  ffu : fs[fu]? = some ⟨3, 4, b_first_unlike_sum pu sb⟩
def w_fu (sb : Nat) : S := (.seq (.iff (.cmp .ne (.call sb 3 (.cons (.var 0) (.cons (.var 3) (.cons (.var 2) .nil)))) (.call sb 3 (.cons (.var 1) (.cons (.var 3) (.cons (.var 2) .nil))))) (.seq (.ret (.var 3))
  .skip) .skip)
  .skip)
theorem first_run {pb st ip np gB nt nl pu sb fu : Nat} (F : FirstFs fs gl pb st ip np gB nt nl pu sb fu) {p : Int} {a b : List Int} (A : TabOk p a) (B : TabOk p b) (h : a.length = b.length) (hN : 100 ≤ N) :
    callN fs gl N (k + 7) fu [.lst (a.map W.int), .lst (b.map W.int), .int p] m = .ok (.val (optW (firstU p a b))) m := by
  rw [call_at F.ffu rfl]
  have hp := prs_lim p A.prime
  have hl := A.most
  have hl2 := B.most
  have a1 := places_run (k := k) (gl := gl) (N := N) (m := m) F.lk A B h hN
  have ul : (unlikeL a b).length = (offN a b).length := by rw [unlike_off h, List.length_map]
  have ule : (offN a b).length ≤ 1000 := by rw [← ul]; exact Nat.le_trans unlike_len hl
  have fo := fl_find (cs := callN fs gl N (k + 6)) (gl := gl) (N := N) (tg := .one 3) (b := w_fu sb) (fun (i : Nat) => W.int (0 + (i : Int))) (fun j => if decide (sumJ p (j : Int) a ≠ sumJ p (j : Int) b) = true then some j else none)
    (fun en mm => mm = m ∧ ∃ x, en = [some (.val (.lst (a.map W.int))), some (.val (.lst (b.map W.int))), some (.val (.int p)), x]) (fun j r mm => r = .val (.int (j : Int)) ∧ mm = m) (as := List.range (offN a b).length)
    (en := [some (.val (.lst (a.map W.int))), some (.val (.lst (b.map W.int))), some (.val (.int p)), none]) (m := m) ⟨rfl, _, rfl⟩ (fun j hj en mm hI => by
      obtain ⟨rfl, x, rfl⟩ := hI
      have hj := List.mem_range.mp hj
      have s1 : callN fs gl N (k + 6) sb [.lst (a.map W.int), .int (j : Int), .int p] mm = .ok (.val (.int (sumJ p (j : Int) a))) mm := sum_by_run (k := k + 4) F.fsb F.lk.pr.fpb (by omega) (by omega) (by omega) (by omega) (by unfold LIM; omega) hN
      have s2 : callN fs gl N (k + 6) sb [.lst (b.map W.int), .int (j : Int), .int p] mm = .ok (.val (.int (sumJ p (j : Int) b))) mm := sum_by_run (k := k + 4) F.fsb F.lk.pr.fpb (by omega) (by omega) (by omega) (by omega) (by unfold LIM; omega) hN
      refine ⟨[some (.val (.lst (a.map W.int))), some (.val (.lst (b.map W.int))), some (.val (.int p)), some (.val (.int (j : Int)))], by rw [bind_one, Int.zero_add]; rfl, fun hc => ?_, fun w hc => ?_⟩
      · have c : sumJ p (j : Int) a = sumJ p (j : Int) b := by
          by_cases d : sumJ p (j : Int) a = sumJ p (j : Int) b
          · exact d
          · rw [if_pos (decide_eq_true d)] at hc; cases hc
        exact ⟨_, mm, by simp [w_fu, s1, s2, c]; rfl, rfl, _, rfl⟩
      · by_cases d : sumJ p (j : Int) a = sumJ p (j : Int) b
        · rw [if_neg (by simp [d])] at hc; cases hc
        · rw [if_pos (decide_eq_true d)] at hc
          cases hc
          exact ⟨.val (.int (j : Int)), _, mm, by simp [w_fu, s1, s2, d]; rfl, rfl, rfl⟩)
  rw [find_first] at fo
  have g1 : rngOk ((offN a b).length : Int) = true := by unfold rngOk; exact decide_eq_true ⟨by omega, by omega⟩
  have it := items_rng1 (m := m) g1
  rw [Int.toNat_natCast] at it
  have q : b_first_unlike_sum pu sb = .seq (.for_ .rng1 (.cons (.blt .len (.cons (.call pu 3 (.cons (.var 0) (.cons (.var 1) (.cons (.var 2) .nil)))) .nil)) .nil) (.one 3) (w_fu sb)) (.seq (.ret .non) .skip) := rfl
  have h1 : evs (callN fs gl N (k + 6)) gl (.cons (.blt .len (.cons (.call pu 3 (.cons (.var 0) (.cons (.var 1) (.cons (.var 2) .nil)))) .nil)) .nil) [some (.val (.lst (a.map W.int))), some (.val (.lst (b.map W.int))), some (.val (.int p)), none] m = .ok [.int ((offN a b).length : Int)] [some (.val (.lst (a.map W.int))), some (.val (.lst (b.map W.int))), some (.val (.int p)), none] m := by simp [a1, ul]
  rw [q]
  change endR (sv (callN fs gl N (k + 6)) gl N _ [some (.val (.lst (a.map W.int))), some (.val (.lst (b.map W.int))), some (.val (.int p)), none] m) = _
  unfold firstU
  cases e : ((List.range (offN a b).length).filter fun (j : Nat) => decide (sumJ p (j : Int) a ≠ sumJ p (j : Int) b)).head? with
  | none =>
    obtain ⟨en2, m2, q1, rfl, x, rfl⟩ := fo.1 e
    rw [sv_seq, sv_for, h1, bnd_ok, it, opt2p_some, q1, thn_nx]
    simp [optW]
  | some w =>
    obtain ⟨r, en2, m2, q1, rfl, rfl⟩ := fo.2 w e
    rw [sv_seq, sv_for, h1, bnd_ok, it, opt2p_some, q1, thn_rt]
    simp [optW]
theorem add_own {en : En} {m : Sto} {j : Nat} {ws zs : List W} (he : enGet en j = some (.own ws)) (h : ws.length + zs.length ≤ LIM) : binR .add en m (.bor j) (.val (.lst zs)) = some (.new (ws ++ zs)) := by
  have e : rvW en (.bor j) = some (.lst ws) := by rw [rvW_bor, he]; rfl
  have e2 : binR .add en m (.bor j) (.val (.lst zs)) = binR .add en m (.val (.lst ws)) (.val (.lst zs)) := by
    unfold binR
    rw [e]; rfl
  rw [e2]
  exact add_lsts (en := en) (m := m) h
theorem sumsL_get {p : Int} {tb : List Int} {n j : Nat} (h : j < n) : (sumsL p tb n)[j]? = some (sumJ p (j : Int) tb) := by
  unfold sumsL
  rw [List.getElem?_map, List.getElem?_range h]; rfl
theorem unlike_sums {p : Int} {a b : List Int} {n : Nat} : unlikeL (sumsL p a n) (sumsL p b n) = ((List.range n).filter fun (j : Nat) => decide (sumJ p (j : Int) a ≠ sumJ p (j : Int) b)).map fun (i : Nat) => (i : Int) := by
  unfold unlikeL
  rw [sumsL_len]
  congr 1
  apply List.filter_congr
  intro i hi
  have hi := List.mem_range.mp hi
  rw [sumsL_get hi, sumsL_get hi]
  simp
theorem head_upto {q : Nat → Bool} {v n : Nat} (h : v ≤ n) (h2 : (∀ j, j < v → q j = false) → ∀ j, j < n → q j = false) : ((List.range v).filter q).head? = ((List.range n).filter q).head? := by
  obtain ⟨d, rfl⟩ := Nat.exists_eq_add_of_le h
  rw [List.range_add, List.filter_append]
  cases c : (List.range v).filter q with
  | cons x l => rfl
  | nil =>
    have h3 : ∀ j, j < v → q j = false := fun j hj => by
      have := List.filter_eq_nil_iff.mp c j (List.mem_range.mpr hj)
      simpa using this
    have h4 := h2 h3
    have : ((List.range d).map fun x => v + x).filter q = [] := by
      apply List.filter_eq_nil_iff.mpr
      intro x hx
      obtain ⟨y, hy, rfl⟩ := List.mem_map.mp hx
      have := h4 (v + y) (by have := List.mem_range.mp hy; omega)
      simp [this]
    rw [List.nil_append, this]
theorem first_all {p : Int} {a b : List Int} (A : TabOk p a) (B : TabOk p b) (h : a.length = b.length) : firstU p a b = ((List.range a.length).filter fun (j : Nat) => decide (sumJ p (j : Int) a ≠ sumJ p (j : Int) b)).head? := by
  have hp := prs_lim p A.prime
  unfold firstU
  refine head_upto ?_ fun hq j hj => ?_
  · unfold offN
    exact Nat.le_trans (List.length_filter_le _ _) (by rw [List.length_range]; exact Nat.le_refl _)
  · have e := alike_of_sums (prs_primeP A.prime) (L := a.length) A.few A.tab (by rw [h]; exact B.tab) (Nat.le_refl _) fun j hj => by
      have := hq j hj
      have c : sumJ p (j : Int) a = sumJ p (j : Int) b := by simpa using this
      have := (sumJ_eq (by omega) a b j).mp c
      obtain ⟨u, hu⟩ := this
      exact ⟨-u, by rw [Int.mul_neg]; omega⟩
    rw [e]; simp
def dueW (p : Int) (a b : List Int) : W := match unlikeL (sumsL p a a.length) (sumsL p b a.length) with
  | [] => .non
  | x :: _ => .int x
theorem due_first {p : Int} {a b : List Int} (A : TabOk p a) (B : TabOk p b) (h : a.length = b.length) : dueW p a b = optW (firstU p a b) := by
  rw [first_all A B h]
  unfold dueW
  rw [unlike_sums]
  cases (List.range a.length).filter fun (j : Nat) => decide (sumJ p (j : Int) a ≠ sumJ p (j : Int) b) with
  | nil => rfl
  | cons x l => rfl
theorem getD_ints {a : List Int} {i : Nat} (h : i < a.length) : atI (a.map W.int) (i : Int) = some (.int (a.getD i 0)) := by
  have := at_get (a := a) (i := (i : Int)) (by omega) (by omega)
  rw [Int.toNat_natCast] at this
  exact this
theorem due_run {ld ls : Nat} (hld : fs[ld]? = some ⟨3, 7, b_law_due ls⟩) (hls : fs[ls]? = some ⟨3, 9, b_law_sums⟩) {p : Int} {a b : List Int} (A : TabOk p a) (B : TabOk p b) (h : a.length = b.length) :
    callN fs gl N (k + 2) ld [.lst (a.map W.int), .lst (b.map W.int), .int p] m = .ok (.val (optW (firstU p a b))) m := by
  rw [call_at hld rfl, ← due_first A B h]
  have hp := prs_lim p A.prime
  have hl := A.most
  have hl2 := B.most
  have s1 : callN fs gl N (k + 1) ls [.lst (a.map W.int), .int (a.length : Int), .int p] m = .ok (.new ((sumsL p a a.length).map W.int)) m := law_sums_run hls (by omega) (by omega) (by omega) (by omega) (by omega)
  have s2 : callN fs gl N (k + 1) ls [.lst (b.map W.int), .int (a.length : Int), .int p] m = .ok (.new ((sumsL p b a.length).map W.int)) m := law_sums_run hls (by omega) (by omega) (by omega) (by omega) (by omega)
  have g1 : rngOk (a.length : Int) = true := by unfold rngOk; exact decide_eq_true ⟨by omega, by omega⟩
  have it := items_rng1 (m := m) g1
  rw [Int.toNat_natCast] at it
  have lz : ((List.range a.length).map fun (i : Nat) => W.int (0 + (i : Int))).length ≤ LIM := by rw [List.length_map, List.length_range]; unfold LIM; omega
  have ul : (unlikeL (sumsL p a a.length) (sumsL p b a.length)).length ≤ 1000 := Nat.le_trans unlike_len (by rw [sumsL_len]; exact hl)
  have dw : dueW p a b = match unlikeL (sumsL p a a.length) (sumsL p b a.length) with
    | [] => .non
    | x :: _ => .int x := rfl
  have hcl := unlike_cl (cs := callN fs gl N (k + 1)) (gl := gl) (m := m) (j := 6) (x := .idx (.var 3) (.var 6)) (y := .idx (.var 4) (.var 6)) (z := .var 6) (a := sumsL p a a.length) (b := sumsL p b a.length) (en := [some (.val (.lst (a.map W.int))), some (.val (.lst (b.map W.int))), some (.val (.int p)), some (.own ((sumsL p a a.length).map W.int)), some (.own ((sumsL p b a.length).map W.int)), none, none]) (by rw [sumsL_len, sumsL_len]) rfl (fun i hi => by
      have q := getD_ints hi
      have ifo := fun en m (h : enGet en 3 = some (.own ((sumsL p a a.length).map W.int))) => idx_own (m := m) (i := (i : Int)) h
      simp [ifo, q]) (fun i hi => by
      rw [sumsL_len] at hi
      have q := getD_ints (a := sumsL p b a.length) (i := i) (by rw [sumsL_len]; exact hi)
      have ifo := fun en m (h : enGet en 4 = some (.own ((sumsL p b a.length).map W.int))) => idx_own (m := m) (i := (i : Int)) h
      simp [ifo, q]) fun i hi => by simp
  rw [sumsL_len] at hcl
  generalize sumsL p a a.length = S1 at *
  generalize sumsL p b a.length = S2 at *
  have h1 : evs (callN fs gl N (k + 1)) gl (.cons (.blt .len (.cons (.var 0) .nil)) .nil) [some (.val (.lst (a.map W.int))), some (.val (.lst (b.map W.int))), some (.val (.int p)), some (.own (S1.map W.int)), some (.own (S2.map W.int)), none, none] m = .ok [.int (a.length : Int)] [some (.val (.lst (a.map W.int))), some (.val (.lst (b.map W.int))), some (.val (.int p)), some (.own (S1.map W.int)), some (.own (S2.map W.int)), none, none] m := by simp
  have hc := comp_run h1 it lz rfl hcl rfl
  have q : b_law_due ls = .seq (.asg 3 (.call ls 3 (.cons (.var 0) (.cons (.blt .len (.cons (.var 0) .nil)) (.cons (.var 2) .nil))))) (.seq (.asg 4 (.call ls 3 (.cons (.var 1) (.cons (.blt .len (.cons (.var 0) .nil)) (.cons (.var 2) .nil))))) (.seq (.asg 5 (.comp .rng1 (.cons (.blt .len (.cons (.var 0) .nil)) .nil) (.one 6) [6] (.cmp .ne (.idx (.var 3) (.var 6)) (.idx (.var 4) (.var 6))) (.var 6)))
    (.seq (.ret (.idx (.bin .add (.var 5) (.lst (.cons .non .nil))) (.int 0))) .skip))) := rfl
  generalize unlikeL S1 S2 = U at *
  have ad := fun en m (h : enGet en 5 = some (.own (U.map W.int))) => add_own (m := m) (zs := [W.non]) h (by rw [List.length_map]; unfold LIM; simp; omega)
  have at0 : atI (U.map W.int ++ [W.non]) 0 = some (dueW p a b) := by
    rw [dw]
    cases U with
    | nil => exact at_0
    | cons x l => exact at_0
  have l1 : (1 : Nat) ≤ LIM := by decide
  have t1 : sv (callN fs gl N (k + 1)) gl N (.asg 3 (.call ls 3 (.cons (.var 0) (.cons (.blt .len (.cons (.var 0) .nil)) (.cons (.var 2) .nil))))) [some (.val (.lst (a.map W.int))), some (.val (.lst (b.map W.int))), some (.val (.int p)), none, none, none, none] m = .ok .nx [some (.val (.lst (a.map W.int))), some (.val (.lst (b.map W.int))), some (.val (.int p)), some (.own (S1.map W.int)), none, none, none] m := by simp [s1]
  have t2 : sv (callN fs gl N (k + 1)) gl N (.asg 4 (.call ls 3 (.cons (.var 1) (.cons (.blt .len (.cons (.var 0) .nil)) (.cons (.var 2) .nil))))) [some (.val (.lst (a.map W.int))), some (.val (.lst (b.map W.int))), some (.val (.int p)), some (.own (S1.map W.int)), none, none, none] m = .ok .nx [some (.val (.lst (a.map W.int))), some (.val (.lst (b.map W.int))), some (.val (.int p)), some (.own (S1.map W.int)), some (.own (S2.map W.int)), none, none] m := by simp [s2]
  rw [q]
  change endR (sv (callN fs gl N (k + 1)) gl N _ [some (.val (.lst (a.map W.int))), some (.val (.lst (b.map W.int))), some (.val (.int p)), none, none, none, none] m) = _
  rw [sv_seq, t1, thn_nx, sv_seq, t2, thn_nx, sv_seq, sv_asg, hc, bnd_ok]
  simp [ad, at0, l1]
end
end Mp

set_option Elab.async false
set_option linter.all false
set_option maxRecDepth 100000
set_option maxHeartbeats 4000000
namespace Mp
open PySem PySem.Spec PyProof.Rows L2
section
variable {cs : Nat → List W → Sto → CR} {fs : List Fd} {gl : List W} {N k f : Nat} {m : Sto} {en : En}
def w_bl1 : S := (.seq (.iff (.cmp .ne (.var 5) (.var 3)) (.seq (.asg 4 (.bin .mod (.bin .mul (.var 4) (.bin .sub (.var 3) (.var 5))) (.var 1)))
  .skip) .skip)
  .skip)
theorem bl_loop {p x : Int} (P : PrimeP p) (hp2 : p ≤ 10 ^ 10) {s0 s2 : Option Sl} : ∀ (ys : List Int) (a : Int) (o : Option Sl), 0 ≤ a → a < p → ∃ o2, fl cs gl N (.one 5) w_bl1 [] (ys.map W.int) [s0, some (.val (.int p)), s2, some (.val (.int x)), some (.val (.int a)), o] m =
    .ok .nx [s0, some (.val (.int p)), s2, some (.val (.int x)), some (.val (.int (prodM p x ys a))), o2] m
  | [], a, o, _, _ => ⟨o, fl_nil0⟩
  | y :: ys, a, o, h0, h1 => by
    have p2 := P.two
    have hp0 : 0 < p := by omega
    have m1 : mulOk a (x - y) = true := mulOk_l ⟨by omega, by omega⟩
    rw [List.map_cons, fl_cons0]
    by_cases c : y = x
    · obtain ⟨o2, h⟩ := bl_loop P hp2 (x := x) (s0 := s0) (s2 := s2) ys a (some (.val (.int y))) h0 h1
      refine ⟨o2, ?_⟩
      rw [prodM, if_pos c, ← h]
      simp [w_bl1, c]
    · obtain ⟨o2, h⟩ := bl_loop P hp2 (x := x) (s0 := s0) (s2 := s2) ys (a * (x - y) % p) (some (.val (.int y))) (Int.emod_nonneg _ (by omega)) (Int.emod_lt_of_pos _ hp0)
      refine ⟨o2, ?_⟩
      rw [prodM, if_neg c, ← h]
      simp [w_bl1, c, mul_ints m1, mod_ints hp0]
def w_bl (lp : Nat) : S := (.seq (.asg 4 (.int 1))
  (.seq (.for_ .list (.cons (.var 0) .nil) (.one 5) w_bl1)
  (.seq (.app (.var 2) (.call lp 3 (.cons (.var 4) (.cons (.bin .sub (.var 1) (.int 2)) (.cons (.var 1) .nil)))))
  .skip)))
theorem blind_run {lb lp : Nat} (hlb : fs[lb]? = some ⟨2, 6, b_law_blind lp⟩) (hlp : fs[lp]? = some ⟨3, 5, b_law_power⟩) {p : Int} {places : List Int} (P : PrimeP p) (hp2 : p ≤ 10 ^ 10) (hl : places.length ≤ 1000) :
    callN fs gl N (k + 2) lb [.lst (places.map W.int), .int p] m = .ok (.new ((blindL p places).map W.int)) m := by
  rw [call_at hlb rfl]
  have p2 := P.two
  have q : b_law_blind lp = .seq (.asg 2 (.lst .nil)) (.seq (.for_ .list (.cons (.var 0) .nil) (.one 3) (w_bl lp)) (.seq (.ret (.var 2)) .skip)) := rfl
  have ll : places.length ≤ LIM := by unfold LIM; omega
  obtain ⟨en2, m2, h1, h2⟩ := fl_steps (cs := callN fs gl N (k + 1)) (gl := gl) (N := N) (tg := .one 3) (b := w_bl lp) (zs := places.map W.int) (en := [some (.val (.lst (places.map W.int))), some (.val (.int p)), some (.own []), none, none, none]) (m := m)
    (fun i en mm => mm = m ∧ ∃ s3 s4 s5, en = [some (.val (.lst (places.map W.int))), some (.val (.int p)), some (.own (((places.take i).map fun x => prodM p x places 1 ^ (p - 2).toNat % p).map W.int)), s3, s4, s5]) ⟨rfl, none, none, none, rfl⟩ (fun i z hz en mm hI => by
      obtain ⟨rfl, s3, s4, s5, rfl⟩ := hI
      rw [List.getElem?_map] at hz
      have hi : i < places.length := by
        by_cases c : i < places.length
        · exact c
        · rw [List.getElem?_eq_none (by omega)] at hz; cases hz
      rw [List.getElem?_eq_getElem hi] at hz
      simp only [Option.map_some, Option.some.injEq] at hz
      subst hz
      obtain ⟨o2, hb⟩ := bl_loop (cs := callN fs gl N (k + 1)) (gl := gl) (N := N) (m := mm) P hp2 (x := places[i]) (s0 := some (.val (.lst (places.map W.int)))) (s2 := some (.own (((places.take i).map fun x => prodM p x places 1 ^ (p - 2).toNat % p).map W.int))) places 1 s5 (by decide) (by omega)
      have pr := prodM_rng P (x := places[i]) places 1 (by decide) (by omega)
      have pw : callN fs gl N (k + 1) lp [.int (prodM p places[i] places 1), .int (p - 2), .int p] mm = _ := pow2_run hlp (by omega) (by omega) (by omega) (by omega)
      have ap := fun en v (h : enGet en 2 = some (.own (((places.take i).map fun x => prodM p x places 1 ^ (p - 2).toNat % p).map W.int))) => app_own (m := mm) (v := v) h (by rw [List.length_map, List.length_map, List.length_take]; unfold LIM; omega)
      have rl : ∀ en, enGet en 2 = some (.own (((places.take i).map fun x => prodM p x places 1 ^ (p - 2).toNat % p).map W.int)) → rvL en mm (.bor 2) = some (((places.take i).map fun x => prodM p x places 1 ^ (p - 2).toNat % p).map W.int) := fun en h => by unfold rvL; rw [rvW_bor, h]; rfl
      have tk : ((places.take (i + 1)).map fun x => prodM p x places 1 ^ (p - 2).toNat % p).map W.int = ((places.take i).map fun x => prodM p x places 1 ^ (p - 2).toNat % p).map W.int ++ [W.int (prodM p places[i] places 1 ^ (p - 2).toNat % p)] := by
        rw [List.take_add_one, List.getElem?_eq_getElem hi]; simp only [Option.toList, List.map_append, List.map_cons, List.map_nil]
      refine ⟨_, [some (.val (.lst (places.map W.int))), some (.val (.int p)), some (.own (((places.take (i + 1)).map fun x => prodM p x places 1 ^ (p - 2).toNat % p).map W.int)), some (.val (.int places[i])), some (.val (.int (prodM p places[i] places 1))), o2], mm, rfl, ?_, rfl, _, _, _, rfl⟩
      rw [tk]
      generalize ((places.take i).map fun x => prodM p x places 1 ^ (p - 2).toNat % p).map W.int = L at *
      simp [w_bl, hb, pw, ap, rl])
  obtain ⟨rfl, s3, s4, s5, rfl⟩ := h2
  rw [List.length_map, List.take_length] at h1
  have e : (places.map fun x => prodM p x places 1 ^ (p - 2).toNat % p) = blindL p places := rfl
  rw [e] at h1
  rw [q]
  change endR (sv (callN fs gl N (k + 1)) gl N _ [some (.val (.lst (places.map W.int))), some (.val (.int p)), none, none, none, none] m2) = _
  simp [h1, retR]
end
end Mp

set_option Elab.async false
set_option linter.all false
set_option maxRecDepth 100000
set_option maxHeartbeats 4000000
namespace Mp
open PySem PySem.Spec PyProof.Rows L2
def rowW (r : Row) : W := .lst (r.map W.int)
theorem dats_rows (n : Nat) : ∀ rows : List Row, W.dats (n + 1) (rows.map rowW) = true
  | [] => rfl
  | r :: rows => by
    have := dats_rows n rows
    rw [List.map_cons]
    simp only [W.dats, this, Bool.and_true]
    exact dats_ints n r
theorem cut_take {ws : List W} {n : Nat} (h : n ≤ ws.length) : cutL ws none (some (n : Int)) = ws.take n := by
  unfold cutL
  have e1 : HT.sIx ws.length 0 none = 0 := HT.sIx_none ..
  have e2 : HT.sIx ws.length ws.length (some (n : Int)) = min n ws.length := HT.sIx_nat ..
  rw [e1, e2, Nat.min_eq_left h, List.drop_zero, Nat.sub_zero]
theorem cut_drop {ws : List W} {n : Nat} (h : n ≤ ws.length) : cutL ws (some (n : Int)) none = ws.drop n := by
  unfold cutL
  have e1 : HT.sIx ws.length ws.length none = ws.length := HT.sIx_none ..
  have e2 : HT.sIx ws.length 0 (some (n : Int)) = min n ws.length := HT.sIx_nat ..
  rw [e1, e2, Nat.min_eq_left h, List.take_of_length_le (by rw [List.length_drop]; omega)]
theorem cut_span {ws : List W} {a b : Nat} (h : a ≤ b) (h2 : b ≤ ws.length) : cutL ws (some (a : Int)) (some (b : Int)) = (ws.drop a).take (b - a) := by
  unfold cutL
  have e1 : HT.sIx ws.length ws.length (some (b : Int)) = min b ws.length := HT.sIx_nat ..
  have e2 : HT.sIx ws.length 0 (some (a : Int)) = min a ws.length := HT.sIx_nat ..
  rw [e1, e2, Nat.min_eq_left h2, Nat.min_eq_left (by omega)]
theorem items_rng2 {m : Sto} {a b : Int} (h : rngOk a = true) (h2 : rngOk b = true) : itemsR .rng2 m [.int a, .int b] = some ((List.range (b - a).toNat).map fun (i : Nat) => .int (a + (i : Int)), []) := by
  show (if rngOk a && rngOk b then _ else _) = _
  rw [h, h2]; rfl
theorem items_revrng {m : Sto} {n : Int} (h : rngOk n = true) : itemsR .revrng m [.int n] = some ((List.range n.toNat).map fun (i : Nat) => .int (n - 1 + (i : Int) * (-1)), []) := by
  show (if rngOk n then _ else _) = _
  rw [if_pos h]
theorem rngOk_nat {n : Nat} (h : n ≤ 100000) : rngOk (n : Int) = true := by unfold rngOk; exact decide_eq_true ⟨by omega, by omega⟩
theorem pick_head (c : Nat) : ∀ rest : List Row, match ((List.range rest.length).filter fun (i : Nat) => decide (rat (rest.getD i []) c ≠ 0)).head? with
    | none => pickR c rest = none
    | some i => i < rest.length ∧ pickR c rest = some (rest.getD i [], rest.eraseIdx i)
  | [] => rfl
  | r :: rest => by
    have ih := pick_head c rest
    rw [List.length_cons, List.range_succ_eq_map]
    unfold pickR
    by_cases d : rat r c ≠ 0
    · rw [List.filter_cons_of_pos (by show decide (rat ((r :: rest).getD 0 []) c ≠ 0) = true; exact decide_eq_true d), if_pos d]
      exact ⟨by simp, rfl⟩
    · rw [List.filter_cons_of_neg (by show ¬ decide (rat ((r :: rest).getD 0 []) c ≠ 0) = true; simpa using d), if_neg d, List.filter_map]
      have e : ((fun (i : Nat) => decide (rat ((r :: rest).getD i []) c ≠ 0)) ∘ Nat.succ) = fun (i : Nat) => decide (rat (rest.getD i []) c ≠ 0) := rfl
      rw [e, List.head?_map]
      cases hh : ((List.range rest.length).filter fun (i : Nat) => decide (rat (rest.getD i []) c ≠ 0)).head? with
      | none => rw [hh] at ih; simp only [Option.map_none]; rw [ih]; rfl
      | some i =>
        rw [hh] at ih
        simp only [Option.map_some]
        exact ⟨by simp; exact ih.1, by rw [ih.2]; rfl⟩
section
variable {cs : Nat → List W → Sto → CR} {fs : List Fd} {gl : List W} {N k f : Nat} {m : Sto} {en : En}
theorem inverse_run {pb st ip np gB iv : Nat} (F : PrimeFs fs gl pb st ip np gB) (hiv : fs[iv]? = some ⟨2, 2, b_inverse_by np pb⟩) {a p : Int} (hp : p ∈ PRS) (ha : ¬ p ∣ a) (hN : 100 ≤ N) :
    callN fs gl N (k + 5) iv [.int a, .int p] m = .ok (.val (.int (invP p a))) m := by
  rw [call_at hiv rfl]
  have p2 := prs_lim p hp
  have a1 := need_prime_run (k := k) (gl := gl) (N := N) (m := m) F.fnp F.fip F.fst F.fpb F.fgB hp hN
  have a2 : callN fs gl N (k + 4) pb [.int a, .int (p - 2), .int p] m = _ := power_run (k := k + 3) (gl := gl) (N := N) (m := m) (b := a) (e := p - 2) (n := p) (t := 60) F.fpb (by omega) (by omega) (by omega) (by omega) (by omega)
  have hz : ¬ a % p = 0 := fun h => ha (Int.dvd_of_emod_eq_zero h)
  have hp0 : 0 < p := by omega
  unfold invP
  simp [b_inverse_by, a1, a2, mod_ints hp0, hz]
/-- lists of numbers times a number, by the prime -/
theorem scale_cl {p i : Int} (hp : 0 < p) (hi : -(2 ^ 64) < i ∧ i < 2 ^ 64) {r : Row} {s0 s1 s2 s4 s6 s8 s9 s10 s11 : Option Sl} : cl cs gl (.one 7) [7] .nil (.bin .mod (.bin .mul (.var 7) (.var 5)) (.var 3)) [] (r.map W.int) [s0, s1, s2, some (.val (.int p)), s4, some (.val (.int i)), s6, none, s8, s9, s10, s11] m =
    .ok ((scaleR p i r).map W.int) [s0, s1, s2, some (.val (.int p)), s4, some (.val (.int i)), s6, none, s8, s9, s10, s11] m := by
  have hcl := cl_fun (cs := cs) (gl := gl) (m := m) (tg := .one 7) (js := [7]) (elt := .bin .mod (.bin .mul (.var 7) (.var 5)) (.var 3)) (ck := []) W.int (fun a => a * i % p) rfl (en := [s0, s1, s2, some (.val (.int p)), s4, some (.val (.int i)), s6, none, s8, s9, s10, s11]) (as := r) (fun a _ => by
    have m1 : mulOk a i = true := mulOk_r hi
    exact ⟨_, rfl, rfl, by simp [mul_ints m1, mod_ints hp]⟩)
  exact hcl
theorem elim_zip (p : Int) (c : Nat) (h r : Row) : (r.zip h).map (fun q => (q.1 - rat r c * q.2) % p) = elimR p c h r := by
  unfold elimR
  rw [List.zip_eq_zipWith, List.map_zipWith]
theorem elim_cl {p : Int} {c : Nat} (hp : 0 < p) (hp2 : p ≤ 10 ^ 10) {h r : Row} (hc : c < r.length) (hr : ∀ k, 0 ≤ rat r k ∧ rat r k < p) {s0 s1 s4 s5 s6 s8 s9 : Option Sl} : cl cs gl (.many [7, 11]) [7, 11] .nil (.bin .mod (.bin .sub (.var 7) (.bin .mul (.idx (.var 10) (.var 2)) (.var 11))) (.var 3)) [] ((r.zip h).map encP) [s0, s1, some (.val (.int (c : Int))), some (.val (.int p)), s4, s5, s6, none, s8, s9, some (.val (rowW r)), none] m =
    .ok ((elimR p c h r).map W.int) [s0, s1, some (.val (.int (c : Int))), some (.val (.int p)), s4, s5, s6, none, s8, s9, some (.val (rowW r)), none] m := by
  have hcl := cl_fun (cs := cs) (gl := gl) (m := m) (tg := .many [7, 11]) (js := [7, 11]) (elt := .bin .mod (.bin .sub (.var 7) (.bin .mul (.idx (.var 10) (.var 2)) (.var 11))) (.var 3)) (ck := []) encP (fun q => (q.1 - rat r c * q.2) % p) rfl (en := [s0, s1, some (.val (.int (c : Int))), some (.val (.int p)), s4, s5, s6, none, s8, s9, some (.val (rowW r)), none]) (as := r.zip h) (fun q _ => by
    have hh := hr c
    have m1 : mulOk (rat r c) q.2 = true := mulOk_l ⟨by omega, by omega⟩
    have at1 : atI (r.map W.int) (c : Int) = some (.int (rat r c)) := getD_ints hc
    have ix : ∀ en m, idxR en m (.val (rowW r)) (.val (.int (c : Int))) = some (.int (rat r c)) := fun en m => at1
    exact ⟨_, rfl, rfl, by simp [ix, mul_ints m1, mod_ints hp]⟩)
  rw [elim_zip] at hcl
  exact hcl
def w_elim : S := (.seq (.app (.var 9) (.comp .zip (.cons (.var 10) (.cons (.var 6) .nil)) (.many [7, 11]) [7, 11] .nil (.bin .mod (.bin .sub (.var 7) (.bin .mul (.idx (.var 10) (.var 2)) (.var 11))) (.var 3)))) .skip)
def w_hit (iv : Nat) : S := (.seq (.asg 5 (.call iv 2 (.cons (.idx (.idx (.var 0) (.var 4)) (.var 2)) (.cons (.var 3) .nil))))
  (.seq (.asg 6 (.comp .list (.cons (.idx (.var 0) (.var 4)) .nil) (.one 7) [7] .nil (.bin .mod (.bin .mul (.var 7) (.var 5)) (.var 3))))
  (.seq (.asg 8 (.bin .add (.slc (.var 0) .nil (.var 4)) (.slc (.var 0) (.bin .add (.var 4) (.int 1)) .nil)))
  (.seq (.asg 9 (.lst .nil))
  (.seq (.for_ .list (.cons (.var 8) .nil) (.one 10) w_elim)
  (.seq (.ret (.tup (.cons (.bin .add (.bin .add (.slc (.var 9) .nil (.var 1)) (.lst (.cons (.var 6) .nil))) (.slc (.var 9) (.var 1) .nil)) (.cons (.bl true) .nil))))
  .skip))))))
def w_clr (iv : Nat) : S := (.seq (.iff (.cmp .ne (.idx (.idx (.var 0) (.var 4)) (.var 2)) (.int 0)) (w_hit iv) .skip) .skip)
theorem elim_turn {p : Int} {c : Nat} (hp : 0 < p) (hp2 : p ≤ 10 ^ 10) {h r : Row} {L : List W} (hc : c < r.length) (hr : ∀ k, 0 ≤ rat r k ∧ rat r k < p) (hl : r.length ≤ 1000) (hL : L.length < LIM) {s0 s1 s4 s5 s6 s8 : Option Sl} (h6 : Held s6 h) :
    sv cs gl N w_elim [s0, s1, some (.val (.int (c : Int))), some (.val (.int p)), s4, s5, s6, none, s8, some (.own L), some (.val (rowW r)), none] m =
      .ok .nx [s0, s1, some (.val (.int (c : Int))), some (.val (.int p)), s4, s5, some (.val (rowW h)), none, s8, some (.own (L ++ [rowW (elimR p c h r)])), some (.val (rowW r)), none] m := by
  have hcl := elim_cl (cs := cs) (gl := gl) (m := m) (c := c) hp hp2 (h := h) (r := r) hc hr (s0 := s0) (s1 := s1) (s4 := s4) (s5 := s5) (s6 := some (.val (rowW h))) (s8 := s8) (s9 := some (.own L))
  have ez := zip_enc r h
  have lz : ((r.zip h).map encP).length ≤ LIM := by rw [List.length_map, List.length_zip]; unfold LIM; omega
  have it : itemsR .zip m [rowW r, rowW h] = some ((r.zip h).map encP, []) := by
    unfold rowW
    rw [items_zip, ez]
  have h1 : evs cs gl (.cons (.var 10) (.cons (.var 6) .nil)) [s0, s1, some (.val (.int (c : Int))), some (.val (.int p)), s4, s5, s6, none, s8, some (.own L), some (.val (rowW r)), none] m = .ok [rowW r, rowW h] [s0, s1, some (.val (.int (c : Int))), some (.val (.int p)), s4, s5, some (.val (rowW h)), none, s8, some (.own L), some (.val (rowW r)), none] m := by
    rcases h6 with rfl | rfl
    · simp [esc]; rfl
    · simp [esc]; rfl
  have hc2 := comp_run (en3 := [s0, s1, some (.val (.int (c : Int))), some (.val (.int p)), s4, s5, some (.val (rowW h)), none, s8, some (.own L), some (.val (rowW r)), none]) h1 it lz rfl hcl rfl
  have ap := fun en v (h : enGet en 9 = some (.own L)) => app_own (m := m) (v := v) h hL
  have rl : ∀ en, enGet en 9 = some (.own L) → rvL en m (.bor 9) = some L := fun en h => by unfold rvL; rw [rvW_bor, h]; rfl
  unfold w_elim
  rw [sv_seq, sv_app]
  simp only [ev_var, enGet_0, enGet_s, bnd_ok, hold_bor, rl, optp_some, hc2, esc_new, opt2p_some, ap, thn_nx, sv_skip, List.set_cons_succ, List.set_cons_zero]
  rfl
theorem elim_loop {p : Int} {c mm : Nat} (hp : 0 < p) (hp2 : p ≤ 10 ^ 10) {h : Row} (hc : c < mm + 1) (hmm : mm ≤ 900) {s0 s1 s4 s5 s8 : Option Sl} : ∀ (rs : List Row) (L : List W) (s6 s10 : Option Sl), Held s6 h → (∀ r ∈ rs, RowOk p mm r) → L.length + rs.length ≤ 5000 →
    ∃ t6 t10, Held t6 h ∧ fl cs gl N (.one 10) w_elim [] (rs.map rowW) [s0, s1, some (.val (.int (c : Int))), some (.val (.int p)), s4, s5, s6, none, s8, some (.own L), s10, none] m =
      .ok .nx [s0, s1, some (.val (.int (c : Int))), some (.val (.int p)), s4, s5, t6, none, s8, some (.own (L ++ (rs.map (elimR p c h)).map rowW)), t10, none] m
  | [], L, s6, s10, h6, _, _ => ⟨s6, s10, h6, by simp only [List.map_nil, List.append_nil]; exact fl_nil0⟩
  | r :: rs, L, s6, s10, h6, hr, hL => by
    have rk := hr r List.mem_cons_self
    rw [List.length_cons] at hL
    have t := elim_turn (cs := cs) (gl := gl) (N := N) (m := m) (c := c) hp hp2 (h := h) (r := r) (L := L) (by rw [rk.len]; exact hc) (fun k => ⟨rk.lo k, rk.hi k⟩) (by rw [rk.len]; omega) (by unfold LIM; omega) (s0 := s0) (s1 := s1) (s4 := s4) (s5 := s5) (s6 := s6) (s8 := s8) h6
    obtain ⟨t6, t10, g1, ih⟩ := elim_loop hp hp2 (h := h) hc hmm (s0 := s0) (s1 := s1) (s4 := s4) (s5 := s5) (s8 := s8) rs (L ++ [rowW (elimR p c h r)]) (some (.val (rowW h))) (some (.val (rowW r))) (.inr rfl) (fun x hx => hr x (List.mem_cons_of_mem _ hx)) (by rw [List.length_append]; simp; omega)
    refine ⟨t6, t10, g1, ?_⟩
    rw [List.map_cons, fl_cons0]
    have b : bindT (.one 10) (rowW r) m [s0, s1, some (.val (.int (c : Int))), some (.val (.int p)), s4, s5, s6, none, s8, some (.own L), s10, none] = some [s0, s1, some (.val (.int (c : Int))), some (.val (.int p)), s4, s5, s6, none, s8, some (.own L), some (.val (rowW r)), none] := rfl
    rw [b, optp_some, t, thn_nx, ih, List.append_assoc]
    rfl
theorem hit_run {pb st ip np gB iv : Nat} (F : PrimeFs fs gl pb st ip np gB) (hiv : fs[iv]? = some ⟨2, 2, b_inverse_by np pb⟩) {p : Int} {c mm : Nat} {tops rest : List Row} {i : Nat} (hp : p ∈ PRS) (hc : c < mm + 1) (hmm : mm ≤ 900) (ht : ∀ r ∈ tops, RowOk p mm r) (hr : ∀ r ∈ rest, RowOk p mm r) (hl : tops.length + rest.length ≤ 2000)
    (hi : i < rest.length) (hz : rat (rest.getD i []) c ≠ 0) (hN : 100 ≤ N) {s5 s6 s8 s9 s10 : Option Sl} : ∃ en2,
    sv (callN fs gl N (k + 5)) gl N (w_hit iv) [some (.val (.lst ((tops ++ rest).map rowW))), some (.val (.int (tops.length : Int))), some (.val (.int (c : Int))), some (.val (.int p)), some (.val (.int ((tops.length : Int) + (i : Int)))), s5, s6, none, s8, s9, s10, none] m =
      .ok (.rt (.val (.tup [.lst ((tops.map (elimR p c (scaleR p (invP p (rat (rest.getD i []) c)) (rest.getD i []))) ++ [scaleR p (invP p (rat (rest.getD i []) c)) (rest.getD i [])] ++ (rest.eraseIdx i).map (elimR p c (scaleR p (invP p (rat (rest.getD i []) c)) (rest.getD i [])))).map rowW), .bl true]))) en2 m := by
  have P := prs_primeP hp
  have p2 := prs_lim p hp
  have hp0 : 0 < p := by omega
  have hrow : rest.getD i [] ∈ rest := by
    rw [List.getD_eq_getElem?_getD, List.getElem?_eq_getElem hi]
    exact List.getElem_mem hi
  have rk := hr _ hrow
  have hall : (tops ++ rest)[tops.length + i]? = some (rest.getD i []) := by
    rw [List.getElem?_append_right (by omega), Nat.add_sub_cancel_left, List.getD_eq_getElem?_getD, List.getElem?_eq_getElem hi]; rfl
  generalize hg : rest.getD i [] = r at *
  have nd : ¬ p ∣ rat r c := fun h => by
    have h1 := rk.lo c
    have h2 := rk.hi c
    have := Int.le_of_dvd (by omega) h
    omega
  have hOk := scale_ok P (i := invP p (rat r c)) rk
  have iv1 := inverse_run (k := k) (gl := gl) (N := N) (m := m) F hiv hp nd hN
  have ivr : 0 ≤ invP p (rat r c) ∧ invP p (rat r c) < p := ⟨Int.emod_nonneg _ (by omega), Int.emod_lt_of_pos _ hp0⟩
  have sc := scale_cl (cs := callN fs gl N (k + 5)) (gl := gl) (m := m) (p := p) (i := invP p (rat r c)) hp0 (by omega) (r := r) (s0 := some (.val (.lst ((tops ++ rest).map rowW)))) (s1 := some (.val (.int (tops.length : Int)))) (s2 := some (.val (.int (c : Int)))) (s4 := some (.val (.int ((tops.length : Int) + (i : Int))))) (s6 := s6) (s8 := s8) (s9 := s9) (s10 := s10) (s11 := none)
  generalize invP p (rat r c) = inv at *
  have atr : atI ((tops ++ rest).map rowW) ((tops.length : Int) + (i : Int)) = some (rowW r) := at_ok (by omega) (by
    have : ((tops.length : Int) + (i : Int)).toNat = tops.length + i := by omega
    rw [this, List.getElem?_map, hall]; rfl)
  have atc : atI (r.map W.int) (c : Int) = some (.int (rat r c)) := getD_ints (by rw [rk.len]; exact hc)
  have ix1 : ∀ en m, idxR en m (.val (.lst ((tops ++ rest).map rowW))) (.val (.int ((tops.length : Int) + (i : Int)))) = some (rowW r) := fun en m => atr
  have ix2 : ∀ en m, idxR en m (.val (rowW r)) (.val (.int (c : Int))) = some (.int (rat r c)) := fun en m => atc
  -- the row that leads
  have t5 : sv (callN fs gl N (k + 5)) gl N (.asg 5 (.call iv 2 (.cons (.idx (.idx (.var 0) (.var 4)) (.var 2)) (.cons (.var 3) .nil)))) [some (.val (.lst ((tops ++ rest).map rowW))), some (.val (.int (tops.length : Int))), some (.val (.int (c : Int))), some (.val (.int p)), some (.val (.int ((tops.length : Int) + (i : Int)))), s5, s6, none, s8, s9, s10, none] m =
      .ok .nx [some (.val (.lst ((tops ++ rest).map rowW))), some (.val (.int (tops.length : Int))), some (.val (.int (c : Int))), some (.val (.int p)), some (.val (.int ((tops.length : Int) + (i : Int)))), some (.val (.int inv)), s6, none, s8, s9, s10, none] m := by
    clear atr hall sc
    generalize (tops ++ rest).map rowW = Q at *
    simp [ix1, ix2, iv1]
  have rl : r.length ≤ LIM := by rw [rk.len]; unfold LIM; omega
  have h1 : evs (callN fs gl N (k + 5)) gl (.cons (.idx (.var 0) (.var 4)) .nil) [some (.val (.lst ((tops ++ rest).map rowW))), some (.val (.int (tops.length : Int))), some (.val (.int (c : Int))), some (.val (.int p)), some (.val (.int ((tops.length : Int) + (i : Int)))), some (.val (.int inv)), s6, none, s8, s9, s10, none] m =
      .ok [rowW r] [some (.val (.lst ((tops ++ rest).map rowW))), some (.val (.int (tops.length : Int))), some (.val (.int (c : Int))), some (.val (.int p)), some (.val (.int ((tops.length : Int) + (i : Int)))), some (.val (.int inv)), s6, none, s8, s9, s10, none] m := by
    clear atr hall sc t5
    generalize (tops ++ rest).map rowW = Q at *
    simp [ix1]
  have hc1 := comp_run (en3 := [some (.val (.lst ((tops ++ rest).map rowW))), some (.val (.int (tops.length : Int))), some (.val (.int (c : Int))), some (.val (.int p)), some (.val (.int ((tops.length : Int) + (i : Int)))), some (.val (.int inv)), s6, none, s8, s9, s10, none]) h1 (show itemsR .list m [rowW r] = some (r.map W.int, []) from rfl) (by rw [List.length_map]; exact rl) rfl sc rfl
  generalize scaleR p inv r = hd at *
  have tl : ((tops ++ rest).map rowW).length = tops.length + rest.length := by rw [List.length_map, List.length_append]
  have cu1 : cutL ((tops ++ rest).map rowW) none (some ((tops.length : Int) + (i : Int))) = ((tops ++ rest).take (tops.length + i)).map rowW := by
    have := cut_take (ws := (tops ++ rest).map rowW) (n := tops.length + i) (by rw [tl]; omega)
    rw [List.map_take, ← this]
    congr 2
  have cu2 : cutL ((tops ++ rest).map rowW) (some ((tops.length : Int) + (i : Int) + 1)) none = ((tops ++ rest).drop (tops.length + i + 1)).map rowW := by
    have := cut_drop (ws := (tops ++ rest).map rowW) (n := tops.length + i + 1) (by rw [tl]; omega)
    rw [List.map_drop, ← this]
    congr 2
  have oth : (tops ++ rest).take (tops.length + i) ++ (tops ++ rest).drop (tops.length + i + 1) = tops ++ rest.eraseIdx i := by
    rw [← List.eraseIdx_eq_take_drop_succ, List.eraseIdx_append_of_length_le (by omega), Nat.add_sub_cancel_left]
  have el : (rest.eraseIdx i).length ≤ rest.length := List.length_eraseIdx_le _ _
  have ad1 : ∀ en m, binR .add en m (.val (.lst (((tops ++ rest).take (tops.length + i)).map rowW))) (.val (.lst (((tops ++ rest).drop (tops.length + i + 1)).map rowW))) = some (.new ((tops ++ rest.eraseIdx i).map rowW)) := fun en m => by
    rw [add_lsts (by rw [List.length_map, List.length_map, List.length_take, List.length_drop, List.length_append]; unfold LIM; omega), ← List.map_append, oth]
  have t8 : sv (callN fs gl N (k + 5)) gl N (.asg 8 (.bin .add (.slc (.var 0) .nil (.var 4)) (.slc (.var 0) (.bin .add (.var 4) (.int 1)) .nil))) [some (.val (.lst ((tops ++ rest).map rowW))), some (.val (.int (tops.length : Int))), some (.val (.int (c : Int))), some (.val (.int p)), some (.val (.int ((tops.length : Int) + (i : Int)))), some (.val (.int inv)), some (.own (hd.map W.int)), none, s8, s9, s10, none] m =
      .ok .nx [some (.val (.lst ((tops ++ rest).map rowW))), some (.val (.int (tops.length : Int))), some (.val (.int (c : Int))), some (.val (.int p)), some (.val (.int ((tops.length : Int) + (i : Int)))), some (.val (.int inv)), some (.own (hd.map W.int)), none, some (.own ((tops ++ rest.eraseIdx i).map rowW)), s9, s10, none] m := by
    clear atr t5 h1 hc1 sc
    generalize ((tops ++ rest).take (tops.length + i)).map rowW = Q1 at *
    generalize ((tops ++ rest).drop (tops.length + i + 1)).map rowW = Q2 at *
    generalize (tops ++ rest.eraseIdx i).map rowW = Q3 at *
    generalize (tops ++ rest).map rowW = Q at *
    simp [slc_ev, isNil, cu1, cu2, ad1]
  obtain ⟨t6, t10, g6, lp⟩ := elim_loop (cs := callN fs gl N (k + 5)) (gl := gl) (N := N) (m := m) hp0 (by omega) (h := hd) hc hmm (s0 := some (.val (.lst ((tops ++ rest).map rowW)))) (s1 := some (.val (.int (tops.length : Int)))) (s4 := some (.val (.int ((tops.length : Int) + (i : Int))))) (s5 := some (.val (.int inv))) (s8 := some (.val (.lst ((tops ++ rest.eraseIdx i).map rowW)))) (tops ++ rest.eraseIdx i) [] (some (.own (hd.map W.int))) s10 (.inl rfl) (fun r hx => by
    rcases List.mem_append.mp hx with h | h
    · exact ht r h
    · exact hr r (List.mem_of_mem_eraseIdx h)) (by simp; omega)
  rw [List.nil_append] at lp
  have t9 : sv (callN fs gl N (k + 5)) gl N (.for_ .list (.cons (.var 8) .nil) (.one 10) w_elim) [some (.val (.lst ((tops ++ rest).map rowW))), some (.val (.int (tops.length : Int))), some (.val (.int (c : Int))), some (.val (.int p)), some (.val (.int ((tops.length : Int) + (i : Int)))), some (.val (.int inv)), some (.own (hd.map W.int)), none, some (.own ((tops ++ rest.eraseIdx i).map rowW)), some (.own []), s10, none] m =
      .ok .nx [some (.val (.lst ((tops ++ rest).map rowW))), some (.val (.int (tops.length : Int))), some (.val (.int (c : Int))), some (.val (.int p)), some (.val (.int ((tops.length : Int) + (i : Int)))), some (.val (.int inv)), t6, none, some (.val (.lst ((tops ++ rest.eraseIdx i).map rowW))), some (.own (((tops ++ rest.eraseIdx i).map (elimR p c hd)).map rowW)), t10, none] m := by
    rw [sv_for]
    simp only [evs_cons, evs_nil, ev_var, enGet_0, enGet_s, bnd_ok, esc, Option.map_some, opt2p_some, List.set_cons_succ, List.set_cons_zero, items_lst, lp]
  have ml : (((tops ++ rest.eraseIdx i).map (elimR p c hd)).map rowW).length = tops.length + (rest.eraseIdx i).length := by rw [List.length_map, List.length_map, List.length_append]
  have cu3 : cutL (((tops ++ rest.eraseIdx i).map (elimR p c hd)).map rowW) none (some (tops.length : Int)) = (tops.map (elimR p c hd)).map rowW := by
    rw [cut_take (by rw [ml]; omega), List.map_append, List.map_append, List.take_append_of_le_length (by rw [List.length_map, List.length_map]; exact Nat.le_refl _), List.take_of_length_le (by rw [List.length_map, List.length_map]; exact Nat.le_refl _)]
  have cu4 : cutL (((tops ++ rest.eraseIdx i).map (elimR p c hd)).map rowW) (some (tops.length : Int)) none = ((rest.eraseIdx i).map (elimR p c hd)).map rowW := by
    rw [cut_drop (by rw [ml]; omega), List.map_append, List.map_append, List.drop_left' (by rw [List.length_map, List.length_map])]
  generalize ((tops ++ rest.eraseIdx i).map (elimR p c hd)).map rowW = Q at *
  have l1 : (1 : Nat) ≤ LIM := by decide
  have l2 : (2 : Nat) ≤ LIM := by decide
  have ad2 : ∀ en m, binR .add en m (.val (.lst ((tops.map (elimR p c hd)).map rowW))) (.val (.lst [rowW hd])) = some (.new ((tops.map (elimR p c hd) ++ [hd]).map rowW)) := fun en m => by
    rw [add_lsts (by rw [List.length_map, List.length_map]; unfold LIM; simp; omega), List.map_append]; rfl
  have ad3 : ∀ en m, binR .add en m (.val (.lst ((tops.map (elimR p c hd) ++ [hd]).map rowW))) (.val (.lst (((rest.eraseIdx i).map (elimR p c hd)).map rowW))) = some (.new ((tops.map (elimR p c hd) ++ [hd] ++ (rest.eraseIdx i).map (elimR p c hd)).map rowW)) := fun en m => by
    rw [add_lsts (by rw [List.length_map, List.length_map, List.length_map, List.length_append, List.length_map]; unfold LIM; simp; omega), ← List.map_append]
  have tr : ∃ en2, sv (callN fs gl N (k + 5)) gl N (.ret (.tup (.cons (.bin .add (.bin .add (.slc (.var 9) .nil (.var 1)) (.lst (.cons (.var 6) .nil))) (.slc (.var 9) (.var 1) .nil)) (.cons (.bl true) .nil)))) [some (.val (.lst ((tops ++ rest).map rowW))), some (.val (.int (tops.length : Int))), some (.val (.int (c : Int))), some (.val (.int p)), some (.val (.int ((tops.length : Int) + (i : Int)))), some (.val (.int inv)), t6, none, some (.val (.lst ((tops ++ rest.eraseIdx i).map rowW))), some (.own Q), t10, none] m =
      .ok (.rt (.val (.tup [.lst ((tops.map (elimR p c hd) ++ [hd] ++ (rest.eraseIdx i).map (elimR p c hd)).map rowW), .bl true]))) en2 m := by
    generalize (tops.map (elimR p c hd) ++ [hd] ++ (rest.eraseIdx i).map (elimR p c hd)).map rowW = R3 at *
    generalize (tops.map (elimR p c hd) ++ [hd]).map rowW = R2 at *
    generalize (tops.map (elimR p c hd)).map rowW = R1 at *
    generalize ((rest.eraseIdx i).map (elimR p c hd)).map rowW = R4 at *
    generalize (tops ++ rest.eraseIdx i).map rowW = R5 at *
    generalize (tops ++ rest).map rowW = R6 at *
    have hw : W.lst (hd.map W.int) = rowW hd := rfl
    rcases g6 with rfl | rfl
    · exact ⟨_, by simp [slc_ev, isNil, cu3, cu4, ad2, ad3, esc, l1, l2, hw]; rfl⟩
    · exact ⟨_, by simp [slc_ev, isNil, cu3, cu4, ad2, ad3, esc, l1, l2, hw]; rfl⟩
  obtain ⟨en2, tr⟩ := tr
  refine ⟨en2, ?_⟩
  unfold w_hit
  rw [sv_seq, t5, thn_nx, sv_seq, sv_asg, hc1, bnd_ok]
  simp only [slOf_new, opt2p_some, optp_some, List.set_cons_succ, List.set_cons_zero, thn_nx]
  rw [sv_seq, t8, thn_nx, sv_seq, sv_asg]
  simp only [ev_lst, evs_nil, bnd_ok, List.length_nil, Nat.zero_le, if_true, slOf_new, opt2p_some, optp_some, List.set_cons_succ, List.set_cons_zero, thn_nx]
  rw [sv_seq, t9, thn_nx, sv_seq, tr, thn_rt]
end
end Mp

set_option Elab.async false
set_option linter.all false
set_option maxRecDepth 100000
set_option maxHeartbeats 4000000
/-! errors: one step each -/
namespace Mp
open PySem PySem.Spec PyProof.Rows L2
theorem at3_of {a b c : Int} (i : Int) : ∃ y : Int, atI [W.int a, W.int b, W.int c] (i % 3) = some (.int y) ∧ (y = a ∨ y = b ∨ y = c) := by
  have : i % 3 = 0 ∨ i % 3 = 1 ∨ i % 3 = 2 := by omega
  rcases this with e | e | e <;> rw [e]
  · exact ⟨a, at_0, .inl rfl⟩
  · exact ⟨b, at_1, .inr (.inl rfl)⟩
  · exact ⟨c, at_2, .inr (.inr rfl)⟩
theorem at2_of {a b : Int} (i : Int) : ∃ y : Int, atI [W.int a, W.int b] (i % 2) = some (.int y) ∧ (y = a ∨ y = b) := by
  have : i % 2 = 0 ∨ i % 2 = 1 := by omega
  rcases this with e | e <;> rw [e]
  · exact ⟨a, at_0, .inl rfl⟩
  · exact ⟨b, at_1, .inr rfl⟩
section
variable {cs : Nat → List W → Sto → CR} {fs : List Fd} {gl : List W} {N k f c : Nat} {m m1 m2 m3 : Sto} {en en1 en2 en3 : En}
theorem raise_st : sv cs gl N (.raise c) en m = .ex c en m := by simp only [sv]
@[simp] theorem thn_ex {f : En → Sto → R Out} {h : Pin f} : thn (.ex c en m) f h = .ex c en m := rfl
@[simp] theorem end_ex : endR (.ex c en m) = .ex c m := rfl
theorem try_ex {b s : S} {cl : List Nat} {j : Nat} {o : Out} (h : sv cs gl N b en m = .ex c en1 m1) (hc : cl.contains c = true) (h2 : sv cs gl N s (en1.set j (some (.val (.exc c)))) m1 = .ok o en2 m2) : sv cs gl N (.tryx b cl j s) en m = .ok o (en2.set j none) m2 := by
  simp only [sv, h, hc, if_true, h2]; rfl
theorem try_ok {b s : S} {cl : List Nat} {j : Nat} {o : Out} (h : sv cs gl N b en m = .ok o en1 m1) : sv cs gl N (.tryx b cl j s) en m = .ok o en1 m1 := by
  simp only [sv, h]
theorem ev_isx {a : E} {tab : List Bool} : ev cs gl (.isx a tab) en m = bnd (ev cs gl a en m) fun x en m => optp ((rvW en x).bind (excW tab)) fun b => .ok (.val (.bl b)) en m := by simp only [ev]; rfl
theorem exc_tab {tab : List Bool} {b : Bool} (h : tab[c]? = some b) : excW tab (.exc c) = some b := h
theorem exc_non {tab : List Bool} : excW tab .non = some false := rfl
/-- the text without errors, at one def -/
theorem un_at {d : Fd} (h : fs[f]? = some d) : (fs.map (unF true))[f]? = some (unF true d) := by rw [List.getElem?_map, h]; rfl
/-- what the functions of primes want of a text with errors -/
structure PrimeX (fs : List Fd) (gl : List W) (pb st ip np gB xp : Nat) : Prop where
  fpb : fs[pb]? = some ⟨3, 5, b_power_by⟩
  fst : fs[st]? = some ⟨2, 4, b_stands pb⟩
  fip : fs[ip]? = some ⟨1, 2, b_is_prime st gB⟩
  fnp : fs[np]? = some ⟨1, 1, b_need_prime_v1 ip xp⟩
  fgB : gl[gB]? = some (.tup (([2, 3, 5, 7, 11] : List Int).map W.int))
theorem PrimeX.un {pb st ip np gB xp : Nat} (F : PrimeX fs gl pb st ip np gB xp) : PrimeFs (fs.map (unF true)) gl pb st ip np gB :=
  ⟨un_at F.fpb, un_at F.fst, un_at F.fip, un_at F.fnp, F.fgB⟩
theorem need_primeX {pb st ip np gB xp : Nat} {n : Int} (F : PrimeX fs gl pb st ip np gB xp) (hn : n ∈ PRS) (hN : 100 ≤ N) : callN fs gl N (k + 4) np [.int n] m = .ok (.val .non) m :=
  call_up (need_prime_run F.un.fnp F.un.fip F.un.fst F.un.fpb F.fgB hn hN)
theorem inverseX {pb st ip np gB xp iv xn : Nat} (F : PrimeX fs gl pb st ip np gB xp) (hiv : fs[iv]? = some ⟨2, 2, b_inverse_by_v1 np pb xn⟩) {a p : Int} (hp : p ∈ PRS) (ha : ¬ p ∣ a) (hN : 100 ≤ N) :
    callN fs gl N (k + 5) iv [.int a, .int p] m = .ok (.val (.int (invP p a))) m :=
  call_up (inverse_run F.un (un_at hiv) hp ha hN)
/-- what is no inverse -/
theorem inverse_no {pb st ip np gB xp iv xn : Nat} (F : PrimeX fs gl pb st ip np gB xp) (hiv : fs[iv]? = some ⟨2, 2, b_inverse_by_v1 np pb xn⟩) {a p : Int} (hp : p ∈ PRS) (ha : a % p = 0) (hN : 100 ≤ N) :
    callN fs gl N (k + 5) iv [.int a, .int p] m = .ex xn m := by
  rw [call_at hiv rfl]
  have hp0 : 0 < p := by have := prs_lim p hp; omega
  have a1 := need_primeX (k := k) (m := m) F hp hN
  change endR (sv (callN fs gl N (k + 4)) gl N (b_inverse_by_v1 np pb xn) [some (.val (.int a)), some (.val (.int p))] m) = _
  unfold b_inverse_by_v1
  simp only [sv_seq, sv_ex, ev_call, evs_cons, evs_nil, ev_var, enGet_0, enGet_s, bnd_ok, esc_val, opt2p_some, List.length_cons, List.length_nil, Nat.zero_add, Nat.reduceAdd, if_true, a1, toR_ok, thn_nx, sv_iff, ev_cmp, ev_bin, ev_int, hold_val, mod_ints hp0, ha, optp_some, eq_ints, decide_true, if_true, blR_bl, raise_st, thn_ex, end_ex]
end
end Mp

set_option Elab.async false
set_option linter.all false
set_option maxRecDepth 100000
set_option maxHeartbeats 4000000
/-! tables and sums that are refused -/
namespace Mp
open PySem PySem.Spec PyProof.Rows L2
/-- no table by the prime -/
def BadT (p : Int) (tb : List Int) : Prop := ¬ (1 ≤ tb.length ∧ (tb.length : Int) < p) ∨ ∃ x ∈ tb, ¬ (0 ≤ x ∧ x < p)
/-- what the functions of sums want of a text with errors -/
structure SumX (fs : List Fd) (gl : List W) (pb st ip np nt sb gB xp xt : Nat) : Prop extends PrimeX fs gl pb st ip np gB xp where
  fnt : fs[nt]? = some ⟨2, 3, b_need_table_v1 xt⟩
  fsb : fs[sb]? = some ⟨3, 5, b_sum_by pb⟩
section
variable {cs : Nat → List W → Sto → CR} {fs : List Fd} {gl : List W} {N k f c : Nat} {m m1 m2 m3 : Sto} {en en1 en2 en3 : En}
theorem SumX.un {pb st ip np nt sb gB xp xt : Nat} (F : SumX fs gl pb st ip np nt sb gB xp xt) : SumFs (fs.map (unF true)) gl pb st ip np nt sb gB :=
  ⟨un_at F.fpb, un_at F.fst, un_at F.fip, un_at F.fnp, un_at F.fnt, un_at F.fsb, F.fgB⟩
theorem need_tableX {nt xt : Nat} {tb : List Int} {p : Int} (hf : fs[nt]? = some ⟨2, 3, b_need_table_v1 xt⟩) (h1 : 1 ≤ tb.length) (h2 : (tb.length : Int) < p) (h3 : ∀ x ∈ tb, 0 ≤ x ∧ x < p) (hl : tb.length ≤ LIM) :
    callN fs gl N (k + 1) nt [.lst (tb.map W.int), .int p] m = .ok (.val .non) m := call_up (need_table_run (un_at hf) h1 h2 h3 hl)
theorem need_table_no {nt xt : Nat} {tb : List Int} {p : Int} (hf : fs[nt]? = some ⟨2, 3, b_need_table_v1 xt⟩) (h : BadT p tb) (hl : tb.length ≤ LIM) : callN fs gl N (k + 1) nt [.lst (tb.map W.int), .int p] m = .ex xt m := by
  rw [call_at hf rfl]
  have hcl := cl_ints (cs := callN fs gl N k) (gl := gl) (m := m) (en := [some (.val (.lst (tb.map W.int))), some (.val (.int p)), none]) (j := 2) (c := .not (.chain .le .lt (.int 0) (.var 2) (.var 1))) (elt := .var 2) (ck := [])
    (fun i => !(decide (0 ≤ i) && decide (i < p))) id (ns := tb) rfl rfl (fun i hi => ⟨by
      rw [if_neg (by simp [isNil])]
      by_cases a : 0 ≤ i <;> simp [a], fun _ => by simp⟩)
  rw [List.map_id] at hcl
  have hL : (tb.map W.int).length ≤ LIM := by rw [List.length_map]; exact hl
  have cc := comp_run (cs := callN fs gl N k) (gl := gl) (m := m) (en := [some (.val (.lst (tb.map W.int))), some (.val (.int p)), none]) (it := .list) (src := .cons (.var 0) .nil) (tg := .one 2) (js := [2]) (c := .not (.chain .le .lt (.int 0) (.var 2) (.var 1))) (elt := .var 2) (e2 := [some (.val (.lst (tb.map W.int))), some (.val (.int p)), none]) (en3 := [some (.val (.lst (tb.map W.int))), some (.val (.int p)), none])
    (by simp only [evs_cons, evs_nil, ev_var, enGet_0, bnd_ok, esc_val, opt2p_some]) items_lst hL rfl hcl rfl
  have ll : bltR .len m [.lst (tb.map W.int)] = some (.val (.int (tb.length : Int))) := by rw [len_lst, List.length_map]
  have l0 : ([] : List W).length ≤ LIM := by decide
  have l00 : (0 : Nat) ≤ LIM := by decide
  change endR (sv (callN fs gl N k) gl N (b_need_table_v1 xt) [some (.val (.lst (tb.map W.int))), some (.val (.int p)), none] m) = _
  by_cases h1 : 1 ≤ tb.length ∧ (tb.length : Int) < p
  · have hb : ∃ x ∈ tb, ¬ (0 ≤ x ∧ x < p) := h.resolve_left (fun z => z h1)
    obtain ⟨x, hx, hxb⟩ := hb
    have hne : tb.filter (fun i => !(decide (0 ≤ i) && decide (i < p))) ≠ [] := fun z => by
      have : x ∈ tb.filter (fun i => !(decide (0 ≤ i) && decide (i < p))) := List.mem_filter.mpr ⟨hx, by
        by_cases a : 0 ≤ x
        · have : ¬ x < p := fun b => hxb ⟨a, b⟩
          simp [a, this]
        · simp [a]⟩
      rw [z] at this; cases this
    have n1 : ∀ en, cmpR .ne en m (.val (.lst ((tb.filter fun i => !(decide (0 ≤ i) && decide (i < p))).map W.int))) (.val (.lst [])) = some true := fun en => by
      rw [ne_lists (ns := tb.filter fun i => !(decide (0 ≤ i) && decide (i < p))) (ms := []) rfl rfl rfl rfl, decide_eq_true hne]
    have d1 : decide ((1 : Int) ≤ (tb.length : Int)) = true := decide_eq_true (by omega)
    have d2 : decide ((tb.length : Int) < p) = true := decide_eq_true h1.2
    unfold b_need_table_v1
    generalize (tb.filter fun i => !(decide (0 ≤ i) && decide (i < p))).map W.int = X at *
    generalize tb.map W.int = Y at *
    simp only [sv_seq, sv_iff, ev_or, evOr_2, evOr_1, ev_not, ev_chain, ev_int, ev_blt, evl_1, ev_var, enGet_0, enGet_s, bnd_ok, rvW_val, hold_val, ll, optp_some, le_ints, lt_ints, d1, d2, if_true, blR_bl, Bool.not_true, Bool.false_eq_true, if_false, ev_cmp, cc, ev_lst, evs_nil, List.length_nil, l00, hold_new, n1, raise_st, thn_ex, end_ex]
  · unfold b_need_table_v1
    generalize tb.map W.int = Y at *
    by_cases a : 1 ≤ tb.length
    · have d1 : decide ((1 : Int) ≤ (tb.length : Int)) = true := decide_eq_true (by omega)
      have d2 : decide ((tb.length : Int) < p) = false := decide_eq_false (fun z => h1 ⟨a, z⟩)
      simp only [sv_seq, sv_iff, ev_or, evOr_2, ev_not, ev_chain, ev_int, ev_blt, evl_1, ev_var, enGet_0, enGet_s, bnd_ok, rvW_val, hold_val, ll, optp_some, le_ints, lt_ints, d1, d2, if_true, blR_bl, Bool.not_false, raise_st, thn_ex, end_ex]
    · have d1 : decide ((1 : Int) ≤ (tb.length : Int)) = false := decide_eq_false (by omega)
      simp only [sv_seq, sv_iff, ev_or, evOr_2, ev_not, ev_chain, ev_int, ev_blt, evl_1, ev_var, enGet_0, enGet_s, bnd_ok, rvW_val, hold_val, ll, optp_some, le_ints, d1, if_true, Bool.false_eq_true, if_false, blR_bl, Bool.not_false, raise_st, thn_ex, end_ex]
variable {pb st ip np nt sb gB xp xt : Nat}
/-- sum_number refuses -/
theorem sum_number_noT (F : SumX fs gl pb st ip np nt sb gB xp xt) {sn gM xn : Nat} (hsn : fs[sn]? = some ⟨3, 3, b_sum_number_v1 np nt sb gM xn⟩) {p j : Int} {tb : List Int} (hp : p ∈ PRS) (h : BadT p tb) (hl : tb.length ≤ LIM) (hN : 100 ≤ N) :
    callN fs gl N (k + 5) sn [.lst (tb.map W.int), .int j, .int p] m = .ex xt m := by
  rw [call_at hsn rfl]
  have a1 := need_primeX (k := k) (m := m) F.toPrimeX hp hN
  have a2 : callN fs gl N (k + 4) nt [.lst (tb.map W.int), .int p] m = .ex xt m := need_table_no (k := k + 3) F.fnt h hl
  change endR (sv (callN fs gl N (k + 4)) gl N (b_sum_number_v1 np nt sb gM xn) [some (.val (.lst (tb.map W.int))), some (.val (.int j)), some (.val (.int p))] m) = _
  unfold b_sum_number_v1
  generalize tb.map W.int = Y at *
  simp only [sv_seq, sv_ex, ev_call, evs_cons, evs_nil, ev_var, enGet_0, enGet_s, bnd_ok, esc_val, opt2p_some, List.length_cons, List.length_nil, Nat.zero_add, Nat.reduceAdd, if_true, a1, toR_ok, thn_nx, a2, toR_ex, bnd_ex, thn_ex, end_ex]
theorem sum_number_noN (F : SumX fs gl pb st ip np nt sb gB xp xt) {sn gM xn : Nat} (hsn : fs[sn]? = some ⟨3, 3, b_sum_number_v1 np nt sb gM xn⟩) (hg : gl[gM]? = some (.int 10000)) {p j : Int} {tb : List Int} (hp : p ∈ PRS) (h1 : 1 ≤ tb.length) (h2 : (tb.length : Int) < p) (h3 : ∀ x ∈ tb, 0 ≤ x ∧ x < p) (hl : tb.length ≤ LIM) (hj : ¬ (0 ≤ j ∧ j ≤ 10000)) (hN : 100 ≤ N) :
    callN fs gl N (k + 5) sn [.lst (tb.map W.int), .int j, .int p] m = .ex xn m := by
  rw [call_at hsn rfl]
  have a1 := need_primeX (k := k) (m := m) F.toPrimeX hp hN
  have a2 : callN fs gl N (k + 4) nt [.lst (tb.map W.int), .int p] m = .ok (.val .non) m := need_tableX (k := k + 3) F.fnt h1 h2 h3 hl
  change endR (sv (callN fs gl N (k + 4)) gl N (b_sum_number_v1 np nt sb gM xn) [some (.val (.lst (tb.map W.int))), some (.val (.int j)), some (.val (.int p))] m) = _
  unfold b_sum_number_v1
  generalize tb.map W.int = Y at *
  by_cases a : 0 ≤ j
  · have d1 : decide (0 ≤ j) = true := decide_eq_true a
    have d2 : decide (j ≤ 10000) = false := decide_eq_false (fun z => hj ⟨a, z⟩)
    simp only [sv_seq, sv_ex, ev_call, evs_cons, evs_nil, ev_var, enGet_0, enGet_s, bnd_ok, esc_val, opt2p_some, List.length_cons, List.length_nil, Nat.zero_add, Nat.reduceAdd, if_true, a1, toR_ok, thn_nx, a2, sv_iff, ev_not, ev_chain, ev_int, hold_val, le_ints, d1, optp_some, ev_glob, hg, d2, blR_bl, Bool.not_false, raise_st, thn_ex, end_ex]
  · have d1 : decide (0 ≤ j) = false := decide_eq_false a
    simp only [sv_seq, sv_ex, ev_call, evs_cons, evs_nil, ev_var, enGet_0, enGet_s, bnd_ok, esc_val, opt2p_some, List.length_cons, List.length_nil, Nat.zero_add, Nat.reduceAdd, if_true, a1, toR_ok, thn_nx, a2, sv_iff, ev_not, ev_chain, ev_int, hold_val, le_ints, d1, optp_some, Bool.false_eq_true, if_false, blR_bl, Bool.not_false, raise_st, thn_ex, end_ex]
/-- first_sums refuses -/
theorem first_sums_noT (F : SumX fs gl pb st ip np nt sb gB xp xt) {fi sy gS xn : Nat} (hfi : fs[fi]? = some ⟨3, 3, b_first_sums_v1 np nt sy gS xn⟩) {p j : Int} {tb : List Int} (hp : p ∈ PRS) (h : BadT p tb) (hl : tb.length ≤ LIM) (hN : 100 ≤ N) :
    callN fs gl N (k + 5) fi [.lst (tb.map W.int), .int j, .int p] m = .ex xt m := by
  rw [call_at hfi rfl]
  have a1 := need_primeX (k := k) (m := m) F.toPrimeX hp hN
  have a2 : callN fs gl N (k + 4) nt [.lst (tb.map W.int), .int p] m = .ex xt m := need_table_no (k := k + 3) F.fnt h hl
  change endR (sv (callN fs gl N (k + 4)) gl N (b_first_sums_v1 np nt sy gS xn) [some (.val (.lst (tb.map W.int))), some (.val (.int j)), some (.val (.int p))] m) = _
  unfold b_first_sums_v1
  generalize tb.map W.int = Y at *
  simp only [sv_seq, sv_ex, ev_call, evs_cons, evs_nil, ev_var, enGet_0, enGet_s, bnd_ok, esc_val, opt2p_some, List.length_cons, List.length_nil, Nat.zero_add, Nat.reduceAdd, if_true, a1, toR_ok, thn_nx, a2, toR_ex, bnd_ex, thn_ex, end_ex]
theorem first_sums_noN (F : SumX fs gl pb st ip np nt sb gB xp xt) {fi sy gS xn : Nat} (hfi : fs[fi]? = some ⟨3, 3, b_first_sums_v1 np nt sy gS xn⟩) (hg : gl[gS]? = some (.int 100)) {p j : Int} {tb : List Int} (hp : p ∈ PRS) (h1 : 1 ≤ tb.length) (h2 : (tb.length : Int) < p) (h3 : ∀ x ∈ tb, 0 ≤ x ∧ x < p) (hl : tb.length ≤ LIM) (hj : ¬ (0 ≤ j ∧ j ≤ 100)) (hN : 100 ≤ N) :
    callN fs gl N (k + 5) fi [.lst (tb.map W.int), .int j, .int p] m = .ex xn m := by
  rw [call_at hfi rfl]
  have a1 := need_primeX (k := k) (m := m) F.toPrimeX hp hN
  have a2 : callN fs gl N (k + 4) nt [.lst (tb.map W.int), .int p] m = .ok (.val .non) m := need_tableX (k := k + 3) F.fnt h1 h2 h3 hl
  change endR (sv (callN fs gl N (k + 4)) gl N (b_first_sums_v1 np nt sy gS xn) [some (.val (.lst (tb.map W.int))), some (.val (.int j)), some (.val (.int p))] m) = _
  unfold b_first_sums_v1
  generalize tb.map W.int = Y at *
  by_cases a : 0 ≤ j
  · have d1 : decide (0 ≤ j) = true := decide_eq_true a
    have d2 : decide (j ≤ 100) = false := decide_eq_false (fun z => hj ⟨a, z⟩)
    simp only [sv_seq, sv_ex, ev_call, evs_cons, evs_nil, ev_var, enGet_0, enGet_s, bnd_ok, esc_val, opt2p_some, List.length_cons, List.length_nil, Nat.zero_add, Nat.reduceAdd, if_true, a1, toR_ok, thn_nx, a2, sv_iff, ev_not, ev_chain, ev_int, hold_val, le_ints, d1, optp_some, ev_glob, hg, d2, blR_bl, Bool.not_false, raise_st, thn_ex, end_ex]
  · have d1 : decide (0 ≤ j) = false := decide_eq_false a
    simp only [sv_seq, sv_ex, ev_call, evs_cons, evs_nil, ev_var, enGet_0, enGet_s, bnd_ok, esc_val, opt2p_some, List.length_cons, List.length_nil, Nat.zero_add, Nat.reduceAdd, if_true, a1, toR_ok, thn_nx, a2, sv_iff, ev_not, ev_chain, ev_int, hold_val, le_ints, d1, optp_some, Bool.false_eq_true, if_false, blR_bl, Bool.not_false, raise_st, thn_ex, end_ex]
/-- sums_behind refuses -/
theorem behind_no (F : PrimeX fs gl pb st ip np gB xp) {sh xl : Nat} (hsh : fs[sh]? = some ⟨5, 7, b_sums_behind_v1 np pb xl⟩) {p place old new : Int} {w : W} (hp : p ∈ PRS) (h : ¬ (0 ≤ place ∧ place < p - 1)) (hN : 100 ≤ N) :
    callN fs gl N (k + 5) sh [w, .int place, .int old, .int new, .int p] m = .ex xl m := by
  rw [call_at hsh rfl]
  have a1 := need_primeX (k := k) (m := m) F hp hN
  change endR (sv (callN fs gl N (k + 4)) gl N (b_sums_behind_v1 np pb xl) [some (.val w), some (.val (.int place)), some (.val (.int old)), some (.val (.int new)), some (.val (.int p)), none, none] m) = _
  unfold b_sums_behind_v1
  by_cases a : 0 ≤ place
  · have d1 : decide (0 ≤ place) = true := decide_eq_true a
    have d2 : decide (place < p - 1) = false := decide_eq_false (fun z => h ⟨a, z⟩)
    simp only [sv_seq, sv_ex, ev_call, evs_cons, evs_nil, ev_var, enGet_0, enGet_s, bnd_ok, esc_val, opt2p_some, List.length_cons, List.length_nil, Nat.zero_add, Nat.reduceAdd, if_true, a1, toR_ok, thn_nx, sv_iff, ev_not, ev_chain, ev_int, ev_bin, sub_ints, hold_val, le_ints, lt_ints, d1, optp_some, d2, blR_bl, Bool.not_false, raise_st, thn_ex, end_ex]
  · have d1 : decide (0 ≤ place) = false := decide_eq_false a
    simp only [sv_seq, sv_ex, ev_call, evs_cons, evs_nil, ev_var, enGet_0, enGet_s, bnd_ok, esc_val, opt2p_some, List.length_cons, List.length_nil, Nat.zero_add, Nat.reduceAdd, if_true, a1, toR_ok, thn_nx, sv_iff, ev_not, ev_chain, ev_int, hold_val, le_ints, d1, optp_some, Bool.false_eq_true, if_false, blR_bl, Bool.not_false, raise_st, thn_ex, end_ex]
/-! what is counted -/
theorem ev_cnt {a es : E} : ev cs gl (.mth .count a es) en m = bnd (ev cs gl a en m) fun x en m => optp (rvL en m (hold x)) fun _ => bnd (evs cs gl es en m) fun ws en m => optp ((rvW en (hold x)).bind fun w => countW m w ws) fun q => .ok (.val (.int (q.1 : Nat))) en m := by simp only [ev]; rfl
theorem ev_ixo {a es : E} : ev cs gl (.mth .index a es) en m = bnd (ev cs gl a en m) fun x en m => optp (rvL en m (hold x)) fun _ => bnd (evs cs gl es en m) fun ws en m => optp ((rvW en (hold x)).bind fun w => countW m w ws) fun q => if q.2.1 < q.2.2 then .ok (.val (.int (q.2.1 : Nat))) en m else .bad := by simp only [ev]; rfl
theorem ne_strs {a b : Str} (ha : PyData.strOk a = true) (hb : PyData.strOk b = true) : cmpR .ne en m (.val (.str a)) (.val (.str b)) = some (!(a == b)) := by
  have h1 : W.dat DEEP (rd m (.str a)) = true := by simp only [rd, DEEP, W.dat]; exact ha
  have h2 : W.dat DEEP (rd m (.str b)) = true := by simp only [rd, DEEP, W.dat]; exact hb
  rw [neR_dat (a := .str a) (b := .str b) rfl rfl h1 h2]
  simp only [rd, W.same]
end
end Mp

set_option Elab.async false
set_option linter.all false
set_option maxRecDepth 100000
set_option maxHeartbeats 4000000
namespace Mp
open PySem PySem.Spec PyProof.Rows L2
def w_said (fi sn sh : Nat) : S := (.seq (.iff (.cmp .eq (.var 0) (.int 0)) (.seq (.ex (.call sn 3 (.cons (.var 1) (.cons (.var 2) (.cons (.var 3) .nil)))))
  .skip) (.seq (.iff (.cmp .eq (.var 0) (.int 1)) (.seq (.ex (.call fi 3 (.cons (.var 1) (.cons (.var 2) (.cons (.var 3) .nil)))))
  .skip) (.seq (.ex (.call sh 5 (.cons (.var 1) (.cons (.var 2) (.cons (.int 1) (.cons (.int 2) (.cons (.var 3) .nil)))))))
  .skip))
  .skip))
  .skip)
/-- the names that are told of an error -/
inductive Named (tT tN tL : List Bool) (c : Nat) : Str → Prop
  | tab : tT[c]? = some true → tN[c]? = some false → tL[c]? = some false → Named tT tN tL c "NoTable"
  | num : tT[c]? = some false → tN[c]? = some true → tL[c]? = some false → Named tT tN tL c "NoNumber"
  | pla : tT[c]? = some false → tN[c]? = some false → tL[c]? = some true → Named tT tN tL c "NoPlace"
structure Known (xs : List Nat) (tO tV : List Bool) (c : Nat) : Prop where
  has : xs.contains c = true
  oth : tO[c]? = some false
  val : tV[c]? = some true
structure K09Fs (fs : List Fd) (gl : List W) (pb st ip np nt sb gB xp xt sy sn fi sh gM gS xn xl si dk tk pr ta sd bt : Nat) (xs : List Nat) (tO tN tL tT tV : List Bool) : Prop extends SumX fs gl pb st ip np nt sb gB xp xt where
  fsy : fs[sy]? = some ⟨3, 4, b_sums_by sb⟩
  fsn : fs[sn]? = some ⟨3, 3, b_sum_number_v1 np nt sb gM xn⟩
  ffi : fs[fi]? = some ⟨3, 3, b_first_sums_v1 np nt sy gS xn⟩
  fsh : fs[sh]? = some ⟨5, 7, b_sums_behind_v1 np pb xl⟩
  hgM : gl[gM]? = some (.int 10000)
  hgS : gl[gS]? = some (.int 100)
  fsi : fs[si]? = some ⟨2, 3, b_law_stir⟩
  fdk : fs[dk]? = some ⟨1, 1, b_law_deck si⟩
  ftk : fs[tk]? = some ⟨2, 3, b_law_take⟩
  fpr : fs[pr]? = some ⟨2, 4, b_law_prime tk⟩
  fta : fs[ta]? = some ⟨2, 6, b_law_table pr tk⟩
  fsd : fs[sd]? = some ⟨4, 7, b_law_said fi sn sh xs tO tN tL tT tV⟩
  fbt : fs[bt]? = some ⟨3, 6, b_law_bad_tables tk⟩
  kt : Known xs tO tV xt
  kn : Known xs tO tV xn
  kl : Known xs tO tV xl
  nt_ : Named tT tN tL xt "NoTable"
  nn_ : Named tT tN tL xn "NoNumber"
  nl_ : Named tT tN tL xl "NoPlace"
section
variable {cs : Nat → List W → Sto → CR} {fs : List Fd} {gl : List W} {N k f c : Nat} {m : Sto} {en : En} {fi sn sh sd : Nat} {xs : List Nat} {tO tN tL tT tV : List Bool} {w : W} {j p : Int}
theorem body_0 {r : CR} {x : Option Sl} (h : cs sn [w, .int j, .int p] m = r) (hr : r = .ex c m ∨ ∃ z, r = .ok z m) : (r = .ex c m → sv cs gl N (w_said fi sn sh) [some (.val (.int 0)), some (.val w), some (.val (.int j)), some (.val (.int p)), x, none, none] m = .ex c [some (.val (.int 0)), some (.val w), some (.val (.int j)), some (.val (.int p)), x, none, none] m) ∧
    ((∃ z, r = .ok z m) → sv cs gl N (w_said fi sn sh) [some (.val (.int 0)), some (.val w), some (.val (.int j)), some (.val (.int p)), x, none, none] m = .ok .nx [some (.val (.int 0)), some (.val w), some (.val (.int j)), some (.val (.int p)), x, none, none] m) := by
  refine ⟨fun e => ?_, fun ⟨z, e⟩ => ?_⟩ <;> subst e <;> unfold w_said
  · simp only [sv_seq, sv_iff, ev_cmp, ev_var, ev_int, enGet_0, enGet_s, bnd_ok, hold_val, eq_ints, decide_true, optp_some, blR_bl, if_true, sv_ex, ev_call, evs_cons, evs_nil, esc_val, opt2p_some, List.length_cons, List.length_nil, Nat.zero_add, Nat.reduceAdd, h, toR_ex, bnd_ex, thn_ex]
  · simp only [sv_seq, sv_iff, ev_cmp, ev_var, ev_int, enGet_0, enGet_s, bnd_ok, hold_val, eq_ints, decide_true, optp_some, blR_bl, if_true, sv_ex, ev_call, evs_cons, evs_nil, esc_val, opt2p_some, List.length_cons, List.length_nil, Nat.zero_add, Nat.reduceAdd, h, toR_ok, thn_nx, sv_skip]
theorem body_1 {r : CR} {x : Option Sl} (h : cs fi [w, .int j, .int p] m = r) : (r = .ex c m → sv cs gl N (w_said fi sn sh) [some (.val (.int 1)), some (.val w), some (.val (.int j)), some (.val (.int p)), x, none, none] m = .ex c [some (.val (.int 1)), some (.val w), some (.val (.int j)), some (.val (.int p)), x, none, none] m) ∧
    ((∃ z, r = .ok z m) → sv cs gl N (w_said fi sn sh) [some (.val (.int 1)), some (.val w), some (.val (.int j)), some (.val (.int p)), x, none, none] m = .ok .nx [some (.val (.int 1)), some (.val w), some (.val (.int j)), some (.val (.int p)), x, none, none] m) := by
  have d : decide ((1 : Int) = 0) = false := rfl
  refine ⟨fun e => ?_, fun ⟨z, e⟩ => ?_⟩ <;> subst e <;> unfold w_said
  · simp only [sv_seq, sv_iff, ev_cmp, ev_var, ev_int, enGet_0, enGet_s, bnd_ok, hold_val, eq_ints, d, Bool.false_eq_true, if_false, decide_true, optp_some, blR_bl, if_true, sv_ex, ev_call, evs_cons, evs_nil, esc_val, opt2p_some, List.length_cons, List.length_nil, Nat.zero_add, Nat.reduceAdd, h, toR_ex, bnd_ex, thn_ex]
  · simp only [sv_seq, sv_iff, ev_cmp, ev_var, ev_int, enGet_0, enGet_s, bnd_ok, hold_val, eq_ints, d, Bool.false_eq_true, if_false, decide_true, optp_some, blR_bl, if_true, sv_ex, ev_call, evs_cons, evs_nil, esc_val, opt2p_some, List.length_cons, List.length_nil, Nat.zero_add, Nat.reduceAdd, h, toR_ok, thn_nx, sv_skip]
theorem body_2 {r : CR} {x : Option Sl} (h : cs sh [w, .int j, .int 1, .int 2, .int p] m = r) : (r = .ex c m → sv cs gl N (w_said fi sn sh) [some (.val (.int 2)), some (.val w), some (.val (.int j)), some (.val (.int p)), x, none, none] m = .ex c [some (.val (.int 2)), some (.val w), some (.val (.int j)), some (.val (.int p)), x, none, none] m) ∧
    ((∃ z, r = .ok z m) → sv cs gl N (w_said fi sn sh) [some (.val (.int 2)), some (.val w), some (.val (.int j)), some (.val (.int p)), x, none, none] m = .ok .nx [some (.val (.int 2)), some (.val w), some (.val (.int j)), some (.val (.int p)), x, none, none] m) := by
  have d : decide ((2 : Int) = 0) = false := rfl
  have d2 : decide ((2 : Int) = 1) = false := rfl
  refine ⟨fun e => ?_, fun ⟨z, e⟩ => ?_⟩ <;> subst e <;> unfold w_said
  · simp only [sv_seq, sv_iff, ev_cmp, ev_var, ev_int, enGet_0, enGet_s, bnd_ok, hold_val, eq_ints, d, d2, Bool.false_eq_true, if_false, optp_some, blR_bl, sv_ex, ev_call, evs_cons, evs_nil, esc_val, opt2p_some, List.length_cons, List.length_nil, Nat.zero_add, Nat.reduceAdd, if_true, h, toR_ex, bnd_ex, thn_ex]
  · simp only [sv_seq, sv_iff, ev_cmp, ev_var, ev_int, enGet_0, enGet_s, bnd_ok, hold_val, eq_ints, d, d2, Bool.false_eq_true, if_false, optp_some, blR_bl, sv_ex, ev_call, evs_cons, evs_nil, esc_val, opt2p_some, List.length_cons, List.length_nil, Nat.zero_add, Nat.reduceAdd, if_true, h, toR_ok, thn_nx, sv_skip]
theorem said_ex {way : Int} {nm : Str} (hf : fs[sd]? = some ⟨4, 7, b_law_said fi sn sh xs tO tN tL tT tV⟩) (K : Known xs tO tV c) (hn : Named tT tN tL c nm)
    (hb : sv (callN fs gl N k) gl N (w_said fi sn sh) [some (.val (.int way)), some (.val w), some (.val (.int j)), some (.val (.int p)), some (.val .non), none, none] m = .ex c [some (.val (.int way)), some (.val w), some (.val (.int j)), some (.val (.int p)), some (.val .non), none, none] m) :
    callN fs gl N (k + 1) sd [.int way, w, .int j, .int p] m = .ok (.val (.str nm)) m := by
  rw [call_at hf rfl]
  have b2 : sv (callN fs gl N k) gl N (.seq (.asg 4 (.var 5)) .skip) [some (.val (.int way)), some (.val w), some (.val (.int j)), some (.val (.int p)), some (.val .non), some (.val (.exc c)), none] m = .ok .nx [some (.val (.int way)), some (.val w), some (.val (.int j)), some (.val (.int p)), some (.val (.exc c)), some (.val (.exc c)), none] m := by
    simp only [sv_seq, sv_asg, ev_var, enGet_0, enGet_s, bnd_ok, slOf_val, opt2p_some, List.set_cons_succ, List.set_cons_zero, thn_nx, sv_skip]
  have b3 := try_ex (j := 5) hb K.has b2
  have t1 : sv (callN fs gl N k) gl N (.asg 4 .non) [some (.val (.int way)), some (.val w), some (.val (.int j)), some (.val (.int p)), none, none, none] m = .ok .nx [some (.val (.int way)), some (.val w), some (.val (.int j)), some (.val (.int p)), some (.val .non), none, none] m := by
    simp only [sv_asg, ev_non, bnd_ok, slOf_val, opt2p_some, List.set_cons_succ, List.set_cons_zero]
  have isn : ∀ en, cmpR .is en m (.val (.exc c)) (.val .non) = some false := fun en => rfl
  have l3 : (3 : Nat) ≤ LIM := by decide
  have dn : decide ((1 : Int) ≠ 1) = false := rfl
  have q : b_law_said fi sn sh xs tO tN tL tT tV = (.seq (.asg 4 .non)
  (.seq (.tryx (w_said fi sn sh) xs 5 (.seq (.asg 4 (.var 5))
  .skip))
  (.seq (.iff (.cmp .is (.var 4) .non) (.seq (.ret (.str "told"))
  .skip) .skip)
  (.seq (.iff (.isx (.var 4) tO) (.seq (.ret (.str "other"))
  .skip) .skip)
  (.seq (.asg 6 (.lst (.cons (.isx (.var 4) tT) (.cons (.isx (.var 4) tN) (.cons (.isx (.var 4) tL) .nil)))))
  (.seq (.iff (.or (.cons (.not (.isx (.var 4) tV)) (.cons (.cmp .ne (.mth .count (.var 6) (.cons (.bl true) .nil)) (.int 1)) .nil))) (.seq (.ret (.str "other"))
  .skip) .skip)
  (.seq (.ret (.idx (.lst (.cons (.str "NoTable") (.cons (.str "NoNumber") (.cons (.str "NoPlace") .nil)))) (.mth .index (.var 6) (.cons (.bl true) .nil))))
  .skip))))))) := rfl
  rw [q]
  change endR (sv (callN fs gl N k) gl N _ [some (.val (.int way)), some (.val w), some (.val (.int j)), some (.val (.int p)), none, none, none] m) = _
  rw [sv_seq, t1, thn_nx, sv_seq, b3, thn_nx]
  -- what is counted
  have fin : ∀ (a1 a2 a3 : Bool) (z : Nat) (nm : Str), tT[c]? = some a1 → tN[c]? = some a2 → tL[c]? = some a3 → countW m (.lst [.bl a1, .bl a2, .bl a3]) [.bl true] = some (1, z, 3) → z < 3 → atI [W.str "NoTable", .str "NoNumber", .str "NoPlace"] (z : Int) = some (.str nm) →
      endR (sv (callN fs gl N k) gl N (.seq (.iff (.cmp .is (.var 4) .non) (.seq (.ret (.str "told"))
  .skip) .skip)
  (.seq (.iff (.isx (.var 4) tO) (.seq (.ret (.str "other"))
  .skip) .skip)
  (.seq (.asg 6 (.lst (.cons (.isx (.var 4) tT) (.cons (.isx (.var 4) tN) (.cons (.isx (.var 4) tL) .nil)))))
  (.seq (.iff (.or (.cons (.not (.isx (.var 4) tV)) (.cons (.cmp .ne (.mth .count (.var 6) (.cons (.bl true) .nil)) (.int 1)) .nil))) (.seq (.ret (.str "other"))
  .skip) .skip)
  (.seq (.ret (.idx (.lst (.cons (.str "NoTable") (.cons (.str "NoNumber") (.cons (.str "NoPlace") .nil)))) (.mth .index (.var 6) (.cons (.bl true) .nil))))
  .skip))))) [some (.val (.int way)), some (.val w), some (.val (.int j)), some (.val (.int p)), some (.val (.exc c)), none, none] m) = .ok (.val (.str nm)) m := fun a1 a2 a3 z nm h1 h2 h3 hc hz ha => by
    have c1 : ∀ s0 s1 s2 s3 s4 s5, (rvW [s0, s1, s2, s3, s4, s5, some (.own [W.bl a1, .bl a2, .bl a3])] (.bor 6)).bind (fun w => countW m w [.bl true]) = some (1, z, 3) := fun _ _ _ _ _ _ => hc
    have c2 : ∀ s0 s1 s2 s3 s4 s5, rvL [s0, s1, s2, s3, s4, s5, some (.own [W.bl a1, .bl a2, .bl a3])] m (.bor 6) = some [.bl a1, .bl a2, .bl a3] := fun _ _ _ _ _ _ => rfl
    have one : ((1 : Nat) : Int) = 1 := rfl
    simp only [sv_seq, sv_iff, ev_cmp, ev_var, ev_non, enGet_0, enGet_s, bnd_ok, hold_val, isn, optp_some, blR_bl, Bool.false_eq_true, if_false, sv_skip, thn_nx, ev_isx, rvW_val, Option.bind_some, exc_tab K.oth, sv_asg, ev_lst, evs_cons, evs_nil, exc_tab h1, exc_tab h2, exc_tab h3, esc_val, opt2p_some, List.length_cons, List.length_nil, Nat.zero_add, Nat.reduceAdd, l3, if_true, slOf_new, List.set_cons_succ, List.set_cons_zero,
      ev_or, evOr_2, evOr_1, ev_not, exc_tab K.val, Bool.not_true, ev_cnt, hold_bor, c2, ev_bl, c1, one, ev_int, ne_ints, dn, sv_ret, ev_idx, ev_str, hold_new, ev_ixo, hz, idx_lst, ha, retR_val, thn_rt, end_rt]
  cases hn with
  | tab h1 h2 h3 => exact fin _ _ _ 0 _ h1 h2 h3 rfl (by decide) at_0
  | num h1 h2 h3 => exact fin _ _ _ 1 _ h1 h2 h3 rfl (by decide) at_1
  | pla h1 h2 h3 => exact fin _ _ _ 2 _ h1 h2 h3 rfl (by decide) at_2
theorem said_ok {way : Int} (hf : fs[sd]? = some ⟨4, 7, b_law_said fi sn sh xs tO tN tL tT tV⟩)
    (hb : sv (callN fs gl N k) gl N (w_said fi sn sh) [some (.val (.int way)), some (.val w), some (.val (.int j)), some (.val (.int p)), some (.val .non), none, none] m = .ok .nx [some (.val (.int way)), some (.val w), some (.val (.int j)), some (.val (.int p)), some (.val .non), none, none] m) :
    callN fs gl N (k + 1) sd [.int way, w, .int j, .int p] m = .ok (.val (.str "told")) m := by
  rw [call_at hf rfl]
  have b3 := try_ok (s := .seq (.asg 4 (.var 5)) .skip) (cl := xs) (j := 5) hb
  have isn : ∀ en, cmpR .is en m (.val .non) (.val .non) = some true := fun en => rfl
  change endR (sv (callN fs gl N k) gl N (b_law_said fi sn sh xs tO tN tL tT tV) [some (.val (.int way)), some (.val w), some (.val (.int j)), some (.val (.int p)), none, none, none] m) = _
  unfold b_law_said
  unfold w_said at b3
  simp only [sv_seq, sv_asg, ev_non, bnd_ok, slOf_val, opt2p_some, List.set_cons_succ, List.set_cons_zero, thn_nx]
  rw [b3]
  simp only [thn_nx, sv_seq, sv_iff, ev_cmp, ev_var, ev_non, enGet_0, enGet_s, bnd_ok, hold_val, isn, optp_some, blR_bl, if_true, sv_ret, ev_str, retR_val, thn_rt, end_rt]
end
section
variable {fs : List Fd} {gl : List W} {N k : Nat} {m : Sto} {pb st ip np nt sb gB xp xt sy sn fi sh gM gS xn xl si dk tk pr ta sd bt : Nat} {xs : List Nat} {tO tN tL tT tV : List Bool} {tb : List Int} {j p : Int}
theorem said_T0 (F : K09Fs fs gl pb st ip np nt sb gB xp xt sy sn fi sh gM gS xn xl si dk tk pr ta sd bt xs tO tN tL tT tV) (hp : p ∈ PRS) (h : BadT p tb) (hl : tb.length ≤ LIM) (hN : 100 ≤ N) : callN fs gl N (k + 6) sd [.int 0, .lst (tb.map W.int), .int j, .int p] m = .ok (.val (.str "NoTable")) m :=
  said_ex (k := k + 5) F.fsd F.kt F.nt_ ((body_0 (sum_number_noT F.toSumX F.fsn hp h hl hN) (.inl rfl)).1 rfl)
theorem said_T1 (F : K09Fs fs gl pb st ip np nt sb gB xp xt sy sn fi sh gM gS xn xl si dk tk pr ta sd bt xs tO tN tL tT tV) (hp : p ∈ PRS) (h : BadT p tb) (hl : tb.length ≤ LIM) (hN : 100 ≤ N) : callN fs gl N (k + 6) sd [.int 1, .lst (tb.map W.int), .int j, .int p] m = .ok (.val (.str "NoTable")) m :=
  said_ex (k := k + 5) F.fsd F.kt F.nt_ ((body_1 (first_sums_noT F.toSumX F.ffi hp h hl hN)).1 rfl)
theorem said_N0 (F : K09Fs fs gl pb st ip np nt sb gB xp xt sy sn fi sh gM gS xn xl si dk tk pr ta sd bt xs tO tN tL tT tV) {most : Int} (A : TableOk most p tb) (hm : most ≤ 1000) (hj : ¬ (0 ≤ j ∧ j ≤ 10000)) (hN : 100 ≤ N) : callN fs gl N (k + 6) sd [.int 0, .lst (tb.map W.int), .int j, .int p] m = .ok (.val (.str "NoNumber")) m :=
  said_ex (k := k + 5) F.fsd F.kn F.nn_ ((body_0 (sum_number_noN F.toSumX F.fsn F.hgM A.prime A.one A.few A.worth (by have := A.most; unfold LIM; omega) hj hN) (.inl rfl)).1 rfl)
theorem said_N1 (F : K09Fs fs gl pb st ip np nt sb gB xp xt sy sn fi sh gM gS xn xl si dk tk pr ta sd bt xs tO tN tL tT tV) {most : Int} (A : TableOk most p tb) (hm : most ≤ 1000) (hj : ¬ (0 ≤ j ∧ j ≤ 100)) (hN : 100 ≤ N) : callN fs gl N (k + 6) sd [.int 1, .lst (tb.map W.int), .int j, .int p] m = .ok (.val (.str "NoNumber")) m :=
  said_ex (k := k + 5) F.fsd F.kn F.nn_ ((body_1 (first_sums_noN F.toSumX F.ffi F.hgS A.prime A.one A.few A.worth (by have := A.most; unfold LIM; omega) hj hN)).1 rfl)
theorem said_g0 (F : K09Fs fs gl pb st ip np nt sb gB xp xt sy sn fi sh gM gS xn xl si dk tk pr ta sd bt xs tO tN tL tT tV) {most : Int} (A : TableOk most p tb) (hm : most ≤ 1000) (h0 : 0 ≤ j) (h1 : j ≤ 10000) (hN : 100 ≤ N) : callN fs gl N (k + 6) sd [.int 0, .lst (tb.map W.int), .int j, .int p] m = .ok (.val (.str "told")) m :=
  said_ok (k := k + 5) F.fsd ((body_0 (c := 0) (call_up (sum_number_run F.toSumX.un (un_at F.fsn) F.hgM A hm h0 h1 hN)) (.inr ⟨_, rfl⟩)).2 ⟨_, rfl⟩)
theorem said_g1 (F : K09Fs fs gl pb st ip np nt sb gB xp xt sy sn fi sh gM gS xn xl si dk tk pr ta sd bt xs tO tN tL tT tV) {most : Int} (A : TableOk most p tb) (hm : most ≤ 1000) (h0 : 0 ≤ j) (h1 : j ≤ 100) (hN : 100 ≤ N) : callN fs gl N (k + 6) sd [.int 1, .lst (tb.map W.int), .int j, .int p] m = .ok (.val (.str "told")) m :=
  said_ok (k := k + 5) F.fsd ((body_1 (c := 0) (call_up (first_sums_run F.toSumX.un (un_at F.fsy) (un_at F.ffi) F.hgS A hm h0 h1 hN))).2 ⟨_, rfl⟩)
theorem said_P (F : K09Fs fs gl pb st ip np nt sb gB xp xt sy sn fi sh gM gS xn xl si dk tk pr ta sd bt xs tO tN tL tT tV) {w : W} (hp : p ∈ PRS) (h : ¬ (0 ≤ j ∧ j < p - 1)) (hN : 100 ≤ N) : callN fs gl N (k + 6) sd [.int 2, w, .int j, .int p] m = .ok (.val (.str "NoPlace")) m :=
  said_ex (k := k + 5) F.fsd F.kl F.nl_ ((body_2 (behind_no F.toPrimeX F.fsh hp h hN)).1 rfl)
theorem said_p (F : K09Fs fs gl pb st ip np nt sb gB xp xt sy sn fi sh gM gS xn xl si dk tk pr ta sd bt xs tO tN tL tT tV) (hp : p ∈ PRS) (h0 : 0 ≤ j) (h1 : j < p - 1) (hl : tb.length ≤ 1000) (hN : 100 ≤ N) : callN fs gl N (k + 6) sd [.int 2, .lst (tb.map W.int), .int j, .int p] m = .ok (.val (.str "told")) m :=
  said_ok (k := k + 5) F.fsd ((body_2 (c := 0) (call_up (behind_run F.toPrimeX.un (un_at F.fsh) hp h0 h1 hl hN))).2 ⟨_, rfl⟩)
end
end Mp

set_option Elab.async false
set_option linter.all false
set_option maxRecDepth 100000
set_option maxHeartbeats 4000000
namespace Mp
open PySem PySem.Spec PyProof.Rows L2
def w_09a (sd : Nat) : S := (.seq (.iff (.cmp .ne (.call sd 4 (.cons (.var 7) (.cons (.var 8) (.cons (.var 9) (.cons (.var 3) .nil))))) (.str "NoTable")) (.seq (.ret (.bl false))
  .skip) .skip)
  .skip)
def w_09b (sd : Nat) : S := (.seq (.for_ .list (.cons (.bin .add (.lst (.cons (.int 0) (.cons (.int 3) .nil))) (.idx (.var 6) (.var 7))) .nil) (.one 9) (w_09a sd))
  .skip)
def w_09c (bt sd : Nat) : S := (.seq (.for_ .list (.cons (.call bt 3 (.cons (.var 2) (.cons (.var 3) (.cons (.var 4) .nil)))) .nil) (.one 8) (w_09b sd))
  (.seq (.iff (.cmp .ne (.comp .list (.cons (.idx (.var 6) (.var 7)) .nil) (.one 9) [9] (.cmp .ne (.call sd 4 (.cons (.var 7) (.cons (.var 4) (.cons (.var 9) (.cons (.var 3) .nil))))) (.str "NoNumber")) (.var 9)) (.lst .nil)) (.seq (.ret (.bl false))
  .skip) .skip)
  (.seq (.iff (.or (.cons (.cmp .ne (.call sd 4 (.cons (.var 7) (.cons (.var 4) (.cons (.int 0) (.cons (.var 3) .nil))))) (.str "told")) (.cons (.cmp .ne (.call sd 4 (.cons (.var 7) (.cons (.var 4) (.cons (.idx (.lst (.cons (.int 10000) (.cons (.int 100) .nil))) (.var 7)) (.cons (.var 3) .nil))))) (.str "told")) .nil))) (.seq (.ret (.bl false))
  .skip) .skip)
  .skip)))
def w_09d (sd : Nat) : S := (.seq (.iff (.or (.cons (.cmp .ne (.call sd 4 (.cons (.int 2) (.cons (.lst (.cons (.int 0) (.cons (.int 1) .nil))) (.cons (.var 10) (.cons (.var 3) .nil))))) (.str "NoPlace")) (.cons (.cmp .ne (.call sd 4 (.cons (.int 2) (.cons (.lst .nil) (.cons (.var 10) (.cons (.var 3) .nil))))) (.str "NoPlace")) .nil))) (.seq (.ret (.bl false))
  .skip) .skip)
  .skip)
def w_09 (bt dk sd ta tk : Nat) : S := (.seq (.asg 2 (.box (.call dk 1 (.cons (.var 1) .nil))))
  (.seq (.unp (.many [3, 4]) (.call ta 2 (.cons (.var 2) (.cons (.int 12) .nil))))
  (.seq (.asg 5 (.call tk 2 (.cons (.var 2) (.cons (.idx (.lst (.cons (.int 1) (.cons (.int 50) (.cons (.bin .pow (.int 10) (.int 50)) .nil)))) (.call tk 2 (.cons (.var 2) (.cons (.int 3) .nil)))) .nil))))
  (.seq (.asg 6 (.lst (.cons (.lst (.cons (.bin .sub (.neg (.int 1)) (.var 5)) (.cons (.bin .add (.int 10001) (.var 5)) .nil))) (.cons (.lst (.cons (.bin .sub (.neg (.int 1)) (.var 5)) (.cons (.bin .add (.int 101) (.var 5)) .nil))) .nil))))
  (.seq (.for_ .rng1 (.cons (.int 2) .nil) (.one 7) (w_09c bt sd))
  (.seq (.for_ .list (.cons (.lst (.cons (.bin .sub (.neg (.int 1)) (.var 5)) (.cons (.bin .sub (.var 3) (.int 1)) (.cons (.var 3) (.cons (.bin .add (.var 3) (.var 5)) .nil))))) .nil) (.one 10) (w_09d sd))
  (.seq (.iff (.or (.cons (.cmp .ne (.call sd 4 (.cons (.int 2) (.cons (.lst (.cons (.int 0) (.cons (.int 1) .nil))) (.cons (.bin .sub (.var 3) (.int 2)) (.cons (.var 3) .nil))))) (.str "told")) (.cons (.cmp .ne (.call sd 4 (.cons (.int 2) (.cons (.lst (.cons (.int 0) (.cons (.int 1) .nil))) (.cons (.int 0) (.cons (.var 3) .nil))))) (.str "told")) .nil))) (.seq (.ret (.bl false))
  .skip) .skip)
  .skip)))))))
section
variable {cs : Nat → List W → Sto → CR} {fs : List Fd} {gl : List W} {N k f : Nat} {m M : Sto} {en : En}
theorem repE {w : W} {n : Nat} (hn : n ≤ 1000) : binR .mul en m (.val (.lst [w])) (.val (.int (n : Int))) = some (.new (List.replicate n w)) := by
  show (match lstW m (.lst [w]) with
    | some ws => if (n : Int) ≤ 100000 ∧ -(2 ^ 60) < (n : Int) ∧ ws.length * (n : Int).toNat ≤ LIM then some (RV.new (List.replicate (n : Int).toNat ws).flatten) else none
    | none => none) = _
  have l : [w].length * (n : Int).toNat ≤ LIM := by unfold LIM; simp; omega
  simp only [lstW_lst, Int.toNat_natCast] at l ⊢
  rw [if_pos ⟨by omega, by omega, l⟩]
  congr 2
  induction n with
  | zero => rfl
  | succ n ih =>
    rw [List.replicate_succ, List.replicate_succ, List.flatten_cons, ih (by omega) (by unfold LIM; simp; omega)]
    rfl
/-- tables that are none -/
theorem bad_run {bt tk r : Nat} {d p most : Int} {tb : List Int} {a0 : Ob} (hf : fs[bt]? = some ⟨3, 6, b_law_bad_tables tk⟩) (hc : fs[tk]? = some ⟨2, 3, b_law_take⟩) (hm : M[r]? = some a0) (A : TableOk most p tb) (hmo : most ≤ 1000) :
    ∃ (L : List (List Int)) (d2 : Int), callN fs gl N (k + 2) bt [.ref r, .int p, .lst (tb.map W.int)] (M.set r (.lst [.int d])) = .ok (.new (L.map rowW)) (M.set r (.lst [.int d2])) ∧ ∀ x ∈ L, BadT p x ∧ x.length ≤ 1000 := by
  rw [call_at hf rfl]
  have hp := prs_lim p A.prime
  have one := A.one
  have hlm := A.most
  have hl0 : (0 : Int) < (tb.length : Int) := by omega
  have tk_ : ∀ (d n : Int), 0 < n → n ≤ 10 ^ 200 → callN fs gl N (k + 1) tk [.ref r, .int n] (M.set r (.lst [.int d])) = .ok (.val (.int (d % n))) (M.set r (.lst [.int (d / n)])) := fun d n h0 h1 => take_set (k := k) hc hm h0 h1
  have t1 := tk_ d (tb.length : Int) hl0 (by omega)
  obtain ⟨a, ha, hal⟩ : ∃ a : Nat, d % (tb.length : Int) = (a : Int) ∧ a < tb.length := by
    have q0 := Int.emod_nonneg d (show (tb.length : Int) ≠ 0 by omega)
    have q1 := Int.emod_lt_of_pos d hl0
    exact ⟨(d % (tb.length : Int)).toNat, by rw [Int.toNat_of_nonneg q0], by omega⟩
  rw [ha] at t1
  obtain ⟨d1, hd1⟩ : ∃ d1, d / (tb.length : Int) = d1 := ⟨_, rfl⟩
  rw [hd1] at t1
  have t2 := tk_ d1 3 (by decide) (by decide)
  obtain ⟨n, hn, n0⟩ := at3_of (a := 1) (b := 9) (c := 10 ^ 50) d1
  have n1 : 0 < n ∧ n ≤ 10 ^ 200 := by rcases n0 with rfl | rfl | rfl <;> exact ⟨by decide, by decide⟩
  obtain ⟨d3, hd3⟩ : ∃ d3, d1 / 3 = d3 := ⟨_, rfl⟩
  rw [hd3] at t2
  have t3 := tk_ d3 n n1.1 n1.2
  have fz := Int.emod_nonneg d3 (show n ≠ 0 by omega)
  obtain ⟨far, hfar⟩ : ∃ far, d3 % n = far := ⟨_, rfl⟩
  obtain ⟨d4, hd4⟩ : ∃ d4, d3 / n = d4 := ⟨_, rfl⟩
  rw [hfar] at fz
  rw [hfar, hd4] at t3
  have p50 : ∀ en m, binR .pow en m (.val (.int 10)) (.val (.int 50)) = some (.val (.int (10 ^ 50))) := fun en m => cmp_pow (by decide) rfl
  have l1 : (1 : Nat) ≤ LIM := by decide
  have l2 : (2 : Nat) ≤ LIM := by decide
  have l3 : (3 : Nat) ≤ LIM := by decide
  have l0 : (0 : Nat) ≤ LIM := by decide
  have ll : ∀ m, bltR .len m [.lst (tb.map W.int)] = some (.val (.int (tb.length : Int))) := fun m => by rw [len_lst, List.length_map]
  have c1 : cutL (tb.map W.int) none (some (a : Int)) = (tb.take a).map W.int := by rw [cut_take (by rw [List.length_map]; omega), List.map_take]
  have c2 : cutL (tb.map W.int) (some ((a : Int) + 1)) none = (tb.drop (a + 1)).map W.int := by
    have := cut_drop (ws := tb.map W.int) (n := a + 1) (by rw [List.length_map]; omega)
    rw [← List.map_drop] at this
    exact this
  obtain ⟨r1, hr1⟩ : ∃ r1 : Int → List Int, ∀ x, tb.take a ++ [x] ++ tb.drop (a + 1) = r1 x := ⟨_, fun _ => rfl⟩
  have lr : ∀ x, (r1 x).length ≤ 1000 := fun x => by rw [← hr1]; simp; omega
  have mr : ∀ x, x ∈ r1 x := fun x => by rw [← hr1]; simp
  have ad : ∀ (x : Int) (m : Sto) (en : En), binR .add en m (.val (.lst ((tb.take a).map W.int))) (.val (.lst [W.int x])) = some (.new ((tb.take a ++ [x]).map W.int)) := fun x m en => by
    rw [add_lsts (by simp; unfold LIM; omega), List.map_append]; rfl
  have ad2 : ∀ (x : Int) (m : Sto) (en : En), binR .add en m (.val (.lst ((tb.take a ++ [x]).map W.int))) (.val (.lst ((tb.drop (a + 1)).map W.int))) = some (.new ((r1 x).map W.int)) := fun x m en => by
    rw [add_lsts (by simp; unfold LIM; omega), ← List.map_append, hr1]
  have b1 : sv (callN fs gl N (k + 1)) gl N (.asg 3 (.call tk 2 (.cons (.var 0) (.cons (.blt .len (.cons (.var 2) .nil)) .nil)))) [some (.val (.ref r)), some (.val (.int p)), some (.val (.lst (tb.map W.int))), none, none, none] (M.set r (.lst [.int d])) = .ok .nx [some (.val (.ref r)), some (.val (.int p)), some (.val (.lst (tb.map W.int))), some (.val (.int (a : Int))), none, none] (M.set r (.lst [.int d1])) := by
    generalize tb.map W.int = T at *
    simp only [sv_asg, ev_call, evs_cons, evs_nil, ev_var, ev_blt, evl_1, enGet_0, enGet_s, bnd_ok, rvW_val, ll, optp_some, esc_val, opt2p_some, List.length_cons, List.length_nil, Nat.zero_add, Nat.reduceAdd, if_true, t1, toR_ok, slOf_val, List.set_cons_succ, List.set_cons_zero]
  have b2 : sv (callN fs gl N (k + 1)) gl N (.asg 4 (.call tk 2 (.cons (.var 0) (.cons (.idx (.lst (.cons (.int 1) (.cons (.int 9) (.cons (.bin .pow (.int 10) (.int 50)) .nil)))) (.call tk 2 (.cons (.var 0) (.cons (.int 3) .nil)))) .nil)))) [some (.val (.ref r)), some (.val (.int p)), some (.val (.lst (tb.map W.int))), some (.val (.int (a : Int))), none, none] (M.set r (.lst [.int d1])) = .ok .nx [some (.val (.ref r)), some (.val (.int p)), some (.val (.lst (tb.map W.int))), some (.val (.int (a : Int))), some (.val (.int far)), none] (M.set r (.lst [.int d4])) := by
    generalize tb.map W.int = T at *
    simp only [sv_asg, ev_call, ev_idx, ev_lst, ev_bin, evs_cons, evs_nil, ev_var, ev_int, enGet_0, enGet_s, bnd_ok, hold_val, hold_new, p50, optp_some, esc_val, opt2p_some, List.length_cons, List.length_nil, Nat.zero_add, Nat.reduceAdd, l3, if_true, t2, toR_ok, idx_lst, hn, t3, slOf_val, List.set_cons_succ, List.set_cons_zero]
  have n1_ : isNil (.var 3) = false := rfl
  have n2_ : isNil (.bin .add (.var 3) (.int 1)) = false := rfl
  have n3_ : isNil .nil = true := rfl
  have b3 : sv (callN fs gl N (k + 1)) gl N (.asg 5 (.lst (.cons (.lst .nil) (.cons (.bin .add (.bin .add (.slc (.var 2) .nil (.var 3)) (.lst (.cons (.bin .sub (.neg (.int 1)) (.var 4)) .nil))) (.slc (.var 2) (.bin .add (.var 3) (.int 1)) .nil)) (.cons (.bin .add (.bin .add (.slc (.var 2) .nil (.var 3)) (.lst (.cons (.bin .add (.var 1) (.var 4)) .nil))) (.slc (.var 2) (.bin .add (.var 3) (.int 1)) .nil)) .nil))))) [some (.val (.ref r)), some (.val (.int p)), some (.val (.lst (tb.map W.int))), some (.val (.int (a : Int))), some (.val (.int far)), none] (M.set r (.lst [.int d4])) =
      .ok .nx [some (.val (.ref r)), some (.val (.int p)), some (.val (.lst (tb.map W.int))), some (.val (.int (a : Int))), some (.val (.int far)), some (.own [.lst [], .lst ((r1 (-1 - far)).map W.int), .lst ((r1 (p + far)).map W.int)])] (M.set r (.lst [.int d4])) := by
    have ad_ := fun x => ad x (M.set r (.lst [.int d4]))
    have ad2_ := fun x => ad2 x (M.set r (.lst [.int d4]))
    simp only [sv_asg, ev_lst, slc_ev, n1_, n2_, n3_, ev_bin, ev_neg, intR_int, evs_cons, evs_nil, ev_var, ev_int, enGet_0, enGet_s, bnd_ok, if_true, Bool.false_eq_true, if_false, hold_val, hold_new, rvW_val, Option.bind_some, lstS_lst, c1, c2, add_ints, sub_ints, optp_some, esc_val, esc_new, opt2p_some, List.length_cons, List.length_nil, Nat.zero_add, Nat.reduceAdd, l0, l1, l3, ad_, ad2_, slOf_new, List.set_cons_succ, List.set_cons_zero]
  have q : b_law_bad_tables tk = (.seq (.asg 3 (.call tk 2 (.cons (.var 0) (.cons (.blt .len (.cons (.var 2) .nil)) .nil))))
  (.seq (.asg 4 (.call tk 2 (.cons (.var 0) (.cons (.idx (.lst (.cons (.int 1) (.cons (.int 9) (.cons (.bin .pow (.int 10) (.int 50)) .nil)))) (.call tk 2 (.cons (.var 0) (.cons (.int 3) .nil)))) .nil))))
  (.seq (.asg 5 (.lst (.cons (.lst .nil) (.cons (.bin .add (.bin .add (.slc (.var 2) .nil (.var 3)) (.lst (.cons (.bin .sub (.neg (.int 1)) (.var 4)) .nil))) (.slc (.var 2) (.bin .add (.var 3) (.int 1)) .nil)) (.cons (.bin .add (.bin .add (.slc (.var 2) .nil (.var 3)) (.lst (.cons (.bin .add (.var 1) (.var 4)) .nil))) (.slc (.var 2) (.bin .add (.var 3) (.int 1)) .nil)) .nil)))))
  (.seq (.iff (.cmp .lt (.var 1) (.int 38)) (.seq (.asg 5 (.bin .add (.var 5) (.lst (.cons (.bin .mul (.lst (.cons (.int 0) .nil)) (.var 1)) (.cons (.bin .mul (.lst (.cons (.int 1) .nil)) (.bin .add (.var 1) (.call tk 2 (.cons (.var 0) (.cons (.int 3) .nil))))) .nil)))))
  .skip) .skip)
  (.seq (.ret (.var 5))
  .skip))))) := rfl
  have bd1 : BadT p [] := .inl (fun z => by have := z.1; simp at this)
  have bd2 : BadT p (r1 (-1 - far)) := .inr ⟨_, mr _, fun z => by omega⟩
  have bd3 : BadT p (r1 (p + far)) := .inr ⟨_, mr _, fun z => by omega⟩
  have ret5 : ∀ (en : En) (m : Sto) (X : List W), enGet en 5 = some (.own X) → endR (sv (callN fs gl N (k + 1)) gl N (.seq (.ret (.var 5)) .skip) en m) = .ok (.new X) m := fun en m X h => by
    rw [sv_seq, sv_ret, ev_var, h]
    show endR (thn (bnd (R.ok (RV.bor 5) en m) _) _) = _
    rw [bnd_ok, retR_own h, optp_some, thn_rt, end_rt]
  by_cases hlt : p < 38
  · obtain ⟨pn, rfl⟩ : ∃ pn : Nat, p = (pn : Int) := ⟨p.toNat, by rw [Int.toNat_of_nonneg (by omega)]⟩
    have t4 := tk_ d4 3 (by decide) (by decide)
    obtain ⟨e3, he3, he3l⟩ : ∃ e3 : Nat, d4 % 3 = (e3 : Int) ∧ e3 < 3 := by
      have q0 := Int.emod_nonneg d4 (show (3 : Int) ≠ 0 by decide)
      have q1 := Int.emod_lt_of_pos d4 (show (0 : Int) < 3 by decide)
      exact ⟨(d4 % 3).toNat, by rw [Int.toNat_of_nonneg q0], by omega⟩
    rw [he3] at t4
    have rp1 : ∀ en m, binR .mul en m (.val (.lst [W.int 0])) (.val (.int (pn : Int))) = some (.new (List.replicate pn (W.int 0))) := fun en m => repE (by omega)
    have rp2 : ∀ en m, binR .mul en m (.val (.lst [W.int 1])) (.val (.int ((pn : Int) + (e3 : Int)))) = some (.new (List.replicate (pn + e3) (W.int 1))) := fun en m => by
      have := repE (en := en) (m := m) (w := W.int 1) (n := pn + e3) (by omega)
      rw [show ((pn + e3 : Nat) : Int) = (pn : Int) + (e3 : Int) by omega] at this
      exact this
    have dl : decide ((pn : Int) < 38) = true := decide_eq_true hlt
    obtain ⟨R1, hR1⟩ : ∃ R1, (r1 (-1 - far)).map W.int = R1 := ⟨_, rfl⟩
    obtain ⟨R2, hR2⟩ : ∃ R2, (r1 ((pn : Int) + far)).map W.int = R2 := ⟨_, rfl⟩
    have ad5 : ∀ (s0 s1 s2 s3 s4 : Option Sl) (m : Sto) (X Y : W), binR .add [s0, s1, s2, s3, s4, some (.own [.lst [], .lst R1, .lst R2])] m (.bor 5) (.val (.lst [X, Y])) = some (.new [.lst [], .lst R1, .lst R2, X, Y]) := fun s0 s1 s2 s3 s4 m X Y => by
      show (if ([.lst [], .lst R1, .lst R2] : List W).length + ([X, Y] : List W).length ≤ LIM then some (RV.new ([W.lst [], .lst R1, .lst R2] ++ [X, Y])) else none) = _
      rw [if_pos (by unfold LIM; simp)]; rfl
    refine ⟨[[], r1 (-1 - far), r1 ((pn : Int) + far), List.replicate pn 0, List.replicate (pn + e3) 1], d4 / 3, ?_, fun x hx => ?_⟩
    · change endR (sv (callN fs gl N (k + 1)) gl N (b_law_bad_tables tk) [some (.val (.ref r)), some (.val (.int (pn : Int))), some (.val (.lst (tb.map W.int))), none, none, none] (M.set r (.lst [.int d]))) = _
      rw [hR1, hR2] at b3
      have b4 : sv (callN fs gl N (k + 1)) gl N (.iff (.cmp .lt (.var 1) (.int 38)) (.seq (.asg 5 (.bin .add (.var 5) (.lst (.cons (.bin .mul (.lst (.cons (.int 0) .nil)) (.var 1)) (.cons (.bin .mul (.lst (.cons (.int 1) .nil)) (.bin .add (.var 1) (.call tk 2 (.cons (.var 0) (.cons (.int 3) .nil))))) .nil)))))
  .skip) .skip) [some (.val (.ref r)), some (.val (.int (pn : Int))), some (.val (.lst (tb.map W.int))), some (.val (.int (a : Int))), some (.val (.int far)), some (.own [.lst [], .lst R1, .lst R2])] (M.set r (.lst [.int d4])) =
        .ok .nx [some (.val (.ref r)), some (.val (.int (pn : Int))), some (.val (.lst (tb.map W.int))), some (.val (.int (a : Int))), some (.val (.int far)), some (.own [.lst [], .lst R1, .lst R2, .lst (List.replicate pn (W.int 0)), .lst (List.replicate (pn + e3) (W.int 1))])] (M.set r (.lst [.int (d4 / 3)])) := by
        generalize tb.map W.int = T at *
        simp only [sv_iff, ev_cmp, ev_var, ev_int, enGet_0, enGet_s, bnd_ok, hold_val, lt_ints, dl, optp_some, blR_bl, if_true, sv_seq, sv_asg, ev_bin, ev_lst, evs_cons, evs_nil, esc_val, esc_new, opt2p_some, List.length_cons, List.length_nil, Nat.zero_add, Nat.reduceAdd, l1, l2, hold_new, hold_bor, rp1, ev_call, t4, toR_ok, add_ints, rp2, ad5, slOf_new, List.set_cons_succ, List.set_cons_zero, thn_nx, sv_skip]
      rw [q, sv_seq, b1, thn_nx, sv_seq, b2, thn_nx, sv_seq, b3, thn_nx, sv_seq, b4, thn_nx, ret5 _ _ _ rfl]
      simp only [List.map_cons, List.map_nil, rowW, hR1, hR2, List.map_replicate]
    · have lp : BadT (pn : Int) (List.replicate pn 0) := .inl (fun z => by have := z.2; rw [List.length_replicate] at this; omega)
      have lp2 : BadT (pn : Int) (List.replicate (pn + e3) 1) := .inl (fun z => by have := z.2; rw [List.length_replicate] at this; omega)
      simp only [List.mem_cons, List.not_mem_nil, or_false] at hx
      rcases hx with rfl | rfl | rfl | rfl | rfl
      · exact ⟨bd1, by simp⟩
      · exact ⟨bd2, lr _⟩
      · exact ⟨bd3, lr _⟩
      · exact ⟨lp, by rw [List.length_replicate]; omega⟩
      · exact ⟨lp2, by rw [List.length_replicate]; omega⟩
  · have dl : decide (p < 38) = false := decide_eq_false hlt
    refine ⟨[[], r1 (-1 - far), r1 (p + far)], d4, ?_, fun x hx => ?_⟩
    · change endR (sv (callN fs gl N (k + 1)) gl N (b_law_bad_tables tk) [some (.val (.ref r)), some (.val (.int p)), some (.val (.lst (tb.map W.int))), none, none, none] (M.set r (.lst [.int d]))) = _
      rw [q, sv_seq, b1, thn_nx, sv_seq, b2, thn_nx, sv_seq, b3, thn_nx, sv_seq]
      simp only [sv_iff, ev_cmp, ev_var, ev_int, enGet_0, enGet_s, bnd_ok, hold_val, lt_ints, dl, optp_some, blR_bl, Bool.false_eq_true, if_false, sv_skip, thn_nx]
      rw [ret5 _ _ _ rfl]
      rfl
    · simp only [List.mem_cons, List.not_mem_nil, or_false] at hx
      rcases hx with rfl | rfl | rfl
      · exact ⟨bd1, by simp⟩
      · exact ⟨bd2, lr _⟩
      · exact ⟨bd3, lr _⟩
end
end Mp

set_option Elab.async false
set_option linter.all false
set_option maxRecDepth 100000
set_option maxHeartbeats 4000000
namespace Mp
open PySem PySem.Spec PyProof.Rows L2
section
variable {cs : Nat → List W → Sto → CR} {fs : List Fd} {gl : List W} {N k f : Nat} {m M : Sto} {en : En}
theorem comp_run9 {it : It} {src c elt : E} {tg : Tg} {js : List Nat} {ws zs rs : List W} {ck : List (Nat × List W)} {e2 en1 en2 en3 : En} {m1 m2 : Sto} (h1 : evs cs gl src en m = .ok ws e2 m1) (h2 : itemsR it m1 ws = some (zs, ck)) (h3 : zs.length ≤ LIM) (h4 : wipeE (frzE e2 js) js = en1) (h5 : cl cs gl tg js c elt ck zs en1 m1 = .ok rs en2 m2) (h6 : restE (frzE e2 js) en2 js = en3) :
    ev cs gl (.comp it src tg js c elt) en m = .ok (.new rs) en3 m2 := by
  rw [ev_comp, h1, bnd_ok, h2, opt2p_some, if_pos h3, h4, h5, bnd_ok, h6]
theorem same_str {s : Str} (h : PyData.strOk s = true) : cmpR .ne en m (.val (.str s)) (.val (.str s)) = some false := by
  rw [ne_strs h h]; simp
/-- no list of its own -/
def NOwn (s : Option Sl) : Prop := ∀ ws, s ≠ some (.own ws)
theorem NOwn.val {w : W} : NOwn (some (.val w)) := fun ws h => by cases h
theorem NOwn.none : NOwn none := fun ws h => by cases h
theorem frz9 {en : En} {j : Nat} {s : Option Sl} (h : enGet en j = s) (hs : NOwn s) : frzE en [j] = en := by
  unfold frzE frzE
  cases s with
  | none => rw [h]
  | some s => cases s with
    | val w => rw [h]
    | own ws => exact absurd rfl (hs ws)
theorem turn_a {sd : Nat} {way j p : Int} {B : W} {s0 s1 s2 s4 s5 s6 s10 : Option Sl} (h : cs sd [.int way, B, .int j, .int p] m = .ok (.val (.str "NoTable")) m) :
    sv cs gl N (w_09a sd) [s0, s1, s2, some (.val (.int p)), s4, s5, s6, some (.val (.int way)), some (.val B), some (.val (.int j)), s10] m = .ok .nx [s0, s1, s2, some (.val (.int p)), s4, s5, s6, some (.val (.int way)), some (.val B), some (.val (.int j)), s10] m := by
  have ne := fun en => same_str (en := en) (m := m) (s := "NoTable") (by decide +kernel)
  unfold w_09a
  simp only [sv_seq, sv_iff, ev_cmp, ev_call, evs_cons, evs_nil, ev_var, enGet_0, enGet_s, bnd_ok, esc_val, opt2p_some, List.length_cons, List.length_nil, Nat.zero_add, Nat.reduceAdd, if_true, h, toR_ok, ev_str, hold_val, ne, optp_some, blR_bl, Bool.false_eq_true, if_false, sv_skip, thn_nx]
theorem turn_b {sd : Nat} {way p : Int} {B : W} {ns : List Int} {NS : List W} {s0 s1 s2 s4 s5 s9 s10 : Option Sl} (hn : atI NS way = some (.lst (ns.map W.int))) (hl : ns.length ≤ 1000) (h9 : NOwn s9) (h : ∀ j : Int, cs sd [.int way, B, .int j, .int p] m = .ok (.val (.str "NoTable")) m) :
    ∃ t9, NOwn t9 ∧ sv cs gl N (w_09b sd) [s0, s1, s2, some (.val (.int p)), s4, s5, some (.own NS), some (.val (.int way)), some (.val B), s9, s10] m = .ok .nx [s0, s1, s2, some (.val (.int p)), s4, s5, some (.own NS), some (.val (.int way)), some (.val B), t9, s10] m := by
  have l2 : (2 : Nat) ≤ LIM := by decide
  have ix := idx_own (en := [s0, s1, s2, some (.val (.int p)), s4, s5, some (.own NS), some (.val (.int way)), some (.val B), s9, s10]) (m := m) (j := 6) (ws := NS) (i := way) rfl
  rw [hn] at ix
  have ad : ∀ en, binR .add en m (.val (.lst [W.int 0, W.int 3])) (.val (.lst (ns.map W.int))) = some (.new ((0 :: 3 :: ns : List Int).map W.int)) := fun en => by
    rw [add_lsts (by simp; unfold LIM; omega)]; rfl
  obtain ⟨en2, m2, h1, t9, n9, rfl, rfl⟩ := fl_each (cs := cs) (gl := gl) (N := N) (tg := .one 9) (b := w_09a sd) (zs := (0 :: 3 :: ns : List Int).map W.int)
    (fun en mm => ∃ t9, NOwn t9 ∧ mm = m ∧ en = [s0, s1, s2, some (.val (.int p)), s4, s5, some (.own NS), some (.val (.int way)), some (.val B), t9, s10]) ⟨s9, h9, rfl, rfl⟩ (fun z hz en mm hI => by
      obtain ⟨t9, n9, rfl, rfl⟩ := hI
      obtain ⟨a, _, rfl⟩ := List.mem_map.mp hz
      exact ⟨_, _, _, rfl, turn_a (h a), _, .val, rfl, rfl⟩)
  refine ⟨t9, n9, ?_⟩
  unfold w_09b
  generalize (0 :: 3 :: ns : List Int).map W.int = Z at *
  generalize ns.map W.int = Y at *
  simp only [sv_seq, sv_for, evs_cons, evs_nil, ev_bin, ev_lst, ev_int, ev_idx, ev_var, enGet_0, enGet_s, bnd_ok, esc_val, opt2p_some, List.length_cons, List.length_nil, Nat.zero_add, Nat.reduceAdd, l2, if_true, hold_new, hold_val, hold_bor, ix, optp_some, ad, esc_new, items_lst, h1, thn_nx, sv_skip]
theorem turn_c {bt sd r : Nat} {way p : Int} {T : W} {L : List (List Int)} {ns : List Int} {NS : List W} {a0 : Ob} {d d2 x : Int} {s0 s1 s5 s8 s9 s10 : Option Sl} (hn : atI NS way = some (.lst (ns.map W.int))) (hl : ns.length ≤ 1000)
    (h9 : NOwn s9) (hb : cs bt [.ref r, .int p, T] (M.set r (.lst [.int d])) = .ok (.new (L.map rowW)) (M.set r (.lst [.int d2])))
    (hT : ∀ x ∈ L, ∀ (j : Int) (m : Sto), cs sd [.int way, rowW x, .int j, .int p] m = .ok (.val (.str "NoTable")) m)
    (hN : ∀ x ∈ ns, ∀ m : Sto, cs sd [.int way, T, .int x, .int p] m = .ok (.val (.str "NoNumber")) m)
    (hx : atI [W.int 10000, W.int 100] way = some (.int x)) (h0 : ∀ m : Sto, cs sd [.int way, T, .int 0, .int p] m = .ok (.val (.str "told")) m) (h1 : ∀ m : Sto, cs sd [.int way, T, .int x, .int p] m = .ok (.val (.str "told")) m) :
    ∃ t8 t9, NOwn t9 ∧ sv cs gl N (w_09c bt sd) [s0, s1, some (.val (.ref r)), some (.val (.int p)), some (.val T), s5, some (.own NS), some (.val (.int way)), s8, s9, s10] (M.set r (.lst [.int d])) = .ok .nx [s0, s1, some (.val (.ref r)), some (.val (.int p)), some (.val T), s5, some (.own NS), some (.val (.int way)), t8, t9, s10] (M.set r (.lst [.int d2])) := by
  obtain ⟨Mb, hMb⟩ : ∃ Mb, M.set r (.lst [.int d2]) = Mb := ⟨_, rfl⟩
  rw [hMb] at hb ⊢
  generalize M.set r (.lst [.int d]) = M1 at *
  have l2 : (2 : Nat) ≤ LIM := by decide
  have l0 : (0 : Nat) ≤ LIM := by decide
  obtain ⟨en2, m2, g1, t8, t9, n9, e1, rfl⟩ := fl_each (cs := cs) (gl := gl) (N := N) (tg := .one 8) (b := w_09b sd) (zs := L.map rowW) (m := Mb)
    (fun en mm => ∃ t8 t9, NOwn t9 ∧ mm = Mb ∧ en = [s0, s1, some (.val (.ref r)), some (.val (.int p)), some (.val T), s5, some (.own NS), some (.val (.int way)), t8, t9, s10]) ⟨s8, s9, h9, rfl, rfl⟩ (fun z hz en mm hI => by
      obtain ⟨t8, t9, n9, rfl, rfl⟩ := hI
      obtain ⟨a, ha, rfl⟩ := List.mem_map.mp hz
      obtain ⟨t9, n9, q⟩ := turn_b (gl := gl) (N := N) (s0 := s0) (s1 := s1) (s2 := some (.val (.ref r))) (s4 := some (.val T)) (s5 := s5) (s9 := t9) (s10 := s10) hn hl n9 (fun j => hT a ha j mm)
      exact ⟨_, _, _, rfl, q, _, _, n9, rfl, rfl⟩)
  rw [e1] at g1
  refine ⟨t8, t9, n9, ?_⟩
  obtain ⟨e0, he0⟩ : ∃ e0 : En, [s0, s1, some (.val (.ref r)), some (.val (.int p)), some (.val T), s5, some (.own NS), some (.val (.int way)), t8, none, s10] = e0 := ⟨_, rfl⟩
  have cm := cl_map (cs := cs) (gl := gl) (m := Mb) (en := e0) (tg := .one 9) (js := [9]) (c := .cmp .ne (.call sd 4 (.cons (.var 7) (.cons (.var 4) (.cons (.var 9) (.cons (.var 3) .nil))))) (.str "NoNumber")) (elt := .var 9) (ck := []) (fun _ => false) id (zs := ns.map W.int) rfl (fun z hz => by
    obtain ⟨a, ha, rfl⟩ := List.mem_map.mp hz
    refine ⟨e0.set 9 (some (.val (.int a))), rfl, by rw [← he0]; rfl, ?_, fun h => by cases h⟩
    rw [if_neg (by simp [isNil]), ← he0]
    have h := hN a ha Mb
    have ne := fun en => same_str (en := en) (m := Mb) (s := "NoNumber") (by decide +kernel)
    simp only [List.set_cons_succ, List.set_cons_zero, ev_cmp, ev_call, evs_cons, evs_nil, ev_var, enGet_0, enGet_s, bnd_ok, esc_val, opt2p_some, List.length_cons, List.length_nil, Nat.zero_add, Nat.reduceAdd, if_true, h, toR_ok, ev_str, hold_val, ne, optp_some])
  rw [show (ns.map W.int).filter (fun _ => false) = [] by simp] at cm
  have src : evs cs gl (.cons (.idx (.var 6) (.var 7)) .nil) [s0, s1, some (.val (.ref r)), some (.val (.int p)), some (.val T), s5, some (.own NS), some (.val (.int way)), t8, t9, s10] Mb = .ok [.lst (ns.map W.int)] [s0, s1, some (.val (.ref r)), some (.val (.int p)), some (.val T), s5, some (.own NS), some (.val (.int way)), t8, t9, s10] Mb := by
    have ix := idx_own (en := [s0, s1, some (.val (.ref r)), some (.val (.int p)), some (.val T), s5, some (.own NS), some (.val (.int way)), t8, t9, s10]) (m := Mb) (j := 6) (ws := NS) (i := way) rfl
    rw [hn] at ix
    simp only [evs_cons, evs_nil, ev_idx, ev_var, enGet_0, enGet_s, bnd_ok, hold_bor, hold_val, ix, optp_some, esc_val, opt2p_some]
  have fz := frz9 (en := [s0, s1, some (.val (.ref r)), some (.val (.int p)), some (.val T), s5, some (.own NS), some (.val (.int way)), t8, t9, s10]) (j := 9) (s := t9) rfl n9
  have cc := comp_run9 (it := .list) src items_lst (by rw [List.length_map]; unfold LIM; omega) (by rw [fz]; exact he0) cm (en3 := [s0, s1, some (.val (.ref r)), some (.val (.int p)), some (.val T), s5, some (.own NS), some (.val (.int way)), t8, t9, s10]) (by rw [fz, ← he0]; rfl)
  rw [List.map_nil] at cc
  have n0 : ∀ en, cmpR .ne en Mb (.val (.lst [])) (.val (.lst [])) = some false := fun en => ne_lists (ns := []) (ms := []) rfl rfl rfl rfl
  have ne := fun en => same_str (en := en) (m := Mb) (s := "told") (by decide +kernel)
  have t0 := h0 Mb
  have t1 := h1 Mb
  generalize L.map rowW = LL at *
  unfold w_09c
  simp only [sv_seq, sv_for, evs_cons, evs_nil, ev_call, ev_var, enGet_0, enGet_s, bnd_ok, esc_val, esc_new, opt2p_some, List.length_cons, List.length_nil, Nat.zero_add, Nat.reduceAdd, if_true, hb, toR_ok, items_lst, g1, thn_nx, sv_iff, ev_cmp, cc, ev_lst, l0, hold_new, n0, optp_some, blR_bl, Bool.false_eq_true, if_false, sv_skip,
    ev_or, evOr_2, evOr_1, ev_int, t0, ev_str, hold_val, ne, ev_idx, l2, idx_lst, hx, t1]
theorem turn_d {sd : Nat} {x p : Int} {s0 s1 s2 s4 s5 s6 s7 s8 s9 : Option Sl} (h1 : cs sd [.int 2, .lst [.int 0, .int 1], .int x, .int p] m = .ok (.val (.str "NoPlace")) m) (h2 : cs sd [.int 2, .lst [], .int x, .int p] m = .ok (.val (.str "NoPlace")) m) :
    sv cs gl N (w_09d sd) [s0, s1, s2, some (.val (.int p)), s4, s5, s6, s7, s8, s9, some (.val (.int x))] m = .ok .nx [s0, s1, s2, some (.val (.int p)), s4, s5, s6, s7, s8, s9, some (.val (.int x))] m := by
  have ne := fun en => same_str (en := en) (m := m) (s := "NoPlace") (by decide +kernel)
  have l2 : (2 : Nat) ≤ LIM := by decide
  have l0 : (0 : Nat) ≤ LIM := by decide
  unfold w_09d
  simp only [sv_seq, sv_iff, ev_or, evOr_2, evOr_1, ev_cmp, ev_call, evs_cons, evs_nil, ev_lst, ev_int, ev_var, enGet_0, enGet_s, bnd_ok, esc_val, esc_new, opt2p_some, List.length_cons, List.length_nil, Nat.zero_add, Nat.reduceAdd, l2, l0, if_true, h1, h2, toR_ok, ev_str, hold_val, ne, optp_some, blR_bl, Bool.false_eq_true, if_false, sv_skip, thn_nx]
end
section
variable {fs : List Fd} {gl : List W} {N k f : Nat} {m M : Sto} {en : En} {pb st ip np nt sb gB xp xt sy sn fi sh gM gS xn xl si dk tk pr ta sd bt : Nat} {xs : List Nat} {tO tN tL tT tV : List Bool}
theorem k09_law (F : K09Fs fs gl pb st ip np nt sb gB xp xt sy sn fi sh gM gS xn xl si dk tk pr ta sd bt xs tO tN tL tT tV) (hf : fs[f]? = some ⟨1, 11, b_law_v7 bt dk sd ta tk⟩) (hN : 100 ≤ N) {ns : List Int} (hl : ns.length ≤ 63) :
    ∃ m2, callN fs gl N (k + 7) f [.scr (ns.map W.int)] m = .ok (.val (.bl true)) m2 := by
  have hf : fs[f]? = some ⟨1, 9 + 2, .seq (.for_ .list (.cons (.bin .add (.lst (.cons (.bin .pow (.int 10) (.int 18)) .nil)) (.slc (.var 0) .nil (.int 15))) .nil) (.one 1) (w_09 bt dk sd ta tk)) (.seq (.ret (.bl true)) .skip)⟩ := hf
  refine cells_run (k := k + 6) hf hl (fun tl => ∃ s2 s3 s4 s5 s6 s7 s8 s9 s10, NOwn s9 ∧ tl = [s2, s3, s4, s5, s6, s7, s8, s9, s10]) ⟨_, _, _, _, _, _, _, _, _, .none, rfl⟩ fun cell tl mm hI => ?_
  obtain ⟨s2, s3, s4, s5, s6, s7, s8, s9, s10, n9, rfl⟩ := hI
  generalize W.scr (ns.map W.int) = SC
  obtain ⟨d, h1⟩ := deck_run (k := k + 4) (gl := gl) (N := N) (m := mm) (cell := cell) F.fdk F.fsi
  have h1 : callN fs gl N (k + 6) dk [.int cell] mm = .ok (.new [.int d]) mm := h1
  have g0 : (mm ++ [.lst [.int d]])[mm.length]? = some (.lst [.int d]) := by rw [List.getElem?_append_right (Nat.le_refl _), Nat.sub_self]; rfl
  obtain ⟨p, tb, d2, h2, A⟩ := table_drawn (k := k + 3) (gl := gl) (N := N) (m := mm ++ [.lst [.int d]]) (most := 12) F.fta F.fpr F.ftk g0 (by decide) (by decide)
  have h2 : callN fs gl N (k + 6) ta [.ref mm.length, .int 12] (mm ++ [.lst [.int d]]) = _ := h2
  have hp := A.prime
  have hpl := prs_lim p hp
  have htl := A.most
  obtain ⟨M, hM⟩ : ∃ M, mm ++ [.lst [.int d]] = M := ⟨_, rfl⟩
  obtain ⟨r, hr⟩ : ∃ r, mm.length = r := ⟨_, rfl⟩
  rw [hM, hr] at g0 h2
  have tk_ : ∀ (d n : Int), 0 < n → n ≤ 10 ^ 200 → callN fs gl N (k + 6) tk [.ref r, .int n] (M.set r (.lst [.int d])) = .ok (.val (.int (d % n))) (M.set r (.lst [.int (d / n)])) := fun d n h0 h1 => take_set (k := k + 5) F.ftk g0 h0 h1
  have p50 : ∀ en m, binR .pow en m (.val (.int 10)) (.val (.int 50)) = some (.val (.int (10 ^ 50))) := fun en m => cmp_pow (by decide) rfl
  have l4 : (4 : Nat) ≤ LIM := by decide
  have l3 : (3 : Nat) ≤ LIM := by decide
  have l2 : (2 : Nat) ≤ LIM := by decide
  obtain ⟨n, hn, n0⟩ := at3_of (a := 1) (b := 50) (c := 10 ^ 50) d2
  have n1 : 0 < n ∧ n ≤ 10 ^ 200 := by rcases n0 with rfl | rfl | rfl <;> exact ⟨by decide, by decide⟩
  have t1_ := tk_ d2 3 (by decide) (by decide)
  have t2_ := tk_ (d2 / 3) n n1.1 n1.2
  have fz := Int.emod_nonneg (d2 / 3) (show n ≠ 0 by omega)
  generalize d2 / 3 % n = far at *
  generalize d2 / 3 / n = d4 at *
  generalize d2 / 3 = d3 at *
  obtain ⟨T, hT⟩ : ∃ T, W.lst (tb.map W.int) = T := ⟨_, rfl⟩
  rw [hT] at h2
  have b1 : sv (callN fs gl N (k + 6)) gl N (.asg 2 (.box (.call dk 1 (.cons (.var 1) .nil)))) [some (.val SC), some (.val (.int cell)), s2, s3, s4, s5, s6, s7, s8, s9, s10] mm = .ok .nx [some (.val SC), some (.val (.int cell)), some (.val (.ref r)), s3, s4, s5, s6, s7, s8, s9, s10] M := by
    simp only [sv_asg, ev_box, ev_call, evs_cons, evs_nil, ev_var, enGet_0, enGet_s, bnd_ok, esc_val, opt2p_some, List.length_cons, List.length_nil, Nat.zero_add, if_true, h1, toR_ok, boxR_new, slOf_val, List.set_cons_succ, List.set_cons_zero, hM, hr]
  have b2 : sv (callN fs gl N (k + 6)) gl N (.unp (.many [3, 4]) (.call ta 2 (.cons (.var 2) (.cons (.int 12) .nil)))) [some (.val SC), some (.val (.int cell)), some (.val (.ref r)), s3, s4, s5, s6, s7, s8, s9, s10] M = .ok .nx [some (.val SC), some (.val (.int cell)), some (.val (.ref r)), some (.val (.int p)), some (.val T), s5, s6, s7, s8, s9, s10] (M.set r (.lst [.int d2])) := by
    rw [sv_unp]
    simp only [ev_call, evs_cons, evs_nil, ev_var, ev_int, enGet_0, enGet_s, bnd_ok, esc_val, opt2p_some, List.length_cons, List.length_nil, Nat.zero_add, Nat.reduceAdd, if_true, h2, toR_ok]
    rfl
  have b3 : sv (callN fs gl N (k + 6)) gl N (.asg 5 (.call tk 2 (.cons (.var 2) (.cons (.idx (.lst (.cons (.int 1) (.cons (.int 50) (.cons (.bin .pow (.int 10) (.int 50)) .nil)))) (.call tk 2 (.cons (.var 2) (.cons (.int 3) .nil)))) .nil)))) [some (.val SC), some (.val (.int cell)), some (.val (.ref r)), some (.val (.int p)), some (.val T), s5, s6, s7, s8, s9, s10] (M.set r (.lst [.int d2])) = .ok .nx [some (.val SC), some (.val (.int cell)), some (.val (.ref r)), some (.val (.int p)), some (.val T), some (.val (.int far)), s6, s7, s8, s9, s10] (M.set r (.lst [.int d4])) := by
    simp only [sv_asg, ev_call, ev_idx, ev_lst, ev_bin, evs_cons, evs_nil, ev_var, ev_int, enGet_0, enGet_s, bnd_ok, esc_val, opt2p_some, hold_val, hold_new, p50, optp_some, l3, List.length_cons, List.length_nil, Nat.zero_add, Nat.reduceAdd, if_true, t1_, t2_, toR_ok, idx_lst, hn, slOf_val, List.set_cons_succ, List.set_cons_zero]
  obtain ⟨NS, hNS⟩ : ∃ NS, [W.lst (([-1 - far, 10001 + far] : List Int).map W.int), .lst (([-1 - far, 101 + far] : List Int).map W.int)] = NS := ⟨_, rfl⟩
  have b4 : sv (callN fs gl N (k + 6)) gl N (.asg 6 (.lst (.cons (.lst (.cons (.bin .sub (.neg (.int 1)) (.var 5)) (.cons (.bin .add (.int 10001) (.var 5)) .nil))) (.cons (.lst (.cons (.bin .sub (.neg (.int 1)) (.var 5)) (.cons (.bin .add (.int 101) (.var 5)) .nil))) .nil)))) [some (.val SC), some (.val (.int cell)), some (.val (.ref r)), some (.val (.int p)), some (.val T), some (.val (.int far)), s6, s7, s8, s9, s10] (M.set r (.lst [.int d4])) = .ok .nx [some (.val SC), some (.val (.int cell)), some (.val (.ref r)), some (.val (.int p)), some (.val T), some (.val (.int far)), some (.own NS), s7, s8, s9, s10] (M.set r (.lst [.int d4])) := by
    simp only [sv_asg, ev_lst, ev_bin, ev_neg, intR_int, evs_cons, evs_nil, ev_var, ev_int, enGet_0, enGet_s, bnd_ok, esc_val, esc_new, opt2p_some, hold_val, sub_ints, add_ints, optp_some, List.length_cons, List.length_nil, Nat.zero_add, Nat.reduceAdd, l2, if_true, slOf_new, List.set_cons_succ, List.set_cons_zero, ← hNS, List.map_cons, List.map_nil]
  have bw : ∀ (d : Int) (w : Nat), w < 2 → ∀ t8 t9, NOwn t9 → ∃ u8 u9 d2, NOwn u9 ∧ sv (callN fs gl N (k + 6)) gl N (w_09c bt sd) [some (.val SC), some (.val (.int cell)), some (.val (.ref r)), some (.val (.int p)), some (.val T), some (.val (.int far)), some (.own NS), some (.val (.int (w : Int))), t8, t9, s10] (M.set r (.lst [.int d])) = .ok .nx [some (.val SC), some (.val (.int cell)), some (.val (.ref r)), some (.val (.int p)), some (.val T), some (.val (.int far)), some (.own NS), some (.val (.int (w : Int))), u8, u9, s10] (M.set r (.lst [.int d2])) := fun d w hw t8 t9 n9 => by
    obtain ⟨L, d5, g1, g2⟩ := bad_run (k := k + 4) (gl := gl) (N := N) (d := d) F.fbt F.ftk g0 A (by decide)
    have g1 : callN fs gl N (k + 6) bt [.ref r, .int p, .lst (tb.map W.int)] (M.set r (.lst [.int d])) = _ := g1
    rw [hT] at g1
    rcases (show w = 0 ∨ w = 1 by omega) with rfl | rfl
    · obtain ⟨u8, u9, n9, q⟩ := turn_c (cs := callN fs gl N (k + 6)) (gl := gl) (N := N) (way := 0) (s0 := some (.val SC)) (s1 := some (.val (.int cell))) (s5 := some (.val (.int far))) (s8 := t8) (s9 := t9) (s10 := s10) (ns := [-1 - far, 10001 + far]) (NS := NS) (a0 := .lst []) (x := 10000) (by rw [← hNS]; exact at_0) (by simp) n9 g1
        (fun x hx j m => said_T0 F hp (g2 x hx).1 (Nat.le_trans (g2 x hx).2 (by decide)) hN) (fun x hx m => by
          rw [← hT]
          refine said_N0 F A (by decide) ?_ hN
          simp only [List.mem_cons, List.not_mem_nil, or_false] at hx
          rcases hx with rfl | rfl <;> omega) at_0 (fun m => by rw [← hT]; exact said_g0 F A (by decide) (by decide) (by decide) hN) (fun m => by rw [← hT]; exact said_g0 F A (by decide) (by decide) (by decide) hN)
      exact ⟨u8, u9, d5, n9, q⟩
    · obtain ⟨u8, u9, n9, q⟩ := turn_c (cs := callN fs gl N (k + 6)) (gl := gl) (N := N) (way := 1) (s0 := some (.val SC)) (s1 := some (.val (.int cell))) (s5 := some (.val (.int far))) (s8 := t8) (s9 := t9) (s10 := s10) (ns := [-1 - far, 101 + far]) (NS := NS) (a0 := .lst []) (x := 100) (by rw [← hNS]; exact at_1) (by simp) n9 g1
        (fun x hx j m => said_T1 F hp (g2 x hx).1 (Nat.le_trans (g2 x hx).2 (by decide)) hN) (fun x hx m => by
          rw [← hT]
          refine said_N1 F A (by decide) ?_ hN
          simp only [List.mem_cons, List.not_mem_nil, or_false] at hx
          rcases hx with rfl | rfl <;> omega) at_1 (fun m => by rw [← hT]; exact said_g1 F A (by decide) (by decide) (by decide) hN) (fun m => by rw [← hT]; exact said_g1 F A (by decide) (by decide) (by decide) hN)
      exact ⟨u8, u9, d5, n9, q⟩
  obtain ⟨en5, m5, b5, t7, t8, t9, d5, n9, e5, rfl⟩ := fl_each (cs := callN fs gl N (k + 6)) (gl := gl) (N := N) (tg := .one 7) (b := w_09c bt sd) (zs := [W.int 0, W.int 1])
    (fun en mm => ∃ t7 t8 t9 d5, NOwn t9 ∧ mm = M.set r (.lst [.int d5]) ∧ en = [some (.val SC), some (.val (.int cell)), some (.val (.ref r)), some (.val (.int p)), some (.val T), some (.val (.int far)), some (.own NS), t7, t8, t9, s10]) ⟨s7, s8, s9, d4, n9, rfl, rfl⟩ (fun z hz en mm hI => by
      obtain ⟨t7, t8, t9, d5, n9, rfl, rfl⟩ := hI
      obtain ⟨w, hw, rfl⟩ : ∃ w : Nat, w < 2 ∧ z = W.int (w : Int) := by
        simp only [List.mem_cons, List.not_mem_nil, or_false] at hz
        rcases hz with rfl | rfl
        · exact ⟨0, by decide, rfl⟩
        · exact ⟨1, by decide, rfl⟩
      obtain ⟨u8, u9, d6, n9, q⟩ := bw d5 w hw t8 t9 n9
      exact ⟨_, _, _, rfl, q, _, _, _, d6, n9, rfl, rfl⟩)
  rw [e5] at b5
  have r2 : itemsR .rng1 (M.set r (.lst [.int d4])) [.int 2] = some ([W.int 0, W.int 1], []) := items_rng1 (by decide)
  have b5 : sv (callN fs gl N (k + 6)) gl N (.for_ .rng1 (.cons (.int 2) .nil) (.one 7) (w_09c bt sd)) [some (.val SC), some (.val (.int cell)), some (.val (.ref r)), some (.val (.int p)), some (.val T), some (.val (.int far)), some (.own NS), s7, s8, s9, s10] (M.set r (.lst [.int d4])) = .ok .nx [some (.val SC), some (.val (.int cell)), some (.val (.ref r)), some (.val (.int p)), some (.val T), some (.val (.int far)), some (.own NS), t7, t8, t9, s10] (M.set r (.lst [.int d5])) := by
    rw [sv_for, evs_cons, ev_int, bnd_ok, esc_val, opt2p_some, evs_nil, bnd_ok, bnd_ok, r2, opt2p_some, b5]
  have sP : ∀ (x : Int) (w : W) (m : Sto), ¬ (0 ≤ x ∧ x < p - 1) → callN fs gl N (k + 6) sd [.int 2, w, .int x, .int p] m = .ok (.val (.str "NoPlace")) m := fun x w m h => said_P F hp h hN
  have sp : ∀ (x : Int) (m : Sto), 0 ≤ x → x < p - 1 → callN fs gl N (k + 6) sd [.int 2, .lst [.int 0, .int 1], .int x, .int p] m = .ok (.val (.str "told")) m := fun x m h0 h1 => said_p (tb := [0, 1]) F hp h0 h1 (by decide) hN
  obtain ⟨en6, m6, b6, t10, e6, rfl⟩ := fl_each (cs := callN fs gl N (k + 6)) (gl := gl) (N := N) (tg := .one 10) (b := w_09d sd) (zs := ([-1 - far, p - 1, p, p + far] : List Int).map W.int) (m := M.set r (.lst [.int d5]))
    (fun en mm => ∃ t10, mm = M.set r (.lst [.int d5]) ∧ en = [some (.val SC), some (.val (.int cell)), some (.val (.ref r)), some (.val (.int p)), some (.val T), some (.val (.int far)), some (.own NS), t7, t8, t9, t10]) ⟨s10, rfl, rfl⟩ (fun z hz en mm hI => by
      obtain ⟨t10, rfl, rfl⟩ := hI
      obtain ⟨a, ha, rfl⟩ := List.mem_map.mp hz
      have hb : ¬ (0 ≤ a ∧ a < p - 1) := by
        simp only [List.mem_cons, List.not_mem_nil, or_false] at ha
        rcases ha with rfl | rfl | rfl | rfl <;> omega
      exact ⟨_, _, _, rfl, turn_d (sP _ _ _ hb) (sP _ _ _ hb), _, rfl, rfl⟩)
  rw [e6] at b6
  have b6 : sv (callN fs gl N (k + 6)) gl N (.for_ .list (.cons (.lst (.cons (.bin .sub (.neg (.int 1)) (.var 5)) (.cons (.bin .sub (.var 3) (.int 1)) (.cons (.var 3) (.cons (.bin .add (.var 3) (.var 5)) .nil))))) .nil) (.one 10) (w_09d sd)) [some (.val SC), some (.val (.int cell)), some (.val (.ref r)), some (.val (.int p)), some (.val T), some (.val (.int far)), some (.own NS), t7, t8, t9, s10] (M.set r (.lst [.int d5])) = .ok .nx [some (.val SC), some (.val (.int cell)), some (.val (.ref r)), some (.val (.int p)), some (.val T), some (.val (.int far)), some (.own NS), t7, t8, t9, t10] (M.set r (.lst [.int d5])) := by
    simp only [List.map_cons, List.map_nil] at b6
    simp only [sv_for, evs_cons, evs_nil, ev_lst, ev_bin, ev_neg, intR_int, ev_var, ev_int, enGet_0, enGet_s, bnd_ok, esc_val, esc_new, opt2p_some, hold_val, sub_ints, add_ints, optp_some, List.length_cons, List.length_nil, Nat.zero_add, Nat.reduceAdd, l4, if_true, items_lst, b6]
  have ne := fun en => same_str (en := en) (m := M.set r (.lst [.int d5])) (s := "told") (by decide +kernel)
  have q1 := sp (p - 2) (M.set r (.lst [.int d5])) (by omega) (by omega)
  have q2 := sp 0 (M.set r (.lst [.int d5])) (by omega) (by omega)
  refine ⟨some (.val (.int cell)), [some (.val (.ref r)), some (.val (.int p)), some (.val T), some (.val (.int far)), some (.own NS), t7, t8, t9, t10], M.set r (.lst [.int d5]), ?_, _, _, _, _, _, _, _, _, _, n9, rfl⟩
  unfold w_09
  rw [sv_seq, b1, thn_nx, sv_seq, b2, thn_nx, sv_seq, b3, thn_nx, sv_seq, b4, thn_nx, sv_seq, b5, thn_nx, sv_seq, b6, thn_nx]
  generalize M.set r (.lst [.int d5]) = Mz at *
  simp only [sv_seq, sv_iff, ev_or, evOr_2, evOr_1, ev_cmp, ev_call, evs_cons, evs_nil, ev_lst, ev_bin, ev_int, ev_var, enGet_0, enGet_s, bnd_ok, esc_val, esc_new, opt2p_some, hold_val, sub_ints, optp_some, List.length_cons, List.length_nil, Nat.zero_add, Nat.reduceAdd, l2, if_true, q1, q2, toR_ok, ev_str, ne, blR_bl, Bool.false_eq_true, if_false, sv_skip, thn_nx]
end
end Mp

namespace K09
open PySem PySem.Spec PyProof.Rows L2 Mp
def topS (i : Nat) : Stmt := PySem.Challenge.pw_likecopies_k09_sums_refused.main.body.getD i (.Pass ⟨0, 0, 0, 0⟩)
def x_power_by : Fx := ⟨"power_by", "power_by", ["base", "exponent", "n"], ["base", "exponent", "n", "found", "square"], topS 14, ⟨3, 5, b_power_by⟩⟩
def x_stands : Fx := ⟨"stands", "stands", ["n", "base"], ["n", "base", "odd", "power"], topS 15, ⟨2, 4, b_stands 0⟩⟩
def x_is_prime : Fx := ⟨"is_prime", "is_prime", ["n"], ["n", "base"], topS 16, ⟨1, 2, b_is_prime 1 0⟩⟩
def x_need_prime : Fx := ⟨"need_prime", "need_prime", ["p"], ["p"], topS 17, ⟨1, 1, b_need_prime_v1 2 1⟩⟩
def x_need_table : Fx := ⟨"need_table", "need_table", ["table", "p"], ["table", "p", "worth"], topS 21, ⟨2, 3, b_need_table_v1 3⟩⟩
def x_sum_by : Fx := ⟨"sum_by", "sum_by", ["table", "j", "p"], ["table", "j", "p", "place", "worth"], topS 22, ⟨3, 5, b_sum_by 0⟩⟩
def x_sums_by : Fx := ⟨"sums_by", "sums_by", ["table", "many", "p"], ["table", "many", "p", "j"], topS 23, ⟨3, 4, b_sums_by 5⟩⟩
def x_sum_number : Fx := ⟨"sum_number", "sum_number", ["table", "j", "p"], ["table", "j", "p"], topS 24, ⟨3, 3, b_sum_number_v1 3 4 5 1 2⟩⟩
def x_first_sums : Fx := ⟨"first_sums", "first_sums", ["table", "many", "p"], ["table", "many", "p"], topS 25, ⟨3, 3, b_first_sums_v1 3 4 6 2 2⟩⟩
def x_sums_behind : Fx := ⟨"sums_behind", "sums_behind", ["sums", "place", "old", "new", "p"], ["sums", "place", "old", "new", "p", "j", "one"], topS 26, ⟨5, 7, b_sums_behind_v1 3 0 4⟩⟩
def x_law_stir : Fx := ⟨"_law_stir", "_law_stir", ["cell", "k"], ["cell", "k", "number"], topS 28, ⟨2, 3, b_law_stir⟩⟩
def x_law_deck : Fx := ⟨"_law_deck", "_law_deck", ["cell"], ["cell"], topS 29, ⟨1, 1, b_law_deck 10⟩⟩
def x_law_take : Fx := ⟨"_law_take", "_law_take", ["deck", "many"], ["deck", "many", "taken"], topS 30, ⟨2, 3, b_law_take⟩⟩
def x_law_prime : Fx := ⟨"_law_prime", "_law_prime", ["deck", "least"], ["deck", "least", "some", "p"], topS 31, ⟨2, 4, b_law_prime 12⟩⟩
def x_law_table : Fx := ⟨"_law_table", "_law_table", ["deck", "most"], ["deck", "most", "many", "p", "far", "k"], topS 32, ⟨2, 6, b_law_table 13 12⟩⟩
def x_law_said : Fx := ⟨"_law_said", "_law_said", ["way", "thing", "number", "p"], ["way", "thing", "number", "p", "caught", "e", "kinds"], topS 33, ⟨4, 7, b_law_said 8 7 9 [0, 1, 2, 3, 4, 5, 6, 7, 8, 9, 10] [false, true, false, false, false, true, true, true, true, true, true] [false, false, true, false, false, false, false, false, false, false, false] [false, false, false, false, true, false, false, false, false, false, false] [false, false, false, true, false, false, false, false, false, false, false] [true, true, true, true, true, true, true, true, true, true, true]⟩⟩
def x_law_bad_tables : Fx := ⟨"_law_bad_tables", "_law_bad_tables", ["deck", "p", "table"], ["deck", "p", "table", "at", "far", "found"], topS 34, ⟨3, 6, b_law_bad_tables 12⟩⟩
def x_law : Fx := ⟨"law", "law", ["script"], ["script", "cell", "deck", "p", "table", "far", "numbers", "way", "bad", "number", "place"], topS 35, ⟨1, 11, b_law_v7 16 11 15 14 12⟩⟩
def fxs : List Fx := [x_power_by, x_stands, x_is_prime, x_need_prime, x_need_table, x_sum_by, x_sums_by, x_sum_number, x_first_sums, x_sums_behind, x_law_stir, x_law_deck, x_law_take, x_law_prime, x_law_table, x_law_said, x_law_bad_tables, x_law]
def gns : List Str := ["BASES", "MOST_NUMBER", "MOST_SUMS"]
def gls : List W := [.tup (([2, 3, 5, 7, 11] : List Int).map W.int), .int 10000, .int 100]
def cis : List CI := []
def exs : List XI := [⟨"CopyError", ["CopyError", "ValueError"]⟩, ⟨"NoPrime", ["NoPrime", "CopyError", "ValueError"]⟩, ⟨"NoNumber", ["NoNumber", "CopyError", "ValueError"]⟩, ⟨"NoTable", ["NoTable", "CopyError", "ValueError"]⟩, ⟨"NoPlace", ["NoPlace", "CopyError", "ValueError"]⟩, ⟨"NoSums", ["NoSums", "CopyError", "ValueError"]⟩, ⟨"NoLetter", ["NoLetter", "CopyError", "ValueError"]⟩, ⟨"NoMend", ["NoMend", "CopyError", "ValueError"]⟩, ⟨"NoRun", ["NoRun", "CopyError", "ValueError"]⟩, ⟨"NoText", ["NoText", "CopyError", "ValueError"]⟩, ⟨"NoForm", ["NoForm", "CopyError", "ValueError"]⟩]
theorem text_ok : fxs.all (okF (staOf fxs gns cis exs)) = true := by decide +kernel
end K09

namespace K09
open PySem PySem.Spec PyProof.Rows L2 Mp
def level : Nat := 7
def turns : Nat := 100000
theorem law_true : ∀ ns : List Int, ns.length ≤ 63 → ∃ m, callN (fxs.map (·.fd)) gls turns level 17 [.scr (ns.map W.int)] [] = .ok (.val (.bl true)) m := fun ns h =>
  k09_law (k := 0) (N := turns) (f := 17) (pb := 0) (st := 1) (ip := 2) (np := 3) (nt := 4) (sb := 5) (gB := 0) (xp := 1) (xt := 3) (sy := 6) (sn := 7) (fi := 8) (sh := 9) (gM := 1) (gS := 2) (xn := 2) (xl := 4) (si := 10) (dk := 11) (tk := 12) (pr := 13) (ta := 14) (sd := 15) (bt := 16)
    ⟨⟨⟨rfl, rfl, rfl, rfl, rfl⟩, rfl, rfl⟩, rfl, rfl, rfl, rfl, rfl, rfl, rfl, rfl, rfl, rfl, rfl, rfl, rfl, ⟨rfl, rfl, rfl⟩, ⟨rfl, rfl, rfl⟩, ⟨rfl, rfl, rfl⟩, .tab rfl rfl rfl, .num rfl rfl rfl, .pla rfl rfl rfl⟩ rfl (by decide) h
end K09

open PySem PySem.W PyProof.Rows L2
set_option maxHeartbeats 0 in
theorem PySem.Challenge.cw_likecopies_k09_sums_refused_holds : PySem.Challenge.rw_likecopies_k09_sums_refused.Holds := by
  w_on; o_law; k_head; (case hw => w_witness2)
  k_fill
  refine L2.walk_of (l := PySem.Challenge.rw_likecopies_k09_sums_refused) (n := 63) (k := 2 * K09.level) (x := "script") (CX := fun w => L2.CX PySem.Challenge.pw_likecopies_k09_sums_refused w) (sp := fun w => Mp.spTrue _ 63) rfl (by decide) rfl ⟨rfl, by decide, by decide⟩ (fun w h Y => PySem.W.kIn_of Y) ?F (fun _ _ a ns hl _ hS => ⟨a, ns, rfl, hS, hl, fun _ => rfl⟩) (fun w H s e s1 h => by obtain ⟨_, _, _, _, _, _, _, _, _, _, _, _, z⟩ := h; exact z)
  case F =>
    intro w mg fa h KX G hmg
    refine' Mp.law_mk (i := 17) (f := K09.x_law) (k := K09.level) (Nf := K09.turns) (gn := K09.gns) (gl := K09.gls) (fs := K09.fxs) (cis := K09.cis) (exs := K09.exs) KX G hmg K09.text_ok rfl rfl rfl K09.law_true (.cons (Mp.ff_mk (st := K09.topS 14) (fun _ _ _ _ _ _ us hl => match us, hl with | [_, _, _], _ => rfl) ?ffa0 ?ffb0 ?ffc0 ?ffd0) (.cons (Mp.ff_mk (st := K09.topS 15) (fun _ _ _ _ _ _ us hl => match us, hl with | [_, _], _ => rfl) ?ffa1 ?ffb1 ?ffc1 ?ffd1) (.cons (Mp.ff_mk (st := K09.topS 16) (fun _ _ _ _ _ _ us hl => match us, hl with | [_], _ => rfl) ?ffa2 ?ffb2 ?ffc2 ?ffd2) (.cons (Mp.ff_mk (st := K09.topS 17) (fun _ _ _ _ _ _ us hl => match us, hl with | [_], _ => rfl) ?ffa3 ?ffb3 ?ffc3 ?ffd3) (.cons (Mp.ff_mk (st := K09.topS 21) (fun _ _ _ _ _ _ us hl => match us, hl with | [_, _], _ => rfl) ?ffa4 ?ffb4 ?ffc4 ?ffd4) (.cons (Mp.ff_mk (st := K09.topS 22) (fun _ _ _ _ _ _ us hl => match us, hl with | [_, _, _], _ => rfl) ?ffa5 ?ffb5 ?ffc5 ?ffd5) (.cons (Mp.ff_mk (st := K09.topS 23) (fun _ _ _ _ _ _ us hl => match us, hl with | [_, _, _], _ => rfl) ?ffa6 ?ffb6 ?ffc6 ?ffd6) (.cons (Mp.ff_mk (st := K09.topS 24) (fun _ _ _ _ _ _ us hl => match us, hl with | [_, _, _], _ => rfl) ?ffa7 ?ffb7 ?ffc7 ?ffd7) (.cons (Mp.ff_mk (st := K09.topS 25) (fun _ _ _ _ _ _ us hl => match us, hl with | [_, _, _], _ => rfl) ?ffa8 ?ffb8 ?ffc8 ?ffd8) (.cons (Mp.ff_mk (st := K09.topS 26) (fun _ _ _ _ _ _ us hl => match us, hl with | [_, _, _, _, _], _ => rfl) ?ffa9 ?ffb9 ?ffc9 ?ffd9) (.cons (Mp.ff_mk (st := K09.topS 28) (fun _ _ _ _ _ _ us hl => match us, hl with | [_, _], _ => rfl) ?ffa10 ?ffb10 ?ffc10 ?ffd10) (.cons (Mp.ff_mk (st := K09.topS 29) (fun _ _ _ _ _ _ us hl => match us, hl with | [_], _ => rfl) ?ffa11 ?ffb11 ?ffc11 ?ffd11) (.cons (Mp.ff_mk (st := K09.topS 30) (fun _ _ _ _ _ _ us hl => match us, hl with | [_, _], _ => rfl) ?ffa12 ?ffb12 ?ffc12 ?ffd12) (.cons (Mp.ff_mk (st := K09.topS 31) (fun _ _ _ _ _ _ us hl => match us, hl with | [_, _], _ => rfl) ?ffa13 ?ffb13 ?ffc13 ?ffd13) (.cons (Mp.ff_mk (st := K09.topS 32) (fun _ _ _ _ _ _ us hl => match us, hl with | [_, _], _ => rfl) ?ffa14 ?ffb14 ?ffc14 ?ffd14) (.cons (Mp.ff_mk (st := K09.topS 33) (fun _ _ _ _ _ _ us hl => match us, hl with | [_, _, _, _], _ => rfl) ?ffa15 ?ffb15 ?ffc15 ?ffd15) (.cons (Mp.ff_mk (st := K09.topS 34) (fun _ _ _ _ _ _ us hl => match us, hl with | [_, _, _], _ => rfl) ?ffa16 ?ffb16 ?ffc16 ?ffd16) (.cons (Mp.ff_mk (st := K09.topS 35) (fun _ _ _ _ _ _ us hl => match us, hl with | [_], _ => rfl) ?ffa17 ?ffb17 ?ffc17 ?ffd17) .nil)))))))))))))))))) (.cons (Mp.gc_tup (is_ := ([2, 3, 5, 7, 11] : List Int)) ?gca0 ?gcb0 ?gcc0 ?gcd0 ?gce0 ?gcf0) (.cons (Mp.gc_int ?gca1) (.cons (Mp.gc_int ?gca2) .nil))) (.cons ?bare0 (.cons ?bare1 (.cons ?bare2 (.cons ?bare3 (.cons ?bare4 (.cons ?bare5 (.cons ?bare6 (.cons ?bare7 (.cons ?bare8 (.cons ?bare9 (.cons ?bare10 (.cons ?bare11 (.cons ?bare12 (.cons ?bare13 (.cons ?bare14 (.cons ?bare15 (.cons ?bare16 (.cons ?bare17 (.cons ?bare18 (.cons ?bare19 (.cons ?bare20 (.cons ?bare21 .nil)))))))))))))))))))))) .nil (.cons (Mp.xx_mk ?xf0_0 ?xf0_1 ?xf0_2 ?xf0_3 ?xf0_4 ?xf0_5 ?xf0_6 ?xf0_7 ?xf0_8 ?xf0_9 ?xf0_10 ?xf0_11 ?xf0_12) (.cons ?xr0_0 (.cons ?xr0_1 (.cons ?xr0_2 (.cons ?xr0_3 (.cons ?xr0_4 (.cons ?xr0_5 (.cons ?xr0_6 (.cons ?xr0_7 (.cons ?xr0_8 (.cons ?xr0_9 (.cons ?xr0_10 .nil))))))))))) (.cons (Mp.xx_mk ?xf1_0 ?xf1_1 ?xf1_2 ?xf1_3 ?xf1_4 ?xf1_5 ?xf1_6 ?xf1_7 ?xf1_8 ?xf1_9 ?xf1_10 ?xf1_11 ?xf1_12) (.cons ?xr1_0 (.cons ?xr1_1 (.cons ?xr1_2 (.cons ?xr1_3 (.cons ?xr1_4 (.cons ?xr1_5 (.cons ?xr1_6 (.cons ?xr1_7 (.cons ?xr1_8 (.cons ?xr1_9 (.cons ?xr1_10 .nil))))))))))) (.cons (Mp.xx_mk ?xf2_0 ?xf2_1 ?xf2_2 ?xf2_3 ?xf2_4 ?xf2_5 ?xf2_6 ?xf2_7 ?xf2_8 ?xf2_9 ?xf2_10 ?xf2_11 ?xf2_12) (.cons ?xr2_0 (.cons ?xr2_1 (.cons ?xr2_2 (.cons ?xr2_3 (.cons ?xr2_4 (.cons ?xr2_5 (.cons ?xr2_6 (.cons ?xr2_7 (.cons ?xr2_8 (.cons ?xr2_9 (.cons ?xr2_10 .nil))))))))))) (.cons (Mp.xx_mk ?xf3_0 ?xf3_1 ?xf3_2 ?xf3_3 ?xf3_4 ?xf3_5 ?xf3_6 ?xf3_7 ?xf3_8 ?xf3_9 ?xf3_10 ?xf3_11 ?xf3_12) (.cons ?xr3_0 (.cons ?xr3_1 (.cons ?xr3_2 (.cons ?xr3_3 (.cons ?xr3_4 (.cons ?xr3_5 (.cons ?xr3_6 (.cons ?xr3_7 (.cons ?xr3_8 (.cons ?xr3_9 (.cons ?xr3_10 .nil))))))))))) (.cons (Mp.xx_mk ?xf4_0 ?xf4_1 ?xf4_2 ?xf4_3 ?xf4_4 ?xf4_5 ?xf4_6 ?xf4_7 ?xf4_8 ?xf4_9 ?xf4_10 ?xf4_11 ?xf4_12) (.cons ?xr4_0 (.cons ?xr4_1 (.cons ?xr4_2 (.cons ?xr4_3 (.cons ?xr4_4 (.cons ?xr4_5 (.cons ?xr4_6 (.cons ?xr4_7 (.cons ?xr4_8 (.cons ?xr4_9 (.cons ?xr4_10 .nil))))))))))) (.cons (Mp.xx_mk ?xf5_0 ?xf5_1 ?xf5_2 ?xf5_3 ?xf5_4 ?xf5_5 ?xf5_6 ?xf5_7 ?xf5_8 ?xf5_9 ?xf5_10 ?xf5_11 ?xf5_12) (.cons ?xr5_0 (.cons ?xr5_1 (.cons ?xr5_2 (.cons ?xr5_3 (.cons ?xr5_4 (.cons ?xr5_5 (.cons ?xr5_6 (.cons ?xr5_7 (.cons ?xr5_8 (.cons ?xr5_9 (.cons ?xr5_10 .nil))))))))))) (.cons (Mp.xx_mk ?xf6_0 ?xf6_1 ?xf6_2 ?xf6_3 ?xf6_4 ?xf6_5 ?xf6_6 ?xf6_7 ?xf6_8 ?xf6_9 ?xf6_10 ?xf6_11 ?xf6_12) (.cons ?xr6_0 (.cons ?xr6_1 (.cons ?xr6_2 (.cons ?xr6_3 (.cons ?xr6_4 (.cons ?xr6_5 (.cons ?xr6_6 (.cons ?xr6_7 (.cons ?xr6_8 (.cons ?xr6_9 (.cons ?xr6_10 .nil))))))))))) (.cons (Mp.xx_mk ?xf7_0 ?xf7_1 ?xf7_2 ?xf7_3 ?xf7_4 ?xf7_5 ?xf7_6 ?xf7_7 ?xf7_8 ?xf7_9 ?xf7_10 ?xf7_11 ?xf7_12) (.cons ?xr7_0 (.cons ?xr7_1 (.cons ?xr7_2 (.cons ?xr7_3 (.cons ?xr7_4 (.cons ?xr7_5 (.cons ?xr7_6 (.cons ?xr7_7 (.cons ?xr7_8 (.cons ?xr7_9 (.cons ?xr7_10 .nil))))))))))) (.cons (Mp.xx_mk ?xf8_0 ?xf8_1 ?xf8_2 ?xf8_3 ?xf8_4 ?xf8_5 ?xf8_6 ?xf8_7 ?xf8_8 ?xf8_9 ?xf8_10 ?xf8_11 ?xf8_12) (.cons ?xr8_0 (.cons ?xr8_1 (.cons ?xr8_2 (.cons ?xr8_3 (.cons ?xr8_4 (.cons ?xr8_5 (.cons ?xr8_6 (.cons ?xr8_7 (.cons ?xr8_8 (.cons ?xr8_9 (.cons ?xr8_10 .nil))))))))))) (.cons (Mp.xx_mk ?xf9_0 ?xf9_1 ?xf9_2 ?xf9_3 ?xf9_4 ?xf9_5 ?xf9_6 ?xf9_7 ?xf9_8 ?xf9_9 ?xf9_10 ?xf9_11 ?xf9_12) (.cons ?xr9_0 (.cons ?xr9_1 (.cons ?xr9_2 (.cons ?xr9_3 (.cons ?xr9_4 (.cons ?xr9_5 (.cons ?xr9_6 (.cons ?xr9_7 (.cons ?xr9_8 (.cons ?xr9_9 (.cons ?xr9_10 .nil))))))))))) (.cons (Mp.xx_mk ?xf10_0 ?xf10_1 ?xf10_2 ?xf10_3 ?xf10_4 ?xf10_5 ?xf10_6 ?xf10_7 ?xf10_8 ?xf10_9 ?xf10_10 ?xf10_11 ?xf10_12) (.cons ?xr10_0 (.cons ?xr10_1 (.cons ?xr10_2 (.cons ?xr10_3 (.cons ?xr10_4 (.cons ?xr10_5 (.cons ?xr10_6 (.cons ?xr10_7 (.cons ?xr10_8 (.cons ?xr10_9 (.cons ?xr10_10 .nil))))))))))) .nil))))))))))) (by decide)
    (case ffa0 => k_is); (case ffb0 => k_is); (case ffc0 => k_is); (case ffd0 => k_is)
    (case ffa1 => k_is); (case ffb1 => k_is); (case ffc1 => k_is); (case ffd1 => k_is)
    (case ffa2 => k_is); (case ffb2 => k_is); (case ffc2 => k_is); (case ffd2 => k_is)
    (case ffa3 => k_is); (case ffb3 => k_is); (case ffc3 => k_is); (case ffd3 => k_is)
    (case ffa4 => k_is); (case ffb4 => k_is); (case ffc4 => k_is); (case ffd4 => k_is)
    (case ffa5 => k_is); (case ffb5 => k_is); (case ffc5 => k_is); (case ffd5 => k_is)
    (case ffa6 => k_is); (case ffb6 => k_is); (case ffc6 => k_is); (case ffd6 => k_is)
    (case ffa7 => k_is); (case ffb7 => k_is); (case ffc7 => k_is); (case ffd7 => k_is)
    (case ffa8 => k_is); (case ffb8 => k_is); (case ffc8 => k_is); (case ffd8 => k_is)
    (case ffa9 => k_is); (case ffb9 => k_is); (case ffc9 => k_is); (case ffd9 => k_is)
    (case ffa10 => k_is); (case ffb10 => k_is); (case ffc10 => k_is); (case ffd10 => k_is)
    (case ffa11 => k_is); (case ffb11 => k_is); (case ffc11 => k_is); (case ffd11 => k_is)
    (case ffa12 => k_is); (case ffb12 => k_is); (case ffc12 => k_is); (case ffd12 => k_is)
    (case ffa13 => k_is); (case ffb13 => k_is); (case ffc13 => k_is); (case ffd13 => k_is)
    (case ffa14 => k_is); (case ffb14 => k_is); (case ffc14 => k_is); (case ffd14 => k_is)
    (case ffa15 => k_is); (case ffb15 => k_is); (case ffc15 => k_is); (case ffd15 => k_is)
    (case ffa16 => k_is); (case ffb16 => k_is); (case ffc16 => k_is); (case ffd16 => k_is)
    (case ffa17 => k_is); (case ffb17 => k_is); (case ffc17 => k_is); (case ffd17 => k_is)
    (case gca0 => k_is); (case gcb0 => k_is); (case gcc0 => rfl); (case gcd0 => rfl); (case gce0 => decide); (case gcf0 => rfl)
    (case gca1 => k_is)
    (case gca2 => k_is)
    (case bare0 => k_is); (case bare1 => k_is); (case bare2 => k_is); (case bare3 => k_is); (case bare4 => k_is); (case bare5 => k_is); (case bare6 => k_is); (case bare7 => k_is); (case bare8 => k_is); (case bare9 => k_is); (case bare10 => k_is); (case bare11 => k_is); (case bare12 => k_is); (case bare13 => k_is); (case bare14 => k_is); (case bare15 => k_is); (case bare16 => k_is); (case bare17 => k_is); (case bare18 => k_is); (case bare19 => k_is); (case bare20 => k_is); (case bare21 => k_is)
    (case xf0_0 => k_is); (case xf0_1 => k_is); (case xf0_2 => k_is); (case xf0_3 => k_is); (case xf0_4 => k_is); (case xf0_5 => k_is); (case xf0_6 => k_is); (case xf0_7 => k_is); (case xf0_8 => k_is); (case xf0_9 => k_exc); (case xf0_10 => k_is); (case xf0_11 => k_is); (case xf0_12 => k_is)
    (case xf1_0 => k_is); (case xf1_1 => k_is); (case xf1_2 => k_is); (case xf1_3 => k_is); (case xf1_4 => k_is); (case xf1_5 => k_is); (case xf1_6 => k_is); (case xf1_7 => k_is); (case xf1_8 => k_is); (case xf1_9 => k_exc); (case xf1_10 => k_is); (case xf1_11 => k_is); (case xf1_12 => k_is)
    (case xf2_0 => k_is); (case xf2_1 => k_is); (case xf2_2 => k_is); (case xf2_3 => k_is); (case xf2_4 => k_is); (case xf2_5 => k_is); (case xf2_6 => k_is); (case xf2_7 => k_is); (case xf2_8 => k_is); (case xf2_9 => k_exc); (case xf2_10 => k_is); (case xf2_11 => k_is); (case xf2_12 => k_is)
    (case xf3_0 => k_is); (case xf3_1 => k_is); (case xf3_2 => k_is); (case xf3_3 => k_is); (case xf3_4 => k_is); (case xf3_5 => k_is); (case xf3_6 => k_is); (case xf3_7 => k_is); (case xf3_8 => k_is); (case xf3_9 => k_exc); (case xf3_10 => k_is); (case xf3_11 => k_is); (case xf3_12 => k_is)
    (case xf4_0 => k_is); (case xf4_1 => k_is); (case xf4_2 => k_is); (case xf4_3 => k_is); (case xf4_4 => k_is); (case xf4_5 => k_is); (case xf4_6 => k_is); (case xf4_7 => k_is); (case xf4_8 => k_is); (case xf4_9 => k_exc); (case xf4_10 => k_is); (case xf4_11 => k_is); (case xf4_12 => k_is)
    (case xf5_0 => k_is); (case xf5_1 => k_is); (case xf5_2 => k_is); (case xf5_3 => k_is); (case xf5_4 => k_is); (case xf5_5 => k_is); (case xf5_6 => k_is); (case xf5_7 => k_is); (case xf5_8 => k_is); (case xf5_9 => k_exc); (case xf5_10 => k_is); (case xf5_11 => k_is); (case xf5_12 => k_is)
    (case xf6_0 => k_is); (case xf6_1 => k_is); (case xf6_2 => k_is); (case xf6_3 => k_is); (case xf6_4 => k_is); (case xf6_5 => k_is); (case xf6_6 => k_is); (case xf6_7 => k_is); (case xf6_8 => k_is); (case xf6_9 => k_exc); (case xf6_10 => k_is); (case xf6_11 => k_is); (case xf6_12 => k_is)
    (case xf7_0 => k_is); (case xf7_1 => k_is); (case xf7_2 => k_is); (case xf7_3 => k_is); (case xf7_4 => k_is); (case xf7_5 => k_is); (case xf7_6 => k_is); (case xf7_7 => k_is); (case xf7_8 => k_is); (case xf7_9 => k_exc); (case xf7_10 => k_is); (case xf7_11 => k_is); (case xf7_12 => k_is)
    (case xf8_0 => k_is); (case xf8_1 => k_is); (case xf8_2 => k_is); (case xf8_3 => k_is); (case xf8_4 => k_is); (case xf8_5 => k_is); (case xf8_6 => k_is); (case xf8_7 => k_is); (case xf8_8 => k_is); (case xf8_9 => k_exc); (case xf8_10 => k_is); (case xf8_11 => k_is); (case xf8_12 => k_is)
    (case xf9_0 => k_is); (case xf9_1 => k_is); (case xf9_2 => k_is); (case xf9_3 => k_is); (case xf9_4 => k_is); (case xf9_5 => k_is); (case xf9_6 => k_is); (case xf9_7 => k_is); (case xf9_8 => k_is); (case xf9_9 => k_exc); (case xf9_10 => k_is); (case xf9_11 => k_is); (case xf9_12 => k_is)
    (case xf10_0 => k_is); (case xf10_1 => k_is); (case xf10_2 => k_is); (case xf10_3 => k_is); (case xf10_4 => k_is); (case xf10_5 => k_is); (case xf10_6 => k_is); (case xf10_7 => k_is); (case xf10_8 => k_is); (case xf10_9 => k_exc); (case xf10_10 => k_is); (case xf10_11 => k_is); (case xf10_12 => k_is)
    (case xr0_0 => k_is); (case xr0_1 => k_is); (case xr0_2 => k_is); (case xr0_3 => k_is); (case xr0_4 => k_is); (case xr0_5 => k_is); (case xr0_6 => k_is); (case xr0_7 => k_is); (case xr0_8 => k_is); (case xr0_9 => k_is); (case xr0_10 => k_is)
    (case xr1_0 => k_is); (case xr1_1 => k_is); (case xr1_2 => k_is); (case xr1_3 => k_is); (case xr1_4 => k_is); (case xr1_5 => k_is); (case xr1_6 => k_is); (case xr1_7 => k_is); (case xr1_8 => k_is); (case xr1_9 => k_is); (case xr1_10 => k_is)
    (case xr2_0 => k_is); (case xr2_1 => k_is); (case xr2_2 => k_is); (case xr2_3 => k_is); (case xr2_4 => k_is); (case xr2_5 => k_is); (case xr2_6 => k_is); (case xr2_7 => k_is); (case xr2_8 => k_is); (case xr2_9 => k_is); (case xr2_10 => k_is)
    (case xr3_0 => k_is); (case xr3_1 => k_is); (case xr3_2 => k_is); (case xr3_3 => k_is); (case xr3_4 => k_is); (case xr3_5 => k_is); (case xr3_6 => k_is); (case xr3_7 => k_is); (case xr3_8 => k_is); (case xr3_9 => k_is); (case xr3_10 => k_is)
    (case xr4_0 => k_is); (case xr4_1 => k_is); (case xr4_2 => k_is); (case xr4_3 => k_is); (case xr4_4 => k_is); (case xr4_5 => k_is); (case xr4_6 => k_is); (case xr4_7 => k_is); (case xr4_8 => k_is); (case xr4_9 => k_is); (case xr4_10 => k_is)
    (case xr5_0 => k_is); (case xr5_1 => k_is); (case xr5_2 => k_is); (case xr5_3 => k_is); (case xr5_4 => k_is); (case xr5_5 => k_is); (case xr5_6 => k_is); (case xr5_7 => k_is); (case xr5_8 => k_is); (case xr5_9 => k_is); (case xr5_10 => k_is)
    (case xr6_0 => k_is); (case xr6_1 => k_is); (case xr6_2 => k_is); (case xr6_3 => k_is); (case xr6_4 => k_is); (case xr6_5 => k_is); (case xr6_6 => k_is); (case xr6_7 => k_is); (case xr6_8 => k_is); (case xr6_9 => k_is); (case xr6_10 => k_is)
    (case xr7_0 => k_is); (case xr7_1 => k_is); (case xr7_2 => k_is); (case xr7_3 => k_is); (case xr7_4 => k_is); (case xr7_5 => k_is); (case xr7_6 => k_is); (case xr7_7 => k_is); (case xr7_8 => k_is); (case xr7_9 => k_is); (case xr7_10 => k_is)
    (case xr8_0 => k_is); (case xr8_1 => k_is); (case xr8_2 => k_is); (case xr8_3 => k_is); (case xr8_4 => k_is); (case xr8_5 => k_is); (case xr8_6 => k_is); (case xr8_7 => k_is); (case xr8_8 => k_is); (case xr8_9 => k_is); (case xr8_10 => k_is)
    (case xr9_0 => k_is); (case xr9_1 => k_is); (case xr9_2 => k_is); (case xr9_3 => k_is); (case xr9_4 => k_is); (case xr9_5 => k_is); (case xr9_6 => k_is); (case xr9_7 => k_is); (case xr9_8 => k_is); (case xr9_9 => k_is); (case xr9_10 => k_is)
    (case xr10_0 => k_is); (case xr10_1 => k_is); (case xr10_2 => k_is); (case xr10_3 => k_is); (case xr10_4 => k_is); (case xr10_5 => k_is); (case xr10_6 => k_is); (case xr10_7 => k_is); (case xr10_8 => k_is); (case xr10_9 => k_is); (case xr10_10 => k_is)

