import PyProof.Rows.All
import Wide.All
import OpenK.AllK
import Wide.FinOn
import HandS.ForMost
import HandS.Style
import KE.DataCmp
import HandS.ForExc
import HandS.ExcIs
import HandS.IsInst
import HandS.TryMany
import HandS.Wide
import HandS.WideBits
import HandS.RevRange
import HandS.Rev
import HandS.Zip
import HandS.Flow
import HandS.ExcOwn
import HandS.Deep
import HandS.SortRule
import KE.LtData
import KE.KSortAsk
import HandS.Conv
import HandS.RaiseMore
import HandS.Flt
import PyProof.MaxThree
import HandS.Comp
import HandS.Exc
import HandS.ForDict
import HandS.More
import HandS.SetFor
import HandS.Text
import HandS.Replace
import HandS.ReplaceDef
import HandS.WordsExc
import HandS.Codes
import PyProof.Rows.RegReprOcc
import PySem.Challenge.RW_likecopies_k48_texts_of_no_table_and_no
set_option Elab.async false
set_option linter.all false
set_option maxRecDepth 100000
/-! A small language of one's own: values, state, evaluation. -/
namespace Mp
open PySem PySem.Spec PyProof.Rows L2
inductive W where
  | non | bl (b : Bool) | int (i : Int) | str (s : Str)
  | scr (ws : List W) | lst (ws : List W) | tup (ws : List W) | ref (i : Nat) | raw (v : V) | fn (f : Nat) | exc (c : Nat)
inductive Ob where
  | lst (ws : List W) | dic (kvs : List (Key × W)) | ins (c : Nat) (fs : List (Str × W)) | lk (kvs : List (Key × W))
inductive Sl where
  | val (w : W) | own (ws : List W)
noncomputable abbrev En := List (Option Sl)
noncomputable abbrev Sto := List Ob
inductive RV where
  | val (w : W) | new (ws : List W) | bor (j : Nat)
inductive R (A : Type) where
  | ok (a : A) (en : En) (m : Sto) | ex (c : Nat) (en : En) (m : Sto) | bad
inductive CR where
  | ok (r : RV) (m : Sto) | ex (c : Nat) (m : Sto) | bad
noncomputable def R.bind {A B : Type} (r : R A) (f : A → En → Sto → R B) : R B :=
  match r with
  | .ok a en m => f a en m
  | .ex c en m => .ex c en m
  | .bad => .bad
mutual
noncomputable def W.same : W → W → Bool
  | .non, .non => true
  | .bl a, .bl b => a == b
  | .int a, .int b => a == b
  | .str a, .str b => a == b
  | .lst a, .lst b => W.sames a b
  | .scr a, .scr b => W.sames a b
  | .tup a, .tup b => W.sames a b
  | .ref a, .ref b => a == b
  | .raw a, .raw b => a == b
  | .fn a, .fn b => a == b
  | .exc a, .exc b => a == b
  | _, _ => false
noncomputable def W.sames : List W → List W → Bool
  | [], [] => true
  | a :: r, b :: t => W.same a b && W.sames r t
  | _, _ => false
end
mutual
theorem W.same_refl : ∀ w : W, W.same w w = true
  | .non => rfl
  | .bl a => by simp [W.same]
  | .int a => by simp [W.same]
  | .str a => by simp [W.same]
  | .lst a => by simp only [W.same]; exact W.sames_refl a
  | .scr a => by simp only [W.same]; exact W.sames_refl a
  | .tup a => by simp only [W.same]; exact W.sames_refl a
  | .ref a => by simp [W.same]
  | .raw a => by simp [W.same]
  | .fn a => by simp [W.same]
  | .exc a => by simp [W.same]
theorem W.sames_refl : ∀ ws : List W, W.sames ws ws = true
  | [] => by simp only [W.sames]
  | a :: r => by simp only [W.sames, W.same_refl a, W.sames_refl r, Bool.and_self]
end
mutual
theorem W.same_eq : ∀ (a b : W), W.same a b = true → a = b
  | .non, b, h => by cases b <;> simp_all [W.same]
  | .bl a, b, h => by cases b <;> simp_all [W.same]
  | .int a, b, h => by cases b <;> simp_all [W.same]
  | .str a, b, h => by cases b <;> simp_all [W.same]
  | .lst a, b, h => by
    cases b with
    | lst c => simp only [W.same] at h; rw [W.sames_eq a c h]
    | _ => simp [W.same] at h
  | .scr a, b, h => by
    cases b with
    | scr c => simp only [W.same] at h; rw [W.sames_eq a c h]
    | _ => simp [W.same] at h
  | .tup a, b, h => by
    cases b with
    | tup c => simp only [W.same] at h; rw [W.sames_eq a c h]
    | _ => simp [W.same] at h
  | .ref a, b, h => by cases b <;> simp_all [W.same]
  | .raw a, b, h => by cases b <;> simp_all [W.same]
  | .fn a, b, h => by cases b <;> simp_all [W.same]
  | .exc a, b, h => by cases b <;> simp_all [W.same]
theorem W.sames_eq : ∀ (a b : List W), W.sames a b = true → a = b
  | [], b, h => by cases b <;> simp_all [W.sames]
  | x :: r, b, h => by
    cases b with
    | nil => simp [W.sames] at h
    | cons y t =>
      simp only [W.sames, Bool.and_eq_true] at h
      rw [W.same_eq x y h.1, W.sames_eq r t h.2]
end
/-! ### reading -/
noncomputable def LIM : Nat := 1000000
noncomputable def slW : Sl → W
  | .val w => w
  | .own ws => .lst ws
noncomputable def enGet (en : En) (j : Nat) : Option Sl := (en[j]?).join
noncomputable def lstW (m : Sto) : W → Option (List W)
  | .lst ws => some ws
  | .ref i => match m[i]? with
    | some (.lst ws) => some ws
    | _ => none
  | _ => none
noncomputable def rvW (en : En) : RV → Option W
  | .val w => some w
  | .new ws => some (.lst ws)
  | .bor j => (enGet en j).map slW
noncomputable def rvL (en : En) (m : Sto) (r : RV) : Option (List W) := (rvW en r).bind (lstW m)
noncomputable def esc (r : RV) (en : En) : Option (W × En) :=
  match r with
  | .val w => some (w, en)
  | .new ws => some (.lst ws, en)
  | .bor j => match enGet en j with
    | some (.own ws) => some (.lst ws, en.set j (some (.val (.lst ws))))
    | some (.val w) => some (w, en)
    | none => none
noncomputable def boxR (r : RV) (en : En) : Option (List W × En) :=
  match r with
  | .new ws => some (ws, en)
  | .bor j => match enGet en j with
    | some (.own ws) => some (ws, en.set j none)
    | _ => none
  | _ => none
noncomputable def hold (r : RV) : RV :=
  match r with
  | .new ws => .val (.lst ws)
  | r => r
noncomputable def pdAll {A : Type} (f : W → Option A) : List W → Option (List A)
  | [] => some []
  | w :: ws => match f w, pdAll f ws with
    | some d, some ds => some (d :: ds)
    | _, _ => none
noncomputable def pd (m : Sto) : Nat → W → Option PyData
  | _, .non => some .none
  | _, .bl b => some (.bool b)
  | _, .int i => some (.int i)
  | _, .str s => some (.str s)
  | n + 1, .lst ws => (pdAll (pd m n) ws).map .list
  | n + 1, .tup ws => (pdAll (pd m n) ws).map .tuple
  | n + 1, .ref i => match m[i]? with
    | some (.lst ws) => (pdAll (pd m n) ws).map .list
    | _ => none
  | _, _ => none
noncomputable def DEEP : Nat := 8
/-! ### operations -/
inductive Op where
  | add | sub | mul | fdiv | mod | pow | shr | band
  deriving DecidableEq
inductive Cm where
  | eq | ne | lt | le | gt | ge | is | isn | mem | nmem
  deriving DecidableEq
noncomputable def BIG : Int := 2 ^ 2000
noncomputable def small (i : Int) : Bool := decide (-BIG < i ∧ i < BIG)
noncomputable def mulOk (i j : Int) : Bool := decide (-(2 ^ 64) < i ∧ i < 2 ^ 64) || decide (-(2 ^ 64) < j ∧ j < 2 ^ 64) || (small i && small j)
noncomputable def lstS (m : Sto) : W → Option (List W)
  | .scr ws => some ws
  | w => lstW m w
noncomputable def binR (op : Op) (en : En) (m : Sto) (x y : RV) : Option RV :=
  match op, rvW en x, rvW en y with
  | .add, some (.int i), some (.int j) => some (.val (.int (i + j)))
  | .sub, some (.int i), some (.int j) => some (.val (.int (i - j)))
  | .mul, some (.int i), some (.int j) => if mulOk i j then some (.val (.int (i * j))) else none
  | .fdiv, some (.int i), some (.int j) => if 0 < j ∧ j < BIG then some (.val (.int (i / j))) else none
  | .mod, some (.int i), some (.int j) => if 0 < j then some (.val (.int (i % j))) else none
  | .pow, some (.int i), some (.int j) => if 0 ≤ j ∧ j ≤ 1000 ∧ -(2 ^ 64) < i ∧ i < 2 ^ 64 then some (.val (.int (i ^ j.toNat))) else none
  | .shr, some (.int i), some (.int j) => if 0 ≤ j then some (.val (.int (i / 2 ^ j.toNat))) else none
  | .band, some (.int i), some (.int j) => if j = 1 ∧ 0 ≤ i then some (.val (.int (i % 2))) else none
  | .add, some (.str s), some (.str t) => if s.length + t.length ≤ LIM then some (.val (.str (s ++ t))) else none
  | .mul, some (.str s), some (.int k) => if k = 0 ∨ k = 1 then some (.val (.str (if k = 1 then s else ⟨#[]⟩))) else none
  | .add, some x, some y => match lstS m x, lstS m y with
    | some ws, some zs => if ws.length + zs.length ≤ LIM then some (.new (ws ++ zs)) else none
    | _, _ => none
  | .mul, some x, some (.int k) => match lstW m x with
    | some ws => if k ≤ 100000 ∧ -(2 ^ 60) < k ∧ ws.length * k.toNat ≤ LIM then some (.new (List.replicate k.toNat ws).flatten) else none
    | none => none
  | _, _, _ => none
noncomputable def flatW : W → Bool
  | .non => true
  | .bl _ => true
  | .int _ => true
  | .str _ => true
  | _ => false
noncomputable def eqFl : W → W → Bool
  | .non, .non => true
  | .bl a, .bl b => a == b
  | .bl a, .int b => (if a then 1 else 0) == b
  | .int a, .bl b => a == (if b then 1 else 0)
  | .int a, .int b => a == b
  | .str a, .str b => a == b
  | _, _ => false
noncomputable def seqW (m : Sto) : W → Option (List W)
  | .tup ws => some ws
  | w => lstS m w
noncomputable def keyW : W → Option Key
  | .int i => some (.inl i)
  | .str s => some (.inr s)
  | _ => none
noncomputable def dicW (m : Sto) : W → Option (List (Key × W))
  | .ref i => match m[i]? with
    | some (.dic kvs) => some kvs
    | some (.lk kvs) => some kvs
    | _ => none
  | _ => none
noncomputable def memW (m : Sto) (x y : W) : Option Bool :=
  match seqW m y with
  | some ws => if flatW x && ws.all flatW then some (ws.any fun z => eqFl z x) else none
  | none => match x, y with
    | .str a, .str b => match a.cps.toList with
      | [c] => some (decide (c ∈ b.cps.toList))
      | _ => none
    | _, _ => none
noncomputable def isW (x y : W) : Option Bool :=
  match x, y with
  | .non, .non => some true
  | .bl a, .bl b => some (decide (a = b))
  | .bl _, .non => some false
  | .int _, .non => some false
  | .str _, .non => some false
  | .lst _, .non => some false
  | .tup _, .non => some false
  | .ref _, .non => some false
  | .exc _, .non => some false
  | _, _ => none
noncomputable def intCmp (f : Int → Int → Bool) (a b : W) : Option Bool :=
  match a, b with
  | .int i, .int j => some (f i j)
  | _, _ => none
noncomputable def noneD : PyData → Bool
  | .none => true
  | _ => false
noncomputable def gtD (m : Sto) (a b : W) : Option Bool := match pd m DEEP a, pd m DEEP b with
  | some d, some e => if PySem.W.alike d e && !noneD d && decide (d.depth ≤ 64) then some (PySem.W.dataLt e d) else none
  | _, _ => none
noncomputable def memD (m : Sto) (x y : W) : Option Bool := match pd m DEEP x, pd m DEEP y with
  | some d, some (.list ds) => if SeqAt.shaped d && SeqAt.shaped (.list ds) then some (ds.any fun z => PyData.eqv z d) else none
  | some d, some (.tuple ds) => if SeqAt.shaped d && SeqAt.shaped (.tuple ds) then some (ds.any fun z => PyData.eqv z d) else none
  | _, _ => none
noncomputable def memX (m : Sto) (x y : W) : Option Bool := match memW m x y with
  | some k => some k
  | none => memD m x y
noncomputable def cmpR (op : Cm) (en : En) (m : Sto) (x y : RV) : Option Bool :=
  match rvW en x, rvW en y with
  | some a, some b => match op with
    | .lt => intCmp (fun i j => decide (i < j)) a b
    | .le => intCmp (fun i j => decide (i ≤ j)) a b
    | .gt => match a, b with
      | .int i, .int j => some (decide (j < i))
      | a, b => gtD m a b
    | .ge => intCmp (fun i j => decide (j ≤ i)) a b
    | .is => isW a b
    | .isn => (isW a b).map fun k => !k
    | .mem => memX m a b
    | .nmem => (memX m a b).map fun k => !k
    | .eq => match pd m DEEP a, pd m DEEP b with
      | some d, some e => if SeqAt.shaped d && SeqAt.shaped e then some (PyData.eqv d e) else none
      | _, _ => none
    | .ne => match pd m DEEP a, pd m DEEP b with
      | some d, some e => if SeqAt.shaped d && SeqAt.shaped e then some (!PyData.eqv d e) else none
      | _, _ => none
  | _, _ => none
noncomputable def idxR (en : En) (m : Sto) (x y : RV) : Option W :=
  match rvW en x, rvW en y with
  | some a, some b => match a, b with
    | .str s, .int i => if s.length ≤ LIM then (atI s.cps.toList i).map fun c => .str ⟨#[c]⟩ else none
    | a, .int i => (seqW m a).bind fun ws => atI ws i
    | _, _ => none
  | _, _ => none
noncomputable def cutL {A : Type} (xs : List A) (lo hi : Option Int) : List A := (xs.drop (HT.sIx xs.length 0 lo)).take (HT.sIx xs.length xs.length hi - HT.sIx xs.length 0 lo)
noncomputable def cutT (s : Str) (lo hi : Option Int) : Str := ⟨(cutL s.cps.toList lo hi).toArray⟩
noncomputable def tupW : W → Option (List W)
  | .tup ws => some ws
  | _ => none
/-! ### the language -/
inductive Ty where
  | int | bool | list | tuple | str
  deriving DecidableEq
inductive Bi where
  | len | list | sum | max1 | min1 | max2 | min2 | abs | int | all | any | sorted | min3 | str | sortl
  deriving DecidableEq
inductive Mt where
  | pop | bits | count | index | get | rev | tsl (lo hi : Option Int) | split | part | join
  deriving DecidableEq
inductive It where
  | list | tup | str | keys | rng1 | rng2 | rng3 | zip | enum | rev | revrng
  deriving DecidableEq
inductive Tg where
  | one (j : Nat) | many (js : List Nat) | manyL (js : List Nat)
inductive E where
  | nil | cons (e es : E)
  | var (j : Nat) | int (i : Int) | bl (b : Bool) | non | str (s : Str) | glob (g : Nat)
  | bin (op : Op) (a b : E) | neg (a : E)
  | cmp (op : Cm) (a b : E) | chain (op op2 : Cm) (a b c : E)
  | and (es : E) | or (es : E) | not (a : E) | ite (c a b : E)
  | lst (es : E) | tup (es : E)
  | idx (a i : E) | slc (a lo hi : E)
  | call (f n : Nat) (es : E) | blt (b : Bi) (es : E) | lrng (a : E) | isi (a : E) (ts : List Ty)
  | mth (t : Mt) (a es : E)
  | comp (it : It) (src : E) (tg : Tg) (js : List Nat) (c : E) (elt : E)
  | box (a : E)
  | fld (a : E) (x : Str) (cl : List Nat) | mcall (a : E) (x : Str) (cf : List (Nat × Nat)) (n : Nat) (es : E) | make (c f n : Nat) (es : E)
  | dnew | dget (a k d : E) | din (ng : Bool) (k a : E) | dkeys (a : E)
  | isx (a : E) (tab : List Bool) | lock (a e : E) | dlit (ks : List Str) (es : E) | lrng2 (a b : E)
  | orv (a b : E) | dof (a : E) | fnv (f : Nat) | callv (j n : Nat) (fl : List Nat) (es : E)
  | ssl (a lo hi : E)
  | compx (it : It) (src : E) (tg : Tg) (js : List Nat) (c : E) (elt : E) | gget (x : Str) (kvs : List (Str × Int)) (k d : E) | lrng3 (a b : E) | lset (a : E)
  | tupl (a : E) | tcnt (a b : E) | tidx (a b : E)
inductive S where
  | skip | seq (s t : S)
  | asg (j : Nat) (e : E) | unp (tg : Tg) (e : E) | par (i j : Nat) (a b : E)
  | seti (a i e : E) | app (a e : E) | ex (e : E)
  | ret (e : E) | retn | iff (c : E) (s t : S)
  | for_ (it : It) (src : E) (tg : Tg) (b : S) | whl (c : E) (b : S)
  | raise (c : Nat) | never
  | augn (j : Nat) (op : Op) (e : E)
  | extd (a e : E)
  | setf (a : E) (x : Str) (cl : List Nat) (e : E) | dput (a k e : E)
  | tryx (b : S) (cl : List Nat) (j : Nat) (s : S) | lockS (a : E) (s : S) | augf (a : E) (x : Str) (cl : List Nat) (e : E) | clr (a : E)
  | tryn (b : S) | unpi (a i : E) (j : Nat) (e : E)
  | rsp (j i : Nat) (y z w : Str)
/-! ### evaluation -/
noncomputable def opt {A B : Type} (o : Option A) (f : A → R B) : R B :=
  match o with
  | some a => f a
  | none => .bad
noncomputable def chk (cs : List (Nat × List W)) (m : Sto) : Bool := cs.all fun p => match m[p.1]? with
  | some (.lst ws) => W.sames ws p.2
  | _ => false
noncomputable def rngOk (i : Int) : Bool := decide (-(2 ^ 62) ≤ i ∧ i < 2 ^ 62)
noncomputable def srcL (m : Sto) : W → Option (List W × List (Nat × List W))
  | .lst ws => some (ws, [])
  | .ref i => match m[i]? with
    | some (.lst ws) => some (ws, [(i, ws)])
    | _ => none
  | _ => none
noncomputable def enumL (ws : List W) : List W := (List.range ws.length).zipWith (fun i w => W.tup [.int (i : Nat), w]) ws
noncomputable abbrev Items := Option (List W × List (Nat × List W))
noncomputable def keyToW : Key → W
  | .inl i => .int i
  | .inr s => .str s
noncomputable def keysI (m : Sto) : List W → Items
  | [.ref i] => match m[i]? with
    | some (.lk kvs) => some (kvs.map fun q => keyToW q.1, [])
    | _ => none
  | _ => none
noncomputable def listI (m : Sto) : List W → Items
  | [w] => srcL m w
  | _ => none
noncomputable def tupI : List W → Items
  | [.tup zs] => some (zs, [])
  | _ => none
noncomputable def strI : List W → Items
  | [.str s] => some (s.cps.toList.map fun c => .str ⟨#[c]⟩, [])
  | _ => none
noncomputable def rng1I : List W → Items
  | [.int n] => if rngOk n then some ((List.range n.toNat).map fun (i : Nat) => .int (0 + (i : Int)), []) else none
  | _ => none
noncomputable def rng2I : List W → Items
  | [.int a, .int b] => some ((List.range (b - a).toNat).map fun (i : Nat) => .int (a + (i : Int)), [])
  | _ => none
noncomputable def rng3I : List W → Items
  | [.int a, .int b, .int c] => if c = -1 ∧ rngOk a = true ∧ rngOk b = true then some ((List.range (a - b).toNat).map fun (i : Nat) => .int (a + (i : Int) * (-1)), []) else none
  | _ => none
noncomputable def zipI (m : Sto) : List W → Items
  | [x, y] => match srcL m x, srcL m y with
    | some (ws, c1), some (zs, c2) => some (ws.zipWith (fun a b => .tup [a, b]) zs, c1 ++ c2)
    | _, _ => none
  | _ => none
noncomputable def enumI (m : Sto) : List W → Items
  | [x] => match srcL m x with
    | some (ws, c) => some (enumL ws, c)
    | _ => none
  | _ => none
noncomputable def revI (m : Sto) : List W → Items
  | [x] => match srcL m x with
    | some (ws, c) => some (ws.reverse, c)
    | _ => none
  | _ => none
noncomputable def revrngI : List W → Items
  | [.int n] => if rngOk n then some ((List.range n.toNat).map fun (i : Nat) => .int (n - 1 + (i : Int) * (-1)), []) else none
  | _ => none
noncomputable def itemsR (it : It) (m : Sto) (ws : List W) : Items :=
  match it with
  | .list => listI m ws
  | .tup => tupI ws
  | .str => strI ws
  | .rng1 => rng1I ws
  | .rng2 => rng2I ws
  | .rng3 => rng3I ws
  | .zip => zipI m ws
  | .enum => enumI m ws
  | .rev => revI m ws
  | .revrng => revrngI ws
  | .keys => keysI m ws
noncomputable def bindN : List Nat → List W → En → Option En
  | [], [], en => some en
  | j :: js, w :: ws, en => bindN js ws (en.set j (some (.val w)))
  | _, _, _ => none
noncomputable def bindT (tg : Tg) (w : W) (m : Sto) (en : En) : Option En :=
  match tg with
  | .one j => some (en.set j (some (.val w)))
  | .many js => match w with
    | .tup ws => bindN js ws en
    | _ => none
  | .manyL js => match lstW m w with
    | some ws => bindN js ws en
    | _ => none
noncomputable def wipeE (en : En) : List Nat → En
  | [] => en
  | j :: js => (wipeE en js).set j none
noncomputable def frzE (en : En) : List Nat → En
  | [] => en
  | j :: js => match enGet (frzE en js) j with
    | some (.own ws) => (frzE en js).set j (some (.val (.lst ws)))
    | _ => frzE en js
noncomputable def restE (outer inner : En) : List Nat → En
  | [] => inner
  | j :: js => (restE outer inner js).set j (enGet outer j)
noncomputable def R.noex {A : Type} (r : R A) : R A :=
  match r with
  | .ex _ _ _ => .bad
  | r => r
noncomputable def compL (ck : Sto → Bool) (f : W → En → Sto → R (Option W)) : List W → En → Sto → R (List W)
  | [], en, m => if ck m then .ok [] en m else .bad
  | w :: ws, en, m => if ck m then (f w en m).noex.bind fun o en m => (compL ck f ws en m).bind fun r en m => .ok (match o with
      | some x => x :: r
      | none => r) en m else .bad
noncomputable def compLx (ck : Sto → Bool) (f : W → En → Sto → R (Option W)) : List W → En → Sto → R (List W)
  | [], en, m => if ck m then .ok [] en m else .bad
  | w :: ws, en, m => if ck m then (f w en m).bind fun o en m => (compLx ck f ws en m).bind fun r en m => .ok (match o with
      | some x => x :: r
      | none => r) en m else .bad
inductive Out where
  | nx | rt (r : RV)
noncomputable def forL (ck : Sto → Bool) (f : W → En → Sto → R Out) : List W → En → Sto → R Out
  | [], en, m => if ck m then .ok .nx en m else .bad
  | w :: ws, en, m => if ck m then (f w en m).bind fun o en m => match o with
      | .nx => forL ck f ws en m
      | .rt r => .ok (.rt r) en m else .bad
noncomputable def whileL (c : En → Sto → R Bool) (b : En → Sto → R Out) : Nat → En → Sto → R Out
  | 0, _, _ => .bad
  | n + 1, en, m => (c en m).bind fun t en m => if t then (b en m).bind fun o en m => (match o with
      | .nx => whileL c b n en m
      | .rt r => .ok (.rt r) en m) else .ok .nx en m
noncomputable def intsW : List W → Option (List Int)
  | [] => some []
  | .int i :: r => (intsW r).map fun s => i :: s
  | _ => none
noncomputable def blsW : List W → Option (List Bool)
  | [] => some []
  | .bl i :: r => (blsW r).map fun s => i :: s
  | _ => none
noncomputable def maxI : List Int → Int
  | [] => 0
  | [x] => x
  | x :: r => max x (maxI r)
noncomputable def minI : List Int → Int
  | [] => 0
  | [x] => x
  | x :: r => min x (minI r)
noncomputable def insI (x : Int) : List Int → List Int
  | [] => [x]
  | y :: r => if x ≤ y then x :: y :: r else y :: insI x r
noncomputable def sortI : List Int → List Int
  | [] => []
  | x :: r => insI x (sortI r)
noncomputable def ltRow : List Int → List Int → Bool
  | [], [] => false
  | [], _ :: _ => true
  | _ :: _, [] => false
  | a :: x, b :: y => if a = b then ltRow x y else decide (a < b)
noncomputable def insRow (x : List Int) : List (List Int) → List (List Int)
  | [] => [x]
  | y :: r => if ltRow y x then y :: insRow x r else x :: y :: r
noncomputable def sortRow : List (List Int) → List (List Int)
  | [] => []
  | x :: r => insRow x (sortRow r)
noncomputable def rowsW : List W → Option (List (List Int))
  | [] => some []
  | .lst zs :: r => (intsW zs).bind fun n => (rowsW r).map fun s => n :: s
  | _ => none
noncomputable def repl1 (s y z : Str) : Str := if (Builtin.Str.occurrences s y 0 s.length 1).isEmpty then s else Builtin.Str.glued z (Builtin.Str.partsBetween s (Builtin.Str.occurrences s y 0 s.length 1) y.length)
noncomputable def tyW : W → Option Ty
  | .int _ => some .int
  | .bl _ => some .bool
  | .lst _ => some .list
  | .tup _ => some .tuple
  | .str _ => some .str
  | _ => none
noncomputable def tyR (m : Sto) : W → Option (Option Ty)
  | .ref i => match m[i]? with
    | some (.lst _) => some (some .list)
    | _ => none
  | .non => some none
  | w => (tyW w).map some
noncomputable def isT (t : Option Ty) (u : Ty) : Bool :=
  match t, u with
  | some .bool, .int => true
  | some a, b => decide (a = b)
  | none, _ => false
noncomputable def bltR (b : Bi) (m : Sto) (ws : List W) : Option RV :=
  match b, ws with
  | .len, [w] => match w with
    | .str s => if s.length ≤ LIM then some (.val (.int (s.length : Nat))) else none
    | w => (seqW m w).map fun ws => .val (.int (ws.length : Nat))
  | .list, [w] => (seqW m w).map fun ws => .new ws
  | .sum, [w] => (lstW m w).bind fun ws => (intsW ws).map fun s => .val (.int s.sum)
  | .max1, [w] => (lstW m w).bind fun ws => (intsW ws).bind fun ns => if ns = [] then none else some (.val (.int (maxI ns)))
  | .min1, [w] => (lstW m w).bind fun ws => (intsW ws).bind fun ns => if ns = [] then none else some (.val (.int (minI ns)))
  | .max2, [.int i, .int j] => some (.val (.int (if j > i then j else i)))
  | .min2, [.int i, .int j] => some (.val (.int (if j < i then j else i)))
  | .abs, [.int i] => some (.val (.int (if i < 0 then -i else i)))
  | .int, [.int i] => some (.val (.int i))
  | .int, [.bl b] => some (.val (.int (if b then 1 else 0)))
  | .int, [.str s] => if s.length ≤ 640 then (PySem.intText? s).map fun n => .val (.int n) else none
  | .str, [.int i] => if i.natAbs.log2 < 1920 then some (.val (.str (Str.ofString (toString i)))) else none
  | .str, [.str s] => some (.val (.str s))
  | .all, [w] => (lstW m w).bind fun ws => (blsW ws).map fun s => .val (.bl (s.all id))
  | .any, [w] => (lstW m w).bind fun ws => (blsW ws).map fun s => .val (.bl (s.any id))
  | .sorted, [w] => (lstW m w).bind fun ws => (intsW ws).bind fun ns => if ns.length < 64 then some (.new ((sortI ns).map .int)) else none
  | .min3, [.int i, .int j, .int k] => some (.val (.int (minI [i, j, k])))
  | .sortl, [w] => (lstW m w).bind fun ws => (rowsW ws).map fun rs => .new ((sortRow rs).map fun r => .lst (r.map .int))
  | _, _ => none
noncomputable def val? (r : RV) : Option W :=
  match r with
  | .val w => some w
  | _ => none
noncomputable def popAt (en : En) (m : Sto) (x : RV) (i : Int) : Option (W × En × Sto) :=
  match x with
  | .bor j => match enGet en j with
    | some (.own ws) => (ixN ws.length i).bind fun k => (ws[k]?).map fun w => (w, en.set j (some (.own (ws.eraseIdx k))), m)
    | some (.val (.ref r)) => match m[r]? with
      | some (.lst ws) => (ixN ws.length i).bind fun k => (ws[k]?).map fun w => (w, en, m.set r (.lst (ws.eraseIdx k)))
      | _ => none
    | _ => none
  | .val (.ref r) => match m[r]? with
    | some (.lst ws) => (ixN ws.length i).bind fun k => (ws[k]?).map fun w => (w, en, m.set r (.lst (ws.eraseIdx k)))
    | _ => none
  | _ => none
noncomputable def setAt (en : En) (m : Sto) (x : RV) (i : W) (v : W) : Option (En × Sto) :=
  match x, i with
  | .bor j, .int i => match enGet en j with
    | some (.own ws) => (ixN ws.length i).map fun k => (en.set j (some (.own (ws.set k v))), m)
    | _ => none
  | .val (.ref r), .int i => match m[r]? with
    | some (.lst ws) => (ixN ws.length i).map fun k => (en, m.set r (.lst (ws.set k v)))
    | _ => none
  | _, _ => none
noncomputable def appTo (en : En) (m : Sto) (x : RV) (v : W) : Option (En × Sto) :=
  match x with
  | .bor j => match enGet en j with
    | some (.own ws) => if ws.length < LIM then some (en.set j (some (.own (ws ++ [v]))), m) else none
    | _ => none
  | .val (.ref r) => match m[r]? with
    | some (.lst ws) => if ws.length < LIM then some (en, m.set r (.lst (ws ++ [v]))) else none
    | _ => none
  | _ => none
noncomputable def extTo (en : En) (m : Sto) (x : RV) (zs : List W) : Option (En × Sto) :=
  match x with
  | .bor j => match enGet en j with
    | some (.own ws) => if ws.length + zs.length ≤ LIM then some (en.set j (some (.own (ws ++ zs))), m) else none
    | _ => none
  | .val (.ref r) => match m[r]? with
    | some (.lst ws) => if ws.length + zs.length ≤ LIM then some (en, m.set r (.lst (ws ++ zs))) else none
    | _ => none
  | _ => none
noncomputable def bitsOf (i : Int) : Int := (Builtin.Int.intBits i : Nat)
noncomputable def opt2 {A B C : Type} (o : Option (A × B)) (f : A → B → R C) : R C :=
  match o with
  | some (a, b) => f a b
  | none => .bad
noncomputable def isNil : E → Bool
  | .nil => true
  | _ => false
noncomputable def intR : RV → Option Int
  | .val (.int i) => some i
  | _ => none
noncomputable def int1 : List W → Option Int
  | [.int i] => some i
  | _ => none
noncomputable def blR : RV → Option Bool
  | .val (.bl b) => some b
  | _ => none
noncomputable def compF (tg : Tg) (js : List Nat) (none_ : Bool) (fc fe : En → Sto → R RV) (w : W) (en : En) (m : Sto) : R (Option W) :=
  opt (bindT tg w m en) fun en => (if none_ then .ok true en m else (fc en m).bind fun t en m => opt (blR t) fun t => .ok t en m).bind fun t en m =>
    if t then (fe en m).bind fun x en m => opt2 (esc x en) fun w en => .ok (some w) (wipeE en js) m else .ok none (wipeE en js) m
noncomputable def compFx (tg : Tg) (js : List Nat) (none_ : Bool) (fc fe : En → Sto → R RV) (w : W) (en : En) (m : Sto) : R (Option W) :=
  opt (bindT tg w m en) fun en => (if none_ then .ok true en m else (fc en m).noex.bind fun t en m => opt (blR t) fun t => .ok t en m).bind fun t en m =>
    if t then (match fe en m with
      | .ok x en m => opt2 (esc x en) fun w en => .ok (some w) (wipeE en js) m
      | .ex c en m => .ex c (wipeE en js) m
      | .bad => .bad) else .ok none (wipeE en js) m
noncomputable def R.rest (outer : En) (js : List Nat) (r : R (List W)) : R RV :=
  match r with
  | .ok r en m => .ok (.new r) (restE outer en js) m
  | .ex c en m => .ex c (restE outer en js) m
  | .bad => .bad
noncomputable def dedI (l : List Int) (x : Int) : List Int := if l.any (· == x) then l else l ++ [x]
noncomputable def CR.toR (r : CR) (en : En) : R RV :=
  match r with
  | .ok r m => .ok r en m
  | .ex c m => .ex c en m
  | .bad => .bad
noncomputable def boxP (x : RV) (en : En) (m : Sto) : R RV :=
  match x with
  | .val .non => .ok (.val .non) en m
  | x => opt2 (boxR x en) fun ws en => .ok (.val (.ref m.length)) en (m ++ [.lst ws])
noncomputable def insW (m : Sto) : W → Option (Nat × List (Str × W))
  | .ref i => match m[i]? with
    | some (.ins c fs) => some (c, fs)
    | _ => none
  | _ => none
noncomputable def pathD (en : En) (m : Sto) : E → Option Nat
  | .var j => match enGet en j with
    | some (.val (.ref i)) => some i
    | _ => none
  | .fld (.var j) x cl => match enGet en j with
    | some (.val w) => match (insW m w).bind fun q => if cl.contains q.1 then q.2.lookup x else none with
      | some (.ref i) => some i
      | _ => none
    | _ => none
  | _ => none
noncomputable def dicAt (m : Sto) (i : Nat) : Option (List (Key × W)) := match m[i]? with
  | some (.dic kvs) => some kvs
  | _ => none
noncomputable def lkAt (m : Sto) (i : Nat) : Option (List (Key × W)) := match m[i]? with
  | some (.lk kvs) => some kvs
  | _ => none
noncomputable def excW (tab : List Bool) : W → Option Bool
  | .exc c => tab[c]?
  | .non => some false
  | _ => none
noncomputable def countW (m : Sto) (a : W) (ws : List W) : Option (Nat × Nat × Nat) := match ws with
  | [x] => (lstW m a).bind fun zs => if flatW x && zs.all flatW then some (zs.countP fun z => eqFl z x, zs.findIdx fun z => eqFl z x, zs.length) else none
  | _ => none
noncomputable def fldR (m : Sto) (x : Str) (cl : List Nat) (w : W) : Option W := (insW m w).bind fun q => if cl.contains q.1 then q.2.lookup x else none
noncomputable def mthR (m : Sto) (x : Str) (cf : List (Nat × Nat)) (w : W) : Option Nat := (insW m w).bind fun q => if (q.2.lookup x).isNone then cf.lookup q.1 else none
noncomputable def valA {A : Type} (kvs : List (Key × A)) (k : Key) : Option A := (kvs.find? fun kv => decide (kv.1 = k)).map (·.2)
noncomputable def putA_ {A : Type} (kvs : List (Key × A)) (k : Key) (v : A) : List (Key × A) :=
  if (kvs.any fun kv => decide (kv.1 = k)) = true then kvs.map (fun kv => if kv.1 = k then (kv.1, v) else kv) else kvs ++ [(k, v)]
noncomputable def putFA {A : Type} (f : Str) (v : A) : List (Str × A) → List (Str × A)
  | [] => [(f, v)]
  | (g, x) :: r => if g = f then (g, v) :: r else (g, x) :: putFA f v r
noncomputable def strW : W → Option Str
  | .str s => some s
  | _ => none
noncomputable def strsW : List W → Option (List Str)
  | [] => some []
  | .str s :: r => (strsW r).map fun ss => s :: ss
  | _ => none
noncomputable def pairsW : List W → Option (List (Key × W))
  | [] => some []
  | .tup [.int k, w] :: r => (pairsW r).map fun kv => (.inl k, w) :: kv
  | _ => none
noncomputable def mergeA {A : Type} (kvs : List (Key × A)) : List (Key × A) := kvs.foldl (fun acc kv => putA_ acc kv.1 kv.2) []
noncomputable def clrTo (en : En) (m : Sto) (x : RV) : Option (En × Sto) :=
  match x with
  | .bor j => match enGet en j with
    | some (.own _) => some (en.set j (some (.own [])), m)
    | _ => none
  | .val (.ref r) => match m[r]? with
    | some (.lst _) => some (en, m.set r (.lst []))
    | _ => none
  | _ => none
noncomputable def keyR (x : RV) : Option Key := match x with
  | .val w => keyW w
  | _ => none
section
variable (cs : Nat → List W → Sto → CR) (gl : List W)
mutual
noncomputable def ev : E → En → Sto → R RV
  | .nil, _, _ => .bad
  | .cons _ _, _, _ => .bad
  | .var j, en, m => match enGet en j with
    | some (.val w) => .ok (.val w) en m
    | some (.own _) => .ok (.bor j) en m
    | none => .bad
  | .int i, en, m => .ok (.val (.int i)) en m
  | .bl b, en, m => .ok (.val (.bl b)) en m
  | .non, en, m => .ok (.val .non) en m
  | .str s, en, m => .ok (.val (.str s)) en m
  | .glob g, en, m => opt gl[g]? fun w => .ok (.val w) en m
  | .bin op a b, en, m => (ev a en m).bind fun x en m => (ev b en m).bind fun y en m => opt (binR op en m (hold x) (hold y)) fun r => .ok r en m
  | .neg a, en, m => (ev a en m).bind fun x en m => opt (intR x) fun i => .ok (.val (.int (-i))) en m
  | .cmp op a b, en, m => (ev a en m).bind fun x en m => (ev b en m).bind fun y en m => opt (cmpR op en m (hold x) (hold y)) fun r => .ok (.val (.bl r)) en m
  | .chain op op2 a b c, en, m => (ev a en m).bind fun x en m => (ev b en m).bind fun y en m => opt (cmpR op en m (hold x) (hold y)) fun r =>
      if r then (ev c en m).bind fun z en m => opt (cmpR op2 en m (hold y) (hold z)) fun r => .ok (.val (.bl r)) en m else .ok (.val (.bl false)) en m
  | .and es, en, m => evAnd es en m
  | .or es, en, m => evOr es en m
  | .not a, en, m => (ev a en m).bind fun x en m => opt (blR x) fun b => .ok (.val (.bl (!b))) en m
  | .ite c a b, en, m => (ev c en m).bind fun x en m => opt (blR x) fun t => if t then ev a en m else ev b en m
  | .lst es, en, m => (evs es en m).bind fun ws en m => if ws.length ≤ LIM then .ok (.new ws) en m else .bad
  | .tup es, en, m => (evs es en m).bind fun ws en m => if ws.length ≤ LIM then .ok (.val (.tup ws)) en m else .bad
  | .idx a i, en, m => (ev a en m).bind fun x en m => (ev i en m).bind fun y en m => opt (idxR en m (hold x) (hold y)) fun w => .ok (.val w) en m
  | .slc a lo hi, en, m => (ev a en m).bind fun x en m => (if isNil lo then .ok none en m else (ev lo en m).bind fun y en m => opt (intR y) fun i => .ok (some i) en m).bind fun l en m =>
      (if isNil hi then .ok none en m else (ev hi en m).bind fun y en m => opt (intR y) fun i => .ok (some i) en m).bind fun h en m =>
      opt ((rvW en (hold x)).bind (lstS m)) fun ws => .ok (.new (cutL ws l h)) en m
  | .call f n es, en, m => (evs es en m).bind fun ws en m => if ws.length = n then (cs f ws m).toR en else .bad
  | .blt b es, en, m => (evl es en m).bind fun ws en m => opt (bltR b m ws) fun r => .ok r en m
  | .lrng a, en, m => (ev a en m).bind fun x en m => opt (intR x) fun a => if -100000 ≤ a ∧ a ≤ 100000 then .ok (.new ((List.range (a - 0).toNat).map fun (i : Nat) => .int (0 + (i : Int)))) en m else .bad
  | .isi a ts, en, m => (ev a en m).bind fun x en m => opt (rvW en x) fun w => opt (tyR m w) fun t => .ok (.val (.bl (ts.any (isT t)))) en m
  | .mth t a es, en, m => match t with
    | .pop => (ev a en m).bind fun x en m => opt (rvL en m (hold x)) fun _ => (evs es en m).bind fun ws en m => opt (int1 ws) fun i => opt (if -(2 ^ 62) < i ∧ i < 2 ^ 62 then popAt en m (hold x) i else none) fun q => .ok (.val q.1) q.2.1 q.2.2
    | .bits => (ev a en m).bind fun x en m => opt (intR x) fun i => .ok (.val (.int (bitsOf i))) en m
    | .count => (ev a en m).bind fun x en m => opt (rvL en m (hold x)) fun _ => (evs es en m).bind fun ws en m => opt ((rvW en (hold x)).bind fun w => countW m w ws) fun q => .ok (.val (.int (q.1 : Nat))) en m
    | .index => (ev a en m).bind fun x en m => opt (rvL en m (hold x)) fun _ => (evs es en m).bind fun ws en m => opt ((rvW en (hold x)).bind fun w => countW m w ws) fun q => if q.2.1 < q.2.2 then .ok (.val (.int (q.2.1 : Nat))) en m else .bad
    | .rev => (ev a en m).bind fun x en m => opt ((rvW en (hold x)).bind (lstS m)) fun ws => .ok (.new ws.reverse) en m
    | .tsl l h => (ev a en m).bind fun x en m => opt ((rvW en x).bind tupW) fun ws => .ok (.val (.tup (cutL ws l h))) en m
    | .split => (ev a en m).bind fun x en m => opt ((rvW en x).bind strW) fun s => (ev es en m).bind fun y en m => opt ((rvW en y).bind strW) fun t => if (t.length == 0) = false ∧ s.length + 2 ≤ LIM then .ok (.new ((Txt.split s t).map W.str)) en m else .bad
    | .part => (ev a en m).bind fun x en m => opt ((rvW en x).bind strW) fun s => (ev es en m).bind fun y en m => opt ((rvW en y).bind strW) fun t => if (t.length == 0) = false ∧ s.length ≤ LIM then .ok (.val (.tup [.str (Txt.partition s t).1, .str (Txt.partition s t).2.1, .str (Txt.partition s t).2.2])) en m else .bad
    | .join => (ev a en m).bind fun x en m => opt ((rvW en x).bind strW) fun s => (ev es en m).bind fun y en m => opt ((rvL en m y).bind strsW) fun ys => if (ys.map (·.length)).sum + ys.length * s.length ≤ LIM then .ok (.val (.str (Txt.join s ys))) en m else .bad
    | _ => .bad
  | .comp it src tg js c elt, en, m => (evs src en m).bind fun ws en m => opt2 (itemsR it m ws) fun zs ck =>
      if zs.length ≤ LIM then
        (compL (chk ck) (compF tg js (isNil c) (fun en m => ev c en m) (fun en m => ev elt en m)) zs (wipeE (frzE en js) js) m).bind fun r en2 m => .ok (.new r) (restE (frzE en js) en2 js) m
      else .bad
  | .box a, en, m => (ev a en m).bind boxP
  | .fld a x cl, en, m => (ev a en m).bind fun y en m => opt (rvW en y) fun w => opt (fldR m x cl w) fun z => .ok (.val z) en m
  | .mcall a x cf n es, en, m => (ev a en m).noex.bind fun y en m => opt (rvW en y) fun w => opt (mthR m x cf w) fun f => (evs es en m).bind fun ws en m => if ws.length = n then (cs f (w :: ws) m).toR en else .bad
  | .make c f n es, en, m => (evs es en m).bind fun ws en m => if ws.length = n then (match cs f (.ref m.length :: ws) (m ++ [.ins c []]) with
      | .ok (.val .non) m2 => .ok (.val (.ref m.length)) en m2
      | .ex c m2 => .ex c en m2
      | _ => .bad) else .bad
  | .dnew, en, m => .ok (.val (.ref m.length)) en (m ++ [.dic []])
  | .dget a k d, en, m => (ev a en m).bind fun x en m => opt (rvW en x) fun w => opt (dicW m w) fun _ => (ev k en m).bind fun y en m => opt (keyR y) fun kk =>
      if isNil d then opt ((dicW m w).bind fun kvs => valA kvs kk) fun z => .ok (.val z) en m
      else (ev d en m).bind fun z en m => opt2 (esc z en) fun wz en => opt (dicW m w) fun kvs => .ok (.val ((valA kvs kk).getD wz)) en m
  | .din ng k a, en, m => (ev k en m).bind fun y en m => opt (keyR y) fun kk => (ev a en m).bind fun x en m => opt (rvW en x) fun w => opt (dicW m w) fun kvs => .ok (.val (.bl ((valA kvs kk).isSome != ng))) en m
  | .dkeys a, en, m => (ev a en m).bind fun x en m => opt (rvW en x) fun w => opt (dicW m w) fun kvs => .ok (.new (kvs.map fun q => keyToW q.1)) en m
  | .isx a tab, en, m => (ev a en m).bind fun x en m => opt ((rvW en x).bind (excW tab)) fun b => .ok (.val (.bl b)) en m
  | .lock a e, en, m => opt (pathD en m a) fun i => opt (dicAt m i) fun kvs => (ev e en (m.set i (.lk kvs))).noex.bind fun x en m => opt (lkAt m i) fun kvs => .ok x en (m.set i (.dic kvs))
  | .dlit ks es, en, m => (evs es en m).bind fun ws en m => if ws.length = ks.length ∧ ks.length ≤ 15 ∧ ks ≠ [] ∧ ks.Nodup then .ok (.val (.ref m.length)) en (m ++ [.dic ((ks.zip ws).map fun q => (.inr q.1, q.2))]) else .bad
  | .lrng2 a b, en, m => (ev a en m).bind fun x en m => (ev b en m).bind fun y en m => opt (intR x) fun a => opt (intR y) fun b => if -100000 ≤ a ∧ a ≤ 100000 ∧ -100000 ≤ b ∧ b ≤ 100000 then .ok (.new ((List.range (b - a).toNat).map fun (i : Nat) => .int (a + (i : Int)))) en m else .bad
  | .orv a b, en, m => (ev a en m).bind fun x en m => opt ((rvW en x).bind strW) fun s => if s.length ≤ LIM then (if s.length = 0 then ev b en m else .ok (.val (.str s)) en m) else .bad
  | .dof a, en, m => (ev a en m).bind fun x en m => opt ((rvL en m x).bind pairsW) fun kvs => .ok (.val (.ref m.length)) en (m ++ [.dic (mergeA kvs)])
  | .ssl a lo hi, en, m => (ev a en m).bind fun x en m => opt ((rvW en x).bind strW) fun s => (if isNil lo then .ok none en m else (ev lo en m).bind fun y en m => opt (intR y) fun i => .ok (some i) en m).bind fun l en m =>
      (if isNil hi then .ok none en m else (ev hi en m).bind fun y en m => opt (intR y) fun i => .ok (some i) en m).bind fun h en m =>
      if s.length ≤ LIM then .ok (.val (.str (cutT s l h))) en m else .bad
  | .fnv f, en, m => .ok (.val (.fn f)) en m
  | .compx it src tg js c elt, en, m => (evs src en m).bind fun ws en m => opt2 (itemsR it m ws) fun zs ck =>
      if zs.length ≤ LIM then
        (compLx (chk ck) (compFx tg js (isNil c) (fun en m => ev c en m) (fun en m => ev elt en m)) zs (wipeE (frzE en js) js) m).rest (frzE en js) js
      else .bad
  | .gget _ kvs k d, en, m => (ev k en m).bind fun y en m => opt ((rvW en y).bind strW) fun z => (ev d en m).bind fun u en m => opt (intR u) fun i => .ok (.val (.int ((kvs.lookup z).getD i))) en m
  | .lrng3 a b, en, m => (ev a en m).bind fun x en m => (ev b en m).bind fun y en m => opt (intR x) fun a => opt (intR y) fun b => if -100000 ≤ a ∧ a ≤ 100000 ∧ -100000 ≤ b ∧ b ≤ 100000 then .ok (.new ((List.range (a - b).toNat).map fun (i : Nat) => .int (a + (i : Int) * (-1)))) en m else .bad
  | .lset a, en, m => (ev a en m).bind fun x en m => opt ((rvL en m x).bind intsW) fun ns => if ns.length ≤ 4000 then .ok (.val (.int ((ns.foldl dedI []).length : Nat))) en m else .bad
  | .tupl a, en, m => (ev a en m).bind fun x en m => opt (rvL en m x) fun ws => .ok (.val (.tup ws)) en m
  | .tcnt a b, en, m => (ev a en m).bind fun x en m => opt ((rvW en x).bind strW) fun s => (ev b en m).bind fun y en m => opt ((rvW en y).bind strW) fun t => .ok (.val (.int (Txt.count s t))) en m
  | .tidx a b, en, m => (ev a en m).bind fun x en m => opt ((rvW en x).bind strW) fun s => (ev b en m).bind fun y en m => opt ((rvW en y).bind strW) fun t => opt (Builtin.Str.occurrences s t 0 s.length 1).head? fun i => .ok (.val (.int (i : Nat))) en m
  | .callv j n fl es, en, m => match enGet en j with
    | some (.val (.fn f)) => if fl.contains f then (evs es en m).bind fun ws en m => if ws.length = n then (cs f ws m).toR en else .bad else .bad
    | _ => .bad
noncomputable def evAnd : E → En → Sto → R RV
  | .cons a .nil, en, m => ev a en m
  | .cons a es, en, m => (ev a en m).bind fun x en m => opt (blR x) fun t => if t then evAnd es en m else .ok (.val (.bl false)) en m
  | _, _, _ => .bad
noncomputable def evOr : E → En → Sto → R RV
  | .cons a .nil, en, m => ev a en m
  | .cons a es, en, m => (ev a en m).bind fun x en m => opt (blR x) fun t => if t then .ok (.val (.bl true)) en m else evOr es en m
  | _, _, _ => .bad
noncomputable def evs : E → En → Sto → R (List W)
  | .nil, en, m => .ok [] en m
  | .cons e es, en, m => (ev e en m).bind fun x en m => opt2 (esc x en) fun w en => (evs es en m).bind fun ws en m => .ok (w :: ws) en m
  | _, _, _ => .bad
noncomputable def evl : E → En → Sto → R (List W)
  | .cons e .nil, en, m => (ev e en m).bind fun x en m => opt (rvW en x) fun w => .ok [w] en m
  | .cons e es, en, m => (ev e en m).bind fun x en m => opt2 (esc x en) fun w en => (evs es en m).bind fun ws en m => .ok (w :: ws) en m
  | _, _, _ => .bad
end
end
end Mp
namespace Mp
open PySem PySem.Spec PyProof.Rows L2
section
variable (cs : Nat → List W → Sto → CR) (gl : List W) (N : Nat)
noncomputable def slOf : RV → En → Option (Sl × En)
  | .new ws, en => some (.own ws, en)
  | r, en => (esc r en).map fun p => (.val p.1, p.2)
noncomputable def retR : RV → En → Option RV
  | .bor j, en => (enGet en j).map fun s => match s with
    | .own ws => .new ws
    | .val w => .val w
  | r, _ => some r
noncomputable def augF : Op → Int → Int → Option Int
  | .add, i, k => some (i + k)
  | .sub, i, k => some (i - k)
  | _, _, _ => none
noncomputable def sv : S → En → Sto → R Out
  | .skip, en, m => .ok .nx en m
  | .seq s t, en, m => (sv s en m).bind fun o en m => match o with
    | .nx => sv t en m
    | .rt r => .ok (.rt r) en m
  | .asg j e, en, m => (ev cs gl e en m).bind fun x en m => opt2 (slOf x en) fun s en => .ok .nx (en.set j (some s)) m
  | .unp tg e, en, m => (ev cs gl e en m).bind fun x en m => opt2 (esc x en) fun w en => opt (bindT tg w m en) fun en => .ok .nx en m
  | .par i j a b, en, m => (evs cs gl (.cons a (.cons b .nil)) en m).bind fun ws en m => match ws with
    | [x, y] => .ok .nx ((en.set i (some (.val x))).set j (some (.val y))) m
    | _ => .bad
  | .seti a i e, en, m => (ev cs gl e en m).bind fun x en m => opt2 (esc x en) fun w en => (ev cs gl a en m).bind fun o en m => (ev cs gl i en m).bind fun y en m =>
      opt (val? y) fun i => opt2 (setAt en m (hold o) i w) fun en m => .ok .nx en m
  | .app a e, en, m => (ev cs gl a en m).bind fun o en m => opt (rvL en m (hold o)) fun _ => (ev cs gl e en m).bind fun x en m => opt2 (esc x en) fun w en => opt2 (appTo en m (hold o) w) fun en m => .ok .nx en m
  | .ex e, en, m => (ev cs gl e en m).bind fun _ en m => .ok .nx en m
  | .ret e, en, m => (ev cs gl e en m).bind fun x en m => opt (retR x en) fun r => .ok (.rt r) en m
  | .retn, en, m => .ok (.rt (.val .non)) en m
  | .iff c s t, en, m => (ev cs gl c en m).bind fun x en m => opt (blR x) fun b => if b then sv s en m else sv t en m
  | .for_ it src tg b, en, m => (evs cs gl src en m).bind fun ws en m => opt2 (itemsR it m ws) fun zs ck =>
      forL (chk ck) (fun w en m => opt (bindT tg w m en) fun en => sv b en m) zs en m
  | .whl c b, en, m => whileL (fun en m => (ev cs gl c en m).bind fun x en m => opt (blR x) fun t => .ok t en m) (fun en m => sv b en m) N en m
  | .raise c, en, m => .ex c en m
  | .never, _, _ => .bad
  | .augn j op e, en, m => opt (enGet en j) fun s => match s with
    | .val (.int i) => (ev cs gl e en m).bind fun y en m => opt ((intR y).bind (augF op i)) fun n => .ok .nx (en.set j (some (.val (.int n)))) m
    | _ => .bad
  | .extd a e, en, m => (ev cs gl a en m).bind fun o en m => opt (rvL en m (hold o)) fun _ => (ev cs gl e en m).bind fun x en m => opt2 (esc x en) fun w en => opt (lstW m w) fun zs => opt2 (extTo en m (hold o) zs) fun en m => .ok .nx en m
  | .setf a x cl e, en, m => (ev cs gl e en m).bind fun y en m => opt2 (esc y en) fun w en => (ev cs gl a en m).bind fun o en m => opt (rvW en o) fun z => match z with
    | .ref i => match m[i]? with
      | some (.ins c fs) => if cl.contains c ∧ fs.length < 900 then .ok .nx en (m.set i (.ins c (putFA x w fs))) else .bad
      | _ => .bad
    | _ => .bad
  | .dput a k e, en, m => (ev cs gl e en m).bind fun y en m => opt2 (esc y en) fun w en => (ev cs gl a en m).bind fun o en m => opt (rvW en o) fun z => (ev cs gl k en m).bind fun y en m => opt (keyR y) fun kk => match z with
    | .ref i => match m[i]? with
      | some (.dic kvs) => if kvs.length < LIM then .ok .nx en (m.set i (.dic (putA_ kvs kk w))) else .bad
      | _ => .bad
    | _ => .bad
  | .tryn b, en, m => (sv b en m).noex
  | .unpi a i j e, en, m => (ev cs gl e en m).bind fun x en m => opt2 (esc x en) fun w en => match w with
    | .tup [w1, w2] => (ev cs gl a en m).bind fun o en m => (ev cs gl i en m).bind fun y en m => opt (val? y) fun i => opt2 (setAt en m (hold o) i w1) fun en m => .ok .nx (en.set j (some (.val w2))) m
    | _ => .bad
  | .rsp j i y z w, en, m => match enGet en i with
    | some (.val (.str s)) => if (w.length == 0) = false ∧ (y == z) = false ∧ s.length + 2 * z.length + 4 ≤ LIM ∧ (repl1 s y z).length + 2 ≤ LIM then .ok .nx (en.set j (some (.own ((Txt.split (repl1 s y z) w).map W.str)))) m else .bad
    | _ => .bad
  | .clr a, en, m => (ev cs gl a en m).bind fun o en m => opt (rvL en m (hold o)) fun _ => match o with
    | .new _ => .ok .nx en (m ++ [.lst []])
    | o => opt2 (clrTo en m o) fun en m => .ok .nx en m
  | .tryx b cl j s, en, m => match sv b en m with
    | .ex c en m => if cl.contains c then (sv s (en.set j (some (.val (.exc c)))) m).noex.bind fun o en m => .ok o (en.set j none) m else .bad
    | r => r
  | .lockS a s, en, m => opt (pathD en m a) fun i => opt (dicAt m i) fun kvs => (sv s en (m.set i (.lk kvs))).noex.bind fun o en m => opt (lkAt m i) fun kvs => .ok o en (m.set i (.dic kvs))
  | .augf a x cl e, en, m => (ev cs gl a en m).bind fun o en m => opt (rvW en o) fun z => opt (insW m z) fun q => opt (if cl.contains q.1 ∧ q.2.length < 900 then (q.2.lookup x).bind (fun u => intR (.val u)) else none) fun i =>
      (ev cs gl e en m).bind fun y en m => opt (intR y) fun k => opt (insW m z) fun q2 => match z with
    | .ref n => if q2.1 = q.1 ∧ q2.2.length < 900 then .ok .nx en (m.set n (.ins q2.1 (putFA x (.int (i + k)) q2.2))) else .bad
    | _ => .bad
end
structure Fd where
  np : Nat
  nn : Nat
  body : S
noncomputable def endR (r : R Out) : CR :=
  match r with
  | .ok .nx _ m => .ok (.val .non) m
  | .ok (.rt r) _ m => .ok r m
  | .ex c _ m => .ex c m
  | .bad => .bad
noncomputable def runB (cs : Nat → List W → Sto → CR) (gl : List W) (N : Nat) (f : Fd) (ws : List W) (m : Sto) : CR :=
  endR (sv cs gl N f.body (ws.map (fun w => some (.val w)) ++ List.replicate (f.nn - ws.length) none) m)
noncomputable def callN (fs : List Fd) (gl : List W) (N : Nat) : Nat → Nat → List W → Sto → CR
  | 0, _, _, _ => .bad
  | k + 1, f, ws, m => match fs[f]? with
    | some d => if ws.length = d.np then runB (callN fs gl N k) gl N d ws m else .bad
    | none => .bad
end Mp
set_option Elab.async false
set_option linter.all false
set_option maxRecDepth 100000
set_option maxHeartbeats 4000000
/-! a caught exception that is kept -/
namespace L2
open PySem PySem.Spec PyProof.Rows
noncomputable def ExcAt (a D : Addr) : Heap → Prop := fun h => ∃ oe, PySem.W.InstAt h a oe D none
theorem ExcAt.stay {a D : Addr} {h1 h2 : Heap} (x : ExcAt a D h1) (k : ∀ o, h1.get? a = some o → h2.get? a = some o) : ExcAt a D h2 := by
  obtain ⟨oe, J⟩ := x
  exact ⟨oe, k _ J.at_, J.cls, J.no, by
    have := J.dict
    revert this
    cases oe.dict with
    | none => exact id
    | some d => exact fun z => z.elim⟩
section
variable {X : Cx} {pins : List (Addr × Obj)} {σ : St} {H : Hp} {s : Shared}
theorem Inv.adopt {a D : Addr} (I : Inv X pins σ H s) (e : ExcAt a D s.heap) (na : H a = none) (n0 : X.s_0.heap.get? a = none) (nL : a ≠ X.env.locals) (nC : ∀ x c, X.env.cells.lookup x = some c → c ≠ a) (nP : ∀ p ∈ X.pn ++ pins, p.1 ≠ a) :
    Inv X pins σ (upd H a (.ext (ExcAt a D))) s := by
  have n1 : ∀ b o, X.s_0.heap.get? b = some o → b ≠ a := fun b o q z => by rw [z, n0] at q; cases q
  have n2 : ∀ b u, H b = some u → b ≠ a := fun b u q z => by rw [z, na] at q; cases q
  refine ⟨I.ok, I.os, I.bare, ⟨I.base.keep, I.base.slot, fun b o q n hx => ?_, I.base.there, fun b xs q => ?_, fun b o u q => ?_, fun b ps q => ?_⟩, I.loc, I.cell, ?_, fun x c q => ?_, fun p hp => ?_, fun b u q => ?_, I.len⟩
  · rw [upd_ne (n1 b o q)]; exact I.base.free b o q n hx
  · have := I.base.tups b xs q
    rw [upd_ne (n2 b _ this)]; exact this
  · have := I.base.frzs b o u q
    rw [upd_ne (n2 b _ this)]; exact this
  · obtain ⟨more, e1⟩ := I.base.tbls b ps q
    exact ⟨more, by rw [upd_ne (n2 b _ e1)]; exact e1⟩
  · rw [upd_ne (fun z => nL z.symm)]; exact I.free
  · rw [upd_ne (nC x c q)]; exact I.freeC x c q
  · obtain ⟨h1, h2, h3, h4, h5⟩ := I.pin p hp
    exact ⟨h1, by rw [upd_ne (nP p hp)]; exact h2, h3, h4, h5⟩
  · by_cases hb : b = a
    · subst hb
      rw [upd_same] at q; cases q
      obtain ⟨oe, J⟩ := e
      exact ⟨⟨oe, J⟩, ⟨oe, J.at_⟩, fun h1 h2 p k => p.stay k⟩
    · rw [upd_ne hb] at q
      exact (I.hok b u q).stay (fun _ _ _ z => z) (fun c z => by rw [upd_ne (n2 c _ z)]; exact z) fun c xs z => by rw [upd_ne (n2 c _ z)]; exact z
theorem Inv.inSuite (I : Inv X pins σ H s) (a : Addr) : Inv (X.suite a (X.pn ++ pins)) [] σ H s :=
  ⟨I.ok.suite _ _, I.os, I.bare, I.base, I.loc, I.cell, I.free, I.freeC, fun p hp => I.pin p (by rw [List.append_nil] at hp; exact hp), I.hok, I.len⟩
theorem Inv.outSuite {a : Addr} {pn' : List (Addr × Obj)} (I : Inv (X.suite a (X.pn ++ pins)) pn' σ H s) (ok : X.Ok) : Inv X pins σ H s :=
  ⟨ok, I.os, I.bare, I.base, I.loc, I.cell, I.free, I.freeC, fun p hp => I.pin p (List.mem_append_left _ hp), I.hok, I.len⟩
noncomputable def wKeep (K : PySem.W.Frag) (c : Value) (i : Nat) (ts : TS) (D : Ends) : WX := fun cls d σ H =>
  ∃ E, cls = .ref E ∧ d = none ∧ PySem.W.exmOne K cls c = some true ∧ ∀ a, H a = none → ts { nx := fun σ' H' => D.nx (σ'.set i none) H', rt := D.rt, bk := fun σ' H' => D.bk (σ'.set i none) H', ct := fun σ' H' => D.ct (σ'.set i none) H' } (σ.set i (some (.ref a))) (upd H a (.ext (ExcAt a E)))
theorem ps_try_keep {x n : Str} {c : Value} {i : Nat} {body suite : List Stmt} {b₀ : Stmt} {np pos pos' : Pos} {tb : WX → TS} {ts : TS} (hs : X.stack = X.env :: X.outer) (hf : X.env.frame = some X.env.locals) (hex : X.ex = []) (hN : X.N.Nodup) (hi : X.N[i]? = some n) (hln : X.env.kindOf n = some .local) (hc : Names X x c)
    (hb : ∀ (W : WX) (pn : List (Addr × Obj)) (xe : Value → Shared → Prop), Takes (X.tr pn xe) W → PassesOwn (model X.prog X.w) X.A X.env xe → PSs (X.tr pn xe) body (tb W))
    (hsu : ∀ (a : Addr) (pn : List (Addr × Obj)), PSs (X.suite a pn) (b₀ :: suite) ts) :
    PS X (.Try body [.ExceptHandler (some (.Name x np)) (some n) (b₀ :: suite) pos'] [] [] pos) (fun D σ H => tb (wKeep X.K c i ts D) D σ H) := by
  refine ⟨fun pins s σ H D I h => ?_⟩
  have ok := I.ok
  have frs_ : X.A.frames = some (X.env :: X.outer) := by rw [ok.frames, hs]
  refine wpAny_Try_except (wpAny_mono ((hb (wKeep X.K c i ts D) (X.pn ++ pins) _ (fun u s' xx => ?_) PassesOwn.looking).run [] s σ H D (I.toTry _) h) (fun f s1 q => ?_) (fun e s1 he => he))
  · obtain ⟨a, B, sI, pins', σ1, H1, cls, d, rfl, J0, nb, up, sky, na, os, ag, E, rfl, rfl, hm, go⟩ := xx
    have J : Inv X pins σ1 H1 sI := J0.ofTry ok
    have sky1 : Sky B (X.env :: X.outer) a (Zc (.ref E) none) X.env.locals s'.heap := by rw [← hs]; exact sky
    -- what is caught is new
    have nB : B.get? a = none := by
      rcases sky1 with z | z | z
      · exact z.2.1
      · exact z.2.1
      · exact z.2.1
    show wpAny _ X.A (noteFrame (.ref a) X.env) _ _ _
    refine Sky.land Zc.steady frs_ hf sky1 fun hA flA upA => ?_
    have JA : Inv X pins σ1 H1 { s' with heap := hA } := J.landed nb flA.1 (up.trans upA) os ag
    obtain ⟨oA, vA, eA, zA, dA⟩ := flA.there
    have nF : a ∉ frs (X.env :: X.outer) := fun hm2 => by
      obtain ⟨_, o2, e2, hn2⟩ := flA.2.2.1.mem hm2
      rw [eA] at e2; cases e2
      exact hn2 _ dA
    have nS : a ∉ frs X.stack := by rw [hs]; exact nF
    have nI : sI.heap.get? a = none := by
      cases q : sI.heap.get? a with
      | none => rfl
      | some o => rw [nb a o q nS] at nB; cases nB
    have nL : a ≠ X.env.locals := fun z => nF (List.mem_filterMap.mpr ⟨X.env, List.mem_cons_self, by rw [hf, z]⟩)
    have n0 : X.s_0.heap.get? a = none := by
      cases q : X.s_0.heap.get? a with
      | none => rfl
      | some o =>
        obtain ⟨o2, q2⟩ := J.base.there a o q (by rw [hex]; exact List.not_mem_nil)
        rw [nI] at q2; cases q2
    have nC : ∀ y b, X.env.cells.lookup y = some b → b ≠ a := fun y b q z => by
      obtain ⟨v, o, q2, _⟩ := J.cell y b q
      rw [z, nI] at q2; cases q2
    have nP : ∀ p ∈ X.pn ++ pins, p.1 ≠ a := fun p hp z => by
      have := (J.pin p hp).1
      rw [z, nI] at this; cases this
    have look : PySem.W.Looks (model X.prog X.w) hA (typeOf (.ref a)) (.ref E) := fun A Q E2 t k q => wpAny_typeOf_ref (k _ _ eA) (by rw [zA.1]; exact q)
    have SA := JA.inSuite a
    refine wpAny_handleBy_cons (codeAny_handlers_test ?_) (by intro q; cases q)
    have name : ∀ {Q : Value → Shared → Prop} {E2 : Value → Shared → Prop}, Q c { s' with heap := hA } → wpAny (model X.prog X.w) (X.A.mark (some (.ref a))) (eval (.Name x np) X.env) Q E2 { s' with heap := hA } := fun {Q E2} q => by
      obtain ⟨g1, g2, g3 | ⟨g3, g4, g5⟩⟩ := hc
      · exact ld_glob (X := X.suite a (X.pn ++ pins)) SA g1 g3 q g2
      · exact ld_blt (X := X.suite a (X.pn ++ pins)) SA g1 g3 g4 q g5 g2
    refine name ((PySem.W.exm_one (M := model X.prog X.w) JA.kIn look hm).here ?_)
    refine codeAny_handlers_suite_as (HandSPX.lands_againZ flA fun hB flB upB => ?_)
    have JB : Inv X pins σ1 H1 { s' with heap := hB } := J.landed nb flB.1 ((up.trans upA).trans upB) os ag
    obtain ⟨oB, vB, eB, zB, dB⟩ := flB.there
    have xB : ExcAt a E hB := by
      refine ⟨oB, eB, zB.1, ?_, ?_⟩
      · unfold PySem.W.notCls; rw [dB]
      · rw [zB.2]; trivial
    have SB := (JB.adopt xB na n0 nL nC nP).inSuite a
    refine store_ok (X := X.suite a (X.pn ++ pins)) (v := .ref a) SB hN hi (.inl hln) rfl (fun s5 S5 => ?_) (.inr hln)
    refine wpAny_mono ((hsu a (X.pn ++ pins)).run [] s5 _ _ _ S5 (go a na)) (fun f s6 q6 => ?_) (fun _ _ z => False.elim z)
    have fin : ∀ {σ6 : St} {H6 : Hp} {Q : Shared → Prop}, Inv (X.suite a (X.pn ++ pins)) [] σ6 H6 s6 → (∀ s7, Inv X pins (σ6.set i none) H6 s7 → Q s7) →
        wpAny (model X.prog X.w) X.A (do bindName X.env n .none; unbindBehindTheSuite X.env n pos') (fun _ s7 => Q s7) X.xe s6 := fun {σ6 H6 Q} S6 hq => gone_ok (S6.outSuite ok) hN hi hln hq
    cases f with
    | next => obtain ⟨σ6, H6, S6, q7⟩ := q6; exact fin S6 fun s7 J7 => ⟨_, _, J7, q7⟩
    | brk => obtain ⟨σ6, H6, S6, q7⟩ := q6; exact fin S6 fun s7 J7 => ⟨_, _, J7, q7⟩
    | cont => obtain ⟨σ6, H6, S6, q7⟩ := q6; exact fin S6 fun s7 J7 => ⟨_, _, J7, q7⟩
    | ret u => obtain ⟨v6, σ6, H6, S6, r6, q7⟩ := q6; exact fin S6 fun s7 J7 => ⟨_, _, _, J7, r6, q7⟩
  · cases f with
    | next => obtain ⟨σ1, H1, J1, q1⟩ := q; exact wpAny_execs_nil ⟨σ1, H1, J1.ofTry ok, q1⟩
    | brk => obtain ⟨σ1, H1, J1, q1⟩ := q; exact ⟨σ1, H1, J1.ofTry ok, q1⟩
    | cont => obtain ⟨σ1, H1, J1, q1⟩ := q; exact ⟨σ1, H1, J1.ofTry ok, q1⟩
    | ret u => obtain ⟨v1, σ1, H1, J1, r1, q1⟩ := q; exact ⟨v1, σ1, H1, J1.ofTry ok, r1, q1⟩
theorem kit_exc {a D : Addr} {u : Value} (C : ExcC X.K D) (I : Inv X pins σ H s) (r : RelV (.ref a) u) (h : H a = some (.ext (ExcAt a D))) : ∃ P : Heap → Prop, PySem.W.KitX X.K u (.ref D) P ∧ P s.heap ∧ u ≠ .builtin "__main__.__loader__#opaque" := by
  cases (show u = Value.ref a from r)
  obtain ⟨⟨oe, J⟩, _⟩ := (show ObjOk X.prog X.w H s.heap a (.ext (ExcAt a D)) from I.hok a _ h)
  exact ⟨_, PySem.W.handS_kitx_exc C.hg C.hk C.hs C.hd C.ha C.hn C.ht C.hm, J, fun z => nomatch z⟩
end
inductive TyE (K : PySem.W.Frag) (H : Hp) : V → Value → Prop
  | exc {a D : Addr} : ExcC K D → H a = some (.ext (ExcAt a D)) → TyE K H (.ref a) (.ref D)
  | non : TyE K H .non (.type "NoneType")
section
variable {X : Cx} {pins : List (Addr × Obj)} {σ : St} {H : Hp} {s : Shared}
theorem kit_ofE {x : V} {u t : Value} (I : Inv X pins σ H s) (rx : RelV x u) (ty : TyE X.K H x t) : ∃ P : Heap → Prop, PySem.W.KitX X.K u t P ∧ P s.heap ∧ u ≠ .builtin "__main__.__loader__#opaque" := by
  cases ty with
  | exc C h => exact kit_exc C I rx h
  | non => exact kit_of I rx (.base .non)
noncomputable def rIsX (K : PySem.W.Frag) : List V → Hp → VK → Prop := fun xs H Q => ∃ (x c : V) (t u : Value) (b : Bool), xs = [x, c] ∧ ClsV c u ∧ TyE K H x t ∧ PySem.W.kitOne K t u = some b ∧ Q (.bl b) H
noncomputable def rIsXT (K : PySem.W.Frag) : List V → Hp → VK → Prop := fun xs H Q => ∃ (x : V) (tp : Addr) (cs : List V) (t : Value) (us : List Value) (b : Bool), xs = [x, .ref tp] ∧ H tp = some (.tup cs) ∧ Paired ClsV cs us ∧ TyE K H x t ∧ PySem.W.kitAny K t us = some b ∧ Q (.bl b) H
theorem call_isX : CallR X (.builtin "isinstance") (rIsX X.K) := by
  intro pins s σ H xs us Q I r h
  obtain ⟨x, c, t, u, b, rfl, k, ty, e, q⟩ := h
  obtain ⟨u1, u2, rfl, r1, r2⟩ := vals2 r
  have e2 := k.eq r2
  subst e2
  obtain ⟨P, Z, p, hx⟩ := kit_ofE I r1 ty
  exact PySem.W.kia_one Z I.kIn p e hx fun tk => ⟨.bl b, H, I.tok tk, rfl, q⟩
theorem call_isXT : CallR X (.builtin "isinstance") (rIsXT X.K) := by
  intro pins s σ H xs us Q I r h
  obtain ⟨x, tp, cs, t, ws, b, rfl, hT, k, ty, e, q⟩ := h
  obtain ⟨u1, u2, rfl, r1, r2⟩ := vals2 r
  cases (show u2 = Value.ref tp from r2)
  obtain ⟨P, Z, p, hx⟩ := kit_ofE I r1 ty
  obtain ⟨_, its, rv, ⟨oc, od, dt, sl⟩, h1, h2, n, h3⟩ := (show ObjOk X.prog X.w H s.heap tp (.tup cs) from I.hok tp _ hT)
  have e3 := ClsV.all k rv
  subst e3
  simp only at h2 h3
  subst h2 h3
  exact PySem.W.kia_tup Z I.kIn p h1 e hx fun tk => ⟨.bl b, H, I.tok tk, rfl, q⟩
end
end L2
set_option Elab.async false
set_option linter.all false
set_option maxRecDepth 100000
set_option maxHeartbeats 4000000
namespace Mp
open PySem PySem.Spec PyProof.Rows L2
noncomputable abbrev Slo := List (Option V)
structure Tab where
  K : PySem.W.Frag
  ca : Nat → Addr
  fa : Nat → Addr
  xa : Nat → Addr
mutual
inductive Rep (T : Tab) (B : Hp) (r : List Addr) : V → W → Prop
  | non : Rep T B r .non .non
  | bl (b : Bool) : Rep T B r (.bl b) (.bl b)
  | int (i : Int) : Rep T B r (.int i) (.int i)
  | str (s : Str) : Rep T B r (.str s) (.str s)
  | lst {a : Addr} {vs : List V} {ws : List W} : Rd B a (.lst vs) → RepL T B r vs ws → Rep T B r (.ref a) (.lst ws)
  | scr {a : Addr} {vs : List V} {ws : List W} : SqL T.K B a vs → RepL T B r vs ws → Rep T B r (.ref a) (.scr ws)
  | tup {a : Addr} {vs : List V} {ws : List W} : SqT T.K B a vs → RepL T B r vs ws → Rep T B r (.ref a) (.tup ws)
  | ref {a : Addr} {i : Nat} : r[i]? = some a → Rep T B r (.ref a) (.ref i)
  | raw (v : V) : Rep T B r v (.raw v)
  | fn (f : Nat) : Rep T B r (.ref (T.fa f)) (.fn f)
  | exc {a : Addr} (c : Nat) : B a = some (.ext (L2.ExcAt a (T.xa c))) → Rep T B r (.ref a) (.exc c)
inductive RepL (T : Tab) (B : Hp) (r : List Addr) : List V → List W → Prop
  | nil : RepL T B r [] []
  | cons {v : V} {w : W} {vs : List V} {ws : List W} : Rep T B r v w → RepL T B r vs ws → RepL T B r (v :: vs) (w :: ws)
end
noncomputable def Sub (H G : Hp) : Prop := ∀ a o, H a = some o → G a = some o
theorem Sub.refl (H : Hp) : Sub H H := fun _ _ h => h
theorem Sub.trans {H G F : Hp} (p : Sub H G) (q : Sub G F) : Sub H F := fun a o h => q a o (p a o h)
theorem Sub.new {H : Hp} {p : Addr} {o : HO} (h : H p = none) : Sub H (upd H p o) := fun a u e => by
  by_cases c : a = p
  · rw [c, h] at e; cases e
  · rw [upd_ne c]; exact e
theorem Sub.none {H G : Hp} (s : Sub H G) {p : Addr} (h : G p = none) : H p = none := by
  cases q : H p with
  | none => rfl
  | some o => rw [s p o q] at h; cases h
theorem Sub.rd {H G : Hp} (s : Sub H G) {a : Addr} {u : HO} (h : Rd H a u) : Rd G a u := by
  rcases h with h | ⟨o, h⟩
  · exact .inl (s _ _ h)
  · exact .inr ⟨o, s _ _ h⟩
theorem Sub.sqt {K : PySem.W.Frag} {H G : Hp} (s : Sub H G) {a : Addr} {vs : List V} (h : SqT K H a vs) : SqT K G a vs := by
  rcases h with h | h
  · exact .inl (s.rd h)
  · exact .inr h
theorem Sub.sql {K : PySem.W.Frag} {H G : Hp} (s : Sub H G) {a : Addr} {vs : List V} (h : SqL K H a vs) : SqL K G a vs := by
  rcases h with h | h
  · exact .inl (s.rd h)
  · exact .inr h
theorem pre_get {r r2 : List Addr} (p : r <+: r2) {i : Nat} {a : Addr} (h : r[i]? = some a) : r2[i]? = some a := by
  obtain ⟨t, rfl⟩ := p
  have hl := (List.getElem?_eq_some_iff.mp h).1
  rw [List.getElem?_append_left hl]
  exact h
section
variable {T : Tab} {B B2 H : Hp} {r r2 : List Addr}
mutual
theorem Rep.mono (s : Sub B B2) (p : r <+: r2) : ∀ {v : V} {w : W}, Rep T B r v w → Rep T B2 r2 v w
  | _, _, .non => .non
  | _, _, .bl b => .bl b
  | _, _, .int i => .int i
  | _, _, .str x => .str x
  | _, _, .lst h l => .lst (s.rd h) (RepL.mono s p l)
  | _, _, .tup h l => .tup (s.sqt h) (RepL.mono s p l)
  | _, _, .scr h l => .scr (s.sql h) (RepL.mono s p l)
  | _, _, .ref h => .ref (pre_get p h)
  | _, _, .raw v => .raw v
  | _, _, .fn f => .fn f
  | _, _, .exc c h => .exc c (s _ _ h)
theorem RepL.mono (s : Sub B B2) (p : r <+: r2) : ∀ {vs : List V} {ws : List W}, RepL T B r vs ws → RepL T B2 r2 vs ws
  | _, _, .nil => .nil
  | _, _, .cons h l => .cons (Rep.mono s p h) (RepL.mono s p l)
end
theorem RepL.len : ∀ {vs : List V} {ws : List W}, RepL T B r vs ws → vs.length = ws.length
  | _, _, .nil => rfl
  | _, _, .cons _ l => by rw [List.length_cons, List.length_cons, RepL.len l]
theorem RepL.app : ∀ {vs us : List V} {ws zs : List W}, RepL T B r vs ws → RepL T B r us zs → RepL T B r (vs ++ us) (ws ++ zs)
  | _, _, _, _, .nil, q => q
  | _, _, _, _, .cons h l, q => .cons h (RepL.app l q)
theorem RepL.take : ∀ {vs : List V} {ws : List W} (n : Nat), RepL T B r vs ws → RepL T B r (vs.take n) (ws.take n)
  | _, _, 0, _ => by rw [List.take_zero, List.take_zero]; exact .nil
  | _, _, _ + 1, .nil => .nil
  | _, _, n + 1, .cons h l => .cons h (RepL.take n l)
theorem RepL.drop : ∀ {vs : List V} {ws : List W} (n : Nat), RepL T B r vs ws → RepL T B r (vs.drop n) (ws.drop n)
  | _, _, 0, q => q
  | _, _, _ + 1, .nil => .nil
  | _, _, n + 1, .cons _ l => RepL.drop n l
theorem RepL.rev : ∀ {vs : List V} {ws : List W}, RepL T B r vs ws → RepL T B r vs.reverse ws.reverse
  | _, _, .nil => .nil
  | _, _, .cons h l => by
    rw [List.reverse_cons, List.reverse_cons]
    exact RepL.app (RepL.rev l) (.cons h .nil)
theorem RepL.set {v : V} {w : W} (h : Rep T B r v w) : ∀ {vs : List V} {ws : List W} (i : Nat), RepL T B r vs ws → RepL T B r (vs.set i v) (ws.set i w)
  | _, _, _, .nil => .nil
  | _, _, 0, .cons _ l => .cons h l
  | _, _, i + 1, .cons q l => .cons q (RepL.set h i l)
theorem RepL.erase : ∀ {vs : List V} {ws : List W} (i : Nat), RepL T B r vs ws → RepL T B r (vs.eraseIdx i) (ws.eraseIdx i)
  | _, _, _, .nil => .nil
  | _, _, 0, .cons _ l => l
  | _, _, i + 1, .cons q l => .cons q (RepL.erase i l)
theorem RepL.rep {vs : List V} {ws : List W} (h : RepL T B r vs ws) : ∀ n : Nat, RepL T B r (List.replicate n vs).flatten (List.replicate n ws).flatten
  | 0 => .nil
  | n + 1 => by
    rw [List.replicate_succ, List.replicate_succ, List.flatten_cons, List.flatten_cons]
    exact RepL.app h (RepL.rep h n)
theorem RepL.get : ∀ {vs : List V} {ws : List W} {i : Nat} {w : W}, RepL T B r vs ws → ws[i]? = some w → ∃ v, vs[i]? = some v ∧ Rep T B r v w
  | _, _, _, _, .nil, e => by simp at e
  | _, _, 0, _, .cons h _, e => by
    rw [List.getElem?_cons_zero] at e; cases e
    exact ⟨_, rfl, h⟩
  | _, _, i + 1, _, .cons _ l, e => by
    rw [List.getElem?_cons_succ] at e
    obtain ⟨v, h1, h2⟩ := RepL.get l e
    exact ⟨v, by rw [List.getElem?_cons_succ]; exact h1, h2⟩
theorem RepL.getV : ∀ {vs : List V} {ws : List W} {i : Nat} {v : V}, RepL T B r vs ws → vs[i]? = some v → ∃ w, ws[i]? = some w ∧ Rep T B r v w
  | _, _, _, _, .nil, e => by simp at e
  | _, _, 0, _, .cons h _, e => by
    rw [List.getElem?_cons_zero] at e; cases e
    exact ⟨_, rfl, h⟩
  | _, _, i + 1, _, .cons _ l, e => by
    rw [List.getElem?_cons_succ] at e
    obtain ⟨v, h1, h2⟩ := RepL.getV l e
    exact ⟨v, by rw [List.getElem?_cons_succ]; exact h1, h2⟩
theorem RepL.ints : ∀ {ws : List W} {vs : List V} {ns : List Int}, RepL T B r vs ws → intsW ws = some ns → vs = ns.map V.int
  | [], _, _, h, e => by
    cases h
    simp only [intsW, Option.some.injEq] at e; subst e; rfl
  | w :: ws, _, _, h, e => by
    cases h with
    | cons h l =>
      cases w with
      | int i =>
        cases h
        simp only [intsW] at e
        cases q : intsW ws with
        | none => rw [q] at e; cases e
        | some ms =>
          rw [q] at e
          simp only [Option.map_some, Option.some.injEq] at e
          subst e
          rw [RepL.ints l q, List.map_cons]
      | _ => simp [intsW] at e
theorem RepL.bls : ∀ {ws : List W} {vs : List V} {ns : List Bool}, RepL T B r vs ws → blsW ws = some ns → vs = ns.map V.bl
  | [], _, _, h, e => by
    cases h
    simp only [blsW, Option.some.injEq] at e; subst e; rfl
  | w :: ws, _, _, h, e => by
    cases h with
    | cons h l =>
      cases w with
      | bl i =>
        cases h
        simp only [blsW] at e
        cases q : blsW ws with
        | none => rw [q] at e; cases e
        | some ms =>
          rw [q] at e
          simp only [Option.map_some, Option.some.injEq] at e
          subst e
          rw [RepL.bls l q, List.map_cons]
      | _ => simp [blsW] at e
theorem Rep.ints : ∀ (ns : List Int), RepL T B r (ns.map V.int) (ns.map W.int)
  | [] => .nil
  | n :: ns => .cons (.int n) (Rep.ints ns)
end
/-! ### pairs of a dict, attributes -/
inductive RepK {κ : Type} (T : Tab) (B : Hp) (r : List Addr) : List (κ × V) → List (κ × W) → Prop
  | nil : RepK T B r [] []
  | cons {k : κ} {v : V} {w : W} {vs : List (κ × V)} {ws : List (κ × W)} : Rep T B r v w → RepK T B r vs ws → RepK T B r ((k, v) :: vs) ((k, w) :: ws)
inductive RepO (T : Tab) (B : Hp) (r : List Addr) : HO → Ob → Prop
  | lst {vs : List V} {ws : List W} : RepL T B r vs ws → RepO T B r (.lst vs) (.lst ws)
  | dic {vs : List (Key × V)} {ws : List (Key × W)} : RepK T B r vs ws → RepO T B r (.dK vs) (.dic ws)
  | ins {c : Nat} {dx : Addr} {vs : List (Str × V)} {ws : List (Str × W)} : RepK T B r vs ws → RepO T B r (.ins (T.ca c) dx vs) (.ins c ws)
  | lk {o : PySem.Obj} {vs : List (Key × V)} {ws : List (Key × W)} : RepK T B r vs ws → RepO T B r (.frz o (.dK vs)) (.lk ws)
section
variable {T : Tab} {B B2 H : Hp} {r r2 : List Addr}
theorem RepK.mono {κ : Type} (s : Sub B B2) (p : r <+: r2) : ∀ {vs : List (κ × V)} {ws : List (κ × W)}, RepK T B r vs ws → RepK T B2 r2 vs ws
  | _, _, .nil => .nil
  | _, _, .cons h l => .cons (h.mono s p) (RepK.mono s p l)
theorem RepO.mono (s : Sub B B2) (p : r <+: r2) {o : HO} {b : Ob} (h : RepO T B r o b) : RepO T B2 r2 o b := by
  cases h with
  | lst l => exact .lst (l.mono s p)
  | dic l => exact .dic (l.mono s p)
  | ins l => exact .ins (l.mono s p)
  | lk l => exact .lk (l.mono s p)
end
/-! ### the state -/
structure Ext (P B : Hp) (r : List Addr) (B2 : Hp) (r2 : List Addr) : Prop where
  sub : Sub B B2
  pre : r <+: r2
  fix : ∀ a, P a ≠ none → B2 a = B a
theorem Ext.refl {P B : Hp} {r : List Addr} : Ext P B r B r := ⟨Sub.refl B, List.prefix_refl r, fun _ _ => rfl⟩
theorem Ext.trans {P B B2 B3 : Hp} {r r2 r3 : List Addr} (e : Ext P B r B2 r2) (f : Ext P B2 r2 B3 r3) : Ext P B r B3 r3 :=
  ⟨e.sub.trans f.sub, e.pre.trans f.pre, fun a h => (f.fix a h).trans (e.fix a h)⟩
noncomputable def LkB (B : Hp) (a : Addr) : Prop := ∃ o kvs, B a = some (.frz o (.dK kvs))
theorem LkB.upd {B : Hp} {a p : Addr} {o : HO} (c : a ≠ p) (h : B a = none ∨ LkB B a) : upd B p o a = none ∨ LkB (upd B p o) a := by
  unfold LkB
  rw [upd_ne c]; exact h
theorem LkB.mono {B B2 : Hp} {a : Addr} (s : Sub B B2) (h : LkB B a) : LkB B2 a := by
  obtain ⟨o, kvs, h⟩ := h
  exact ⟨o, kvs, s _ _ h⟩
noncomputable def Ob.un : Ob → Bool
  | .lk _ => false
  | _ => true
structure RelS (T : Tab) (B : Hp) (r : List Addr) (P : Hp) (m : Sto) (H : Hp) : Prop where
  bh : Sub B H
  ph : Sub P H
  nd : r.Nodup
  len : r.length = m.length
  fr : ∀ a ∈ r, (B a = none ∨ LkB B a) ∧ P a = none
  ob : ∀ (i : Nat) (b : Ob), m[i]? = some b → ∃ a o, r[i]? = some a ∧ H a = some o ∧ RepO T B r o b
  lkb : ∀ (i : Nat) (kvs : List (Key × W)) (a : Addr), m[i]? = some (.lk kvs) → r[i]? = some a → LkB B a
structure Own (T : Tab) (B : Hp) (r : List Addr) (P H : Hp) (p : Addr) (ws : List W) : Prop where
  at_ : ∃ vs, H p = some (.lst vs) ∧ RepL T B r vs ws
  nb : B p = none
  np : P p = none
  nr : p ∉ r
noncomputable def SlRep (T : Tab) (B : Hp) (r : List Addr) (P H : Hp) (v : V) : Sl → Prop
  | .val w => Rep T B r v w
  | .own ws => ∃ p, v = .ref p ∧ Own T B r P H p ws
structure RelE (T : Tab) (B : Hp) (r : List Addr) (P H : Hp) (en : En) (σ : Slo) : Prop where
  len : en.length = σ.length
  sl : ∀ (j : Nat) (s : Sl), en[j]? = some (some s) → ∃ v, σ[j]? = some (some v) ∧ SlRep T B r P H v s
  dis : ∀ (j k : Nat) (ws zs : List W) (p : Addr), en[j]? = some (some (.own ws)) → en[k]? = some (some (.own zs)) → σ[j]? = some (some (.ref p)) → σ[k]? = some (some (.ref p)) → j = k
structure Rel (T : Tab) (B : Hp) (r : List Addr) (P : Hp) (m : Sto) (en : En) (σ : Slo) (H : Hp) : Prop where
  s : RelS T B r P m H
  e : RelE T B r P H en σ
noncomputable def RepR (T : Tab) (B : Hp) (r : List Addr) (P : Hp) (en : En) (σ : Slo) (H : Hp) (v : V) : RV → Prop
  | .val w => Rep T B r v w
  | .new ws => ∃ p, v = .ref p ∧ Own T B r P H p ws ∧ ∀ (j : Nat) (zs : List W), en[j]? = some (some (Sl.own zs)) → σ[j]? ≠ some (some (.ref p))
  | .bor j => σ[j]? = some (some v)
noncomputable def RepT (T : Tab) (B : Hp) (r : List Addr) (H : Hp) (v : V) (w : W) : Prop :=
  Rep T B r v w ∨ ∃ a vs ws, v = .ref a ∧ w = .lst ws ∧ H a = some (.lst vs) ∧ RepL T B r vs ws
section
variable {T : Tab} {B B2 P H H2 : Hp} {r r2 : List Addr} {m : Sto} {en : En} {σ : Slo} {v : V} {w : W} {ws : List W} {p : Addr} {j : Nat}
theorem enGet_some {s : Sl} (h : enGet en j = some s) : en[j]? = some (some s) := by
  unfold enGet at h
  cases q : en[j]? with
  | none => rw [q] at h; cases h
  | some o => rw [q] at h; cases h; rfl
theorem enGet_of {s : Sl} (h : en[j]? = some (some s)) : enGet en j = some s := by
  unfold enGet; rw [h]; rfl
theorem Own.mono (e : Ext P B r B2 r2) (h : Own T B r P H p ws) (hb : B2 p = none) (hr : p ∉ r2) : Own T B2 r2 P H p ws := by
  obtain ⟨⟨vs, h1, h2⟩, _, h4, _⟩ := h
  exact ⟨⟨vs, h1, h2.mono e.sub e.pre⟩, hb, h4, hr⟩
theorem Own.grow (s : Sub H H2) (h : Own T B r P H p ws) : Own T B r P H2 p ws := by
  obtain ⟨⟨vs, h1, h2⟩, h3, h4, h5⟩ := h
  exact ⟨⟨vs, s _ _ h1, h2⟩, h3, h4, h5⟩
theorem RelS.grow (R : RelS T B r P m H) (s : Sub H H2) : RelS T B r P m H2 :=
  ⟨R.bh.trans s, R.ph.trans s, R.nd, R.len, R.fr, fun i b h => by
    obtain ⟨a, o, h1, h2, h3⟩ := R.ob i b h
    exact ⟨a, o, h1, s _ _ h2, h3⟩, R.lkb⟩
theorem RelE.grow (R : RelE T B r P H en σ) (s : Sub H H2) : RelE T B r P H2 en σ :=
  ⟨R.len, fun j sl h => by
    obtain ⟨v, h1, h2⟩ := R.sl j sl h
    refine ⟨v, h1, ?_⟩
    cases sl with
    | val w => exact h2
    | own ws =>
      obtain ⟨p, h3, h4⟩ := h2
      exact ⟨p, h3, h4.grow s⟩, R.dis⟩
theorem Rel.grow (R : Rel T B r P m en σ H) (s : Sub H H2) : Rel T B r P m en σ H2 := ⟨R.s.grow s, R.e.grow s⟩
theorem RepR.grow {x : RV} (s : Sub H H2) (h : RepR T B r P en σ H v x) : RepR T B r P en σ H2 v x := by
  cases x with
  | val w => exact h
  | new ws =>
    obtain ⟨p, h1, h2, h3⟩ := h
    exact ⟨p, h1, h2.grow s, h3⟩
  | bor j => exact h
theorem RelE.own_at (R : RelE T B r P H en σ) (h : en[j]? = some (some (.own ws))) : ∃ p, σ[j]? = some (some (.ref p)) ∧ Own T B r P H p ws := by
  obtain ⟨v, h1, p, rfl, h2⟩ := R.sl j _ h
  exact ⟨p, h1, h2⟩
theorem Rel.frz_at (R : Rel T B r P m en σ H) (o : Own T B r P H p ws) (h : ∀ (j : Nat) (zs : List W), en[j]? = some (some (Sl.own zs)) → σ[j]? ≠ some (some (.ref p))) :
    ∃ B2, Ext P B r B2 r ∧ Rel T B2 r P m en σ H ∧ Rep T B2 r (.ref p) (.lst ws) := by
  obtain ⟨⟨vs, h1, h2⟩, h3, h4, h5⟩ := o
  have sb : Sub B (upd B p (.lst vs)) := Sub.new h3
  have ex : Ext P B r (upd B p (.lst vs)) r := ⟨sb, List.prefix_refl r, fun a ha => by
    by_cases c : a = p
    · rw [c] at ha; exact absurd h4 ha
    · rw [upd_ne c]⟩
  refine ⟨upd B p (.lst vs), ex, ⟨⟨fun a q e => ?_, R.s.ph, R.s.nd, R.s.len, fun a ha => ⟨?_, (R.s.fr a ha).2⟩, fun i b hi => ?_, fun i kvs a h1 h2 => (R.s.lkb i kvs a h1 h2).mono sb⟩, R.e.len, fun k s hk => ?_, R.e.dis⟩, .lst (.inl upd_same) (h2.mono sb (List.prefix_refl r))⟩
  · by_cases c : a = p
    · rw [c, upd_same] at e; cases e; rw [c]; exact h1
    · rw [upd_ne c] at e; exact R.s.bh a q e
  · have c : a ≠ p := fun z => h5 (z ▸ ha)
    exact LkB.upd c (R.s.fr a ha).1
  · obtain ⟨a, q, e1, e2, e3⟩ := R.s.ob i b hi
    exact ⟨a, q, e1, e2, e3.mono sb (List.prefix_refl r)⟩
  · obtain ⟨v, e1, e2⟩ := R.e.sl k s hk
    refine ⟨v, e1, ?_⟩
    cases s with
    | val w => exact Rep.mono sb (List.prefix_refl r) e2
    | own zs =>
      obtain ⟨q, e3, e4⟩ := e2
      subst e3
      have c : q ≠ p := fun z => h k zs hk (z ▸ e1)
      exact ⟨q, rfl, e4.mono ex (by rw [upd_ne c]; exact e4.nb) e4.nr⟩
theorem Rel.hold (R : Rel T B r P m en σ H) {x : RV} (h : RepR T B r P en σ H v x) :
    ∃ B2, Ext P B r B2 r ∧ Rel T B2 r P m en σ H ∧ RepR T B2 r P en σ H v (hold x) := by
  cases x with
  | val w => exact ⟨B, Ext.refl, R, h⟩
  | bor j => exact ⟨B, Ext.refl, R, h⟩
  | new ws =>
    obtain ⟨p, rfl, h2, h3⟩ := h
    obtain ⟨B2, e, R2, q⟩ := R.frz_at h2 h3
    exact ⟨B2, e, R2, q⟩
theorem RepR.held {P2 B3 : Hp} {r3 : List Addr} {en3 : En} {H3 : Hp} {x : RV} (h : RepR T B r P en σ H v (Mp.hold x)) (s : Sub B B3) (p : r <+: r3) : RepR T B3 r3 P2 en3 σ H3 v (Mp.hold x) := by
  cases x with
  | val w => exact Rep.mono s p h
  | bor j => exact h
  | new ws => exact Rep.mono s p h
theorem Rel.set_val (R : Rel T B r P m en σ H) (h : Rep T B r v w) : Rel T B r P m (en.set j (some (.val w))) (σ.set j (some v)) H := by
  refine ⟨R.s, by rw [List.length_set, List.length_set]; exact R.e.len, fun k s hk => ?_, fun k l ws zs p h1 h2 h3 h4 => ?_⟩
  · by_cases c : j = k
    · subst c
      by_cases hl : j < en.length
      · rw [List.getElem?_set_self hl] at hk
        have hs : j < σ.length := R.e.len ▸ hl
        cases hk
        exact ⟨v, List.getElem?_set_self hs, h⟩
      · rw [List.getElem?_eq_none (by rw [List.length_set]; omega)] at hk; cases hk
    · rw [List.getElem?_set_ne c] at hk
      rw [List.getElem?_set_ne c]
      exact R.e.sl k s hk
  · have ne : ∀ i ws, (en.set j (some (.val w)))[i]? = some (some (.own ws)) → j ≠ i := fun i ws q c => by
      subst c
      by_cases hl : j < en.length
      · rw [List.getElem?_set_self hl] at q; cases q
      · rw [List.getElem?_eq_none (by rw [List.length_set]; omega)] at q; cases q
    have c1 := ne k ws h1
    have c2 := ne l zs h2
    rw [List.getElem?_set_ne c1] at h1 h3
    rw [List.getElem?_set_ne c2] at h2 h4
    exact R.e.dis k l ws zs p h1 h2 h3 h4
theorem Rel.set_own (R : Rel T B r P m en σ H) (h : RepR T B r P en σ H v (.new ws)) : Rel T B r P m (en.set j (some (.own ws))) (σ.set j (some v)) H := by
  obtain ⟨p, rfl, ho, hd⟩ := h
  have get : ∀ k s, (en.set j (some (.own ws)))[k]? = some (some s) → (j = k ∧ s = .own ws ∧ j < σ.length) ∨ (j ≠ k ∧ en[k]? = some (some s)) := fun k s hk => by
    by_cases c : j = k
    · subst c
      by_cases hl : j < en.length
      · rw [List.getElem?_set_self hl] at hk
        cases hk
        exact .inl ⟨rfl, rfl, R.e.len ▸ hl⟩
      · rw [List.getElem?_eq_none (by rw [List.length_set]; omega)] at hk; cases hk
    · rw [List.getElem?_set_ne c] at hk
      exact .inr ⟨c, hk⟩
  refine ⟨R.s, by rw [List.length_set, List.length_set]; exact R.e.len, fun k s hk => ?_, fun k l xs zs q h1 h2 h3 h4 => ?_⟩
  · rcases get k s hk with ⟨c, e, hs⟩ | ⟨c, e⟩
    · subst c e
      exact ⟨.ref p, List.getElem?_set_self hs, p, rfl, ho⟩
    · rw [List.getElem?_set_ne c]
      exact R.e.sl k s e
  · rcases get k _ h1 with ⟨c1, e1, hs⟩ | ⟨c1, e1⟩
    · subst c1
      rcases get l _ h2 with ⟨c2, e2, _⟩ | ⟨c2, e2⟩
      · exact c2
      · rw [List.getElem?_set_self hs] at h3
        cases h3
        rw [List.getElem?_set_ne c2] at h4
        exact absurd h4 (hd l zs e2)
    · rw [List.getElem?_set_ne c1] at h3
      rcases get l _ h2 with ⟨c2, e2, hs⟩ | ⟨c2, e2⟩
      · subst c2
        rw [List.getElem?_set_self hs] at h4
        cases h4
        exact absurd h3 (hd k xs e1)
      · rw [List.getElem?_set_ne c2] at h4
        exact R.e.dis k l xs zs q e1 e2 h3 h4
theorem set_same {A : Type} {l : List A} {i : Nat} {x : A} (h : l[i]? = some x) : l.set i x = l := by
  apply List.ext_getElem?
  intro k
  by_cases c : i = k
  · subst c
    have hl := (List.getElem?_eq_some_iff.mp h).1
    rw [List.getElem?_set_self hl, h]
  · rw [List.getElem?_set_ne c]
theorem Rel.frz_slot (R : Rel T B r P m en σ H) (h : en[j]? = some (some (.own ws))) (hv : σ[j]? = some (some v)) :
    ∃ B2, Ext P B r B2 r ∧ Rel T B2 r P m (en.set j (some (.val (.lst ws)))) σ H ∧ Rep T B2 r v (.lst ws) := by
  obtain ⟨p, h1, h2⟩ := R.e.own_at h
  rw [hv] at h1; cases h1
  -- the slot is forgotten first
  have hl : j < en.length := (List.getElem?_eq_some_iff.mp h).1
  have R0 : Rel T B r P m (en.set j none) σ H := by
    have get : ∀ k s, (en.set j none)[k]? = some (some s) → j ≠ k ∧ en[k]? = some (some s) := fun k s hk => by
      by_cases c : j = k
      · subst c; rw [List.getElem?_set_self hl] at hk; cases hk
      · rw [List.getElem?_set_ne c] at hk; exact ⟨c, hk⟩
    refine ⟨R.s, by rw [List.length_set]; exact R.e.len, fun k s hk => R.e.sl k s (get k s hk).2, fun k l xs zs q e1 e2 e3 e4 => R.e.dis k l xs zs q (get k _ e1).2 (get l _ e2).2 e3 e4⟩
  have hd : ∀ (k : Nat) (zs : List W), (en.set j none)[k]? = some (some (Sl.own zs)) → σ[k]? ≠ some (some (.ref p)) := fun k zs hk e => by
    by_cases c : j = k
    · subst c; rw [List.getElem?_set_self hl] at hk; cases hk
    · rw [List.getElem?_set_ne c] at hk
      exact c (R.e.dis j k ws zs p h hk hv e)
  obtain ⟨B2, e, R2, q⟩ := R0.frz_at h2 hd
  refine ⟨B2, e, ?_, q⟩
  have z := R2.set_val (j := j) q
  rw [List.set_set, set_same hv] at z
  exact z
theorem Rel.esc (R : Rel T B r P m en σ H) {x : RV} (h : RepR T B r P en σ H v x) {en2 : En} (e : Mp.esc x en = some (w, en2)) :
    ∃ B2, Ext P B r B2 r ∧ Rel T B2 r P m en2 σ H ∧ Rep T B2 r v w := by
  cases x with
  | val u =>
    simp only [Mp.esc, Option.some.injEq, Prod.mk.injEq] at e
    obtain ⟨rfl, rfl⟩ := e
    exact ⟨B, Ext.refl, R, h⟩
  | new ws =>
    simp only [Mp.esc, Option.some.injEq, Prod.mk.injEq] at e
    obtain ⟨rfl, rfl⟩ := e
    obtain ⟨p, rfl, h2, h3⟩ := h
    exact R.frz_at h2 h3
  | bor j =>
    simp only [Mp.esc] at e
    cases q : enGet en j with
    | none => rw [q] at e; cases e
    | some s =>
      rw [q] at e
      have hj := enGet_some q
      cases s with
      | own ws =>
        simp only [Option.some.injEq, Prod.mk.injEq] at e
        obtain ⟨rfl, rfl⟩ := e
        exact R.frz_slot hj h
      | val u =>
        simp only [Option.some.injEq, Prod.mk.injEq] at e
        obtain ⟨rfl, rfl⟩ := e
        obtain ⟨v2, h1, h2⟩ := R.e.sl j _ hj
        have hh : σ[j]? = some (some v) := h
        rw [hh] at h1; cases h1
        exact ⟨B, Ext.refl, R, h2⟩
theorem Rel.top (R : Rel T B r P m en σ H) {x : RV} (h : RepR T B r P en σ H v x) (e : rvW en x = some w) : RepT T B r H v w := by
  cases x with
  | val u => simp only [rvW, Option.some.injEq] at e; subst e; exact .inl h
  | new ws =>
    simp only [rvW, Option.some.injEq] at e; subst e
    obtain ⟨p, rfl, ⟨⟨vs, h1, h2⟩, _, _, _⟩, _⟩ := h
    exact .inr ⟨p, vs, ws, rfl, rfl, h1, h2⟩
  | bor j =>
    simp only [rvW] at e
    cases q : enGet en j with
    | none => rw [q] at e; cases e
    | some s =>
      rw [q] at e
      simp only [Option.map_some, Option.some.injEq] at e
      subst e
      obtain ⟨v2, h1, h2⟩ := R.e.sl j _ (enGet_some q)
      have hh : σ[j]? = some (some v) := h
      rw [hh] at h1; cases h1
      cases s with
      | val u => exact .inl h2
      | own ws =>
        obtain ⟨p, rfl, ⟨⟨vs, h1, h2⟩, _, _, _⟩⟩ := h2
        exact .inr ⟨p, vs, ws, rfl, rfl, h1, h2⟩
theorem RepT.lst (R : RelS T B r P m H) (h : RepT T B r H v w) (e : lstW m w = some ws) : ∃ a vs, v = .ref a ∧ Rd H a (.lst vs) ∧ RepL T B r vs ws := by
  rcases h with h | ⟨a, vs, zs, rfl, rfl, h1, h2⟩
  · cases h with
    | lst h1 h2 => simp only [lstW, Option.some.injEq] at e; subst e; exact ⟨_, _, rfl, R.bh.rd h1, h2⟩
    | ref h1 =>
      simp only [lstW] at e
      rename_i a i
      cases q : m[i]? with
      | none => rw [q] at e; cases e
      | some b =>
        rw [q] at e
        cases b with
        | lst zs =>
          simp only [Option.some.injEq] at e; subst e
          obtain ⟨a2, o, e1, e2, e3⟩ := R.ob i _ q
          rw [h1] at e1; cases e1
          cases e3 with
          | lst l => exact ⟨_, _, rfl, .inl e2, l⟩
        | dic _ => cases e
        | ins _ _ => cases e
        | lk _ => cases e
    | non => cases e
    | bl _ => cases e
    | int _ => cases e
    | str _ => cases e
    | tup _ _ => cases e
    | scr _ _ => cases e
    | raw _ => cases e
    | fn _ => cases e
    | exc _ _ => cases e
  · simp only [lstW, Option.some.injEq] at e; subst e
    exact ⟨a, vs, rfl, .inl h1, h2⟩
theorem RepT.lsts (R : RelS T B r P m H) (h : RepT T B r H v w) (e : lstS m w = some ws) : ∃ a vs, v = .ref a ∧ SqL T.K H a vs ∧ RepL T B r vs ws := by
  by_cases c : ∃ zs, w = .scr zs
  · obtain ⟨zs, rfl⟩ := c
    simp only [lstS, Option.some.injEq] at e; subst e
    rcases h with h | ⟨_, _, _, _, h, _⟩
    · cases h with
      | scr h1 h2 => exact ⟨_, _, rfl, R.bh.sql h1, h2⟩
    · cases h
  · have e2 : lstW m w = some ws := by
      cases w with
      | scr zs => exact absurd ⟨zs, rfl⟩ c
      | _ => exact e
    obtain ⟨a, vs, h1, h2, h3⟩ := RepT.lst R h e2
    exact ⟨a, vs, h1, .inl h2, h3⟩
theorem RepT.seq (R : RelS T B r P m H) (h : RepT T B r H v w) (e : seqW m w = some ws) : ∃ a vs, v = .ref a ∧ (SqL T.K H a vs ∨ SqT T.K H a vs) ∧ RepL T B r vs ws := by
  by_cases c : ∃ zs, w = .tup zs
  · obtain ⟨zs, rfl⟩ := c
    simp only [seqW, Option.some.injEq] at e; subst e
    rcases h with h | ⟨_, _, _, _, h, _⟩
    · cases h with
      | tup h1 h2 => exact ⟨_, _, rfl, .inr (R.bh.sqt h1), h2⟩
    · cases h
  · have e2 : lstS m w = some ws := by
      cases w with
      | tup zs => exact absurd ⟨zs, rfl⟩ c
      | _ => exact e
    obtain ⟨a, vs, h1, h2, h3⟩ := RepT.lsts R h e2
    exact ⟨a, vs, h1, .inl h2, h3⟩
theorem RepT.int {i : Int} (h : RepT T B r H v (.int i)) : v = .int i := by
  rcases h with h | ⟨_, _, _, _, h, _⟩
  · cases h; rfl
  · cases h
theorem RepT.bl {b : Bool} (h : RepT T B r H v (.bl b)) : v = .bl b := by
  rcases h with h | ⟨_, _, _, _, h, _⟩
  · cases h; rfl
  · cases h
theorem RepT.str {b : Str} (h : RepT T B r H v (.str b)) : v = .str b := by
  rcases h with h | ⟨_, _, _, _, h, _⟩
  · cases h; rfl
  · cases h
theorem RepT.non (h : RepT T B r H v .non) : v = .non := by
  rcases h with h | ⟨_, _, _, _, h, _⟩
  · cases h; rfl
  · cases h
/-! ### changes -/
theorem sub_upd {F : Hp} {a : Addr} {o : HO} (s : Sub F H) (h : F a = none) : Sub F (upd H a o) := fun b u e => by
  have c : b ≠ a := fun z => by rw [z, h] at e; cases e
  rw [upd_ne c]; exact s b u e
theorem RelS.upd_out (R : RelS T B r P m H) {a : Addr} {o : HO} (hb : B a = none) (hp : P a = none) (hr : a ∉ r) : RelS T B r P m (upd H a o) :=
  ⟨sub_upd R.bh hb, sub_upd R.ph hp, R.nd, R.len, R.fr, fun i b h => by
    obtain ⟨c, q, h1, h2, h3⟩ := R.ob i b h
    have ne : c ≠ a := fun z => hr (z ▸ List.mem_of_getElem? h1)
    exact ⟨c, q, h1, by rw [upd_ne ne]; exact h2, h3⟩, R.lkb⟩
theorem Rel.upd_own (R : Rel T B r P m en σ H) (h : en[j]? = some (some (.own ws))) (hv : σ[j]? = some (some (.ref p))) {us : List V} {zs : List W} (l : RepL T B r us zs) :
    Rel T B r P m (en.set j (some (.own zs))) σ (upd H p (.lst us)) := by
  obtain ⟨q, h1, h2⟩ := R.e.own_at h
  rw [hv] at h1; cases h1
  have hl : j < en.length := (List.getElem?_eq_some_iff.mp h).1
  have get : ∀ (k : Nat) (s : Sl), (en.set j (some (.own zs)))[k]? = some (some s) → (j = k ∧ s = .own zs) ∨ (j ≠ k ∧ en[k]? = some (some s)) := fun k s hk => by
    by_cases c : j = k
    · subst c; rw [List.getElem?_set_self hl] at hk; cases hk; exact .inl ⟨rfl, rfl⟩
    · rw [List.getElem?_set_ne c] at hk; exact .inr ⟨c, hk⟩
  have old : ∀ (k : Nat) (xs : List W), (en.set j (some (.own zs)))[k]? = some (some (.own xs)) → ∃ ys, en[k]? = some (some (.own ys)) := fun k xs hk => by
    rcases get k _ hk with ⟨c, _⟩ | ⟨_, e⟩
    · subst c; exact ⟨ws, h⟩
    · exact ⟨xs, e⟩
  refine ⟨R.s.upd_out h2.nb h2.np h2.nr, by rw [List.length_set]; exact R.e.len, fun k s hk => ?_, fun k l2 xs ys q e1 e2 e3 e4 => ?_⟩
  · rcases get k s hk with ⟨c, e⟩ | ⟨c, e⟩
    · subst c e
      exact ⟨.ref p, hv, p, rfl, ⟨us, upd_same, l⟩, h2.nb, h2.np, h2.nr⟩
    · obtain ⟨v, e1, e2⟩ := R.e.sl k s e
      refine ⟨v, e1, ?_⟩
      cases s with
      | val w => exact e2
      | own ys =>
        obtain ⟨q, rfl, o⟩ := e2
        have ne : q ≠ p := fun z => c (R.e.dis j k ws ys p h e hv (z ▸ e1))
        obtain ⟨⟨xs, a1, a2⟩, a3, a4, a5⟩ := o
        exact ⟨q, rfl, ⟨xs, by rw [upd_ne ne]; exact a1, a2⟩, a3, a4, a5⟩
  · obtain ⟨xs2, e1⟩ := old k xs e1
    obtain ⟨ys2, e2⟩ := old l2 ys e2
    exact R.e.dis k l2 xs2 ys2 q e1 e2 e3 e4
theorem RelS.nb_of (R : RelS T B r P m H) {i : Nat} {a : Addr} {b0 : Ob} (h : r[i]? = some a) (hm : m[i]? = some b0) (hu : b0.un = true) : B a = none := by
  rcases (R.fr a (List.mem_of_getElem? h)).1 with z | ⟨o, kvs, z⟩
  · exact z
  · obtain ⟨a2, q, e1, e2, e3⟩ := R.ob i b0 hm
    rw [h] at e1; cases e1
    rw [R.bh a _ z] at e2; cases e2
    cases e3
    cases hu
theorem Rel.upd_sto (R : Rel T B r P m en σ H) {i : Nat} {a : Addr} {o : HO} {b b0 : Ob} (h : r[i]? = some a) (hm : m[i]? = some b0) (hu : b0.un = true) (hv : b.un = true) (ob : RepO T B r o b) : Rel T B r P (m.set i b) en σ (upd H a o) := by
  have ha : a ∈ r := List.mem_of_getElem? h
  have fr := R.s.fr a ha
  have nb := R.s.nb_of h hm hu
  refine ⟨⟨sub_upd R.s.bh nb, sub_upd R.s.ph fr.2, R.s.nd, by rw [List.length_set]; exact R.s.len, R.s.fr, fun k c hk => ?_, fun k kvs c hk h2 => ?_⟩, R.e.len, fun k s hk => ?_, R.e.dis⟩
  · by_cases c2 : i = k
    · subst c2
      have hl : i < m.length := by
        have := (List.getElem?_eq_some_iff.mp hk).1
        rw [List.length_set] at this; exact this
      rw [List.getElem?_set_self hl] at hk; cases hk
      exact ⟨a, o, h, upd_same, ob⟩
    · rw [List.getElem?_set_ne c2] at hk
      obtain ⟨d, q, h1, h2, h3⟩ := R.s.ob k c hk
      have ne : d ≠ a := fun z => c2 (nd_ix R.s.nd h (z ▸ h1))
      exact ⟨d, q, h1, by rw [upd_ne ne]; exact h2, h3⟩
  · by_cases c2 : i = k
    · subst c2
      have hl : i < m.length := (List.getElem?_eq_some_iff.mp hm).1
      rw [List.getElem?_set_self hl] at hk
      cases hk; cases hv
    · rw [List.getElem?_set_ne c2] at hk
      exact R.s.lkb k kvs c hk h2
  · obtain ⟨v, e1, e2⟩ := R.e.sl k s hk
    refine ⟨v, e1, ?_⟩
    cases s with
    | val w => exact e2
    | own ys =>
      obtain ⟨q, rfl, o⟩ := e2
      have ne : q ≠ a := fun z => o.nr (z ▸ ha)
      obtain ⟨⟨xs, a1, a2⟩, a3, a4, a5⟩ := o
      exact ⟨q, rfl, ⟨xs, by rw [upd_ne ne]; exact a1, a2⟩, a3, a4, a5⟩
theorem Rel.add_sto (R : Rel T B r P m en σ H) {a : Addr} {o : HO} {b : Ob} (hb : B a = none) (hp : P a = none) (hr : a ∉ r) (ha : H a = some o) (hv : b.un = true) (ob : RepO T B (r ++ [a]) o b)
    (hd : ∀ (j : Nat) (zs : List W), en[j]? = some (some (Sl.own zs)) → σ[j]? ≠ some (some (.ref a))) : Rel T B (r ++ [a]) P (m ++ [b]) en σ H := by
  have px : r <+: r ++ [a] := List.prefix_append r [a]
  refine ⟨⟨R.s.bh, R.s.ph, ?_, by rw [List.length_append, List.length_append, R.s.len]; rfl, fun c hc => ?_, fun i c hi => ?_, fun i kvs c hi h2 => ?_⟩, R.e.len, fun k s hk => ?_, R.e.dis⟩
  · rw [List.nodup_append]
    exact ⟨R.s.nd, by simp, fun x hx y hy z => by
      rw [List.mem_singleton] at hy
      exact hr (hy ▸ z ▸ hx)⟩
  · rcases List.mem_append.mp hc with h | h
    · exact R.s.fr c h
    · rw [List.mem_singleton] at h; subst h; exact ⟨.inl hb, hp⟩
  · by_cases c2 : i < m.length
    · rw [List.getElem?_append_left c2] at hi
      obtain ⟨d, q, h1, h2, h3⟩ := R.s.ob i c hi
      exact ⟨d, q, pre_get px h1, h2, h3.mono (Sub.refl B) px⟩
    · have hl := (List.getElem?_eq_some_iff.mp hi).1
      rw [List.length_append, List.length_singleton] at hl
      have e : i = m.length := by omega
      subst e
      rw [List.getElem?_append_right (Nat.le_refl _), Nat.sub_self] at hi
      cases hi
      refine ⟨a, o, ?_, ha, ob⟩
      rw [← R.s.len, List.getElem?_append_right (Nat.le_refl _), Nat.sub_self]; rfl
  · by_cases c2 : i < m.length
    · rw [List.getElem?_append_left c2] at hi
      rw [List.getElem?_append_left (by rw [R.s.len]; exact c2)] at h2
      exact R.s.lkb i kvs c hi h2
    · have hl := (List.getElem?_eq_some_iff.mp hi).1
      rw [List.length_append, List.length_singleton] at hl
      have e : i = m.length := by omega
      subst e
      rw [List.getElem?_append_right (Nat.le_refl _), Nat.sub_self] at hi
      cases hi; cases hv
  · obtain ⟨v, e1, e2⟩ := R.e.sl k s hk
    refine ⟨v, e1, ?_⟩
    cases s with
    | val w => exact Rep.mono (Sub.refl B) px e2
    | own ys =>
      obtain ⟨q, rfl, o2⟩ := e2
      have ne : q ≠ a := fun z => hd k ys hk (z ▸ e1)
      refine ⟨q, rfl, o2.mono (B2 := B) (r2 := r ++ [a]) ⟨Sub.refl B, px, fun _ _ => rfl⟩ o2.nb fun hq => ?_⟩
      rcases List.mem_append.mp hq with h | h
      · exact o2.nr h
      · rw [List.mem_singleton] at h; exact ne h
theorem Rel.new_own (R : Rel T B r P m en σ H) (hp : H p = none) {vs : List V} (l : RepL T B r vs ws) : RepR T B r P en σ (upd H p (.lst vs)) (.ref p) (.new ws) := by
  refine ⟨p, rfl, ⟨⟨vs, upd_same, l⟩, R.s.bh.none hp, R.s.ph.none hp, fun hr => ?_⟩, fun j zs h e => ?_⟩
  · obtain ⟨i, hi⟩ := List.getElem?_of_mem hr
    have hl : i < m.length := R.s.len ▸ (List.getElem?_eq_some_iff.mp hi).1
    obtain ⟨a, o, h1, h2, _⟩ := R.s.ob i m[i] (List.getElem?_eq_getElem hl)
    rw [hi] at h1; cases h1
    rw [hp] at h2; cases h2
  · obtain ⟨q, e1, o⟩ := R.e.own_at h
    rw [e] at e1; cases e1
    obtain ⟨⟨vs, a1, _⟩, _⟩ := o
    rw [hp] at a1; cases a1
theorem Rel.no_sto (R : Rel T B r P m en σ H) (hp : H p = none) : p ∉ r := by
  obtain ⟨q, e, o, _⟩ := R.new_own (ws := []) hp .nil
  cases e
  exact o.nr
theorem Rel.box_new (R : Rel T B r P m en σ H) (h : RepR T B r P en σ H v (.new ws)) : ∃ r2, Ext P B r B r2 ∧ Rel T B r2 P (m ++ [.lst ws]) en σ H ∧ Rep T B r2 v (.ref m.length) := by
  obtain ⟨p, rfl, ⟨⟨vs, h1, h2⟩, h3, h4, h5⟩, h6⟩ := h
  have px : r <+: r ++ [p] := List.prefix_append r [p]
  refine ⟨r ++ [p], ⟨Sub.refl B, px, fun _ _ => rfl⟩, R.add_sto h3 h4 h5 h1 rfl (.lst (h2.mono (Sub.refl B) px)) h6, .ref ?_⟩
  rw [← R.s.len, List.getElem?_append_right (Nat.le_refl _), Nat.sub_self]; rfl
theorem Rel.new_frz (R : Rel T B r P m en σ H) {o : HO} (hp : H p = none) : ∃ B2, Ext P B r B2 r ∧ Rel T B2 r P m en σ (upd H p o) ∧ B2 p = some o := by
  have hb := R.s.bh.none hp
  have hP := R.s.ph.none hp
  have sb : Sub B (upd B p o) := Sub.new hb
  have sh : Sub H (upd H p o) := Sub.new hp
  have R2 := R.grow sh
  have ex : Ext P B r (upd B p o) r := ⟨sb, List.prefix_refl r, fun a ha => by
    by_cases c : a = p
    · rw [c] at ha; exact absurd hP ha
    · rw [upd_ne c]⟩
  have hr := R.no_sto hp
  refine ⟨upd B p o, ex, ⟨⟨fun a q e => ?_, R2.s.ph, R2.s.nd, R2.s.len, fun a ha => ⟨?_, (R2.s.fr a ha).2⟩, fun i b hi => ?_, fun i kvs a h1 h2 => (R2.s.lkb i kvs a h1 h2).mono sb⟩, R2.e.len, fun k s hk => ?_, R2.e.dis⟩, upd_same⟩
  · by_cases c : a = p
    · rw [c, upd_same] at e; cases e; rw [c]; exact upd_same
    · rw [upd_ne c] at e; exact R2.s.bh a q e
  · have c : a ≠ p := fun z => hr (z ▸ ha)
    exact LkB.upd c (R2.s.fr a ha).1
  · obtain ⟨a, q, e1, e2, e3⟩ := R2.s.ob i b hi
    exact ⟨a, q, e1, e2, e3.mono sb (List.prefix_refl r)⟩
  · obtain ⟨v, e1, e2⟩ := R2.e.sl k s hk
    refine ⟨v, e1, ?_⟩
    cases s with
    | val w => exact Rep.mono sb (List.prefix_refl r) e2
    | own zs =>
      obtain ⟨q, e3, e4⟩ := e2
      subst e3
      have c : q ≠ p := fun z => by
        subst z
        obtain ⟨q2, e5, o2⟩ := R.e.own_at hk
        rw [e1] at e5; cases e5
        obtain ⟨⟨_, a1, _⟩, _⟩ := o2
        rw [hp] at a1; cases a1
      exact ⟨q, rfl, e4.mono ex (by rw [upd_ne c]; exact e4.nb) e4.nr⟩
/-! ### as data -/
theorem pdAll_dp {n : Nat} (ih : ∀ {v : V} {w : W} {d : PyData}, RepT T B r H v w → pd m n w = some d → Dp T.K H v d) : ∀ {ws : List W} {vs : List V} {ds : List PyData}, RepL T B r vs ws → pdAll (pd m n) ws = some ds → DpAll T.K H vs ds
  | [], _, _, h, e => by
    cases h
    simp only [pdAll, Option.some.injEq] at e; subst e; exact .nil
  | w :: ws, _, _, h, e => by
    cases h with
    | cons h l =>
      simp only [pdAll] at e
      cases q : pd m n w with
      | none => rw [q] at e; cases e
      | some d =>
        cases q2 : pdAll (pd m n) ws with
        | none => rw [q, q2] at e; cases e
        | some ds =>
          rw [q, q2] at e
          simp only [Option.some.injEq] at e; subst e
          exact .cons (ih (.inl h) q) (pdAll_dp ih l q2)
theorem pd_dp (R : RelS T B r P m H) : ∀ (n : Nat) {v : V} {w : W} {d : PyData}, RepT T B r H v w → pd m n w = some d → Dp T.K H v d
  | n, v, .non, d, h, e => by
    have := h.non; subst this
    cases n <;> (simp only [pd, Option.some.injEq] at e; subst e; exact .non)
  | n, v, .bl b, d, h, e => by
    have := h.bl; subst this
    cases n <;> (simp only [pd, Option.some.injEq] at e; subst e; exact .bl b)
  | n, v, .int b, d, h, e => by
    have := h.int; subst this
    cases n <;> (simp only [pd, Option.some.injEq] at e; subst e; exact .int b)
  | n, v, .str b, d, h, e => by
    have := h.str; subst this
    cases n <;> (simp only [pd, Option.some.injEq] at e; subst e; exact .str b)
  | n + 1, v, .lst ws, d, h, e => by
    simp only [pd] at e
    cases q : pdAll (pd m n) ws with
    | none => rw [q] at e; cases e
    | some ds =>
      rw [q] at e
      simp only [Option.map_some, Option.some.injEq] at e; subst e
      obtain ⟨a, vs, rfl, h1, h2⟩ := RepT.lst R h (ws := ws) rfl
      exact .lst (.inl h1) (pdAll_dp (fun h e => pd_dp R n h e) h2 q)
  | n + 1, v, .tup ws, d, h, e => by
    simp only [pd] at e
    cases q : pdAll (pd m n) ws with
    | none => rw [q] at e; cases e
    | some ds =>
      rw [q] at e
      simp only [Option.map_some, Option.some.injEq] at e; subst e
      rcases h with h | ⟨_, _, _, _, h, _⟩
      · cases h with
        | tup h1 h2 => exact .tup (R.bh.sqt h1) (pdAll_dp (fun h e => pd_dp R n h e) h2 q)
      · cases h
  | n + 1, v, .ref i, d, h, e => by
    simp only [pd] at e
    cases q1 : m[i]? with
    | none => rw [q1] at e; cases e
    | some b =>
      rw [q1] at e
      cases b with
      | lst ws =>
        dsimp only at e
        cases q : pdAll (pd m n) ws with
        | none => rw [q] at e; cases e
        | some ds =>
          rw [q] at e
          simp only [Option.map_some, Option.some.injEq] at e; subst e
          obtain ⟨a, vs, rfl, h1, h2⟩ := RepT.lst R h (ws := ws) (by simp only [lstW]; rw [q1])
          exact .lst (.inl h1) (pdAll_dp (fun h e => pd_dp R n h e) h2 q)
      | dic _ => cases e
      | ins _ _ => cases e
      | lk _ => cases e
  | _, _, .scr _, _, _, e => by simp [pd] at e
  | 0, _, .lst _, _, _, e => by simp [pd] at e
  | 0, _, .tup _, _, _, e => by simp [pd] at e
  | 0, _, .ref _, _, _, e => by simp [pd] at e
  | n, _, .raw _, _, _, e => by cases n <;> simp [pd] at e
  | n, _, .fn _, _, _, e => by cases n <;> simp [pd] at e
  | n, _, .exc _, _, _, e => by cases n <;> simp [pd] at e
end
end Mp
set_option Elab.async false
set_option linter.all false
set_option maxRecDepth 100000
set_option maxHeartbeats 4000000
/-! that a text of this language is the one of the program -/
namespace Mp
open PySem PySem.Spec PyProof.Rows L2
structure CI where
  nm : Str
  flds : List Str
  mts : List (Str × Nat)
  ini : Nat
structure XI where
  nm : Str
  up : List Str
structure Sta where
  fns : List (Option Str × Nat)
  gls : List Str
  cls : List CI
  exs : List XI := []
  cB : Bool := true
  /-- whether this is a def's own level, no comprehension's -/
  top : Bool := true
  /-- dicts of the module: names and numbers -/
  dcs : List (Str × List (Str × Int)) := []
noncomputable def visB (sc : Scope) (x : Str) : Bool := match sc.names.lookup x with
  | some .local => true
  | some .cell => true
  | some .free => true
  | _ => false
noncomputable def locB (fb : Str → Bool) (sc : Scope) (x : Str) : Bool := match sc.names.lookup x with
  | some .local => true
  | some .cell => fb x
  | _ => false
noncomputable def glB (sc : Scope) (x : Str) : Bool := match sc.names.lookup x with
  | some .globalImplicit => true
  | _ => false
noncomputable def plB (x : Str) : Bool := !(x == ("__debug__" : Str)) && !(x == ("__classdict__" : Str)) && !(x == ("__name__" : Str))
noncomputable def Sta.hot (S : Sta) : Sta := { S with cB := false }
noncomputable def Sta.blk (S : Sta) : Sta := { S with top := false }
noncomputable def calmFree : Bi → Bool
  | .len => true | .list => true | .abs => true | .int => true | .str => true | _ => false
noncomputable def exNm (S : Sta) (sc : Scope) (y : Str) : Bool := glB sc y && plB y && (y == ("ValueError" : Str) || S.exs.any fun xi => xi.nm == y)
noncomputable def exTab (S : Sta) (ys : List Str) : List Bool := S.exs.map fun xi => ys.any fun y => xi.up.contains y
noncomputable def exNms (S : Sta) (sc : Scope) : List Expr → Option (List Str)
  | [] => some []
  | .Name y _ :: es => if exNm S sc y then (exNms S sc es).map fun r => y :: r else none
  | _ => none
noncomputable def isxB (S : Sta) (sc : Scope) (tab : List Bool) : Expr → Bool
  | .Name y _ => exNm S sc y && tab == exTab S [y]
  | .Tuple es _ _ => match exNms S sc es with
    | some ys => tab == exTab S ys && decide (ys.length ≤ 100)
    | none => false
  | _ => false
noncomputable def sameL : List Str → E → Bool
  | [], .nil => true
  | _ :: ks, .cons _ es => sameL ks es
  | _, _ => false
noncomputable def keysB : List Str → List (Option Expr) → Bool
  | [], [] => true
  | k :: ks, some (.Constant (.str k2) _ _) :: r => k == k2 && keysB ks r
  | _, _ => false
noncomputable def noStar : Expr → Bool
  | .Starred _ _ => false
  | _ => true
noncomputable def opB (op : Op) (o : Operator) : Bool := match op, o with
  | .add, .Add => true | .sub, .Sub => true | .mul, .Mult => true | .fdiv, .FloorDiv => true | .mod, .Mod => true | .pow, .Pow => true | .shr, .RShift => true | .band, .BitAnd => true
  | _, _ => false
noncomputable def cmB (op : Cm) (o : CmpOp) : Bool := match op, o with
  | .eq, .Eq => true | .ne, .NotEq => true | .lt, .Lt => true | .le, .LtE => true | .gt, .Gt => true | .ge, .GtE => true | .is, .Is => true | .isn, .IsNot => true | .mem, .In => true | .nmem, .NotIn => true
  | _, _ => false
noncomputable def plainIxB : Expr → Bool
  | .Slice _ _ _ _ => false
  | _ => true
noncomputable def baseB : Expr → Bool
  | .Call (.Attribute _ _ _) _ _ _ => true
  | .Call (.Name _ _) (_ :: _) _ _ => true
  | .Call (.Name x _) [] [] _ => !(x == ("super" : Str))
  | .Call _ _ _ _ => false
  | _ => true
noncomputable def setB : Expr → Bool
  | .Set _ _ _ => true
  | _ => false
noncomputable def bltName : Bi → Str
  | .len => "len" | .list => "list" | .sum => "sum" | .max1 => "max" | .min1 => "min" | .max2 => "max" | .min2 => "min" | .abs => "abs" | .int => "int" | .all => "all" | .any => "any" | .sorted => "sorted" | .min3 => "min" | .str => "str" | .sortl => "sorted"
noncomputable def tyName : Ty → Str
  | .int => "int" | .bool => "bool" | .list => "list" | .tuple => "tuple" | .str => "str"
noncomputable def bltNames : List Str := ["len", "list", "sum", "max", "min", "abs", "int", "all", "any", "sorted", "range", "zip", "enumerate", "reversed", "isinstance", "bool", "tuple", "str", "set", "dict", "repr", "ValueError"]
noncomputable def srcName : It → Str
  | .rng1 => "range" | .rng2 => "range" | .rng3 => "range" | .zip => "zip" | .enum => "enumerate" | .rev => "reversed" | .revrng => "reversed" | _ => ""
noncomputable def notComp : Expr → Bool
  | .ListComp _ _ _ _ => false
  | .SetComp _ _ _ _ => false
  | .DictComp _ _ _ _ _ => false
  | _ => true
noncomputable def notTup : Expr → Bool
  | .Tuple _ _ _ => false
  | _ => true
noncomputable def tgNames (N : List Str) : List Nat → List Expr → (Str → Bool) → Scope → Bool
  | [], [], _, _ => true
  | j :: js, .Name x _ :: es, fb, sc => (N[j]? == some x) && locB fb sc x && tgNames N js es fb sc
  | _, _, _, _ => false
noncomputable def okT (N : List Str) (fb : Str → Bool) (sc : Scope) (tg : Tg) (p : Expr) : Bool :=
  match tg, p with
  | .one j, .Name x _ => (N[j]? == some x) && locB fb sc x
  | .many js, .Tuple es _ _ => tgNames N js es fb sc
  | .manyL js, .Tuple es _ _ => tgNames N js es fb sc
  | _, _ => false
noncomputable def isIte : E → Bool
  | .ite _ _ _ => true
  | .box _ => true
  | .lock _ _ => true
  | .orv _ _ => true
  | _ => false
noncomputable def isNon : E → Bool
  | .non => true
  | _ => false
noncomputable def isTup : Expr → Bool
  | .Tuple _ _ _ => true
  | _ => false
noncomputable def ownN (N : List Str) (js : List Nat) : List (Str × Nat) := js.map fun j => (N.getD j "", j)
noncomputable def tyList (sc : Scope) : List Ty → List Expr → Bool
  | [], [] => true
  | t :: ts, .Name x _ :: es => (x == tyName t) && glB sc x && tyList sc ts es
  | _, _ => false
noncomputable def swB (sc : Scope) (y : Str) (py : Pos) (csc : Scope) (cpos : Pos) : Bool :=
  (sc.names.lookup y == some .local) && (py.line == cpos.line) && !(csc.names.any fun p => p.1 == y && (p.2 == .local || p.2 == .cell))
noncomputable def ixP : Option Int → Option Expr → Bool
  | none, none => true
  | some i, some (.Constant (.int j) _ _) => decide (i = j)
  | _, _ => false
section
mutual
noncomputable def okE (S : Sta) (N : List Str) (fb : Str → Bool) (sc : Scope) (e : E) (p : Expr) : Bool :=
  match e with
  | .nil => false
  | .cons _ _ => false
  | .var j => match p with
    | .Name x _ => (N[j]? == some x) && visB sc x && plB x
    | _ => false
  | .int i => match p with
    | .Constant (.int k) _ _ => decide (i = k)
    | _ => false
  | .bl b => match p with
    | .Constant (.bool k) _ _ => b == k
    | _ => false
  | .non => match p with
    | .Constant .none _ _ => true
    | _ => false
  | .str s => match p with
    | .Constant (.str k) _ _ => s == k
    | _ => false
  | .glob g => match p with
    | .Name x _ => (S.gls[g]? == some x) && glB sc x && plB x
    | _ => false
  | .bin op a b => match p with
    | .BinOp pa o pb _ => opB op o && okE S N fb sc a pa && okE S N fb sc b pb
    | _ => false
  | .neg a => match p with
    | .UnaryOp .USub pa _ => okE S N fb sc a pa
    | _ => false
  | .cmp op a b => match p with
    | .Compare pa [o] [pb] _ => cmB op o && !setB pb && okE S N fb sc a pa && okE S N fb sc b pb
    | _ => false
  | .chain op op2 a b c => match p with
    | .Compare pa [o, o2] [pb, pc] _ => cmB op o && cmB op2 o2 && !setB pb && !setB pc && okE S N fb sc a pa && okE S N fb sc b pb && okE S N fb sc c pc
    | _ => false
  | .and es => match p with
    | .BoolOp .And (pa :: pb :: ps) _ => okB S N fb sc es (pa :: pb :: ps)
    | _ => false
  | .or es => match p with
    | .BoolOp .Or (pa :: pb :: ps) _ => okB S N fb sc es (pa :: pb :: ps)
    | _ => false
  | .not a => match p with
    | .UnaryOp .Not pa _ => !isIte a && okE S N fb sc a pa
    | _ => false
  | .ite c a b => match p with
    | .IfExp pc pa pb _ => !isIte c && okE S N fb sc c pc && okE S N fb sc a pa && okE S N fb sc b pb
    | _ => false
  | .lst es => match p with
    | .List ps _ => okEs S N fb sc es ps
    | _ => false
  | .tup es => match p with
    | .Tuple ps _ _ => okEs S N fb sc es ps
    | _ => false
  | .idx a i => match p with
    | .Subscript pa pi _ => plainIxB pi && okE S N fb sc a pa && okE S N fb sc i pi
    | _ => false
  | .slc a lo hi => match p with
    | .Subscript pa (.Slice l h none _) _ => okE S N fb sc a pa && (match l with
        | none => isNil lo
        | some q => !isNil lo && okE S N fb sc lo q) && (match h with
        | none => isNil hi
        | some q => !isNil hi && okE S N fb sc hi q)
    | _ => false
  | .call f n es => match p with
    | .Call (.Name x _) (q :: qs) [] _ => (match S.fns[f]? with
        | some (some y, n2) => (x == y) && decide (n = n2)
        | _ => false) && S.cB && glB sc x && plB x && okEs S N fb sc es (q :: qs)
    | _ => false
  | .blt b es => match p with
    | .Call (.Name x _) (q :: qs) [] _ => (S.cB || calmFree b) && (x == bltName b) && glB sc x && okEs S N fb sc es (q :: qs)
    | _ => false
  | .lrng a => match p with
    | .Call (.Name x _) [.Call (.Name y _) [q] [] _] [] _ => S.cB && (x == ("list" : Str)) && glB sc x && (y == ("range" : Str)) && glB sc y && noStar q && okE S N fb sc a q
    | _ => false
  | .isi a ts => match p with
    | .Call (.Name x _) [pa, pt] [] _ => (x == ("isinstance" : Str)) && glB sc x && noStar pa && okE S N fb sc a pa && decide (ts.length ≤ 100) && (match ts, pt with
        | [t], .Name y _ => (y == tyName t) && glB sc y
        | ts, .Tuple es _ _ => tyList sc ts es
        | _, _ => false)
    | _ => false
  | .mth t a es => match t, p with
    | .pop, .Call (.Attribute pa x ap) [q] [] cp => (x == ("pop" : Str)) && baseB pa && (ap.endLine == cp.line) && okE S N fb sc a pa && noStar q && okEs S N fb sc es [q]
    | .bits, .Call (.Attribute pa x ap) [] [] cp => (x == ("bit_length" : Str)) && baseB pa && (ap.endLine == cp.line) && okE S N fb sc a pa && isNil es
    | .count, .Call (.Attribute pa x ap) [q] [] cp => (x == ("count" : Str)) && baseB pa && (ap.endLine == cp.line) && okE S N fb sc a pa && noStar q && okEs S N fb sc es [q]
    | .index, .Call (.Attribute pa x ap) [q] [] cp => (x == ("index" : Str)) && baseB pa && (ap.endLine == cp.line) && okE S N fb sc a pa && noStar q && okEs S N fb sc es [q]
    | .rev, .Subscript pa (.Slice none none (some (.UnaryOp .USub (.Constant (.int i) _ _) _)) _) _ => (i == 1) && okE S N fb sc a pa && isNil es
    | .tsl l h, .Subscript pa (.Slice pl ph none _) _ => ixP l pl && ixP h ph && okE S N fb sc a pa && isNil es
    | .split, .Call (.Attribute pa x ap) [q] [] cp => (x == ("split" : Str)) && baseB pa && (ap.endLine == cp.line) && okE S N fb sc a pa && noStar q && okE S N fb sc es q
    | .part, .Call (.Attribute pa x ap) [q] [] cp => (x == ("partition" : Str)) && baseB pa && (ap.endLine == cp.line) && okE S N fb sc a pa && noStar q && okE S N fb sc es q
    | .join, .Call (.Attribute pa x ap) [q] [] cp => (x == ("join" : Str)) && baseB pa && (ap.endLine == cp.line) && okE S N fb sc a pa && noStar q && okE S N fb sc es q
    | _, _ => false
  | .comp it src tg js c elt => match p with
    | .ListComp pe [⟨pt, pi, ifs, 0⟩] scope _ => S.cB && okI S N fb sc it src pt pi && blkC N sc scope (ownN N js) &&
        okT N (fun x => scope.names.lookup x == some .cell) (relS scope sc) tg pt &&
        (match ifs with
          | [] => isNil c
          | [q] => !isNil c && !isIte c && okE S.blk N (fun x => scope.names.lookup x == some .cell) (relS scope sc) c q
          | _ => false) && okE S.blk N (fun x => scope.names.lookup x == some .cell) (relS scope sc) elt pe && (match tg with
          | .one j => js == [j]
          | .many l => js == l
          | .manyL l => js == l)
    | _ => false
  | .compx it src tg js c elt => match p with
    | .ListComp pe [⟨pt, pi, ifs, 0⟩] scope _ => S.cB && S.top && okI S N fb sc it src pt pi && blkC N sc scope (ownN N js) &&
        okT N (fun x => scope.names.lookup x == some .cell) (relS scope sc) tg pt &&
        (match ifs with
          | [] => isNil c
          | [q] => !isNil c && !isIte c && okE S.blk N (fun x => scope.names.lookup x == some .cell) (relS scope sc) c q
          | _ => false) && okE S.blk N (fun x => scope.names.lookup x == some .cell) (relS scope sc) elt pe && (match tg with
          | .one j => js == [j]
          | .many l => js == l
          | .manyL l => js == l)
    | _ => false
  | .box a => okE S N fb sc a p
  | .fld a x cl => match p with
    | .Attribute pa y _ => (x == y) && baseB pa && (cl.all fun c => match S.cls[c]? with
        | some ci => ci.flds.contains x
        | none => false) && okE S N fb sc a pa
    | _ => false
  | .mcall a x cf n es => match p with
    | .Call (.Attribute pa y ap) qs [] cp => S.cB && (x == y) && baseB pa && (ap.endLine == cp.line) && decide (qs.length < 29) && (cf.all fun q => match S.cls[q.1]? with
        | some ci => ci.mts.contains (x, q.2) && (match S.fns[q.2]? with
          | some (_, n2) => decide (n2 = n + 1)
          | none => false)
        | none => false) && okE S N fb sc a pa && okEs S N fb sc es qs
    | _ => false
  | .make c f n es => match p with
    | .Call (.Name y _) (q :: qs) [] _ => (match S.cls[c]? with
        | some ci => (y == ci.nm) && decide (ci.ini = f)
        | none => false) && (match S.fns[f]? with
        | some (_, n2) => decide (n2 = n + 1)
        | none => false) && S.cB && glB sc y && plB y && okEs S N fb sc es (q :: qs)
    | .Call (.Name y _) [] [] _ => (match S.cls[c]? with
        | some ci => (y == ci.nm) && decide (ci.ini = f)
        | none => false) && (match S.fns[f]? with
        | some (_, n2) => decide (n2 = n + 1)
        | none => false) && S.cB && glB sc y && plB y && okEs S N fb sc es []
    | _ => false
  | .gget x kvs k d => match p with
    | .Call (.Attribute (.Name y _) g ap) [pk, pd] [] cp => (x == y) && S.dcs.contains (x, kvs) && glB sc x && plB x && (g == ("get" : Str)) && (ap.endLine == cp.line) && noStar pk && noStar pd && okE S N fb sc k pk && okE S N fb sc d pd
    | _ => false
  | .lrng3 a b => match p with
    | .Call (.Name x _) [.Call (.Name y _) [q, q2, .UnaryOp .USub (.Constant (.int i) _ _) _] [] _] [] _ => S.cB && (x == ("list" : Str)) && glB sc x && (y == ("range" : Str)) && glB sc y && noStar q && noStar q2 && decide (i = 1) && okE S N fb sc a q && okE S N fb sc b q2
    | _ => false
  | .lset a => match p with
    | .Call (.Name x _) [.Call (.Name y _) [q] [] _] [] _ => S.cB && (x == ("len" : Str)) && glB sc x && (y == ("set" : Str)) && glB sc y && noStar q && okE S N fb sc a q
    | _ => false
  | .tupl a => match p with
    | .Call (.Name x _) [q] [] _ => (x == ("tuple" : Str)) && glB sc x && noStar q && okE S N fb sc a q
    | _ => false
  | .tcnt a b => match p with
    | .Call (.Attribute pa x ap) [q] [] cp => (x == ("count" : Str)) && baseB pa && (ap.endLine == cp.line) && okE S N fb sc a pa && noStar q && okE S N fb sc b q
    | _ => false
  | .tidx a b => match p with
    | .Call (.Attribute pa x ap) [q] [] cp => (x == ("index" : Str)) && baseB pa && (ap.endLine == cp.line) && okE S N fb sc a pa && noStar q && okE S N fb sc b q
    | _ => false
  | .dnew => match p with
    | .Dict [] [] _ => true
    | _ => false
  | .dget a k d => match p with
    | .Subscript pa pk _ => plainIxB pk && isNil d && okE S N fb sc a pa && okE S N fb sc k pk
    | .Call (.Attribute pa y ap) [pk] [] cp => (y == ("get" : Str)) && baseB pa && (ap.endLine == cp.line) && noStar pk && isNon d && okE S N fb sc a pa && okE S N fb sc k pk
    | .Call (.Attribute pa y ap) [pk, pd] [] cp => (y == ("get" : Str)) && baseB pa && (ap.endLine == cp.line) && noStar pk && noStar pd && !isNil d && okE S N fb sc a pa && okE S N fb sc k pk && okE S N fb sc d pd
    | _ => false
  | .din ng k a => match p with
    | .Compare pk [.In] [pa] _ => !ng && !setB pa && okE S N fb sc k pk && okE S N fb sc a pa
    | .Compare pk [.NotIn] [pa] _ => ng && !setB pa && okE S N fb sc k pk && okE S N fb sc a pa
    | _ => false
  | .isx a tab => match p with
    | .Call (.Name x _) [pa, pt] [] _ => (x == ("isinstance" : Str)) && glB sc x && noStar pa && okE S N fb sc a pa && isxB S sc tab pt
    | _ => false
  | .lock _ e => okE S N fb sc e p
  | .dlit ks es => match p with
    | .Dict keys ps _ => sameL ks es && decide (keys.length = ps.length) && decide (keys.length ≤ 15) && !keys.isEmpty && keysB ks keys && okEs S N fb sc es ps
    | _ => false
  | .lrng2 a b => match p with
    | .Call (.Name x _) [.Call (.Name y _) [q, q2] [] _] [] _ => S.cB && (x == ("list" : Str)) && glB sc x && (y == ("range" : Str)) && glB sc y && noStar q && noStar q2 && okE S N fb sc a q && okE S N fb sc b q2
    | _ => false
  | .dkeys a => match p with
    | .Call (.Name x _) [q] [] _ => S.cB && (x == ("list" : Str)) && glB sc x && noStar q && okE S N fb sc a q
    | _ => false
  | .ssl a lo hi => match p with
    | .Subscript pa (.Slice l h none _) _ => okE S N fb sc a pa && (match l with
        | none => isNil lo
        | some q => !isNil lo && okE S N fb sc lo q) && (match h with
        | none => isNil hi
        | some q => !isNil hi && okE S N fb sc hi q)
    | _ => false
  | .orv a b => match p with
    | .BoolOp .Or [qa, qb] _ => okE S N fb sc a qa && okE S N fb sc b qb
    | _ => false
  | .dof a => match p with
    | .Call (.Name x _) [q] [] _ => S.cB && (x == ("dict" : Str)) && glB sc x && noStar q && okE S N fb sc a q
    | _ => false
  | .fnv f => match p with
    | .Name x _ => (match S.fns[f]? with
        | some (some y, _) => x == y
        | _ => false) && glB sc x && plB x
    | _ => false
  | .callv j n fl es => match p with
    | .Call (.Name x _) (q :: qs) [] _ => (N[j]? == some x) && visB sc x && plB x && S.cB && (fl.all fun f => match S.fns[f]? with
        | some (_, n2) => decide (n2 = n)
        | none => false) && okEs S N fb sc es (q :: qs)
    | _ => false
noncomputable def okB (S : Sta) (N : List Str) (fb : Str → Bool) (sc : Scope) (e : E) (ps : List Expr) : Bool :=
  match e with
  | .cons a es => match ps with
    | [] => false
    | [q] => isNil es && !isIte a && okE S N fb sc a q
    | q :: qs => !isIte a && okE S N fb sc a q && okB S N fb sc es qs
  | _ => false
noncomputable def okEs (S : Sta) (N : List Str) (fb : Str → Bool) (sc : Scope) (e : E) (ps : List Expr) : Bool :=
  match e with
  | .nil => match ps with
    | [] => true
    | _ => false
  | .cons a es => match ps with
    | q :: qs => noStar q && okE S N fb sc a q && okEs S N fb sc es qs
    | [] => false
  | _ => false
noncomputable def okI (S : Sta) (N : List Str) (fb : Str → Bool) (sc : Scope) (it : It) (src : E) (pt pi : Expr) : Bool :=
  match src with
  | .cons a .nil => (match it with
      | .list => !setB pi && okE S N fb sc a pi
      | .tup => !setB pi && okE S N fb sc a pi
      | .str => !setB pi && okE S N fb sc a pi
      | .keys => !setB pi && okE S N fb sc a pi
      | .rng1 => match pi with
        | .Call (.Name x _) [q] [] _ => (x == srcName it) && glB sc x && noStar q && okE S N fb sc a q
        | _ => false
      | .enum => isTup pt && match pi with
        | .Call (.Name x _) [q] [] _ => (x == srcName it) && glB sc x && noStar q && okE S N fb sc a q
        | _ => false
      | .rev => match pi with
        | .Call (.Name x _) [q] [] _ => (x == srcName it) && glB sc x && noStar q && okE S N fb sc a q
        | _ => false
      | .revrng => match pi with
        | .Call (.Name x _) [.Call (.Name y _) [q] [] _] [] _ => (x == srcName it) && glB sc x && (y == ("range" : Str)) && glB sc y && noStar q && okE S N fb sc a q
        | _ => false
      | _ => false)
  | .cons a (.cons b .nil) => (match it with
      | .rng2 => match pi with
        | .Call (.Name x _) [q, q2] [] _ => (x == srcName it) && glB sc x && noStar q && okE S N fb sc a q && noStar q2 && okE S N fb sc b q2
        | _ => false
      | .zip => isTup pt && match pi with
        | .Call (.Name x _) [q, q2] [] _ => (x == srcName it) && glB sc x && noStar q && okE S N fb sc a q && noStar q2 && okE S N fb sc b q2
        | _ => false
      | _ => false)
  | .cons a (.cons b (.cons c .nil)) => (match it with
      | .rng3 => match pi with
        | .Call (.Name x _) [q, q2, q3] [] _ => (x == srcName it) && glB sc x && noStar q && okE S N fb sc a q && noStar q2 && okE S N fb sc b q2 && noStar q3 && okE S N fb sc c q3
        | _ => false
      | _ => false)
  | _ => false
end
end
end Mp
set_option Elab.async false
set_option linter.all false
set_option maxRecDepth 100000
set_option maxHeartbeats 4000000
namespace Mp
open PySem PySem.Spec PyProof.Rows L2
/-! ### what an evaluation promises of the heap -/
section
variable (T : Tab) (xc : Nat → Value) (Wx : WX) (P : Hp) (σ : Slo)
noncomputable def PostG {A : Type} (B : Hp) (r : List Addr) (x : R A) (g : A → En → Sto → Hp → List Addr → Hp → Prop) : Prop :=
  match x with
  | .ok a en m => ∀ B2 r2 H2, Ext P B r B2 r2 → Rel T B2 r2 P m en σ H2 → g a en m B2 r2 H2
  | .ex c en m => ∀ B2 r2 H2, Ext P B r B2 r2 → Rel T B2 r2 P m en σ H2 → Wx (xc c) none σ H2
  | .bad => False
end
section
variable {T : Tab} {xc : Nat → Value} {Wx : WX} {P : Hp} {σ : Slo} {B B1 H : Hp} {r r1 : List Addr} {A C : Type}
theorem PostG.mono {x : R A} {g : A → En → Sto → Hp → List Addr → Hp → Prop} (e : Ext P B r B1 r1) (h : PostG T xc Wx P σ B r x g) : PostG T xc Wx P σ B1 r1 x g := by
  cases x with
  | ok a en m => exact fun B2 r2 H2 e2 R => h B2 r2 H2 (e.trans e2) R
  | ex c en m => exact fun B2 r2 H2 e2 R => h B2 r2 H2 (e.trans e2) R
  | bad => exact h
theorem PostG.bind {x : R A} {f : A → En → Sto → R C} {g : C → En → Sto → Hp → List Addr → Hp → Prop} {k : A → En → Sto → Hp → List Addr → Hp → Prop}
    (h : PostG T xc Wx P σ B r (x.bind f) g)
    (q : ∀ a en m B2 r2 H2, Ext P B r B2 r2 → Rel T B2 r2 P m en σ H2 → PostG T xc Wx P σ B2 r2 (f a en m) g → k a en m B2 r2 H2) : PostG T xc Wx P σ B r x k := by
  cases x with
  | ok a en m => exact fun B2 r2 H2 e2 R => q a en m B2 r2 H2 e2 R (PostG.mono e2 h)
  | ex c en m => exact h
  | bad => exact h
theorem PostG.imp {x : R A} {g k : A → En → Sto → Hp → List Addr → Hp → Prop} (h : PostG T xc Wx P σ B r x g)
    (q : ∀ a en m B2 r2 H2, Ext P B r B2 r2 → Rel T B2 r2 P m en σ H2 → g a en m B2 r2 H2 → k a en m B2 r2 H2) : PostG T xc Wx P σ B r x k := by
  cases x with
  | ok a en m => exact fun B2 r2 H2 e2 R => q a en m B2 r2 H2 e2 R (h B2 r2 H2 e2 R)
  | ex c en m => exact h
  | bad => exact h
theorem PostG.opt {o : Option A} {f : A → R C} {g : C → En → Sto → Hp → List Addr → Hp → Prop} (h : PostG T xc Wx P σ B r (Mp.opt o f) g) : ∃ a, o = some a ∧ PostG T xc Wx P σ B r (f a) g := by
  cases o with
  | none => exact False.elim h
  | some a => exact ⟨a, rfl, h⟩
theorem PostG.opt2 {A2 : Type} {o : Option (A × A2)} {f : A → A2 → R C} {g : C → En → Sto → Hp → List Addr → Hp → Prop} (h : PostG T xc Wx P σ B r (Mp.opt2 o f) g) : ∃ a b, o = some (a, b) ∧ PostG T xc Wx P σ B r (f a b) g := by
  cases o with
  | none => exact False.elim h
  | some p => exact ⟨p.1, p.2, rfl, h⟩
theorem PostG.ifp {c : Prop} [Decidable c] {x : R A} {g : A → En → Sto → Hp → List Addr → Hp → Prop} (h : PostG T xc Wx P σ B r (if c then x else .bad) g) : c ∧ PostG T xc Wx P σ B r x g := by
  by_cases q : c
  · rw [if_pos q] at h; exact ⟨q, h⟩
  · rw [if_neg q] at h; exact False.elim h
theorem PostG.fin {a : A} {en : En} {m : Sto} {g : A → En → Sto → Hp → List Addr → Hp → Prop} (h : PostG T xc Wx P σ B r (.ok a en m) g) (R : Rel T B r P m en σ H) : g a en m B r H := h B r H Ext.refl R
theorem PostG.quiet {Wx2 : WX} {x : R A} {g : A → En → Sto → Hp → List Addr → Hp → Prop} (h : PostG T xc Wx P σ B r x.noex g) : PostG T xc Wx2 P σ B r x g := by
  cases x with
  | ok a en m => exact h
  | ex c en m => exact False.elim h
  | bad => exact h
end
/-! ### readings -/
section
variable (T : Tab) (xc : Nat → Value) (cs : Nat → List W → Sto → CR) (gl : List W)
noncomputable def SG (Wx : WX) (f : En → Sto → R RV) : TE := fun σ H Q => ∃ B r P m en, Rel T B r P m en σ H ∧ PostG T xc Wx P σ B r (f en m) fun x en m B2 r2 H2 => ∀ v, RepR T B2 r2 P en σ H2 v x → Q v H2
noncomputable def SBG (Wx : WX) (f : En → Sto → R RV) : TT := fun σ H Q => ∃ B r P m en, Rel T B r P m en σ H ∧ PostG T xc Wx P σ B r (f en m) fun x en m B2 r2 H2 => ∃ b, blR x = some b ∧ Q b H2
noncomputable def SE (Wx : WX) (e : E) : TE := SG T xc Wx (ev cs gl e)
noncomputable def SB (Wx : WX) (e : E) : TT := SBG T xc Wx (ev cs gl e)
noncomputable def SA (Wx : WX) (es : E) : TA := fun σ H Q => ∃ B r P m en, Rel T B r P m en σ H ∧ PostG T xc Wx P σ B r (evs cs gl es en m) fun ws en m B2 r2 H2 => ∀ vs, RepL T B2 r2 vs ws → Q vs H2
end
/-! ### calls -/
noncomputable def RepC (T : Tab) (B : Hp) (r : List Addr) (P H : Hp) (v : V) : RV → Prop
  | .val w => Rep T B r v w
  | .new ws => ∃ p, v = .ref p ∧ Own T B r P H p ws
  | .bor _ => False
noncomputable def CPost (T : Tab) (xc : Nat → Value) (P B : Hp) (r : List Addr) (x : CR) (Q : VK) (E : XK) : Prop :=
  match x with
  | .ok a m => ∀ v B2 r2 H2, Ext P B r B2 r2 → RelS T B2 r2 P m H2 → RepC T B2 r2 P H2 v a → Q v H2
  | .ex c m => ∀ B2 r2 H2, Ext P B r B2 r2 → RelS T B2 r2 P m H2 → E (xc c) none H2
  | .bad => False
noncomputable def spF (T : Tab) (xc : Nat → Value) (cs : Nat → List W → Sto → CR) (f n : Nat) : Sp := fun vs H Q E =>
  vs.length = n ∧ ∃ B r P m ws, RelS T B r P m H ∧ RepL T B r vs ws ∧ CPost T xc P B r (cs f ws m) Q E
noncomputable def outP (r : List Addr) (H : Hp) : Hp := fun a => if a ∈ r then none else H a
section
variable {T : Tab} {B B2 P H H2 : Hp} {r r2 : List Addr} {m m2 : Sto} {en : En} {σ : Slo}
theorem RelS.out (R : RelS T B r P m H) : RelS T B r (outP r H) m H :=
  ⟨R.bh, fun a o h => by
    unfold outP at h
    split at h
    · cases h
    · exact h, R.nd, R.len, fun a ha => ⟨(R.fr a ha).1, by unfold outP; rw [if_pos ha]⟩, R.ob, R.lkb⟩
theorem Rel.back (R : Rel T B r P m en σ H) (e : Ext (outP r H) B r B2 r2) (S : RelS T B2 r2 (outP r H) m2 H2) : Ext P B r B2 r2 ∧ Rel T B2 r2 P m2 en σ H2 := by
  have po : Sub P (outP r H) := fun a o h => by
    have hn : a ∉ r := fun z => by
      have := (R.s.fr a z).2
      rw [h] at this; cases this
    unfold outP
    rw [if_neg hn]
    exact R.s.ph a o h
  have ex : Ext P B r B2 r2 := ⟨e.sub, e.pre, fun a h => e.fix a fun z => h (po.none z)⟩
  refine ⟨ex, ⟨S.bh, po.trans S.ph, S.nd, S.len, fun a ha => ⟨(S.fr a ha).1, po.none (S.fr a ha).2⟩, S.ob, S.lkb⟩, R.e.len, fun j s hj => ?_, R.e.dis⟩
  obtain ⟨v, h1, h2⟩ := R.e.sl j s hj
  refine ⟨v, h1, ?_⟩
  cases s with
  | val w => exact Rep.mono e.sub e.pre h2
  | own ws =>
    obtain ⟨p, rfl, ⟨vs, a1, a2⟩, a3, a4, a5⟩ := h2
    have hp : outP r H p = some (.lst vs) := by
      unfold outP
      rw [if_neg a5]
      exact a1
    have hne : outP r H p ≠ none := by rw [hp]; exact fun z => nomatch z
    refine ⟨p, rfl, ⟨vs, S.ph _ _ hp, a2.mono e.sub e.pre⟩, by rw [e.fix p hne]; exact a3, a4, fun z => hne (S.fr p z).2⟩
theorem Rel.back_new (R : Rel T B r P m en σ H) {v : V} {x : RV} (S : RelS T B2 r2 (outP r H) m2 H2) (h : RepC T B2 r2 (outP r H) H2 v x) : RepR T B2 r2 P en σ H2 v x := by
  cases x with
  | val w => exact h
  | bor j => exact h.elim
  | new ws =>
    obtain ⟨p, rfl, a1, a2, a3, a4⟩ := h
    have po : P p = none := by
      cases q : P p with
      | none => rfl
      | some o =>
        have hn : p ∉ r := fun z => by
          have := (R.s.fr p z).2
          rw [q] at this; cases this
        have h1 := R.s.ph p o q
        unfold outP at a3
        rw [if_neg hn, h1] at a3; cases a3
    refine ⟨p, rfl, ⟨a1, a2, po, a4⟩, fun j zs hj e => ?_⟩
    obtain ⟨q, e1, o⟩ := R.e.own_at hj
    rw [e] at e1; cases e1
    obtain ⟨vs, b1, _⟩ := o.at_
    unfold outP at a3
    rw [if_neg o.nr, b1] at a3; cases a3
end
/-! ### what must be so where a body runs -/
inductive Ents : List DictEntry → List (Str × Int) → Prop
  | nil : Ents [] []
  | cons {e : DictEntry} {r : List DictEntry} {x : Str} {i : Int} {kvs : List (Str × Int)} {t u : Nat} : e.key = .str x t → e.val = .int i u → Ents r kvs → Ents (e :: r) ((x, i) :: kvs)
structure KDs (K : PySem.W.Frag) (w : World) (a : Addr) (kvs : List (Str × Int)) : Prop where
  ex : ∃ (es : Array DictEntry) (n : Nat), K.lookup a = some ⟨.type "dict", none, .dict es n, #[]⟩ ∧ PySem.W.KeysLit w.params es.toList ∧ Ents es.toList kvs
  low : (a == sysModules) = false
structure Top (X : Cx) (Wx : WX) : Prop where
  tk : Takes X Wx
  stk : X.stack = X.env :: X.outer
  frm : X.env.frame = some X.env.locals
structure ModOk (T : Tab) (xc : Nat → Value) (S : Sta) (cs : Nat → List W → Sto → CR) (gl : List W) (k : Nat) (pr : Program) (w : World) (mg : Str → Option Value) (base : Heap) : Prop where
  fns : ∀ i x n, S.fns[i]? = some (x, n) → ∃ fd ps, (∀ y, x = some y → mg y = some (.ref (T.fa i))) ∧ PySem.W.keepIn T.K (.ref (T.fa i)) = true ∧ Binds T.K fd ps [] ∧ FnOk pr w T.K mg base (L2.CX pr w) (2 * k) (T.fa i) fd ps (spF T xc cs i n)
  cls : ∀ c ci, S.cls[c]? = some ci → Cls T.K (T.ca c) ∧ (∀ x ∈ ci.flds, NoAttr T.K (T.ca c) x) ∧ (∀ x f, (x, f) ∈ ci.mts → Meth T.K (T.ca c) x (T.fa f)) ∧ mg ci.nm = some (.ref (T.ca c)) ∧ Mk T.K (T.ca c) (T.fa ci.ini)
  gls : ∀ (i : Nat) (x : Str), S.gls[i]? = some x → ∃ v u w, mg x = some u ∧ RelV v u ∧ gl[i]? = some w ∧ ∀ B r, Rep T B r v w
  blt : ∀ x ∈ bltNames, mg x = none
  dcs : ∀ x kvs, (x, kvs) ∈ S.dcs → ∃ a, mg x = some (.ref a) ∧ KDs T.K w a kvs
  exs : ∀ c xi, S.exs[c]? = some xi → xc c = .ref (T.xa c) ∧ mg xi.nm = some (.ref (T.xa c)) ∧ L2.ExcC T.K (T.xa c) ∧ PySem.W.excIn T.K (T.xa c) [.type "ValueError", .type "Exception", .type "BaseException", .type "object"] "ValueError.__new__" = true ∧ PySem.W.keepIn T.K (.ref (T.xa c)) = true ∧ PySem.W.typeIn T.K (.ref (T.xa c)) = some (.type "type") ∧
    PySem.W.kitOne T.K (.ref (T.xa c)) (.type "ValueError") = some (xi.up.contains "ValueError") ∧ PySem.W.kitOne T.K (.type "NoneType") (.ref (T.xa c)) = some false ∧ ∀ d xd, S.exs[d]? = some xd → PySem.W.kitOne T.K (.ref (T.xa c)) (.ref (T.xa d)) = some (xi.up.contains xd.nm) ∧ PySem.W.exmOne T.K (.ref (T.xa c)) (.ref (T.xa d)) = some (xi.up.contains xd.nm)
structure CxOk (T : Tab) (xc : Nat → Value) (S : Sta) (cs : Nat → List W → Sto → CR) (gl : List W) (k : Nat) (N : List Str) (fb : Str → Bool) (sc : Scope) (Wx : WX) (X : Cx) : Prop where
  eK : X.K = T.K
  eN : X.N = N
  nd : List.Nodup N
  es : X.env.scope = sc
  ef : X.fn = fb
  calm : S.cB = true → X.calm = true
  room : S.cB = true → Room (2 * k + 1) X.A
  un : X.A.units + 65 < cLine
  tk : ∀ σ, PassesAt (L2.CX X.prog X.w) X σ (WE Wx σ)
  top : S.top = true → Top X Wx
  md : ModOk T xc S cs gl k X.prog X.w X.mg X.base
end Mp
namespace L2
open PySem PySem.Spec PyProof.Rows
theorem PE.imp {X : Cx} {e : Expr} {t u : TE} (h : PE X e t) (q : ∀ σ H Q, u σ H Q → t σ H Q) : PE X e u := ⟨fun pins s σ H Q I z => h.run pins s σ H Q I (q σ H Q z)⟩
theorem PT.imp {X : Cx} {e : Expr} {t u : TT} (h : PT X e t) (q : ∀ σ H Q, u σ H Q → t σ H Q) : PT X e u := ⟨fun pins s σ H Q I z => h.run pins s σ H Q I (q σ H Q z)⟩
theorem PW.imp {X : Cx} {e : Expr} {t u : TT} (h : PW X e t) (q : ∀ σ H Q, u σ H Q → t σ H Q) : PW X e u := ⟨fun wh pins s σ H Q I z => h.run wh pins s σ H Q I (q σ H Q z)⟩
theorem PA.imp {X : Cx} {e : List Expr} {t u : TA} (h : PA X e t) (q : ∀ σ H Q, u σ H Q → t σ H Q) : PA X e u := ⟨fun po pins s σ H Q I z => h.run po pins s σ H Q I (q σ H Q z)⟩
theorem PS.imp {X : Cx} {e : Stmt} {t u : TS} (h : PS X e t) (q : ∀ D σ H, u D σ H → t D σ H) : PS X e u := ⟨fun pins s σ H D I z => h.run pins s σ H D I (q D σ H z)⟩
theorem PSs.imp {X : Cx} {e : List Stmt} {t u : TS} (h : PSs X e t) (q : ∀ D σ H, u D σ H → t D σ H) : PSs X e u := ⟨fun pins s σ H D I z => h.run pins s σ H D I (q D σ H z)⟩
theorem PI.imp {X : Cx} {tg it : Expr} {t u : TI} (h : PI X tg it t) (q : ∀ σ H R, u σ H R → t σ H R) : PI X tg it u := ⟨fun pins s σ H R I z => h.run pins s σ H R I (q σ H R z)⟩
end L2
namespace Mp
open PySem PySem.Spec PyProof.Rows L2
theorem star_of {e : Expr} {es : List Expr} {env : PySem.Env} (h : noStar e = true) : starEach (e :: es) env = (false, eval e env) :: starEach es env := by
  cases e <;> first | rfl | cases h
theorem back_no {env : PySem.Env} {pos : Pos} : ∀ {qs : List Expr}, (∀ q ∈ qs, noStar q = true) → (backTo pos (starEach qs env)).any (·.1) = false
  | [], _ => rfl
  | q :: qs, h => by
    have ih := back_no (env := env) (pos := pos) (qs := qs) fun r hr => h r (List.mem_cons_of_mem _ hr)
    rw [star_of (h q List.mem_cons_self)]
    unfold backTo at ih ⊢
    rw [List.map_cons, List.any_cons, ih]
    rfl
theorem base_of {o : Expr} {f : Str} {env : PySem.Env} (h : baseB o = true) : attributeBase o f env (eval o env) = eval o env := by
  cases o <;> first | rfl | skip
  rename_i g qs ks p
  cases g <;> first | rfl | skip
  rename_i x xp
  cases qs with
  | cons q qs => rfl
  | nil =>
    cases ks with
    | cons k ks => cases h
    | nil =>
      have hx : (x != ("super" : Str)) = true := by
        have h : (!(x == ("super" : Str))) = true := h
        exact h
      unfold attributeBase
      simp only [hx, Bool.true_or, if_true]
theorem plainIx_of {b : Expr} (h : plainIxB b = true) : PlainIx b := by
  cases b <;> first | exact fun _ _ => rfl | cases h
theorem noSet_of {op : CmpOp} {b : Expr} (h : setB b = false) : behindInMarks op b = false := by
  cases b <;> first | rfl | cases h
theorem fold_of {e : Expr} {env : PySem.Env} (h : setB e = false) : ∀ x, foldedSetIterable e env x = pure x := by
  cases e <;> first | exact fun _ => rfl | cases h
theorem noSwap_of {e : Expr} {t : Option Expr} {l : Nat} {env : PySem.Env} (h : notComp e = true) : swapsWith e t l env = pure false := by
  cases e <;> first | rfl | cases h
theorem vis_of {sc : Scope} {x : Str} (h : visB sc x = true) : Vis sc x := by
  unfold visB at h
  split at h
  · exact .inl (by assumption)
  · exact .inr (.inl (by assumption))
  · exact .inr (.inr (by assumption))
  · cases h
theorem loc_of {fb : Str → Bool} {sc : Scope} {x : Str} (h : locB fb sc x = true) : Loc sc x ∧ (fb x = true ∨ sc.names.lookup x = some .local) := by
  unfold locB at h
  split at h
  · exact ⟨.inl (by assumption), .inr (by assumption)⟩
  · exact ⟨.inr (by assumption), .inl h⟩
  · cases h
theorem gl_of {X : Cx} {sc : Scope} {x : Str} (e : X.env.scope = sc) (h : glB sc x = true) : Gl X x := by
  unfold glB at h
  split at h
  · show X.env.scope.names.lookup x = _
    rw [e]; assumption
  · cases h
theorem pl_of {x : Str} (h : plB x = true) : (x == ("__debug__" : Str)) = false ∧ (x == ("__classdict__" : Str)) = false ∧ x ≠ "__name__" := by
  unfold plB at h
  simp only [Bool.and_eq_true, Bool.not_eq_true'] at h
  obtain ⟨⟨h1, h2⟩, h3⟩ := h
  refine ⟨h1, h2, fun e => ?_⟩
  rw [e] at h3
  simp at h3
end Mp
set_option Elab.async false
set_option linter.all false
set_option maxRecDepth 100000
set_option maxHeartbeats 2000000
/-! ranges between far numbers -/
namespace L2
open PySem PySem.Spec PyProof.Rows
theorem turn_rangeL {P : Program} {w : World} {K : PySem.W.Frag} {tg : Expr} (it : Addr) (lo : Int) (n : Nat) : Turn P w K tg (Itr lo n) [it] it (fun i h => IsLongIter h it (lo + (i : Nat) * 1) ((n : Int) - (i : Nat)) 1) where
  mem := by simp
  obj := fun i h st b hb => by
    have e : b = it := by simpa using hb
    subst e
    exact ⟨_, st, fun v z => by
      have z' : Data.fields _ = Data.cell v := z
      cases z'⟩
  keep := fun i h h' st k => k it (by simp) _ st
  item := by
    intro X hP hw hK hc i pins s σ H E I hf st hg
    subst hP hw hK
    obtain ⟨f0, f1, f2, f3, f4, f5⟩ := hf it (by simp)
    have W := Walks.longrange (prog := X.prog) (w := X.w) (I.ok.hd hc) it lo 1 n
    refine W.item i s _ _ hg st fun v h' tk hv st' kk => ?_
    obtain ⟨t, rfl⟩ := hv
    have I1 : Inv X pins σ H { s with heap := h', toks := tk } := I.turned (fun b o hb e => kk b o (by simpa using hb) e) f0 f1 f3 f4 f5
    refine ⟨_, rfl, go_of (s := { s with heap := h', toks := tk }) (n := "longrange_iterator") st' rfl rfl (by decide) ⟨.int (lo + i), H, I1, ⟨t, ?_⟩, ⟨rfl, rfl⟩, st', fun b hb => (hf b hb).1⟩⟩
    rw [Int.mul_one]
  done := by
    intro X hP hw hK hc i pins s σ H E I hf st hg
    subst hP hw hK
    obtain ⟨f0, f1, f2, f3, f4, f5⟩ := hf it (by simp)
    exact wpAny_pyNext_long_end (I.ok.hd hc) st (by have : n ≤ i := hg; omega) fun h' eb => ⟨rfl, I.turned (t' := s.toks) (fun b o hb e => eb b o hb e) f0 f1 f3 f4 f5⟩
  self := fun _ _ _ _ _ st h => wpAny_pyIter_longiter st h
section
variable {X : Cx} {tg : Expr}
theorem range_itA {pins : List (Addr × Obj)} {σ : St} {H : Hp} {s : Shared} {R : It → Hp → Prop} {E : Value → Shared → Prop} {lo hi : Int} {t u v : Tok} {tk : Nat} (I : Inv X pins σ H s)
    (q : R (Itr lo (hi - lo).toNat) H) : wpAny (model X.prog X.w) X.A (pyIter (.ref s.heap.objs.size)) (PIE X pins σ tg R) E { s with heap := s.heap.push { cls := .type "range", data := .fields #[.int lo t, .int hi u, .int 1 v] }, toks := tk } := by
  have I1 : Inv X pins σ H { s with heap := s.heap.push { cls := .type "range", data := .fields #[.int lo t, .int hi u, .int 1 v] }, toks := tk } := I.kept fun b o e => Heap.get?_push_of_some _ e
  have e1 : lo + ((0 : Nat) : Int) * 1 = lo := by simp
  have e2 : (((hi - lo).toNat : Nat) : Int) - ((0 : Nat) : Int) = Builtin.Range.rangeSize lo hi 1 := by rw [rangeSize_one]; split <;> omega
  by_cases hs : Builtin.Range.small lo hi 1 = true
  · refine wpAny_pyIter_range (IsRange.new ..) hs ?_
    refine pi_one (tk := tk) I1 _ (turn_range _ lo (hi - lo).toNat) ?_ q
    show IsRangeIter _ _ (lo + ((0 : Nat) : Int) * 1) ((((hi - lo).toNat : Nat) : Int) - ((0 : Nat) : Int)) 1
    rw [e1, e2]
    exact Heap.get?_push_size _ rfl
  · refine wpAny_pyIter_longrange (IsRange.new ..) (by simpa using hs) ?_
    refine pi_one (tk := tk) I1 _ (turn_rangeL _ lo (hi - lo).toNat) ?_ q
    show IsLongIter _ _ (lo + ((0 : Nat) : Int) * 1) ((((hi - lo).toNat : Nat) : Int) - ((0 : Nat) : Int)) 1
    rw [e1, e2]
    exact Heap.get?_push_size _ rfl
noncomputable def iRng2A (ta : TA) : TI := fun σ H R => ta σ H fun vs H1 => ∃ i j : Int, vs = [.int i, .int j] ∧ R (Itr i (j - i).toNat) H1
theorem pi_range2A {a b : Expr} {ta : TA} {p pos : Pos} (hg : Gl X "range") (hm : X.mg "range" = none) (ha : PA X [a, b] ta) (hs : starEach [a, b] X.env = [(false, eval a X.env), (false, eval b X.env)] := by rfl) (hs2 : starEach [b] X.env = [(false, eval b X.env)] := by rfl) :
    PI X tg (.Call (.Name "range" p) [a, b] [] pos) (iRng2A ta) := by
  refine ⟨fun pins s σ H R I h => ?_⟩
  refine Call_ (ld_blt I hg hm boot_range (PyProof.Rows.callWith_type1 (thn (ha.run pos pins s σ H _ I h) fun us s1 ⟨vs, H1, I1, r1, q1⟩ => ?_) (by rw [hs, hs2]) (by rw [hs2]; rfl)))
  obtain ⟨i, j, e, q⟩ := q1
  subst e
  cases r1 with
  | cons r rr =>
    cases rr with
    | cons r' rr =>
      cases rr
      obtain ⟨t, rfl⟩ := r
      obtain ⟨t', rfl⟩ := r'
      exact call_range_2 (range_itA I1 q)
end
end L2
set_option Elab.async false
set_option linter.all false
set_option maxRecDepth 100000
set_option maxHeartbeats 4000000
/-! method calls and makings with the errors that may leave them -/
namespace Mp
open PySem PySem.Spec PyProof.Rows L2
theorem meth_eval {o : Expr} {m : Str} {ap pos : Pos} {es : List Expr} {env : PySem.Env} (hb : attributeBase o m env (eval o env) = eval o env)
    (hf : ((backTo pos (starEach es env)).all (fun x => !x.1) && (backToKw pos (keywordEach [] env)).all (fun x => x.1.isSome) && decide (es.length + ([] : List Keyword).length + (if ([] : List Keyword).isEmpty then 0 else 1) < 30)) = true)
    (hl : (ap.endLine == pos.line) = true) : eval (.Call (.Attribute o m ap) es [] pos) env = (do
      let ov ← eval o env
      standAt ap.atName
      let (f, first) ← holding [ov] (getMethod ov m (do return (← importBound o env).getD true))
      callWith pos f first (backTo pos (starEach es env)) (backToKw pos (keywordEach [] env))) := by
  have hm : methodCallForm (es.length + ([] : List Keyword).length) (backTo pos (starEach es env)) (backToKw pos (keywordEach [] env)) = true := hf
  rw [arm_eval_Call, hb]
  congr 1
  funext ov
  congr 1
  funext _
  unfold methodCall
  rw [hm]
  unfold calleeOf methodCallPos
  simp only [if_true, hl, Bool.not_true, Bool.false_or, pure_bind]
theorem few_of {qs : List Expr} {env : PySem.Env} {pos : Pos} (hs : ∀ q ∈ qs, noStar q = true) (hn : qs.length < 29) :
    ((backTo pos (starEach qs env)).all (fun x => !x.1) && (backToKw pos (keywordEach [] env)).all (fun x => x.1.isSome) && decide (qs.length + ([] : List Keyword).length + (if ([] : List Keyword).isEmpty then 0 else 1) < 30)) = true := by
  have h1 : (backTo pos (starEach qs env)).all (fun x => !x.1) = true := by
    have h := back_no (env := env) (pos := pos) hs
    rw [List.all_eq_not_any_not]
    simp only [Bool.not_not]
    rw [h]; rfl
  have h3 : (backToKw pos (keywordEach [] env)).all (fun x => x.1.isSome) = true := rfl
  rw [h1, h3]
  simp only [Bool.and_self, Bool.true_and, decide_eq_true_eq, List.length_nil, List.isEmpty_nil, if_true]
  omega
section
variable {X : Cx} {CX : CXT} {k : Nat} {f C : Addr} {fd : FuncData} {ps : List Str} {sp : Sp} {E : L2.St → XK} {x m : Str} {p pos apos : Pos} {e o : Expr} {es : List Expr} {ta : TE} {t : TA}
noncomputable def tMethS (C : Addr) (m : Str) (sp : Sp) (E : L2.St → XK) (ta : TE) (t : TA) : TE := fun σ H Q => ta σ H fun x H1 => ∃ a dx fs, x = .ref a ∧ H1 a = some (.ins C dx fs) ∧ fs.lookup m = none ∧ t σ H1 fun vs H2 => sp (x :: vs) H2 Q (E σ)
theorem pe_methX {pl : Sem Bool} (he : PE X o ta) (c : Cls X.K C) (hm : Meth X.K C m f) (F : FnOk X.prog X.w X.K X.mg X.base CX k f fd ps sp) (hr : Room k X.A) (hb : Binds X.K fd ps []) (hx : ∀ σ, PassesAt CX X σ (E σ)) (ha : PA X (e :: es) t)
    (hst : starEach (e :: es) X.env = (false, eval e X.env) :: starEach es X.env) (hpl : (backTo pos (starEach es X.env)).any (·.1) = false)
    (ht : eval (.Call (.Attribute o m apos) (e :: es) [] pos) X.env = (do
      let ov ← eval o X.env
      standAt apos.atName
      let (f, first) ← holding [ov] (getMethod ov m pl)
      callWith pos f first (backTo pos (starEach (e :: es) X.env)) (backToKw pos (keywordEach [] X.env)))) :
    PE X (.Call (.Attribute o m apos) (e :: es) [] pos) (tMethS C m sp E ta t) := by
  refine ⟨fun pins s σ H Q I h => ?_⟩
  refine PySem.W.methodCall_KW (pl := pl) (thn (he.run pins s σ H _ I h) fun u s1 ⟨x, H1, I1, rx, a, dx, fs, ex, ea, l, q⟩ => ?_) ht
  subst ex
  obtain rfl : u = Value.ref a := rx
  refine getmeth_ok I1 ea c hm l ?_
  refine PySem.W.callWith_K (first := [.ref a]) (h₀ := X.base) I.ok.mod.kin hm.kp (thn (ha.run pos pins s1 σ H1 _ I1 q) fun us s2 ⟨vs, H2, I2, r, q2⟩ => ⟨I2.kIn, ?_⟩) hst hpl
  exact run_fnS (us := .ref a :: us) (vs := .ref a :: vs) F hr hb (hx σ) I2 (.cons rfl r) q2
theorem pe_methX0 {pl : Sem Bool} (he : PE X o ta) (c : Cls X.K C) (hm : Meth X.K C m f) (F : FnOk X.prog X.w X.K X.mg X.base CX k f fd ps sp) (hr : Room k X.A) (hb : Binds X.K fd ps []) (hx : ∀ σ, PassesAt CX X σ (E σ))
    (ht : eval (.Call (.Attribute o m apos) [] [] pos) X.env = (do
      let ov ← eval o X.env
      standAt apos.atName
      let (f, first) ← holding [ov] (getMethod ov m pl)
      callWith pos f first (backTo pos (starEach [] X.env)) (backToKw pos (keywordEach [] X.env)))) :
    PE X (.Call (.Attribute o m apos) [] [] pos) (tMethS C m sp E ta tNil) := by
  refine ⟨fun pins s σ H Q I h => ?_⟩
  refine PySem.W.methodCall_KW (pl := pl) (thn (he.run pins s σ H _ I h) fun u s1 ⟨x, H1, I1, rx, a, dx, fs, ex, ea, l, q⟩ => ?_) ht
  subst ex
  obtain rfl : u = Value.ref a := rx
  refine getmeth_ok I1 ea c hm l ?_
  exact PySem.W.callWith_K0 (first := [.ref a]) I1.kIn hm.kp (run_fnS (us := [.ref a]) (vs := [.ref a]) F hr hb (hx σ) I1 (.cons rfl .nil) q)
noncomputable def tMakeS (C : Addr) (sp : Sp) (E : L2.St → XK) (t : TA) : TE := fun σ H Q => t σ H fun vs H1 => ∀ x dx, H1 x = none → H1 dx = none → dx ≠ x → sp (.ref x :: vs) (upd (upd H1 dx (.own x)) x (.ins C dx [])) (fun v H2 => v = .non ∧ Q (.ref x) H2) (E σ)
theorem run_makeS {pins : List (Addr × Obj)} {σ : L2.St} {H : Hp} {s : Shared} {Q : VK} {us : List Value} {vs : List V} (M : Mk X.K C f) (F : FnOk X.prog X.w X.K X.mg X.base CX k f fd ps sp) (hr : Room (k + 1) X.A) (hb : Binds X.K fd ps [])
    (hx : PassesAt CX X σ (E σ)) (I : Inv X pins σ H s) (r : Vals vs us)
    (h : ∀ x dx, H x = none → H dx = none → dx ≠ x → sp (.ref x :: vs) (upd (upd H dx (.own x)) x (.ins C dx [])) (fun v H2 => v = .non ∧ Q (.ref x) H2) (E σ)) :
    wpAny (model X.prog X.w) X.A (call (.ref C) us) (EP X pins σ Q) X.xe s := by
  have hq := h (s.heap.objs.size + 1) s.heap.objs.size (I.hok.fresh (Nat.le_succ _)) (I.hok.fresh (Nat.le_refl _)) (Nat.ne_of_lt (Nat.lt_succ_self _))
  have I2 := Inv.made (C := C) I
  have r2 : Vals (V.ref (s.heap.objs.size + 1) :: vs) (Value.ref (s.heap.objs.size + 1) :: us) := .cons rfl r
  have hl : (Value.ref (s.heap.objs.size + 1) :: us).length = ps.length := by
    have e := r2.length
    rw [F.len _ _ _ _ hq] at e
    exact e.symm
  have b := hb { s with heap := (s.heap.push PySem.W.emptyDict).push (PySem.W.instObj C s.heap.objs.size) } (Value.ref (s.heap.objs.size + 1) :: us) I2.kIn (by rw [List.append_nil]; exact hl)
  rw [List.append_nil] at b
  refine wpAny_call (make_map (f := f) I.kIn M.makes M.init (beq_iff_eq.mp M.fn) (codeAny_mono (F.run _ X.stack _ _ ⟨Value.ref (s.heap.objs.size + 1) :: us, []⟩ (Value.ref (s.heap.objs.size + 1) :: us) _ _ (E σ) (hr.make C us [])
    (I2.env0.make C us []) b r2 hq) fun r s' hq' => ?_))
  cases r with
  | error e => exact hx pins _ _ e s' I2 hq'
  | ok fl =>
    cases fl with
    | ret u =>
      obtain ⟨v, H', I3, rv, ev, q3⟩ := I2.after hq'
      subst ev
      exact ⟨rv, ⟨V.ref (s.heap.objs.size + 1), H', I3, rfl, q3⟩⟩
    | next => exact False.elim hq'
    | brk => exact False.elim hq'
    | cont => exact False.elim hq'
theorem pe_makeX (M : Mk X.K C f) (F : FnOk X.prog X.w X.K X.mg X.base CX k f fd ps sp) (hr : Room (k + 1) X.A) (hg : Gl X x) (hm : X.mg x = some (.ref C)) (hb : Binds X.K fd ps []) (hx : ∀ σ, PassesAt CX X σ (E σ))
    (ha : PA X (e :: es) t) (hdb : (x == ("__debug__" : Str)) = false) (he : starEach (e :: es) X.env = (false, eval e X.env) :: starEach es X.env) (hpl : (backTo pos (starEach es X.env)).any (·.1) = false) :
    PE X (.Call (.Name x p) (e :: es) [] pos) (tMakeS C sp E t) := by
  refine ⟨fun pins s σ H Q I h => ?_⟩
  refine wpAny_Call_Name_kw (ld_glob I hg hm ?_ hdb)
  refine PySem.W.callWith_K (h₀ := X.base) I.ok.mod.kin M.kp (thn (ha.run pos pins s σ H _ I h) fun us s1 ⟨vs, H1, I1, r, q⟩ => ⟨I1.kIn, ?_⟩) he hpl
  exact run_makeS M F hr hb (hx σ) I1 r q
theorem pe_makeX0 (M : Mk X.K C f) (F : FnOk X.prog X.w X.K X.mg X.base CX k f fd ps sp) (hr : Room (k + 1) X.A) (hg : Gl X x) (hm : X.mg x = some (.ref C)) (hb : Binds X.K fd ps []) (hx : ∀ σ, PassesAt CX X σ (E σ))
    (hdb : (x == ("__debug__" : Str)) = false) : PE X (.Call (.Name x p) [] [] pos) (tMakeS C sp E tNil) := by
  refine ⟨fun pins s σ H Q I h => ?_⟩
  refine wpAny_Call_Name_kw (ld_glob I hg hm ?_ hdb)
  exact PySem.W.callWith_K0 I.kIn M.kp (run_makeS (us := []) M F hr hb (hx σ) I .nil h)
end
end Mp
set_option Elab.async false
set_option linter.all false
set_option maxRecDepth 100000
set_option maxHeartbeats 4000000
namespace Mp
open PySem PySem.Spec PyProof.Rows L2
/-! ### operators -/
noncomputable def rCat2 (K : PySem.W.Frag) : R2 := fun x y H Q => ∃ l b xs zs, x = .ref l ∧ y = .ref b ∧ SqL K H l xs ∧ SqL K H b zs ∧ xs.length + zs.length ≤ sizeLine ∧ ∀ p, H p = none → Q (.ref p) (upd H p (.lst (xs ++ zs)))
theorem Rd.lstAt {X : Cx} {pins : List (Addr × Obj)} {σ : Slo} {H : Hp} {s : Shared} {l : Addr} {xs : List V} (I : Inv X pins σ H s) (h : Rd H l (.lst xs)) :
    xs.length ≤ sizeLine ∧ ∃ (is_ : List Value) (n : Nat), Vals xs is_ ∧ xs.length = is_.length ∧ s.heap.get? l = some { cls := .type "list", data := .seq is_.toArray n } := by
  obtain ⟨z, is_, n, q, e⟩ := h.ok I.hok
  exact ⟨z, is_, n, q, q.length, e⟩
theorem list_add_any (l : Addr) (items : Array Value) (n : Nat) (sl : Array (Option Value)) (b : Addr) (items2 : Array Value) (n2 : Nat) (sl2 : Array (Option Value)) (hc0 : items.size + items2.size ≤ sizeLine) :
    Meets (Builtin.«list.__add__» ⟨[.ref l, .ref b], []⟩) (fun _ R s => s.heap.get? l = some { cls := .type "list", dict := none, data := .seq items n, slots := sl } ∧ s.heap.get? b = some { cls := .type "list", dict := none, data := .seq items2 n2, slots := sl2 } ∧ R (.ok (.ret (Value.ref s.heap.objs.size))) { s with heap := s.heap.push { cls := Value.type "list", data := Data.seq (items ++ items2) }, toks := s.toks }) :=
  .of_wp fun prog w A R s h => by
    obtain ⟨hp, g, d, tk, os⟩ := s
    obtain ⟨hl, hb, h⟩ := h
    have f1 := PySem.AutoSeq1.idx_int
    have f2 := PySem.AutoSeq1.sub_tuple_tuple
    have f3 := PySem.AutoSeq1.sub_list_list
    have f4 := PySem.AutoSeq1.sub_tuple_list
    have f5 := PySem.AutoSeq1.sub_list_tuple
    wp_walk using PySem.AutoSeq1.wpAny_loadPart' hl, PySem.AutoSeq1.wpAny_loadPart' hb
    exact ⟨_, rfl, h⟩
theorem op_cat2 {X : Cx} : OpR X (binaryOp .Add) (rCat2 X.K) := by
  intro pins s σ H x y v u Q I rx ry h
  obtain ⟨l, b, xs, zs, rfl, rfl, h1, h2, hz, q⟩ := h
  cases rx; cases ry
  obtain ⟨i1, q1, ⟨o1, n1, e1, c1, d1, t1⟩, _⟩ := I.list h1
  obtain ⟨i2, q2, ⟨o2, n2, e2, c2, d2, t2⟩, _⟩ := I.list h2
  obtain ⟨cl1, di1, da1, sl1⟩ := o1
  obtain ⟨cl2, di2, da2, sl2⟩ := o2
  dsimp only at c1 d1 t1 c2 d2 t2
  subst c1; subst d1; subst t1; subst c2; subst d2; subst t2
  have l1 := q1.length
  have l2 := q2.length
  refine PySem.concat_meets ⟨_, e1, rfl⟩ ⟨_, e2, rfl⟩ PySem.noFill_list_add PySem.seq_list_add F.slot_list_add F.entry_list_add (F.args_list_add_2 _ _) (list_add_any l i1.toArray n1 sl1 b i2.toArray n2 sl2 (by rw [List.size_toArray, List.size_toArray]; omega)) ⟨e1, e2, ?_⟩
  have ea : i1.toArray ++ i2.toArray = (i1 ++ i2).toArray := by simp
  rw [ea]
  have J := I.lnew (t' := s.toks) (q1.append q2) (by rw [List.length_append]; omega)
  exact ⟨.ref _, _, J, rfl, q _ I.fresh⟩
noncomputable def rMulI : R2 := fun x y H Q => rI CMul (fun i j => .int (i * j)) x y H Q ∨ rI CMulW (fun i j => .int (i * j)) x y H Q
theorem small_lt {i : Int} (h : small i = true) : i.natAbs < 2 ^ 2000 := by
  unfold small at h
  have h := of_decide_eq_true h
  unfold BIG at h
  omega
theorem mul_reads {i j : Int} {H : Hp} {Q : VK} (h : mulOk i j = true) (q : Q (.int (i * j)) H) : rMulI (.int i) (.int j) H Q := by
  unfold mulOk at h
  simp only [Bool.or_eq_true, decide_eq_true_eq, Bool.and_eq_true] at h
  rcases h with (h | h) | h
  · exact .inl ⟨i, j, rfl, rfl, .inl h, q⟩
  · exact .inl ⟨i, j, rfl, rfl, .inr h, q⟩
  · exact .inr ⟨i, j, rfl, rfl, wide_mul (small_lt h.1) (small_lt h.2) (by decide) (by decide) (by decide), q⟩
noncomputable def rRep2 : R2 := fun x y H Q => ∃ l k xs, x = .ref l ∧ y = .int k ∧ Rd H l (.lst xs) ∧ (-(2 ^ 63) ≤ k ∧ k < 2 ^ 63 ∧ xs.length * k.toNat ≤ sizeLine) ∧
  ∀ p, H p = none → Q (.ref p) (upd H p (.lst (List.replicate k.toNat xs).flatten))
theorem flat_fold (us : List Value) (k : Nat) : List.foldl (fun x1 x2 => x1 ++ x2) #[] (List.replicate (if us.toArray.isEmpty = true then 0 else k) us.toArray) = (List.replicate k us).flatten.toArray := by
  have g : ∀ q : Nat, List.foldl (fun x1 x2 => x1 ++ x2) #[] (List.replicate q us.toArray) = (List.replicate q us).flatten.toArray := fun q => by
    have z := foldl_rep us q []
    rw [List.nil_append] at z; exact z
  rw [g]
  cases us with
  | nil => simp
  | cons _ _ => rw [if_neg (by simp)]
theorem op_rep2 {X : Cx} : OpR X (binaryOp .Mult) rRep2 := by
  intro pins s σ H x y v u Q I rx ry h
  obtain ⟨l, k, xs, rfl, rfl, hd, ⟨b1, b2, b3⟩, q⟩ := h
  cases rx
  obtain ⟨tk, rfl⟩ := ry
  obtain ⟨_, us, n, vq, el, eh⟩ := Rd.lstAt I hd
  have g1 : us.toArray.size * k.toNat ≤ sizeLine := by rw [List.size_toArray, ← el]; exact b3
  have g2 : ¬ us.toArray.size * k.toNat > (2 ^ 63 - 1) / 8 := fun z => by
    have : (sizeLine : Nat) ≤ (2 ^ 63 - 1) / 8 := by decide
    omega
  have g3 : ¬ (!Builtin.List.listFitsIndex k) = true := by rw [fitsIndex_both b1 b2]; simp
  have g4 : ¬ Builtin.List.listTooLong (us.toArray.size * k.toNat) = true := by rw [notLongL g1]; simp
  have inner := AutoListH.list___mul___list_int_3 l us.toArray n k tk g3 g2 g4
  refine wpAny_binaryOp_repeat_ref (T := "list") (U := "int") (by decide) ⟨_, eh, rfl⟩ (fun z => typeIs_int z k tk) noFill_list_mul F.fills_int_mul F.slot_int_rmul repeat_list F.slot_int_index.lookup ?_
  refine call_meets F.slot_int_rmul (typeIs_int s k tk) F.entry_int_rmul (F.args_int_rmul_2 _ _) (int___rmul___int_list k tk l us.toArray n) ?_
  refine ⟨eh, rfl, ⟨_, eh, rfl⟩, call_meets F.slot_list_mul ⟨_, eh, rfl⟩ F.entry_list_mul (F.args_list_mul_2 _ _) inner ⟨eh, ?_⟩⟩
  rw [flat_fold]
  have J := I.lnew (t' := s.toks) (vq.rep k.toNat) (by rw [PyProof.Rows.lm_len_rep_flat, Nat.mul_comm]; exact b3)
  exact ⟨.ref _, _, J, rfl, q _ I.fresh⟩
noncomputable def rRepS : R2 := fun x y H Q => ∃ s k, x = .str s ∧ y = .int k ∧ (k = 0 ∨ k = 1) ∧ Q (.str (if k = 1 then s else ⟨#[]⟩)) H
theorem op_repS {X : Cx} : OpR X (binaryOp .Mult) rRepS := by
  intro pins s σ H x y v u Q I rx ry h
  obtain ⟨z, k, rfl, rfl, hk, q⟩ := h
  obtain ⟨t, rfl⟩ := rx
  obtain ⟨t2, rfl⟩ := ry
  rcases hk with rfl | rfl
  · refine P.mul_str (by decide) (fun z => absurd (by decide) z) (fun z => absurd (by decide) z) ?_
    rw [if_pos (by decide)]
    simp only [Made.post]
    rw [if_neg (by decide)] at q
    exact ⟨by decide, .str ⟨#[]⟩, H, I.tok _, ⟨_, rfl⟩, q⟩
  · refine P.mul_str (by decide) (fun _ z => absurd z (by simp)) (fun _ z => absurd z (by simp)) ?_
    rw [if_neg (by decide), if_pos (by rfl)]
    rw [if_pos rfl] at q
    exact ⟨.str z, H, I, ⟨_, rfl⟩, q⟩
noncomputable def rAdd3 (K : PySem.W.Frag) : R2 := fun x y H Q => (rI0 (fun i j => .int (i + j)) x y H Q ∨ (∃ i j, x = .str i ∧ y = .str j ∧ i.length + j.length ≤ sizeLine ∧ Q (.str (i ++ j)) H)) ∨ rCat2 K x y H Q
noncomputable def rOdd : R2 := fun x y H Q => ∃ n : Nat, x = .int (n : Int) ∧ y = .int 1 ∧ Q (.int ((n % 2 : Nat) : Int)) H
noncomputable def rOp (K : PySem.W.Frag) : Op → R2
  | .add => rAdd3 K
  | .sub => rI0 fun i j => .int (i - j)
  | .mul => fun x y H Q => (rMulI x y H Q ∨ rRep2 x y H Q) ∨ rRepS x y H Q
  | .fdiv => rI CDivW fun i j => .int (i / j)
  | .mod => rI (fun _ j => 0 < j) fun i j => .int (i % j)
  | .pow => rI CPow fun i j => .int (i ^ j.toNat)
  | .shr => rI (fun _ j => 0 ≤ j) fun i j => .int (i / 2 ^ j.toNat)
  | .band => rOdd
theorem opR_of {X : Cx} {op : Op} {o : Operator} (h : opB op o = true) : OpR X (binaryOp o) (rOp X.K op) := by
  cases op <;> cases o <;> first | (exfalso; exact Bool.false_ne_true h) | skip
  · exact (op_add.or op_add_str).or op_cat2
  · exact op_sub
  · exact ((op_mul.or op_mulW).or op_rep2).or op_repS
  · exact op_fdivW
  · exact op_mod
  · exact op_pow
  · exact op_shr
  · exact op_odd
theorem lim_line {n : Nat} (h : n ≤ LIM) : n ≤ sizeLine := Nat.le_trans h (by decide)
section
variable {T : Tab} {B P H : Hp} {r : List Addr} {m : Sto} {en : En} {σ : Slo} {x y : V} {a b : RV}
theorem RepL.len_le {vs : List V} {ws : List W} (h : RepL T B r vs ws) {n : Nat} (q : ws.length ≤ n) : vs.length ≤ n := by rw [h.len]; exact q
theorem bin_ok {op : Op} {c : RV} {Q : VK} (R : Rel T B r P m en σ H) (ha : RepR T B r P en σ H x a) (hb : RepR T B r P en σ H y b) (e : binR op en m a b = some c)
    (q : ∀ v B2 H2, Ext P B r B2 r → Rel T B2 r P m en σ H2 → RepR T B2 r P en σ H2 v c → Q v H2) : rOp T.K op x y H Q := by
  unfold binR at e
  split at e
  · -- add
    rename_i i j e1 e2
    cases e
    have h1 := (R.top ha e1).int; have h2 := (R.top hb e2).int
    subst h1 h2
    exact .inl (.inl ⟨i, j, rfl, rfl, q _ B H Ext.refl R (.int _)⟩)
  · rename_i i j e1 e2
    cases e
    have h1 := (R.top ha e1).int; have h2 := (R.top hb e2).int
    subst h1 h2
    exact ⟨i, j, rfl, rfl, q _ B H Ext.refl R (.int _)⟩
  · rename_i i j e1 e2
    split at e
    · rename_i c
      cases e
      have h1 := (R.top ha e1).int; have h2 := (R.top hb e2).int
      subst h1 h2
      exact .inl (.inl (mul_reads c (q _ B H Ext.refl R (.int _))))
    · cases e
  · rename_i i j e1 e2
    split at e
    · rename_i c
      cases e
      have h1 := (R.top ha e1).int; have h2 := (R.top hb e2).int
      subst h1 h2
      refine ⟨i, j, rfl, rfl, wide_div (b := 2000) c.1 ?_ (by decide) (by decide), q _ B H Ext.refl R (.int _)⟩
      have := c.2
      unfold BIG at this
      omega
    · cases e
  · rename_i i j e1 e2
    split at e
    · rename_i c
      cases e
      have h1 := (R.top ha e1).int; have h2 := (R.top hb e2).int
      subst h1 h2
      exact ⟨i, j, rfl, rfl, c, q _ B H Ext.refl R (.int _)⟩
    · cases e
  · rename_i i j e1 e2
    split at e
    · rename_i c
      cases e
      have h1 := (R.top ha e1).int; have h2 := (R.top hb e2).int
      subst h1 h2
      refine ⟨i, j, rfl, rfl, ⟨c.1, ?_, ?_⟩, q _ B H Ext.refl R (.int _)⟩
      · have := c.2.1; omega
      · have := c.2.2; omega
    · cases e
  · rename_i i j e1 e2
    split at e
    · rename_i c
      cases e
      have h1 := (R.top ha e1).int; have h2 := (R.top hb e2).int
      subst h1 h2
      exact ⟨i, j, rfl, rfl, c, q _ B H Ext.refl R (.int _)⟩
    · cases e
  · rename_i i j e1 e2
    split at e
    · rename_i c
      cases e
      have h1 := (R.top ha e1).int; have h2 := (R.top hb e2).int
      subst h1 h2
      obtain ⟨rfl, c2⟩ := c
      refine ⟨i.toNat, by rw [Int.toNat_of_nonneg c2], rfl, ?_⟩
      have := q (.int (i % 2)) B H Ext.refl R (.int _)
      have e3 : ((i.toNat % 2 : Nat) : Int) = i % 2 := by omega
      rw [e3]; exact this
    · cases e
  · rename_i i j e1 e2
    split at e
    · rename_i c
      cases e
      have h1 := (R.top ha e1).str; have h2 := (R.top hb e2).str
      subst h1 h2
      exact .inl (.inr ⟨i, j, rfl, rfl, lim_line c, q _ B H Ext.refl R (.str _)⟩)
    · cases e
  · rename_i i j e1 e2
    split at e
    · rename_i c
      cases e
      have h1 := (R.top ha e1).str; have h2 := (R.top hb e2).int
      subst h1 h2
      exact .inr ⟨i, j, rfl, rfl, c, q _ B H Ext.refl R (.str _)⟩
    · cases e
  · -- lists
    rename_i w1 w2 _ _ e1 e2
    split at e
    · rename_i ws zs g1 g2
      split at e
      · rename_i c
        cases e
        obtain ⟨p1, v1, rfl, d1, l1⟩ := RepT.lsts R.s (R.top ha e1) g1
        obtain ⟨p2, v2, rfl, d2, l2⟩ := RepT.lsts R.s (R.top hb e2) g2
        refine .inr ⟨p1, p2, v1, v2, rfl, rfl, d1, d2, ?_, fun p hp => q _ B _ Ext.refl (R.grow (Sub.new hp)) (R.new_own hp (l1.app l2))⟩
        rw [l1.len, l2.len]; exact lim_line c
      · cases e
    · cases e
  · rename_i w1 k _ _ e1 e2
    split at e
    · rename_i ws g1
      split at e
      · rename_i c
        cases e
        have h2 := (R.top hb e2).int
        subst h2
        obtain ⟨p1, v1, rfl, d1, l1⟩ := RepT.lst R.s (R.top ha e1) g1
        refine .inl <| .inr ⟨p1, k, v1, rfl, rfl, d1, ⟨?_, ?_, ?_⟩, fun p hp => q _ B _ Ext.refl (R.grow (Sub.new hp)) (R.new_own hp (l1.rep _))⟩
        · have := c.2.1; omega
        · have := c.1; omega
        · rw [l1.len]; exact lim_line c.2.2
      · cases e
    · cases e
  · cases e
/-! ### comparisons -/
theorem RepT.flat {v : V} {w : W} (h : RepT T B r H v w) (f : flatW w = true) : flatV v = true ∧ ∀ {v2 : V} {w2 : W}, Rep T B r v2 w2 → flatW w2 = true → eqV v2 v = eqFl w2 w := by
  rcases h with h | ⟨_, _, _, _, rfl, _⟩
  · cases h <;> first
      | exact absurd f Bool.false_ne_true
      | (refine ⟨rfl, fun {v2 w2} h2 f2 => ?_⟩
         cases h2 <;> first | exact absurd f2 Bool.false_ne_true | rfl)
  · exact absurd f Bool.false_ne_true
theorem RepL.flats : ∀ {vs : List V} {ws : List W}, RepL T B r vs ws → ws.all flatW = true → vs.all flatV = true
  | _, _, .nil, _ => rfl
  | _, _, .cons h l, f => by
    rw [List.all_cons, Bool.and_eq_true] at f ⊢
    exact ⟨(RepT.flat (H := B) (.inl h) f.1).1, RepL.flats l f.2⟩
theorem RepL.anyEq {v : V} {w : W} (h : RepT T B r H v w) (f : flatW w = true) : ∀ {vs : List V} {ws : List W}, RepL T B r vs ws → ws.all flatW = true → inV v vs = ws.any fun z => eqFl z w
  | _, _, .nil, _ => rfl
  | _, _, .cons h2 l, fs => by
    rw [List.all_cons, Bool.and_eq_true] at fs
    show (eqV _ v || inV v _) = _
    rw [List.any_cons, (RepT.flat h f).2 h2 fs.1, RepL.anyEq h f l fs.2]
noncomputable def rIs3 : R2 := fun x y H Q => (y = .non ∧ Q (.bl (decide (x = .non))) H) ∨ rIsB x y H Q
noncomputable def rIsn3 : R2 := fun x y H Q => (y = .non ∧ Q (.bl (!decide (x = .non))) H) ∨ rNotB x y H Q
noncomputable def rSign (n : Bool) : R2 := fun x y H Q => ∃ (c : Nat) (z : Str), x = .str ⟨#[c]⟩ ∧ y = .str z ∧ Q (.bl (if n then !decide (c ∈ z.cps.toList) else decide (c ∈ z.cps.toList))) H
noncomputable def rGtD (K : PySem.W.Frag) : R2 := fun x y H Q => ∃ d e, Dp K H x d ∧ Dp K H y e ∧ PySem.W.alike d e = true ∧ d ≠ .none ∧ d.depth ≤ 64 ∧ Q (.bl (PySem.W.dataLt e d)) H
theorem op_gtD {X : Cx} (hu : X.A.units + 64 < cLine) : OpR X (compareOp .Gt) (rGtD X.K) := by
  intro pins s σ H x y v u Q I rx ry ⟨d, e, hd, he, al, hn, hdp, q⟩
  obtain ⟨as, r1⟩ := Dp.reads I d x v hd rx
  obtain ⟨bs, r2⟩ := Dp.reads I e y u he ry
  exact PySem.W.gt_data r1 r2 al hn (by have := Nat.min_le_left d.depth e.depth; omega) ⟨.bl _, H, I, rfl, q⟩
noncomputable def rInT (K : PySem.W.Frag) : R2 := fun x y H Q => ∃ d ds, Dp K H x d ∧ Dp K H y (.tuple ds) ∧ SeqAt.shaped d = true ∧ SeqAt.shaped (.tuple ds) = true ∧ Q (.bl (ds.any fun z => PyData.eqv z d)) H
noncomputable def rNotInT (K : PySem.W.Frag) : R2 := fun x y H Q => ∃ d ds, Dp K H x d ∧ Dp K H y (.tuple ds) ∧ SeqAt.shaped d = true ∧ SeqAt.shaped (.tuple ds) = true ∧ Q (.bl (!ds.any fun z => PyData.eqv z d)) H
theorem op_inT {X : Cx} (hu : X.A.units + 65 < cLine) : OpR X (compareOp .In) (rInT X.K) := by
  intro pins s σ H x y v u Q I rx ry h
  obtain ⟨d, ds, hd, he, sd, se, q⟩ := h
  obtain ⟨as, r1⟩ := Dp.reads I d x v hd rx
  obtain ⟨bs, r2⟩ := Dp.reads I (.tuple ds) y u he ry
  exact SeqAt.in_tuple_reads r2 r1 (SeqAt.canLay_of_shaped se) (SeqAt.canLay_of_shaped sd) (room_in_shaped sd hu) ⟨.bl _, H, I, rfl, q⟩
theorem op_notInT {X : Cx} (hu : X.A.units + 65 < cLine) : OpR X (compareOp .NotIn) (rNotInT X.K) := by
  intro pins s σ H x y v u Q I rx ry h
  obtain ⟨d, ds, hd, he, sd, se, q⟩ := h
  obtain ⟨as, r1⟩ := Dp.reads I d x v hd rx
  obtain ⟨bs, r2⟩ := Dp.reads I (.tuple ds) y u he ry
  exact SeqAt.notIn_tuple_reads r2 r1 (SeqAt.canLay_of_shaped se) (SeqAt.canLay_of_shaped sd) (room_in_shaped sd hu) ⟨.bl _, H, I, rfl, q⟩
noncomputable def rCm (K : PySem.W.Frag) : Cm → R2
  | .eq => rEqD K
  | .ne => rNeD K
  | .lt => rI0 fun i j => .bl (decide (i < j))
  | .le => rI0 fun i j => .bl (decide (i ≤ j))
  | .gt => fun x y H Q => rI0 (fun i j => .bl (decide (j < i))) x y H Q ∨ rGtD K x y H Q
  | .ge => rI0 fun i j => .bl (decide (j ≤ i))
  | .is => rIs3
  | .isn => rIsn3
  | .mem => fun x y H Q => (rIn K false x y H Q ∨ rSign false x y H Q) ∨ (rInD K x y H Q ∨ rInT K x y H Q)
  | .nmem => fun x y H Q => (rIn K true x y H Q ∨ rSign true x y H Q) ∨ (rNotInD K x y H Q ∨ rNotInT K x y H Q)
theorem cmR_of {X : Cx} {op : Cm} {o : CmpOp} (h : cmB op o = true) (hu1 : X.A.units + 65 < cLine) : OpR X (compareOp o) (rCm X.K op) := by
  have hu : X.A.units + 64 < cLine := by omega
  cases op <;> cases o <;> first | (exfalso; exact Bool.false_ne_true h) | skip
  · exact op_eqD hu
  · exact op_neD hu
  · exact op_lt
  · exact op_le
  · exact op_gt.or (op_gtD hu)
  · exact op_ge
  · exact op_isN.or op_isBl
  · exact op_notN.or op_notBl
  · exact (op_in_seq.or op_in_sign).or ((op_inD hu1).or (op_inT hu1))
  · exact (op_notIn_seq.or op_notIn_sign).or ((op_notInD hu1).or (op_notInT hu1))
theorem isW_val {x y : V} {w z : W} {k : Bool} (h1 : RepT T B r H x w) (h2 : RepT T B r H y z) (e : isW w z = some k) :
    (y = .non ∧ k = decide (x = .non)) ∨ ∃ a b : Bool, x = .bl a ∧ y = .bl b ∧ k = decide (a = b) := by
  unfold isW at e
  split at e
  · cases e; have := h1.non; have := h2.non; subst x y; exact .inl ⟨rfl, rfl⟩
  · cases e; have := h1.bl; have := h2.bl; subst x y; exact .inr ⟨_, _, rfl, rfl, rfl⟩
  · cases e; have := h1.bl; have := h2.non; subst x y; exact .inl ⟨rfl, rfl⟩
  · cases e; have := h1.int; have := h2.non; subst x y; exact .inl ⟨rfl, rfl⟩
  · cases e; have := h1.str; have := h2.non; subst x y; exact .inl ⟨rfl, rfl⟩
  · cases e; have := h2.non; subst y
    refine .inl ⟨rfl, ?_⟩
    rcases h1 with h | ⟨_, _, _, rfl, _⟩
    · cases h; rfl
    · rfl
  · cases e; have := h2.non; subst y
    refine .inl ⟨rfl, ?_⟩
    rcases h1 with h | ⟨_, _, _, rfl, _⟩
    · cases h; rfl
    · rfl
  · cases e; have := h2.non; subst y
    refine .inl ⟨rfl, ?_⟩
    rcases h1 with h | ⟨_, _, _, rfl, _⟩
    · cases h; rfl
    · rfl
  · cases e; have := h2.non; subst y
    refine .inl ⟨rfl, ?_⟩
    rcases h1 with h | ⟨_, _, _, rfl, _⟩
    · cases h; rfl
    · rfl
  · cases e
theorem memW_val (R : RelS T B r P m H) {x y : V} {w z : W} {k : Bool} (h1 : RepT T B r H x w) (h2 : RepT T B r H y z) (e : memW m w z = some k) :
    (∃ p xs, y = .ref p ∧ (SqL T.K H p xs ∨ SqT T.K H p xs) ∧ flatV x = true ∧ xs.all flatV = true ∧ k = inV x xs) ∨ ∃ (c : Nat) (s : Str), x = .str ⟨#[c]⟩ ∧ y = .str s ∧ k = decide (c ∈ s.cps.toList) := by
  unfold memW at e
  split at e
  · rename_i ws g
    split at e
    · rename_i c
      rw [Bool.and_eq_true] at c
      cases e
      obtain ⟨p, vs, rfl, d, l⟩ := RepT.seq R h2 g
      refine .inl ⟨p, vs, rfl, d, (h1.flat c.1).1, l.flats c.2, (RepL.anyEq h1 c.1 l c.2).symm⟩
    · cases e
  · split at e
    · rename_i a b _
      split at e
      · rename_i c q
        cases e
        have e1 := h1.str; have e2 := h2.str
        subst e1 e2
        refine .inr ⟨c, b, ?_, rfl, rfl⟩
        congr 1
        obtain ⟨cps⟩ := a
        congr 1
        have : cps.toList = [c] := q
        exact Array.toList_inj.mp this
      · cases e
    · cases e
theorem cmp_ok {op : Cm} {c : Bool} {Q : VK} (R : Rel T B r P m en σ H) (ha : RepR T B r P en σ H x a) (hb : RepR T B r P en σ H y b) (e : cmpR op en m a b = some c) (q : Q (.bl c) H) : rCm T.K op x y H Q := by
  unfold cmpR at e
  split at e
  · rename_i w z e1 e2
    have h1 := R.top ha e1
    have h2 := R.top hb e2
    have two : ∀ {f : Int → Int → Bool}, intCmp f w z = some c → ∃ i j, x = .int i ∧ y = .int j ∧ c = f i j := fun {f} g => by
      unfold intCmp at g
      split at g
      · cases g
        have e1 := h1.int; have e2 := h2.int
        subst e1 e2
        exact ⟨_, _, rfl, rfl, rfl⟩
      · cases g
    cases op with
    | lt => obtain ⟨i, j, rfl, rfl, rfl⟩ := two (f := fun i j => decide (i < j)) e; exact ⟨i, j, rfl, rfl, q⟩
    | le => obtain ⟨i, j, rfl, rfl, rfl⟩ := two (f := fun i j => decide (i ≤ j)) e; exact ⟨i, j, rfl, rfl, q⟩
    | gt =>
      dsimp only at e
      split at e
      · cases e
        have g1 := h1.int; have g2 := h2.int
        subst g1 g2
        exact .inl ⟨_, _, rfl, rfl, q⟩
      · right
        unfold gtD at e
        split at e
        · rename_i d1 d2 p1 p2
          split at e
          · rename_i hc
            simp only [Bool.and_eq_true, decide_eq_true_eq, Bool.not_eq_true'] at hc
            cases e
            exact ⟨d1, d2, pd_dp R.s _ h1 p1, pd_dp R.s _ h2 p2, hc.1.1, fun z => by rw [z] at hc; exact absurd hc.1.2 (by decide), hc.2, q⟩
          · cases e
        · cases e
    | ge => obtain ⟨i, j, rfl, rfl, rfl⟩ := two (f := fun i j => decide (j ≤ i)) e; exact ⟨i, j, rfl, rfl, q⟩
    | is =>
      rcases isW_val h1 h2 e with ⟨g1, g2⟩ | ⟨k1, k2, g1, g2, g3⟩
      · rw [g2] at q; exact .inl ⟨g1, q⟩
      · rw [g3] at q; exact .inr ⟨k1, k2, g1, g2, q⟩
    | isn =>
      dsimp only at e
      cases g : isW w z with
      | none => rw [g] at e; cases e
      | some k =>
        rw [g] at e
        simp only [Option.map_some, Option.some.injEq] at e
        subst e
        rcases isW_val h1 h2 g with ⟨g1, g2⟩ | ⟨k1, k2, g1, g2, g3⟩
        · rw [g2] at q; exact .inl ⟨g1, q⟩
        · rw [g3] at q; exact .inr ⟨k1, k2, g1, g2, q⟩
    | mem =>
      dsimp only at e
      unfold memX at e
      split at e
      · rename_i k g
        cases e
        rcases memW_val R.s h1 h2 g with ⟨p, xs, g1, g2, g3, g4, g5⟩ | ⟨k, s, g1, g2, g3⟩
        · rw [g5] at q; exact .inl (.inl ⟨p, xs, g1, g2, g3, g4, q⟩)
        · rw [g3] at q; exact .inl (.inr ⟨k, s, g1, g2, q⟩)
      · unfold memD at e
        split at e
        · rename_i d ds g1 g2
          split at e
          · rename_i g
            rw [Bool.and_eq_true] at g
            cases e
            exact .inr (.inl ⟨d, ds, pd_dp R.s _ h1 g1, pd_dp R.s _ h2 g2, g.1, g.2, q⟩)
          · cases e
        · rename_i d ds g1 g2
          split at e
          · rename_i g
            rw [Bool.and_eq_true] at g
            cases e
            exact .inr (.inr ⟨d, ds, pd_dp R.s _ h1 g1, pd_dp R.s _ h2 g2, g.1, g.2, q⟩)
          · cases e
        · cases e
    | nmem =>
      dsimp only at e
      unfold memX at e
      split at e
      · rename_i k g
        simp only [Option.map_some, Option.some.injEq] at e
        subst e
        rcases memW_val R.s h1 h2 g with ⟨p, xs, g1, g2, g3, g4, g5⟩ | ⟨k, s, g1, g2, g3⟩
        · rw [g5] at q; exact .inl (.inl ⟨p, xs, g1, g2, g3, g4, q⟩)
        · rw [g3] at q; exact .inl (.inr ⟨k, s, g1, g2, q⟩)
      · unfold memD at e
        split at e
        · rename_i d ds g1 g2
          split at e
          · rename_i g
            rw [Bool.and_eq_true] at g
            simp only [Option.map_some, Option.some.injEq] at e
            subst e
            exact .inr (.inl ⟨d, ds, pd_dp R.s _ h1 g1, pd_dp R.s _ h2 g2, g.1, g.2, q⟩)
          · cases e
        · rename_i d ds g1 g2
          split at e
          · rename_i g
            rw [Bool.and_eq_true] at g
            simp only [Option.map_some, Option.some.injEq] at e
            subst e
            exact .inr (.inr ⟨d, ds, pd_dp R.s _ h1 g1, pd_dp R.s _ h2 g2, g.1, g.2, q⟩)
          · cases e
        · cases e
    | eq =>
      dsimp only at e
      split at e
      · rename_i d1 d2 g1 g2
        split at e
        · rename_i g
          rw [Bool.and_eq_true] at g
          cases e
          exact ⟨d1, d2, pd_dp R.s _ h1 g1, pd_dp R.s _ h2 g2, g.1, g.2, q⟩
        · cases e
      · cases e
    | ne =>
      dsimp only at e
      split at e
      · rename_i d1 d2 g1 g2
        split at e
        · rename_i g
          rw [Bool.and_eq_true] at g
          cases e
          exact ⟨d1, d2, pd_dp R.s _ h1 g1, pd_dp R.s _ h2 g2, g.1, g.2, q⟩
        · cases e
      · cases e
  · cases e
/-! ### items, cuts -/
theorem RepL.atI {vs : List V} {ws : List W} {i : Int} {w : W} (l : RepL T B r vs ws) (e : L2.atI ws i = some w) : ∃ v, L2.atI vs i = some v ∧ Rep T B r v w := by
  unfold L2.atI at e ⊢
  rw [l.len]
  cases q : ixN ws.length i with
  | none => rw [q] at e; cases e
  | some j =>
    rw [q] at e
    exact l.get e
theorem idx_ok {w : W} {Q : VK} (R : Rel T B r P m en σ H) (ha : RepR T B r P en σ H x a) (hb : RepR T B r P en σ H y b) (e : idxR en m a b = some w) (q : ∀ v, Rep T B r v w → Q v H) : rIx T.K x y H Q := by
  unfold idxR at e
  split at e
  · rename_i u z e1 e2
    have h1 := R.top ha e1
    have h2 := R.top hb e2
    split at e
    · rename_i s i
      split at e
      · rename_i hl
        cases g : L2.atI s.cps.toList i with
        | none => rw [g] at e; cases e
        | some c =>
          rw [g] at e
          simp only [Option.map_some, Option.some.injEq] at e
          subst e
          have f1 := h1.str; have f2 := h2.int
          subst f1 f2
          exact .inr (.inr ⟨s, i, c, rfl, rfl, lim_line hl, g, q _ (.str _)⟩)
      · cases e
    · rename_i u2 i _
      cases g : seqW m u with
      | none => rw [g] at e; cases e
      | some ws =>
        rw [g] at e
        have f2 := h2.int
        subst f2
        obtain ⟨p, vs, rfl, d, l⟩ := RepT.seq R.s h1 g
        obtain ⟨v, g2, rv⟩ := l.atI e
        rcases d with d | d
        · exact .inl ⟨p, vs, i, v, rfl, rfl, d, g2, q v rv⟩
        · exact .inr (.inl ⟨p, vs, i, v, rfl, rfl, d, g2, q v rv⟩)
    · cases e
  · cases e
theorem RepL.cut {vs : List V} {ws : List W} (l : RepL T B r vs ws) (lo hi : Option Int) : RepL T B r (cutV vs lo hi) (cutL ws lo hi) := by
  unfold cutV cutL
  rw [l.len]
  exact (l.drop _).take _
end
end Mp
set_option linter.all false
set_option maxRecDepth 100000
set_option maxHeartbeats 4000000
open PySem PySem.Spec PyProof.Rows
namespace Mp.SlT
open L2 HT
section
variable {prog : Program} {w : World} {A : Around} {E : Value → Shared → Prop} {s : Shared}
theorem whole_tup {a k : Addr} {its : Array Value} {v1 v2 : Value} {o1 o2 : Option Int} {Q : Value → Shared → Prop} (ha : IsTup s.heap a its) (hk : s.heap.IsSliceOf k v1 v2 .none) (p1 : IsPart v1 o1) (p2 : IsPart v2 o2)
    (z : sIx its.size 0 o1 = 0 ∧ sIx its.size its.size o2 = its.size) (q : Q (.ref a) s) : wpAny (model prog w) A (getItem (.ref a) (.ref k)) Q E s := by
  obtain ⟨ob, e1, e2, e3⟩ := id hk
  have ty : s.TypeIs (.ref k) "slice" := ⟨ob, e1, e2⟩
  have yes : ((((sIx its.size 0 o1 : Nat) : Int) == 0 && (1 : Int) == 1 && (sIx its.size its.size o2 - sIx its.size 0 o1) == its.size) = true) := by
    rw [z.1, z.2, Nat.sub_zero]; simp
  unfold getItem
  try (with_reducible refine wpAny_holding ?_)
  try refine wpAny_bind (wpAny_pure ?_)
  refine wpAny_bind (wpAny_sequenceKey ha.typeIs (by decide) (wpAny_bind (wpAny_callSpecial?_slot (name := Str.ofString "__getitem__") ha.typeIs PyProof.Rows.slot_tuple_getitem (wpAny_call_entry PyProof.Rows.slot_tuple_getitem ha.typeIs entry_tuple_getitem ?_ (args_tuple_getitem _ _)))))
  show wpAny _ _ (Builtin.Tuple.tupleItemsOf (.ref a) >>= _) _ _ s
  refine wpAny_bind (tupleItemsOf_ ha (wpAny_bind (wpAny_typeOf ty ?_)))
  rw [if_pos (by decide)]
  refine wpAny_bind (sliceApplied_gen hk p1 p2 ?_)
  show wpAny _ _ (if (((sIx its.size 0 o1 : Nat) : Int) == 0 && (1 : Int) == 1 && (sIx its.size its.size o2 - sIx its.size 0 o1) == its.size) = true then _ else _) _ _ s
  rw [if_pos yes]
  have ex : wpAny (model prog w) A.in1 (Builtin.Tuple.tupleIsExact (.ref a)) (fun b s2 => b = true ∧ s2 = s) E s := by
    unfold Builtin.Tuple.tupleIsExact
    first
      | exact wpAny_bind (wpAny_typeOf ha.typeIs (wpAny_pure ⟨rfl, rfl⟩))
      | exact wpAny_bind (wpAny_typeOf ha.typeIs (wpAny_pure ⟨by decide, rfl⟩))
  refine wpAny_bind (thn ex fun b s2 e => ?_)
  obtain ⟨rfl, rfl⟩ := e
  rw [if_pos rfl]
  refine wpAny_bind (wpAny_rule ?_)
  exact wpAny_pure ⟨_, rfl, wpAny_pure q⟩
end
noncomputable def rSlA (K : PySem.W.Frag) : V → Option Int → Option Int → Hp → VK → Prop := fun x lo hi H Q => ∃ a xs, x = .ref a ∧ SqT K H a xs ∧
  (HT.sIx xs.length 0 lo = 0 ∧ HT.sIx xs.length xs.length hi = xs.length → Q (.ref a) H) ∧ ∀ p, H p = none → Q (.ref p) (upd H p (.tup (cutV xs lo hi)))
theorem sl_all {X : Cx} : SlR X (rSlA X.K) := by
  intro pins s σ H x v vl vu lo hi sl Q I rx hs pl pu h
  obtain ⟨a, xs, rfl, hx, hw, q⟩ := h
  by_cases c : HT.sIx xs.length 0 lo = 0 ∧ HT.sIx xs.length xs.length hi = xs.length
  · cases rx
    obtain ⟨its, r, ht, hz⟩ := I.tuple hx
    have hlen : its.toArray.size = xs.length := by rw [List.size_toArray]; exact r.length.symm
    exact ⟨"tuple", _, PyProof.Rows.slot_tuple_getitem.lookup, ht.typeIs, whole_tup ht hs pl pu (by rw [hlen]; exact c) ⟨.ref a, _, I, rfl, hw c⟩⟩
  · exact sl_tup pins s σ H _ v vl vu lo hi sl Q I rx hs pl pu ⟨a, xs, rfl, hx, c, q⟩
theorem rep_tup {T : Tab} {B P H : Hp} {r : List Addr} {m : Sto} {en : En} {σ : Slo} {v : V} {x : RV} {ws : List W} (R : Rel T B r P m en σ H) (h : RepR T B r P en σ H v x) (g : rvW en x = some (.tup ws)) : Rep T B r v (.tup ws) := by
  rcases R.top h g with h | ⟨_, _, _, _, h, _⟩
  · exact h
  · cases h
end Mp.SlT
set_option Elab.async false
set_option linter.all false
set_option maxRecDepth 100000
set_option maxHeartbeats 4000000
namespace Mp
open PySem PySem.Spec PyProof.Rows L2
section
variable {T : Tab} {xc : Nat → Value} {S : Sta} {cs : Nat → List W → Sto → CR} {gl : List W} {k : Nat} {N : List Str} {fb : Str → Bool} {sc : Scope} {Wx : WX} {X : Cx}
theorem blR_some {x : RV} {b : Bool} (h : blR x = some b) : x = .val (.bl b) := by
  cases x with
  | val w => cases w <;> simp_all [blR]
  | _ => simp [blR] at h
theorem intR_some {x : RV} {b : Int} (h : intR x = some b) : x = .val (.int b) := by
  cases x with
  | val w => cases w <;> simp_all [intR]
  | _ => simp [intR] at h
theorem int1_some {ws : List W} {b : Int} (h : int1 ws = some b) : ws = [.int b] := by
  unfold int1 at h
  split at h
  · cases h; rfl
  · cases h
theorem SBG.tB {f : En → Sto → R RV} {σ : Slo} {H : Hp} {Q : Bool → Hp → Prop} (h : SBG T xc Wx f σ H Q) : L2.tB (SG T xc Wx f) σ H Q := by
  obtain ⟨B, r, P, m, en, R, q⟩ := h
  refine ⟨B, r, P, m, en, R, q.imp fun x en m B2 r2 H2 _ _ z v hv => ?_⟩
  obtain ⟨b, e, z⟩ := z
  have e := blR_some e
  subst e
  cases hv
  exact ⟨b, rfl, z⟩
theorem SBG.tTest {f : En → Sto → R RV} {σ : Slo} {H : Hp} {Q : Bool → Hp → Prop} (h : SBG T xc Wx f σ H Q) : L2.tTest (SG T xc Wx f) σ H Q := SBG.tB h
theorem SG.go {f : En → Sto → R RV} {B P : Hp} {r : List Addr} {m : Sto} {en : En} {σ : Slo} {H : Hp} {Q : VK} (R : Rel T B r P m en σ H)
    (h : PostG T xc Wx P σ B r (f en m) fun x en m B2 r2 H2 => ∀ v, RepR T B2 r2 P en σ H2 v x → Q v H2) : SG T xc Wx f σ H Q := ⟨B, r, P, m, en, R, h⟩
theorem SG.two {a b : E} {B P : Hp} {r : List Addr} {m : Sto} {en : En} {σ : Slo} {H : Hp} {K : V → V → Hp → Prop} {A : Type} {f : RV → RV → En → Sto → R A} {g : A → En → Sto → Hp → List Addr → Hp → Prop} (R : Rel T B r P m en σ H)
    (h : PostG T xc Wx P σ B r ((ev cs gl a en m).bind fun x en m => (ev cs gl b en m).bind fun y en m => f (hold x) (hold y) en m) g)
    (q : ∀ x y v u en m B2 r2 H2, Rel T B2 r2 P m en σ H2 → RepR T B2 r2 P en σ H2 v (hold x) → RepR T B2 r2 P en σ H2 u (hold y) → PostG T xc Wx P σ B2 r2 (f (hold x) (hold y) en m) g → K v u H2) :
    SE T xc cs gl Wx a σ H fun v H1 => SE T xc cs gl Wx b σ H1 fun u H2 => K v u H2 := by
  refine SG.go R (h.bind fun x en1 m1 B1 r1 H1 e1 R1 h1 v hv => ?_)
  obtain ⟨B2, e2, R2, hv2⟩ := R1.hold hv
  refine SG.go R2 ((PostG.mono e2 h1).bind fun y en3 m3 B3 r3 H3 e3 R3 h3 u hu => ?_)
  obtain ⟨B4, e4, R4, hu4⟩ := R3.hold hu
  exact q x y v u en3 m3 B4 r3 H3 R4 ((hv2.held (P2 := P) (en3 := en3) (H3 := H3) e3.sub e3.pre).held e4.sub e4.pre) hu4 (PostG.mono e4 h3)
structure Snd (T : Tab) (xc : Nat → Value) (cs : Nat → List W → Sto → CR) (gl : List W) (Wx : WX) (X : Cx) (e : E) (p : Expr) : Prop where
  pe : PE X p (SE T xc cs gl Wx e)
  pt : isIte e = false → PT X p (SB T xc cs gl Wx e)
theorem Snd.val {e : E} {p : Expr} (h : PE X p (SE T xc cs gl Wx e)) (he : ∀ whole, isTrue p X.env whole = (do let v ← whole; standAt p.pos; holding [v] (truthy v))) : Snd T xc cs gl Wx X e p :=
  ⟨h, fun _ => (pt_val h he).imp fun _ _ _ z => SBG.tB z⟩
theorem CxOk.name (C : CxOk T xc S cs gl k N fb sc Wx X) {j : Nat} {x : Str} (h : (N[j]? == some x) = true) : X.N[j]? = some x := by rw [C.eN]; exact eq_of_beq h
theorem snd_var (C : CxOk T xc S cs gl k N fb sc Wx X) {j : Nat} {p : Expr} (h : okE S N fb sc (.var j) p = true) : Snd T xc cs gl Wx X (.var j) p := by
  unfold okE at h
  split at h
  · rename_i x pos
    simp only [Bool.and_eq_true] at h
    obtain ⟨⟨h1, h2⟩, h3⟩ := h
    obtain ⟨d1, d2, _⟩ := pl_of h3
    refine .val ((pe_var (C.name h1) (by rw [C.es]; exact vis_of h2) d1 d2).imp fun σ H Q z => ?_) fun _ => rfl
    obtain ⟨B, r, P, m, en, R, q⟩ := z
    simp only [ev] at q
    split at q
    · rename_i w e
      obtain ⟨v, h4, h5⟩ := R.e.sl j _ (enGet_some e)
      exact ⟨v, h4, q.fin R v h5⟩
    · rename_i ws e
      obtain ⟨v, h4, h5⟩ := R.e.sl j _ (enGet_some e)
      exact ⟨v, h4, q.fin R v h4⟩
    · exact q.elim
  · cases h
theorem snd_glob (C : CxOk T xc S cs gl k N fb sc Wx X) {g : Nat} {p : Expr} (h : okE S N fb sc (.glob g) p = true) : Snd T xc cs gl Wx X (.glob g) p := by
  unfold okE at h
  split at h
  · rename_i x pos
    simp only [Bool.and_eq_true] at h
    obtain ⟨⟨h1, h2⟩, h3⟩ := h
    obtain ⟨d1, d2, d3⟩ := pl_of h3
    obtain ⟨v, u, w, g1, g2, g3, g4⟩ := C.md.gls g x (eq_of_beq h1)
    refine .val ((pe_glob (gl_of C.es h2) g1 g2 d1).imp fun σ H Q z => ?_) fun _ => rfl
    obtain ⟨B, r, P, m, en, R, q⟩ := z
    simp only [ev, g3, Mp.opt] at q
    exact q.fin R v (g4 B r)
  · cases h
theorem snd_bin (C : CxOk T xc S cs gl k N fb sc Wx X) {op : Op} {a b : E} {pa pb : Expr} {o : Operator} {pos : Pos} (h : opB op o = true) (ha : PE X pa (SE T xc cs gl Wx a)) (hb : PE X pb (SE T xc cs gl Wx b)) :
    PE X (.BinOp pa o pb pos) (SE T xc cs gl Wx (.bin op a b)) := by
  refine (pe_op (opR_of h) ha hb).imp fun σ H Q z => ?_
  rw [C.eK]
  obtain ⟨B, r, P, m, en, R, q⟩ := z
  simp only [ev] at q
  refine SG.two (f := fun x y en m => Mp.opt (binR op en m x y) fun c => .ok c en m) R q fun x y v u en2 m2 B2 r2 H2 R2 hv hu q2 => ?_
  obtain ⟨c, e, q3⟩ := q2.opt
  exact bin_ok R2 hv hu e fun w B3 H3 e3 R3 hw => q3 B3 r2 H3 e3 R3 w hw
theorem snd_cmp (C : CxOk T xc S cs gl k N fb sc Wx X) {op : Cm} {a b : E} {pa pb : Expr} {o : CmpOp} {pos : Pos} (h : cmB op o = true) (hs : setB pb = false) (ha : PE X pa (SE T xc cs gl Wx a)) (hb : PE X pb (SE T xc cs gl Wx b)) :
    Snd T xc cs gl Wx X (.cmp op a b) (.Compare pa [o] [pb] pos) := by
  have rd : ∀ σ H Q, SE T xc cs gl Wx (.cmp op a b) σ H Q → tOp (rCm X.K op) (SE T xc cs gl Wx a) (SE T xc cs gl Wx b) σ H Q := fun σ H Q z => by
    obtain ⟨B, r, P, m, en, R, q⟩ := z
    simp only [ev] at q
    refine SG.two (f := fun x y en m => Mp.opt (cmpR op en m x y) fun c => .ok (RV.val (W.bl c)) en m) R q fun x y v u en2 m2 B2 r2 H2 R2 hv hu q2 => ?_
    obtain ⟨c, e, q3⟩ := q2.opt
    rw [C.eK]
    exact cmp_ok R2 hv hu e (q3.fin R2 _ (.bl c))
  have hu := C.un
  refine ⟨(pe_cmpR (cmR_of h hu) ha hb (noSet_of hs)).imp rd, fun _ => (pt_cmpR (cmR_of h hu) ha hb (noSet_of hs)).imp fun σ H Q z => ?_⟩
  exact rd σ H _ (SBG.tTest z)
theorem snd_chain (C : CxOk T xc S cs gl k N fb sc Wx X) {op op2 : Cm} {a b c : E} {pa pb pc : Expr} {o o2 : CmpOp} {pos : Pos} (h : cmB op o = true) (h2 : cmB op2 o2 = true) (hs2 : setB pc = false)
    (ha : PE X pa (SE T xc cs gl Wx a)) (hb : PE X pb (SE T xc cs gl Wx b)) (hc : PE X pc (SE T xc cs gl Wx c)) :
    Snd T xc cs gl Wx X (.chain op op2 a b c) (.Compare pa [o, o2] [pb, pc] pos) := by
  have rd : ∀ σ H Q, SE T xc cs gl Wx (.chain op op2 a b c) σ H Q → tChain (rCm X.K op) (rCm X.K op2) (SE T xc cs gl Wx a) (SE T xc cs gl Wx b) (SE T xc cs gl Wx c) σ H Q := fun σ H Q z => by
    obtain ⟨B, r, P, m, en, R, q⟩ := z
    simp only [ev] at q
    refine SG.two (f := fun x y en m => Mp.opt (cmpR op en m x y) fun t => if t = true then (ev cs gl c en m).bind fun z en m => Mp.opt (cmpR op2 en m y (hold z)) fun r => .ok (RV.val (W.bl r)) en m else .ok (RV.val (W.bl false)) en m)
      R q fun x y v u en2 m2 B2 r2 H2 R2 hv hu q2 => ?_
    obtain ⟨t, e, q3⟩ := q2.opt
    rw [C.eK]
    refine cmp_ok R2 hv hu e ⟨t, rfl, ?_⟩
    cases t with
    | false =>
      rw [if_neg Bool.false_ne_true] at q3
      exact iteF (q3.fin R2 _ (.bl false))
    | true =>
      rw [if_pos rfl] at q3
      refine iteT (SG.go R2 (q3.bind fun z en4 m4 B4 r4 H4 e4 R4 h4 w hw => ?_))
      obtain ⟨B5, e5, R5, hw5⟩ := R4.hold hw
      obtain ⟨t2, g, q5⟩ := (PostG.mono e5 h4).opt
      exact cmp_ok R5 ((hu.held (P2 := P) (en3 := en4) (H3 := H4) e4.sub e4.pre).held e5.sub e5.pre) hw5 g (q5.fin R5 _ (.bl t2))
  have hu := C.un
  have hm : lastMarks [o, o2] [pb, pc] = false := by
    show behindInMarks o2 pc = false
    exact noSet_of hs2
  refine ⟨(pe_chain (cmR_of h hu) (cmR_of h2 hu) ha hb hc hm).imp rd, fun _ => (pt_chain (cmR_of h hu) (cmR_of h2 hu) ha hb hc hm).imp fun σ H Q z => ?_⟩
  exact rd σ H _ (SBG.tTest z)
theorem snd_neg {a : E} {pa : Expr} {pos : Pos} (ha : PE X pa (SE T xc cs gl Wx a)) : PE X (.UnaryOp .USub pa pos) (SE T xc cs gl Wx (.neg a)) := by
  refine (pe_un un_neg ha).imp fun σ H Q z => ?_
  obtain ⟨B, r, P, m, en, R, q⟩ := z
  simp only [ev] at q
  refine SG.go R (q.bind fun x en1 m1 B1 r1 H1 e1 R1 h1 v hv => ?_)
  obtain ⟨i, e, h2⟩ := h1.opt
  have e := intR_some e
  subst e
  cases hv
  exact ⟨i, rfl, h2.fin R1 _ (.int _)⟩
theorem snd_not {a : E} {pa : Expr} {pos : Pos} (ha : Snd T xc cs gl Wx X a pa) (hi : isIte a = false) : Snd T xc cs gl Wx X (.not a) (.UnaryOp .Not pa pos) := by
  refine ⟨(pe_not ha.pe).imp fun σ H Q z => ?_, fun _ => (pt_not (ha.pt hi)).imp fun σ H Q z => ?_⟩
  · obtain ⟨B, r, P, m, en, R, q⟩ := z
    simp only [ev] at q
    refine SG.go R (q.bind fun x en1 m1 B1 r1 H1 e1 R1 h1 v hv => ?_)
    obtain ⟨i, e, h2⟩ := h1.opt
    have e := blR_some e
    subst e
    cases hv
    exact ⟨i, rfl, h2.fin R1 _ (.bl _)⟩
  · obtain ⟨B, r, P, m, en, R, q⟩ := z
    simp only [ev] at q
    refine ⟨B, r, P, m, en, R, q.bind fun x en1 m1 B1 r1 H1 e1 R1 h1 => ?_⟩
    obtain ⟨i, e, h2⟩ := h1.opt
    obtain ⟨b, e2, h3⟩ := h2.fin R1
    cases e2
    exact ⟨i, e, h3⟩
theorem snd_ite {c a b : E} {pc pa pb : Expr} {pos : Pos} (hc : PT X pc (SB T xc cs gl Wx c)) (ha : PE X pa (SE T xc cs gl Wx a)) (hb : PE X pb (SE T xc cs gl Wx b)) : Snd T xc cs gl Wx X (.ite c a b) (.IfExp pc pa pb pos) := by
  refine ⟨(pe_ifExp hc ha hb).imp fun σ H Q z => ?_, fun h => nomatch h⟩
  obtain ⟨B, r, P, m, en, R, q⟩ := z
  simp only [ev] at q
  refine ⟨B, r, P, m, en, R, q.bind fun x en1 m1 B1 r1 H1 e1 R1 h1 => ?_⟩
  obtain ⟨t, e, h2⟩ := h1.opt
  refine ⟨t, e, ?_⟩
  cases t with
  | true => rw [if_pos rfl] at h2; exact iteT (SG.go R1 h2)
  | false => rw [if_neg Bool.false_ne_true] at h2; exact iteF (SG.go R1 h2)
theorem snd_args {a es : E} {q : Expr} {qs : List Expr} (hn : noStar q = true) (ha : PE X q (SE T xc cs gl Wx a)) (hs : PA X qs (SA T xc cs gl Wx es)) : PA X (q :: qs) (SA T xc cs gl Wx (.cons a es)) := by
  refine (pa_cons ha hs (star_of hn)).imp fun σ H Q z => ?_
  obtain ⟨B, r, P, m, en, R, g⟩ := z
  simp only [evs] at g
  refine SG.go R (g.bind fun x en1 m1 B1 r1 H1 e1 R1 h1 v hv => ?_)
  obtain ⟨w, en2, e, h2⟩ := h1.opt2
  obtain ⟨B2, e2, R2, hw⟩ := R1.esc hv e
  refine ⟨B2, r1, P, m1, en2, R2, (PostG.mono e2 h2).bind fun ws en3 m3 B3 r3 H3 e3 R3 h3 vs hvs => ?_⟩
  exact h3.fin R3 (v :: vs) (.cons (hw.mono e3.sub e3.pre) hvs)
theorem snd_nil : PA X [] (SA T xc cs gl Wx .nil) := by
  refine pa_nil.imp fun σ H Q z => ?_
  obtain ⟨B, r, P, m, en, R, g⟩ := z
  simp only [evs] at g
  exact g.fin R [] .nil
theorem snd_lst {es : E} {ps : List Expr} {pos : Pos} (h : PA X ps (SA T xc cs gl Wx es)) : PE X (.List ps pos) (SE T xc cs gl Wx (.lst es)) := by
  refine (pe_lst h).imp fun σ H Q z => ?_
  obtain ⟨B, r, P, m, en, R, g⟩ := z
  simp only [ev] at g
  refine ⟨B, r, P, m, en, R, g.bind fun ws en1 m1 B1 r1 H1 e1 R1 h1 vs hvs => ?_⟩
  obtain ⟨hl, h2⟩ := h1.ifp
  refine ⟨lim_line (hvs.len_le hl), fun p hp => ?_⟩
  exact h2 B1 r1 _ Ext.refl (R1.grow (Sub.new hp)) _ (R1.new_own hp hvs)
theorem snd_tup {es : E} {ps : List Expr} {n : Nat} {pos : Pos} (h : PA X ps (SA T xc cs gl Wx es)) : PE X (.Tuple ps n pos) (SE T xc cs gl Wx (.tup es)) := by
  refine (pe_tup h).imp fun σ H Q z => ?_
  obtain ⟨B, r, P, m, en, R, g⟩ := z
  simp only [ev] at g
  refine ⟨B, r, P, m, en, R, g.bind fun ws en1 m1 B1 r1 H1 e1 R1 h1 vs hvs => ?_⟩
  obtain ⟨hl, h2⟩ := h1.ifp
  refine ⟨lim_line (hvs.len_le hl), fun p hp => ?_⟩
  obtain ⟨B2, e2, R2, hb⟩ := R1.new_frz (o := .tup vs) hp
  exact h2 B2 r1 _ e2 R2 _ (.tup (.inl (.inl hb)) (hvs.mono e2.sub e2.pre))
theorem snd_idx (C : CxOk T xc S cs gl k N fb sc Wx X) {a i : E} {pa pi : Expr} {pos : Pos} (hp : plainIxB pi = true) (ha : PE X pa (SE T xc cs gl Wx a)) (hi : PE X pi (SE T xc cs gl Wx i)) : PE X (.Subscript pa pi pos) (SE T xc cs gl Wx (.idx a i)) := by
  refine (pe_ix ix_seq ha hi (plainIx_of hp)).imp fun σ H Q z => ?_
  obtain ⟨B, r, P, m, en, R, q⟩ := z
  simp only [ev] at q
  refine SG.two (f := fun x y en m => Mp.opt (idxR en m x y) fun c => .ok (RV.val c) en m) R q fun x y v u en2 m2 B2 r2 H2 R2 hv hu q2 => ?_
  obtain ⟨c, e, q3⟩ := q2.opt
  rw [C.eK]
  exact idx_ok R2 hv hu e fun w hw => q3.fin R2 w hw
noncomputable def SO (T : Tab) (xc : Nat → Value) (cs : Nat → List W → Sto → CR) (gl : List W) (Wx : WX) (e : E) : TO := fun σ H Q => ∃ B r P m en, Rel T B r P m en σ H ∧
  PostG T xc Wx P σ B r (if isNil e then .ok none en m else (ev cs gl e en m).bind fun y en m => Mp.opt (intR y) fun i => .ok (some i) en m) fun o en m B2 r2 H2 => Q o H2
theorem snd_part {e : E} {l : Option Expr} (h : match l with
    | none => isNil e = true
    | some q => isNil e = false ∧ PE X q (SE T xc cs gl Wx e)) : PO X l (SO T xc cs gl Wx e) := by
  cases l with
  | none =>
    refine ⟨fun pins s σ H Q I z => po_none.run pins s σ H Q I ?_⟩
    obtain ⟨B, r, P, m, en, R, g⟩ := z
    rw [if_pos h] at g
    exact g.fin R
  | some q =>
    refine ⟨fun pins s σ H Q I z => (po_some h.2).run pins s σ H Q I ?_⟩
    obtain ⟨B, r, P, m, en, R, g⟩ := z
    rw [if_neg (by rw [h.1]; simp)] at g
    refine SG.go R (g.bind fun x en1 m1 B1 r1 H1 e1 R1 h1 v hv => ?_)
    obtain ⟨i, e, h2⟩ := h1.opt
    have e := intR_some e
    subst e
    cases hv
    exact ⟨i, rfl, h2.fin R1⟩
theorem snd_slc (C : CxOk T xc S cs gl k N fb sc Wx X) {a lo hi : E} {pa : Expr} {l h : Option Expr} {pos p2 : Pos} (ha : PE X pa (SE T xc cs gl Wx a)) (hl : PO X l (SO T xc cs gl Wx lo)) (hh : PO X h (SO T xc cs gl Wx hi)) :
    PE X (.Subscript pa (.Slice l h none p2) pos) (SE T xc cs gl Wx (.slc a lo hi)) := by
  refine (pe_slice sl_list ha hl hh).imp fun σ H Q z => ?_
  obtain ⟨B, r, P, m, en, R, q⟩ := z
  simp only [ev] at q
  refine SG.go R (q.bind fun x en1 m1 B1 r1 H1 e1 R1 h1 v hv => ?_)
  obtain ⟨B2, e2, R2, hv2⟩ := R1.hold hv
  refine ⟨B2, r1, P, m1, en1, R2, (PostG.mono e2 h1).bind fun o3 en3 m3 B3 r3 H3 e3 R3 h3 => ?_⟩
  refine ⟨B3, r3, P, m3, en3, R3, h3.bind fun o4 en4 m4 B4 r4 H4 e4 R4 h4 => ?_⟩
  obtain ⟨ws, e, h5⟩ := h4.opt
  have hv4 := (hv2.held (P2 := P) (en3 := en3) (H3 := H3) e3.sub e3.pre).held (P2 := P) (en3 := en4) (H3 := H4) e4.sub e4.pre
  cases g : rvW en4 (hold x) with
  | none => rw [g] at e; cases e
  | some w =>
    rw [g] at e
    obtain ⟨p, vs, rfl, d, l⟩ := RepT.lsts R4.s (R4.top hv4 g) e
    refine ⟨p, vs, rfl, by rw [C.eK]; exact d, fun q hq => ?_⟩
    exact h5 B4 r4 _ Ext.refl (R4.grow (Sub.new hq)) _ (R4.new_own hq (l.cut o3 o4))
theorem str_is {B P H : Hp} {r : List Addr} {m : Sto} {en : En} {σ : Slo} {v : V} {x : RV} {s : Str} (R : Rel T B r P m en σ H) (h : RepR T B r P en σ H v x) (e : (rvW en x).bind strW = some s) : v = .str s := by
  obtain ⟨w, e1, e2⟩ := Option.bind_eq_some_iff.mp e
  have : w = .str s := by cases w <;> simp_all [strW]
  subst this
  exact (R.top h e1).str
theorem cutT_eq {s : Str} {l h : Option Int} : cutS s l h = cutT s l h := by
  have e : s.cps.toList.length = s.length := Array.length_toList
  unfold cutS cutT cutL
  rw [e]
theorem snd_ssl (C : CxOk T xc S cs gl k N fb sc Wx X) {a lo hi : E} {pa : Expr} {l h : Option Expr} {pos p2 : Pos} (ha : PE X pa (SE T xc cs gl Wx a)) (hl : PO X l (SO T xc cs gl Wx lo)) (hh : PO X h (SO T xc cs gl Wx hi)) :
    PE X (.Subscript pa (.Slice l h none p2) pos) (SE T xc cs gl Wx (.ssl a lo hi)) := by
  refine (pe_slice sl_str ha hl hh).imp fun σ H Q z => ?_
  obtain ⟨B, r, P, m, en, R, q⟩ := z
  simp only [ev] at q
  refine SG.go R (q.bind fun x en1 m1 B1 r1 H1 e1 R1 h1 v hv => ?_)
  obtain ⟨s, e2, h2⟩ := h1.opt
  refine ⟨B1, r1, P, m1, en1, R1, h2.bind fun o3 en3 m3 B3 r3 H3 e3 R3 h3 => ?_⟩
  refine ⟨B3, r3, P, m3, en3, R3, h3.bind fun o4 en4 m4 B4 r4 H4 e4 R4 h4 => ?_⟩
  obtain ⟨c, h5⟩ := h4.ifp
  refine ⟨s, str_is R1 hv e2, lim_line c, ?_⟩
  rw [cutT_eq]
  exact h5.fin R4 _ (.str _)
theorem RepT.tups {B P H : Hp} {r : List Addr} {m : Sto} {v : V} {ws : List W} (R : RelS T B r P m H) (h : RepT T B r H v (.tup ws)) : ∃ a vs, v = .ref a ∧ SqT T.K H a vs ∧ RepL T B r vs ws := by
  rcases h with h | ⟨_, _, _, _, h, _⟩
  · cases h with
    | tup h1 h2 => exact ⟨_, _, rfl, R.bh.sqt h1, h2⟩
  · cases h
theorem snd_tsl (C : CxOk T xc S cs gl k N fb sc Wx X) {a es : E} {pa : Expr} {l h : Option Int} {pl ph : Option Expr} {pos p2 : Pos} (ha : PE X pa (SE T xc cs gl Wx a)) (hl : PO X pl (fun _ H Q => Q l H)) (hh : PO X ph (fun _ H Q => Q h H)) :
    PE X (.Subscript pa (.Slice pl ph none p2) pos) (SE T xc cs gl Wx (.mth (.tsl l h) a es)) := by
  refine (pe_slice SlT.sl_all ha hl hh).imp fun σ H Q z => ?_
  obtain ⟨B, r, P, m, en, R, q⟩ := z
  simp only [ev] at q
  refine SG.go R (q.bind fun x en1 m1 B1 r1 H1 e1 R1 h1 v hv => ?_)
  obtain ⟨ws, e, h5⟩ := h1.opt
  cases g : rvW en1 x with
  | none => rw [g] at e; cases e
  | some w =>
    rw [g] at e
    cases w with
    | tup us =>
      cases e
      obtain ⟨p, vs, rfl, d, lr⟩ := RepT.tups R1.s (R1.top hv g)
      refine ⟨p, vs, rfl, by rw [C.eK]; exact d, fun z => ?_, fun q hq => ?_⟩
      · have ec : cutL ws l h = ws := by
          have hlen := lr.len
          rw [hlen] at z
          unfold cutL
          rw [z.1, z.2, List.drop_zero, Nat.sub_zero, List.take_length]
        rw [ec] at h5
        exact h5.fin R1 _ (SlT.rep_tup R1 hv g)
      · obtain ⟨B2, e2, R2, hb⟩ := R1.new_frz (o := .tup (cutV vs l h)) hq
        exact h5 B2 r1 _ e2 R2 _ (.tup (.inl (.inl hb)) ((lr.cut l h).mono e2.sub e2.pre))
    | _ => cases e
theorem snd_rev (C : CxOk T xc S cs gl k N fb sc Wx X) {a es : E} {pa : Expr} {kk : Nat} {p1 p2 p3 pos : Pos} (ha : PE X pa (SE T xc cs gl Wx a)) :
    PE X (.Subscript pa (.Slice none none (some (.UnaryOp .USub (.Constant (.int 1) kk p1) p2)) p3) pos) (SE T xc cs gl Wx (.mth .rev a es)) := by
  refine (pe_revL ha).imp fun σ H Q z => ?_
  obtain ⟨B, r, P, m, en, R, q⟩ := z
  simp only [ev] at q
  refine SG.go R (q.bind fun x en1 m1 B1 r1 H1 e1 R1 h1 v hv => ?_)
  obtain ⟨ws, e, h5⟩ := h1.opt
  obtain ⟨B2, e2, R2, hv2⟩ := R1.hold hv
  have h5 := PostG.mono e2 h5
  cases g : rvW en1 (hold x) with
  | none => rw [g] at e; cases e
  | some w =>
    rw [g] at e
    obtain ⟨p, vs, rfl, d, l⟩ := RepT.lsts R2.s (R2.top hv2 g) e
    refine ⟨p, vs, rfl, by rw [C.eK]; exact d, fun q hq => ?_⟩
    exact h5 B2 r1 _ Ext.refl (R2.grow (Sub.new hq)) _ (R2.new_own hq l.rev)
theorem star_es : ∀ {es : E} {ps : List Expr}, okEs S N fb sc es ps = true → ∀ r ∈ ps, noStar r = true := by
  intro es
  induction es with
  | nil => intro ps h; unfold okEs at h; split at h
           · simp
           · cases h
  | cons a es _ ih =>
    intro ps h
    unfold okEs at h
    split at h
    · simp only [Bool.and_eq_true] at h
      intro r hr
      rcases List.mem_cons.mp hr with e | e
      · rw [e]; exact h.1.1
      · exact ih h.2 r e
    · cases h
  | _ => intro ps h; simp [okEs] at h
theorem snd_call (C : CxOk T xc S cs gl k N fb sc Wx X) (hcB : S.cB = true) {f n : Nat} {x : Str} {es : E} {q : Expr} {qs : List Expr} {p pos : Pos} (hf : S.fns[f]? = some (some x, n)) (hg : glB sc x = true) (hp : plB x = true) (hn : okEs S N fb sc es (q :: qs) = true)
    (ha : PA X (q :: qs) (SA T xc cs gl Wx es)) : PE X (.Call (.Name x p) (q :: qs) [] pos) (SE T xc cs gl Wx (.call f n es)) := by
  obtain ⟨fd, ps, g1, g2, g3, g4⟩ := C.md.fns f (some x) n hf
  have g1 := g1 x rfl
  obtain ⟨d1, _, _⟩ := pl_of hp
  have star : ∀ {es : E} {ps : List Expr}, okEs S N fb sc es ps = true → ∀ r ∈ ps, noStar r = true := by
    intro es
    induction es with
    | nil => intro ps h; unfold okEs at h; split at h
             · simp
             · cases h
    | cons a es _ ih =>
      intro ps h
      unfold okEs at h
      split at h
      · simp only [Bool.and_eq_true] at h
        intro r hr
        rcases List.mem_cons.mp hr with e | e
        · rw [e]; exact h.1.1
        · exact ih h.2 r e
      · cases h
    | _ => intro ps h; simp [okEs] at h
  have st := star hn
  have hst : starEach (q :: qs) X.env = (false, eval q X.env) :: starEach qs X.env := star_of (st q (List.mem_cons_self))
  have hpl : (backTo pos (starEach qs X.env)).any (·.1) = false := back_no fun r hr => st r (List.mem_cons_of_mem _ hr)
  have F : FnOk X.prog X.w X.K X.mg X.base (L2.CX X.prog X.w) (2 * k) (T.fa f) fd ps (spF T xc cs f n) := by rw [C.eK]; exact g4
  refine (pe_callS F ((C.room hcB).mono (by omega)) (gl_of C.es hg) g1 (by rw [C.eK]; exact g2) (by rw [C.eK]; exact g3) C.tk ha d1 hst hpl).imp fun σ H Q z => ?_
  obtain ⟨B, r, P, m, en, R, g⟩ := z
  simp only [ev] at g
  refine ⟨B, r, P, m, en, R, g.bind fun ws en1 m1 B1 r1 H1 e1 R1 h1 vs hvs => ?_⟩
  obtain ⟨hl, h1⟩ := h1.ifp
  refine ⟨hvs.len.trans hl, B1, r1, outP r1 H1, m1, ws, R1.s.out, hvs, ?_⟩
  revert h1
  cases cs f ws m1 with
  | ok a m2 =>
    intro h1 v B2 r2 H2 e2 S2 hv
    obtain ⟨e3, R3⟩ := R1.back e2 S2
    exact h1 B2 r2 H2 e3 R3 v (R1.back_new S2 hv)
  | ex c m2 =>
    intro h1 B2 r2 H2 e2 S2
    obtain ⟨e3, R3⟩ := R1.back e2 S2
    exact h1 B2 r2 H2 e3 R3
  | bad => intro h1; exact h1
end
end Mp
set_option Elab.async false
set_option linter.all false
set_option maxRecDepth 100000
set_option maxHeartbeats 4000000
/-! rows of whole numbers, sorted -/
namespace Mp
open PySem PySem.Spec PyProof.Rows L2
theorem ltRow_asym : ∀ x y, ltRow x y = true → ltRow y x = false
  | [], [], h => by cases h
  | [], _ :: _, _ => rfl
  | _ :: _, [], h => by cases h
  | a :: x, b :: y, h => by
    unfold ltRow at h ⊢
    by_cases c : a = b
    · rw [if_pos c] at h
      rw [if_pos c.symm]
      exact ltRow_asym x y h
    · rw [if_neg c] at h
      rw [if_neg fun z => c z.symm]
      have := of_decide_eq_true h
      exact decide_eq_false (by omega)
theorem ltRow_tr : ∀ x y z, ltRow y x = false → ltRow z y = false → ltRow z x = false
  | [], [], z, _, h => h
  | [], _ :: _, [], _, _ => rfl
  | [], _ :: _, c :: z, _, h => rfl
  | _ :: _, [], _, h, _ => by cases h
  | a :: x, b :: y, [], _, h => by cases h
  | a :: x, b :: y, c :: z, h1, h2 => by
    unfold ltRow at h1 h2 ⊢
    by_cases e1 : b = a
    · subst e1
      rw [if_pos rfl] at h1
      by_cases e2 : c = b
      · rw [if_pos e2] at h2 ⊢
        exact ltRow_tr x y z h1 h2
      · rw [if_neg e2] at h2 ⊢
        exact h2
    · rw [if_neg e1] at h1
      have g1 := of_decide_eq_false h1
      by_cases e2 : c = b
      · subst e2
        rw [if_neg e1]
        exact h1
      · rw [if_neg e2] at h2
        have g2 := of_decide_eq_false h2
        rw [if_neg (by omega)]
        exact decide_eq_false (by omega)
theorem ltRow_swo {α : Type} (k : α → List Int) : SrtO.Swo fun x y => ltRow (k x) (k y) := ⟨fun x y => ltRow_asym _ _, fun x y z => ltRow_tr _ _ _⟩
theorem ltRow_eq : ∀ x y, ltRow x y = false → ltRow y x = false → x = y
  | [], [], _, _ => rfl
  | [], _ :: _, h, _ => by cases h
  | _ :: _, [], _, h => by cases h
  | a :: x, b :: y, h1, h2 => by
    unfold ltRow at h1 h2
    by_cases c : a = b
    · rw [if_pos c] at h1
      rw [if_pos c.symm] at h2
      rw [c, ltRow_eq x y h1 h2]
    · rw [if_neg c] at h1
      rw [if_neg fun z => c z.symm] at h2
      have g1 := of_decide_eq_false h1
      have g2 := of_decide_eq_false h2
      omega
theorem insRow_perm (x : List Int) : ∀ l, (insRow x l).Perm (x :: l)
  | [] => .refl _
  | y :: r => by
    unfold insRow
    split
    · exact ((insRow_perm x r).cons y).trans (.swap x y r)
    · exact .refl _
theorem sortRow_perm : ∀ l, (sortRow l).Perm l
  | [] => .refl _
  | x :: r => (insRow_perm x _).trans ((sortRow_perm r).cons x)
theorem insRow_up {x : List Int} : ∀ {l}, l.Pairwise (fun a b => ltRow b a = false) → (insRow x l).Pairwise (fun a b => ltRow b a = false)
  | [], _ => List.pairwise_singleton _ _
  | y :: r, h => by
    rw [List.pairwise_cons] at h
    unfold insRow
    split
    · rename_i c
      refine List.pairwise_cons.mpr ⟨fun z hz => ?_, insRow_up h.2⟩
      rcases List.mem_cons.mp ((insRow_perm x r).mem_iff.mp hz) with rfl | hz
      · exact ltRow_asym _ _ c
      · exact h.1 z hz
    · rename_i c
      have c : ltRow y x = false := by simpa using c
      refine List.pairwise_cons.mpr ⟨fun z hz => ?_, List.pairwise_cons.mpr h⟩
      rcases List.mem_cons.mp hz with rfl | hz
      · exact c
      · exact ltRow_tr _ _ _ c (h.1 z hz)
theorem sortRow_up : ∀ l, (sortRow l).Pairwise (fun a b => ltRow b a = false)
  | [] => .nil
  | x :: r => insRow_up (sortRow_up r)
theorem sortRow_one {l l2 : List (List Int)} (h : l2.Perm l) (u : l2.Pairwise (fun a b => ltRow b a = false)) : l2 = sortRow l :=
  List.Perm.eq_of_pairwise (le := fun a b => ltRow b a = false) (fun a b _ _ h1 h2 => ltRow_eq a b h2 h1) u (sortRow_up l) (h.trans (sortRow_perm l).symm)
theorem data_row : ∀ a b : List Int, PySem.W.dataLt (.list (a.map PyData.int)) (.list (b.map PyData.int)) = ltRow a b
  | [], [] => by
    rw [PySem.W.dataLt_list]
    rfl
  | [], b :: y => by
    rw [PySem.W.dataLt_list]
    rfl
  | a :: x, [] => by
    rw [PySem.W.dataLt_list]
    rfl
  | a :: x, b :: y => by
    rw [PySem.W.dataLt_list, List.map_cons, List.map_cons]
    unfold ltRow
    by_cases c : a = b
    · subst c
      rw [if_pos rfl, PySem.W.dataLt_all_yes rfl (by simp [PyData.eqv]), ← PySem.W.dataLt_list]
      exact data_row x y
    · rw [if_neg c, PySem.W.dataLt_all_no rfl (by simp [PyData.eqv, c]), PySem.W.dataLt_int]
/-! the built-in, over rows -/
noncomputable def rSrtL (K : PySem.W.Frag) : List V → Hp → VK → Prop := fun zs H Q => ∃ (p : Addr) (xs : List V) (g : V → List Int), zs = [V.ref p] ∧ SqL K H p xs ∧
  (∀ x ∈ xs, ∃ t, x = V.ref t ∧ Dp K H x (.list ((g x).map PyData.int))) ∧ ∀ ys l, SrtO.Srtd (fun x y => ltRow (g x) (g y)) ys → ys.Perm xs → H l = none → Q (.ref l) (upd H l (.lst ys))
theorem reads_list {h : Heap} {v : Value} {ds : List PyData} {as : List Addr} (r : Reads h v (.list ds) as) : ∃ t o, v = .ref t ∧ h.get? t = some o ∧ o.cls = .type "list" := by
  cases r with
  | list h1 h2 _ _ => exact ⟨_, _, rfl, h1, h2⟩
theorem alike_row : ∀ a b : List Int, PySem.W.alike (.list (a.map PyData.int)) (.list (b.map PyData.int)) = true
  | [], [] => rfl
  | [], _ :: _ => rfl
  | _ :: _, [] => rfl
  | a :: x, b :: y => by
    have := alike_row x y
    simpa [PySem.W.alike, PySem.W.alikeAll] using this
theorem depthAll_ints : ∀ a : List Int, PyData.depthAll (a.map PyData.int) ≤ 8
  | [] => by decide
  | x :: r => by
    have := depthAll_ints r
    simp only [List.map_cons, PyData.depthAll, PyData.depth] at this ⊢
    omega
section
variable {X : Cx}
theorem cr_sortL (hu : X.A.units + 64 < cLine) : CallR X (.builtin "sorted") (rSrtL X.K) := by
  intro pins s σ H zs us Q I rz ⟨p, xs, g, e, hs, hx, q⟩
  subst e
  obtain ⟨its, rv, hl, hz⟩ := I.list hs
  rw [Vals.ref1 rz]
  have back := refs_back rv fun x hm => by
    obtain ⟨t, e, _⟩ := hx x hm
    exact ⟨t, e⟩
  have rd : ∀ u ∈ its, ∃ as, Reads s.heap u (.list ((g (backV u)).map PyData.int)) as := fun u hm => by
    obtain ⟨t, rfl⟩ := back.2 u hm
    have hm2 : V.ref t ∈ xs := by rw [back.1]; exact List.mem_map.mpr ⟨_, hm, rfl⟩
    obtain ⟨t2, e, hd⟩ := hx _ hm2
    exact Dp.reads I _ _ _ hd rfl
  refine SrtO.sorted_ord (ltRow_swo fun u => g (backV u)) hl.isList (by rw [← rv.length]; exact hz) (fun h2 h₁ a _ kp h3 kp2 => ?_) fun out h1 h2 => ?_
  · have kk : ∀ b o, s.heap.get? b = some o → h3.get? b = some o := fun b o z => kp2 b o (kp b o z).1 (kp b o z).2
    refine ⟨oneType', fun Q2 E hq => PySem.W.kas_kind (T := .type "list") h2 (fun u hm => ?_) (by decide) (by decide) hq, fun y z hy hz => ?_⟩
    · obtain ⟨as, r⟩ := rd u hm
      obtain ⟨t, o, rfl, e1, e2⟩ := reads_list r
      exact fun A Q3 E3 s3 k q3 => wpAny_typeOf_ref (k _ _ (kk _ _ e1)) (by rw [e2]; exact q3)
    · obtain ⟨as, r1⟩ := rd _ hy
      obtain ⟨bs, r2⟩ := rd _ hz
      have r1 := Reads.keeps kk r1
      have r2 := Reads.keeps kk r2
      have d1 := depthAll_ints (g (backV y.1))
      refine PySem.W.oneLt_alike (f := true) (fun _ _ z => by cases z) r1 r2 (alike_row _ _) (fun z => by cases z) ?_ ⟨rfl, data_row _ _⟩
      have d2 : PyData.depth (.list ((g (backV y.1)).map PyData.int)) ≤ 9 := by
        simp only [PyData.depth]
        omega
      have d3 := Nat.min_le_left (PyData.depth (.list ((g (backV y.1)).map PyData.int))) (PyData.depth (.list ((g (backV z.1)).map PyData.int)))
      show X.A.units + 1 + 1 + _ < _
      omega
  · have b3 : ∀ u ∈ out, ∃ t, u = Value.ref t := fun u hm => back.2 u (h2.perm.mem_iff.mp hm)
    obtain ⟨ep, he⟩ := PyProof.Rows.sortedAll_at s.heap its out.toArray
    have pm : (out.map backV).Perm xs := by
      have := h2.perm.map backV
      rw [back.1]; exact this
    have hlen : (out.map backV).length ≤ sizeLine := by
      rw [pm.length_eq]; exact hz
    exact ⟨.ref _, upd H (s.heap.objs.size + 1) (.lst (out.map backV)), I.laid (t' := s.toks) (fun _ _ => PyProof.Rows.sortedAll_old) (Nat.le_succ _) ⟨hlen, out, ep, vals_back b3, he⟩, rfl, q _ _ (SrtO.srtd_map h1) pm (I.hok.fresh (Nat.le_succ _))⟩
end
end Mp
set_option Elab.async false
set_option linter.all false
set_option maxRecDepth 100000
set_option maxHeartbeats 4000000
namespace Mp
open PySem PySem.Spec PyProof.Rows L2
section
variable {T : Tab} {xc : Nat → Value} {S : Sta} {cs : Nat → List W → Sto → CR} {gl : List W} {k : Nat} {N : List Str} {fb : Str → Bool} {sc : Scope} {Wx : WX} {X : Cx}
/-! ### and, or -/
theorem snd_andl {a es : E} {p q : Expr} {qs : List Expr} {pos : Pos} (hi : isIte a = false) (hn : isNil es = false) (ha : Snd T xc cs gl Wx X a p)
    (hv : PE X (.BoolOp .And (q :: qs) pos) (SG T xc Wx (evAnd cs gl es))) (ht : PW X (.BoolOp .And (q :: qs) pos) (SBG T xc Wx (evAnd cs gl es))) :
    PE X (.BoolOp .And (p :: q :: qs) pos) (SG T xc Wx (evAnd cs gl (.cons a es))) ∧ PW X (.BoolOp .And (p :: q :: qs) pos) (SBG T xc Wx (evAnd cs gl (.cons a es))) := by
  have un : ∀ en m, evAnd cs gl (.cons a es) en m = (ev cs gl a en m).bind fun x en m => opt (blR x) fun t => if t then evAnd cs gl es en m else .ok (.val (.bl false)) en m := fun en m => by
    cases es with
    | nil => cases hn
    | _ => simp only [evAnd]
  refine ⟨(pe_and ha.pe hv).imp fun σ H Q z => ?_, (pw_and (ha.pt hi) ht).imp fun σ H Q z => ?_⟩
  · obtain ⟨B, r, P, m, en, R, g⟩ := z
    rw [un] at g
    refine SG.go R (g.bind fun x en1 m1 B1 r1 H1 e1 R1 h1 v hv => ?_)
    obtain ⟨t, e, h2⟩ := h1.opt
    have e := blR_some e
    subst e
    cases hv
    refine ⟨t, rfl, ?_⟩
    cases t with
    | true => rw [if_pos rfl] at h2; exact iteT (SG.go R1 h2)
    | false => rw [if_neg Bool.false_ne_true] at h2; exact iteF (h2.fin R1 _ (.bl false))
  · obtain ⟨B, r, P, m, en, R, g⟩ := z
    rw [un] at g
    refine ⟨B, r, P, m, en, R, g.bind fun x en1 m1 B1 r1 H1 e1 R1 h1 => ?_⟩
    obtain ⟨t, e, h2⟩ := h1.opt
    refine ⟨t, e, ?_⟩
    cases t with
    | true => rw [if_pos rfl] at h2; exact iteT ⟨B1, r1, P, m1, en1, R1, h2⟩
    | false =>
      rw [if_neg Bool.false_ne_true] at h2
      obtain ⟨b, e2, h3⟩ := h2.fin R1
      cases e2
      exact iteF h3
theorem snd_orl {a es : E} {p q : Expr} {qs : List Expr} {pos : Pos} (hi : isIte a = false) (hn : isNil es = false) (ha : Snd T xc cs gl Wx X a p)
    (hv : PE X (.BoolOp .Or (q :: qs) pos) (SG T xc Wx (evOr cs gl es))) (ht : PW X (.BoolOp .Or (q :: qs) pos) (SBG T xc Wx (evOr cs gl es))) :
    PE X (.BoolOp .Or (p :: q :: qs) pos) (SG T xc Wx (evOr cs gl (.cons a es))) ∧ PW X (.BoolOp .Or (p :: q :: qs) pos) (SBG T xc Wx (evOr cs gl (.cons a es))) := by
  have un : ∀ en m, evOr cs gl (.cons a es) en m = (ev cs gl a en m).bind fun x en m => opt (blR x) fun t => if t then .ok (.val (.bl true)) en m else evOr cs gl es en m := fun en m => by
    cases es with
    | nil => cases hn
    | _ => simp only [evOr]
  refine ⟨(pe_or ha.pe hv).imp fun σ H Q z => ?_, (pw_or (ha.pt hi) ht).imp fun σ H Q z => ?_⟩
  · obtain ⟨B, r, P, m, en, R, g⟩ := z
    rw [un] at g
    refine SG.go R (g.bind fun x en1 m1 B1 r1 H1 e1 R1 h1 v hv => ?_)
    obtain ⟨t, e, h2⟩ := h1.opt
    have e := blR_some e
    subst e
    cases hv
    refine ⟨t, rfl, ?_⟩
    cases t with
    | true => rw [if_pos rfl] at h2; exact iteT (h2.fin R1 _ (.bl true))
    | false => rw [if_neg Bool.false_ne_true] at h2; exact iteF (SG.go R1 h2)
  · obtain ⟨B, r, P, m, en, R, g⟩ := z
    rw [un] at g
    refine ⟨B, r, P, m, en, R, g.bind fun x en1 m1 B1 r1 H1 e1 R1 h1 => ?_⟩
    obtain ⟨t, e, h2⟩ := h1.opt
    refine ⟨t, e, ?_⟩
    cases t with
    | true =>
      rw [if_pos rfl] at h2
      obtain ⟨b, e2, h3⟩ := h2.fin R1
      cases e2
      exact iteT h3
    | false => rw [if_neg Bool.false_ne_true] at h2; exact iteF ⟨B1, r1, P, m1, en1, R1, h2⟩
theorem snd_and1 {a : E} {p : Expr} {pos : Pos} (hi : isIte a = false) (ha : Snd T xc cs gl Wx X a p) :
    PE X (.BoolOp .And [p] pos) (SG T xc Wx (evAnd cs gl (.cons a .nil))) ∧ PW X (.BoolOp .And [p] pos) (SBG T xc Wx (evAnd cs gl (.cons a .nil))) := by
  have un : ∀ en m, evAnd cs gl (.cons a .nil) en m = ev cs gl a en m := fun en m => by simp only [evAnd]
  refine ⟨(pe_one ha.pe).imp fun σ H Q z => ?_, (pw_and1 (ha.pt hi)).imp fun σ H Q z => ?_⟩
  · obtain ⟨B, r, P, m, en, R, g⟩ := z
    rw [un] at g
    exact ⟨B, r, P, m, en, R, g⟩
  · obtain ⟨B, r, P, m, en, R, g⟩ := z
    rw [un] at g
    exact ⟨B, r, P, m, en, R, g⟩
theorem snd_or1 {a : E} {p : Expr} {pos : Pos} (hi : isIte a = false) (ha : Snd T xc cs gl Wx X a p) :
    PE X (.BoolOp .Or [p] pos) (SG T xc Wx (evOr cs gl (.cons a .nil))) ∧ PW X (.BoolOp .Or [p] pos) (SBG T xc Wx (evOr cs gl (.cons a .nil))) := by
  have un : ∀ en m, evOr cs gl (.cons a .nil) en m = ev cs gl a en m := fun en m => by simp only [evOr]
  refine ⟨(pe_one ha.pe).imp fun σ H Q z => ?_, (pw_or1 (ha.pt hi)).imp fun σ H Q z => ?_⟩
  · obtain ⟨B, r, P, m, en, R, g⟩ := z
    rw [un] at g
    exact ⟨B, r, P, m, en, R, g⟩
  · obtain ⟨B, r, P, m, en, R, g⟩ := z
    rw [un] at g
    exact ⟨B, r, P, m, en, R, g⟩
/-! ### a built-in's arguments -/
inductive RepTs (T : Tab) (B : Hp) (r : List Addr) (H : Hp) : List V → List W → Prop
  | nil : RepTs T B r H [] []
  | cons {v : V} {w : W} {vs : List V} {ws : List W} : RepT T B r H v w → RepTs T B r H vs ws → RepTs T B r H (v :: vs) (w :: ws)
theorem RepL.tops {B H : Hp} {r : List Addr} : ∀ {vs : List V} {ws : List W}, RepL T B r vs ws → RepTs T B r H vs ws
  | _, _, .nil => .nil
  | _, _, .cons h l => .cons (.inl h) (RepL.tops l)
noncomputable def SL (T : Tab) (xc : Nat → Value) (cs : Nat → List W → Sto → CR) (gl : List W) (Wx : WX) (es : E) : TA := fun σ H Q => ∃ B r P m en, Rel T B r P m en σ H ∧
  PostG T xc Wx P σ B r (evl cs gl es en m) fun ws en m B2 r2 H2 => ∀ vs, RepTs T B2 r2 H2 vs ws → Q vs H2
theorem snd_few {a es : E} {q : Expr} {qs : List Expr} (hn : noStar q = true) (ha : PE X q (SE T xc cs gl Wx a)) (hs : PA X qs (SA T xc cs gl Wx es)) (hq : isNil es = true → qs = []) : PA X (q :: qs) (SL T xc cs gl Wx (.cons a es)) := by
  by_cases c : isNil es = true
  · have hq := hq c
    subst hq
    cases es with
    | nil =>
      refine (pa_cons ha pa_nil (star_of hn)).imp fun σ H Q z => ?_
      obtain ⟨B, r, P, m, en, R, g⟩ := z
      simp only [evl] at g
      refine SG.go R (g.bind fun x en1 m1 B1 r1 H1 e1 R1 h1 v hv => ?_)
      obtain ⟨w, e, h2⟩ := h1.opt
      exact h2.fin R1 [v] (.cons (R1.top hv e) .nil)
    | _ => cases c
  · refine (snd_args hn ha hs).imp fun σ H Q z => ?_
    obtain ⟨B, r, P, m, en, R, g⟩ := z
    have un : ∀ en m, evl cs gl (.cons a es) en m = evs cs gl (.cons a es) en m := fun en m => by
      cases es with
      | nil => exact absurd rfl c
      | _ => simp only [evl, evs]
    rw [un] at g
    exact ⟨B, r, P, m, en, R, g.imp fun ws en2 m2 B2 r2 H2 _ _ z vs hvs => z vs hvs.tops⟩
theorem ins_perm (x : Int) : ∀ l : List Int, (insI x l).Perm (x :: l)
  | [] => .refl _
  | y :: r => by
    rw [insI]
    split
    · exact .refl _
    · exact ((ins_perm x r).cons y).trans (.swap x y r)
theorem sort_perm : ∀ l : List Int, (sortI l).Perm l
  | [] => .refl _
  | x :: r => (ins_perm x (sortI r)).trans ((sort_perm r).cons x)
theorem ins_up {x : Int} : ∀ {l : List Int}, l.Pairwise (· ≤ ·) → (insI x l).Pairwise (· ≤ ·)
  | [], _ => List.pairwise_singleton _ _
  | y :: r, h => by
    rw [List.pairwise_cons] at h
    rw [insI]
    split
    · rename_i c
      refine List.pairwise_cons.mpr ⟨fun z hz => ?_, List.pairwise_cons.mpr h⟩
      rcases List.mem_cons.mp hz with rfl | hz
      · exact c
      · exact Int.le_trans c (h.1 z hz)
    · rename_i c
      refine List.pairwise_cons.mpr ⟨fun z hz => ?_, ins_up h.2⟩
      rcases List.mem_cons.mp ((ins_perm x r).mem_iff.mp hz) with rfl | hz
      · omega
      · exact h.1 z hz
theorem sort_up : ∀ l : List Int, (sortI l).Pairwise (· ≤ ·)
  | [] => .nil
  | x :: r => ins_up (sort_up r)
theorem sort_one {l l' : List Int} (h : l'.Perm l) (u : l'.Pairwise (· ≤ ·)) : l' = sortI l :=
  List.Perm.eq_of_pairwise (le := (· ≤ ·)) (fun a b _ _ h1 h2 => Int.le_antisymm h1 h2) u (sort_up l) (h.trans (sort_perm l).symm)
theorem call_min3 {X : Cx} (hc : X.calm = true) : CallR X (.builtin "min") (fun xs H Q => ∃ i j k, xs = [.int i, .int j, .int k] ∧ Q (.int (minI [i, j, k])) H) := by
  intro pins s σ H xs us Q I r ⟨i, j, k, e, q⟩
  subst e
  obtain ⟨u1, u2, u3, rfl, ⟨t1, rfl⟩, ⟨t2, rfl⟩, ⟨t3, rfl⟩⟩ := vals3 r
  refine PySem.min_three_ints (I.ok.hd hc) fun h' tk kk => ⟨_, H, I.kept kk, ?_, q⟩
  show RelV (.int (min i (min j k))) _
  by_cases c1 : j < i <;> by_cases c2 : k < j <;> by_cases c3 : k < i <;> simp only [c1, c2, c3, if_true, if_false]
  all_goals first
    | exact ⟨_, by congr 1; omega⟩
    | (exfalso; omega)
noncomputable def bltTy : Bi → Option (String × Bool)
  | .len => some ("len", false) | .list => some ("list", true) | .sum => some ("sum", false) | .max1 => some ("max", false) | .min1 => some ("min", false)
  | .max2 => some ("max", false) | .min2 => some ("min", false) | .abs => some ("abs", false) | .int => some ("int", true) | .all => some ("all", false) | .any => some ("any", false) | .sorted => some ("sorted", false) | .min3 => some ("min", false) | .str => some ("str", true) | .sortl => some ("sorted", false)
theorem maxI_mem : ∀ {ns : List Int}, ns ≠ [] → maxI ns ∈ ns ∧ ∀ y ∈ ns, y ≤ maxI ns
  | [], h => absurd rfl h
  | [x], _ => ⟨List.mem_singleton.mpr rfl, fun y hy => by rw [List.mem_singleton] at hy; subst hy; exact Int.le_refl _⟩
  | x :: z :: r, _ => by
    obtain ⟨h1, h2⟩ := maxI_mem (ns := z :: r) (fun e => nomatch e)
    have e : maxI (x :: z :: r) = max x (maxI (z :: r)) := rfl
    rw [e]
    refine ⟨?_, fun y hy => ?_⟩
    · by_cases c : x ≤ maxI (z :: r)
      · rw [Int.max_eq_right c]; exact List.mem_cons_of_mem _ h1
      · rw [Int.max_eq_left (by omega)]; exact List.mem_cons_self
    · rcases List.mem_cons.mp hy with c | c
      · subst c; exact Int.le_max_left _ _
      · exact Int.le_trans (h2 y c) (Int.le_max_right _ _)
theorem minI_mem : ∀ {ns : List Int}, ns ≠ [] → minI ns ∈ ns ∧ ∀ y ∈ ns, minI ns ≤ y
  | [], h => absurd rfl h
  | [x], _ => ⟨List.mem_singleton.mpr rfl, fun y hy => by rw [List.mem_singleton] at hy; subst hy; exact Int.le_refl _⟩
  | x :: z :: r, _ => by
    obtain ⟨h1, h2⟩ := minI_mem (ns := z :: r) (fun e => nomatch e)
    have e : minI (x :: z :: r) = min x (minI (z :: r)) := rfl
    rw [e]
    refine ⟨?_, fun y hy => ?_⟩
    · by_cases c : x ≤ minI (z :: r)
      · rw [Int.min_eq_left c]; exact List.mem_cons_self
      · rw [Int.min_eq_right (by omega)]; exact List.mem_cons_of_mem _ h1
    · rcases List.mem_cons.mp hy with c | c
      · subst c; exact Int.min_le_left _ _
      · exact Int.le_trans (Int.min_le_right _ _) (h2 y c)
noncomputable def rBl (K : PySem.W.Frag) : Bi → List V → Hp → VK → Prop
  | .len => fun xs H Q => (∃ p ys, xs = [.ref p] ∧ (SqL K H p ys ∨ SqT K H p ys) ∧ Q (.int ys.length) H) ∨ ∃ z, xs = [.str z] ∧ z.length ≤ sizeLine ∧ Q (.int z.length) H
  | .list => fun xs H Q => ∃ p ys, xs = [.ref p] ∧ (SqL K H p ys ∨ SqT K H p ys) ∧ ∀ l, H l = none → Q (.ref l) (upd H l (.lst ys))
  | .sum => rSum K
  | .max1 => rMax K
  | .min1 => rMin K
  | .max2 => fun xs H Q => ∃ i j, xs = [.int i, .int j] ∧ Q (.int (if j > i then j else i)) H
  | .min2 => fun xs H Q => ∃ i j, xs = [.int i, .int j] ∧ Q (.int (if j < i then j else i)) H
  | .abs => fun xs H Q => ∃ i, xs = [.int i] ∧ Q (.int (if i < 0 then -i else i)) H
  | .int => fun xs H Q => ((∃ i, xs = [.int i] ∧ Q (.int i) H) ∨ ∃ k, xs = [.bl k] ∧ Q (.int (if k then 1 else 0)) H) ∨ ∃ a n, xs = [.str a] ∧ PySem.intText? a = some n ∧ a.length ≤ 640 ∧ Q (.int n) H
  | .all => rAll K
  | .any => rAny K
  | .sorted => rSorted K
  | .min3 => fun xs H Q => ∃ i j k, xs = [.int i, .int j, .int k] ∧ Q (.int (minI [i, j, k])) H
  | .sortl => rSrtL K
  | .str => fun xs H Q => (∃ i, xs = [.int i] ∧ i.natAbs.log2 < 1920 ∧ Q (.str (Str.ofString (toString i))) H) ∨ ∃ a, xs = [.str a] ∧ Q (.str a) H
theorem RepTs.one {B H : Hp} {r : List Addr} {vs : List V} {w : W} (h : RepTs T B r H vs [w]) : ∃ v, vs = [v] ∧ RepT T B r H v w := by
  cases h with
  | cons h l => cases l; exact ⟨_, rfl, h⟩
theorem RepTs.two {B H : Hp} {r : List Addr} {vs : List V} {w u : W} (h : RepTs T B r H vs [w, u]) : ∃ v z, vs = [v, z] ∧ RepT T B r H v w ∧ RepT T B r H z u := by
  cases h with
  | cons h l => cases l with
    | cons h2 l => cases l; exact ⟨_, _, rfl, h, h2⟩
theorem RepTs.three {B H : Hp} {r : List Addr} {vs : List V} {w u t : W} (h : RepTs T B r H vs [w, u, t]) : ∃ v z y, vs = [v, z, y] ∧ RepT T B r H v w ∧ RepT T B r H z u ∧ RepT T B r H y t := by
  cases h with
  | cons h l => cases l with
    | cons h2 l => cases l with
      | cons h3 l => cases l; exact ⟨_, _, _, rfl, h, h2, h3⟩
theorem sql_of {K : PySem.W.Frag} {H : Hp} {a : Addr} {vs : List V} (h : SqL K H a vs ∨ SqT K H a vs) : SqL K H a vs ∨ SqT K H a vs := h
noncomputable def rowV (B : Hp) (v : V) : List Int := open Classical in if h : ∃ (a : Addr) (ns : List Int), v = .ref a ∧ Rd B a (.lst (ns.map V.int)) then h.choose_spec.choose else []
theorem vints_inj : ∀ {a b : List Int}, a.map V.int = b.map V.int → a = b
  | [], [], _ => rfl
  | [], _ :: _, h => by cases h
  | _ :: _, [], h => by cases h
  | x :: a, y :: b, h => by
    rw [List.map_cons, List.map_cons] at h
    obtain ⟨h1, h2⟩ := List.cons.inj h
    rw [V.int.inj h1, vints_inj h2]
theorem rd_uniq {B : Hp} {a : Addr} {u v : List V} (h : Rd B a (.lst u)) (g : Rd B a (.lst v)) : u = v := by
  rcases h with h | ⟨o, h⟩ <;> rcases g with g | ⟨o2, g⟩ <;> rw [h] at g <;> cases g <;> rfl
theorem rowV_at {B : Hp} {a : Addr} {ns : List Int} (h : Rd B a (.lst (ns.map V.int))) : rowV B (.ref a) = ns := by
  have ex : ∃ (b : Addr) (ms : List Int), V.ref a = .ref b ∧ Rd B b (.lst (ms.map V.int)) := ⟨a, ns, rfl, h⟩
  unfold rowV
  rw [dif_pos ex]
  have key : ∀ (b : Addr) (ms : List Int), V.ref a = .ref b → Rd B b (.lst (ms.map V.int)) → ms = ns := by
    intro b ms e1 e2
    have e1 := V.ref.inj e1
    subst e1
    exact vints_inj (rd_uniq e2 h)
  exact key _ _ ex.choose_spec.choose_spec.1 ex.choose_spec.choose_spec.2
theorem rep_intsB {T : Tab} {B : Hp} {r : List Addr} : ∀ n : List Int, RepL T B r (n.map V.int) (n.map W.int)
  | [] => .nil
  | i :: n => .cons (.int i) (rep_intsB n)
theorem dp_ints (K : PySem.W.Frag) (H : Hp) : ∀ n : List Int, DpAll K H (n.map V.int) (n.map PyData.int)
  | [] => .nil
  | i :: n => .cons (.int i) (dp_ints K H n)
theorem RepL.rows {T : Tab} {B : Hp} {r : List Addr} : ∀ {vs : List V} {ws : List W} {rs : List (List Int)}, RepL T B r vs ws → rowsW ws = some rs → (∀ x ∈ vs, ∃ (t : Addr) (n : List Int), x = .ref t ∧ Rd B t (.lst (n.map V.int)) ∧ rowV B x = n) ∧ vs.map (rowV B) = rs
  | _, _, rs, .nil, e => by
    simp only [rowsW, Option.some.injEq] at e
    subst e
    exact ⟨fun _ h => (by cases h), rfl⟩
  | _, _, rs, .cons h l, e => by
    cases h with
    | lst d lz =>
      unfold rowsW at e
      obtain ⟨n, e1, e2⟩ := Option.bind_eq_some_iff.mp e
      obtain ⟨ss, e3, e4⟩ := Option.map_eq_some_iff.mp e2
      subst e4
      have z := lz.ints e1
      subst z
      obtain ⟨q1, q2⟩ := RepL.rows l e3
      refine ⟨fun x hx => ?_, ?_⟩
      · rcases List.mem_cons.mp hx with rfl | hx
        · exact ⟨_, n, rfl, d, rowV_at d⟩
        · exact q1 x hx
      · rw [List.map_cons, q2, rowV_at d]
    | _ => simp [rowsW] at e
theorem blt_ok {b : Bi} {B P H : Hp} {r : List Addr} {m : Sto} {en : En} {σ : Slo} {vs : List V} {ws : List W} {c : RV} {Q : VK} (R : Rel T B r P m en σ H) (hv : RepTs T B r H vs ws) (e : bltR b m ws = some c)
    (q : ∀ v H2, Rel T B r P m en σ H2 → RepR T B r P en σ H2 v c → Q v H2) : rBl T.K b vs H Q := by
  unfold bltR at e
  split at e
  · -- len
    rename_i w
    obtain ⟨v, rfl, h⟩ := hv.one
    split at e
    · rename_i s
      split at e
      · rename_i c
        cases e
        have f := h.str
        subst f
        exact .inr ⟨s, rfl, lim_line c, q _ H R (.int _)⟩
      · cases e
    · cases g : seqW m w with
      | none => rw [g] at e; cases e
      | some ws =>
        rw [g] at e
        simp only [Option.map_some, Option.some.injEq] at e
        subst e
        obtain ⟨p, vs, rfl, d, l⟩ := RepT.seq R.s h g
        refine .inl ⟨p, vs, rfl, sql_of d, ?_⟩
        rw [l.len]
        exact q _ H R (.int _)
  · rename_i w
    obtain ⟨v, rfl, h⟩ := hv.one
    cases g : seqW m w with
    | none => rw [g] at e; cases e
    | some ws =>
      rw [g] at e
      simp only [Option.map_some, Option.some.injEq] at e
      subst e
      obtain ⟨p, vs, rfl, d, l⟩ := RepT.seq R.s h g
      exact ⟨p, vs, rfl, sql_of d, fun p2 hp => q _ _ (R.grow (Sub.new hp)) (R.new_own hp l)⟩
  · rename_i w
    obtain ⟨v, rfl, h⟩ := hv.one
    cases g : lstW m w with
    | none => rw [g] at e; cases e
    | some ws =>
      rw [g] at e
      simp only [Option.bind_some] at e
      cases g2 : intsW ws with
      | none => rw [g2] at e; cases e
      | some ns =>
        rw [g2] at e
        simp only [Option.map_some, Option.some.injEq] at e
        subst e
        obtain ⟨p, vs, rfl, d, l⟩ := RepT.lst R.s h g
        have z := l.ints g2
        subst z
        exact ⟨p, ns, rfl, .inl d, q _ H R (.int _)⟩
  · rename_i w
    obtain ⟨v, rfl, h⟩ := hv.one
    cases g : lstW m w with
    | none => rw [g] at e; cases e
    | some ws =>
      rw [g] at e
      simp only [Option.bind_some] at e
      cases g2 : intsW ws with
      | none => rw [g2] at e; cases e
      | some ns =>
        rw [g2] at e
        simp only [Option.bind_some] at e
        split at e
        · cases e
        · rename_i hne
          cases e
          obtain ⟨p, vs, rfl, d, l⟩ := RepT.lst R.s h g
          have z := l.ints g2
          subst z
          obtain ⟨m1, m2⟩ := maxI_mem hne
          refine ⟨p, ns, rfl, .inl d, List.length_pos_iff.mpr hne, fun y hy hmax => ?_⟩
          have : y = maxI ns := Int.le_antisymm (m2 y hy) (hmax _ m1)
          rw [this]
          exact q _ H R (.int _)
  · rename_i w
    obtain ⟨v, rfl, h⟩ := hv.one
    cases g : lstW m w with
    | none => rw [g] at e; cases e
    | some ws =>
      rw [g] at e
      simp only [Option.bind_some] at e
      cases g2 : intsW ws with
      | none => rw [g2] at e; cases e
      | some ns =>
        rw [g2] at e
        simp only [Option.bind_some] at e
        split at e
        · cases e
        · rename_i hne
          cases e
          obtain ⟨p, vs, rfl, d, l⟩ := RepT.lst R.s h g
          have z := l.ints g2
          subst z
          obtain ⟨m1, m2⟩ := minI_mem hne
          refine ⟨p, ns, rfl, .inl d, List.length_pos_iff.mpr hne, fun y hy hmin => ?_⟩
          have : y = minI ns := Int.le_antisymm (hmin _ m1) (m2 y hy)
          rw [this]
          exact q _ H R (.int _)
  · obtain ⟨v, z, rfl, h1, h2⟩ := hv.two
    cases e
    have f1 := h1.int; have f2 := h2.int
    subst f1 f2
    exact ⟨_, _, rfl, q _ H R (.int _)⟩
  · obtain ⟨v, z, rfl, h1, h2⟩ := hv.two
    cases e
    have f1 := h1.int; have f2 := h2.int
    subst f1 f2
    exact ⟨_, _, rfl, q _ H R (.int _)⟩
  · obtain ⟨v, rfl, h⟩ := hv.one
    cases e
    have f1 := h.int
    subst f1
    exact ⟨_, rfl, q _ H R (.int _)⟩
  · obtain ⟨v, rfl, h⟩ := hv.one
    cases e
    have f1 := h.int
    subst f1
    exact .inl <| .inl ⟨_, rfl, q _ H R (.int _)⟩
  · obtain ⟨v, rfl, h⟩ := hv.one
    cases e
    have f1 := h.bl
    subst f1
    exact .inl <| .inr ⟨_, rfl, q _ H R (.int _)⟩
  · obtain ⟨v, rfl, h⟩ := hv.one
    have f1 := h.str
    subst f1
    split at e
    · rename_i hl
      obtain ⟨n, h1, h2⟩ := Option.map_eq_some_iff.mp e
      cases h2
      exact .inr ⟨_, n, rfl, h1, hl, q _ H R (.int _)⟩
    · cases e
  · obtain ⟨v, rfl, h⟩ := hv.one
    have f1 := h.int
    subst f1
    split at e
    · rename_i hl
      cases e
      exact .inl ⟨_, rfl, hl, q _ H R (.str _)⟩
    · cases e
  · obtain ⟨v, rfl, h⟩ := hv.one
    cases e
    have f1 := h.str
    subst f1
    exact .inr ⟨_, rfl, q _ H R (.str _)⟩
  · rename_i w
    obtain ⟨v, rfl, h⟩ := hv.one
    cases g : lstW m w with
    | none => rw [g] at e; cases e
    | some ws =>
      rw [g] at e
      simp only [Option.bind_some] at e
      cases g2 : blsW ws with
      | none => rw [g2] at e; cases e
      | some ns =>
        rw [g2] at e
        simp only [Option.map_some, Option.some.injEq] at e
        subst e
        obtain ⟨p, vs, rfl, d, l⟩ := RepT.lst R.s h g
        have z := l.bls g2
        subst z
        exact ⟨p, ns, rfl, .inl d, q _ H R (.bl _)⟩
  · rename_i w
    obtain ⟨v, rfl, h⟩ := hv.one
    cases g : lstW m w with
    | none => rw [g] at e; cases e
    | some ws =>
      rw [g] at e
      simp only [Option.bind_some] at e
      cases g2 : blsW ws with
      | none => rw [g2] at e; cases e
      | some ns =>
        rw [g2] at e
        simp only [Option.map_some, Option.some.injEq] at e
        subst e
        obtain ⟨p, vs, rfl, d, l⟩ := RepT.lst R.s h g
        have z := l.bls g2
        subst z
        exact ⟨p, ns, rfl, .inl d, q _ H R (.bl _)⟩
  · rename_i w
    obtain ⟨v, rfl, h⟩ := hv.one
    cases g : lstW m w with
    | none => rw [g] at e; cases e
    | some ws =>
      rw [g] at e
      simp only [Option.bind_some] at e
      cases g2 : intsW ws with
      | none => rw [g2] at e; cases e
      | some ns =>
        rw [g2] at e
        simp only [Option.bind_some] at e
        split at e
        · rename_i hl
          cases e
          obtain ⟨p, vs, rfl, d, l⟩ := RepT.lst R.s h g
          have z := l.ints g2
          subst z
          refine ⟨p, ns, rfl, .inl d, hl, fun ns' p2 h1 h2 hp => ?_⟩
          rw [sort_one h1 h2]
          refine q _ _ (R.grow (Sub.new hp)) (R.new_own hp ?_)
          generalize sortI ns = ls
          induction ls with
          | nil => exact .nil
          | cons i r ih => exact .cons (.int _) ih
        · cases e
  · obtain ⟨v, z, u, rfl, h1, h2, h3⟩ := hv.three
    cases e
    have f1 := h1.int; have f2 := h2.int; have f3 := h3.int
    subst f1 f2 f3
    exact ⟨_, _, _, rfl, q _ H R (.int _)⟩
  · rename_i w
    obtain ⟨v, rfl, h⟩ := hv.one
    obtain ⟨ws, g, e⟩ := Option.bind_eq_some_iff.mp e
    obtain ⟨rs, g2, e⟩ := Option.map_eq_some_iff.mp e
    subst e
    obtain ⟨p, vs, rfl, d, l⟩ := RepT.lst R.s h g
    have L := l.rows g2
    refine ⟨p, vs, rowV B, rfl, .inl d, fun x hx => ?_, fun ys p2 h1 h2 hp => ?_⟩
    · obtain ⟨t, n, rfl, dl, e⟩ := L.1 x hx
      refine ⟨t, rfl, ?_⟩
      rw [e]
      exact .lst (.inl (R.s.bh.rd dl)) (dp_ints _ _ n)
    · have hb : RepL T B r ys ((sortRow rs).map fun r => .lst (r.map .int)) := by
        have pm := h2.map (rowV B)
        rw [L.2] at pm
        have e1 := sortRow_one pm (List.pairwise_map.mpr h1)
        rw [← e1]
        have : ∀ x ∈ ys, Rep T B r x (.lst ((rowV B x).map .int)) := fun x hx => by
          obtain ⟨t, n, rfl, dl, e⟩ := L.1 x (h2.mem_iff.mp hx)
          rw [e]
          exact .lst dl (rep_intsB n)
        clear h1 h2 e1 pm
        induction ys with
        | nil => exact .nil
        | cons y r ih => exact .cons (this y List.mem_cons_self) (ih fun x hx => this x (List.mem_cons_of_mem _ hx))
      exact q _ _ (R.grow (Sub.new hp)) (R.new_own hp hb)
  · cases e
theorem snd_blt (C : CxOk T xc S cs gl k N fb sc Wx X) {b : Bi} (hcB : (S.cB || calmFree b) = true) {x : Str} {es : E} {q : Expr} {qs : List Expr} {p pos : Pos} (hx : x = bltName b) (hg : glB sc x = true) (hb : bltTy b ≠ none) (hpl : (backTo pos (starEach qs X.env)).any (·.1) = false) (hst : starEach (q :: qs) X.env = (false, eval q X.env) :: starEach qs X.env)
    (ha : PA X (q :: qs) (SL T xc cs gl Wx es)) : PE X (.Call (.Name x p) (q :: qs) [] pos) (SE T xc cs gl Wx (.blt b es)) := by
  have hm : ∀ y ∈ bltNames, X.mg y = none := C.md.blt
  have G := gl_of C.es hg
  have hc : calmFree b = false → X.calm = true := fun z => C.calm (by rw [z, Bool.or_false] at hcB; exact hcB)
  have go : PE X (.Call (.Name x p) (q :: qs) [] pos) (tCB (rBl X.K b) (SL T xc cs gl Wx es)) := by
    subst hx
    cases b with
    | len => exact pe_callB (call_len_seq.or call_len_str) G (hm _ (by decide +kernel)) (by decide +kernel) ha (by decide) (by decide) hst hpl
    | list => exact pe_callTy call_list_of G (hm _ (by decide +kernel)) (by decide +kernel) ha (by decide) (by decide) hst hpl
    | sum => exact pe_callB (cr_sum (hc rfl)) G (hm _ (by decide +kernel)) (by decide +kernel) ha (by decide) (by decide) hst hpl
    | max1 => exact pe_callB (cr_max (hc rfl)) G (hm _ (by decide +kernel)) (by decide +kernel) ha (by decide) (by decide) hst hpl
    | min1 => exact pe_callB (cr_min (hc rfl)) G (hm _ (by decide +kernel)) (by decide +kernel) ha (by decide) (by decide) hst hpl
    | max2 => exact pe_callB (call_max2 (hc rfl)) G (hm _ (by decide +kernel)) (by decide +kernel) ha (by decide) (by decide) hst hpl
    | min2 => exact pe_callB (call_min2 (hc rfl)) G (hm _ (by decide +kernel)) (by decide +kernel) ha (by decide) (by decide) hst hpl
    | abs => exact pe_callB call_abs G (hm _ (by decide +kernel)) (by decide +kernel) ha (by decide) (by decide) hst hpl
    | int => exact pe_callTy (call_int1.or call_int_str) G (hm _ (by decide +kernel)) (by decide +kernel) ha (by decide) (by decide) hst hpl
    | all => exact pe_callB (cr_all (hc rfl)) G (hm _ (by decide +kernel)) (by decide +kernel) ha (by decide) (by decide) hst hpl
    | any => exact pe_callB (cr_any (hc rfl)) G (hm _ (by decide +kernel)) (by decide +kernel) ha (by decide) (by decide) hst hpl
    | sorted => exact pe_callB cr_sorted G (hm _ (by decide +kernel)) (by decide +kernel) ha (by decide) (by decide) hst hpl
    | min3 => exact pe_callB (call_min3 (hc rfl)) G (hm _ (by decide +kernel)) (by decide +kernel) ha (by decide) (by decide) hst hpl
    | sortl => exact pe_callB (cr_sortL (by have := C.un; omega)) G (hm _ (by decide +kernel)) (by decide +kernel) ha (by decide) (by decide) hst hpl
    | str => exact pe_callTy (call_str_int.or SkE.call_str_str) G (hm _ (by decide +kernel)) (by decide +kernel) ha (by decide) (by decide) hst hpl
  refine go.imp fun σ H Q z => ?_
  obtain ⟨B, r, P, m, en, R, g⟩ := z
  simp only [ev] at g
  refine ⟨B, r, P, m, en, R, g.bind fun ws en1 m1 B1 r1 H1 e1 R1 h1 vs hvs => ?_⟩
  obtain ⟨c, e, h2⟩ := h1.opt
  rw [C.eK]
  exact blt_ok R1 hvs e fun v H2 R2 h => h2 B1 r1 H2 Ext.refl R2 v h
theorem snd_lrng (C : CxOk T xc S cs gl k N fb sc Wx X) (hcB : S.cB = true) {a : E} {x y : Str} {q : Expr} {p p2 pos pos2 : Pos} (hx : x = ("list" : Str)) (hy : y = ("range" : Str)) (hg : glB sc x = true) (hg2 : glB sc y = true) (hn : noStar q = true) (ha : PE X q (SE T xc cs gl Wx a)) :
    PE X (.Call (.Name x p) [.Call (.Name y p2) [q] [] pos2] [] pos) (SE T xc cs gl Wx (.lrng a)) := by
  subst hx hy
  refine (pe_listRg (C.calm hcB) (gl_of C.es hg) (C.md.blt _ (by decide +kernel)) (prg_1 (gl_of C.es hg2) (C.md.blt _ (by decide +kernel)) ha (star_of hn)) rfl).imp fun σ H Q z => ?_
  obtain ⟨B, r, P, m, en, R, g⟩ := z
  simp only [ev] at g
  refine SG.go R (g.bind fun x en1 m1 B1 r1 H1 e1 R1 h1 v hv => ?_)
  obtain ⟨n, e, h2⟩ := h1.opt
  obtain ⟨hl, h3⟩ := h2.ifp
  have e := intR_some e
  subst e
  cases hv
  refine ⟨n, rfl, ⟨by decide, by decide, by omega, by omega, by omega⟩, fun l hl2 => ?_⟩
  refine h3 B1 r1 _ Ext.refl (R1.grow (Sub.new hl2)) _ (R1.new_own hl2 ?_)
  unfold rgV
  generalize (List.range (n - 0).toNat) = ls
  induction ls with
  | nil => exact .nil
  | cons i r ih => exact .cons (.int _) ih
theorem snd_bits {a : E} {pa : Expr} {x : Str} {ap pos : Pos} (hx : x = ("bit_length" : Str)) (hb : baseB pa = true) (hl : (ap.endLine == pos.line) = true) (ha : PE X pa (SE T xc cs gl Wx a)) :
    PE X (.Call (.Attribute pa x ap) [] [] pos) (SE T xc cs gl Wx (.mth .bits a .nil)) := by
  subst hx
  refine (pe_bits ha (base_of hb) hl).imp fun σ H Q z => ?_
  obtain ⟨B, r, P, m, en, R, g⟩ := z
  simp only [ev] at g
  refine SG.go R (g.bind fun x en1 m1 B1 r1 H1 e1 R1 h1 v hv => ?_)
  obtain ⟨n, e, h2⟩ := h1.opt
  have e := intR_some e
  subst e
  cases hv
  exact ⟨n, rfl, h2.fin R1 _ (.int _)⟩
theorem boxP_of {x : RV} {en : En} {m : Sto} (h : x ≠ .val .non) : boxP x en m = Mp.opt2 (boxR x en) fun ws en => .ok (.val (.ref m.length)) en (m ++ [.lst ws]) := by
  unfold boxP
  split
  · exact absurd rfl h
  · rfl
theorem box_ok {a : E} {σ : Slo} {H : Hp} {Q : VK} (h : SE T xc cs gl Wx (.box a) σ H Q) : SE T xc cs gl Wx a σ H Q := by
  obtain ⟨B, r, P, m, en, R, g⟩ := h
  simp only [ev] at g
  refine SG.go R (g.bind fun x en1 m1 B1 r1 H1 e1 R1 h1 v hv => ?_)
  cases x with
  | val w =>
    cases w with
    | non => exact h1 B1 r1 H1 Ext.refl R1 v hv
    | _ =>
      rw [boxP_of (fun h => by cases h)] at h1
      obtain ⟨ws, en2, e, h2⟩ := h1.opt2
      cases e
  | new zs =>
    rw [boxP_of (fun h => by cases h)] at h1
    obtain ⟨ws, en2, e, h2⟩ := h1.opt2
    simp only [boxR, Option.some.injEq, Prod.mk.injEq] at e
    obtain ⟨rfl, rfl⟩ := e
    obtain ⟨r2, e2, R2, h3⟩ := R1.box_new hv
    exact h2 B1 r2 H1 e2 R2 v h3
  | bor j =>
    rw [boxP_of (fun h => by cases h)] at h1
    obtain ⟨ws, en2, e, h2⟩ := h1.opt2
    simp only [boxR] at e
    cases q : enGet en1 j with
    | none => rw [q] at e; cases e
    | some s =>
      rw [q] at e
      cases s with
      | val w => cases e
      | own zs =>
        simp only [Option.some.injEq, Prod.mk.injEq] at e
        obtain ⟨rfl, rfl⟩ := e
        have hj := enGet_some q
        have hv : σ[j]? = some (some v) := hv
        obtain ⟨p, e3, o⟩ := R1.e.own_at hj
        rw [hv] at e3; cases e3
        have hl : j < en1.length := (List.getElem?_eq_some_iff.mp hj).1
        have get : ∀ (i : Nat) (s : Sl), (en1.set j none)[i]? = some (some s) → j ≠ i ∧ en1[i]? = some (some s) := fun i s hi => by
          by_cases c : j = i
          · subst c; rw [List.getElem?_set_self hl] at hi; cases hi
          · rw [List.getElem?_set_ne c] at hi; exact ⟨c, hi⟩
        have R0 : Rel T B1 r1 P m1 (en1.set j none) σ H1 :=
          ⟨R1.s, by rw [List.length_set]; exact R1.e.len, fun i s hi => R1.e.sl i s (get i s hi).2, fun i l xs ys q e1 e2 e3 e4 => R1.e.dis i l xs ys q (get i _ e1).2 (get l _ e2).2 e3 e4⟩
        have hn : RepR T B1 r1 P (en1.set j none) σ H1 (.ref p) (.new zs) := ⟨p, rfl, o, fun i ys hi e => by
          obtain ⟨c, hi⟩ := get i _ hi
          exact c (R1.e.dis j i zs ys p hj hi hv e)⟩
        obtain ⟨r2, e2, R2, h3⟩ := R0.box_new hn
        exact h2 B1 r2 H1 e2 R2 _ h3
/-! ### pop -/
theorem snd_pop (C : CxOk T xc S cs gl k N fb sc Wx X) {a es : E} {pa q : Expr} {x : Str} {ap pos : Pos} (hx : x = ("pop" : Str)) (hb : baseB pa = true) (hl : (ap.endLine == pos.line) = true) (hn : noStar q = true) (ha : PE X pa (SE T xc cs gl Wx a)) (hq : PA X [q] (SA T xc cs gl Wx es)) :
    PE X (.Call (.Attribute pa x ap) [q] [] pos) (SE T xc cs gl Wx (.mth .pop a es)) := by
  subst hx
  have hfew : ((backTo pos (starEach [q] X.env)).all (fun x => !x.1) && (backToKw pos (keywordEach [] X.env)).all (fun x => x.1.isSome)
      && decide (([q] : List Expr).length + ([] : List Keyword).length + (if ([] : List Keyword).isEmpty then 0 else 1) < 30)) = true := by
    rw [star_of hn]; rfl
  refine (pe_bm PySem.F.plainAttrs_list PySem.F.slot_list_pop PySem.F.type_list_pop mt_popAt ha hq (base_of hb) hfew hl (star_of hn) rfl).imp fun σ H Q z => ?_
  obtain ⟨B, r, P, m, en, R, g⟩ := z
  simp only [ev] at g
  refine SG.go R (g.bind fun x en1 m1 B1 r1 H1 e1 R1 h1 v hv => ?_)
  obtain ⟨ws0, e0, h1⟩ := h1.opt
  obtain ⟨B2, e2, R2, hv2⟩ := R1.hold hv
  unfold rvL at e0
  cases g0 : rvW en1 (hold x) with
  | none => rw [g0] at e0; cases e0
  | some w0 =>
    rw [g0] at e0
    obtain ⟨l, vs0, rfl, d0, _⟩ := RepT.lst R2.s (R2.top hv2 g0) e0
    refine ⟨.inl ⟨rfl, vs0, .inl d0⟩, B2, r1, P, m1, en1, R2, (PostG.mono e2 h1).bind fun zs en3 m3 B3 r3 H3 e3 R3 h3 us hus => ?_⟩
    obtain ⟨i, e4, h4⟩ := h3.opt
    have e4 := int1_some e4
    subst e4
    obtain ⟨⟨w, en5, m5⟩, e5, h5⟩ := h4.opt
    cases hus with
    | cons hu hr =>
      cases hr
      cases hu
      split at e5
      · rename_i hi
        have hv3 := hv2.held (P2 := P) (en3 := en3) (H3 := H3) e3.sub e3.pre
        -- where the list stands
        have own : ∀ (j : Nat) (ws : List W), enGet en3 j = some (.own ws) → σ[j]? = some (some (.ref l)) → ((ixN ws.length i).bind fun k => (ws[k]?).map fun w => (w, en3.set j (some (.own (ws.eraseIdx k))), m3)) = some (w, en5, m5) →
            rPopAt (.ref l) [.int i] H3 Q := fun j ws gj hj e => by
          obtain ⟨p, a1, a2⟩ := R3.e.own_at (enGet_some gj)
          rw [hj] at a1; cases a1
          obtain ⟨vs, b1, b2⟩ := a2.at_
          cases c1 : ixN ws.length i with
          | none => rw [c1] at e; cases e
          | some k =>
            rw [c1] at e
            simp only [Option.bind_some] at e
            cases c2 : ws[k]? with
            | none => rw [c2] at e; cases e
            | some u =>
              rw [c2] at e
              simp only [Option.map_some, Option.some.injEq, Prod.mk.injEq] at e
              obtain ⟨rfl, rfl, rfl⟩ := e
              obtain ⟨y, c3, c4⟩ := b2.get c2
              refine ⟨l, vs, i, k, y, rfl, rfl, b1, by omega, by omega, ?_, c3, ?_⟩
              · rw [b2.len]; exact (ixN_seq c1).1
              · exact h5 B3 r3 _ Ext.refl (R3.upd_own (enGet_some gj) hj (b2.erase k)) y c4
        have sto : ∀ (n : Nat) (ws : List W), m3[n]? = some (.lst ws) → r3[n]? = some l → ((ixN ws.length i).bind fun k => (ws[k]?).map fun w => (w, en3, m3.set n (.lst (ws.eraseIdx k)))) = some (w, en5, m5) →
            rPopAt (.ref l) [.int i] H3 Q := fun n ws gn hn2 e => by
          obtain ⟨a1, o, b1, b2, b3⟩ := R3.s.ob n _ gn
          rw [hn2] at b1; cases b1
          cases b3 with
          | lst b3 =>
            rename_i vs
            cases c1 : ixN ws.length i with
            | none => rw [c1] at e; cases e
            | some k =>
              rw [c1] at e
              simp only [Option.bind_some] at e
              cases c2 : ws[k]? with
              | none => rw [c2] at e; cases e
              | some u =>
                rw [c2] at e
                simp only [Option.map_some, Option.some.injEq, Prod.mk.injEq] at e
                obtain ⟨rfl, rfl, rfl⟩ := e
                obtain ⟨y, c3, c4⟩ := b3.get c2
                refine ⟨l, vs, i, k, y, rfl, rfl, b2, by omega, by omega, ?_, c3, ?_⟩
                · rw [b3.len]; exact (ixN_seq c1).1
                · exact h5 B3 r3 _ Ext.refl (R3.upd_sto hn2 gn rfl rfl (.lst (b3.erase k))) y c4
        have e6 : popAt en3 m3 (hold x) i = some (w, en5, m5) := e5
        cases hx : hold x with
        | new ws => rw [hx] at e6; cases e6
        | bor j =>
          rw [hx] at e6 hv3
          unfold popAt at e6
          dsimp only at e6
          split at e6
          · rename_i ws gj; exact own j ws gj hv3 e6
          · rename_i n gj
            split at e6
            · rename_i ws gn
              obtain ⟨v2, a1, a2⟩ := R3.e.sl j _ (enGet_some gj)
              have hv3 : σ[j]? = some (some (.ref l)) := hv3
              rw [hv3] at a1; cases a1
              cases a2 with
              | ref a2 => exact sto n ws gn a2 e6
            · cases e6
          · cases e6
        | val u =>
          rw [hx] at e6 hv3
          cases u with
          | ref n =>
            simp only [popAt] at e6
            split at e6
            · rename_i ws gn
              cases hv3 with
              | ref a2 => exact sto n ws gn a2 e6
            · cases e6
          | _ => cases e6
      · cases e5
end
end Mp
set_option Elab.async false
set_option linter.all false
set_option maxRecDepth 100000
set_option maxHeartbeats 4000000
namespace Mp
open PySem PySem.Spec PyProof.Rows L2
section
variable {T : Tab} {xc : Nat → Value} {S : Sta} {cs : Nat → List W → Sto → CR} {gl : List W} {k : Nat} {N : List Str} {fb : Str → Bool} {sc : Scope} {Wx : WX} {X : Cx}
/-! ### isinstance -/
noncomputable def tyS : Option Ty → String
  | some .int => "int" | some .bool => "bool" | some .list => "list" | some .tuple => "tuple" | some .str => "str" | none => "NoneType"
theorem kit_all (t : Option Ty) (u : Ty) : kitB (tyS t) (tyS (some u)) = some (isT t u) := by
  cases t with
  | none => cases u <;> decide +kernel
  | some t => cases t <;> cases u <;> decide +kernel
theorem ty_top {B P H : Hp} {r : List Addr} {m : Sto} {v : V} {w : W} {t : Option Ty} (R : RelS T B r P m H) (h : RepT T B r H v w) (e : tyR m w = some t) : TyX T.K H v (.type (tyS t)) := by
  cases w with
  | non => simp only [tyR, Option.some.injEq] at e; subst e; have := h.non; subst this; exact .base .non
  | bl b => simp only [tyR, tyW, Option.map_some, Option.some.injEq] at e; subst e; have := h.bl; subst this; exact .base (.bl b)
  | int b => simp only [tyR, tyW, Option.map_some, Option.some.injEq] at e; subst e; have := h.int; subst this; exact .base (.int b)
  | str b => simp only [tyR, tyW, Option.map_some, Option.some.injEq] at e; subst e; have := h.str; subst this; exact .base (.str b)
  | lst ws =>
    simp only [tyR, tyW, Option.map_some, Option.some.injEq] at e; subst e
    obtain ⟨a, vs, rfl, d, _⟩ := RepT.lst R h (ws := ws) rfl
    rcases d with d | ⟨o, d⟩
    · exact .base (.lst d)
    · exact .base (.frz d)
  | tup ws =>
    simp only [tyR, tyW, Option.map_some, Option.some.injEq] at e; subst e
    obtain ⟨a, vs, rfl, d, _⟩ := RepT.seq R h (ws := ws) rfl
    rcases h with h | ⟨_, _, _, _, h, _⟩
    · cases h with
      | tup d _ =>
        have d := R.bh.sqt d
        rcases d with (d | ⟨o, d⟩) | ⟨o, its, n, d, c, _⟩
        · exact .base (.tup d)
        · exact .fTuple d
        · exact .kTuple d c
    · cases h
  | ref i =>
    simp only [tyR] at e
    split at e
    · rename_i ws g
      cases e
      obtain ⟨a, vs, rfl, d, _⟩ := RepT.lst R h (ws := ws) (by simp only [lstW]; rw [g])
      rcases d with d | ⟨o, d⟩
      · exact .base (.lst d)
      · exact .base (.frz d)
    · cases e
  | raw v => simp [tyR, tyW] at e
  | scr v => simp [tyR, tyW] at e
  | fn f => simp [tyR, tyW] at e
  | exc f => simp [tyR, tyW] at e
theorem boot_ty : ∀ t : Ty, bootBuiltins (tyName t) = some (.type (tyS (some t))) := fun t => by cases t <;> decide +kernel
theorem tyName_in : ∀ t : Ty, tyName t ∈ bltNames := fun t => by cases t <;> decide +kernel
theorem tyName_pl : ∀ t : Ty, tyName t ≠ ("__name__" : Str) ∧ (tyName t == ("__debug__" : Str)) = false := fun t => by cases t <;> exact ⟨by decide +kernel, by decide +kernel⟩
theorem pe_ty (C : CxOk T xc S cs gl k N fb sc Wx X) {t : Ty} {y : Str} {p : Pos} (hy : y = tyName t) (hg : glB sc y = true) : PE X (.Name y p) (tC (.ty (tyS (some t)))) := by
  subst hy
  exact pe_bltn (gl_of C.es hg) (C.md.blt _ (tyName_in t)) (boot_ty t) rfl (tyName_pl t).1 (tyName_pl t).2
noncomputable def tTys : List Ty → TA
  | [] => tNil
  | t :: ts => tCons (tC (.ty (tyS (some t)))) (tTys ts)
theorem pa_tys (C : CxOk T xc S cs gl k N fb sc Wx X) : ∀ {ts : List Ty} {es : List Expr}, tyList sc ts es = true → PA X es (tTys ts)
  | [], [], _ => pa_nil
  | [], _ :: _, h => by simp [tyList] at h
  | t :: ts, [], h => by simp [tyList] at h
  | t :: ts, e :: es, h => by
    cases e with
    | Name x p =>
      simp only [tyList, Bool.and_eq_true] at h
      exact pa_cons (pe_ty C (eq_of_beq h.1.1) h.1.2) (pa_tys C h.2) rfl
    | _ => simp [tyList] at h
theorem tTys_go {σ : Slo} {H : Hp} : ∀ {ts : List Ty} {Q : List V → Hp → Prop}, Q (ts.map fun t => V.ty (tyS (some t))) H → tTys ts σ H Q
  | [], _, q => q
  | t :: ts, Q, q => by
    show tTys ts σ H fun xs H2 => Q (V.ty (tyS (some t)) :: xs) H2
    exact tTys_go q
theorem kit_list (K : PySem.W.Frag) (t : Option Ty) : ∀ ts : List Ty, PySem.W.kitAny K (.type (tyS t)) (ts.map fun u => Value.type (tyS (some u))) = some (ts.any (isT t))
  | [] => kitAny_nil
  | u :: ts => by
    rw [List.map_cons, List.any_cons]
    refine kitAny_cons (kit_ty (kit_all t u)) (fun h => ?_) (fun h => by rw [h, Bool.true_or])
    rw [h, Bool.false_or]
    exact kit_list K t ts
theorem clsV_all : ∀ ts : List Ty, Paired ClsV (ts.map fun t => V.ty (tyS (some t))) (ts.map fun u => Value.type (tyS (some u)))
  | [] => .nil
  | t :: ts => .cons (.ty _) (clsV_all ts)
theorem snd_isi (C : CxOk T xc S cs gl k N fb sc Wx X) {a : E} {ts : List Ty} {pa pt : Expr} {x : Str} {p pos : Pos} (hx : x = ("isinstance" : Str)) (hg : glB sc x = true) (hn : noStar pa = true) (ha : PE X pa (SE T xc cs gl Wx a))
    (ht : (match ts, pt with
      | [t], .Name y _ => (y == tyName t) && glB sc y
      | ts, .Tuple es _ _ => tyList sc ts es
      | _, _ => false) = true) (hts : ts.length ≤ 100) : PE X (.Call (.Name x p) [pa, pt] [] pos) (SE T xc cs gl Wx (.isi a ts)) := by
  subst hx
  have G := gl_of C.es hg
  have hm := C.md.blt "isinstance" (by decide +kernel)
  have fin : ∀ {σ : Slo} {H : Hp} {Q : VK}, SE T xc cs gl Wx (.isi a ts) σ H Q → SE T xc cs gl Wx a σ H fun v H1 => ∃ t : Option Ty, TyX T.K H1 v (.type (tyS t)) ∧ Q (.bl (ts.any (isT t))) H1 ∧ ∀ q o, H1 q = none → TyX T.K (upd H1 q o) v (.type (tyS t)) ∧ Q (.bl (ts.any (isT t))) (upd H1 q o) := fun {σ H Q} z => by
    obtain ⟨B, r, P, m, en, R, g⟩ := z
    simp only [ev] at g
    refine SG.go R (g.bind fun x en1 m1 B1 r1 H1 e1 R1 h1 v hv => ?_)
    obtain ⟨w, e, h2⟩ := h1.opt
    obtain ⟨t, e2, h3⟩ := h2.opt
    refine ⟨t, ty_top R1.s (R1.top hv e) e2, h3.fin R1 _ (.bl _), fun q o hq => ?_⟩
    have R2 := R1.grow (Sub.new (o := o) hq)
    exact ⟨ty_top R2.s (R2.top (hv.grow (Sub.new hq)) e) e2, h3 B1 r1 _ Ext.refl R2 _ (.bl _)⟩
  split at ht
  · rename_i t y p2
    rw [Bool.and_eq_true] at ht
    refine (pe_callB call_isi G hm (by decide +kernel) (pa_cons ha (pa_cons (pe_ty C (eq_of_beq ht.1) ht.2) pa_nil rfl) (star_of hn)) (by decide) (by decide) (star_of hn) rfl).imp fun σ H Q z => ?_
    obtain ⟨B, r, P, m, en, R, g⟩ := fin z
    refine ⟨B, r, P, m, en, R, g.imp fun x en2 m2 B2 r2 H2 _ _ z v hv => ?_⟩
    obtain ⟨t2, h1, h2, _⟩ := z v hv
    rw [C.eK]
    refine ⟨v, .ty (tyS (some t)), .type (tyS t2), .type (tyS (some t)), _, rfl, .ty _, h1, kit_ty (kit_all t2 t), ?_⟩
    have e : [t].any (isT t2) = isT t2 t := by simp
    rw [← e]; exact h2
  · rename_i es n p2
    refine (pe_callB call_isiT G hm (by decide +kernel) (pa_cons ha (pa_cons (pe_tup (pa_tys C ht)) pa_nil rfl) (star_of hn)) (by decide) (by decide) (star_of hn) rfl).imp fun σ H Q z => ?_
    obtain ⟨B, r, P, m, en, R, g⟩ := fin z
    refine ⟨B, r, P, m, en, R, g.imp fun x en2 m2 B2 r2 H2 _ R2 z v hv => ?_⟩
    obtain ⟨t2, h1, h2, h3⟩ := z v hv
    refine tTys_go ?_
    have hl : (ts.map fun t => V.ty (tyS (some t))).length ≤ sizeLine := by
      rw [List.length_map]
      exact Nat.le_trans hts (by decide)
    refine ⟨hl, fun q hq => ?_⟩
    obtain ⟨h4, h5⟩ := h3 q (.tup (ts.map fun t => V.ty (tyS (some t)))) hq
    rw [C.eK]
    exact ⟨v, q, _, .type (tyS t2), _, _, rfl, upd_same, clsV_all ts, h4, kit_list T.K t2 ts, h5⟩
  · cases ht
/-! ### what is walked -/
structure ItSim (T : Tab) (B : Hp) (r : List Addr) (J : L2.It) (zs : List W) (ck : List (Nat × List W)) : Prop where
  go : ∀ {B2 : Hp} {r2 : List Addr} {P : Hp} {m : Sto} {en : En} {σ : Slo} {H : Hp} (i : Nat), Sub B B2 → r <+: r2 → Rel T B2 r2 P m en σ H → chk ck m = true → i < zs.length → J.go i H
  stop : ∀ {B2 : Hp} {r2 : List Addr} {P : Hp} {m : Sto} {en : En} {σ : Slo} {H : Hp}, Sub B B2 → r <+: r2 → Rel T B2 r2 P m en σ H → chk ck m = true → J.stop zs.length H
  yld : ∀ {B2 : Hp} {r2 : List Addr} {P : Hp} {m : Sto} {en : En} {σ : Slo} {H H2 : Hp} {x : V} {z : W} (i : Nat), Sub B B2 → r <+: r2 → Rel T B2 r2 P m en σ H → chk ck m = true → J.yld i H x H2 → zs[i]? = some z →
    ∃ B3, Ext P B2 r2 B3 r2 ∧ Rel T B3 r2 P m en σ H2 ∧ Rep T B3 r2 x z ∧ Sub H H2
noncomputable def SrcAt (T : Tab) (B : Hp) (r : List Addr) (a : Addr) (zs : List W) (ck : List (Nat × List W)) : Prop := ∀ {B2 : Hp} {r2 : List Addr} {P : Hp} {m : Sto} {H : Hp}, Sub B B2 → r <+: r2 → RelS T B2 r2 P m H → chk ck m = true → ∃ vs, Rd H a (.lst vs) ∧ RepL T B2 r2 vs zs
theorem chk_app {c1 c2 : List (Nat × List W)} {m : Sto} (h : chk (c1 ++ c2) m = true) : chk c1 m = true ∧ chk c2 m = true := by
  unfold chk at h ⊢
  rw [List.all_append, Bool.and_eq_true] at h
  exact h
theorem srcL_at {B P H : Hp} {r : List Addr} {m : Sto} {v : V} {w : W} {zs : List W} {ck : List (Nat × List W)} (h : Rep T B r v w) (e : srcL m w = some (zs, ck)) : ∃ a, v = .ref a ∧ SrcAt T B r a zs ck := by
  cases w with
  | lst ws =>
    simp only [srcL, Option.some.injEq, Prod.mk.injEq] at e
    obtain ⟨rfl, rfl⟩ := e
    cases h with
    | lst d l =>
      exact ⟨_, rfl, fun {B2 r2 P m H} s p R _ => ⟨_, (s.trans R.bh).rd d, l.mono s p⟩⟩
  | ref i =>
    simp only [srcL] at e
    split at e
    · rename_i ws g
      simp only [Option.some.injEq, Prod.mk.injEq] at e
      obtain ⟨rfl, rfl⟩ := e
      cases h with
      | ref d =>
        refine ⟨_, rfl, fun {B2 r2 P m H} s p R c => ?_⟩
        simp only [chk, List.all_cons, List.all_nil, Bool.and_true] at c
        split at c
        · rename_i us g2
          have e2 := W.sames_eq _ _ c
          subst e2
          obtain ⟨a2, o, h1, h2, h3⟩ := R.ob i _ g2
          rw [pre_get p d] at h1; cases h1
          cases h3 with
          | lst l => exact ⟨_, .inl h2, l⟩
        · cases c
    · cases e
  | _ => simp [srcL] at e
theorem srcL_chk {m : Sto} {w : W} {zs : List W} {ck : List (Nat × List W)} (e : srcL m w = some (zs, ck)) : chk ck m = true := by
  cases w with
  | lst ws => simp only [srcL, Option.some.injEq, Prod.mk.injEq] at e; obtain ⟨rfl, rfl⟩ := e; rfl
  | ref i =>
    simp only [srcL] at e
    split at e
    · rename_i ws g
      simp only [Option.some.injEq, Prod.mk.injEq] at e
      obtain ⟨rfl, rfl⟩ := e
      simp only [chk, List.all_cons, List.all_nil, Bool.and_true, g]
      exact W.sames_refl _
    · cases e
  | _ => simp [srcL] at e
theorem sim_list {B : Hp} {r : List Addr} {a : Addr} {zs : List W} {ck : List (Nat × List W)} (s : SrcAt T B r a zs ck) : ItSim T B r (Itl T.K a) zs ck where
  go := fun i h1 h2 R c hi => by
    obtain ⟨vs, d, l⟩ := s h1 h2 R.s c
    obtain ⟨v, g, _⟩ := l.get (List.getElem?_eq_getElem hi)
    exact ⟨vs, v, .inl d, g⟩
  stop := fun h1 h2 R c => by
    obtain ⟨vs, d, l⟩ := s h1 h2 R.s c
    exact ⟨vs, .inl d, Nat.le_of_eq l.len⟩
  yld := fun {B2 _ _ _ _ _ _ _ _ _} i h1 h2 R c y e => by
    obtain ⟨rfl, y⟩ := y
    obtain ⟨vs, d, l⟩ := s h1 h2 R.s c
    obtain ⟨v, g, rv⟩ := l.get e
    have := y vs (.inl d)
    rw [g] at this; cases this
    exact ⟨B2, Ext.refl, R, rv, Sub.refl _⟩
theorem sim_tup {B : Hp} {r : List Addr} {a : Addr} {vs : List V} {zs : List W} (d : SqT T.K B a vs) (l : RepL T B r vs zs) : ItSim T B r (Itt T.K a) zs [] where
  go := fun i h1 h2 R c hi => by
    obtain ⟨v, g, _⟩ := l.get (List.getElem?_eq_getElem hi)
    exact ⟨vs, v, (h1.trans R.s.bh).sqt d, g⟩
  stop := fun h1 h2 R c => ⟨vs, (h1.trans R.s.bh).sqt d, Nat.le_of_eq l.len⟩
  yld := fun {B2 _ _ _ _ _ _ _ _ _} i h1 h2 R c y e => by
    obtain ⟨rfl, y⟩ := y
    obtain ⟨v, g, rv⟩ := l.get e
    have := y vs ((h1.trans R.s.bh).sqt d)
    rw [g] at this; cases this
    exact ⟨B2, Ext.refl, R, rv.mono h1 h2, Sub.refl _⟩
theorem sim_str {B : Hp} {r : List Addr} {x : Str} : ItSim T B r (Its x) (x.cps.toList.map fun c => .str ⟨#[c]⟩) [] where
  go := fun i _ _ _ _ hi => by
    rw [List.length_map, Array.length_toList] at hi
    exact hi
  stop := fun _ _ _ _ => by
    rw [List.length_map, Array.length_toList]
    exact Nat.le_refl _
  yld := fun {B2 _ _ _ _ _ _ _ _ _} i _ _ R _ y e => by
    obtain ⟨rfl, c, h1, rfl⟩ := y
    rw [List.getElem?_map, Array.getElem?_toList, h1] at e
    simp only [Option.map_some, Option.some.injEq] at e
    subst e
    exact ⟨B2, Ext.refl, R, .str _, Sub.refl _⟩
theorem sim_rng {B : Hp} {r : List Addr} {lo : Int} {n : Nat} : ItSim T B r (Itr lo n) ((List.range n).map fun (i : Nat) => .int (lo + (i : Int))) [] where
  go := fun i _ _ _ _ hi => by
    rw [List.length_map, List.length_range] at hi
    exact hi
  stop := fun _ _ _ _ => by
    rw [List.length_map, List.length_range]
    exact Nat.le_refl _
  yld := fun {B2 _ _ _ _ _ _ _ _ _} i _ _ R _ y e => by
    obtain ⟨rfl, rfl⟩ := y
    rw [List.getElem?_map] at e
    cases g : (List.range n)[i]? with
    | none => rw [g] at e; cases e
    | some j =>
      rw [g] at e
      have hl := (List.getElem?_eq_some_iff.mp g).1
      rw [List.length_range] at hl
      rw [List.getElem?_range hl] at g
      cases g
      simp only [Option.map_some, Option.some.injEq] at e
      subst e
      exact ⟨B2, Ext.refl, R, .int _, Sub.refl _⟩
theorem sim_rngC {B : Hp} {r : List Addr} {lo c : Int} {n : Nat} {zs : List W} (hz : zs = (List.range n).map fun (i : Nat) => .int (lo + (i : Int) * c)) : ItSim T B r (Itc lo c n) zs [] where
  go := fun i _ _ _ _ hi => by
    rw [hz, List.length_map, List.length_range] at hi
    exact hi
  stop := fun _ _ _ _ => by
    rw [hz, List.length_map, List.length_range]
    exact Nat.le_refl _
  yld := fun {B2 _ _ _ _ _ _ _ _ _} i _ _ R _ y e => by
    obtain ⟨rfl, rfl⟩ := y
    rw [hz, List.getElem?_map] at e
    cases g : (List.range n)[i]? with
    | none => rw [g] at e; cases e
    | some j =>
      rw [g] at e
      have hl := (List.getElem?_eq_some_iff.mp g).1
      rw [List.length_range] at hl
      rw [List.getElem?_range hl] at g
      cases g
      simp only [Option.map_some, Option.some.injEq] at e
      subst e
      exact ⟨B2, Ext.refl, R, .int _, Sub.refl _⟩
theorem sim_rev {B : Hp} {r : List Addr} {a : Addr} {zs : List W} {ck : List (Nat × List W)} {n : Nat} (s : SrcAt T B r a zs ck) (hn : n = zs.length) : ItSim T B r (Itv T.K a n) zs.reverse ck where
  go := fun i h1 h2 R c hi => by
    obtain ⟨vs, d, l⟩ := s h1 h2 R.s c
    rw [List.length_reverse] at hi
    have hj : n - 1 - i < zs.length := by omega
    obtain ⟨v, g, _⟩ := l.get (List.getElem?_eq_getElem hj)
    exact ⟨by omega, vs, v, .inl d, g⟩
  stop := fun h1 h2 R c => by
    show n ≤ zs.reverse.length
    rw [List.length_reverse, hn]
    exact Nat.le_refl _
  yld := fun {B2 _ _ _ _ _ _ _ _ _} i h1 h2 R c y e => by
    obtain ⟨rfl, y⟩ := y
    obtain ⟨vs, d, l⟩ := s h1 h2 R.s c
    have hi := (List.getElem?_eq_some_iff.mp e).1
    rw [List.length_reverse] at hi
    rw [List.getElem?_reverse hi, ← hn] at e
    obtain ⟨v, g, rv⟩ := l.get e
    have := y vs (.inl d)
    rw [g] at this; cases this
    exact ⟨B2, Ext.refl, R, rv, Sub.refl _⟩
theorem enumL_len (zs : List W) : (enumL zs).length = zs.length := by
  unfold enumL
  rw [List.length_zipWith, List.length_range, Nat.min_self]
theorem enumL_get {zs : List W} {i : Nat} {z : W} (h : (enumL zs)[i]? = some z) : ∃ w, zs[i]? = some w ∧ z = .tup [.int (i : Nat), w] := by
  unfold enumL at h
  rw [List.getElem?_zipWith] at h
  cases g : zs[i]? with
  | none => rw [g] at h; cases q : (List.range zs.length)[i]? <;> rw [q] at h <;> cases h
  | some w =>
    have hl := (List.getElem?_eq_some_iff.mp g).1
    rw [List.getElem?_range hl, g] at h
    simp only [Option.some.injEq] at h
    exact ⟨w, rfl, h.symm⟩
theorem sim_enum {B : Hp} {r : List Addr} {a : Addr} {zs : List W} {ck : List (Nat × List W)} (s : SrcAt T B r a zs ck) : ItSim T B r (Ite T.K a) (enumL zs) ck where
  go := fun i h1 h2 R c hi => by
    obtain ⟨vs, d, l⟩ := s h1 h2 R.s c
    rw [enumL_len] at hi
    obtain ⟨v, g, _⟩ := l.get (List.getElem?_eq_getElem hi)
    exact ⟨vs, v, .inl d, g⟩
  stop := fun h1 h2 R c => by
    obtain ⟨vs, d, l⟩ := s h1 h2 R.s c
    exact ⟨vs, .inl d, by rw [enumL_len]; exact Nat.le_of_eq l.len⟩
  yld := fun {B2 r2 _ _ _ _ _ _ _ _} i h1 h2 R c y e => by
    obtain ⟨t, x, rfl, ht, rfl, y⟩ := y
    obtain ⟨vs, d, l⟩ := s h1 h2 R.s c
    obtain ⟨w, e1, rfl⟩ := enumL_get e
    obtain ⟨v, g, rv⟩ := l.get e1
    have := y vs (.inl d)
    rw [g] at this; cases this
    obtain ⟨B3, e3, R3, hb⟩ := R.new_frz (o := .tup [.int (i : Nat), x]) ht
    exact ⟨B3, e3, R3, .tup (.inl (.inl hb)) (.cons (.int _) (.cons (rv.mono e3.sub e3.pre) .nil)), Sub.new ht⟩
theorem sim_zip {B : Hp} {r : List Addr} {a b : Addr} {zs us : List W} {c1 c2 : List (Nat × List W)} (s : SrcAt T B r a zs c1) (t : SrcAt T B r b us c2) : ItSim T B r (Itz T.K a b) (zs.zipWith (fun x y => .tup [x, y]) us) (c1 ++ c2) where
  go := fun i h1 h2 R c hi => by
    obtain ⟨ca, cb⟩ := chk_app c
    obtain ⟨vs, d, l⟩ := s h1 h2 R.s ca
    obtain ⟨xs, d2, l2⟩ := t h1 h2 R.s cb
    rw [List.length_zipWith] at hi
    obtain ⟨v, g, _⟩ := l.get (i := i) (List.getElem?_eq_getElem (by omega))
    obtain ⟨x, g2, _⟩ := l2.get (i := i) (List.getElem?_eq_getElem (by omega))
    exact ⟨vs, xs, v, x, .inl d, .inl d2, g, g2⟩
  stop := fun h1 h2 R c => by
    obtain ⟨ca, cb⟩ := chk_app c
    obtain ⟨vs, d, l⟩ := s h1 h2 R.s ca
    obtain ⟨xs, d2, l2⟩ := t h1 h2 R.s cb
    refine ⟨vs, xs, .inl d, .inl d2, ?_⟩
    rw [List.length_zipWith, l.len, l2.len]
    omega
  yld := fun {B2 r2 _ _ _ _ _ _ _ _} i h1 h2 R c y e => by
    obtain ⟨ca, cb⟩ := chk_app c
    obtain ⟨q, x, x2, rfl, ht, rfl, y, y2⟩ := y
    obtain ⟨vs, d, l⟩ := s h1 h2 R.s ca
    obtain ⟨xs, d2, l2⟩ := t h1 h2 R.s cb
    rw [List.getElem?_zipWith] at e
    cases g : zs[i]? with
    | none => rw [g] at e; cases e
    | some z1 =>
      cases g2 : us[i]? with
      | none => rw [g, g2] at e; cases e
      | some z2 =>
        rw [g, g2] at e
        simp only [Option.some.injEq] at e
        subst e
        obtain ⟨v, k1, rv⟩ := l.get g
        obtain ⟨u, k2, ru⟩ := l2.get g2
        have i1 := y vs (.inl d)
        have i2 := y2 xs (.inl d2)
        rw [k1] at i1; cases i1
        rw [k2] at i2; cases i2
        obtain ⟨B3, e3, R3, hb⟩ := R.new_frz (o := .tup [x, x2]) ht
        exact ⟨B3, e3, R3, .tup (.inl (.inl hb)) (.cons (rv.mono e3.sub e3.pre) (.cons (ru.mono e3.sub e3.pre) .nil)), Sub.new ht⟩
noncomputable def SI (T : Tab) (xc : Nat → Value) (cs : Nat → List W → Sto → CR) (gl : List W) (Wx : WX) (it : It) (src : E) : TI := fun σ H Rr => ∃ B r P m en, Rel T B r P m en σ H ∧
  PostG T xc Wx P σ B r (evs cs gl src en m) fun ws en m B2 r2 H2 => ∃ zs ck, itemsR it m ws = some (zs, ck) ∧ ∀ J, ItSim T B2 r2 J zs ck → Rr J H2
theorem one_src {a : E} {it : It} {σ : Slo} {H : Hp} {Q : V → Hp → Prop} (h : ∃ B r P m en, Rel T B r P m en σ H ∧ PostG T xc Wx P σ B r (evs cs gl (.cons a .nil) en m) fun ws en m B2 r2 H2 => ∀ v w, ws = [w] → Rep T B2 r2 v w → Q v H2) : SE T xc cs gl Wx a σ H Q := by
  obtain ⟨B, r, P, m, en, R, g⟩ := h
  simp only [evs] at g
  refine SG.go R (g.bind fun x en1 m1 B1 r1 H1 e1 R1 h1 v hv => ?_)
  obtain ⟨w, en2, e, h2⟩ := h1.opt2
  obtain ⟨B2, e2, R2, hw⟩ := R1.esc hv e
  exact (PostG.mono e2 h2).fin R2 v w rfl hw
theorem pi_src (C : CxOk T xc S cs gl k N fb sc Wx X) {it : It} {a : E} {tg p : Expr} (hit : it = .list ∨ it = .tup ∨ it = .str) (ha : PE X p (SE T xc cs gl Wx a)) : PI X tg p (SI T xc cs gl Wx it (.cons a .nil)) := by
  have eK := C.eK
  rcases hit with rfl | rfl | rfl
  · refine (pi_list ha).imp fun σ H Rr z => one_src (it := .list) ?_
    obtain ⟨B, r, P, m, en, R, g⟩ := z
    refine ⟨B, r, P, m, en, R, g.imp fun ws en2 m2 B2 r2 H2 _ R2 z v w hw hv => ?_⟩
    obtain ⟨zs, ck, e, q⟩ := z
    subst hw
    obtain ⟨b, rfl, s⟩ := srcL_at (P := P) (H := H2) hv e
    rw [eK]
    refine ⟨b, rfl, ?_, q _ (sim_list s)⟩
    cases w with
    | lst us => cases hv with
      | lst d _ => exact ⟨_, .inl (R2.s.bh.rd d)⟩
    | ref i =>
      simp only [itemsR, listI, srcL] at e
      split at e
      · rename_i us g2
        cases hv with
        | ref d =>
          obtain ⟨a2, o, h1, h2, h3⟩ := R2.s.ob i _ g2
          rw [d] at h1; cases h1
          cases h3 with
          | lst l => exact ⟨_, .inl (.inl h2)⟩
      · cases e
    | _ => simp [itemsR, listI, srcL] at e
  · refine (pi_tup ha).imp fun σ H Rr z => one_src (it := .tup) ?_
    obtain ⟨B, r, P, m, en, R, g⟩ := z
    refine ⟨B, r, P, m, en, R, g.imp fun ws en2 m2 B2 r2 H2 _ R2 z v w hw hv => ?_⟩
    obtain ⟨zs, ck, e, q⟩ := z
    subst hw
    rw [eK]
    cases w with
    | tup us =>
      simp only [itemsR, tupI, Option.some.injEq, Prod.mk.injEq] at e
      obtain ⟨rfl, rfl⟩ := e
      cases hv with
      | tup d l => exact ⟨_, rfl, ⟨_, R2.s.bh.sqt d⟩, q _ (sim_tup d l)⟩
    | _ => simp [itemsR, tupI] at e
  · refine (pi_str ha).imp fun σ H Rr z => one_src (it := .str) ?_
    obtain ⟨B, r, P, m, en, R, g⟩ := z
    refine ⟨B, r, P, m, en, R, g.imp fun ws en2 m2 B2 r2 H2 _ R2 z v w hw hv => ?_⟩
    obtain ⟨zs, ck, e, q⟩ := z
    subst hw
    cases w with
    | str s =>
      simp only [itemsR, strI, Option.some.injEq, Prod.mk.injEq] at e
      obtain ⟨rfl, rfl⟩ := e
      cases hv
      exact ⟨s, rfl, q _ sim_str⟩
    | _ => simp [itemsR, strI] at e
theorem rng_ok {i : Int} (h : rngOk i = true) : -(2 ^ 62) ≤ i ∧ i < 2 ^ 62 := of_decide_eq_true h
theorem RepL.v1 {B : Hp} {r : List Addr} {vs : List V} {w : W} (h : RepL T B r vs [w]) : ∃ v, vs = [v] ∧ Rep T B r v w := by
  cases h with
  | cons h l => cases l; exact ⟨_, rfl, h⟩
theorem RepL.v2 {B : Hp} {r : List Addr} {vs : List V} {w u : W} (h : RepL T B r vs [w, u]) : ∃ v z, vs = [v, z] ∧ Rep T B r v w ∧ Rep T B r z u := by
  cases h with
  | cons h l =>
    obtain ⟨z, rfl, q⟩ := RepL.v1 l
    exact ⟨_, _, rfl, h, q⟩
theorem RepL.v3 {B : Hp} {r : List Addr} {vs : List V} {w u t : W} (h : RepL T B r vs [w, u, t]) : ∃ v z y, vs = [v, z, y] ∧ Rep T B r v w ∧ Rep T B r z u ∧ Rep T B r y t := by
  cases h with
  | cons h l =>
    obtain ⟨z, y, rfl, q, q2⟩ := RepL.v2 l
    exact ⟨_, _, _, rfl, h, q, q2⟩
theorem pi_rng1 (C : CxOk T xc S cs gl k N fb sc Wx X) {a : E} {tg q : Expr} {x : Str} {p pos : Pos} (hx : x = ("range" : Str)) (hg : glB sc x = true) (hn : noStar q = true) (ha : PA X [q] (SA T xc cs gl Wx a)) : PI X tg (.Call (.Name x p) [q] [] pos) (SI T xc cs gl Wx .rng1 a) := by
  subst hx
  refine (pi_range1 (gl_of C.es hg) (C.md.blt _ (by decide +kernel)) ha (star_of hn)).imp fun σ H Rr z => ?_
  obtain ⟨B, r, P, m, en, R, g⟩ := z
  refine ⟨B, r, P, m, en, R, g.imp fun ws en2 m2 B2 r2 H2 _ R2 z vs hvs => ?_⟩
  obtain ⟨zs, ck, e, q⟩ := z
  simp only [itemsR] at e
  unfold rng1I at e
  split at e
  · split at e
    · rename_i c
      cases e
      obtain ⟨v, rfl, h⟩ := hvs.v1
      cases h
      exact ⟨_, rfl, (rng_ok c).1, (rng_ok c).2, q _ sim_rng⟩
    · cases e
  · cases e
theorem pi_rng2 (C : CxOk T xc S cs gl k N fb sc Wx X) {a : E} {tg q q2 : Expr} {x : Str} {p pos : Pos} (hx : x = ("range" : Str)) (hg : glB sc x = true) (hn : noStar q = true) (hn2 : noStar q2 = true) (ha : PA X [q, q2] (SA T xc cs gl Wx a)) : PI X tg (.Call (.Name x p) [q, q2] [] pos) (SI T xc cs gl Wx .rng2 a) := by
  subst hx
  have s2 : starEach [q2] X.env = [(false, eval q2 X.env)] := star_of hn2
  refine (pi_range2A (gl_of C.es hg) (C.md.blt _ (by decide +kernel)) ha (by rw [star_of hn, s2]) s2).imp fun σ H Rr z => ?_
  obtain ⟨B, r, P, m, en, R, g⟩ := z
  refine ⟨B, r, P, m, en, R, g.imp fun ws en2 m2 B2 r2 H2 _ R2 z vs hvs => ?_⟩
  obtain ⟨zs, ck, e, q⟩ := z
  simp only [itemsR] at e
  unfold rng2I at e
  split at e
  · cases e
    obtain ⟨v, u, rfl, h, h2⟩ := hvs.v2
    cases h; cases h2
    exact ⟨_, _, rfl, q _ sim_rng⟩
  · cases e
theorem pi_rng3 (C : CxOk T xc S cs gl k N fb sc Wx X) {a : E} {tg q q2 q3 : Expr} {x : Str} {p pos : Pos} (hx : x = ("range" : Str)) (hg : glB sc x = true) (hn : noStar q = true) (hn2 : noStar q2 = true) (hn3 : noStar q3 = true) (ha : PA X [q, q2, q3] (SA T xc cs gl Wx a)) :
    PI X tg (.Call (.Name x p) [q, q2, q3] [] pos) (SI T xc cs gl Wx .rng3 a) := by
  subst hx
  have nb : (backTo pos (starEach [q2, q3] X.env)).any (·.1) = false := back_no fun r hr => by
    rcases List.mem_cons.mp hr with e | e
    · rw [e]; exact hn2
    · rw [List.mem_singleton.mp e]; exact hn3
  refine (pi_range3 (gl_of C.es hg) (C.md.blt _ (by decide +kernel)) ha (star_of hn) nb).imp fun σ H Rr z => ?_
  obtain ⟨B, r, P, m, en, R, g⟩ := z
  refine ⟨B, r, P, m, en, R, g.imp fun ws en2 m2 B2 r2 H2 _ R2 z vs hvs => ?_⟩
  obtain ⟨zs, ck, e, q⟩ := z
  simp only [itemsR] at e
  unfold rng3I at e
  split at e
  · split at e
    · rename_i c
      cases e
      obtain ⟨v, u, t, rfl, h, h2, h3⟩ := hvs.v3
      cases h; cases h2; cases h3
      obtain ⟨c1, c2, c3⟩ := c
      subst c1
      exact ⟨_, _, _, _, rfl, RgC.neg (rng_ok c2).1 (rng_ok c2).2 (rng_ok c3).1 (rng_ok c3).2, q _ (sim_rngC rfl)⟩
    · cases e
  · cases e
theorem pi_enumS (C : CxOk T xc S cs gl k N fb sc Wx X) {a : E} {tg q : Expr} {x : Str} {p pos : Pos} (htg : isTup tg = true) (hx : x = ("enumerate" : Str)) (hg : glB sc x = true) (hn : noStar q = true) (ha : PA X [q] (SA T xc cs gl Wx a)) : PI X tg (.Call (.Name x p) [q] [] pos) (SI T xc cs gl Wx .enum a) := by
  subst hx
  cases tg with
  | Tuple es n tp =>
    refine (pi_enum (gl_of C.es hg) (C.md.blt _ (by decide +kernel)) ha (star_of hn)).imp fun σ H Rr z => ?_
    obtain ⟨B, r, P, m, en, R, g⟩ := z
    refine ⟨B, r, P, m, en, R, g.imp fun ws en2 m2 B2 r2 H2 _ R2 z vs hvs => ?_⟩
    obtain ⟨zs, ck, e, q⟩ := z
    simp only [itemsR] at e
    unfold enumI at e
    split at e
    · rename_i w
      split at e
      · rename_i us c g2
        cases e
        obtain ⟨v, rfl, h⟩ := hvs.v1
        obtain ⟨b, rfl, s⟩ := srcL_at (P := P) (H := H2) h g2
        rw [C.eK]
        obtain ⟨xs, d, _⟩ := s (Sub.refl _) (List.prefix_refl _) R2.s (srcL_chk g2)
        exact ⟨b, xs, rfl, .inl d, q _ (sim_enum s)⟩
      · cases e
    · cases e
  | _ => cases htg
theorem pi_revS (C : CxOk T xc S cs gl k N fb sc Wx X) {a : E} {tg q : Expr} {x : Str} {p pos : Pos} (hx : x = ("reversed" : Str)) (hg : glB sc x = true) (hn : noStar q = true) (ha : PA X [q] (SA T xc cs gl Wx a)) : PI X tg (.Call (.Name x p) [q] [] pos) (SI T xc cs gl Wx .rev a) := by
  subst hx
  refine (pi_reversed (gl_of C.es hg) (C.md.blt _ (by decide +kernel)) ha (star_of hn)).imp fun σ H Rr z => ?_
  obtain ⟨B, r, P, m, en, R, g⟩ := z
  refine ⟨B, r, P, m, en, R, g.imp fun ws en2 m2 B2 r2 H2 _ R2 z vs hvs => ?_⟩
  obtain ⟨zs, ck, e, q⟩ := z
  simp only [itemsR] at e
  unfold revI at e
  split at e
  · rename_i w
    split at e
    · rename_i us c g2
      cases e
      obtain ⟨v, rfl, h⟩ := hvs.v1
      obtain ⟨b, rfl, s⟩ := srcL_at (P := P) (H := H2) h g2
      rw [C.eK]
      obtain ⟨xs, d, l⟩ := s (Sub.refl _) (List.prefix_refl _) R2.s (srcL_chk g2)
      exact ⟨b, xs, rfl, .inl d, q _ (sim_rev s l.len)⟩
    · cases e
  · cases e
theorem pi_zipS (C : CxOk T xc S cs gl k N fb sc Wx X) {a : E} {tg q q2 : Expr} {x : Str} {p pos : Pos} (htg : isTup tg = true) (hx : x = ("zip" : Str)) (hg : glB sc x = true) (hn : noStar q = true) (hn2 : noStar q2 = true) (ha : PA X [q, q2] (SA T xc cs gl Wx a)) :
    PI X tg (.Call (.Name x p) [q, q2] [] pos) (SI T xc cs gl Wx .zip a) := by
  subst hx
  cases tg with
  | Tuple es n tp =>
    have nb : (backTo pos (starEach [q2] X.env)).any (·.1) = false := back_no fun r hr => by rw [List.mem_singleton.mp hr]; exact hn2
    refine (pi_zip (gl_of C.es hg) (C.md.blt _ (by decide +kernel)) ha (star_of hn) nb).imp fun σ H Rr z => ?_
    obtain ⟨B, r, P, m, en, R, g⟩ := z
    refine ⟨B, r, P, m, en, R, g.imp fun ws en2 m2 B2 r2 H2 _ R2 z vs hvs => ?_⟩
    obtain ⟨zs, ck, e, q⟩ := z
    simp only [itemsR] at e
    unfold zipI at e
    split at e
    · split at e
      · rename_i us c us2 c2 g1 g2
        cases e
        obtain ⟨v, u, rfl, h, h2⟩ := hvs.v2
        obtain ⟨b, rfl, s⟩ := srcL_at (P := P) (H := H2) h g1
        obtain ⟨b2, rfl, s2⟩ := srcL_at (P := P) (H := H2) h2 g2
        rw [C.eK]
        obtain ⟨xs, d, l⟩ := s (Sub.refl _) (List.prefix_refl _) R2.s (srcL_chk g1)
        obtain ⟨xs2, d2, l2⟩ := s2 (Sub.refl _) (List.prefix_refl _) R2.s (srcL_chk g2)
        exact ⟨b, b2, xs, xs2, rfl, .inl d, .inl d2, q _ (sim_zip s s2)⟩
      · cases e
    · cases e
  | _ => cases htg
theorem pi_revrngS (C : CxOk T xc S cs gl k N fb sc Wx X) {a : E} {tg q : Expr} {x y : Str} {p p2 pos pos2 : Pos} (hx : x = ("reversed" : Str)) (hg : glB sc x = true) (hy : y = ("range" : Str)) (hg2 : glB sc y = true) (hn : noStar q = true) (ha : PE X q (SE T xc cs gl Wx a)) :
    PI X tg (.Call (.Name x p) [.Call (.Name y p2) [q] [] pos2] [] pos) (SI T xc cs gl Wx .revrng (.cons a .nil)) := by
  subst hx hy
  refine (pi_revR (gl_of C.es hg) (C.md.blt _ (by decide +kernel)) (prg_1 (gl_of C.es hg2) (C.md.blt _ (by decide +kernel)) ha (star_of hn)) rfl).imp fun σ H Rr z => one_src (it := .list) ?_
  obtain ⟨B, r, P, m, en, R, g⟩ := z
  refine ⟨B, r, P, m, en, R, g.imp fun ws en2 m2 B2 r2 H2 _ R2 z v w hw hv => ?_⟩
  obtain ⟨zs, ck, e, q⟩ := z
  subst hw
  simp only [itemsR] at e
  unfold revrngI at e
  split at e
  · rename_i n h
    split at e
    · rename_i c
      cases e
      cases h
      cases hv
      have c := rng_ok c
      refine ⟨n, rfl, by decide, by decide, c.1, c.2, q _ (sim_rngC ?_)⟩
      have e0 : (n - 0).toNat = n.toNat := by omega
      rw [e0]
      apply List.map_congr_left
      intro i hi
      rw [List.mem_range] at hi
      have e1 : (0 : Int) + ((n.toNat : Nat) : Int) - 1 = n - 1 := by omega
      rw [e1]
    · cases e
  · cases e
theorem RepK.getV {κ : Type} {B : Hp} {r : List Addr} : ∀ {vs : List (κ × V)} {ws : List (κ × W)} {i : Nat} {k : κ} {v : V}, RepK T B r vs ws → vs[i]? = some (k, v) → ∃ w, ws[i]? = some (k, w)
  | _, _, _, _, _, .nil, e => by simp at e
  | _, _, 0, _, _, .cons h _, e => by
    rw [List.getElem?_cons_zero] at e; cases e
    exact ⟨_, rfl⟩
  | _, _, i + 1, _, _, .cons _ l, e => by
    rw [List.getElem?_cons_succ] at e
    obtain ⟨w, h1⟩ := RepK.getV l e
    exact ⟨w, by rw [List.getElem?_cons_succ]; exact h1⟩
theorem RepK.lenK {κ : Type} {B : Hp} {r : List Addr} : ∀ {vs : List (κ × V)} {ws : List (κ × W)}, RepK T B r vs ws → vs.length = ws.length
  | _, _, .nil => rfl
  | _, _, .cons _ l => by rw [List.length_cons, List.length_cons, RepK.lenK l]
theorem sim_keys {B : Hp} {r : List Addr} {d : Addr} {o : PySem.Obj} {vs : List (Key × V)} {kvs : List (Key × W)} (h : B d = some (.frz o (.dK vs))) (l : RepK T B r vs kvs) : ItSim T B r (Itk d o vs) (kvs.map fun q => keyToW q.1) [] where
  go := fun i h1 h2 R c hi => ⟨R.s.bh d _ (h1 d _ h), by rw [List.length_map] at hi; rw [l.lenK]; exact hi⟩
  stop := fun h1 h2 R c => ⟨R.s.bh d _ (h1 d _ h), by rw [List.length_map, l.lenK]; exact Nat.le_refl _⟩
  yld := fun {B2 _ _ _ _ _ _ _ _ _} i h1 h2 R c y e => by
    obtain ⟨rfl, k, v, g, rfl⟩ := y
    obtain ⟨w, g2⟩ := l.getV g
    rw [List.getElem?_map, g2] at e
    simp only [Option.map_some, Option.some.injEq] at e
    subst e
    refine ⟨B2, Ext.refl, R, ?_, Sub.refl _⟩
    cases k with
    | inl i => exact .int i
    | inr s => exact .str s
theorem pi_keysS {a : E} {tg q : Expr} (ha : PE X q (SE T xc cs gl Wx a)) : PI X tg q (SI T xc cs gl Wx .keys (.cons a .nil)) := by
  refine (pi_keys ha).imp fun σ H Rr z => one_src (it := .keys) ?_
  obtain ⟨B, r, P, m, en, R, g⟩ := z
  refine ⟨B, r, P, m, en, R, g.imp fun ws en2 m2 B2 r2 H2 _ R2 z v w hw hv => ?_⟩
  obtain ⟨zs, ck, e, q⟩ := z
  subst hw
  simp only [itemsR] at e
  unfold keysI at e
  split at e
  · rename_i i h0
    cases h0
    split at e
    · rename_i kvs g
      simp only [Option.some.injEq, Prod.mk.injEq] at e
      obtain ⟨rfl, rfl⟩ := e
      cases hv with
      | ref d =>
        obtain ⟨a2, o2, e1, e2, e3⟩ := R2.s.ob i _ g
        rw [d] at e1; cases e1
        obtain ⟨o, vs, lb⟩ := R2.s.lkb i _ _ g d
        rw [R2.s.bh _ _ lb] at e2; cases e2
        cases e3 with
        | lk l => exact ⟨_, _, rfl, .inl ⟨vs, R2.s.bh _ _ lb, q _ (sim_keys lb l)⟩⟩
    · cases e
  · cases e
end
end Mp
set_option Elab.async false
set_option linter.all false
set_option maxRecDepth 100000
set_option maxHeartbeats 4000000
namespace Mp
open PySem PySem.Spec PyProof.Rows L2
/-! ### targets -/
noncomputable def setN : List Nat → List V → Slo → Slo
  | j :: js, v :: vs, σ => setN js vs (σ.set j (some v))
  | _, _, σ => σ
noncomputable def tgJs : Tg → List Nat
  | .one j => [j]
  | .many js => js
  | .manyL js => js
section
variable {T : Tab} {xc : Nat → Value} {S : Sta} {cs : Nat → List W → Sto → CR} {gl : List W} {k : Nat} {N : List Str} {fb : Str → Bool} {sc : Scope} {Wx : WX} {X : Cx}
theorem Rel.bindN {B P H : Hp} {r : List Addr} {m : Sto} : ∀ {js : List Nat} {ws : List W} {vs : List V} {en en2 : En} {σ : Slo}, Rel T B r P m en σ H → RepL T B r vs ws → Mp.bindN js ws en = some en2 → Rel T B r P m en2 (setN js vs σ) H ∧ vs.length = js.length
  | [], [], _, _, _, _, R, l, e => by
    cases l
    simp only [Mp.bindN, Option.some.injEq] at e; subst e
    exact ⟨R, rfl⟩
  | j :: js, w :: ws, _, _, _, _, R, l, e => by
    cases l with
    | cons h l =>
      simp only [Mp.bindN] at e
      obtain ⟨h1, h2⟩ := Rel.bindN (R.set_val h) l e
      exact ⟨h1, by rw [List.length_cons, List.length_cons, h2]⟩
  | [], _ :: _, _, _, _, _, _, _, e => by simp [Mp.bindN] at e
  | _ :: _, [], _, _, _, _, _, _, e => by simp [Mp.bindN] at e
noncomputable def STg (T : Tab) (tg : Tg) : TG := fun v σ H Q => ∃ B r P m en w en2, Rel T B r P m en σ H ∧ Rep T B r v w ∧ bindT tg w m en = some en2 ∧
  ∀ us, Rel T B r P m en2 (setN (tgJs tg) us σ) H → Q (setN (tgJs tg) us σ) H
theorem PG_imp {X : Cx} {e : Expr} {t u : TG} (h : PG X e t) (q : ∀ v σ H Q, u v σ H Q → t v σ H Q) : PG X e u := ⟨fun pins s σ H v x Q I r z => h.run pins s σ H v x Q I r (q v σ H Q z)⟩
noncomputable def SGs (js : List Nat) : TGs := fun vs σ H Q => vs.length = js.length ∧ Q (setN js vs σ) H
theorem pgs_names (C : CxOk T xc S cs gl k N fb sc Wx X) : ∀ {js : List Nat} {es : List Expr}, tgNames N js es fb sc = true → PGs X es (SGs js) ∧ (assignEach es X.env).length = js.length ∧ (assignEach es X.env).findIdx? (·.1) = none
  | [], [], _ => ⟨⟨fun pins s σ H vs us Q I r h => pgs_nil.run pins s σ H vs us Q I r ⟨List.length_eq_zero_iff.mp h.1, by
      have := List.length_eq_zero_iff.mp h.1
      subst this
      exact h.2⟩⟩, rfl, rfl⟩
  | [], _ :: _, h => by simp [tgNames] at h
  | j :: js, [], h => by simp [tgNames] at h
  | j :: js, e :: es, h => by
    cases e with
    | Name x p =>
      simp only [tgNames, Bool.and_eq_true] at h
      obtain ⟨⟨h1, h2⟩, h3⟩ := h
      obtain ⟨g1, g2, g3⟩ := pgs_names C h3
      obtain ⟨l1, l2⟩ := loc_of h2
      have G : PG X (.Name x p) (gName j) := pg_name (by rw [C.eN]; exact C.nd) (C.name h1) (by rw [C.es]; exact l1) (by rw [C.ef, C.es]; exact l2)
      refine ⟨⟨fun pins s σ H vs us Q I r z => (pgs_cons G g1 rfl).run pins s σ H vs us Q I r ?_⟩, ?_, ?_⟩
      · obtain ⟨z1, z2⟩ := z
        cases vs with
        | nil => simp at z1
        | cons v vs => exact ⟨v, vs, rfl, by simpa using z1, z2⟩
      · show (assignEach es X.env).length + 1 = js.length + 1
        rw [g2]
      · show ((false, assign (.Name x p) X.env) :: assignEach es X.env).findIdx? (·.1) = none
        rw [List.findIdx?_cons, g3]; rfl
    | _ => simp [tgNames] at h
theorem pg_tg (C : CxOk T xc S cs gl k N fb sc Wx X) (hcB : S.cB = true) {tg : Tg} {p : Expr} (h : okT N fb sc tg p = true) : PG X p (STg T tg) := by
  unfold okT at h
  split at h
  · rename_i j x pos
    rw [Bool.and_eq_true] at h
    obtain ⟨l1, l2⟩ := loc_of h.2
    refine PG_imp (pg_name (by rw [C.eN]; exact C.nd) (C.name h.1) (by rw [C.es]; exact l1) (by rw [C.ef, C.es]; exact l2)) fun v σ H Q z => ?_
    obtain ⟨B, r, P, m, en, w, en2, R, hv, e, q⟩ := z
    simp only [bindT, Option.some.injEq] at e
    subst e
    exact q [v] (R.set_val hv)
  · rename_i js es n pos
    obtain ⟨g1, g2, g3⟩ := pgs_names C h
    refine PG_imp (pg_tup (C.calm hcB) g1 g2 g3) fun v σ H Q z => ?_
    obtain ⟨B, r, P, m, en, w, en2, R, hv, e, q⟩ := z
    cases w with
    | tup ws =>
      simp only [bindT] at e
      cases hv with
      | tup d l =>
        obtain ⟨R2, hl⟩ := R.bindN l e
        rw [C.eK]
        exact ⟨_, _, rfl, R.s.bh.sqt d, hl, hl, q _ R2⟩
    | _ => simp [bindT] at e
  · rename_i js es n pos
    obtain ⟨g1, g2, g3⟩ := pgs_names C h
    refine PG_imp (pg_lst (C.calm hcB) g1 g2 g3) fun v σ H Q z => ?_
    obtain ⟨B, r, P, m, en, w, en2, R, hv, e, q⟩ := z
    simp only [bindT] at e
    split at e
    · rename_i ws g
      obtain ⟨a, vs, rfl, d, l⟩ := RepT.lst R.s (.inl hv) g
      obtain ⟨R2, hl⟩ := R.bindN l e
      rw [C.eK]
      exact ⟨a, vs, rfl, .inl d, hl, hl, q _ R2⟩
    · cases e
  · cases h
/-! ### names forgotten and found again -/
theorem Rel.set_none {B P H : Hp} {r : List Addr} {m : Sto} {en : En} {σ : Slo} {j : Nat} (R : Rel T B r P m en σ H) : Rel T B r P m (en.set j none) (σ.set j none) H := by
  have get : ∀ (i : Nat) (s : Sl), (en.set j none)[i]? = some (some s) → j ≠ i ∧ en[i]? = some (some s) := fun i s hi => by
    by_cases c : j = i
    · subst c
      by_cases hl : j < en.length
      · rw [List.getElem?_set_self hl] at hi; cases hi
      · rw [List.getElem?_eq_none (by rw [List.length_set]; omega)] at hi; cases hi
    · rw [List.getElem?_set_ne c] at hi; exact ⟨c, hi⟩
  refine ⟨R.s, by rw [List.length_set, List.length_set]; exact R.e.len, fun i s hi => ?_, fun i l xs ys q e1 e2 e3 e4 => ?_⟩
  · obtain ⟨c, hi⟩ := get i s hi
    rw [List.getElem?_set_ne c]
    exact R.e.sl i s hi
  · obtain ⟨c1, e1⟩ := get i _ e1
    obtain ⟨c2, e2⟩ := get l _ e2
    rw [List.getElem?_set_ne c1] at e3
    rw [List.getElem?_set_ne c2] at e4
    exact R.e.dis i l xs ys q e1 e2 e3 e4
theorem Rel.wipe {B P H : Hp} {r : List Addr} {m : Sto} {en : En} {σ : Slo} (R : Rel T B r P m en σ H) : ∀ js : List Nat, Rel T B r P m (wipeE en js) (L2.wipe σ js) H
  | [] => R
  | j :: js => (R.wipe js).set_none
theorem wipe_get (σ : Slo) (i : Nat) : ∀ js : List Nat, (L2.wipe σ js)[i]? = if i ∈ js ∧ i < σ.length then some none else σ[i]?
  | [] => by simp [L2.wipe]
  | j :: js => by
    unfold L2.wipe
    have ih := wipe_get σ i js
    have hl : (L2.wipe σ js).length = σ.length := wipe_length σ js
    by_cases c : j = i
    · subst c
      by_cases h : j < σ.length
      · rw [List.getElem?_set_self (by rw [hl]; exact h), if_pos ⟨List.mem_cons_self, h⟩]
      · rw [List.getElem?_eq_none (by rw [List.length_set, hl]; omega), if_neg (fun z => h z.2), List.getElem?_eq_none (by omega)]
    · rw [List.getElem?_set_ne c, ih]
      by_cases h : i ∈ js ∧ i < σ.length
      · rw [if_pos h, if_pos ⟨List.mem_cons_of_mem _ h.1, h.2⟩]
      · rw [if_neg h, if_neg fun z => h ⟨(List.mem_cons.mp z.1).resolve_left (fun e => c e.symm), z.2⟩]
theorem setN_len (js : List Nat) : ∀ (vs : List V) (σ : Slo), (setN js vs σ).length = σ.length := by
  induction js with
  | nil => intro vs σ; rfl
  | cons j js ih =>
    intro vs σ
    cases vs with
    | nil => rfl
    | cons v vs =>
      show (setN js vs (σ.set j (some v))).length = _
      rw [ih, List.length_set]
theorem setN_get (js : List Nat) : ∀ (vs : List V) (σ : Slo) (i : Nat), i ∉ js → (setN js vs σ)[i]? = σ[i]? := by
  induction js with
  | nil => intro vs σ i _; rfl
  | cons j js ih =>
    intro vs σ i hi
    cases vs with
    | nil => rfl
    | cons v vs =>
      show (setN js vs (σ.set j (some v)))[i]? = _
      rw [ih _ _ _ fun z => hi (List.mem_cons_of_mem _ z), List.getElem?_set_ne fun e => hi (by rw [← e]; exact List.mem_cons_self)]
theorem wipe_setN (js : List Nat) (vs : List V) (σ : Slo) : L2.wipe (setN js vs (L2.wipe σ js)) js = L2.wipe σ js := by
  apply List.ext_getElem?
  intro i
  rw [wipe_get, wipe_get, setN_len, wipe_length]
  by_cases h : i ∈ js
  · by_cases h2 : i < σ.length
    · rw [if_pos ⟨h, h2⟩, if_pos ⟨h, h2⟩]
    · rw [if_neg fun z => h2 z.2, if_neg fun z => h2 z.2, List.getElem?_eq_none (by rw [setN_len, wipe_length]; omega), List.getElem?_eq_none (by omega)]
  · rw [if_neg fun z => h z.1, if_neg fun z => h z.1, setN_get _ _ _ _ h, wipe_get, if_neg fun z => h z.1]
theorem Rel.frzs {B P H : Hp} {r : List Addr} {m : Sto} {en : En} {σ : Slo} (R : Rel T B r P m en σ H) : ∀ js : List Nat, ∃ B2, Ext P B r B2 r ∧ Rel T B2 r P m (frzE en js) σ H
  | [] => ⟨B, Ext.refl, R⟩
  | j :: js => by
    obtain ⟨B2, e, R2⟩ := R.frzs js
    unfold frzE
    split
    · rename_i ws g
      obtain ⟨v, h1, h2⟩ := R2.e.sl j _ (enGet_some g)
      obtain ⟨B3, e3, R3, _⟩ := R2.frz_slot (enGet_some g) h1
      exact ⟨B3, e.trans e3, R3⟩
    · exact ⟨B2, e, R2⟩
theorem frzE_val (en : En) {i : Nat} {ws : List W} : ∀ js : List Nat, i ∈ js → (frzE en js)[i]? ≠ some (some (.own ws))
  | [], h => by cases h
  | j :: js, h => by
    unfold frzE
    by_cases c : i ∈ js
    · have ih := frzE_val en (ws := ws) js c
      split
      · rename_i us g
        by_cases cj : j = i
        · subst cj
          by_cases hl : j < (frzE en js).length
          · rw [List.getElem?_set_self hl]; intro z; cases z
          · rw [List.getElem?_eq_none (by rw [List.length_set]; omega)]; intro z; cases z
        · rw [List.getElem?_set_ne cj]; exact ih
      · exact ih
    · have e : i = j := (List.mem_cons.mp h).resolve_right c
      subst e
      split
      · rename_i us g
        by_cases hl : i < (frzE en js).length
        · rw [List.getElem?_set_self hl]; intro z; cases z
        · rw [List.getElem?_eq_none (by rw [List.length_set]; omega)]; intro z; cases z
      · rename_i g
        intro z
        exact g ws (enGet_of z)
theorem restE_len (a b : En) : ∀ js : List Nat, (restE a b js).length = b.length
  | [] => rfl
  | j :: js => by unfold restE; rw [List.length_set, restE_len a b js]
theorem restE_get (a b : En) (i : Nat) : ∀ js : List Nat, (restE a b js)[i]? = if i ∈ js ∧ i < b.length then some (enGet a i) else b[i]?
  | [] => by simp [restE]
  | j :: js => by
    unfold restE
    have ih := restE_get a b i js
    by_cases c : j = i
    · subst c
      by_cases h : j < b.length
      · rw [List.getElem?_set_self (by rw [restE_len]; exact h), if_pos ⟨List.mem_cons_self, h⟩]
      · rw [List.getElem?_eq_none (by rw [List.length_set, restE_len]; omega), if_neg (fun z => h z.2), List.getElem?_eq_none (by omega)]
    · rw [List.getElem?_set_ne c, ih]
      by_cases h : i ∈ js ∧ i < b.length
      · rw [if_pos h, if_pos ⟨List.mem_cons_of_mem _ h.1, h.2⟩]
      · rw [if_neg h, if_neg fun z => h ⟨(List.mem_cons.mp z.1).resolve_left (fun e => c e.symm), z.2⟩]
theorem Rel.rest {B B2 P H H2 : Hp} {r r2 : List Addr} {m m2 : Sto} {en en2 : En} {σ : Slo} {js : List Nat} (R : Rel T B r P m (frzE en js) σ H) (e : Ext P B r B2 r2) (R2 : Rel T B2 r2 P m2 en2 (L2.wipe σ js) H2) : Rel T B2 r2 P m2 (restE (frzE en js) en2 js) σ H2 := by
  have l2 : en2.length = σ.length := by rw [R2.e.len, wipe_length]
  have get : ∀ (i : Nat) (s : Sl), (restE (frzE en js) en2 js)[i]? = some (some s) → (i ∈ js ∧ (frzE en js)[i]? = some (some s)) ∨ (i ∉ js ∧ en2[i]? = some (some s) ∧ σ[i]? = (L2.wipe σ js)[i]?) := fun i s hi => by
    rw [restE_get] at hi
    by_cases c : i ∈ js
    · by_cases h : i < en2.length
      · rw [if_pos ⟨c, h⟩] at hi
        simp only [Option.some.injEq] at hi
        exact .inl ⟨c, enGet_some hi⟩
      · rw [if_neg fun z => h z.2, List.getElem?_eq_none (by omega)] at hi; cases hi
    · rw [if_neg fun z => c z.1] at hi
      exact .inr ⟨c, hi, by rw [wipe_get, if_neg fun z => c z.1]⟩
  refine ⟨R2.s, by rw [restE_len]; exact l2, fun i s hi => ?_, fun i l xs ys q e1 e2 e3 e4 => ?_⟩
  · rcases get i s hi with ⟨c, h⟩ | ⟨c, h, hσ⟩
    · obtain ⟨v, h1, h2⟩ := R.e.sl i s h
      refine ⟨v, h1, ?_⟩
      cases s with
      | val w => exact Rep.mono e.sub e.pre h2
      | own ws => exact absurd h (frzE_val en js c)
    · rw [hσ]; exact R2.e.sl i s h
  · rcases get i _ e1 with ⟨c, h⟩ | ⟨c, h, hσ⟩
    · exact absurd h (frzE_val en js c)
    · rcases get l _ e2 with ⟨c2, h2⟩ | ⟨c2, h2, hσ2⟩
      · exact absurd h2 (frzE_val en js c2)
      · rw [hσ] at e3
        rw [hσ2] at e4
        exact R2.e.dis i l xs ys q h h2 e3 e4
theorem Rel.weak {B P P2 H : Hp} {r : List Addr} {m : Sto} {en : En} {σ : Slo} (s : Sub P P2) (R : Rel T B r P2 m en σ H) : Rel T B r P m en σ H := by
  refine ⟨⟨R.s.bh, s.trans R.s.ph, R.s.nd, R.s.len, fun a ha => ⟨(R.s.fr a ha).1, s.none (R.s.fr a ha).2⟩, R.s.ob, R.s.lkb⟩, R.e.len, fun i sl hi => ?_, R.e.dis⟩
  obtain ⟨v, h1, h2⟩ := R.e.sl i sl hi
  refine ⟨v, h1, ?_⟩
  cases sl with
  | val w => exact h2
  | own ws =>
    obtain ⟨p, rfl, o⟩ := h2
    exact ⟨p, rfl, o.at_, o.nb, s.none o.np, o.nr⟩
theorem Ext.weak {B B2 P P2 : Hp} {r r2 : List Addr} (s : Sub P P2) (e : Ext P2 B r B2 r2) : Ext P B r B2 r2 := ⟨e.sub, e.pre, fun a h => e.fix a fun z => h (s.none z)⟩
theorem Rel.prot {B P H : Hp} {r : List Addr} {m : Sto} {en : En} {σ : Slo} {D : Addr} {o : HO} (R : Rel T B r P m en σ H) (hH : H D = none) : Rel T B r (upd P D o) m en σ (upd H D o) := by
  have R2 := R.grow (Sub.new (o := o) hH)
  have hr := R.no_sto hH
  have ne : ∀ {a : Addr}, a ∈ r → a ≠ D := fun ha e => hr (e ▸ ha)
  refine ⟨⟨R2.s.bh, fun a u h => ?_, R2.s.nd, R2.s.len, fun a ha => ⟨(R2.s.fr a ha).1, by rw [upd_ne (ne ha)]; exact (R2.s.fr a ha).2⟩, R2.s.ob, R2.s.lkb⟩, R2.e.len, fun i sl hi => ?_, R2.e.dis⟩
  · by_cases c : a = D
    · rw [c, upd_same] at h; cases h; rw [c]; exact upd_same
    · rw [upd_ne c] at h; exact R2.s.ph a u h
  · obtain ⟨v, h1, h2⟩ := R2.e.sl i sl hi
    refine ⟨v, h1, ?_⟩
    cases sl with
    | val w => exact h2
    | own ws =>
      obtain ⟨p, rfl, q⟩ := h2
      have c : p ≠ D := fun e => by
        subst e
        obtain ⟨p2, e2, o2⟩ := R.e.own_at hi
        rw [h1] at e2; cases e2
        obtain ⟨vs, b1, _⟩ := o2.at_
        rw [hH] at b1; cases b1
      exact ⟨p, rfl, q.at_, q.nb, by rw [upd_ne c]; exact q.np, q.nr⟩
theorem Rel.reprot {B P H : Hp} {r : List Addr} {m : Sto} {en : En} {σ : Slo} {D : Addr} {o u : HO} (R : Rel T B r (upd P D o) m en σ H) (hB : B D = none) : Rel T B r (upd P D u) m en σ (upd H D u) := by
  have hr : D ∉ r := fun z => by
    have := (R.s.fr D z).2
    rw [upd_same] at this; cases this
  have ne : ∀ {a : Addr}, a ∈ r → a ≠ D := fun ha e => hr (e ▸ ha)
  refine ⟨⟨sub_upd R.s.bh hB, fun a q h => ?_, R.s.nd, R.s.len, fun a ha => ⟨(R.s.fr a ha).1, ?_⟩, fun i b h => ?_, R.s.lkb⟩, R.e.len, fun i sl hi => ?_, R.e.dis⟩
  · by_cases c : a = D
    · rw [c, upd_same] at h; cases h; rw [c]; exact upd_same
    · rw [upd_ne c] at h ⊢
      exact R.s.ph a q (by rw [upd_ne c]; exact h)
  · have := (R.s.fr a ha).2
    rw [upd_ne (ne ha)] at this ⊢
    exact this
  · obtain ⟨a, q, h1, h2, h3⟩ := R.s.ob i b h
    exact ⟨a, q, h1, by rw [upd_ne (ne (List.mem_of_getElem? h1))]; exact h2, h3⟩
  · obtain ⟨v, h1, h2⟩ := R.e.sl i sl hi
    refine ⟨v, h1, ?_⟩
    cases sl with
    | val w => exact h2
    | own ws =>
      obtain ⟨p, rfl, q⟩ := h2
      have c : p ≠ D := fun e => by
        have := q.np
        rw [e, upd_same] at this; cases this
      obtain ⟨⟨vs, b1, b2⟩, b3, b4, b5⟩ := q
      rw [upd_ne c] at b4
      exact ⟨p, rfl, ⟨vs, by rw [upd_ne c]; exact b1, b2⟩, b3, by rw [upd_ne c]; exact b4, b5⟩
end
/-! ### results that are known -/
theorem bind_ok {A C : Type} {x : R A} {f : A → En → Sto → R C} {c : C} {en : En} {m : Sto} (h : x.bind f = .ok c en m) : ∃ a en1 m1, x = .ok a en1 m1 ∧ f a en1 m1 = .ok c en m := by
  cases x with
  | ok a en1 m1 => exact ⟨a, en1, m1, rfl, h⟩
  | ex c en m => cases h
  | bad => cases h
theorem noex_ok {A : Type} {x : R A} {a : A} {en : En} {m : Sto} (h : x.noex = .ok a en m) : x = .ok a en m := by
  cases x with
  | ok _ _ _ => exact h
  | ex _ _ _ => cases h
  | bad => cases h
theorem opt_ok {A C : Type} {o : Option A} {f : A → R C} {c : C} {en : En} {m : Sto} (h : Mp.opt o f = .ok c en m) : ∃ a, o = some a ∧ f a = .ok c en m := by
  cases o with
  | none => cases h
  | some a => exact ⟨a, rfl, h⟩
theorem opt2_ok {A A2 C : Type} {o : Option (A × A2)} {f : A → A2 → R C} {c : C} {en : En} {m : Sto} (h : Mp.opt2 o f = .ok c en m) : ∃ a b, o = some (a, b) ∧ f a b = .ok c en m := by
  cases o with
  | none => cases h
  | some p => exact ⟨p.1, p.2, rfl, h⟩
theorem if_ok {A : Type} {p : Prop} [Decidable p] {x : R A} {a : A} {en : En} {m : Sto} (h : (if p then x else .bad) = .ok a en m) : p ∧ x = .ok a en m := by
  by_cases c : p
  · rw [if_pos c] at h; exact ⟨c, h⟩
  · rw [if_neg c] at h; cases h
theorem compL_ex {ck : Sto → Bool} {f : W → En → Sto → R (Option W)} : ∀ {zs : List W} {en : En} {m : Sto} {c : Nat} {en2 : En} {m2 : Sto}, compL ck f zs en m ≠ .ex c en2 m2
  | [], en, m, c, en2, m2, h => by
    unfold compL at h
    split at h <;> cases h
  | z :: zs, en, m, c, en2, m2, h => by
    unfold compL at h
    split at h
    · cases q : (f z en m).noex with
      | ok o e1 m1 =>
        rw [q] at h
        simp only [R.bind] at h
        cases q2 : compL ck f zs e1 m1 with
        | ok r e2 m3 => rw [q2] at h; cases h
        | ex c2 e2 m3 => exact compL_ex q2
        | bad => rw [q2] at h; cases h
      | ex c e1 m1 => cases g : f z en m <;> rw [g] at q <;> cases q
      | bad => rw [q] at h; cases h
    · cases h
end Mp
set_option Elab.async false
set_option linter.all false
set_option maxRecDepth 100000
set_option maxHeartbeats 4000000
namespace Mp
open PySem PySem.Spec PyProof.Rows L2
section
variable {T : Tab} {xc : Nat → Value} {S : Sta} {cs : Nat → List W → Sto → CR} {gl : List W} {k : Nat} {N : List Str} {fb : Str → Bool} {sc : Scope} {Wx : WX} {X : Cx}
noncomputable abbrev W0 : WX := fun _ _ _ _ => False
theorem CxOk.blk (C : CxOk T xc S cs gl k N fb sc Wx X) (s : Shared) (H : Hp) (scope : Scope) (cl : List (Str × Addr)) (A : Addr) (fp : List Addr) :
    CxOk T xc S.blk cs gl k N (fun x => scope.names.lookup x == some .cell) (relS scope sc) W0 (X.blk s H scope (compEnvC scope cl A X.env) fp) where
  eK := C.eK
  eN := C.eN
  nd := C.nd
  es := by rw [← C.es]; rfl
  ef := rfl
  calm := C.calm
  room := C.room
  un := C.un
  tk := fun σ => passAt takes0 σ
  top := fun h => by cases h
  md := ⟨C.md.fns, C.md.cls, C.md.gls, C.md.blt, C.md.dcs, C.md.exs⟩
noncomputable def ST (T : Tab) (xc : Nat → Value) (cs : Nat → List W → Sto → CR) (gl : List W) (Wx : WX) (c : E) : TT := fun σ H Q => (isNil c = true ∧ Q true H) ∨ (isNil c = false ∧ SB T xc cs gl Wx c σ H Q)
theorem ownN_js (N : List Str) (js : List Nat) : (ownN N js).map (·.2) = js := by
  unfold ownN
  rw [List.map_map]
  exact (List.map_congr_left fun j _ => rfl).trans (List.map_id js)
theorem snd_comp (C : CxOk T xc S cs gl k N fb sc Wx X) (hcB : S.cB = true) {it : It} {src c elt : E} {tg : Tg} {js : List Nat} {pe pt pi : Expr} {ifs : List Expr} {scope : Scope} {pos : Pos}
    (hi : PI X pt pi (SI T xc cs gl Wx it src)) (hb : blkC N sc scope (ownN N js) = true) (htg : okT N (fun x => scope.names.lookup x == some .cell) (relS scope sc) tg pt = true) (hj : js = tgJs tg)
    (ht : ∀ {Y : Cx}, CxOk T xc S.blk cs gl k N (fun x => scope.names.lookup x == some .cell) (relS scope sc) W0 Y → PTs Y ifs (ST T xc cs gl W0 c))
    (he : ∀ {Y : Cx}, CxOk T xc S.blk cs gl k N (fun x => scope.names.lookup x == some .cell) (relS scope sc) W0 Y → PE Y pe (SE T xc cs gl W0 elt)) (hs : setB pi = false) :
    PE X (.ListComp pe [⟨pt, pi, ifs, 0⟩] scope pos) (SE T xc cs gl Wx (.comp it src tg js c elt)) ∧ ∀ σ H Q, SE T xc cs gl Wx (.comp it src tg js c elt) σ H Q → tLc (SI T xc cs gl Wx it src) (STg T tg) (ST T xc cs gl W0 c) (SE T xc cs gl W0 elt) ((ownN N js).map (·.2)) σ H Q := by
  have rd : ∀ σ H Q, SE T xc cs gl Wx (.comp it src tg js c elt) σ H Q → tLc (SI T xc cs gl Wx it src) (STg T tg) (ST T xc cs gl W0 c) (SE T xc cs gl W0 elt) ((ownN N js).map (·.2)) σ H Q := fun σ H Q z => by
    rw [ownN_js]
    obtain ⟨B, r, P, m, en, R, g⟩ := z
    simp only [ev] at g
    refine ⟨B, r, P, m, en, R, g.bind fun ws en1 m1 B1 r1 H1 e1 R1 h1 => ?_⟩
    obtain ⟨zs, ck, e2, h2⟩ := h1.opt2
    obtain ⟨hz, h3⟩ := h2.ifp
    refine ⟨zs, ck, e2, fun J sim D hD => ?_⟩
    obtain ⟨B2, e3, R2⟩ := R1.frzs js
    have h3 := PostG.mono e3 h3
    -- the loop's result is known
    generalize hf : compF tg js (isNil c) (fun en m => ev cs gl c en m) (fun en m => ev cs gl elt en m) = f at h3
    cases hx : compL (chk ck) f zs (wipeE (frzE en1 js) js) m1 with
    | bad => rw [hx] at h3; exact h3.elim
    | ex c0 en0 m0 => exact absurd hx compL_ex
    | ok rr en2 m2 =>
      rw [hx] at h3
      have hB : B2 D = none := R2.s.bh.none hD
      have hP : P D = none := R2.s.ph.none hD
      have sP : Sub P (upd P D (.lst [])) := Sub.new hP
      -- what holds between two turns
      refine ⟨fun i mm H3 => mm = zs.length - i ∧ i ≤ zs.length ∧ ∃ B3 r3 m3 en3 acc wacc rest, Ext P B2 r1 B3 r3 ∧ Rel T B3 r3 (upd P D (.lst acc)) m3 en3 (L2.wipe σ js) H3 ∧ RepL T B3 r3 acc wacc ∧ wacc.length ≤ i ∧ B3 D = none ∧
        compL (chk ck) f (zs.drop i) en3 m3 = .ok rest en2 m2 ∧ wacc ++ rest = rr, ⟨zs.length, rfl, Nat.zero_le _, B2, r1, m1, _, [], [], rr, Ext.refl, (R2.wipe js).prot hD, .nil, Nat.zero_le _, hB, hx, rfl⟩, fun i mm H3 hW => ?_⟩
      obtain ⟨rfl, hi, B3, r3, m3, en3, acc, wacc, rest, e4, R3, la, hl, hB3, hc, hrr⟩ := hW
      have e5 := e3.trans e4
      have pre3 : r1 <+: r3 := e4.pre
      by_cases hlt : i < zs.length
      · -- one more turn
        right
        have hd : zs.drop i = zs[i] :: zs.drop (i + 1) := List.drop_eq_getElem_cons hlt
        rw [hd] at hc
        unfold compL at hc
        obtain ⟨hck, hc⟩ := if_ok hc
        obtain ⟨o, en4, m4, f1, hc⟩ := bind_ok hc
        obtain ⟨rest2, en5, m5, f2, hc⟩ := bind_ok hc
        simp only [Mp.R.ok.injEq] at hc
        obtain ⟨hrest, rfl, rfl⟩ := hc
        have f1 := noex_ok f1
        refine ⟨sim.go i e5.sub pre3 R3 hck hlt, fun H4 => ∃ B4 r4 acc2 wacc2, Ext P B2 r1 B4 r4 ∧ Rel T B4 r4 (upd P D (.lst acc2)) m4 en4 (L2.wipe σ js) H4 ∧ RepL T B4 r4 acc2 wacc2 ∧ wacc2.length ≤ i + 1 ∧ B4 D = none ∧ wacc2 ++ rest2 = rr, fun H4 q => ?_, fun x H4 y => ?_⟩
        · obtain ⟨B4, r4, acc2, wacc2, q1, q2, q3, q4, q5, q6⟩ := q
          exact ⟨zs.length - (i + 1), by omega, rfl, hlt, B4, r4, m4, en4, acc2, wacc2, rest2, q1, q2, q3, q4, q5, f2, q6⟩
        · obtain ⟨B4, e6, R4, hz2, sH⟩ := sim.yld i e5.sub pre3 R3 hck y (List.getElem?_eq_getElem hlt)
          rw [← hf] at f1
          unfold compF at f1
          obtain ⟨en6, f3, f1⟩ := opt_ok f1
          obtain ⟨t, en7, m7, f4, f1⟩ := bind_ok f1
          have sp : Sub P (upd P D (.lst acc)) := Sub.new hP
          refine ⟨B4, r3, upd P D (.lst acc), m3, en3, _, en6, R4, hz2, f3, fun us R6 => ⟨?_, ?_⟩⟩
          · rw [← hj]; exact wipe_setN js us σ
          · rw [← hj] at R6 ⊢
            -- behind the test
            have body : ∀ {B7 : Hp} {r7 : List Addr} {H7 : Hp}, Ext (upd P D (.lst acc)) B4 r3 B7 r7 → Rel T B7 r7 (upd P D (.lst acc)) m7 en7 (setN js us (L2.wipe σ js)) H7 →
                (if t = true then SE T xc cs gl W0 elt (setN js us (L2.wipe σ js)) H7 fun y H8 => ∃ acc3, H8 D = some (.lst acc3) ∧ acc3.length < sizeLine ∧ ∃ B4 r4 acc2 wacc2, Ext P B2 r1 B4 r4 ∧ Rel T B4 r4 (upd P D (.lst acc2)) m4 en4 (L2.wipe σ js) (upd H8 D (.lst (acc3 ++ [y]))) ∧ RepL T B4 r4 acc2 wacc2 ∧ wacc2.length ≤ i + 1 ∧ B4 D = none ∧ wacc2 ++ rest2 = rr
                else ∃ B4 r4 acc2 wacc2, Ext P B2 r1 B4 r4 ∧ Rel T B4 r4 (upd P D (.lst acc2)) m4 en4 (L2.wipe σ js) H7 ∧ RepL T B4 r4 acc2 wacc2 ∧ wacc2.length ≤ i + 1 ∧ B4 D = none ∧ wacc2 ++ rest2 = rr) := fun {B7 r7 H7} e7 R7 => by
              have hB7 : B7 D = none := by
                rw [e7.fix D (by rw [upd_same]; exact fun z => nomatch z), e6.fix D (by rw [upd_same]; exact fun z => nomatch z)]
                exact hB3
              have back := fun {B8 : Hp} {r8 : List Addr} {H8 : Hp} {en8 : En} {m8 : Sto} (R8 : Rel T B8 r8 (upd P D (.lst acc)) m8 en8 (setN js us (L2.wipe σ js)) H8) => R8.wipe js
              have e47 : Ext P B2 r1 B7 r7 := e4.trans ((e6.weak sp).trans (e7.weak sp))
              have l7 : RepL T B7 r7 acc wacc := la.mono (e6.sub.trans e7.sub) (e6.pre.trans e7.pre)
              cases t with
              | false =>
                rw [if_neg Bool.false_ne_true] at f1
                simp only [Mp.R.ok.injEq] at f1
                obtain ⟨rfl, rfl, rfl⟩ := f1
                refine iteF ⟨B7, r7, acc, wacc, e47, ?_, l7, by omega, hB7, ?_⟩
                · have := R7.wipe js
                  rw [wipe_setN] at this; exact this
                · rw [← hrr, ← hrest]
              | true =>
                rw [if_pos rfl] at f1
                obtain ⟨x2, en8, m8, f5, f1⟩ := bind_ok f1
                obtain ⟨w, en9, f6, f1⟩ := opt2_ok f1
                simp only [Mp.R.ok.injEq] at f1
                obtain ⟨rfl, rfl, rfl⟩ := f1
                have f5 : ev cs gl elt en7 m7 = Mp.R.ok x2 en8 m8 := f5
                refine iteT ⟨B7, r7, _, m7, en7, R7, ?_⟩
                rw [f5]
                intro B8 r8 H8 e8 R8 v hv
                obtain ⟨B9, e9, R9, hw⟩ := R8.esc hv f6
                have hD8 : H8 D = some (.lst acc) := R9.s.ph D _ upd_same
                have hB9 : B9 D = none := by
                  rw [e9.fix D (by rw [upd_same]; exact fun z => nomatch z), e8.fix D (by rw [upd_same]; exact fun z => nomatch z)]
                  exact hB7
                have l9 : RepL T B9 r8 acc wacc := (l7.mono e8.sub e8.pre).mono e9.sub e9.pre
                refine ⟨acc, hD8, ?_, B9, r8, acc ++ [v], wacc ++ [w], e47.trans ((e8.weak sp).trans (e9.weak sp)), ?_, l9.app (.cons hw .nil), ?_, hB9, ?_⟩
                · rw [la.len]
                  refine Nat.lt_of_le_of_lt hl (Nat.lt_of_lt_of_le hlt (lim_line hz))
                · have := (R9.reprot (u := .lst (acc ++ [v])) hB9).wipe js
                  rw [wipe_setN] at this; exact this
                · rw [List.length_append, List.length_singleton]; omega
                · rw [← hrr, ← hrest, List.append_assoc]; rfl
            by_cases hn : isNil c = true
            · rw [if_pos hn] at f4
              simp only [Mp.R.ok.injEq] at f4
              obtain ⟨rfl, rfl, rfl⟩ := f4
              exact .inl ⟨hn, body Ext.refl R6⟩
            · have hn : isNil c = false := by simpa using hn
              rw [if_neg (by rw [hn]; exact Bool.false_ne_true)] at f4
              obtain ⟨x2, en8, m8, f5, f4⟩ := bind_ok f4
              obtain ⟨t2, f6, f4⟩ := opt_ok f4
              simp only [Mp.R.ok.injEq] at f4
              obtain ⟨rfl, rfl, rfl⟩ := f4
              have f5 : ev cs gl c en6 m3 = Mp.R.ok x2 en8 m8 := f5
              refine .inr ⟨hn, B4, r3, _, m3, en6, R6, ?_⟩
              rw [f5]
              exact fun B8 r8 H8 e8 R8 => ⟨_, f6, body e8 R8⟩
      · -- the end
        left
        have e : i = zs.length := by omega
        subst e
        rw [List.drop_length] at hc
        unfold compL at hc
        obtain ⟨hck, hc⟩ := if_ok hc
        simp only [Mp.R.ok.injEq] at hc
        obtain ⟨rfl, rfl, rfl⟩ := hc
        rw [List.append_nil] at hrr
        subst hrr
        refine ⟨sim.stop e5.sub pre3 R3 hck, ?_⟩
        have sp : Sub P (upd P D (.lst acc)) := Sub.new hP
        have R6 := R2.rest e4 (R3.weak sp)
        refine h3 B3 r3 H3 e4 R6 _ ⟨D, rfl, ⟨⟨acc, R3.s.ph D _ upd_same, la⟩, hB3, hP, fun z => ?_⟩, fun j ys hj2 e => ?_⟩
        · have := (R3.s.fr D z).2
          rw [upd_same] at this; cases this
        · obtain ⟨q, q1, q2⟩ := R6.e.own_at hj2
          rw [e] at q1; cases q1
          rw [restE_get] at hj2
          have l2 : en3.length = σ.length := by rw [R3.e.len, wipe_length]
          by_cases cj : j ∈ js
          · by_cases cl : j < en3.length
            · rw [if_pos ⟨cj, cl⟩] at hj2
              simp only [Option.some.injEq] at hj2
              exact frzE_val en1 js cj (enGet_some hj2)
            · rw [if_neg fun z => cl z.2, List.getElem?_eq_none (by omega)] at hj2; cases hj2
          · rw [if_neg fun z => cj z.1] at hj2
            obtain ⟨q, q3, q4⟩ := R3.e.own_at hj2
            rw [wipe_get, if_neg fun z => cj z.1, e] at q3
            cases q3
            have := q4.np
            rw [upd_same] at this; cases this
  refine ⟨(pe_lc (C.calm hcB) (by rw [C.eN]; exact C.nd) hi (by rw [C.eN, C.es]; exact blkOk_by hb) (fun s H A cl fp => pg_tg (C.blk s H scope cl A fp) hcB htg) (fun s H A cl fp => ht (C.blk s H scope cl A fp)) (fun s H A cl fp => he (C.blk s H scope cl A fp)) (fold_of hs)).imp rd, rd⟩
end
end Mp
set_option Elab.async false
set_option linter.all false
set_option maxRecDepth 100000
set_option maxHeartbeats 4000000
/-! a list comprehension whose element may raise -/
namespace L2
open PySem PySem.Spec PyProof.Rows
section
variable {M : Model} {A : Around} {E : Value → Shared → Prop} {s : Shared} {env : Env}
noncomputable def compPostX (M : Model) (A : Around) (E : Value → Shared → Prop) (Q : Value → Shared → Prop) (acc : Value) (cenv : Env) (r : Result) (s' : Shared) : Prop :=
  match r with
  | .ok _ => ∃ m, s'.heap.Ns cenv.locals m ∧ ∀ h', Heap.SameBut cenv.locals s'.heap h' → Q acc { s' with heap := h' }
  | .error x => ∃ m, s'.heap.Ns cenv.locals m ∧ ∀ h', Heap.SameBut cenv.locals s'.heap h' → wpAny M A (passOn "comprehension.variables-let-go" x cenv : Sem Value) (fun _ _ => False) E { s' with heap := h' }
theorem wpAny_comprehension_X {e : Expr} {scope : Scope} {pos : Pos} {newAcc first : Sem Value} {g : Comprehension} {gs : List Comprehension} {cl : List (Str × Addr)}
    {Q : Value → Shared → Prop}
    (hcl : clausesOf e = g :: gs) (hs : ∀ x, foldedSetIterable g.iter env x = pure x) (hclos : closureFor scope env = pure cl)
    (hkind : scope.kind = .function) (hnames : ∀ x ∈ scope.names, x.2 = .local → scope.names.lookup x.1 = some .local)
    (h : wpAny M A first (fun x s₁ => wpAny M A (pyIter x) (fun it s₂ => wpAny M A newAcc (fun acc s₃ =>
      wpAny M A (newFunctionEnv scope env.globals cl [] env.qual none .none (some env)) (fun cenv s₄ =>
        codeAny M A (.compStart e 0 it acc { cenv with scope := relabel scope env }) (compPostX M A E Q acc { cenv with scope := relabel scope env }) s₄) E s₃) E s₂) E s₁) E s) :
    wpAny M A (comprehension e scope env pos newAcc false first none) Q E s := by
  unfold comprehension
  rw [hclos, hcl]
  refine wpAny_bind (wpAny_mono h (fun x s₁ h₁ => wpAny_bind (wpAny_standAt (wpAny_bind (wpAny_of_eq (hs x) (wpAny_bind (wpAny_holding (wpAny_mono h₁ (fun it s₂ h₂ =>
    wpAny_standIf (wpAny_bind (wpAny_mono h₂ (fun acc s₃ h₃ => wpAny_bind (wpAny_pure (wpAny_bind (wpAny_mono h₃ (fun cenv s₄ h₄ => ?_) fun _ _ h' => h')))) fun _ _ h' => h')))
      fun _ _ h' => h'))))))) fun _ _ h' => h')
  dsimp only
  have hv : ∀ x ∈ (scope.names.filter fun x => (x.2 == .local || x.2 == .cell) && x.1 != (".0" : Str)).reverse, x.2 = .local →
      Env.kindOf { cenv with scope := relabel scope env } x.1 = some .local := fun x hx hl => lookup_relabel_local (hnames x (List.mem_filter.mp (List.mem_reverse.mp hx)).1 hl)
  refine wpAny_holding (wpAny_bind (wpAny_attempt (wpAny_holding (wpAny_run (codeAny_mono h₄ fun r s' hr => ?_)))))
  cases r with
  | ok f =>
    obtain ⟨m, hn, hr⟩ := hr
    exact wpAny_bind (wpAny_holding (wpAny_comp_letGo (cenv := { cenv with scope := relabel scope env }) hkind _ s' m hv hn fun h' m' _ hs' => wpAny_pure (hr h' hs')))
  | error x =>
    obtain ⟨m, hn, hr⟩ := hr
    exact wpAny_bind (wpAny_holding (wpAny_comp_letGo (cenv := { cenv with scope := relabel scope env }) hkind _ s' m hv hn fun h' m' _ hs' => wpAny_mono (hr h' hs') (fun _ _ f => f.elim) fun _ _ y => y))
end
theorem funFrames_same {B B2 h h2 : Heap} : ∀ {l : List Env}, h.FunFrames B l → (∀ L ∈ frs l, h2.get? L = h.get? L ∧ B2.get? L = none) → h2.FunFrames B2 l
  | [], _, _ => trivial
  | env :: l, x, k => by
    obtain ⟨hk, ⟨L, o, hf, hn, ho, hd⟩, hr⟩ := x
    obtain ⟨k1, k2⟩ := k L (List.mem_filterMap.mpr ⟨env, List.mem_cons_self, hf⟩)
    exact ⟨hk, ⟨L, o, hf, k2, k1.trans ho, hd⟩, funFrames_same hr fun b hb => by
      obtain ⟨e, he, q⟩ := List.mem_filterMap.mp hb
      exact k b (List.mem_filterMap.mpr ⟨e, List.mem_cons_of_mem _ he, q⟩)⟩
theorem noteFrame_same {u : Value} {e1 e2 : Env} (h : e1.frame = e2.frame) : noteFrame u e1 = noteFrame u e2 := by
  unfold noteFrame PySem.frameOf
  rw [h]
section
variable {X : Cx} {pins : List (Addr × Obj)} {σ : St} {H3 : Hp} {s3 : Shared}
theorem leaves_block {Wx : WX} {scope : Scope} {ce : Env} {fp : List Addr} {pins' : List (Addr × Obj)} {σy : St} {Hy : Hp} {s s' : Shared} {u : Value} {Q : Value → Shared → Prop} {acc : Value} {E' : XK}
    (hs : X.stack = X.env :: X.outer) (hf : X.env.frame = some X.env.locals) (tk : Takes X Wx) (I3 : Inv X pins σ H3 s3) (cL : ce.locals = s3.heap.objs.size) (cF : ce.frame = X.env.frame)
    (f3 : ∀ b ∈ fp, FpOk X pins H3 b) (Iy : Inv (X.blk s3 H3 scope ce fp) pins' σy Hy s) (c : CX X.prog X.w X.stack Hy s E' u s') (hW : ∀ cls d H', E' cls d H' → Wx cls d σ H') :
    notedBy (model X.prog X.w) X.A ce (fun e s'' => compPostX (model X.prog X.w) X.A X.xe Q acc ce (.error e) s'') u s' := by
  obtain ⟨a, B, H', cls, d, rfl, fl, hok, ub, na, os, ag, hE⟩ := c
  have hfr : X.A.frames = some (X.env :: X.outer) := by rw [I3.ok.frames, hs]
  have fl' : HandSPX.FlyingZ B (X.env :: X.outer) a (Zc cls d) s'.heap := by rw [← hs]; exact fl
  generalize hC : ce.locals = C at cL
  have frC : C ∉ frs X.stack := fun hm => by
    rcases List.mem_cons.mp (I3.stkSub C hm) with z | z
    · have := I3.lt
      rw [← z, cL] at this
      exact Nat.lt_irrefl _ this
    · exact I3.nofs (Nat.le_of_eq cL.symm) z
  unfold notedBy
  rw [noteFrame_same cF]
  refine HandSPX.looks_onZ Zc.steady hfr hf fl' fun h2 hh2 up2 => ?_
  obtain ⟨m, ⟨oC, es, ep, hoC, rC⟩, _⟩ := Iy.loc
  have hoC : s.heap.get? C = some oC := by rw [← hC]; exact hoC
  have HyC : Hy C = none := by
    have := Iy.free
    rw [← hC]; exact this
  have hCB : B.get? C = some oC := ub.keep C oC hoC HyC frC
  have C2 : h2.get? C = some oC := hh2.1 _ _ hCB
  have H'C : H' C = none := ub.free C oC hoC HyC
  refine ⟨m, ⟨oC, es, ep, by rw [hC]; exact C2, rC⟩, fun h3 sb => ?_⟩
  rw [hC] at sb
  obtain ⟨k1, k2, k3, oe, vs, T, oT, ts, he, hz, hd, h1, hnT, hTe, hT, hdT, hts⟩ := hh2
  have naC : a ≠ C := fun z => by rw [z, hCB] at k2; cases k2
  have nTC : T ≠ C := fun z => by rw [z, hCB] at hnT; cases hnT
  have off : ∀ b, b ≠ C → h3.get? b = h2.get? b := fun b hb => sb.2 b hb
  have subB : ∀ b o, (PySem.W.hideAll B [C]).get? b = some o → B.get? b = some o ∧ b ≠ C := fun b o e => ⟨PySem.W.of_hideAll _ e, fun z => by
    rw [z, PySem.W.hideAll_none [C] (List.mem_singleton.mpr rfl)] at e; cases e⟩
  have inB : ∀ b o, B.get? b = some o → b ≠ C → (PySem.W.hideAll B [C]).get? b = some o := fun b o e hb => PySem.W.hideAll_get _ e fun z => hb (List.mem_singleton.mp z)
  have nonB : ∀ b, B.get? b = none → (PySem.W.hideAll B [C]).get? b = none := fun b hb => by
    cases q : (PySem.W.hideAll B [C]).get? b with
    | none => rfl
    | some o =>
      have := (subB b o q).1
      rw [hb] at this; cases this
  generalize PySem.W.hideAll B [C] = B2 at subB inB nonB
  have held : HandSPX.HeldZ B2 (X.env :: X.outer) a (Zc cls d) X.env.locals h3 := by
    refine ⟨fun b o e => ?_, nonB a k2, funFrames_same k3 fun L hL => ?_, oe, vs, T, oT, ts, (off a naC).trans he, hz, hd, h1, nonB T hnT, hTe, (off T nTC).trans hT, hdT, hts⟩
    · obtain ⟨e1, e2⟩ := subB b o e
      exact (off b e2).trans (k1 b o e1)
    · have hL' : L ∈ frs X.stack := by rw [hs]; exact hL
      exact ⟨off L fun z => frC (z ▸ hL'), nonB L (k3.mem hL).1⟩
  have he3 : h3.get? a = some oe := (off a naC).trans he
  -- the state without the exception
  obtain ⟨G, g1, g2⟩ := restrict s'.heap fun b => (B2.get? b).isSome || decide (b ∈ frs X.stack)
  have st : B.StaysIn s'.heap := fl.1
  have gB : ∀ b o, B2.get? b = some o → G.get? b = some o := fun b o e => by
    rw [g1 b (by simp [e])]
    exact st b o (subB b o e).1
  have gF : ∀ b, b ∈ frs X.stack → G.get? b = s'.heap.get? b := fun b hb => g1 b (by simp [hb])
  have og : ∀ b o, G.get? b = some o → s'.heap.get? b = some o ∧ ((B2.get? b).isSome = true ∨ b ∈ frs X.stack) := fun b o e => by
    cases q : ((B2.get? b).isSome || decide (b ∈ frs X.stack)) with
    | false => rw [g2 b q] at e; cases e
    | true =>
      rw [g1 b q] at e
      exact ⟨e, by simpa [Bool.or_eq_true] using q⟩
  have nG : ∀ b o, G.get? b = some o → b ≠ C := fun b o e z => by
    rcases (og b o e).2 with h | h
    · obtain ⟨o', q⟩ := Option.isSome_iff_exists.mp h
      exact (subB b o' q).2 z
    · exact frC (z ▸ h)
  have n3 : ∀ b o, s3.heap.get? b = some o → b ≠ C := fun b o e z => by
    have := Heap.lt_size e
    rw [z, cL] at this
    exact Nat.lt_irrefl _ this
  have J : Inv X pins σ H' { s3 with heap := G, gens := s'.gens, drawn := s'.drawn, toks := s'.toks } := by
    refine I3.call (ch := fp) ⟨fun b o e n hb hx => ?_, fun b o e n hb hx => ?_, fun b o e n hx => ?_, fun b o e hx => ?_, fun b xs e => ub.tups b xs (Iy.base.tups b xs e), fun b o w e => ub.frzs b o w (Iy.base.frzs b o w e), fun b ps e => ?_⟩ (fun b o q => ?_) ag (fun b hb => ⟨(f3 b hb).2.2.2.1, (f3 b hb).2.1, (f3 b hb).2.2.2.2.1, (f3 b hb).2.2.2.2.2⟩)
    · exact gB b o (inB b o (ub.keep b o (Iy.base.keep b o e n hb hx) (Iy.base.free b o e n hx) hb) (n3 b o e))
    · obtain ⟨sl, e2⟩ := Iy.base.slot b o e n hb hx
      obtain ⟨sl2, e3⟩ := ub.slot b _ e2 hb
      exact ⟨sl2, by rw [gF b hb]; exact e3⟩
    · obtain ⟨o', e2⟩ := Iy.base.there b o e hx
      exact ub.free b o' e2 (Iy.base.free b o e n hx)
    · obtain ⟨o', e2⟩ := Iy.base.there b o e hx
      by_cases hb : b ∈ frs X.stack
      · obtain ⟨sl, e3⟩ := ub.slot b o' e2 hb
        exact ⟨_, by rw [gF b hb]; exact e3⟩
      · obtain ⟨o2, e3⟩ := ub.there b o' e2 hb
        exact ⟨o2, gB b o2 (inB b o2 e3 (n3 b o e))⟩
    · obtain ⟨m1, e1⟩ := Iy.base.tbls b ps e
      obtain ⟨m2, e2⟩ := ub.tbls b _ e1
      exact ⟨m1 ++ m2, by rw [e2, Array.append_assoc]⟩
    · refine (hok b o q).stay (fun c v hc r => ?_) (fun _ q => q) fun _ _ q => q
      refine gB c v (inB c v r fun z => ?_)
      rcases hc with hc | hc
      · rw [← hc, z, H'C] at q; cases q
      · rw [z, H'C] at hc; cases hc
  show wpAny (model X.prog X.w) X.A (PySem.passOn "comprehension.variables-let-go" (.ref a) ce : Sem Value) (fun _ _ => False) X.xe { s' with heap := h3 }
  unfold PySem.passOn
  refine wpAny_bind (wpAny_field (s := { s' with heap := h3 }) he3 hd h1 ?_)
  rw [if_neg (show ¬ ((Value.ref T == Value.none) = true) from by simp)]
  have fin : wpAny (model X.prog X.w) X.A (setFlight (.ref a) ce.frame) (fun _ s4 => wpAny (model X.prog X.w) X.A (throw (.ref a) : Sem Value) (fun _ _ => False) X.xe s4) X.xe { s' with heap := h3 } := by
    rw [cF, hf]
    refine HandSPX.setFlight_onZ (s := { s' with heap := h3 }) held fun h4 hh4 up4 => wpAny_throw (tk _ _ ?_)
    refine ⟨a, B2, _, pins, σ, H', cls, d, rfl, J, fun b o e hb => ?_, fun b o e hnf => ?_, .inr (.inr (by rw [hs]; exact hh4)), na, ?_, ag, hW _ _ _ hE⟩
    · obtain ⟨e', h⟩ := og b o e
      rcases h with h | h
      · obtain ⟨o', q⟩ := Option.isSome_iff_exists.mp h
        have z := st b o' (subB b o' q).1
        rw [e'] at z; cases z
        exact q
      · exact absurd h hb
    · obtain ⟨sl, e2⟩ := up2 b o (og b o e).1 hnf
      have e3 : h3.get? b = some { o with slots := sl } := (off b (nG b o e)).trans e2
      obtain ⟨sl2, e4⟩ := up4 b _ e3 hnf
      exact ⟨sl2, e4⟩
    · exact os.trans Iy.os
  first
    | exact wpAny_bind (wpAny_pure (wpAny_bind fin))
    | exact wpAny_bind fin
theorem pe_lcX {pins : List (Addr × Obj)} {s : Shared} {σ : St} {H : Hp} {Q : VK} {elt tg iter : Expr} {ifs : List Expr} {scope : Scope} {own : List (Str × Nat)} {pos : Pos} {wi : TI} {g : TG} {tt : TT} {te : TE} {Wx : WX}
    (hstk : X.stack = X.env :: X.outer) (hfrm : X.env.frame = some X.env.locals) (tk : Takes X Wx) (hc : X.calm = true) (hN : X.N.Nodup) (I : Inv X pins σ H s) (hi : PI X tg iter wi) (ok : BlkOk X.N X.env.scope scope own)
    (hg : ∀ (s : Shared) (H : Hp) (C : Addr) (cl : List (Str × Addr)) (fp : List Addr), PG (X.blk s H scope (compEnvC scope cl C X.env) fp) tg g) (ht : ∀ (s : Shared) (H : Hp) (C : Addr) (cl : List (Str × Addr)) (fp : List Addr), PTs (X.blk s H scope (compEnvC scope cl C X.env) fp) ifs tt)
    (he : ∀ (s : Shared) (H : Hp) (C : Addr) (cl : List (Str × Addr)) (fp : List Addr) (E : Value → Shared → Prop), (∀ σy, PassesAt (CX X.prog X.w) ((X.blk s H scope (compEnvC scope cl C X.env) fp).wish E) σy (fun cls d H' => Wx cls d σ H')) → PE ((X.blk s H scope (compEnvC scope cl C X.env) fp).wish E) elt te) (hs : ∀ x, foldedSetIterable iter X.env x = pure x)
    (h : tLc wi g tt te (own.map (·.2)) σ H Q) :
    wpAny (model X.prog X.w) X.A (eval (.ListComp elt [⟨tg, iter, ifs, 0⟩] scope pos) X.env) (EP X pins σ Q) X.xe s := by
  rw [eval_ListComp]
  have hfree : ∀ y ∈ scope.names, y.2 = .free → ∃ c, X.env.cells.lookup y.1 = some c := fun y hy e => by
    rcases ok.free y hy e with k | k
    · exact I.ok.has _ (.inl k)
    · exact I.ok.has _ (.inr k)
  refine wpAny_comprehension_X rfl hs (closure_ok hfree) ok.kind (fun y hy e => by rw [ok.uniq y hy, e])
    (thn (hi.run pins s σ H _ I h) fun xv s1 hx => thn hx fun itv s2 h2 => ?_)
  obtain ⟨it, fp, tn, J, H2, e, I2, T, st2, f2, q⟩ := h2
  subst e
  refine wpAny_newObj_type (newEnv_comp ?_) (by show 0 ≤ sizeLine; decide)
  generalize hD : s2.heap.objs.size = D
  have hDn : H2 D = none := I2.hok.fresh (Nat.le_of_eq hD)
  obtain ⟨W, ⟨m0, w0⟩, turn⟩ := q D hDn
  -- the new list
  generalize hs3 : ({ s2 with heap := s2.heap.push { cls := .type "list", data := .seq ([] : List Value).toArray } } : Shared) = s3
  have I3 : Inv X pins σ (upd H2 D (.lst [])) s3 := by
    rw [← hs3]
    refine I2.laid (t' := s2.toks) (fun b o e => Heap.get?_push_of_some _ e) (Nat.le_of_eq hD) ⟨Nat.zero_le _, [], 0, .nil, ?_⟩
    rw [← hD]
    exact Heap.get?_push_size _ rfl
  have h3 : s3.heap = s2.heap.push { cls := .type "list", data := .seq ([] : List Value).toArray } := by rw [← hs3]
  have sz : ∀ b ∈ fp, b < s2.heap.objs.size := fun b hb => by
    obtain ⟨o, e, _⟩ := T.obj _ _ st2 b hb
    exact Heap.lt_size e
  have f3 : ∀ b ∈ fp, FpOk X pins (upd H2 D (.lst [])) b ∧ b < s3.heap.objs.size := fun b hb => by
    have hlt := sz b hb
    refine ⟨⟨?_, (f2 b hb).2⟩, by rw [h3, Heap.size_push]; exact Nat.lt_succ_of_lt hlt⟩
    rw [upd_ne (by rw [← hD]; exact Nat.ne_of_lt hlt)]
    exact (f2 b hb).1
  have st3 : tn 0 s3.heap := T.keep _ _ _ st2 fun b _ o e => by rw [h3]; exact Heap.get?_push_of_some _ e
  have I4 := block_start I3 ok hN f3
  have pg := hg s3 (upd H2 D (.lst [])) s3.heap.objs.size (cellsFrom (s3.heap.objs.size + 1) scope.names (cloFrom X.env.cells scope.names [])) fp
  have pt := ht s3 (upd H2 D (.lst [])) s3.heap.objs.size (cellsFrom (s3.heap.objs.size + 1) scope.names (cloFrom X.env.cells scope.names [])) fp
  have pe := he s3 (upd H2 D (.lst [])) s3.heap.objs.size (cellsFrom (s3.heap.objs.size + 1) scope.names (cloFrom X.env.cells scope.names [])) fp
  have cF : (compEnvC scope (cellsFrom (s3.heap.objs.size + 1) scope.names (cloFrom X.env.cells scope.names [])) s3.heap.objs.size X.env).frame = X.env.frame := rfl
  show codeAny _ _ (.compStart (.ListComp elt [⟨tg, iter, ifs, 0⟩] scope pos) 0 (.ref it) (.ref D) (compEnvC scope (cellsFrom (s3.heap.objs.size + 1) scope.names (cloFrom X.env.cells scope.names [])) s3.heap.objs.size X.env)) (compPostX (model X.prog X.w) X.A X.xe (EP X pins σ Q) (.ref D) (compEnvC scope (cellsFrom (s3.heap.objs.size + 1) scope.names (cloFrom X.env.cells scope.names [])) s3.heap.objs.size X.env)) { s3 with heap := pushCells (s3.heap.push { cls := .type "dict", data := .dict #[] }) scope.names }
  have nfp : ∀ b ∈ fp, (upd H2 D (.lst [])) b = none := fun b hb => (f3 b hb).1.1
  generalize hce : compEnvC scope (cellsFrom (s3.heap.objs.size + 1) scope.names (cloFrom X.env.cells scope.names [])) s3.heap.objs.size X.env = ce at I4 pg pt pe cF ⊢
  have cL : ce.locals = s3.heap.objs.size := by subst hce; rfl
  generalize hH3 : upd H2 D (.lst []) = H3 at I3 I4 pg pt pe w0 nfp f3
  generalize hs4 : ({ s3 with heap := pushCells (s3.heap.push { cls := .type "dict", data := .dict #[] }) scope.names } : Shared) = s4 at I4 ⊢
  have st4 : tn 0 s4.heap := T.keep _ _ _ st3 fun b _ o e => by rw [← hs4]; exact pushCells_keeps _ _ _ _ (Heap.get?_push_of_some _ e)
  have stat : ∀ {σ' : St} {H' : Hp} {s' : Shared}, Inv (X.blk s3 H3 scope ce fp) [] σ' H' s' → (∀ b ∈ fp, H' b = none) → ∀ b ∈ fp, FpOk (X.blk s3 H3 scope ce fp) [] H' b := fun {σ' H' s'} I' hn b hb =>
    ⟨hn b hb, (I'.ok.exf b hb).1, I'.ok.exfs b hb, .inl hb, fun x c e => (I'.ok.exf b hb).2 x c e, fun p hp => absurd (show p ∈ ([] : List (Addr × Obj)) ++ [] from hp) (by simp)⟩
  have loop : codeAny (model X.prog X.w) X.A (.compLoop (.ListComp elt [⟨tg, iter, ifs, 0⟩] scope pos) 0 (.ref it) (.ref D) ce) (compPostX (model X.prog X.w) X.A X.xe (EP X pins σ Q) (.ref D) ce) s4 := by
    refine compLoop_any (fun n s' => ∃ i H', Inv (X.blk s3 H3 scope ce fp) [] (wipe σ (own.map (·.2))) H' s' ∧ tn i s'.heap ∧ (∀ b ∈ fp, H' b = none) ∧ W i n H') ?_ m0 ⟨0, H3, I4, st4, nfp, w0⟩
    rintro n s5 ⟨i, H5, I5, st5, n5, w5⟩
    rcases turn i n H5 w5 with ⟨stop, qq⟩ | ⟨go, Nx, hNx, step⟩
    · have td := T.done (X.blk s3 H3 scope ce fp) rfl rfl rfl hc i [] s5 _ H5 (fun _ _ => False) I5 (stat I5 n5) st5 stop
      refine thnF td fun r s6 ⟨hr, I6⟩ => ?_
      subst hr
      -- back in the def's context
      have I7 : Inv X pins σ H5 s6 := I3.call' (ch := fp) I6.os I6.base I6.hok I6.bare fun b hb => ⟨(f3 b hb).1.2.2.2.1, (f3 b hb).1.2.1, (f3 b hb).1.2.2.2.2.1, (f3 b hb).1.2.2.2.2.2⟩
      have nC : H5 s3.heap.objs.size = none := by
        have z : H5 ce.locals = none := I6.free
        rw [cL] at z
        exact z
      obtain ⟨m, hn, _⟩ := I6.loc
      have hn : s6.heap.Ns ce.locals m := hn
      rw [cL] at hn
      obtain ⟨f0, f1, f2, f3', f4, f5⟩ := I3.fpOk (Nat.le_refl _) nC
      refine ⟨m, by rw [cL]; exact hn, fun h'' sb => ?_⟩
      rw [cL] at sb
      exact ⟨.ref D, H5, I7.turned (t' := s6.toks) (fun b o hb e => (sb.2 b hb).trans e) f0 f1 f3' f4 f5, rfl, qq⟩
    · have ti := T.item (X.blk s3 H3 scope ce fp) rfl rfl rfl hc i [] s5 _ H5 (fun _ _ => False) I5 (stat I5 n5) st5 go
      refine thnF ti fun r s6 ⟨u, hr, h6⟩ => ?_
      subst hr
      refine thnF h6 fun _ s7 ⟨x, H7, I7, r7, y7, st7, n7⟩ => ?_
      have I7' := I7.pinned (stat I7 n7) (T.obj _ _ st7)
      refine thnF (pg.run _ s7 _ H7 x u _ I7' r7 (step x H7 y7)) fun _ s8 ⟨σ8, H8, I8, hw8, q8⟩ => ?_
      refine thnF (pt.run _ s8 σ8 H8 _ I8 q8) fun b s9 ⟨H9, I9, q9⟩ => ?_
      -- the turn's end
      have fin : ∀ {s' : Shared} {H' : Hp}, Inv (X.blk s3 H3 scope ce fp) ([] ++ pinsAt fp s7.heap) σ8 H' s' → Nx H' → ∃ m, m < n ∧ ∃ i H', Inv (X.blk s3 H3 scope ce fp) [] (wipe σ (own.map (·.2))) H' s' ∧ tn i s'.heap ∧ (∀ b ∈ fp, H' b = none) ∧ W i m H' := fun {s' H'} I' nx => by
        obtain ⟨m', hm, w'⟩ := hNx H' nx
        have pin' : ∀ b ∈ fp, ∀ o, s7.heap.get? b = some o → s'.heap.get? b = some o ∧ H' b = none := fun b hb o e =>
          let z := I'.pin (b, o) (List.mem_append_right _ (List.mem_append_right _ (mem_pinsAt hb e)))
          ⟨z.1, z.2.1⟩
        have hl : (wipe σ (own.map (·.2))).length = σ8.length := by rw [← hw8, wipe_length]
        refine ⟨m', hm, i + 1, H', (I'.unpinned (pins := [])).weak hl (fun j v e => ?_), T.keep _ _ _ st7 fun b hb o e => (pin' b hb o e).1, fun b hb => ?_, w'⟩
        · rw [← hw8] at e
          exact (wipe_some e).1
        · obtain ⟨o, e, _⟩ := T.obj _ _ st7 b hb
          exact (pin' b hb o e).2
      cases b with
      | false =>
        simp only [Bool.false_eq_true, if_false] at q9 ⊢
        exact fin I9 q9
      | true =>
        simp only [if_true] at q9 ⊢
        refine thn ((pe (notedBy (model X.prog X.w) X.A ce fun e s' => compPostX (model X.prog X.w) X.A X.xe (EP X pins σ Q) (.ref D) ce (.error e) s') (fun σy pins' Hy s e s' Iy c => leaves_block hstk hfrm tk I3 cL cF (fun b hb => (f3 b hb).1) Iy.unwish c fun _ _ _ z => z)).run _ s9 σ8 H9 _ (I9.wish _) q9) fun z s10 ⟨yv, H10, I10, r10, acc, hD10, hz10, nx⟩ => ?_
        have I10 := I10.unwish
        exact app_ok (X := X.blk s3 H3 scope ce fp) I10 hD10 hz10 r10 fun s11 I11 => fin I11 nx
  exact codeAny_compStart_list loop (T.self X.A 0 _ _ _ st4 loop)
end
end L2
set_option Elab.async false
set_option linter.all false
set_option maxRecDepth 100000
set_option maxHeartbeats 4000000
namespace Mp
open PySem PySem.Spec PyProof.Rows L2
section
variable {T : Tab} {xc : Nat → Value} {S : Sta} {cs : Nat → List W → Sto → CR} {gl : List W} {k : Nat} {N : List Str} {fb : Str → Bool} {sc : Scope} {Wx : WX} {X : Cx}
theorem CxOk.blkW (C : CxOk T xc S cs gl k N fb sc Wx X) (s : Shared) (H : Hp) (scope : Scope) (cl : List (Str × Addr)) (A : Addr) (fp : List Addr) {E : Value → Shared → Prop} {σ : L2.St}
    (hp : ∀ σy, PassesAt (L2.CX X.prog X.w) ((X.blk s H scope (compEnvC scope cl A X.env) fp).wish E) σy (fun cls d H' => Wx cls d σ H')) :
    CxOk T xc S.blk cs gl k N (fun x => scope.names.lookup x == some .cell) (relS scope sc) (fun cls d _ H => Wx cls d σ H) ((X.blk s H scope (compEnvC scope cl A X.env) fp).wish E) where
  eK := C.eK
  eN := C.eN
  nd := C.nd
  es := by rw [← C.es]; rfl
  ef := rfl
  calm := C.calm
  room := C.room
  un := C.un
  tk := fun σy => hp σy
  top := fun h => by cases h
  md := ⟨C.md.fns, C.md.cls, C.md.gls, C.md.blt, C.md.dcs, C.md.exs⟩
noncomputable def joinX (wacc : List W) (r : R (List W)) : R (List W) :=
  match r with
  | .ok rest en m => .ok (wacc ++ rest) en m
  | .ex c en m => .ex c en m
  | .bad => .bad
theorem joinX_step {ck : Sto → Bool} {f : W → En → Sto → R (Option W)} {wacc : List W} {z : W} {zs : List W} {o : Option W} {en en4 : En} {m m4 : Sto} (h1 : ck m = true) (h2 : f z en m = .ok o en4 m4) : joinX wacc (compLx ck f (z :: zs) en m) = joinX (wacc ++ o.toList) (compLx ck f zs en4 m4) := by
  rw [compLx, if_pos h1, h2]
  simp only [R.bind]
  cases compLx ck f zs en4 m4 with
  | ok rest en m => cases o <;> simp [joinX]
  | ex c en m => rfl
  | bad => rfl
theorem joinX_ex {ck : Sto → Bool} {f : W → En → Sto → R (Option W)} {wacc : List W} {z : W} {zs : List W} {c : Nat} {en en4 : En} {m m4 : Sto} (h1 : ck m = true) (h2 : f z en m = .ex c en4 m4) : joinX wacc (compLx ck f (z :: zs) en m) = .ex c en4 m4 := by
  rw [compLx, if_pos h1, h2]
  rfl
theorem joinX_bad {ck : Sto → Bool} {f : W → En → Sto → R (Option W)} {wacc : List W} {z : W} {zs : List W} {en : En} {m : Sto} (h : ck m = false ∨ f z en m = .bad) : joinX wacc (compLx ck f (z :: zs) en m) = .bad := by
  rcases h with h | h
  · rw [compLx, h]; rfl
  · rw [compLx, h]
    cases ck m <;> rfl
theorem snd_compx (C : CxOk T xc S cs gl k N fb sc Wx X) (hcB : S.cB = true) (hT : S.top = true) {it : It} {src c elt : E} {tg : Tg} {js : List Nat} {pe pt pi : Expr} {ifs : List Expr} {scope : Scope} {pos : Pos}
    (hi : PI X pt pi (SI T xc cs gl Wx it src)) (hb : blkC N sc scope (ownN N js) = true) (htg : okT N (fun x => scope.names.lookup x == some .cell) (relS scope sc) tg pt = true) (hj : js = tgJs tg)
    (ht : ∀ {Y : Cx}, CxOk T xc S.blk cs gl k N (fun x => scope.names.lookup x == some .cell) (relS scope sc) W0 Y → PTs Y ifs (ST T xc cs gl W0 c))
    (he : ∀ {Wy : WX} {Y : Cx}, CxOk T xc S.blk cs gl k N (fun x => scope.names.lookup x == some .cell) (relS scope sc) Wy Y → PE Y pe (SE T xc cs gl Wy elt)) (hs : setB pi = false) :
    PE X (.ListComp pe [⟨pt, pi, ifs, 0⟩] scope pos) (SE T xc cs gl Wx (.compx it src tg js c elt)) := by
  have tp := C.top hT
  refine ⟨fun pins s σ H Q I z => ?_⟩
  refine pe_lcX (te := SE T xc cs gl (fun cls d _ H => Wx cls d σ H) elt) (tt := ST T xc cs gl W0 c) (g := STg T tg) tp.stk tp.frm tp.tk (C.calm hcB) (by rw [C.eN]; exact C.nd) I hi (by rw [C.eN, C.es]; exact blkOk_by hb) (fun s H A cl fp => pg_tg (C.blk s H scope cl A fp) hcB htg) (fun s H A cl fp => ht (C.blk s H scope cl A fp)) (fun s H A cl fp E hp => he (C.blkW s H scope cl A fp hp)) (fold_of hs) ?_
  rw [ownN_js]
  obtain ⟨B, r, P, m, en, R, g⟩ := z
  simp only [ev] at g
  refine ⟨B, r, P, m, en, R, g.bind fun ws en1 m1 B1 r1 H1 e1 R1 h1 => ?_⟩
  obtain ⟨zs, ck, e2, h2⟩ := h1.opt2
  obtain ⟨hz, h3⟩ := h2.ifp
  refine ⟨zs, ck, e2, fun J sim D hD => ?_⟩
  obtain ⟨B2, e3, R2⟩ := R1.frzs js
  have h3 := PostG.mono e3 h3
  generalize hf : compFx tg js (isNil c) (fun en m => ev cs gl c en m) (fun en m => ev cs gl elt en m) = f at h3
  generalize hx : compLx (chk ck) f zs (wipeE (frzE en1 js) js) m1 = x at h3
  have xb : x ≠ .bad := fun e => by rw [e] at h3; exact h3.elim
  have hB : B2 D = none := R2.s.bh.none hD
  have hP : P D = none := R2.s.ph.none hD
  refine ⟨fun i mm H3 => mm = zs.length - i ∧ i ≤ zs.length ∧ ∃ B3 r3 m3 en3 acc wacc, Ext P B2 r1 B3 r3 ∧ Rel T B3 r3 (upd P D (.lst acc)) m3 en3 (L2.wipe σ js) H3 ∧ RepL T B3 r3 acc wacc ∧ wacc.length ≤ i ∧ B3 D = none ∧
    joinX wacc (compLx (chk ck) f (zs.drop i) en3 m3) = x, ⟨zs.length, rfl, Nat.zero_le _, B2, r1, m1, _, [], [], Ext.refl, (R2.wipe js).prot hD, .nil, Nat.zero_le _, hB, by rw [List.drop_zero, hx]; cases x <;> rfl⟩, fun i mm H3 hW => ?_⟩
  obtain ⟨rfl, hi, B3, r3, m3, en3, acc, wacc, e4, R3, la, hl, hB3, hc⟩ := hW
  have e5 := e3.trans e4
  have pre3 : r1 <+: r3 := e4.pre
  have sp : Sub P (upd P D (.lst acc)) := Sub.new hP
  by_cases hlt : i < zs.length
  · right
    have hd : zs.drop i = zs[i] :: zs.drop (i + 1) := List.drop_eq_getElem_cons hlt
    rw [hd] at hc
    have hck : chk ck m3 = true := by
      cases q : chk ck m3 with
      | true => rfl
      | false =>
        rw [joinX_bad (.inl q)] at hc
        exact absurd hc.symm xb
    cases f1 : f zs[i] en3 m3 with
    | bad =>
      rw [joinX_bad (.inr f1)] at hc
      exact absurd hc.symm xb
    | ok o en4 m4 =>
      rw [joinX_step hck f1] at hc
      refine ⟨sim.go i e5.sub pre3 R3 hck hlt, fun H4 => ∃ B4 r4 acc2 wacc2, Ext P B2 r1 B4 r4 ∧ Rel T B4 r4 (upd P D (.lst acc2)) m4 en4 (L2.wipe σ js) H4 ∧ RepL T B4 r4 acc2 wacc2 ∧ wacc2.length ≤ i + 1 ∧ B4 D = none ∧ joinX wacc2 (compLx (chk ck) f (zs.drop (i + 1)) en4 m4) = x, fun H4 q => ?_, fun x_ H4 y => ?_⟩
      · obtain ⟨B4, r4, acc2, wacc2, q1, q2, q3, q4, q5, q6⟩ := q
        exact ⟨zs.length - (i + 1), by omega, rfl, hlt, B4, r4, m4, en4, acc2, wacc2, q1, q2, q3, q4, q5, q6⟩
      · obtain ⟨B4, e6, R4, hz2, sH⟩ := sim.yld i e5.sub pre3 R3 hck y (List.getElem?_eq_getElem hlt)
        rw [← hf] at f1
        unfold compFx at f1
        obtain ⟨en6, f3, f1⟩ := opt_ok f1
        obtain ⟨t, en7, m7, f4, f1⟩ := bind_ok f1
        refine ⟨B4, r3, upd P D (.lst acc), m3, en3, _, en6, R4, hz2, f3, fun us R6 => ⟨?_, ?_⟩⟩
        · rw [← hj]; exact wipe_setN js us σ
        · rw [← hj] at R6 ⊢
          have body : ∀ {B7 : Hp} {r7 : List Addr} {H7 : Hp}, Ext (upd P D (.lst acc)) B4 r3 B7 r7 → Rel T B7 r7 (upd P D (.lst acc)) m7 en7 (setN js us (L2.wipe σ js)) H7 →
              (if t = true then SE T xc cs gl (fun cls d _ H => Wx cls d σ H) elt (setN js us (L2.wipe σ js)) H7 fun y H8 => ∃ acc3, H8 D = some (.lst acc3) ∧ acc3.length < sizeLine ∧ ∃ B4 r4 acc2 wacc2, Ext P B2 r1 B4 r4 ∧ Rel T B4 r4 (upd P D (.lst acc2)) m4 en4 (L2.wipe σ js) (upd H8 D (.lst (acc3 ++ [y]))) ∧ RepL T B4 r4 acc2 wacc2 ∧ wacc2.length ≤ i + 1 ∧ B4 D = none ∧ joinX wacc2 (compLx (chk ck) f (zs.drop (i + 1)) en4 m4) = x
              else ∃ B4 r4 acc2 wacc2, Ext P B2 r1 B4 r4 ∧ Rel T B4 r4 (upd P D (.lst acc2)) m4 en4 (L2.wipe σ js) H7 ∧ RepL T B4 r4 acc2 wacc2 ∧ wacc2.length ≤ i + 1 ∧ B4 D = none ∧ joinX wacc2 (compLx (chk ck) f (zs.drop (i + 1)) en4 m4) = x) := fun {B7 r7 H7} e7 R7 => by
            have hB7 : B7 D = none := by
              rw [e7.fix D (by rw [upd_same]; exact fun z => nomatch z), e6.fix D (by rw [upd_same]; exact fun z => nomatch z)]
              exact hB3
            have e47 : Ext P B2 r1 B7 r7 := e4.trans ((e6.weak sp).trans (e7.weak sp))
            have l7 : RepL T B7 r7 acc wacc := la.mono (e6.sub.trans e7.sub) (e6.pre.trans e7.pre)
            cases t with
            | false =>
              rw [if_neg Bool.false_ne_true] at f1
              simp only [Mp.R.ok.injEq] at f1
              obtain ⟨rfl, rfl, rfl⟩ := f1
              refine iteF ⟨B7, r7, acc, wacc, e47, ?_, l7, by omega, hB7, ?_⟩
              · have := R7.wipe js
                rw [wipe_setN] at this; exact this
              · rw [← hc]; simp
            | true =>
              rw [if_pos rfl] at f1
              dsimp only at f1
              cases f5 : ev cs gl elt en7 m7 with
              | bad => rw [f5] at f1; cases f1
              | ex c8 en8 m8 => rw [f5] at f1; cases f1
              | ok x2 en8 m8 =>
                rw [f5] at f1
                obtain ⟨w, en9, f6, f1⟩ := opt2_ok f1
                simp only [Mp.R.ok.injEq] at f1
                obtain ⟨rfl, rfl, rfl⟩ := f1
                refine iteT ⟨B7, r7, _, m7, en7, R7, ?_⟩
                rw [f5]
                intro B8 r8 H8 e8 R8 v hv
                obtain ⟨B9, e9, R9, hw⟩ := R8.esc hv f6
                have hD8 : H8 D = some (.lst acc) := R9.s.ph D _ upd_same
                have hB9 : B9 D = none := by
                  rw [e9.fix D (by rw [upd_same]; exact fun z => nomatch z), e8.fix D (by rw [upd_same]; exact fun z => nomatch z)]
                  exact hB7
                have l9 : RepL T B9 r8 acc wacc := (l7.mono e8.sub e8.pre).mono e9.sub e9.pre
                refine ⟨acc, hD8, ?_, B9, r8, acc ++ [v], wacc ++ [w], e47.trans ((e8.weak sp).trans (e9.weak sp)), ?_, l9.app (.cons hw .nil), ?_, hB9, ?_⟩
                · rw [la.len]
                  refine Nat.lt_of_le_of_lt hl (Nat.lt_of_lt_of_le hlt (lim_line hz))
                · have := (R9.reprot (u := .lst (acc ++ [v])) hB9).wipe js
                  rw [wipe_setN] at this; exact this
                · rw [List.length_append, List.length_singleton]; omega
                · exact hc
          by_cases hn : isNil c = true
          · rw [if_pos hn] at f4
            simp only [Mp.R.ok.injEq] at f4
            obtain ⟨rfl, rfl, rfl⟩ := f4
            exact .inl ⟨hn, body Ext.refl R6⟩
          · have hn : isNil c = false := by simpa using hn
            rw [if_neg (by rw [hn]; exact Bool.false_ne_true)] at f4
            obtain ⟨x2, en8, m8, f5, f4⟩ := bind_ok f4
            obtain ⟨t2, f6, f4⟩ := opt_ok f4
            simp only [Mp.R.ok.injEq] at f4
            obtain ⟨rfl, rfl, rfl⟩ := f4
            have f5 : ev cs gl c en6 m3 = Mp.R.ok x2 en8 m8 := noex_ok f5
            refine .inr ⟨hn, B4, r3, _, m3, en6, R6, ?_⟩
            rw [f5]
            exact fun B8 r8 H8 e8 R8 => ⟨_, f6, body e8 R8⟩
    | ex c0 en4 m4 =>
      rw [joinX_ex hck f1] at hc
      rw [← hc] at h3
      refine ⟨sim.go i e5.sub pre3 R3 hck hlt, fun _ => False, fun H4 q => q.elim, fun x_ H4 y => ?_⟩
      obtain ⟨B4, e6, R4, hz2, sH⟩ := sim.yld i e5.sub pre3 R3 hck y (List.getElem?_eq_getElem hlt)
      rw [← hf] at f1
      unfold compFx at f1
      cases f3 : bindT tg zs[i] m3 en3 with
      | none => rw [f3] at f1; cases f1
      | some en6 =>
        rw [f3] at f1
        have f1 : ((if isNil c = true then (Mp.R.ok true en6 m3 : Mp.R Bool) else (ev cs gl c en6 m3).noex.bind fun t en m => Mp.opt (blR t) fun t => .ok t en m).bind fun t en m =>
          if t then (match ev cs gl elt en m with
            | .ok x en m => Mp.opt2 (esc x en) fun w en => .ok (some w) (wipeE en js) m
            | .ex c en m => .ex c (wipeE en js) m
            | .bad => .bad) else .ok none (wipeE en js) m) = Mp.R.ex c0 en4 m4 := f1
        refine ⟨B4, r3, upd P D (.lst acc), m3, en3, _, en6, R4, hz2, f3, fun us R6 => ⟨?_, ?_⟩⟩
        · rw [← hj]; exact wipe_setN js us σ
        · rw [← hj] at R6 ⊢
          have body : ∀ {B7 : Hp} {r7 : List Addr} {H7 : Hp} {t : Bool} {en7 : En} {m7 : Sto} {K : V → Hp → Prop} {K2 : Prop}, (if t then (match ev cs gl elt en7 m7 with
            | .ok x en m => Mp.opt2 (esc x en) fun w en => (Mp.R.ok (some w) (wipeE en js) m : Mp.R (Option W))
            | .ex c en m => .ex c (wipeE en js) m
            | .bad => .bad) else .ok none (wipeE en7 js) m7) = Mp.R.ex c0 en4 m4 → Ext (upd P D (.lst acc)) B4 r3 B7 r7 → Rel T B7 r7 (upd P D (.lst acc)) m7 en7 (setN js us (L2.wipe σ js)) H7 →
              (if t = true then SE T xc cs gl (fun cls d _ H => Wx cls d σ H) elt (setN js us (L2.wipe σ js)) H7 K else K2) := fun {B7 r7 H7 t en7 m7 K K2} f1 e7 R7 => by
            have e47 : Ext P B2 r1 B7 r7 := e4.trans ((e6.weak sp).trans (e7.weak sp))
            cases t with
            | false => cases f1
            | true =>
              rw [if_pos rfl] at f1
              cases f5 : ev cs gl elt en7 m7 with
              | bad => rw [f5] at f1; cases f1
              | ok x2 en8 m8 =>
                rw [f5] at f1
                exfalso
                have f1 : Mp.opt2 (esc x2 en8) (fun w en => (Mp.R.ok (some w) (wipeE en js) m8 : Mp.R (Option W))) = Mp.R.ex c0 en4 m4 := f1
                cases q : esc x2 en8 with
                | none => rw [q] at f1; cases f1
                | some p => rw [q] at f1; cases f1
              | ex c8 en8 m8 =>
                rw [f5] at f1
                simp only [Mp.R.ex.injEq] at f1
                obtain ⟨rfl, rfl, rfl⟩ := f1
                refine iteT ⟨B7, r7, _, m7, en7, R7, ?_⟩
                rw [f5]
                intro B8 r8 H8 e8 R8
                have e48 : Ext P B2 r1 B8 r8 := e47.trans (e8.weak sp)
                have R9 := R8.wipe js
                rw [wipe_setN] at R9
                exact h3 B8 r8 H8 e48 (R2.rest e48 (R9.weak sp))
          by_cases hn : isNil c = true
          · rw [if_pos hn] at f1
            exact .inl ⟨hn, body f1 Ext.refl R6⟩
          · have hn : isNil c = false := by simpa using hn
            rw [if_neg (by rw [hn]; exact Bool.false_ne_true)] at f1
            cases f5 : ev cs gl c en6 m3 with
            | bad => rw [f5] at f1; cases f1
            | ex c8 en8 m8 => rw [f5] at f1; cases f1
            | ok x2 en8 m8 =>
              rw [f5] at f1
              have f1 : (Mp.opt (blR x2) fun t => (Mp.R.ok t en8 m8 : Mp.R Bool)).bind _ = Mp.R.ex c0 en4 m4 := f1
              cases f6 : blR x2 with
              | none => rw [f6] at f1; cases f1
              | some t2 =>
                rw [f6] at f1
                refine .inr ⟨hn, B4, r3, _, m3, en6, R6, ?_⟩
                rw [f5]
                exact fun B8 r8 H8 e8 R8 => ⟨_, f6, body f1 e8 R8⟩
  · left
    have e : i = zs.length := by omega
    subst e
    rw [List.drop_length] at hc
    unfold compLx at hc
    have hck : chk ck m3 = true := by
      cases q : chk ck m3 with
      | true => rfl
      | false =>
        rw [q, if_neg Bool.false_ne_true] at hc
        exact absurd hc.symm xb
    rw [if_pos hck] at hc
    have hc : Mp.R.ok (wacc ++ []) en3 m3 = x := hc
    rw [List.append_nil] at hc
    rw [← hc] at h3
    refine ⟨sim.stop e5.sub pre3 R3 hck, ?_⟩
    have R6 := R2.rest e4 (R3.weak sp)
    refine h3 B3 r3 H3 e4 R6 _ ⟨D, rfl, ⟨⟨acc, R3.s.ph D _ upd_same, la⟩, hB3, hP, fun z => ?_⟩, fun j ys hj2 e => ?_⟩
    · have := (R3.s.fr D z).2
      rw [upd_same] at this; cases this
    · obtain ⟨q, q1, q2⟩ := R6.e.own_at hj2
      rw [e] at q1; cases q1
      rw [restE_get] at hj2
      have l2 : en3.length = σ.length := by rw [R3.e.len, wipe_length]
      by_cases cj : j ∈ js
      · by_cases cl : j < en3.length
        · rw [if_pos ⟨cj, cl⟩] at hj2
          simp only [Option.some.injEq] at hj2
          exact frzE_val en1 js cj (enGet_some hj2)
        · rw [if_neg fun z => cl z.2, List.getElem?_eq_none (by omega)] at hj2; cases hj2
      · rw [if_neg fun z => cj z.1] at hj2
        obtain ⟨q, q3, q4⟩ := R3.e.own_at hj2
        rw [wipe_get, if_neg fun z => cj z.1, e] at q3
        cases q3
        have := q4.np
        rw [upd_same] at this; cases this
end
end Mp
set_option Elab.async false
set_option linter.all false
set_option maxRecDepth 100000
set_option maxHeartbeats 4000000
/-! objects: attributes, methods, makings, dicts -/
namespace Mp
open PySem PySem.Spec PyProof.Rows L2
section
variable {κ : Type} {T : Tab} {B B2 P H : Hp} {r r2 : List Addr} {m : Sto} {en : En} {σ : Slo}
theorem RepK.look : ∀ {vs : List (Str × V)} {ws : List (Str × W)} {x : Str} {w : W}, RepK T B r vs ws → ws.lookup x = some w → ∃ v, vs.lookup x = some v ∧ Rep T B r v w
  | _, _, _, _, .nil, e => by simp at e
  | _, _, x, w, .cons (k := k) h l, e => by
    by_cases c : (x == k) = true
    · simp only [List.lookup, c] at e ⊢
      cases e
      exact ⟨_, rfl, h⟩
    · have c : (x == k) = false := by simpa using c
      simp only [List.lookup, c] at e ⊢
      exact RepK.look l e
theorem RepK.lookN : ∀ {vs : List (Str × V)} {ws : List (Str × W)} {x : Str}, RepK T B r vs ws → ws.lookup x = none → vs.lookup x = none
  | _, _, _, .nil, e => rfl
  | _, _, x, .cons (k := k) h l, e => by
    by_cases c : (x == k) = true
    · simp only [List.lookup, c] at e
      cases e
    · have c : (x == k) = false := by simpa using c
      simp only [List.lookup, c] at e ⊢
      exact RepK.lookN l e
theorem RepK.len : ∀ {vs : List (κ × V)} {ws : List (κ × W)}, RepK T B r vs ws → vs.length = ws.length
  | _, _, .nil => rfl
  | _, _, .cons _ l => by rw [List.length_cons, List.length_cons, RepK.len l]
theorem RepK.putF {v : V} {w : W} (hw : Rep T B r v w) (x : Str) : ∀ {vs : List (Str × V)} {ws : List (Str × W)}, RepK T B r vs ws → RepK T B r (L2.putF x v vs) (putFA x w ws)
  | _, _, .nil => .cons hw .nil
  | _, _, .cons (k := k) h l => by
    unfold L2.putF putFA
    by_cases c : k = x
    · rw [if_pos c, if_pos c]; exact .cons hw l
    · rw [if_neg c, if_neg c]; exact .cons h (RepK.putF hw x l)
theorem RepK.val : ∀ {vs : List (Key × V)} {ws : List (Key × W)} {k : Key} {w : W}, RepK T B r vs ws → valA ws k = some w → ∃ v, valV vs k = some v ∧ Rep T B r v w
  | _, _, _, _, .nil, e => by cases e
  | _, _, x, w, .cons (k := k) h l, e => by
    by_cases c : k = x
    · simp only [valA, List.find?_cons, c, decide_true, Option.map_some, Option.some.injEq] at e
      subst e
      exact ⟨_, by simp only [valV, List.find?_cons, c, decide_true, Option.map_some], h⟩
    · simp only [valA, List.find?_cons, c, decide_false] at e
      obtain ⟨v, h1, h2⟩ := RepK.val l e
      exact ⟨v, by simp only [valV, List.find?_cons, c, decide_false]; exact h1, h2⟩
theorem RepK.valN : ∀ {vs : List (Key × V)} {ws : List (Key × W)} {k : Key}, RepK T B r vs ws → valA ws k = none → valV vs k = none
  | _, _, _, .nil, e => rfl
  | _, _, x, .cons (k := k) h l, e => by
    by_cases c : k = x
    · simp [valA, List.find?_cons, c] at e
    · simp only [valA, List.find?_cons, c, decide_false] at e
      simp only [valV, List.find?_cons, c, decide_false]
      exact RepK.valN l e
theorem RepK.any : ∀ {vs : List (Key × V)} {ws : List (Key × W)} (q : Key → Bool), RepK T B r vs ws → (vs.any fun kv => q kv.1) = ws.any fun kv => q kv.1
  | _, _, _, .nil => rfl
  | _, _, q, .cons h l => by rw [List.any_cons, List.any_cons, RepK.any q l]
theorem RepK.app : ∀ {vs us : List (κ × V)} {ws zs : List (κ × W)}, RepK T B r vs ws → RepK T B r us zs → RepK T B r (vs ++ us) (ws ++ zs)
  | _, _, _, _, .nil, q => q
  | _, _, _, _, .cons h l, q => .cons h (RepK.app l q)
theorem RepK.mapK {v : V} {w : W} (hw : Rep T B r v w) (x : Key) : ∀ {vs : List (Key × V)} {ws : List (Key × W)}, RepK T B r vs ws → RepK T B r (vs.map fun kv => if kv.1 = x then (kv.1, v) else kv) (ws.map fun kv => if kv.1 = x then (kv.1, w) else kv)
  | _, _, .nil => .nil
  | _, _, .cons (k := k) h l => by
    rw [List.map_cons, List.map_cons]
    by_cases c : k = x
    · simp only [c, if_true]
      exact .cons hw (by simpa [c] using RepK.mapK hw x l)
    · simp only [c, if_false]
      exact .cons h (RepK.mapK hw x l)
theorem RepK.putK {v : V} {w : W} (hw : Rep T B r v w) (x : Key) {vs : List (Key × V)} {ws : List (Key × W)} (h : RepK T B r vs ws) : RepK T B r (L2.putK vs x v) (putA_ ws x w) := by
  unfold L2.putK putA_
  rw [RepK.any (fun k => decide (k = x)) h]
  split
  · exact h.mapK hw x
  · exact h.app (.cons hw .nil)
theorem RepK.keys : ∀ {vs : List (Key × V)} {ws : List (Key × W)}, RepK T B r vs ws → RepL T B r (vs.map fun kv => kV kv.1) (ws.map fun q => keyToW q.1)
  | _, _, .nil => .nil
  | _, _, .cons (k := k) h l => by
    rw [List.map_cons, List.map_cons]
    refine .cons ?_ (RepK.keys l)
    cases k with
    | inl i => exact .int i
    | inr s => exact .str s
theorem key_of {x : RV} {k : Key} {v : V} (e : keyR x = some k) (h : RepR T B r P en σ H v x) : v = kV k := by
  cases x with
  | val w =>
    cases w with
    | int i => cases e; cases h; rfl
    | str s => cases e; cases h; rfl
    | _ => cases e
  | _ => cases e
theorem ins_of (R : RelS T B r P m H) {v : V} {w : W} {c : Nat} {fs : List (Str × W)} (h : RepT T B r H v w) (e : insW m w = some (c, fs)) :
    ∃ i a dx vs, w = .ref i ∧ r[i]? = some a ∧ m[i]? = some (.ins c fs) ∧ v = .ref a ∧ H a = some (.ins (T.ca c) dx vs) ∧ RepK T B r vs fs := by
  cases w with
  | ref i =>
    unfold insW at e
    cases q : m[i]? with
    | none => simp [q] at e
    | some ob =>
      cases ob with
      | ins c2 fs2 =>
        simp only [q, Option.some.injEq, Prod.mk.injEq] at e
        obtain ⟨rfl, rfl⟩ := e
        obtain ⟨a, o, h1, h2, h3⟩ := R.ob i _ q
        rcases h with h | ⟨_, _, _, _, h, _⟩
        · cases h with
          | ref h0 =>
            rw [h0] at h1; cases h1
            cases h3 with
            | ins l => exact ⟨i, _, _, _, rfl, h0, q, rfl, h2, l⟩
        · cases h
      | _ => simp [q] at e
  | _ => cases e
theorem dic_of0 (R : RelS T B r P m H) {v : V} {i : Nat} {kvs : List (Key × W)} (h : RepT T B r H v (.ref i)) (q : m[i]? = some (.dic kvs)) :
    ∃ a vs, r[i]? = some a ∧ v = .ref a ∧ H a = some (.dK vs) ∧ RepK T B r vs kvs := by
  obtain ⟨a, o, h1, h2, h3⟩ := R.ob i _ q
  rcases h with h | ⟨_, _, _, _, h, _⟩
  · cases h with
    | ref h0 =>
      rw [h0] at h1; cases h1
      cases h3 with
      | dic l => exact ⟨_, _, h0, rfl, h2, l⟩
  · cases h
theorem dic_of (R : RelS T B r P m H) {v : V} {w : W} {kvs : List (Key × W)} (h : RepT T B r H v w) (e : dicW m w = some kvs) :
    ∃ i a vs, w = .ref i ∧ r[i]? = some a ∧ v = .ref a ∧ Rd H a (.dK vs) ∧ RepK T B r vs kvs := by
  cases w with
  | ref i =>
    unfold dicW at e
    cases q : m[i]? with
    | none => simp [q] at e
    | some ob =>
      cases ob with
      | dic k2 =>
        simp only [q, Option.some.injEq] at e
        subst e
        obtain ⟨a, vs, h1, h2, h3, h4⟩ := dic_of0 R h q
        exact ⟨i, a, vs, rfl, h1, h2, .inl h3, h4⟩
      | lk k2 =>
        simp only [q, Option.some.injEq] at e
        subst e
        obtain ⟨a, o, h1, h2, h3⟩ := R.ob i _ q
        rcases h with h | ⟨_, _, _, _, h, _⟩
        · cases h with
          | ref h0 =>
            rw [h0] at h1; cases h1
            cases h3 with
            | lk l => exact ⟨i, _, _, rfl, h0, rfl, .inr ⟨_, h2⟩, l⟩
        · cases h
      | _ => simp [q] at e
  | _ => cases e
theorem ref_keep {i : Nat} {a : Addr} (s : r <+: r2) (h : r[i]? = some a) : r2[i]? = some a := pre_get s h
theorem RepT.ref {i : Nat} {v : V} (h : RepT T B r H v (.ref i)) : ∃ a, v = .ref a ∧ r[i]? = some a := by
  rcases h with h | ⟨_, _, _, _, h, _⟩
  · cases h with
    | ref h0 => exact ⟨_, rfl, h0⟩
  · cases h
end
section
variable {T : Tab} {xc : Nat → Value} {S : Sta} {cs : Nat → List W → Sto → CR} {gl : List W} {k : Nat} {N : List Str} {fb : Str → Bool} {sc : Scope} {Wx : WX} {X : Cx}
theorem snd_fld (C : CxOk T xc S cs gl k N fb sc Wx X) {a : E} {x : Str} {cl : List Nat} {pa : Expr} {pos : Pos} (hb : baseB pa = true) (hc : ∀ c ∈ cl, ∃ ci, S.cls[c]? = some ci ∧ x ∈ ci.flds) (ha : PE X pa (SE T xc cs gl Wx a)) :
    PE X (.Attribute pa x pos) (SE T xc cs gl Wx (.fld a x cl)) := by
  refine (pe_fld ha (base_of hb)).imp fun σ H Q z => ?_
  obtain ⟨B, r, P, m, en, R, g⟩ := z
  simp only [ev] at g
  refine SG.go R (g.bind fun y en1 m1 B1 r1 H1 e1 R1 h1 v hv => ?_)
  obtain ⟨w, e2, h2⟩ := h1.opt
  obtain ⟨z, e3, h3⟩ := h2.opt
  unfold fldR at e3
  cases q : insW m1 w with
  | none => rw [q] at e3; cases e3
  | some cf =>
    obtain ⟨c, fs⟩ := cf
    rw [q] at e3
    simp only [Option.bind_some] at e3
    split at e3
    · rename_i hcl
      obtain ⟨i, ad, dx, vs, rfl, g1, g2, rfl, g4, g5⟩ := ins_of R1.s (R1.top hv e2) q
      obtain ⟨ci, k1, k2⟩ := hc c (by simpa using hcl)
      obtain ⟨d1, d2, _⟩ := C.md.cls c ci k1
      obtain ⟨v, l1, l2⟩ := g5.look e3
      rw [C.eK]
      exact ⟨ad, T.ca c, dx, vs, v, rfl, g4, d1, d2 x k2, l1, h3.fin R1 v l2⟩
    · cases e3
theorem call_back {P : Hp} {m1 : Sto} {en1 : En} {σ : Slo} {H1 : Hp} {B1 : Hp} {r1 : List Addr} {Q : VK} {x : CR} (R1 : Rel T B1 r1 P m1 en1 σ H1)
    (h : PostG T xc Wx P σ B1 r1 (x.toR en1) fun x en m B2 r2 H2 => ∀ v, RepR T B2 r2 P en σ H2 v x → Q v H2) : CPost T xc (outP r1 H1) B1 r1 x Q (WE Wx σ) := by
  cases x with
  | ok a m2 =>
    intro v B2 r2 H2 e2 S2 hv
    obtain ⟨e3, R3⟩ := R1.back e2 S2
    exact h B2 r2 H2 e3 R3 v (R1.back_new S2 hv)
  | ex c m2 =>
    intro B2 r2 H2 e2 S2
    obtain ⟨e3, R3⟩ := R1.back e2 S2
    exact h B2 r2 H2 e3 R3
  | bad => exact h
theorem mem_lookup : ∀ {cf : List (Nat × Nat)} {c f : Nat}, cf.lookup c = some f → (c, f) ∈ cf
  | [], _, _, e => by simp at e
  | (c2, f2) :: cf, c, f, e => by
    by_cases cc : (c == c2) = true
    · simp only [List.lookup, cc] at e
      cases e
      have := eq_of_beq cc
      subst this
      exact List.mem_cons_self
    · have cc : (c == c2) = false := by simpa using cc
      simp only [List.lookup, cc] at e
      exact List.mem_cons_of_mem _ (mem_lookup e)
theorem snd_mcall (C : CxOk T xc S cs gl k N fb sc Wx X) (hcB : S.cB = true) {a es : E} {x : Str} {cf : List (Nat × Nat)} {n : Nat} {pa : Expr} {qs : List Expr} {ap pos : Pos} (hb : baseB pa = true) (hl : (ap.endLine == pos.line) = true) (hq : qs.length < 29)
    (hc : ∀ q ∈ cf, ∃ ci, S.cls[q.1]? = some ci ∧ (x, q.2) ∈ ci.mts ∧ ∃ y, S.fns[q.2]? = some (y, n + 1)) (hs : ∀ q ∈ qs, noStar q = true) (hnil : qs = [] → es = .nil) (ha : PE X pa (SE T xc cs gl Wx a)) (he : PA X qs (SA T xc cs gl Wx es)) :
    PE X (.Call (.Attribute pa x ap) qs [] pos) (SE T xc cs gl Wx (.mcall a x cf n es)) := by
  refine ⟨fun pins s σ H Q I z => ?_⟩
  obtain ⟨B, r, P, m, en, R, g⟩ := z
  simp only [ev] at g
  -- the class is known ahead
  cases hx : ev cs gl a en m with
  | bad => rw [hx] at g; exact g.elim
  | ex c0 en0 m0 => rw [hx] at g; exact g.elim
  | ok y en1 m1 =>
    rw [hx] at g
    have g : PostG T xc Wx P σ B r (Mp.opt (rvW en1 y) fun w => Mp.opt (mthR m1 x cf w) fun f => (evs cs gl es en1 m1).bind fun ws en m => if ws.length = n then (cs f (w :: ws) m).toR en else .bad) _ := g
    obtain ⟨w, e2, g⟩ := g.opt
    obtain ⟨f, e3, g⟩ := g.opt
    unfold mthR at e3
    cases q : insW m1 w with
    | none => rw [q] at e3; cases e3
    | some cfs =>
      obtain ⟨c, fs⟩ := cfs
      rw [q] at e3
      simp only [Option.bind_some] at e3
      split at e3
      · rename_i hnone
        have hnone : fs.lookup x = none := by simpa using hnone
        have hm : (c, f) ∈ cf := mem_lookup e3
        obtain ⟨ci, k1, k2, y2, k3⟩ := hc (c, f) hm
        obtain ⟨d1, d2, d3, _⟩ := C.md.cls c ci k1
        obtain ⟨fd, ps, g1, g2, g3, g4⟩ := C.md.fns f y2 (n + 1) k3
        have F : FnOk X.prog X.w X.K X.mg X.base (L2.CX X.prog X.w) (2 * k) (T.fa f) fd ps (spF T xc cs f (n + 1)) := by rw [C.eK]; exact g4
        have cl : Cls X.K (T.ca c) := by rw [C.eK]; exact d1
        have mt : Meth X.K (T.ca c) x (T.fa f) := by rw [C.eK]; exact d3 x f k2
        have bn : L2.Binds X.K fd ps [] := by rw [C.eK]; exact g3
        have hev := meth_eval (o := pa) (m := x) (ap := ap) (pos := pos) (es := qs) (env := X.env) (base_of hb) (few_of hs hq) hl
        have key : tMethS (T.ca c) x (spF T xc cs f (n + 1)) (WE Wx) (SE T xc cs gl Wx a) (SA T xc cs gl Wx es) σ H Q := by
          refine SG.go R ?_
          rw [hx]
          intro B1 r1 H1 e1 R1 v hv
          have g := PostG.mono e1 g
          obtain ⟨i, ad, dx, vs, rfl, j1, j2, rfl, j4, j5⟩ := ins_of R1.s (R1.top hv e2) q
          refine ⟨ad, dx, vs, rfl, j4, j5.lookN hnone, B1, r1, P, m1, en1, R1, g.bind fun ws en2 m2 B2 r2 H2 e4 R2 h2 us hus => ?_⟩
          obtain ⟨hn, h3⟩ := h2.ifp
          refine ⟨by rw [List.length_cons, hus.len, hn], B2, r2, outP r2 H2, m2, W.ref i :: ws, R2.s.out, .cons (.ref (ref_keep e4.pre j1)) hus, ?_⟩
          exact call_back R2 h3
        cases qs with
        | nil =>
          refine (pe_methX0 ha cl mt F ((C.room hcB).mono (by omega)) bn C.tk hev).run pins s σ H Q I ?_
          obtain ⟨B0, r0, P0, m0, en0, R0, key⟩ := key
          refine ⟨B0, r0, P0, m0, en0, R0, key.imp fun y0 en1 m1 B1 r1 H1 e1 R1 h1 v hv => ?_⟩
          obtain ⟨ad, dx, fs, j1, j2, j3, j4⟩ := h1 v hv
          refine ⟨ad, dx, fs, j1, j2, j3, ?_⟩
          have e0 := hnil rfl
          subst e0
          obtain ⟨B2, r2, P2, m2, en2, R2, g2⟩ := j4
          simp only [evs] at g2
          exact g2.fin R2 [] .nil
        | cons q0 qs =>
          exact (pe_methX ha cl mt F ((C.room hcB).mono (by omega)) bn C.tk he (star_of (hs _ List.mem_cons_self)) (back_no fun r hr => hs r (List.mem_cons_of_mem _ hr)) hev).run pins s σ H Q I key
      · cases e3
theorem add_new {P : Hp} {m : Sto} {en : En} {σ : Slo} {B H : Hp} {r : List Addr} {p : Addr} {o : HO} {b : Ob} (R : Rel T B r P m en σ H) (hp : H p = none) (hv : b.un = true) (ob : RepO T B (r ++ [p]) o b) : Ext P B r B (r ++ [p]) ∧ Rel T B (r ++ [p]) P (m ++ [b]) en σ (upd H p o) ∧ (r ++ [p])[m.length]? = some p := by
  refine ⟨⟨Sub.refl B, List.prefix_append r [p], fun _ _ => rfl⟩, (R.grow (Sub.new hp)).add_sto (R.s.bh.none hp) (R.s.ph.none hp) (R.no_sto hp) upd_same hv ob fun j zs hj e => ?_, ?_⟩
  · obtain ⟨q, e1, o⟩ := R.e.own_at hj
    rw [e] at e1; cases e1
    obtain ⟨vs, b1, _⟩ := o.at_
    rw [hp] at b1; cases b1
  · rw [List.getElem?_append_right (by rw [R.s.len]; exact Nat.le_refl _), R.s.len, Nat.sub_self]; rfl
theorem make_rd {ci : CI} {c f n : Nat} {es : E} (hf : ci.ini = f) {σ : Slo} {H : Hp} {Q : VK} (z : SE T xc cs gl Wx (.make c f n es) σ H Q) : tMakeS (T.ca c) (spF T xc cs ci.ini (n + 1)) (WE Wx) (SA T xc cs gl Wx es) σ H Q := by
  subst hf
  obtain ⟨B, r, P, m, en, R, g⟩ := z
  simp only [ev] at g
  refine ⟨B, r, P, m, en, R, g.bind fun ws en1 m1 B1 r1 H1 e1 R1 h1 vs hvs ad dx ha hdx hne => ?_⟩
  obtain ⟨hl, h1⟩ := h1.ifp
  have hne2 : ad ≠ dx := fun z => hne z.symm
  obtain ⟨e2, R2, g5⟩ := add_new (b := .ins c []) (R1.grow (Sub.new (o := .own ad) hdx)) (p := ad) (o := .ins (T.ca c) dx []) (by rw [upd_ne hne2]; exact ha) rfl (.ins .nil)
  refine ⟨by rw [List.length_cons, hvs.len, hl], B1, r1 ++ [ad], outP (r1 ++ [ad]) _, m1 ++ [.ins c []], W.ref m1.length :: ws, R2.s.out, .cons (.ref g5) (hvs.mono e2.sub e2.pre), ?_⟩
  revert h1
  cases cs ci.ini (.ref m1.length :: ws) (m1 ++ [.ins c []]) with
  | ok a m2 =>
    cases a with
    | val w =>
      cases w with
      | non =>
        intro h1 v B2 r2 H2 e3 S2 hv
        cases hv
        obtain ⟨e4, R4⟩ := R2.back e3 S2
        exact ⟨rfl, h1 B2 r2 H2 (e2.trans e4) R4 (.ref ad) (.ref (pre_get e4.pre g5))⟩
      | _ => intro h1; exact h1.elim
    | _ => intro h1; exact h1.elim
  | ex c2 m2 =>
    intro h1 B2 r2 H2 e3 S2
    obtain ⟨e4, R4⟩ := R2.back e3 S2
    exact h1 B2 r2 H2 (e2.trans e4) R4
  | bad => intro h1; exact h1.elim
theorem snd_make (C : CxOk T xc S cs gl k N fb sc Wx X) (hcB : S.cB = true) {c f n : Nat} {x : Str} {es : E} {q : Expr} {qs : List Expr} {p pos : Pos} {ci : CI} (hc : S.cls[c]? = some ci) (hx : x = ci.nm) (hf : ci.ini = f) (hn : ∃ y, S.fns[f]? = some (y, n + 1)) (hg : glB sc x = true) (hp : plB x = true)
    (hs : ∀ r ∈ q :: qs, noStar r = true) (he : PA X (q :: qs) (SA T xc cs gl Wx es)) : PE X (.Call (.Name x p) (q :: qs) [] pos) (SE T xc cs gl Wx (.make c f n es)) := by
  subst hx hf
  obtain ⟨d1, _, _, d4, d5⟩ := C.md.cls c ci hc
  obtain ⟨y, hy⟩ := hn
  obtain ⟨fd, ps, g1, g2, g3, g4⟩ := C.md.fns ci.ini y (n + 1) hy
  obtain ⟨e1, _, _⟩ := pl_of hp
  have F : FnOk X.prog X.w X.K X.mg X.base (L2.CX X.prog X.w) (2 * k) (T.fa ci.ini) fd ps (spF T xc cs ci.ini (n + 1)) := by rw [C.eK]; exact g4
  refine (pe_makeX (by rw [C.eK]; exact d5) F (C.room hcB) (gl_of C.es hg) d4 (by rw [C.eK]; exact g3) C.tk he e1 (star_of (hs _ List.mem_cons_self)) (back_no fun r hr => hs r (List.mem_cons_of_mem _ hr))).imp fun σ H Q z => make_rd rfl z
theorem snd_make0 (C : CxOk T xc S cs gl k N fb sc Wx X) (hcB : S.cB = true) {c f n : Nat} {x : Str} {p pos : Pos} {ci : CI} (hc : S.cls[c]? = some ci) (hx : x = ci.nm) (hf : ci.ini = f) (hn : ∃ y, S.fns[f]? = some (y, n + 1)) (hg : glB sc x = true) (hp : plB x = true) :
    PE X (.Call (.Name x p) [] [] pos) (SE T xc cs gl Wx (.make c f n .nil)) := by
  subst hx hf
  obtain ⟨d1, _, _, d4, d5⟩ := C.md.cls c ci hc
  obtain ⟨y, hy⟩ := hn
  obtain ⟨fd, ps, g1, g2, g3, g4⟩ := C.md.fns ci.ini y (n + 1) hy
  obtain ⟨e1, _, _⟩ := pl_of hp
  have F : FnOk X.prog X.w X.K X.mg X.base (L2.CX X.prog X.w) (2 * k) (T.fa ci.ini) fd ps (spF T xc cs ci.ini (n + 1)) := by rw [C.eK]; exact g4
  refine (pe_makeX0 (by rw [C.eK]; exact d5) F (C.room hcB) (gl_of C.es hg) d4 (by rw [C.eK]; exact g3) C.tk e1).imp fun σ H Q z => ?_
  have z := make_rd (ci := ci) rfl z
  obtain ⟨B, r, P, m, en, R, g⟩ := z
  simp only [evs] at g
  exact g.fin R [] .nil
theorem snd_dnew {pos : Pos} : PE X (.Dict [] [] pos) (SE T xc cs gl Wx .dnew) := by
  refine pe_dnewK.imp fun σ H Q z p hp => ?_
  obtain ⟨B, r, P, m, en, R, g⟩ := z
  simp only [ev] at g
  obtain ⟨e2, R2, g5⟩ := add_new (b := .dic []) (o := .dK []) R hp rfl (.dic .nil)
  exact g B (r ++ [p]) _ e2 R2 _ (.ref g5)
theorem noSl_of {e : Expr} (h : plainIxB e = true) : NoSl e := by
  cases e <;> first | exact fun _ _ => rfl | cases h
theorem dget_rd {H : Hp} {a : Addr} {kvs : List (Key × V)} {k : Key} (h : Rd H a (.dK kvs)) : DGet H a (kV k) (valV kvs k) := .inl ⟨kvs, k, h, rfl, rfl⟩
theorem dic_later {P : Hp} {m m2 : Sto} {en en2 : En} {σ : Slo} {B B2 H H2 : Hp} {r r2 : List Addr} {v : V} {w : W} {kvs kvs2 : List (Key × W)} (h : RepT T B r H v w) (R : RelS T B r P m H) (e : dicW m w = some kvs) (x : r <+: r2) (R2 : RelS T B2 r2 P m2 H2) (e2 : dicW m2 w = some kvs2) :
    ∃ a vs, v = .ref a ∧ Rd H2 a (.dK vs) ∧ RepK T B2 r2 vs kvs2 := by
  obtain ⟨i, a, vs, rfl, g1, rfl, _, _⟩ := dic_of R h e
  obtain ⟨i2, a2, vs2, e3, j1, e4, j3, j4⟩ := dic_of R2 (v := .ref a) (.inl (.ref (pre_get x g1))) e2
  cases e4
  exact ⟨a, vs2, rfl, j3, j4⟩
theorem dic_is {P : Hp} {m : Sto} {σ : Slo} {B H : Hp} {r : List Addr} {v : V} {w : W} {kvs : List (Key × W)} (h : RepT T B r H v w) (R : RelS T B r P m H) (e : dicW m w = some kvs) : ∃ a vs, v = .ref a ∧ Rd H a (.dK vs) ∧ RepK T B r vs kvs := by
  obtain ⟨i, a, vs, rfl, g1, rfl, g3, g4⟩ := dic_of R h e
  exact ⟨a, vs, rfl, g3, g4⟩
theorem snd_dget (C : CxOk T xc S cs gl k N fb sc Wx X) {a kk : E} {pa pk : Expr} {pos : Pos} (hp : plainIxB pk = true) (ha : PE X pa (SE T xc cs gl Wx a)) (hk : PE X pk (SE T xc cs gl Wx kk)) : PE X (.Subscript pa pk pos) (SE T xc cs gl Wx (.dget a kk .nil)) := by
  have hu := C.un
  refine (pe_dget (by omega) ha hk (noSl_of hp)).imp fun σ H Q z => ?_
  obtain ⟨B, r, P, m, en, R, g⟩ := z
  simp only [ev] at g
  refine SG.go R (g.bind fun y en1 m1 B1 r1 H1 e1 R1 h1 v hv => ?_)
  obtain ⟨w, e2, h2⟩ := h1.opt
  obtain ⟨kvs, e3, h3⟩ := h2.opt
  have hw := R1.top hv e2
  refine SG.go R1 (h3.bind fun y2 en2 m2 B2 r2 H2 e4 R2 h4 u hu => ?_)
  obtain ⟨key, e5, h5⟩ := h4.opt
  rw [if_pos (by rfl)] at h5
  obtain ⟨wv, e6, h6⟩ := h5.opt
  cases q : dicW m2 w with
  | none => rw [q] at e6; cases e6
  | some kvs2 =>
    rw [q] at e6
    obtain ⟨ad, vs, rfl, g1, g2⟩ := dic_later (en := en1) (en2 := en2) (σ := σ) hw R1.s e3 e4.pre R2.s q
    obtain ⟨v2, l1, l2⟩ := g2.val e6
    have ek := key_of e5 hu
    subst ek
    refine ⟨ad, v2, rfl, ?_, h6.fin R2 v2 l2⟩
    rw [← l1]; exact dget_rd g1
theorem snd_dget1 (C : CxOk T xc S cs gl k N fb sc Wx X) {a kk : E} {pa pk : Expr} {ap pos : Pos} (hb : baseB pa = true) (hl : (ap.endLine == pos.line) = true) (n1 : noStar pk = true) (ha : PE X pa (SE T xc cs gl Wx a)) (hk : PE X pk (SE T xc cs gl Wx kk)) :
    PE X (.Call (.Attribute pa "get" ap) [pk] [] pos) (SE T xc cs gl Wx (.dget a kk .non)) := by
  have hu := C.un
  refine (pe_dget1 (by omega) ha hk ⟨base_of hb, few_of (fun q hq => by
    rcases List.mem_cons.mp hq with rfl | hq
    · exact n1
    · cases hq) (show 1 < 29 by decide), hl, by rw [star_of n1]; rfl⟩).imp fun σ H Q z => ?_
  obtain ⟨B, r, P, m, en, R, g⟩ := z
  simp only [ev] at g
  refine SG.go R (g.bind fun y en1 m1 B1 r1 H1 e1 R1 h1 v hv => ?_)
  obtain ⟨w, e2, h2⟩ := h1.opt
  obtain ⟨kvs, e3, h3⟩ := h2.opt
  have hw := R1.top hv e2
  obtain ⟨ad, vs, rfl, g1, g2⟩ := dic_is (σ := σ) hw R1.s e3
  refine ⟨ad, rfl, .inl ⟨vs, g1⟩, SG.go R1 (h3.bind fun y2 en2 m2 B2 r2 H2 e4 R2 h4 u hu => ?_)⟩
  obtain ⟨key, e5, h5⟩ := h4.opt
  rw [if_neg (by decide)] at h5
  have ek := key_of e5 hu
  subst ek
  obtain ⟨kvs3, e8, h8⟩ := PostG.opt h5
  obtain ⟨ad2, vs3, q1, q2, q3⟩ := dic_later (en := en1) (en2 := en2) (σ := σ) hw R1.s e3 e4.pre R2.s e8
  cases q1
  refine ⟨valV vs3 key, dget_rd q2, ?_⟩
  cases c : valA kvs3 key with
  | none =>
    rw [q3.valN c]
    rw [c] at h8
    exact h8.fin R2 .non .non
  | some w3 =>
    obtain ⟨v3, l1, l2⟩ := q3.val c
    rw [l1]
    rw [c] at h8
    exact h8.fin R2 v3 l2
theorem snd_dget2 (C : CxOk T xc S cs gl k N fb sc Wx X) {a kk d : E} {pa pk pd : Expr} {ap pos : Pos} (hb : baseB pa = true) (hl : (ap.endLine == pos.line) = true) (n1 : noStar pk = true) (n2 : noStar pd = true) (hd : isNil d = false) (ha : PE X pa (SE T xc cs gl Wx a)) (hk : PE X pk (SE T xc cs gl Wx kk)) (hpd : PE X pd (SE T xc cs gl Wx d)) :
    PE X (.Call (.Attribute pa "get" ap) [pk, pd] [] pos) (SE T xc cs gl Wx (.dget a kk d)) := by
  have hu := C.un
  have st : starEach [pk, pd] X.env = [(false, eval pk X.env), (false, eval pd X.env)] := by rw [star_of n1, star_of n2]; rfl
  refine (pe_dget2 (by omega) ha hk hpd ⟨base_of hb, few_of (fun q hq => by
    rcases List.mem_cons.mp hq with rfl | hq
    · exact n1
    · rcases List.mem_cons.mp hq with rfl | hq
      · exact n2
      · cases hq) (show 2 < 29 by decide), hl, by rw [st]; rfl⟩).imp fun σ H Q z => ?_
  obtain ⟨B, r, P, m, en, R, g⟩ := z
  simp only [ev] at g
  refine SG.go R (g.bind fun y en1 m1 B1 r1 H1 e1 R1 h1 v hv => ?_)
  obtain ⟨w, e2, h2⟩ := h1.opt
  obtain ⟨kvs, e3, h3⟩ := h2.opt
  have hw := R1.top hv e2
  obtain ⟨ad, vs, rfl, g1, g2⟩ := dic_is (σ := σ) hw R1.s e3
  refine ⟨ad, rfl, .inl ⟨vs, g1⟩, SG.go R1 (h3.bind fun y2 en2 m2 B2 r2 H2 e4 R2 h4 u hu => ?_)⟩
  obtain ⟨key, e5, h5⟩ := h4.opt
  rw [if_neg (by rw [hd]; exact Bool.false_ne_true)] at h5
  have ek := key_of e5 hu
  subst ek
  refine SG.go R2 (h5.bind fun y3 en3 m3 B3 r3 H3 e6 R3 h6 t ht => ?_)
  obtain ⟨wz, en4, e7, h7⟩ := h6.opt2
  obtain ⟨kvs3, e8, h8⟩ := h7.opt
  obtain ⟨B4, e9, R4, hz⟩ := R3.esc ht e7
  have h8 := PostG.mono e9 h8
  obtain ⟨ad2, vs3, q1, q2, q3⟩ := dic_later (en := en1) (en2 := en4) (σ := σ) hw R1.s e3 (e4.trans (e6.trans e9)).pre R4.s e8
  cases q1
  refine ⟨valV vs3 key, dget_rd q2, ?_⟩
  cases c : valA kvs3 key with
  | none =>
    rw [q3.valN c]
    rw [c] at h8
    exact h8.fin R4 t hz
  | some w3 =>
    obtain ⟨v3, l1, l2⟩ := q3.val c
    rw [l1]
    rw [c] at h8
    exact h8.fin R4 v3 l2
theorem snd_din (C : CxOk T xc S cs gl k N fb sc Wx X) {ng : Bool} {a kk : E} {pa pk : Expr} {pos : Pos} (hs : setB pa = false) (hk : PE X pk (SE T xc cs gl Wx kk)) (ha : PE X pa (SE T xc cs gl Wx a)) :
    Snd T xc cs gl Wx X (.din ng kk a) (.Compare pk [if ng then .NotIn else .In] [pa] pos) := by
  have hu := C.un
  have rd : ∀ σ H Q, SE T xc cs gl Wx (.din ng kk a) σ H Q → SE T xc cs gl Wx kk σ H fun y H1 => SE T xc cs gl Wx a σ H1 fun x H2 => ∃ ad o, x = .ref ad ∧ DGet H2 ad y o ∧ Q (.bl (o.isSome != ng)) H2 := fun σ H Q z => by
    obtain ⟨B, r, P, m, en, R, g⟩ := z
    simp only [ev] at g
    refine SG.go R (g.bind fun y en1 m1 B1 r1 H1 e1 R1 h1 v hv => ?_)
    obtain ⟨key, e2, h2⟩ := h1.opt
    have ek := key_of e2 hv
    subst ek
    refine SG.go R1 (h2.bind fun y2 en2 m2 B2 r2 H2 e4 R2 h4 u hu => ?_)
    obtain ⟨w, e3, h5⟩ := h4.opt
    obtain ⟨kvs, e5, h6⟩ := h5.opt
    obtain ⟨ad, vs, rfl, g1, g2⟩ := dic_is (σ := σ) (R2.top hu e3) R2.s e5
    refine ⟨ad, valV vs key, rfl, dget_rd g1, ?_⟩
    cases c : valA kvs key with
    | none => rw [g2.valN c]; rw [c] at h6; exact h6.fin R2 _ (.bl _)
    | some w3 =>
      obtain ⟨v3, l1, _⟩ := g2.val c
      rw [l1]; rw [c] at h6; exact h6.fin R2 _ (.bl _)
  cases ng with
  | false =>
    refine ⟨(pe_cmp (pc_din (by omega) hk ha) (noSet_of hs)).imp fun σ H Q z => ?_, fun _ => (pt_cmp (pc_din (by omega) hk ha) (noSet_of hs)).imp fun σ H Q z => ?_⟩
    · obtain ⟨B, r, P, m, en, R, g⟩ := rd σ H Q z
      refine ⟨B, r, P, m, en, R, g.imp fun y en1 m1 B1 r1 H1 e1 R1 h1 v hv => ?_⟩
      obtain ⟨B2, r2, P2, m2, en2, R2, g2⟩ := h1 v hv
      refine ⟨B2, r2, P2, m2, en2, R2, g2.imp fun y3 en3 m3 B3 r3 H3 e3 R3 h3 v3 hv3 => ?_⟩
      obtain ⟨ad, o, q1, q2, q3⟩ := h3 v3 hv3
      exact ⟨ad, o, q1, q2, by simpa using q3⟩
    · obtain ⟨B, r, P, m, en, R, g⟩ := rd σ H _ (SBG.tB z)
      refine ⟨B, r, P, m, en, R, g.imp fun y en1 m1 B1 r1 H1 e1 R1 h1 v hv => ?_⟩
      obtain ⟨B2, r2, P2, m2, en2, R2, g2⟩ := h1 v hv
      refine ⟨B2, r2, P2, m2, en2, R2, g2.imp fun y3 en3 m3 B3 r3 H3 e3 R3 h3 v3 hv3 => ?_⟩
      obtain ⟨ad, o, q1, q2, q3⟩ := h3 v3 hv3
      exact ⟨ad, o, q1, q2, by simpa using q3⟩
  | true =>
    refine ⟨(pe_cmp (pc_dnotin (by omega) hk ha) (noSet_of hs)).imp fun σ H Q z => ?_, fun _ => (pt_cmp (pc_dnotin (by omega) hk ha) (noSet_of hs)).imp fun σ H Q z => ?_⟩
    · obtain ⟨B, r, P, m, en, R, g⟩ := rd σ H Q z
      refine ⟨B, r, P, m, en, R, g.imp fun y en1 m1 B1 r1 H1 e1 R1 h1 v hv => ?_⟩
      obtain ⟨B2, r2, P2, m2, en2, R2, g2⟩ := h1 v hv
      refine ⟨B2, r2, P2, m2, en2, R2, g2.imp fun y3 en3 m3 B3 r3 H3 e3 R3 h3 v3 hv3 => ?_⟩
      obtain ⟨ad, o, q1, q2, q3⟩ := h3 v3 hv3
      exact ⟨ad, o, q1, q2, by simpa using q3⟩
    · obtain ⟨B, r, P, m, en, R, g⟩ := rd σ H _ (SBG.tB z)
      refine ⟨B, r, P, m, en, R, g.imp fun y en1 m1 B1 r1 H1 e1 R1 h1 v hv => ?_⟩
      obtain ⟨B2, r2, P2, m2, en2, R2, g2⟩ := h1 v hv
      refine ⟨B2, r2, P2, m2, en2, R2, g2.imp fun y3 en3 m3 B3 r3 H3 e3 R3 h3 v3 hv3 => ?_⟩
      obtain ⟨ad, o, q1, q2, q3⟩ := h3 v3 hv3
      exact ⟨ad, o, q1, q2, by simpa using q3⟩
theorem snd_dkeys (C : CxOk T xc S cs gl k N fb sc Wx X) (hcB : S.cB = true) {a : E} {x : Str} {q : Expr} {p pos : Pos} (hx : x = ("list" : Str)) (hg : glB sc x = true) (hn : noStar q = true) (ha : PE X q (SE T xc cs gl Wx a)) :
    PE X (.Call (.Name x p) [q] [] pos) (SE T xc cs gl Wx (.dkeys a)) := by
  subst hx
  refine (pe_callTy (call_listD (C.calm hcB)) (gl_of C.es hg) (C.md.blt _ (by decide +kernel)) (by decide +kernel) (pa_cons ha pa_nil (star_of hn)) (by decide) (by decide) (star_of hn) rfl).imp fun σ H Q z => ?_
  obtain ⟨B, r, P, m, en, R, g⟩ := z
  simp only [ev] at g
  refine SG.go R (g.bind fun y en1 m1 B1 r1 H1 e1 R1 h1 v hv => ?_)
  obtain ⟨w, e2, h2⟩ := h1.opt
  obtain ⟨kvs, e3, h3⟩ := h2.opt
  obtain ⟨ad, vs, rfl, g1, g2⟩ := dic_is (σ := σ) (R1.top hv e2) R1.s e3
  refine ⟨ad, vs, rfl, g1, fun p hp => ?_⟩
  exact h3 B1 r1 _ Ext.refl (R1.grow (Sub.new hp)) _ (R1.new_own hp g2.keys)
end
end Mp
set_option Elab.async false
set_option linter.all false
set_option maxRecDepth 100000
set_option maxHeartbeats 4000000
/-! count, index, dicts that are walked or written out, caught errors -/
namespace Mp
open PySem PySem.Spec PyProof.Rows L2
/-! ### how often, where -/
theorem count_eqU {x : V} : ∀ {xs : List V} {us : List Value}, Vals xs us → xs.all flatV = true → us.countP (eqU x) = xs.countP fun y => eqV y x
  | _, _, .nil, _ => rfl
  | y :: xs, u :: us, .cons r t, f => by
    rw [List.all_cons, Bool.and_eq_true] at f
    rw [List.countP_cons, List.countP_cons, eqU_of r f.1, count_eqU t f.2]
noncomputable def rCntF (K : PySem.W.Frag) : V → List V → Hp → VK → Prop := fun x xs H Q => ∃ (p : Addr) (vs : List V) (y : V), x = .ref p ∧ xs = [y] ∧ SqL K H p vs ∧ flatV y = true ∧ vs.all flatV = true ∧ Q (.int (vs.countP (fun z => eqV z y) : Nat)) H
theorem mt_countF {X : Cx} : MtR X "list.count" (rCntF X.K) := by
  intro pins s σ H x xs v us Q I rx rxs h
  obtain ⟨p, vs, y, rfl, rfl, hs, fy, fvs, q⟩ := h
  cases rx
  obtain ⟨u, rfl, ru⟩ := rxs.one
  obtain ⟨its, rv, ⟨⟨cls, dd, data, sl⟩, n, ho, hc, hdn, hd⟩, hlen⟩ := I.list hs
  simp only at hc hd
  subst hc hd
  have e := count_eqU (x := y) rv fvs
  refine call_meets PySem.F.slot_list_count ⟨_, ho, rfl⟩ PySem.F.entry_list_count (PySem.F.args_list_count_2 _ _) (SeqAt.list_countAt p its.toArray n dd sl u (eqU y)) ⟨ho, fun z hz => mem_eqAt ru fy rv fvs z (by simpa using hz), ?_⟩
  refine ⟨.int (vs.countP (fun z => eqV z y) : Nat), H, I.tok _, ⟨s.toks, ?_⟩, q⟩
  show Value.int ((its.countP (eqU y) : Nat) : Int) s.toks = _
  rw [e]
section
variable {T : Tab} {B P H : Hp} {r : List Addr} {m : Sto}
theorem RepL.countEq {v : V} {w : W} (h : RepT T B r H v w) (f : flatW w = true) : ∀ {vs : List V} {ws : List W}, RepL T B r vs ws → ws.all flatW = true → vs.countP (fun z => eqV z v) = ws.countP fun z => eqFl z w
  | _, _, .nil, _ => rfl
  | _, _, .cons h2 l, fs => by
    rw [List.all_cons, Bool.and_eq_true] at fs
    rw [List.countP_cons, List.countP_cons, (RepT.flat h f).2 h2 fs.1, RepL.countEq h f l fs.2]
theorem countW_some {a : W} {ws : List W} {q : Nat × Nat × Nat} (e : countW m a ws = some q) : ∃ x zs, ws = [x] ∧ lstW m a = some zs ∧ flatW x = true ∧ zs.all flatW = true ∧ q = (zs.countP (fun z => eqFl z x), zs.findIdx (fun z => eqFl z x), zs.length) := by
  unfold countW at e
  split at e
  · rename_i x
    cases c : lstW m a with
    | none => rw [c] at e; cases e
    | some zs =>
      rw [c] at e
      simp only [Option.bind_some] at e
      split at e
      · rename_i h
        rw [Bool.and_eq_true] at h
        cases e
        exact ⟨x, zs, rfl, rfl, h.1, h.2, rfl⟩
      · cases e
  · cases e
end
section
variable {T : Tab} {xc : Nat → Value} {S : Sta} {cs : Nat → List W → Sto → CR} {gl : List W} {k : Nat} {N : List Str} {fb : Str → Bool} {sc : Scope} {Wx : WX} {X : Cx}
theorem snd_count (C : CxOk T xc S cs gl k N fb sc Wx X) {a es : E} {pa q : Expr} {x : Str} {ap pos : Pos} (hx : x = ("count" : Str)) (hb : baseB pa = true) (hl : (ap.endLine == pos.line) = true) (hn : noStar q = true) (ha : PE X pa (SE T xc cs gl Wx a)) (hq : PA X [q] (SA T xc cs gl Wx es)) :
    PE X (.Call (.Attribute pa x ap) [q] [] pos) (SE T xc cs gl Wx (.mth .count a es)) := by
  subst hx
  have hfew := few_of (qs := [q]) (env := X.env) (pos := pos) (fun r hr => by rcases List.mem_cons.mp hr with rfl | hr; exact hn; cases hr) (show 1 < 29 by decide)
  refine (pe_bm PySem.F.plainAttrs_list PySem.F.slot_list_count PySem.F.type_list_count mt_countF ha hq (base_of hb) hfew hl (star_of hn) rfl).imp fun σ H Q z => ?_
  obtain ⟨B, r, P, m, en, R, g⟩ := z
  simp only [ev] at g
  refine SG.go R (g.bind fun y en1 m1 B1 r1 H1 e1 R1 h1 v hv => ?_)
  obtain ⟨ws0, e0, h1⟩ := h1.opt
  obtain ⟨B2, e2, R2, hv2⟩ := R1.hold hv
  unfold rvL at e0
  cases g0 : rvW en1 (hold y) with
  | none => rw [g0] at e0; cases e0
  | some w0 =>
    rw [g0] at e0
    obtain ⟨l, vs0, rfl, d0, _⟩ := RepT.lst R2.s (R2.top hv2 g0) e0
    refine ⟨.inl ⟨rfl, vs0, .inl d0⟩, B2, r1, P, m1, en1, R2, (PostG.mono e2 h1).bind fun zs en3 m3 B3 r3 H3 e3 R3 h3 us hus => ?_⟩
    obtain ⟨⟨c1, c2, c3⟩, e4, h4⟩ := h3.opt
    have hv3 := hv2.held (P2 := P) (en3 := en3) (H3 := H3) e3.sub e3.pre
    obtain ⟨w, g1, e5⟩ := Option.bind_eq_some_iff.mp e4
    obtain ⟨u, ws, rfl, hw, f1, f2, e6⟩ := countW_some e5
    obtain ⟨l2, vs, e7, d, lz⟩ := RepT.lst R3.s (R3.top hv3 g1) hw
    cases e7
    cases hus with
    | cons hu hr =>
      cases hr
      simp only [Prod.mk.injEq] at e6
      obtain ⟨rfl, _, _⟩ := e6
      rw [C.eK]
      refine ⟨l, vs, _, rfl, rfl, .inl d, (RepT.flat (H := H3) (.inl hu) f1).1, lz.flats f2, ?_⟩
      rw [RepL.countEq (H := H3) (.inl hu) f1 lz f2]
      exact h4.fin R3 _ (.int _)
theorem snd_index (C : CxOk T xc S cs gl k N fb sc Wx X) {a es : E} {pa q : Expr} {x : Str} {ap pos : Pos} (hx : x = ("index" : Str)) (hb : baseB pa = true) (hl : (ap.endLine == pos.line) = true) (hn : noStar q = true) (ha : PE X pa (SE T xc cs gl Wx a)) (hq : PA X [q] (SA T xc cs gl Wx es)) :
    PE X (.Call (.Attribute pa x ap) [q] [] pos) (SE T xc cs gl Wx (.mth .index a es)) := by
  subst hx
  have hfew := few_of (qs := [q]) (env := X.env) (pos := pos) (fun r hr => by rcases List.mem_cons.mp hr with rfl | hr; exact hn; cases hr) (show 1 < 29 by decide)
  refine (pe_bm PySem.F.plainAttrs_list PySem.F.slot_list_index PySem.F.type_list_index mt_index ha hq (base_of hb) hfew hl (star_of hn) rfl).imp fun σ H Q z => ?_
  obtain ⟨B, r, P, m, en, R, g⟩ := z
  simp only [ev] at g
  refine SG.go R (g.bind fun y en1 m1 B1 r1 H1 e1 R1 h1 v hv => ?_)
  obtain ⟨ws0, e0, h1⟩ := h1.opt
  obtain ⟨B2, e2, R2, hv2⟩ := R1.hold hv
  unfold rvL at e0
  cases g0 : rvW en1 (hold y) with
  | none => rw [g0] at e0; cases e0
  | some w0 =>
    rw [g0] at e0
    obtain ⟨l, vs0, rfl, d0, _⟩ := RepT.lst R2.s (R2.top hv2 g0) e0
    refine ⟨.inl ⟨rfl, vs0, .inl d0⟩, B2, r1, P, m1, en1, R2, (PostG.mono e2 h1).bind fun zs en3 m3 B3 r3 H3 e3 R3 h3 us hus => ?_⟩
    obtain ⟨⟨c1, c2, c3⟩, e4, h4⟩ := h3.opt
    obtain ⟨hlt, h4⟩ := h4.ifp
    have hv3 := hv2.held (P2 := P) (en3 := en3) (H3 := H3) e3.sub e3.pre
    obtain ⟨w, g1, e5⟩ := Option.bind_eq_some_iff.mp e4
    obtain ⟨u, ws, rfl, hw, f1, f2, e6⟩ := countW_some e5
    obtain ⟨l2, vs, e7, d, lz⟩ := RepT.lst R3.s (R3.top hv3 g1) hw
    cases e7
    cases hus with
    | cons hu hr =>
      cases hr
      simp only [Prod.mk.injEq] at e6
      obtain ⟨_, rfl, rfl⟩ := e6
      have hlt : ws.findIdx (fun z => eqFl z u) < ws.length := hlt
      have hfl := RepT.flat (H := H3) (.inl hu) f1
      obtain ⟨z, hz, rz⟩ := lz.get (List.getElem?_eq_getElem hlt)
      have fz : ∀ (i : Nat) (hi : i < ws.length), flatW ws[i] = true := fun i hi => List.all_eq_true.mp f2 _ (List.getElem_mem hi)
      rw [C.eK]
      refine ⟨l, vs, _, _, z, rfl, rfl, .inl d, hfl.1, lz.flats f2, hz, ?_, fun i z2 hi hz2 => ?_, ?_⟩
      · rw [hfl.2 rz (fz _ hlt)]
        exact List.findIdx_getElem (p := fun z => eqFl z u) (w := hlt)
      · have hi2 : i < ws.length := by omega
        obtain ⟨z3, hz3, rz3⟩ := lz.get (List.getElem?_eq_getElem hi2)
        rw [hz2] at hz3; cases hz3
        rw [hfl.2 rz3 (fz _ hi2)]
        have := List.not_of_lt_findIdx (p := fun z => eqFl z u) hi
        simpa using this
      · exact h4.fin R3 _ (.int _)
theorem snd_lrng2 (C : CxOk T xc S cs gl k N fb sc Wx X) (hcB : S.cB = true) {a b : E} {x y : Str} {q q2 : Expr} {p p2 pos pos2 : Pos} (hx : x = ("list" : Str)) (hy : y = ("range" : Str)) (hg : glB sc x = true) (hg2 : glB sc y = true) (hn : noStar q = true) (hn2 : noStar q2 = true) (ha : PE X q (SE T xc cs gl Wx a)) (hb : PE X q2 (SE T xc cs gl Wx b)) :
    PE X (.Call (.Name x p) [.Call (.Name y p2) [q, q2] [] pos2] [] pos) (SE T xc cs gl Wx (.lrng2 a b)) := by
  subst hx hy
  have s2 : starEach [q2] X.env = [(false, eval q2 X.env)] := star_of hn2
  refine (pe_listRg (C.calm hcB) (gl_of C.es hg) (C.md.blt _ (by decide +kernel)) (prg_2 (gl_of C.es hg2) (C.md.blt _ (by decide +kernel)) ha hb (star_of hn) s2 (by rw [s2]; rfl)) rfl).imp fun σ H Q z => ?_
  obtain ⟨B, r, P, m, en, R, g⟩ := z
  simp only [ev] at g
  refine SG.go R (g.bind fun x en1 m1 B1 r1 H1 e1 R1 h1 v hv => ?_)
  refine SG.go R1 (h1.bind fun y en2 m2 B2 r2 H2 e2 R2 h2 u hu => ?_)
  obtain ⟨n, e, h3⟩ := h2.opt
  obtain ⟨n2, e3, h4⟩ := h3.opt
  obtain ⟨hl, h5⟩ := h4.ifp
  have e := intR_some e
  have e3 := intR_some e3
  subst e e3
  cases hv
  cases hu
  refine ⟨n, n2, rfl, rfl, ⟨by omega, by omega, by omega, by omega, by omega⟩, fun p hp => ?_⟩
  refine h5 B2 r2 _ Ext.refl (R2.grow (Sub.new hp)) _ (R2.new_own hp ?_)
  unfold rgV
  generalize List.range (n2 - n).toNat = ls
  induction ls with
  | nil => exact .nil
  | cons i r ih => exact .cons (.int _) ih
/-! ### a dict that is walked -/
end
section
variable {T : Tab} {B P H : Hp} {r : List Addr} {d : Addr} {o : PySem.Obj} {dv : List (Key × V)}
noncomputable def dropB (B : Hp) (d : Addr) : Hp := fun a => if a = d then none else B a
theorem dropB_ne {a : Addr} (h : a ≠ d) : dropB B d a = B a := by unfold dropB; rw [if_neg h]
theorem dropB_self : dropB B d d = none := by unfold dropB; rw [if_pos rfl]
theorem drop_rd (hB : B d = some (.frz o (.dK dv))) {a : Addr} {u : HO} (hu : ∀ kvs, u ≠ .dK kvs) (hu2 : ∀ ob z, u ≠ .frz ob z) (h : Rd B a u) : Rd (dropB B d) a u := by
  have ne : a ≠ d := fun z => by
    subst z
    rcases h with h | ⟨o2, h⟩
    · rw [hB] at h; cases h; exact hu2 _ _ rfl
    · rw [hB] at h; cases h; exact hu _ rfl
  rcases h with h | ⟨o2, h⟩
  · exact .inl (by rw [dropB_ne ne]; exact h)
  · exact .inr ⟨o2, by rw [dropB_ne ne]; exact h⟩
theorem drop_sqt (hB : B d = some (.frz o (.dK dv))) {K : PySem.W.Frag} {a : Addr} {vs : List V} (h : SqT K B a vs) : SqT K (dropB B d) a vs := by
  rcases h with h | h
  · exact .inl (drop_rd hB (fun _ z => nomatch z) (fun _ _ z => nomatch z) h)
  · exact .inr h
theorem drop_sql (hB : B d = some (.frz o (.dK dv))) {K : PySem.W.Frag} {a : Addr} {vs : List V} (h : SqL K B a vs) : SqL K (dropB B d) a vs := by
  rcases h with h | h
  · exact .inl (drop_rd hB (fun _ z => nomatch z) (fun _ _ z => nomatch z) h)
  · exact .inr h
theorem drop_lst (hB : B d = some (.frz o (.dK dv))) {a : Addr} {vs : List V} (h : Rd B a (.lst vs)) : Rd (dropB B d) a (.lst vs) := drop_rd hB (fun _ z => nomatch z) (fun _ _ z => nomatch z) h
theorem drop_ext (hB : B d = some (.frz o (.dK dv))) {a : Addr} {φ : Heap → Prop} (h : B a = some (.ext φ)) : dropB B d a = some (.ext φ) := by
  have ne : a ≠ d := fun z => by subst z; rw [hB] at h; cases h
  rw [dropB_ne ne]; exact h
mutual
theorem Rep.unlk (hB : B d = some (.frz o (.dK dv))) : ∀ {v : V} {w : W}, Rep T B r v w → Rep T (dropB B d) r v w
  | _, _, .non => .non
  | _, _, .bl b => .bl b
  | _, _, .int i => .int i
  | _, _, .str x => .str x
  | _, _, .lst h l => .lst (drop_lst hB h) (RepL.unlk hB l)
  | _, _, .tup h l => .tup (drop_sqt hB h) (RepL.unlk hB l)
  | _, _, .scr h l => .scr (drop_sql hB h) (RepL.unlk hB l)
  | _, _, .ref h => .ref h
  | _, _, .raw v => .raw v
  | _, _, .fn f => .fn f
  | _, _, .exc c h => .exc c (drop_ext hB h)
theorem RepL.unlk (hB : B d = some (.frz o (.dK dv))) : ∀ {vs : List V} {ws : List W}, RepL T B r vs ws → RepL T (dropB B d) r vs ws
  | _, _, .nil => .nil
  | _, _, .cons h l => .cons (Rep.unlk hB h) (RepL.unlk hB l)
end
theorem RepK.unlk {κ : Type} (hB : B d = some (.frz o (.dK dv))) : ∀ {vs : List (κ × V)} {ws : List (κ × W)}, RepK T B r vs ws → RepK T (dropB B d) r vs ws
  | _, _, .nil => .nil
  | _, _, .cons h l => .cons (h.unlk hB) (RepK.unlk hB l)
theorem RepO.unlk (hB : B d = some (.frz o (.dK dv))) {u : HO} {b : Ob} (h : RepO T B r u b) : RepO T (dropB B d) r u b := by
  cases h with
  | lst l => exact .lst (l.unlk hB)
  | dic l => exact .dic (l.unlk hB)
  | ins l => exact .ins (l.unlk hB)
  | lk l => exact .lk (l.unlk hB)
theorem dicAt_some {m : Sto} {i : Nat} {kvs : List (Key × W)} (e : dicAt m i = some kvs) : m[i]? = some (.dic kvs) := by
  unfold dicAt at e
  split at e
  · cases e; assumption
  · cases e
theorem lkAt_some {m : Sto} {i : Nat} {kvs : List (Key × W)} (e : lkAt m i = some kvs) : m[i]? = some (.lk kvs) := by
  unfold lkAt at e
  split at e
  · cases e; assumption
  · cases e
theorem Rel.lock {m : Sto} {en : En} {σ : Slo} {i : Nat} {kvs : List (Key × W)} (R : Rel T B r P m en σ H) (hi : r[i]? = some d) (hm : m[i]? = some (.dic kvs)) (l : RepK T B r dv kvs) (od : PySem.Obj) :
    Ext P B r (upd B d (.frz od (.dK dv))) r ∧ Rel T (upd B d (.frz od (.dK dv))) r P (m.set i (.lk kvs)) en σ (upd H d (.frz od (.dK dv))) := by
  have hd := List.mem_of_getElem? hi
  have nb : B d = none := R.s.nb_of hi hm rfl
  have np := (R.s.fr d hd).2
  have sb : Sub B (upd B d (.frz od (.dK dv))) := Sub.new nb
  have hl : i < m.length := (List.getElem?_eq_some_iff.mp hm).1
  refine ⟨⟨sb, List.prefix_refl r, fun a ha => upd_ne (fun z => ha (z ▸ np))⟩, ⟨⟨fun a q e => ?_, fun a q e => ?_, R.s.nd, by rw [List.length_set]; exact R.s.len, fun a ha => ⟨?_, (R.s.fr a ha).2⟩, fun j b hj => ?_, fun j ks a hj ha => ?_⟩, R.e.len, fun j s hj => ?_, R.e.dis⟩⟩
  · by_cases c : a = d
    · rw [c, upd_same] at e; cases e; rw [c]; exact upd_same
    · rw [upd_ne c] at e ⊢; exact R.s.bh a q e
  · have c : a ≠ d := fun z => by rw [z, np] at e; cases e
    rw [upd_ne c]; exact R.s.ph a q e
  · by_cases c : a = d
    · exact .inr ⟨od, dv, by rw [c]; exact upd_same⟩
    · exact LkB.upd c (R.s.fr a ha).1
  · by_cases c : i = j
    · subst c
      rw [List.getElem?_set_self hl] at hj; cases hj
      exact ⟨d, _, hi, upd_same, .lk (l.mono sb (List.prefix_refl r))⟩
    · rw [List.getElem?_set_ne c] at hj
      obtain ⟨a, q, e1, e2, e3⟩ := R.s.ob j b hj
      have ne : a ≠ d := fun z => c (nd_ix R.s.nd hi (z ▸ e1))
      exact ⟨a, q, e1, by rw [upd_ne ne]; exact e2, e3.mono sb (List.prefix_refl r)⟩
  · by_cases c : i = j
    · subst c
      rw [hi] at ha; cases ha
      exact ⟨od, dv, upd_same⟩
    · rw [List.getElem?_set_ne c] at hj
      exact (R.s.lkb j ks a hj ha).mono sb
  · obtain ⟨v, e1, e2⟩ := R.e.sl j s hj
    refine ⟨v, e1, ?_⟩
    cases s with
    | val w => exact Rep.mono sb (List.prefix_refl r) e2
    | own zs =>
      obtain ⟨p, rfl, o2⟩ := e2
      have ne : p ≠ d := fun z => o2.nr (z ▸ hd)
      obtain ⟨⟨xs, a1, a2⟩, a3, a4, a5⟩ := o2
      exact ⟨p, rfl, ⟨xs, by rw [upd_ne ne]; exact a1, a2.mono sb (List.prefix_refl r)⟩, by rw [upd_ne ne]; exact a3, a4, a5⟩
theorem Rel.unlock {m : Sto} {en : En} {σ : Slo} {i : Nat} {kvs : List (Key × W)} (R : Rel T B r P m en σ H) (hB : B d = some (.frz o (.dK dv))) (hi : r[i]? = some d) (hm : m[i]? = some (.lk kvs)) :
    Rel T (dropB B d) r P (m.set i (.dic kvs)) en σ (upd H d (.dK dv)) := by
  have hd := List.mem_of_getElem? hi
  have np := (R.s.fr d hd).2
  have hl : i < m.length := (List.getElem?_eq_some_iff.mp hm).1
  obtain ⟨a0, q0, f1, f2, f3⟩ := R.s.ob i _ hm
  rw [hi] at f1; cases f1
  rw [R.s.bh d _ hB] at f2; cases f2
  cases f3 with
  | lk l =>
    refine ⟨⟨fun a q e => ?_, fun a q e => ?_, R.s.nd, by rw [List.length_set]; exact R.s.len, fun a ha => ⟨?_, (R.s.fr a ha).2⟩, fun j b hj => ?_, fun j ks a hj ha => ?_⟩, R.e.len, fun j s hj => ?_, R.e.dis⟩
    · by_cases c : a = d
      · rw [c, dropB_self] at e; cases e
      · rw [dropB_ne c] at e; rw [upd_ne c]; exact R.s.bh a q e
    · have c : a ≠ d := fun z => by rw [z, np] at e; cases e
      rw [upd_ne c]; exact R.s.ph a q e
    · by_cases c : a = d
      · exact .inl (by rw [c]; exact dropB_self)
      · unfold LkB
        rw [dropB_ne c]; exact (R.s.fr a ha).1
    · by_cases c : i = j
      · subst c
        rw [List.getElem?_set_self hl] at hj; cases hj
        exact ⟨d, _, hi, upd_same, .dic (l.unlk hB)⟩
      · rw [List.getElem?_set_ne c] at hj
        obtain ⟨a, q, e1, e2, e3⟩ := R.s.ob j b hj
        have ne : a ≠ d := fun z => c (nd_ix R.s.nd hi (z ▸ e1))
        exact ⟨a, q, e1, by rw [upd_ne ne]; exact e2, e3.unlk hB⟩
    · by_cases c : i = j
      · subst c
        rw [List.getElem?_set_self hl] at hj; cases hj
      · rw [List.getElem?_set_ne c] at hj
        have ne : a ≠ d := fun z => c (nd_ix R.s.nd hi (z ▸ ha))
        unfold LkB
        rw [dropB_ne ne]; exact R.s.lkb j ks a hj ha
    · obtain ⟨v, e1, e2⟩ := R.e.sl j s hj
      refine ⟨v, e1, ?_⟩
      cases s with
      | val w => exact Rep.unlk hB e2
      | own zs =>
        obtain ⟨p, rfl, o2⟩ := e2
        have ne : p ≠ d := fun z => o2.nr (z ▸ hd)
        obtain ⟨⟨xs, a1, a2⟩, a3, a4, a5⟩ := o2
        exact ⟨p, rfl, ⟨xs, by rw [upd_ne ne]; exact a1, a2.unlk hB⟩, by rw [dropB_ne ne]; exact a3, a4, a5⟩
theorem RepR.unlock {en : En} {σ : Slo} {v : V} {x : RV} (hB : B d = some (.frz o (.dK dv))) (hd : d ∈ r) (h : RepR T B r P en σ H v x) : RepR T (dropB B d) r P en σ (upd H d (.dK dv)) v x := by
  cases x with
  | val w => exact Rep.unlk hB h
  | bor j => exact h
  | new ws =>
    obtain ⟨p, rfl, ⟨⟨xs, a1, a2⟩, a3, a4, a5⟩, h3⟩ := h
    have ne : p ≠ d := fun z => a5 (z ▸ hd)
    exact ⟨p, rfl, ⟨⟨xs, by rw [upd_ne ne]; exact a1, a2.unlk hB⟩, by rw [dropB_ne ne]; exact a3, a4, a5⟩, h3⟩
end
section
variable {T : Tab} {xc : Nat → Value} {S : Sta} {cs : Nat → List W → Sto → CR} {gl : List W} {k : Nat} {N : List Str} {fb : Str → Bool} {sc : Scope} {Wx : WX} {X : Cx}
theorem snd_lock {a e : E} {p : Expr} (he : PE X p (SE T xc cs gl Wx e)) : PE X p (SE T xc cs gl Wx (.lock a e)) := by
  refine (pe_lock he).imp fun σ H Q z => ?_
  obtain ⟨B, r, P, m, en, R, g⟩ := z
  simp only [ev] at g
  obtain ⟨i, _, g⟩ := g.opt
  obtain ⟨kvs, ek, g⟩ := g.opt
  have hm := dicAt_some ek
  obtain ⟨d, q, hi, hd, ob⟩ := R.s.ob i _ hm
  cases ob with
  | dic l =>
    rename_i dv
    refine ⟨d, .dK dv, hd, trivial, fun od => ?_⟩
    obtain ⟨e1, R1⟩ := R.lock hi hm l od
    refine ⟨_, r, P, _, en, R1, ?_⟩
    revert g
    cases ev cs gl e en (m.set i (.lk kvs)) with
    | bad => exact fun g => g
    | ex c en2 m2 => exact fun g => g.elim
    | ok x en2 m2 =>
      intro g B2 r2 H2 e2 R2 v hv
      have hB2 := e2.sub d _ upd_same
      have hi2 := pre_get e2.pre hi
      have hdr := List.mem_of_getElem? hi2
      refine ⟨R2.s.bh d _ hB2, ?_⟩
      have g : PostG T xc Wx P σ B r (Mp.opt (lkAt m2 i) fun kvs => .ok x en2 (m2.set i (.dic kvs))) _ := g
      obtain ⟨kvs2, ek2, g⟩ := g.opt
      have hm2 := lkAt_some ek2
      have nb : B d = none := R.s.nb_of hi hm rfl
      have np := (R.s.fr d (List.mem_of_getElem? hi)).2
      refine g (dropB B2 d) r2 _ ⟨fun b u hb => ?_, e2.pre, fun b hb => ?_⟩ (R2.unlock hB2 hi2 hm2) v (hv.unlock hB2 hdr)
      · have c : b ≠ d := fun z => by rw [z, nb] at hb; cases hb
        rw [dropB_ne c]
        exact e2.sub b _ (e1.sub b _ hb)
      · have c : b ≠ d := fun z => hb (z ▸ np)
        rw [dropB_ne c, e2.fix b hb, e1.fix b hb]
/-! ### a dict written out -/
theorem PostG.bindW {A D : Type} {B P P2 : Hp} {r : List Addr} {σ : Slo} {x : Mp.R A} {f : A → En → Sto → Mp.R D} {g : D → En → Sto → Hp → List Addr → Hp → Prop} {h : A → En → Sto → Hp → List Addr → Hp → Prop} (s : Sub P P2)
    (z : PostG T xc Wx P σ B r (x.bind f) g) (q : ∀ a en m B2 r2 H2, Ext P2 B r B2 r2 → Rel T B2 r2 P2 m en σ H2 → PostG T xc Wx P σ B2 r2 (f a en m) g → h a en m B2 r2 H2) : PostG T xc Wx P2 σ B r x h := by
  cases x with
  | ok a en m => exact fun B2 r2 H2 e R => q a en m B2 r2 H2 e R (PostG.mono (e.weak s) z)
  | ex c en m => exact fun B2 r2 H2 e R => z B2 r2 H2 (e.weak s) (R.weak s)
  | bad => exact z
noncomputable def trsOf (T : Tab) (xc : Nat → Value) (cs : Nat → List W → Sto → CR) (gl : List W) (Wx : WX) : List Str → E → List (TE × TE)
  | k :: ks, .cons e es => (fun _ H Q => Q (.str k) H, SE T xc cs gl Wx e) :: trsOf T xc cs gl Wx ks es
  | _, _ => []
theorem sameL_nil {es : E} (h : sameL [] es = true) : es = .nil := by
  cases es <;> first | rfl | exact absurd h Bool.false_ne_true
theorem sameL_cons {k : Str} {ks : List Str} {es : E} (h : sameL (k :: ks) es = true) : ∃ e r, es = .cons e r ∧ sameL ks r = true := by
  cases es <;> first | exact ⟨_, _, rfl, h⟩ | exact absurd h Bool.false_ne_true
theorem pairs_go : ∀ {ks : List Str} {es : E} {en : En} {m : Sto} {B P H : Hp} {r : List Addr} {σ : Slo} {Q : List (V × V) → Hp → Prop}, sameL ks es = true → Rel T B r P m en σ H →
    PostG T xc Wx P σ B r (evs cs gl es en m) (fun ws en m B2 r2 H2 => ∀ vs, RepL T B2 r2 vs ws → Q ((ks.map V.str).zip vs) H2) → tPairs (trsOf T xc cs gl Wx ks es) σ H Q := by
  intro ks
  induction ks with
  | nil =>
    intro es en m B P H r σ Q hl R g
    obtain rfl := sameL_nil hl
    simp only [evs] at g
    exact g.fin R [] .nil
  | cons k ks ih =>
    intro es en m B P H r σ Q hl R g
    obtain ⟨e, es, rfl, hl⟩ := sameL_cons hl
    simp only [evs] at g
    show SE T xc cs gl Wx e σ H _
    refine ⟨B, r, P, m, en, R, g.bind fun x en1 m1 B1 r1 H1 e1 R1 h1 v hv => ?_⟩
    obtain ⟨w, en2, e2, h2⟩ := h1.opt2
    obtain ⟨B2, e3, R2, hw⟩ := R1.esc hv e2
    refine ih (es := es) hl R2 ((PostG.mono e3 h2).bind fun ws en3 m3 B3 r3 H3 e4 R3 h3 vs hvs => ?_)
    exact h3.fin R3 (v :: vs) (.cons (hw.mono e4.sub e4.pre) hvs)
theorem merge_nodup : ∀ (l acc : List (Key × V)), (acc.map (·.1) ++ l.map (·.1)).Nodup → mergeK acc l = acc ++ l
  | [], acc, _ => by rw [List.append_nil]; rfl
  | (k, v) :: l, acc, h => by
    show mergeK (putK acc k v) l = _
    have hk : putK acc k v = acc ++ [(k, v)] := by
      unfold putK
      rw [if_neg]
      intro z
      rw [List.any_eq_true] at z
      obtain ⟨q, hq, e⟩ := z
      rw [List.nodup_append] at h
      exact h.2.2 q.1 (List.mem_map_of_mem hq) k (by simp) (of_decide_eq_true e)
    rw [hk, merge_nodup l (acc ++ [(k, v)]) (by simpa [List.append_assoc] using h), List.append_assoc]
    rfl
theorem repK_zip {B : Hp} {r : List Addr} : ∀ {ks : List Str} {vs : List V} {ws : List W}, RepL T B r vs ws → RepK T B r ((ks.zip vs).map fun q => ((.inr q.1 : Key), q.2)) ((ks.zip ws).map fun q => ((.inr q.1 : Key), q.2))
  | [], _, _, _ => .nil
  | _ :: _, _, _, .nil => .nil
  | _ :: _, _, _, .cons h l => .cons h (repK_zip l)
theorem snd_dlit {ks : List Str} {es : E} {keys : List (Option Expr)} {ps : List Expr} {pos : Pos} (hl : sameL ks es = true) (h1 : keys.length = ps.length) (h2 : keys.length ≤ 15) (h3 : keys ≠ []) (h4 : keys.all (·.isSome) = true)
    (hp : PPs X pos keys ps (trsOf T xc cs gl Wx ks es)) : PE X (.Dict keys ps pos) (SE T xc cs gl Wx (.dlit ks es)) := by
  refine (pe_disp hp h4 h1 h3 h2).imp fun σ H Q z p hp => ?_
  obtain ⟨B, r, P, m, en, R, g⟩ := z
  simp only [ev] at g
  have hP := R.s.ph.none hp
  have hB := R.s.bh.none hp
  refine pairs_go hl (R.prot (o := .dK []) hp) (g.bindW (Sub.new hP) fun ws en2 m2 B2 r2 H2 e2 R2 q vs hvs => ?_)
  obtain ⟨⟨c1, c2, c3, c4⟩, q⟩ := q.ifp
  have hB2 : B2 p = none := by rw [e2.fix p (by rw [upd_same]; exact fun z => nomatch z)]; exact hB
  have lv := hvs.len
  refine ⟨R2.s.ph p _ upd_same, (ks.zip vs).map fun q => (.inr q.1, q.2), ?_, ?_, ?_⟩
  · rw [List.map_map, List.zip_map_left]
    rfl
  · rw [List.length_map, List.length_zip, lv, c1, Nat.min_self]; exact c2
  · have nd : (((ks.zip vs).map fun q => ((.inr q.1 : Key), q.2)).map (·.1)).Nodup := by
      have e : ((ks.zip vs).map fun q => ((.inr q.1 : Key), q.2)).map (·.1) = ks.map (fun s => (.inr s : Key)) := by
        rw [List.map_map]
        show (ks.zip vs).map ((fun s => (.inr s : Key)) ∘ Prod.fst) = _
        rw [← List.map_map, List.map_fst_zip (by omega)]
      rw [e]
      exact List.Pairwise.map _ (fun a b hab => fun z => hab (Sum.inr.inj z)) c4
    rw [merge_nodup _ [] (by simpa using nd), List.nil_append]
    have px : r2 <+: r2 ++ [p] := List.prefix_append r2 [p]
    have hr : p ∉ r2 := fun z => by
      have := (R2.s.fr p z).2
      rw [upd_same] at this; cases this
    have rk : RepK T B2 (r2 ++ [p]) ((ks.zip vs).map fun q => ((.inr q.1 : Key), q.2)) ((ks.zip ws).map fun q => ((.inr q.1 : Key), q.2)) := repK_zip (hvs.mono (Sub.refl B2) px)
    have R3 := (R2.reprot (u := .dK ((ks.zip vs).map fun q => (.inr q.1, q.2))) hB2)
    have R4 := (R3.weak (Sub.new hP)).add_sto (b := .dic ((ks.zip ws).map fun q => (.inr q.1, q.2))) hB2 hP hr upd_same rfl (.dic rk) (fun j zs hj e => by
      obtain ⟨q2, f1, f2⟩ := R3.e.own_at hj
      rw [e] at f1; cases f1
      have := f2.np
      rw [upd_same] at this; cases this)
    exact q B2 (r2 ++ [p]) _ ⟨Sub.refl B2, px, fun _ _ => rfl⟩ R4 _ (.ref (by
      rw [← R2.s.len, List.getElem?_append_right (Nat.le_refl _), Nat.sub_self]; rfl))
/-! ### isinstance of what was caught -/
theorem exn_at (C : CxOk T xc S cs gl k N fb sc Wx X) {y : Str} (h : exNm S sc y = true) : ∃ (c : V) (u : Value), (∀ p, PE X (.Name y p) (tC c)) ∧ ClsV c u ∧ (∀ i xi, S.exs[i]? = some xi → PySem.W.kitOne T.K (.ref (T.xa i)) u = some (xi.up.contains y)) ∧ PySem.W.kitOne T.K (.type "NoneType") u = some false := by
  unfold exNm at h
  simp only [Bool.and_eq_true, Bool.or_eq_true] at h
  obtain ⟨⟨h1, h2⟩, h3⟩ := h
  obtain ⟨d1, d2, d3⟩ := pl_of h2
  rcases h3 with h3 | h3
  · have e := eq_of_beq h3
    subst e
    refine ⟨.ty "ValueError", .type "ValueError", fun p => pe_bltn (gl_of C.es h1) (C.md.blt _ (by decide +kernel)) (by decide +kernel) rfl d3 d1, .ty _, fun i xi hi => ?_, kit_ty (by decide +kernel)⟩
    obtain ⟨_, _, _, _, _, _, g, _⟩ := C.md.exs i xi hi
    exact g
  · rw [List.any_eq_true] at h3
    obtain ⟨xd, hm, e⟩ := h3
    have e := eq_of_beq e
    subst e
    obtain ⟨d, hd⟩ := List.mem_iff_getElem?.mp hm
    obtain ⟨_, g2, _, _, _, _, _, g8, _⟩ := C.md.exs d xd hd
    refine ⟨.ref (T.xa d), .ref (T.xa d), fun p => pe_glob (gl_of C.es h1) g2 rfl d1, .own _, fun i xi hi => ?_, g8⟩
    obtain ⟨_, _, _, _, _, _, _, _, g⟩ := C.md.exs i xi hi
    exact (g d xd hd).1
noncomputable def tCs : List V → TA
  | [] => tNil
  | c :: cs => tCons (tC c) (tCs cs)
theorem tCs_go {σ : Slo} {H : Hp} : ∀ {cs : List V} {Q : List V → Hp → Prop}, Q cs H → tCs cs σ H Q
  | [], _, q => q
  | c :: cs, Q, q => by
    show tCs cs σ H fun xs H2 => Q (c :: xs) H2
    exact tCs_go q
theorem exns_at (C : CxOk T xc S cs gl k N fb sc Wx X) : ∀ {es : List Expr} {ys : List Str}, exNms S sc es = some ys → ∃ (vs : List V) (us : List Value), PA X es (tCs vs) ∧ Paired ClsV vs us ∧ vs.length = ys.length ∧
      (∀ i xi, S.exs[i]? = some xi → PySem.W.kitAny T.K (.ref (T.xa i)) us = some (ys.any fun y => xi.up.contains y)) ∧ PySem.W.kitAny T.K (.type "NoneType") us = some false
  | [], ys, h => by
    simp only [exNms, Option.some.injEq] at h; subst h
    exact ⟨[], [], pa_nil, .nil, rfl, fun _ _ _ => rfl, rfl⟩
  | e :: es, ys, h => by
    cases e with
    | Name y p =>
      simp only [exNms] at h
      split at h
      · rename_i hy
        cases q : exNms S sc es with
        | none => rw [q] at h; cases h
        | some zs =>
          rw [q] at h
          simp only [Option.map_some, Option.some.injEq] at h
          subst h
          obtain ⟨c, u, a1, a2, a3, a4⟩ := exn_at C hy
          obtain ⟨vs, us, b1, b2, b3, b4, b5⟩ := exns_at C q
          refine ⟨c :: vs, u :: us, pa_cons (a1 p) b1 rfl, .cons a2 b2, by rw [List.length_cons, List.length_cons, b3], fun i xi hi => ?_, ?_⟩
          · rw [List.any_cons]
            refine kitAny_cons (a3 i xi hi) (fun z => ?_) (fun z => by rw [z, Bool.true_or])
            rw [z, Bool.false_or]; exact b4 i xi hi
          · exact kitAny_cons a4 (fun _ => b5) (fun z => nomatch z)
      · cases h
    | _ => simp [exNms] at h
theorem isx_val (C : CxOk T xc S cs gl k N fb sc Wx X) {ys : List Str} {B P H : Hp} {r : List Addr} {m : Sto} {v : V} {w : W} {b : Bool} (R : RelS T B r P m H) (h : RepT T B r H v w) (e : excW (exTab S ys) w = some b) :
    ∃ t, TyE T.K H v t ∧ (∀ q o, H q = none → TyE T.K (upd H q o) v t) ∧ ((t = .type "NoneType" ∧ b = false) ∨ ∃ i xi, S.exs[i]? = some xi ∧ t = .ref (T.xa i) ∧ b = ys.any fun y => xi.up.contains y) := by
  unfold excW at e
  split at e
  · rename_i c
    rcases h with h | ⟨_, _, _, _, h, _⟩
    · cases h with
      | exc c h =>
        unfold exTab at e
        rw [List.getElem?_map] at e
        cases q : S.exs[c]? with
        | none => rw [q] at e; cases e
        | some xi =>
          rw [q] at e
          simp only [Option.map_some, Option.some.injEq] at e
          obtain ⟨_, _, g3, _⟩ := C.md.exs c xi q
          have hh := R.bh _ _ h
          refine ⟨_, .exc g3 hh, fun p o hp => .exc g3 ?_, .inr ⟨c, xi, q, rfl, e.symm⟩⟩
          rw [upd_ne (fun z => by rw [z, hp] at hh; cases hh)]; exact hh
    · cases h
  · have := h.non
    subst this
    cases e
    exact ⟨_, .non, fun _ _ _ => .non, .inl ⟨rfl, rfl⟩⟩
  · cases e
theorem snd_isx (C : CxOk T xc S cs gl k N fb sc Wx X) {a : E} {tab : List Bool} {pa pt : Expr} {x : Str} {p pos : Pos} (hx : x = ("isinstance" : Str)) (hg : glB sc x = true) (hn : noStar pa = true) (ha : PE X pa (SE T xc cs gl Wx a)) (ht : isxB S sc tab pt = true) :
    PE X (.Call (.Name x p) [pa, pt] [] pos) (SE T xc cs gl Wx (.isx a tab)) := by
  subst hx
  have G := gl_of C.es hg
  have hm := C.md.blt "isinstance" (by decide +kernel)
  unfold isxB at ht
  split at ht
  · rename_i y p2
    rw [Bool.and_eq_true] at ht
    obtain ⟨c, u, a1, a2, a3, a4⟩ := exn_at C ht.1
    have et := eq_of_beq ht.2
    refine (pe_callB call_isX G hm (by decide +kernel) (pa_cons ha (pa_cons (a1 p2) pa_nil rfl) (star_of hn)) (by decide) (by decide) (star_of hn) rfl).imp fun σ H Q z => ?_
    obtain ⟨B, r, P, m, en, R, g⟩ := z
    simp only [ev] at g
    refine SG.go R (g.bind fun y en1 m1 B1 r1 H1 e1 R1 h1 v hv => ?_)
    obtain ⟨b, e2, h2⟩ := h1.opt
    obtain ⟨w, e3, e4⟩ := Option.bind_eq_some_iff.mp e2
    rw [et] at e4
    obtain ⟨t, k1, _, k2⟩ := isx_val C R1.s (R1.top hv e3) e4
    rw [C.eK]
    refine ⟨v, c, t, u, b, rfl, a2, k1, ?_, h2.fin R1 _ (.bl _)⟩
    rcases k2 with ⟨rfl, rfl⟩ | ⟨i, xi, hi, rfl, rfl⟩
    · exact a4
    · rw [a3 i xi hi]; simp
  · rename_i es n p2
    split at ht
    · rename_i ys q
      rw [Bool.and_eq_true] at ht
      have et := eq_of_beq ht.1
      have hl := of_decide_eq_true ht.2
      obtain ⟨vs, us, b1, b2, b3, b4, b5⟩ := exns_at C q
      refine (pe_callB call_isXT G hm (by decide +kernel) (pa_cons ha (pa_cons (pe_tup b1) pa_nil rfl) (star_of hn)) (by decide) (by decide) (star_of hn) rfl).imp fun σ H Q z => ?_
      obtain ⟨B, r, P, m, en, R, g⟩ := z
      simp only [ev] at g
      refine SG.go R (g.bind fun y en1 m1 B1 r1 H1 e1 R1 h1 v hv => ?_)
      obtain ⟨b, e2, h2⟩ := h1.opt
      obtain ⟨w, e3, e4⟩ := Option.bind_eq_some_iff.mp e2
      rw [et] at e4
      obtain ⟨t, _, k1, k2⟩ := isx_val C R1.s (R1.top hv e3) e4
      refine tCs_go ⟨by rw [b3]; exact Nat.le_trans hl (by decide), fun p hp => ?_⟩
      rw [C.eK]
      refine ⟨v, p, vs, t, us, b, rfl, upd_same, b2, k1 p _ hp, ?_, h2 B1 r1 _ Ext.refl (R1.grow (Sub.new hp)) _ (.bl _)⟩
      rcases k2 with ⟨rfl, rfl⟩ | ⟨i, xi, hi, rfl, rfl⟩
      · exact b5
      · exact b4 i xi hi
    · cases ht
  · cases ht
end
end Mp
set_option Elab.async false
set_option linter.all false
set_option maxRecDepth 100000
set_option maxHeartbeats 4000000
/-! texts, dicts of pairs, defs as values -/
namespace Mp
open PySem PySem.Spec PyProof.Rows L2
theorem lstS_of_lst {m : Sto} {w : W} {ws : List W} (h : lstW m w = some ws) : lstS m w = some ws := by
  cases w <;> first | exact h | (simp [lstW] at h)
theorem strW_some {w : W} {s : Str} (h : strW w = some s) : w = .str s := by
  cases w <;> simp_all [strW]
section
variable {T : Tab} {B P H : Hp} {r : List Addr} {m : Sto} {en : En} {σ : Slo}
theorem rep_strs : ∀ ys : List Str, RepL T B r (ys.map V.str) (ys.map W.str)
  | [] => .nil
  | y :: ys => .cons (.str y) (rep_strs ys)
theorem str_of {v : V} {x : RV} {s : Str} (R : Rel T B r P m en σ H) (h : RepR T B r P en σ H v x) (e : (rvW en x).bind strW = some s) : v = .str s := by
  obtain ⟨w, e1, e2⟩ := Option.bind_eq_some_iff.mp e
  have := strW_some e2
  subst this
  exact (R.top h e1).str
theorem RepL.strs : ∀ {vs : List V} {ws : List W} {ss : List Str}, RepL T B r vs ws → strsW ws = some ss → vs = ss.map V.str
  | _, _, ss, .nil, e => by simp only [strsW, Option.some.injEq] at e; subst e; rfl
  | _, _, ss, .cons h l, e => by
    cases h <;> try (simp [strsW] at e)
    rename_i s
    obtain ⟨zs, e1, e2⟩ := e
    subst e2
    rw [List.map_cons, ← l.strs e1]
theorem RepL.pairs (R : RelS T B r P m H) : ∀ {vs : List V} {ws : List W} {kws : List (Key × W)}, RepL T B r vs ws → pairsW ws = some kws → ∃ (ps : List Addr) (kvs : List (Key × V)), vs = ps.map V.ref ∧ Paired (fun p kv => SqT T.K H p [kV kv.1, kv.2]) ps kvs ∧ RepK T B r kvs kws
  | _, _, kws, .nil, e => by simp only [pairsW, Option.some.injEq] at e; subst e; exact ⟨[], [], rfl, .nil, .nil⟩
  | _, w :: ws, kws, .cons h l, e => by
    unfold pairsW at e
    split at e
    · rename_i q; cases q
    · rename_i k z ws2 q
      cases q
      obtain ⟨kw2, e1, e2⟩ := Option.map_eq_some_iff.mp e
      subst e2
      obtain ⟨ps, kvs, rfl, h2, h3⟩ := RepL.pairs R l e1
      cases h with
      | tup d lz =>
        cases lz with
        | cons hk lz =>
          cases lz with
          | cons hz lz =>
            cases lz
            cases hk
            rename_i a v2
            exact ⟨a :: ps, (.inl k, v2) :: kvs, rfl, .cons (R.bh.sqt d) h2, .cons hz h3⟩
    · cases e
theorem RepK.merge {vs : List (Key × V)} {ws : List (Key × W)} (h : RepK T B r vs ws) : RepK T B r (mergeK [] vs) (mergeA ws) := by
  unfold mergeK mergeA
  suffices g : ∀ {vs : List (Key × V)} {ws : List (Key × W)} {av : List (Key × V)} {aw : List (Key × W)}, RepK T B r vs ws → RepK T B r av aw → RepK T B r (vs.foldl (fun acc kv => L2.putK acc kv.1 kv.2) av) (ws.foldl (fun acc kv => putA_ acc kv.1 kv.2) aw) from g h .nil
  intro vs
  induction vs with
  | nil => intro ws av aw h g; cases h; exact g
  | cons x vs ih =>
    intro ws av aw h g
    cases h with
    | cons hx l => exact ih (av := L2.putK _ _ _) (aw := putA_ _ _ _) l (RepK.putK hx _ g)
end
section
variable {T : Tab} {xc : Nat → Value} {S : Sta} {cs : Nat → List W → Sto → CR} {gl : List W} {k : Nat} {N : List Str} {fb : Str → Bool} {sc : Scope} {Wx : WX} {X : Cx}
theorem snd_split (C : CxOk T xc S cs gl k N fb sc Wx X) {a es : E} {pa q : Expr} {x : Str} {ap pos : Pos} (hx : x = ("split" : Str)) (hb : baseB pa = true) (hl : (ap.endLine == pos.line) = true) (hn : noStar q = true) (ha : PE X pa (SE T xc cs gl Wx a)) (hq : PE X q (SE T xc cs gl Wx es)) :
    PE X (.Call (.Attribute pa x ap) [q] [] pos) (SE T xc cs gl Wx (.mth .split a es)) := by
  subst hx
  refine (pe_split ha hq (star_of hn) (base_of hb) hl).imp fun σ H Q z => ?_
  obtain ⟨B, r, P, m, en, R, g⟩ := z
  simp only [ev] at g
  refine SG.go R (g.bind fun y en1 m1 B1 r1 H1 e1 R1 h1 v hv => ?_)
  obtain ⟨s, e2, h2⟩ := h1.opt
  refine ⟨⟨s, str_of R1 hv e2⟩, B1, r1, P, m1, en1, R1, h2.bind fun y2 en3 m3 B3 r3 H3 e3 R3 h3 u hu => ?_⟩
  obtain ⟨t, e4, h4⟩ := h3.opt
  obtain ⟨⟨c1, c2⟩, h5⟩ := h4.ifp
  refine ⟨s, t, str_of R1 hv e2, by rw [str_of R3 hu e4], c1, lim_line c2, fun p hp => ?_⟩
  exact h5 B3 r3 _ Ext.refl (R3.grow (Sub.new hp)) _ (R3.new_own hp (rep_strs _))
theorem snd_partn (C : CxOk T xc S cs gl k N fb sc Wx X) {a es : E} {pa q : Expr} {x : Str} {ap pos : Pos} (hx : x = ("partition" : Str)) (hb : baseB pa = true) (hl : (ap.endLine == pos.line) = true) (hn : noStar q = true) (ha : PE X pa (SE T xc cs gl Wx a)) (hq : PE X q (SE T xc cs gl Wx es)) :
    PE X (.Call (.Attribute pa x ap) [q] [] pos) (SE T xc cs gl Wx (.mth .part a es)) := by
  subst hx
  refine (pe_partition ha hq (star_of hn) (base_of hb) hl).imp fun σ H Q z => ?_
  obtain ⟨B, r, P, m, en, R, g⟩ := z
  simp only [ev] at g
  refine SG.go R (g.bind fun y en1 m1 B1 r1 H1 e1 R1 h1 v hv => ?_)
  obtain ⟨s, e2, h2⟩ := h1.opt
  refine ⟨⟨s, str_of R1 hv e2⟩, B1, r1, P, m1, en1, R1, h2.bind fun y2 en3 m3 B3 r3 H3 e3 R3 h3 u hu => ?_⟩
  obtain ⟨t, e4, h4⟩ := h3.opt
  obtain ⟨⟨c1, c2⟩, h5⟩ := h4.ifp
  refine ⟨s, t, str_of R1 hv e2, by rw [str_of R3 hu e4], c1, lim_line c2, fun p hp => ?_⟩
  obtain ⟨B4, e5, R5, hb5⟩ := R3.new_frz (o := .tup [.str (Txt.partition s t).1, .str (Txt.partition s t).2.1, .str (Txt.partition s t).2.2]) hp
  exact h5 B4 r3 _ e5 R5 _ (.tup (.inl (.inl hb5)) (.cons (.str _) (.cons (.str _) (.cons (.str _) .nil))))
theorem snd_join (C : CxOk T xc S cs gl k N fb sc Wx X) {a es : E} {pa q : Expr} {x : Str} {ap pos : Pos} (hx : x = ("join" : Str)) (hb : baseB pa = true) (hl : (ap.endLine == pos.line) = true) (hn : noStar q = true) (ha : PE X pa (SE T xc cs gl Wx a)) (hq : PE X q (SE T xc cs gl Wx es)) :
    PE X (.Call (.Attribute pa x ap) [q] [] pos) (SE T xc cs gl Wx (.mth .join a es)) := by
  subst hx
  refine (pe_join ha hq (star_of hn) (base_of hb) hl).imp fun σ H Q z => ?_
  obtain ⟨B, r, P, m, en, R, g⟩ := z
  simp only [ev] at g
  refine SG.go R (g.bind fun y en1 m1 B1 r1 H1 e1 R1 h1 v hv => ?_)
  obtain ⟨s, e2, h2⟩ := h1.opt
  refine ⟨⟨s, str_of R1 hv e2⟩, B1, r1, P, m1, en1, R1, h2.bind fun y2 en3 m3 B3 r3 H3 e3 R3 h3 u hu => ?_⟩
  obtain ⟨ys, e4, h4⟩ := h3.opt
  obtain ⟨c1, h5⟩ := h4.ifp
  obtain ⟨ws, e5, e6⟩ := Option.bind_eq_some_iff.mp e4
  unfold rvL at e5
  obtain ⟨w, e7, e8⟩ := Option.bind_eq_some_iff.mp e5
  obtain ⟨p, vs, rfl, d, l⟩ := RepT.lsts R3.s (R3.top hu e7) (lstS_of_lst e8)
  have z := l.strs e6
  subst z
  refine ⟨s, p, ys, str_of R1 hv e2, rfl, by rw [C.eK]; exact .inl d, Nat.le_trans c1 (by decide), ?_⟩
  exact h5.fin R3 _ (.str _)
theorem snd_dof (C : CxOk T xc S cs gl k N fb sc Wx X) (hcB : S.cB = true) {a : E} {x : Str} {q : Expr} {p pos : Pos} (hx : x = ("dict" : Str)) (hg : glB sc x = true) (hn : noStar q = true) (ha : PE X q (SE T xc cs gl Wx a)) :
    PE X (.Call (.Name x p) [q] [] pos) (SE T xc cs gl Wx (.dof a)) := by
  subst hx
  refine (pe_callTy (call_dictP (C.calm hcB)) (gl_of C.es hg) (C.md.blt _ (by decide +kernel)) (by decide +kernel) (pa_cons ha pa_nil (star_of hn)) (by decide) (by decide) (star_of hn) rfl).imp fun σ H Q z => ?_
  obtain ⟨B, r, P, m, en, R, g⟩ := z
  simp only [ev] at g
  refine SG.go R (g.bind fun y en1 m1 B1 r1 H1 e1 R1 h1 v hv => ?_)
  obtain ⟨kws, e2, h2⟩ := h1.opt
  obtain ⟨ws, e5, e6⟩ := Option.bind_eq_some_iff.mp e2
  unfold rvL at e5
  obtain ⟨w, e7, e8⟩ := Option.bind_eq_some_iff.mp e5
  obtain ⟨l, vs, rfl, d, lr⟩ := RepT.lsts R1.s (R1.top hv e7) (lstS_of_lst e8)
  obtain ⟨ps, kvs, rfl, g2, g3⟩ := lr.pairs R1.s e6
  refine ⟨l, ps, kvs, rfl, by rw [C.eK]; exact d, by rw [C.eK]; exact g2, fun p hp => ?_⟩
  obtain ⟨e9, R9, g5⟩ := add_new (b := .dic (mergeA kws)) (o := .dK (mergeK [] kvs)) R1 hp rfl (.dic (g3.merge.mono (Sub.refl B1) (List.prefix_append r1 [p])))
  exact h2 B1 (r1 ++ [p]) _ e9 R9 _ (.ref g5)
theorem snd_fnv (C : CxOk T xc S cs gl k N fb sc Wx X) {f n : Nat} {x : Str} {pos : Pos} (hf : S.fns[f]? = some (some x, n)) (hg : glB sc x = true) (hp : plB x = true) : PE X (.Name x pos) (SE T xc cs gl Wx (.fnv f)) := by
  obtain ⟨fd, ps, g1, g2, g3, g4⟩ := C.md.fns f (some x) n hf
  have g1 := g1 x rfl
  obtain ⟨d1, _, _⟩ := pl_of hp
  refine (pe_glob (v := .ref (T.fa f)) (gl_of C.es hg) g1 (by rfl) d1).imp fun σ H Q z => ?_
  obtain ⟨B, r, P, m, en, R, q⟩ := z
  simp only [ev] at q
  exact q.fin R (.ref (T.fa f)) (.fn f)
theorem snd_orv (C : CxOk T xc S cs gl k N fb sc Wx X) {a b : E} {pa pb : Expr} {pos : Pos} (ha : PE X pa (SE T xc cs gl Wx a)) (hb : PE X pb (SE T xc cs gl Wx b)) :
    PE X (.BoolOp .Or [pa, pb] pos) (SE T xc cs gl Wx (.orv a b)) := by
  refine (pe_orT ha (pe_one hb)).imp fun σ H Q z => ?_
  obtain ⟨B, r, P, m, en, R, g⟩ := z
  simp only [ev] at g
  refine SG.go R (g.bind fun y en1 m1 B1 r1 H1 e1 R1 h1 v hv => ?_)
  obtain ⟨s, e2, h2⟩ := h1.opt
  have := str_of R1 hv e2
  subst this
  obtain ⟨hl, h2⟩ := h2.ifp
  refine ⟨((s.length : Int) != 0), ⟨lim_line hl, rfl⟩, ?_⟩
  by_cases c : s.length = 0
  · rw [if_pos c] at h2
    rw [if_neg (by rw [c]; decide)]
    exact SG.go R1 h2
  · rw [if_neg c] at h2
    rw [if_pos (by simp; omega)]
    exact h2.fin R1 _ (.str _)
theorem snd_callv (C : CxOk T xc S cs gl k N fb sc Wx X) (hcB : S.cB = true) {j n : Nat} {fl : List Nat} {x : Str} {es : E} {q : Expr} {qs : List Expr} {p pos : Pos} (hN : (N[j]? == some x) = true) (hv : visB sc x = true) (hp : plB x = true) (hfl : (fl.all fun f => match S.fns[f]? with
        | some (_, n2) => decide (n2 = n)
        | none => false) = true) (hn : okEs S N fb sc es (q :: qs) = true)
    (ha : PA X (q :: qs) (SA T xc cs gl Wx es)) : PE X (.Call (.Name x p) (q :: qs) [] pos) (SE T xc cs gl Wx (.callv j n fl es)) := by
  obtain ⟨d1, d2, _⟩ := pl_of hp
  have st := star_es hn
  have hst : starEach (q :: qs) X.env = (false, eval q X.env) :: starEach qs X.env := star_of (st q (List.mem_cons_self))
  have hpl : (backTo pos (starEach qs X.env)).any (·.1) = false := back_no fun r hr => st r (List.mem_cons_of_mem _ hr)
  refine ⟨fun pins s σ H Q I h => ?_⟩
  obtain ⟨B, r, P, m, en, R, g⟩ := h
  simp only [ev] at g
  split at g
  · rename_i f e
    by_cases hc : fl.contains f = true
    · rw [if_pos hc] at g
      have hm : f ∈ fl := by simpa using hc
      have hf := List.all_eq_true.mp hfl f hm
      obtain ⟨y, hy⟩ : ∃ y, S.fns[f]? = some (y, n) := by
        split at hf
        · rename_i y n2 e2
          rw [of_decide_eq_true hf] at e2
          exact ⟨y, e2⟩
        · cases hf
      obtain ⟨fd, ps, _, g2, g3, g4⟩ := C.md.fns f y n hy
      obtain ⟨v, h4, h5⟩ := R.e.sl j _ (enGet_some e)
      have hv2 : v = .ref (T.fa f) := by
        cases (show Rep T B r v (.fn f) from h5)
        rfl
      subst hv2
      have F : FnOk X.prog X.w X.K X.mg X.base (L2.CX X.prog X.w) (2 * k) (T.fa f) fd ps (spF T xc cs f n) := by rw [C.eK]; exact g4
      refine wpAny_Call_Name_kw (thn ((pe_var (C.name hN) (by rw [C.es]; exact vis_of hv) d1 d2).run pins s σ H (fun v H1 => v = .ref (T.fa f) ∧ H1 = H) I ⟨.ref (T.fa f), h4, rfl, rfl⟩) fun u s1 ⟨v, H1, I1, r1, q1, q2⟩ => ?_)
      subst q1 q2
      obtain rfl : u = Value.ref (T.fa f) := r1
      refine PySem.W.callWith_K (h₀ := X.base) I1.ok.mod.kin (by rw [C.eK]; exact g2) (thn (ha.run pos pins s1 σ H1 _ I1 ⟨B, r, P, m, en, R, g.bind fun ws en1 m1 B1 r1 H1 e1 R1 h1 vs hvs => ?_⟩) fun us s2 ⟨vs, H2, I2, r2, q⟩ => ⟨I2.kIn, run_fnS F ((C.room hcB).mono (by omega)) (by rw [C.eK]; exact g3) (C.tk σ) I2 r2 q⟩) hst hpl
      obtain ⟨hl, h1⟩ := h1.ifp
      refine ⟨hvs.len.trans hl, B1, r1, outP r1 H1, m1, ws, R1.s.out, hvs, ?_⟩
      revert h1
      cases cs f ws m1 with
      | ok a m2 =>
        intro h1 v B2 r2 H2 e2 S2 hv
        obtain ⟨e3, R3⟩ := R1.back e2 S2
        exact h1 B2 r2 H2 e3 R3 v (R1.back_new S2 hv)
      | ex c m2 =>
        intro h1 B2 r2 H2 e2 S2
        obtain ⟨e3, R3⟩ := R1.back e2 S2
        exact h1 B2 r2 H2 e3 R3
      | bad => intro h1; exact h1
    · rw [if_neg hc] at g; exact False.elim g
  · exact False.elim g
end
end Mp
set_option Elab.async false
set_option linter.all false
set_option maxRecDepth 100000
set_option maxHeartbeats 4000000
/-! a dict of the module; ranges downward as lists; how many numbers a list holds -/
namespace Mp
open PySem PySem.Spec PyProof.Rows L2
theorem ents_find {z : Str} : ∀ {l : List DictEntry} {kvs : List (Str × Int)}, Ents l kvs → (∃ i u, kvs.lookup z = some i ∧ findBy Value.isStrOf l.toArray z = some (.int i u)) ∨ (kvs.lookup z = none ∧ findBy Value.isStrOf l.toArray z = none)
  | [], _, .nil => .inr ⟨rfl, rfl⟩
  | e :: r, _, .cons (x := x) (i := i) (t := t) (u := u) (kvs := kvs0) h1 h2 l => by
    have ih := ents_find (z := z) l
    have f1 : findBy Value.isStrOf (e :: r).toArray z = ((e :: r).find? fun d => Value.isStrOf z d.key).map (·.val) := by
      unfold findBy
      rw [List.find?_toArray]
    have f2 : findBy Value.isStrOf r.toArray z = (r.find? fun d => Value.isStrOf z d.key).map (·.val) := by
      unfold findBy
      rw [List.find?_toArray]
    by_cases c : x = z
    · subst c
      left
      refine ⟨i, u, by simp [List.lookup], ?_⟩
      have hk : Value.isStrOf x e.key = true := by rw [h1]; simp [Value.isStrOf]
      rw [f1]
      simp [List.find?_cons, hk, h2]
    · have hk : ¬ Value.isStrOf z e.key = true := by
        rw [h1]
        simp [Value.isStrOf]
        first
          | exact c
          | exact fun q => c q.symm
      have lk : List.lookup z ((x, i) :: kvs0) = List.lookup z kvs0 := by
        have : (z == x) = false := by simp; exact fun q => c q.symm
        rw [List.lookup_cons, this]
      have hk2 : Value.isStrOf z e.key = false := by simpa using hk
      have f3 : findBy Value.isStrOf (e :: r).toArray z = findBy Value.isStrOf r.toArray z := by
        rw [f1, f2]
        simp [List.find?_cons, hk2]
      rw [f3]
      rw [lk]
      exact ih
section
variable {X : Cx} {o e f : Expr} {apos cpos : Pos} {td ty tx : TE}
noncomputable def tGGet (K : PySem.W.Frag) (w : World) (td ty tx : TE) : TE := fun σ H Q => td σ H fun x H1 => ∃ a kvs, x = .ref a ∧ KDs K w a kvs ∧ ty σ H1 fun y H2 => tx σ H2 fun z H3 => ∃ (s : Str) (i : Int), y = .str s ∧ z = .int i ∧ Q (.int ((kvs.lookup s).getD i)) H3
theorem pe_gget (hu : X.A.units + 1 < cLine) (ho : PE X o td) (he : PE X e ty) (hf : PE X f tx) (m : M2 X o "get" apos e f cpos) : PE X (.Call (.Attribute o "get" apos) [e, f] [] cpos) (tGGet X.K X.w td ty tx) := by
  refine ⟨fun pins s σ H Q I h => ?_⟩
  refine wpAny_Call_method m.base m.few m.line PySem.F.plainAttrs_dict PySem.F.slot_dict_get PySem.F.type_dict_get (thn (ho.run pins s σ H _ I h) fun u s1 ⟨x, H1, I1, rx, a, kvs, ex, kd, q1⟩ => ?_)
  subst ex
  obtain rfl : u = Value.ref a := rx
  obtain ⟨es, n, hl, hk, hen⟩ := kd.ex
  have low := kd.low
  have mp : ∀ {h : Heap}, X.K.In h → h.MapOf (strKind X.prog X.w) a (fun k => findBy Value.isStrOf es k) := fun {h} k => PySem.W.mapOf_K (prog := X.prog) (w := X.w) k hl hk
  refine ⟨(mp I1.kIn).typeIs, (mp I1.kIn).noDict, ?_⟩
  rw [m.trees]
  refine Calls.callWith_builtin rfl (Calls.evalArgs_plain (Calls.spliced_cons (thn (he.run pins s1 σ H1 _ I1 q1) fun iv s2 ⟨y, H2, I2, ry, q2⟩ =>
    Calls.spliced_cons (thn (hf.run pins s2 σ H2 _ I2 q2) fun fv s3 ⟨z, H3, I3, rz, st, i, ey, ez, q3⟩ => Calls.spliced_nil ?_))))
  subst ey ez
  obtain ⟨t1, rfl⟩ := ry
  obtain ⟨t2, rfl⟩ := rz
  refine call_meetsIn PySem.F.slot_dict_get (mp I3.kIn).typeIs PySem.F.entry_dict_get (PySem.F.args_dict_get_3 _ _ _) (meets_dict_get_default (strKind X.prog X.w) a (strKind_is X.prog X.w st t1) low _) ⟨_, mp I3.kIn, ?_⟩
  have e1 : es = es.toList.toArray := by simp
  rcases ents_find (z := st) hen with ⟨j, u, k1, k2⟩ | ⟨k1, k2⟩
  · rw [e1, k2]
    rw [k1] at q3
    exact ⟨.int j, H3, I3.tok _, ⟨u, rfl⟩, q3⟩
  · rw [e1, k2]
    rw [k1] at q3
    exact ⟨.int i, H3, I3.tok _, ⟨t2, rfl⟩, q3⟩
noncomputable def tLstRg3 (ta : TA) : TE := fun σ H Q => ta σ H fun vs H1 => ∃ (i j c : Int) (n : Nat), vs = [.int i, .int j, .int c] ∧ RgC i j c n ∧ n ≤ 2 ^ 24 ∧ ∀ q, H1 q = none → Q (.ref q) (upd H1 q (.lst ((List.range n).map fun (k : Nat) => V.int (i + (k : Int) * c))))
theorem pe_listRg3 {a b c : Expr} {ta : TA} {p p2 pos pos2 : Pos} (hc : X.calm = true) (hg : Gl X "list") (hm : X.mg "list" = none) (hg2 : Gl X "range") (hm2 : X.mg "range" = none) (ha : PA X [a, b, c] ta)
    (hs : starEach [a, b, c] X.env = (false, eval a X.env) :: starEach [b, c] X.env) (hpl : (backTo pos2 (starEach [b, c] X.env)).any (·.1) = false) :
    PE X (.Call (.Name "list" p) [.Call (.Name "range" p2) [a, b, c] [] pos2] [] pos) (tLstRg3 ta) := by
  refine ⟨fun pins s σ H Q I h => ?_⟩
  refine Call_ (ld_blt I hg hm boot_list (PyProof.Rows.callWith_type1 (args_cons ?_ rfl) rfl))
  refine Call_ (ld_blt I hg2 hm2 boot_range (PyProof.Rows.callWith_type1 (thn (ha.run pos2 pins s σ H _ I h) fun us s1 ⟨vs, H1, I1, r1, q1⟩ => ?_) hs hpl))
  obtain ⟨i, j, k, n, e, ⟨c0, c1, c2, c3⟩, hn, q⟩ := q1
  subst e
  cases r1 with
  | cons r rr =>
    cases rr with
    | cons r' rr =>
      cases rr with
      | cons r'' rr =>
        cases rr
        obtain ⟨t, rfl⟩ := r
        obtain ⟨t', rfl⟩ := r'
        obtain ⟨t'', rfl⟩ := r''
        refine call_range_3 c0 (args_nil ?_) (.inl (PyProof.noPylong_small c1))
        have I2 : Inv X pins σ H1 { s1 with heap := s1.heap.push { cls := .type "range", data := .fields #[.int i t, .int j t', .int k t''] } } := I1.kept (t' := s1.toks) fun b o e => Heap.get?_push_of_some _ e
        refine call_list_range (n := n) (I2.ok.hd hc) (IsRange.new ..) c2 c3 hn fun h' tk acc c' hk e' hi => ?_
        have hlen : acc.toList.length = n := by rw [Array.length_toList]; exact hi.1
        have hv : Vals ((List.range n).map fun (m : Nat) => V.int (i + (m : Int) * k)) acc.toList := by
          rw [← hlen]
          refine vals_of_get acc.toList _ fun m u hj => ?_
          obtain ⟨t, rfl⟩ := hi.2 m u (by rw [← hj, Array.getElem?_toList])
          exact ⟨t, rfl⟩
        refine ⟨.ref (s1.heap.push { cls := .type "range", data := .fields #[.int i t, .int j t', .int k t''] }).objs.size, upd H1 _ (.lst _), I2.laid hk (Nat.le_refl _) (show ObjOk X.prog X.w _ _ _ (.lst _) from ⟨?_, acc.toList, c', hv, ?_⟩), rfl, q _ (I2.hok.fresh (Nat.le_refl _))⟩
        · rw [List.length_map, List.length_range, sizeLine_eq]; omega
        · rw [Array.toArray_toList]; exact e'
theorem firstMet_fold {ns : List Int} : PyProof.Rows.firstMet (fun i => ns.getD i 0) ns.length = ns.foldl dedI [] := by
  unfold PyProof.Rows.firstMet
  have e : (List.range ns.length).map (fun i => ns.getD i 0) = ns := by
    apply List.ext_getElem
    · simp
    · intro i h1 h2
      simp [List.getElem?_eq_getElem h2]
  rw [e]
  rfl
noncomputable def tLenSetG (K : PySem.W.Frag) (ta : TE) : TE := fun σ H Q => ta σ H fun x H1 => ∃ (l : Addr) (ns : List Int), x = .ref l ∧ SqL K H1 l (ns.map V.int) ∧ ns.length ≤ 4000 ∧ Q (.int ((ns.foldl dedI []).length : Nat)) H1
theorem dedI_len : ∀ (ns l : List Int), (ns.foldl dedI l).length ≤ l.length + ns.length
  | [], l => by simp
  | n :: ns, l => by
    rw [List.foldl_cons]
    have := dedI_len ns (dedI l n)
    have h : (dedI l n).length ≤ l.length + 1 := by
      unfold dedI
      split
      · omega
      · rw [List.length_append]; simp
    rw [List.length_cons]
    omega
theorem pe_lenSetG {a : Expr} {ta : TE} {p p2 q pos : Pos} (hc : X.calm = true) (hg : Gl X "len") (hm : X.mg "len" = none) (hg2 : Gl X "set") (hm2 : X.mg "set" = none) (ha : PE X a ta)
    (na : starEach [a] X.env = (false, eval a X.env) :: starEach [] X.env) : PE X (.Call (.Name "len" p) [.Call (.Name "set" p2) [a] [] q] [] pos) (tLenSetG X.K ta) := by
  refine ⟨fun pins s σ H Q I h => ?_⟩
  refine Call_ (ld_blt I hg hm boot_len ?_)
  refine PyProof.Rows.callWith_builtin1 (PyProof.Rows.args_cons ?_ rfl) rfl rfl
  refine Call_ (ld_blt I hg2 hm2 boot_set ?_)
  refine PyProof.Rows.callWith_type1 (PyProof.Rows.args_cons (thn (ha.run pins s σ H _ I h) fun v s1 ⟨x, H1, I1, r1, q1⟩ => PyProof.Rows.args_nil ?_) na) na rfl
  obtain ⟨l, ns, rfl, hq, hl, q1⟩ := q1
  cases r1
  obtain ⟨its, r, pl, hz⟩ := I1.list hq
  have hlen : its.toArray.size = ns.length := by rw [List.size_toArray, ← r.length, List.length_map]
  refine call_set_list (I1.ok.hd hc) pl.isList (by simpa using RZ.intsAre_vals r) (by rw [hlen]; unfold scanBound; omega) fun h' tk hS hk => ?_
  refine PyProof.Rows.args_nil ?_
  rw [hlen, firstMet_fold] at hS
  have hd2 := dedI_len ns []
  obtain ⟨o, es, ep, t, ho, hex, hd, _, _, _, hf, hn⟩ := hS
  have I2 : Inv X pins σ H1 { s1 with heap := h', toks := tk } := I1.kept fun b o e => hk b o (Heap.lt_size e) e
  refine call_len_set ho hex hd hf (by rw [hn]; simp at hd2; omega) ⟨.int ((ns.foldl dedI []).length : Nat), H1, I2.tok _, ⟨_, by rw [hn]⟩, q1⟩
end
section
variable {T : Tab} {xc : Nat → Value} {S : Sta} {cs : Nat → List W → Sto → CR} {gl : List W} {k : Nat} {N : List Str} {fb : Str → Bool} {sc : Scope} {Wx : WX} {X : Cx}
theorem snd_gget (C : CxOk T xc S cs gl k N fb sc Wx X) {x : Str} {kvs : List (Str × Int)} {kk d : E} {pk pd : Expr} {p ap pos : Pos} (hd : (x, kvs) ∈ S.dcs) (hg : glB sc x = true) (hp : plB x = true) (hl : (ap.endLine == pos.line) = true) (n1 : noStar pk = true) (n2 : noStar pd = true) (hk : PE X pk (SE T xc cs gl Wx kk)) (hpd : PE X pd (SE T xc cs gl Wx d)) :
    PE X (.Call (.Attribute (.Name x p) "get" ap) [pk, pd] [] pos) (SE T xc cs gl Wx (.gget x kvs kk d)) := by
  have hu := C.un
  obtain ⟨a, g1, g2⟩ := C.md.dcs x kvs hd
  obtain ⟨d1, _, _⟩ := pl_of hp
  have st : starEach [pk, pd] X.env = [(false, eval pk X.env), (false, eval pd X.env)] := by rw [star_of n1, star_of n2]; rfl
  refine (pe_gget (by omega) (pe_glob (v := .ref a) (gl_of C.es hg) g1 (by rfl) d1) hk hpd ⟨base_of rfl, few_of (fun q hq => by
    rcases List.mem_cons.mp hq with rfl | hq
    · exact n1
    · rcases List.mem_cons.mp hq with rfl | hq
      · exact n2
      · cases hq) (show 2 < 29 by decide), hl, by rw [st]; rfl⟩).imp fun σ H Q z => ?_
  obtain ⟨B, r, P, m, en, R, g⟩ := z
  simp only [ev] at g
  refine ⟨a, kvs, rfl, by rw [C.eK]; exact g2, ?_⟩
  refine ⟨B, r, P, m, en, R, g.bind fun y en1 m1 B1 r1 H1 e1 R1 h1 v hv => ?_⟩
  obtain ⟨z, e2, h2⟩ := h1.opt
  have := str_of R1 hv e2
  subst this
  refine ⟨B1, r1, P, m1, en1, R1, h2.bind fun y2 en3 m3 B3 r3 H3 e3 R3 h3 u hu => ?_⟩
  obtain ⟨i, e4, h4⟩ := h3.opt
  have e4 := intR_some e4
  subst e4
  cases hu
  exact ⟨z, i, rfl, rfl, h4.fin R3 _ (.int _)⟩
theorem snd_lrng3 (C : CxOk T xc S cs gl k N fb sc Wx X) (hcB : S.cB = true) {a b : E} {x y : Str} {q q2 : Expr} {i : Int} {jj : Nat} {p p2 p3 p4 pos pos2 : Pos} (hx : x = ("list" : Str)) (hy : y = ("range" : Str)) (hi : i = 1) (hg : glB sc x = true) (hg2 : glB sc y = true) (hn : noStar q = true) (hn2 : noStar q2 = true) (ha : PE X q (SE T xc cs gl Wx a)) (hb : PE X q2 (SE T xc cs gl Wx b)) :
    PE X (.Call (.Name x p) [.Call (.Name y p2) [q, q2, .UnaryOp .USub (.Constant (.int i) jj p3) p4] [] pos2] [] pos) (SE T xc cs gl Wx (.lrng3 a b)) := by
  subst hx hy hi
  have n3 : noStar (.UnaryOp .USub (.Constant (.int 1) jj p3) p4) = true := rfl
  have neg : PE X (.UnaryOp .USub (.Constant (.int 1) jj p3) p4) (tC (.int (-1))) := (pe_un un_neg pe_int).imp fun σ H Q z => ⟨_, rfl, z⟩
  refine (pe_listRg3 (C.calm hcB) (gl_of C.es hg) (C.md.blt _ (by decide +kernel)) (gl_of C.es hg2) (C.md.blt _ (by decide +kernel)) (pa_cons ha (pa_cons hb (pa_cons neg pa_nil (star_of n3)) (star_of hn2)) (star_of hn)) (star_of hn) (back_no fun r hr => by
    rcases List.mem_cons.mp hr with e | e
    · rw [e]; exact hn2
    · rw [List.mem_singleton.mp e]; exact n3)).imp fun σ H Q z => ?_
  obtain ⟨B, r, P, m, en, R, g⟩ := z
  simp only [ev] at g
  refine SG.go R (g.bind fun x en1 m1 B1 r1 H1 e1 R1 h1 v hv => ?_)
  refine SG.go R1 (h1.bind fun y en2 m2 B2 r2 H2 e2 R2 h2 u hu => ?_)
  obtain ⟨n, e, h3⟩ := h2.opt
  obtain ⟨n2, e3, h4⟩ := h3.opt
  obtain ⟨hl, h5⟩ := h4.ifp
  have e := intR_some e
  have e3 := intR_some e3
  subst e e3
  cases hv
  cases hu
  refine ⟨n, n2, -1, (n - n2).toNat, rfl, RgC.neg (by omega) (by omega) (by omega) (by omega), by omega, fun p hp => ?_⟩
  refine h5 B2 r2 _ Ext.refl (R2.grow (Sub.new hp)) _ (R2.new_own hp ?_)
  generalize List.range (n - n2).toNat = ls
  induction ls with
  | nil => exact .nil
  | cons i r ih => exact .cons (.int _) ih
theorem snd_lset (C : CxOk T xc S cs gl k N fb sc Wx X) (hcB : S.cB = true) {a : E} {x y : Str} {q : Expr} {p p2 pos pos2 : Pos} (hx : x = ("len" : Str)) (hy : y = ("set" : Str)) (hg : glB sc x = true) (hg2 : glB sc y = true) (hn : noStar q = true) (ha : PE X q (SE T xc cs gl Wx a)) :
    PE X (.Call (.Name x p) [.Call (.Name y p2) [q] [] pos2] [] pos) (SE T xc cs gl Wx (.lset a)) := by
  subst hx hy
  refine (pe_lenSetG (C.calm hcB) (gl_of C.es hg) (C.md.blt _ (by decide +kernel)) (gl_of C.es hg2) (C.md.blt _ (by decide +kernel)) ha (star_of hn)).imp fun σ H Q z => ?_
  obtain ⟨B, r, P, m, en, R, g⟩ := z
  simp only [ev] at g
  refine SG.go R (g.bind fun x en1 m1 B1 r1 H1 e1 R1 h1 v hv => ?_)
  obtain ⟨ns, e, h2⟩ := h1.opt
  obtain ⟨hl, h3⟩ := h2.ifp
  obtain ⟨ws, e1, e2⟩ := Option.bind_eq_some_iff.mp e
  unfold rvL at e1
  obtain ⟨w, e3, e4⟩ := Option.bind_eq_some_iff.mp e1
  obtain ⟨l, vs, rfl, d, lr⟩ := RepT.lsts R1.s (R1.top hv e3) (lstS_of_lst e4)
  have z := lr.ints e2
  subst z
  exact ⟨l, ns, rfl, by rw [C.eK]; exact d, hl, h3.fin R1 _ (.int _)⟩
end
end Mp
set_option Elab.async false
set_option linter.all false
set_option maxRecDepth 100000
set_option maxHeartbeats 4000000
/-! tuples of lists; how often a text holds another one, and where first -/
namespace Mp
open PySem PySem.Spec PyProof.Rows L2
section
variable {T : Tab} {xc : Nat → Value} {S : Sta} {cs : Nat → List W → Sto → CR} {gl : List W} {k : Nat} {N : List Str} {fb : Str → Bool} {sc : Scope} {Wx : WX} {X : Cx}
theorem snd_tupl (C : CxOk T xc S cs gl k N fb sc Wx X) {a : E} {x : Str} {q : Expr} {p pos : Pos} (hx : x = ("tuple" : Str)) (hg : glB sc x = true) (hn : noStar q = true) (ha : PE X q (SE T xc cs gl Wx a)) :
    PE X (.Call (.Name x p) [q] [] pos) (SE T xc cs gl Wx (.tupl a)) := by
  subst hx
  refine (pe_tupleOf (gl_of C.es hg) (C.md.blt _ (by decide +kernel)) ha (star_of hn)).imp fun σ H Q z => ?_
  obtain ⟨B, r, P, m, en, R, g⟩ := z
  simp only [ev] at g
  refine SG.go R (g.bind fun y en1 m1 B1 r1 H1 e1 R1 h1 v hv => ?_)
  obtain ⟨ws, e2, h2⟩ := h1.opt
  unfold rvL at e2
  obtain ⟨w, e3, e4⟩ := Option.bind_eq_some_iff.mp e2
  obtain ⟨l, vs, rfl, d, lr⟩ := RepT.lst R1.s (R1.top hv e3) e4
  refine .inl ⟨l, vs, rfl, by rw [C.eK]; exact .inl d, fun t ht => ?_⟩
  obtain ⟨B4, e5, R5, hb5⟩ := R1.new_frz (o := .tup vs) ht
  exact h2 B4 r1 _ e5 R5 _ (.tup (.inl (.inl hb5)) (RepL.mono e5.sub e5.pre lr))
theorem snd_tcnt (C : CxOk T xc S cs gl k N fb sc Wx X) {a b : E} {pa q : Expr} {x : Str} {ap pos : Pos} (hx : x = ("count" : Str)) (hb : baseB pa = true) (hl : (ap.endLine == pos.line) = true) (hn : noStar q = true) (ha : PE X pa (SE T xc cs gl Wx a)) (hq : PE X q (SE T xc cs gl Wx b)) :
    PE X (.Call (.Attribute pa x ap) [q] [] pos) (SE T xc cs gl Wx (.tcnt a b)) := by
  subst hx
  refine (pe_m1 PySem.F.slot_str_count PySem.F.type_str_count mt_count ha hq (star_of hn) (base_of hb) hl).imp fun σ H Q z => ?_
  obtain ⟨B, r, P, m, en, R, g⟩ := z
  simp only [ev] at g
  refine SG.go R (g.bind fun y en1 m1 B1 r1 H1 e1 R1 h1 v hv => ?_)
  obtain ⟨s, e2, h2⟩ := h1.opt
  refine ⟨⟨s, str_of R1 hv e2⟩, B1, r1, P, m1, en1, R1, h2.bind fun y2 en3 m3 B3 r3 H3 e3 R3 h3 u hu => ?_⟩
  obtain ⟨t, e4, h4⟩ := h3.opt
  exact ⟨s, t, str_of R1 hv e2, by rw [str_of R3 hu e4], h4.fin R3 _ (.int _)⟩
theorem snd_tidx (C : CxOk T xc S cs gl k N fb sc Wx X) {a b : E} {pa q : Expr} {x : Str} {ap pos : Pos} (hx : x = ("index" : Str)) (hb : baseB pa = true) (hl : (ap.endLine == pos.line) = true) (hn : noStar q = true) (ha : PE X pa (SE T xc cs gl Wx a)) (hq : PE X q (SE T xc cs gl Wx b)) :
    PE X (.Call (.Attribute pa x ap) [q] [] pos) (SE T xc cs gl Wx (.tidx a b)) := by
  subst hx
  refine (pe_m1 PySem.F.slot_str_index PySem.F.type_str_index mt_sindex ha hq (star_of hn) (base_of hb) hl).imp fun σ H Q z => ?_
  obtain ⟨B, r, P, m, en, R, g⟩ := z
  simp only [ev] at g
  refine SG.go R (g.bind fun y en1 m1 B1 r1 H1 e1 R1 h1 v hv => ?_)
  obtain ⟨s, e2, h2⟩ := h1.opt
  refine ⟨⟨s, str_of R1 hv e2⟩, B1, r1, P, m1, en1, R1, h2.bind fun y2 en3 m3 B3 r3 H3 e3 R3 h3 u hu => ?_⟩
  obtain ⟨t, e4, h4⟩ := h3.opt
  obtain ⟨i, e5, h5⟩ := h4.opt
  obtain ⟨rest, e6⟩ : ∃ rest, Builtin.Str.occurrences s t 0 s.length 1 = i :: rest := by
    cases q : Builtin.Str.occurrences s t 0 s.length 1 with
    | nil => rw [q] at e5; cases e5
    | cons a l => rw [q] at e5; cases e5; exact ⟨l, rfl⟩
  exact ⟨s, t, i, rest, str_of R1 hv e2, by rw [str_of R3 hu e4], e6, h5.fin R3 _ (.int _)⟩
end
end Mp
set_option Elab.async false
set_option linter.all false
set_option maxRecDepth 100000
set_option maxHeartbeats 4000000
namespace Mp
open PySem PySem.Spec PyProof.Rows L2
section
variable (T : Tab) (xc : Nat → Value) (S : Sta) (cs : Nat → List W → Sto → CR) (gl : List W) (k : Nat) (N : List Str)
structure Bd (e : E) : Prop where
  val : ∀ {fb sc Wx X p}, CxOk T xc S cs gl k N fb sc Wx X → okE S N fb sc e p = true → Snd T xc cs gl Wx X e p
  args : ∀ {fb sc Wx X ps}, CxOk T xc S cs gl k N fb sc Wx X → okEs S N fb sc e ps = true → PA X ps (SA T xc cs gl Wx e)
  few : ∀ {fb sc Wx X ps}, CxOk T xc S cs gl k N fb sc Wx X → ps ≠ [] → okEs S N fb sc e ps = true → PA X ps (SL T xc cs gl Wx e)
  ands : ∀ {fb sc Wx X ps pos}, CxOk T xc S cs gl k N fb sc Wx X → okB S N fb sc e ps = true → PE X (.BoolOp .And ps pos) (SG T xc Wx (evAnd cs gl e)) ∧ PW X (.BoolOp .And ps pos) (SBG T xc Wx (evAnd cs gl e))
  ors : ∀ {fb sc Wx X ps pos}, CxOk T xc S cs gl k N fb sc Wx X → okB S N fb sc e ps = true → PE X (.BoolOp .Or ps pos) (SG T xc Wx (evOr cs gl e)) ∧ PW X (.BoolOp .Or ps pos) (SBG T xc Wx (evOr cs gl e))
  src : ∀ {fb sc Wx X it tg p}, CxOk T xc S cs gl k N fb sc Wx X → okI S N fb sc it e tg p = true → PI X tg p (SI T xc cs gl Wx it e) ∧ setB p = false
  prs : ∀ {fb sc Wx X ps ks keys pos}, CxOk T xc S cs gl k N fb sc Wx X → okEs S N fb sc e ps = true → sameL ks e = true → keysB ks keys = true → PPs X pos keys ps (trsOf T xc cs gl Wx ks e)
end
section
variable {T : Tab} {xc : Nat → Value} {S : Sta} {cs : Nat → List W → Sto → CR} {gl : List W} {k : Nat} {N : List Str}
theorem okEs_stars {fb : Str → Bool} {sc : Scope} : ∀ {e : E} {ps : List Expr}, okEs S N fb sc e ps = true → ∀ q ∈ ps, noStar q = true
  | .nil, ps, h => by
    unfold okEs at h
    split at h
    · intro q hq; cases hq
    · cases h
  | .cons a e, ps, h => by
    unfold okEs at h
    split at h
    · simp only [Bool.and_eq_true] at h
      intro q hq
      rcases List.mem_cons.mp hq with rfl | hq
      · exact h.1.1
      · exact okEs_stars h.2 q hq
    · cases h
  | .var _, _, h => by simp [okEs] at h
  | .int _, _, h => by simp [okEs] at h
  | .bl _, _, h => by simp [okEs] at h
  | .non, _, h => by simp [okEs] at h
  | .str _, _, h => by simp [okEs] at h
  | .glob _, _, h => by simp [okEs] at h
  | .bin _ _ _, _, h => by simp [okEs] at h
  | .neg _, _, h => by simp [okEs] at h
  | .cmp _ _ _, _, h => by simp [okEs] at h
  | .chain _ _ _ _ _, _, h => by simp [okEs] at h
  | .and _, _, h => by simp [okEs] at h
  | .or _, _, h => by simp [okEs] at h
  | .not _, _, h => by simp [okEs] at h
  | .ite _ _ _, _, h => by simp [okEs] at h
  | .lst _, _, h => by simp [okEs] at h
  | .tup _, _, h => by simp [okEs] at h
  | .idx _ _, _, h => by simp [okEs] at h
  | .slc _ _ _, _, h => by simp [okEs] at h
  | .call _ _ _, _, h => by simp [okEs] at h
  | .blt _ _, _, h => by simp [okEs] at h
  | .lrng _, _, h => by simp [okEs] at h
  | .isi _ _, _, h => by simp [okEs] at h
  | .mth _ _ _, _, h => by simp [okEs] at h
  | .comp _ _ _ _ _ _, _, h => by simp [okEs] at h
  | .box _, _, h => by simp [okEs] at h
  | .fld _ _ _, _, h => by simp [okEs] at h
  | .mcall _ _ _ _ _, _, h => by simp [okEs] at h
  | .make _ _ _ _, _, h => by simp [okEs] at h
  | .dnew, _, h => by simp [okEs] at h
  | .dget _ _ _, _, h => by simp [okEs] at h
  | .din _ _ _, _, h => by simp [okEs] at h
  | .dkeys _, _, h => by simp [okEs] at h
theorem Bd.mk1 {e : E} (h : ∀ {fb sc Wx X p}, CxOk T xc S cs gl k N fb sc Wx X → okE S N fb sc e p = true → Snd T xc cs gl Wx X e p)
    (h1 : ∀ {fb sc ps}, okEs S N fb sc e ps = false) (h2 : ∀ {fb sc ps}, okB S N fb sc e ps = false) (h3 : ∀ {fb sc it tg p}, okI S N fb sc it e tg p = false) : Bd T xc S cs gl k N e where
  val := h
  args := fun _ q => by rw [h1] at q; cases q
  few := fun _ _ q => by rw [h1] at q; cases q
  ands := fun _ q => by rw [h2] at q; cases q
  ors := fun _ q => by rw [h2] at q; cases q
  src := fun _ q => by rw [h3] at q; cases q
  prs := fun _ q => by rw [h1] at q; cases q
theorem bd_cmp {op : Cm} {a b : E} (A : Bd T xc S cs gl k N a) (B : Bd T xc S cs gl k N b) : Bd T xc S cs gl k N (.cmp op a b) := by
  refine Bd.mk1 (fun C h => ?_) (by simp [okEs]) (by simp [okB]) (by simp [okI])
  unfold okE at h
  split at h
  · simp only [Bool.and_eq_true, Bool.not_eq_true'] at h
    exact snd_cmp C h.1.1.1 h.1.1.2 (A.val C h.1.2).pe (B.val C h.2).pe
  · cases h
theorem bd_chain {op op2 : Cm} {a b c : E} (A : Bd T xc S cs gl k N a) (B : Bd T xc S cs gl k N b) (D : Bd T xc S cs gl k N c) : Bd T xc S cs gl k N (.chain op op2 a b c) := by
  refine Bd.mk1 (fun C h => ?_) (by simp [okEs]) (by simp [okB]) (by simp [okI])
  unfold okE at h
  split at h
  · simp only [Bool.and_eq_true, Bool.not_eq_true'] at h
    obtain ⟨⟨⟨⟨⟨⟨h1, h2⟩, h3⟩, h4⟩, h5⟩, h6⟩, h7⟩ := h
    exact snd_chain C h1 h2 h4 (A.val C h5).pe (B.val C h6).pe (D.val C h7).pe
  · cases h
theorem bd_slc {a lo hi : E} (A : Bd T xc S cs gl k N a) (L : Bd T xc S cs gl k N lo) (U : Bd T xc S cs gl k N hi) : Bd T xc S cs gl k N (.slc a lo hi) := by
  refine Bd.mk1 (fun C h => ?_) (by simp [okEs]) (by simp [okB]) (by simp [okI])
  unfold okE at h
  split at h
  · simp only [Bool.and_eq_true] at h
    obtain ⟨⟨h1, h2⟩, h3⟩ := h
    refine Snd.val (snd_slc C (A.val C h1).pe (snd_part ?_) (snd_part ?_)) fun _ => rfl
    · split at h2
      · exact h2
      · simp only [Bool.and_eq_true, Bool.not_eq_true'] at h2
        exact ⟨h2.1, (L.val C h2.2).pe⟩
    · split at h3
      · exact h3
      · simp only [Bool.and_eq_true, Bool.not_eq_true'] at h3
        exact ⟨h3.1, (U.val C h3.2).pe⟩
  · cases h
theorem bd_ssl {a lo hi : E} (A : Bd T xc S cs gl k N a) (L : Bd T xc S cs gl k N lo) (U : Bd T xc S cs gl k N hi) : Bd T xc S cs gl k N (.ssl a lo hi) := by
  refine Bd.mk1 (fun C h => ?_) (by simp [okEs]) (by simp [okB]) (by simp [okI])
  unfold okE at h
  split at h
  · simp only [Bool.and_eq_true] at h
    obtain ⟨⟨h1, h2⟩, h3⟩ := h
    refine Snd.val (snd_ssl C (A.val C h1).pe (snd_part ?_) (snd_part ?_)) fun _ => rfl
    · split at h2
      · exact h2
      · simp only [Bool.and_eq_true, Bool.not_eq_true'] at h2
        exact ⟨h2.1, (L.val C h2.2).pe⟩
    · split at h3
      · exact h3
      · simp only [Bool.and_eq_true, Bool.not_eq_true'] at h3
        exact ⟨h3.1, (U.val C h3.2).pe⟩
  · cases h
theorem bd_call {f n : Nat} {es : E} (A : Bd T xc S cs gl k N es) : Bd T xc S cs gl k N (.call f n es) := by
  refine Bd.mk1 (fun C h => ?_) (by simp [okEs]) (by simp [okB]) (by simp [okI])
  unfold okE at h
  split at h
  · simp only [Bool.and_eq_true] at h
    obtain ⟨⟨⟨⟨h1, hc⟩, h2⟩, h3⟩, h4⟩ := h
    split at h1
    · simp only [Bool.and_eq_true, decide_eq_true_eq] at h1
      obtain ⟨h5, rfl⟩ := h1
      have h5 := eq_of_beq h5
      subst h5
      exact Snd.val (snd_call C hc (by assumption) h2 h3 h4 (A.args C h4)) fun _ => rfl
    · cases h1
  · cases h
theorem bd_blt {b : Bi} {es : E} (A : Bd T xc S cs gl k N es) : Bd T xc S cs gl k N (.blt b es) := by
  refine Bd.mk1 (fun C h => ?_) (by simp [okEs]) (by simp [okB]) (by simp [okI])
  unfold okE at h
  split at h
  · simp only [Bool.and_eq_true] at h
    obtain ⟨⟨⟨hc, h1⟩, h2⟩, h3⟩ := h
    have st := okEs_stars h3
    refine Snd.val (snd_blt C hc (eq_of_beq h1) h2 ?_ (back_no fun q hq => st q (List.mem_cons_of_mem _ hq)) (star_of (st _ List.mem_cons_self)) (A.few C (by simp) h3)) fun _ => rfl
    cases b <;> simp [bltTy]
  · cases h
theorem bd_comp {it : It} {src c elt : E} {tg : Tg} {js : List Nat} (A : Bd T xc S cs gl k N src) (C0 : Bd T xc S.blk cs gl k N c) (D : Bd T xc S.blk cs gl k N elt) : Bd T xc S cs gl k N (.comp it src tg js c elt) := by
  refine Bd.mk1 (fun C h => ?_) (by simp [okEs]) (by simp [okB]) (by simp [okI])
  unfold okE at h
  split at h
  · simp only [Bool.and_eq_true] at h
    obtain ⟨⟨⟨⟨⟨⟨hc, h1⟩, h2⟩, h3⟩, h4⟩, h5⟩, h6⟩ := h
    obtain ⟨pi, hs⟩ := A.src C h1
    refine Snd.val (snd_comp C hc pi h2 h3 (by split at h6 <;> exact eq_of_beq h6) (fun CY => ?_) (fun CY => (D.val CY h5).pe) hs).1 fun _ => rfl
    split at h4
    · exact ⟨fun pins s σ H Q I z => pts_nil.run pins s σ H Q I (by
        rcases z with z | z
        · exact z.2
        · rw [h4] at z; cases z.1)⟩
    · simp only [Bool.and_eq_true, Bool.not_eq_true'] at h4
      obtain ⟨⟨h7, h8⟩, h9⟩ := h4
      exact ⟨fun pins s σ H Q I z => (pts_one ((C0.val CY h9).pt h8)).run pins s σ H Q I (by
        rcases z with z | z
        · rw [h7] at z; cases z.1
        · exact z.2)⟩
    · cases h4
  · cases h
theorem bd_compx {it : It} {src c elt : E} {tg : Tg} {js : List Nat} (A : Bd T xc S cs gl k N src) (C0 : Bd T xc S.blk cs gl k N c) (D : Bd T xc S.blk cs gl k N elt) : Bd T xc S cs gl k N (.compx it src tg js c elt) := by
  refine Bd.mk1 (fun C h => ?_) (by simp [okEs]) (by simp [okB]) (by simp [okI])
  unfold okE at h
  split at h
  · simp only [Bool.and_eq_true] at h
    obtain ⟨⟨⟨⟨⟨⟨⟨hc, ht⟩, h1⟩, h2⟩, h3⟩, h4⟩, h5⟩, h6⟩ := h
    obtain ⟨pi, hs⟩ := A.src C h1
    refine Snd.val (snd_compx C hc ht pi h2 h3 (by split at h6 <;> exact eq_of_beq h6) (fun CY => ?_) (fun CY => (D.val CY h5).pe) hs) fun _ => rfl
    split at h4
    · exact ⟨fun pins s σ H Q I z => pts_nil.run pins s σ H Q I (by
        rcases z with z | z
        · exact z.2
        · rw [h4] at z; cases z.1)⟩
    · simp only [Bool.and_eq_true, Bool.not_eq_true'] at h4
      obtain ⟨⟨h7, h8⟩, h9⟩ := h4
      exact ⟨fun pins s σ H Q I z => (pts_one ((C0.val CY h9).pt h8)).run pins s σ H Q I (by
        rcases z with z | z
        · rw [h7] at z; cases z.1
        · exact z.2)⟩
    · cases h4
  · cases h
theorem bd_gget {x : Str} {kvs : List (Str × Int)} {kk d : E} (B : Bd T xc S cs gl k N kk) (D : Bd T xc S cs gl k N d) : Bd T xc S cs gl k N (.gget x kvs kk d) := by
  refine Bd.mk1 (fun C h => ?_) (by simp [okEs]) (by simp [okB]) (by simp [okI])
  unfold okE at h
  split at h
  · simp only [Bool.and_eq_true] at h
    obtain ⟨⟨⟨⟨⟨⟨⟨⟨⟨h1, h2⟩, h3⟩, h4⟩, h5⟩, h6⟩, h7⟩, h8⟩, h9⟩, h10⟩ := h
    have e := eq_of_beq h1
    subst e
    have e := eq_of_beq h5
    subst e
    exact Snd.val (snd_gget C (by simpa using h2) h3 h4 h6 h7 h8 (B.val C h9).pe (D.val C h10).pe) fun _ => rfl
  · cases h
theorem po_ix {X : Cx} {l : Option Int} {p : Option Expr} (h : ixP l p = true) : PO X p (fun _ H Q => Q l H) := by
  unfold ixP at h
  split at h
  · exact po_none
  · have e := of_decide_eq_true h
    subst e
    refine ⟨fun pins s σ H Q I z => (po_some pe_int).run pins s σ H Q I ⟨_, rfl, z⟩⟩
  · cases h
theorem bd_mth {t : Mt} {a es : E} (A : Bd T xc S cs gl k N a) (B : Bd T xc S cs gl k N es) : Bd T xc S cs gl k N (.mth t a es) := by
  refine Bd.mk1 (fun C h => ?_) (by simp [okEs]) (by simp [okB]) (by simp [okI])
  unfold okE at h
  split at h
  · simp only [Bool.and_eq_true] at h
    obtain ⟨⟨⟨⟨⟨h1, h2⟩, h3⟩, h4⟩, h5⟩, h6⟩ := h
    exact Snd.val (snd_pop C (eq_of_beq h1) h2 h3 h5 (A.val C h4).pe (B.args C h6)) fun _ => rfl
  · simp only [Bool.and_eq_true] at h
    obtain ⟨⟨⟨⟨h1, h2⟩, h3⟩, h4⟩, h5⟩ := h
    cases es <;> first | (exact absurd h5 Bool.false_ne_true) | skip
    exact Snd.val (snd_bits (eq_of_beq h1) h2 h3 (A.val C h4).pe) fun _ => rfl
  · simp only [Bool.and_eq_true] at h
    obtain ⟨⟨⟨⟨⟨h1, h2⟩, h3⟩, h4⟩, h5⟩, h6⟩ := h
    exact Snd.val (snd_count C (eq_of_beq h1) h2 h3 h5 (A.val C h4).pe (B.args C h6)) fun _ => rfl
  · simp only [Bool.and_eq_true] at h
    obtain ⟨⟨⟨⟨⟨h1, h2⟩, h3⟩, h4⟩, h5⟩, h6⟩ := h
    exact Snd.val (snd_index C (eq_of_beq h1) h2 h3 h5 (A.val C h4).pe (B.args C h6)) fun _ => rfl
  · simp only [Bool.and_eq_true] at h
    have e := eq_of_beq h.1.1
    subst e
    exact Snd.val (snd_rev C (A.val C h.1.2).pe) fun _ => rfl
  · simp only [Bool.and_eq_true] at h
    exact Snd.val (snd_tsl C (A.val C h.1.2).pe (po_ix h.1.1.1) (po_ix h.1.1.2)) fun _ => rfl
  · simp only [Bool.and_eq_true] at h
    obtain ⟨⟨⟨⟨⟨h1, h2⟩, h3⟩, h4⟩, h5⟩, h6⟩ := h
    exact Snd.val (snd_split C (eq_of_beq h1) h2 h3 h5 (A.val C h4).pe (B.val C h6).pe) fun _ => rfl
  · simp only [Bool.and_eq_true] at h
    obtain ⟨⟨⟨⟨⟨h1, h2⟩, h3⟩, h4⟩, h5⟩, h6⟩ := h
    exact Snd.val (snd_partn C (eq_of_beq h1) h2 h3 h5 (A.val C h4).pe (B.val C h6).pe) fun _ => rfl
  · simp only [Bool.and_eq_true] at h
    obtain ⟨⟨⟨⟨⟨h1, h2⟩, h3⟩, h4⟩, h5⟩, h6⟩ := h
    exact Snd.val (snd_join C (eq_of_beq h1) h2 h3 h5 (A.val C h4).pe (B.val C h6).pe) fun _ => rfl
  · cases h
theorem bd_fld {a : E} {x : Str} {cl : List Nat} (A : Bd T xc S cs gl k N a) : Bd T xc S cs gl k N (.fld a x cl) := by
  refine Bd.mk1 (fun C h => ?_) (by simp [okEs]) (by simp [okB]) (by simp [okI])
  unfold okE at h
  split at h
  · simp only [Bool.and_eq_true, List.all_eq_true] at h
    obtain ⟨⟨⟨h1, h2⟩, h3⟩, h4⟩ := h
    have e := eq_of_beq h1
    subst e
    refine Snd.val (snd_fld C h2 (fun c hc => ?_) (A.val C h4).pe) fun _ => rfl
    have h5 := h3 c hc
    split at h5
    · exact ⟨_, by assumption, by simpa using h5⟩
    · cases h5
  · cases h
theorem bd_mcall {a es : E} {x : Str} {cf : List (Nat × Nat)} {n : Nat} (A : Bd T xc S cs gl k N a) (B : Bd T xc S cs gl k N es) : Bd T xc S cs gl k N (.mcall a x cf n es) := by
  refine Bd.mk1 (fun C h => ?_) (by simp [okEs]) (by simp [okB]) (by simp [okI])
  unfold okE at h
  split at h
  · simp only [Bool.and_eq_true, List.all_eq_true, decide_eq_true_eq] at h
    obtain ⟨⟨⟨⟨⟨⟨⟨hc, h1⟩, h2⟩, h3⟩, h4⟩, h5⟩, h6⟩, h7⟩ := h
    have e := eq_of_beq h1
    subst e
    refine Snd.val (snd_mcall C hc h2 h3 h4 (fun q hq => ?_) (okEs_stars h7) (fun e => ?_) (A.val C h6).pe (B.args C h7)) fun _ => rfl
    · have h8 := h5 q hq
      split at h8
      · simp only [Bool.and_eq_true] at h8
        obtain ⟨h9, h10⟩ := h8
        split at h10
        · have e := of_decide_eq_true h10
          subst e
          exact ⟨_, by assumption, by simpa using h9, _, by assumption⟩
        · cases h10
      · cases h8
    · subst e
      cases es <;> first | rfl | (exfalso; revert h7; simp [okEs])
  · cases h
theorem bd_make {c f n : Nat} {es : E} (B : Bd T xc S cs gl k N es) : Bd T xc S cs gl k N (.make c f n es) := by
  refine Bd.mk1 (fun C h => ?_) (by simp [okEs]) (by simp [okB]) (by simp [okI])
  unfold okE at h
  split at h
  · simp only [Bool.and_eq_true] at h
    obtain ⟨⟨⟨⟨⟨h1, h2⟩, hc⟩, h3⟩, h4⟩, h5⟩ := h
    split at h1
    · simp only [Bool.and_eq_true, decide_eq_true_eq] at h1
      split at h2
      · have e := of_decide_eq_true h2
        subst e
        exact Snd.val (snd_make C hc (by assumption) (eq_of_beq h1.1) h1.2 ⟨_, by assumption⟩ h3 h4 (okEs_stars h5) (B.args C h5)) fun _ => rfl
      · cases h2
    · cases h1
  · simp only [Bool.and_eq_true] at h
    obtain ⟨⟨⟨⟨⟨h1, h2⟩, hc⟩, h3⟩, h4⟩, h5⟩ := h
    have e0 : es = .nil := by cases es <;> first | rfl | (exfalso; revert h5; simp [okEs])
    subst e0
    split at h1
    · simp only [Bool.and_eq_true, decide_eq_true_eq] at h1
      split at h2
      · have e := of_decide_eq_true h2
        subst e
        exact Snd.val (snd_make0 C hc (by assumption) (eq_of_beq h1.1) h1.2 ⟨_, by assumption⟩ h3 h4) fun _ => rfl
      · cases h2
    · cases h1
  · cases h
theorem bd_dget {a kk d : E} (A : Bd T xc S cs gl k N a) (B : Bd T xc S cs gl k N kk) (D : Bd T xc S cs gl k N d) : Bd T xc S cs gl k N (.dget a kk d) := by
  refine Bd.mk1 (fun C h => ?_) (by simp [okEs]) (by simp [okB]) (by simp [okI])
  unfold okE at h
  split at h
  · simp only [Bool.and_eq_true] at h
    obtain ⟨⟨⟨h1, h2⟩, h3⟩, h4⟩ := h
    cases d <;> first | (exact absurd h2 Bool.false_ne_true) | skip
    exact Snd.val (snd_dget C h1 (A.val C h3).pe (B.val C h4).pe) fun _ => rfl
  · simp only [Bool.and_eq_true] at h
    obtain ⟨⟨⟨⟨⟨⟨h1, h2⟩, h3⟩, h4⟩, h5⟩, h6⟩, h7⟩ := h
    have e := eq_of_beq h1
    subst e
    cases d <;> first | (exact absurd h5 Bool.false_ne_true) | skip
    exact Snd.val (snd_dget1 C h2 h3 h4 (A.val C h6).pe (B.val C h7).pe) fun _ => rfl
  · simp only [Bool.and_eq_true, Bool.not_eq_true'] at h
    obtain ⟨⟨⟨⟨⟨⟨⟨⟨h1, h2⟩, h3⟩, h4⟩, h5⟩, h6⟩, h7⟩, h8⟩, h9⟩ := h
    have e := eq_of_beq h1
    subst e
    exact Snd.val (snd_dget2 C h2 h3 h4 h5 h6 (A.val C h7).pe (B.val C h8).pe (D.val C h9).pe) fun _ => rfl
  · cases h
theorem bd_din {ng : Bool} {kk a : E} (A : Bd T xc S cs gl k N a) (B : Bd T xc S cs gl k N kk) : Bd T xc S cs gl k N (.din ng kk a) := by
  refine Bd.mk1 (fun C h => ?_) (by simp [okEs]) (by simp [okB]) (by simp [okI])
  unfold okE at h
  split at h
  · simp only [Bool.and_eq_true, Bool.not_eq_true'] at h
    obtain ⟨⟨⟨h1, h2⟩, h3⟩, h4⟩ := h
    subst h1
    exact snd_din (ng := false) C h2 (B.val C h3).pe (A.val C h4).pe
  · simp only [Bool.and_eq_true, Bool.not_eq_true'] at h
    obtain ⟨⟨⟨h1, h2⟩, h3⟩, h4⟩ := h
    subst h1
    exact snd_din (ng := true) C h2 (B.val C h3).pe (A.val C h4).pe
  · cases h
theorem keysB_cons {k0 : Str} {ks : List Str} {keys : List (Option Expr)} (h : keysB (k0 :: ks) keys = true) : ∃ k2 r p o, keys = some (.Constant (.str k2) o p) :: r ∧ k0 = k2 ∧ keysB ks r = true := by
  unfold keysB at h
  split at h
  · rename_i heq; cases heq
  · rename_i a b c d e f heq
    cases heq
    rw [Bool.and_eq_true] at h
    exact ⟨_, _, _, _, rfl, eq_of_beq h.1, h.2⟩
  · cases h
theorem keys_some : ∀ {ks : List Str} {keys : List (Option Expr)}, keysB ks keys = true → keys.all (·.isSome) = true
  | [], [], _ => rfl
  | [], _ :: _, h => by simp [keysB] at h
  | k :: ks, keys, h => by
    obtain ⟨_, _, _, _, rfl, _, h2⟩ := keysB_cons h
    rw [List.all_cons, keys_some h2]; rfl
theorem bd_nil : Bd T xc S cs gl k N .nil where
  val := fun _ h => by simp [okE] at h
  args := fun C h => by
    unfold okEs at h
    split at h
    · exact snd_nil
    · cases h
  few := fun C hp h => by
    unfold okEs at h
    split at h
    · exact absurd rfl hp
    · cases h
  ands := fun C h => by simp [okB] at h
  ors := fun C h => by simp [okB] at h
  src := fun C h => by simp [okI] at h
  prs := fun {fb sc Wx X ps ks keys pos} C h hl hk => by
    cases ks with
    | cons k0 ks => simp [sameL] at hl
    | nil =>
      cases keys with
      | cons q r => simp [keysB] at hk
      | nil =>
        unfold okEs at h
        split at h
        · exact pps_nil
        · cases h
theorem bd_cons {a es : E} (A : Bd T xc S cs gl k N a) (B : Bd T xc S cs gl k N es) : Bd T xc S cs gl k N (.cons a es) := by
  have ar : ∀ {fb sc Wx X ps}, CxOk T xc S cs gl k N fb sc Wx X → okEs S N fb sc (.cons a es) ps = true → PA X ps (SA T xc cs gl Wx (.cons a es)) := fun C h => by
    unfold okEs at h
    split at h
    · simp only [Bool.and_eq_true] at h
      exact snd_args h.1.1 (A.val C h.1.2).pe (B.args C h.2)
    · cases h
  refine ⟨fun _ h => by simp [okE] at h, ar, fun C hp h => ?_, fun C h => ?_, fun C h => ?_, fun C h => ?_, fun {fb sc Wx X ps ks keys pos} C h hl hk => ?_⟩
  · unfold okEs at h
    split at h
    · simp only [Bool.and_eq_true] at h
      refine snd_few h.1.1 (A.val C h.1.2).pe (B.args C h.2) fun hn => ?_
      have h2 := h.2
      cases es <;> first | (exact absurd hn Bool.false_ne_true) | skip
      unfold okEs at h2
      split at h2
      · rfl
      · cases h2
    · cases h
  · unfold okB at h
    split at h
    · cases h
    · simp only [Bool.and_eq_true, Bool.not_eq_true'] at h
      obtain ⟨⟨h1, h2⟩, h3⟩ := h
      cases es <;> first | (exact absurd h1 Bool.false_ne_true) | skip
      exact snd_and1 h2 (A.val C h3)
    · simp only [Bool.and_eq_true, Bool.not_eq_true'] at h
      obtain ⟨⟨h1, h2⟩, h3⟩ := h
      obtain ⟨v, w⟩ := B.ands C h3
      rename_i qs hne
      cases qs with
      | nil => exact (hne rfl).elim
      | cons q2 qs => exact snd_andl h1 (by cases es <;> first | rfl | (exfalso; revert h3; simp [okB])) (A.val C h2) v w
  · unfold okB at h
    split at h
    · cases h
    · simp only [Bool.and_eq_true, Bool.not_eq_true'] at h
      obtain ⟨⟨h1, h2⟩, h3⟩ := h
      cases es <;> first | (exact absurd h1 Bool.false_ne_true) | skip
      exact snd_or1 h2 (A.val C h3)
    · simp only [Bool.and_eq_true, Bool.not_eq_true'] at h
      obtain ⟨⟨h1, h2⟩, h3⟩ := h
      obtain ⟨v, w⟩ := B.ors C h3
      rename_i qs hne
      cases qs with
      | nil => exact (hne rfl).elim
      | cons q2 qs => exact snd_orl h1 (by cases es <;> first | rfl | (exfalso; revert h3; simp [okB])) (A.val C h2) v w
  · unfold okI at h
    split at h
    · rename_i heq
      simp only [E.cons.injEq] at heq
      obtain ⟨rfl, rfl⟩ := heq
      split at h
      · simp only [Bool.and_eq_true, Bool.not_eq_true'] at h
        exact ⟨pi_src C (.inl rfl) (A.val C h.2).pe, h.1⟩
      · simp only [Bool.and_eq_true, Bool.not_eq_true'] at h
        exact ⟨pi_src C (.inr (.inl rfl)) (A.val C h.2).pe, h.1⟩
      · simp only [Bool.and_eq_true, Bool.not_eq_true'] at h
        exact ⟨pi_src C (.inr (.inr rfl)) (A.val C h.2).pe, h.1⟩
      · simp only [Bool.and_eq_true, Bool.not_eq_true'] at h
        exact ⟨pi_keysS (A.val C h.2).pe, h.1⟩
      · split at h
        · simp only [Bool.and_eq_true] at h
          obtain ⟨⟨⟨h1, h2⟩, h3⟩, h4⟩ := h
          exact ⟨pi_rng1 C (eq_of_beq h1) h2 h3 (snd_args h3 (A.val C h4).pe snd_nil), rfl⟩
        · cases h
      · simp only [Bool.and_eq_true] at h
        obtain ⟨h0, h⟩ := h
        split at h
        · simp only [Bool.and_eq_true] at h
          obtain ⟨⟨⟨h1, h2⟩, h3⟩, h4⟩ := h
          exact ⟨pi_enumS C h0 (eq_of_beq h1) h2 h3 (snd_args h3 (A.val C h4).pe snd_nil), rfl⟩
        · cases h
      · split at h
        · simp only [Bool.and_eq_true] at h
          obtain ⟨⟨⟨h1, h2⟩, h3⟩, h4⟩ := h
          exact ⟨pi_revS C (eq_of_beq h1) h2 h3 (snd_args h3 (A.val C h4).pe snd_nil), rfl⟩
        · cases h
      · split at h
        · simp only [Bool.and_eq_true] at h
          obtain ⟨⟨⟨⟨⟨h1, h2⟩, h5⟩, h6⟩, h3⟩, h4⟩ := h
          exact ⟨pi_revrngS C (eq_of_beq h1) h2 (eq_of_beq h5) h6 h3 (A.val C h4).pe, rfl⟩
        · cases h
      · cases h
    · rename_i b heq
      simp only [E.cons.injEq] at heq
      obtain ⟨rfl, rfl⟩ := heq
      split at h
      · split at h
        · simp only [Bool.and_eq_true] at h
          obtain ⟨⟨⟨⟨⟨h1, h2⟩, h3⟩, h4⟩, h5⟩, h6⟩ := h
          exact ⟨pi_rng2 C (eq_of_beq h1) h2 h3 h5 (snd_args h3 (A.val C h4).pe (B.args C (by simp [okEs, h5, h6]))), rfl⟩
        · cases h
      · simp only [Bool.and_eq_true] at h
        obtain ⟨h0, h⟩ := h
        split at h
        · simp only [Bool.and_eq_true] at h
          obtain ⟨⟨⟨⟨⟨h1, h2⟩, h3⟩, h4⟩, h5⟩, h6⟩ := h
          exact ⟨pi_zipS C h0 (eq_of_beq h1) h2 h3 h5 (snd_args h3 (A.val C h4).pe (B.args C (by simp [okEs, h5, h6]))), rfl⟩
        · cases h
      · cases h
    · rename_i b c heq
      simp only [E.cons.injEq] at heq
      obtain ⟨rfl, rfl⟩ := heq
      split at h
      · split at h
        · simp only [Bool.and_eq_true] at h
          obtain ⟨⟨⟨⟨⟨⟨⟨h1, h2⟩, h3⟩, h4⟩, h5⟩, h6⟩, h7⟩, h8⟩ := h
          exact ⟨pi_rng3 C (eq_of_beq h1) h2 h3 h5 h7 (snd_args h3 (A.val C h4).pe (B.args C (by simp [okEs, h5, h6, h7, h8]))), rfl⟩
        · cases h
      · cases h
    · cases h
  · cases ks with
    | nil => simp [sameL] at hl
    | cons k0 ks =>
      unfold okEs at h
      split at h
      · simp only [Bool.and_eq_true] at h
        obtain ⟨q2, r2, p2, k2, rfl, e, hk2⟩ := keysB_cons hk
        subst e
        exact pps_cons (pe_str.imp fun σ H Q z => z) (A.val C h.1.2).pe (B.prs C h.2 (by simpa [sameL] using hl) hk2)
      · cases h
theorem bd_all : ∀ (e : E) {S : Sta}, Bd T xc S cs gl k N e
  | .nil, S => bd_nil
  | .cons a es, S => bd_cons (bd_all a) (bd_all es)
  | .var j, S => Bd.mk1 (fun C h => snd_var C h) (by simp [okEs]) (by simp [okB]) (by simp [okI])
  | .int i, S => Bd.mk1 (fun C h => by
      unfold okE at h
      split at h
      · have h := of_decide_eq_true h
        subst h
        exact Snd.val (pe_int.imp fun σ H Q z => by
          obtain ⟨B, r, P, m, en, R, g⟩ := z
          simp only [ev] at g
          exact g.fin R _ (Rep.int _)) fun _ => rfl
      · cases h) (by simp [okEs]) (by simp [okB]) (by simp [okI])
  | .bl b, S => Bd.mk1 (fun C h => by
      unfold okE at h
      split at h
      · have h := eq_of_beq h
        subst h
        exact Snd.val (pe_bl.imp fun σ H Q z => by
          obtain ⟨B, r, P, m, en, R, g⟩ := z
          simp only [ev] at g
          exact g.fin R _ (Rep.bl _)) fun _ => rfl
      · cases h) (by simp [okEs]) (by simp [okB]) (by simp [okI])
  | .non, S => Bd.mk1 (fun C h => by
      unfold okE at h
      split at h
      · exact Snd.val (pe_non.imp fun σ H Q z => by
          obtain ⟨B, r, P, m, en, R, g⟩ := z
          simp only [ev] at g
          exact g.fin R _ Rep.non) fun _ => rfl
      · cases h) (by simp [okEs]) (by simp [okB]) (by simp [okI])
  | .str s, S => Bd.mk1 (fun C h => by
      unfold okE at h
      split at h
      · have h := eq_of_beq h
        subst h
        exact Snd.val (pe_str.imp fun σ H Q z => by
          obtain ⟨B, r, P, m, en, R, g⟩ := z
          simp only [ev] at g
          exact g.fin R _ (Rep.str _)) fun _ => rfl
      · cases h) (by simp [okEs]) (by simp [okB]) (by simp [okI])
  | .glob g, S => Bd.mk1 (fun C h => snd_glob C h) (by simp [okEs]) (by simp [okB]) (by simp [okI])
  | .bin op a b, S => Bd.mk1 (fun C h => by
      unfold okE at h
      split at h
      · simp only [Bool.and_eq_true] at h
        exact Snd.val (snd_bin C h.1.1 ((bd_all a).val C h.1.2).pe ((bd_all b).val C h.2).pe) fun _ => rfl
      · cases h) (by simp [okEs]) (by simp [okB]) (by simp [okI])
  | .neg a, S => Bd.mk1 (fun C h => by
      unfold okE at h
      split at h
      · exact Snd.val (snd_neg ((bd_all a).val C h).pe) fun _ => rfl
      · cases h) (by simp [okEs]) (by simp [okB]) (by simp [okI])
  | .cmp op a b, S => bd_cmp (bd_all a) (bd_all b)
  | .chain op op2 a b c, S => bd_chain (bd_all a) (bd_all b) (bd_all c)
  | .and es, S => Bd.mk1 (fun C h => by
      unfold okE at h
      split at h
      · obtain ⟨v, w⟩ := (bd_all es).ands C h
        refine ⟨v.imp fun σ H Q z => ?_, fun _ => w.pt.imp fun σ H Q z => ?_⟩
        · obtain ⟨B, r, P, m, en, R, g⟩ := z
          simp only [ev] at g
          exact ⟨B, r, P, m, en, R, g⟩
        · obtain ⟨B, r, P, m, en, R, g⟩ := z
          simp only [ev] at g
          exact ⟨B, r, P, m, en, R, g⟩
      · cases h) (by simp [okEs]) (by simp [okB]) (by simp [okI])
  | .or es, S => Bd.mk1 (fun C h => by
      unfold okE at h
      split at h
      · obtain ⟨v, w⟩ := (bd_all es).ors C h
        refine ⟨v.imp fun σ H Q z => ?_, fun _ => w.pt.imp fun σ H Q z => ?_⟩
        · obtain ⟨B, r, P, m, en, R, g⟩ := z
          simp only [ev] at g
          exact ⟨B, r, P, m, en, R, g⟩
        · obtain ⟨B, r, P, m, en, R, g⟩ := z
          simp only [ev] at g
          exact ⟨B, r, P, m, en, R, g⟩
      · cases h) (by simp [okEs]) (by simp [okB]) (by simp [okI])
  | .not a, S => Bd.mk1 (fun C h => by
      unfold okE at h
      split at h
      · simp only [Bool.and_eq_true, Bool.not_eq_true'] at h
        exact snd_not ((bd_all a).val C h.2) h.1
      · cases h) (by simp [okEs]) (by simp [okB]) (by simp [okI])
  | .ite c a b, S => Bd.mk1 (fun C h => by
      unfold okE at h
      split at h
      · simp only [Bool.and_eq_true, Bool.not_eq_true'] at h
        exact snd_ite (((bd_all c).val C h.1.1.2).pt h.1.1.1) ((bd_all a).val C h.1.2).pe ((bd_all b).val C h.2).pe
      · cases h) (by simp [okEs]) (by simp [okB]) (by simp [okI])
  | .lst es, S => Bd.mk1 (fun C h => by
      unfold okE at h
      split at h
      · exact Snd.val (snd_lst ((bd_all es).args C h)) fun _ => rfl
      · cases h) (by simp [okEs]) (by simp [okB]) (by simp [okI])
  | .tup es, S => Bd.mk1 (fun C h => by
      unfold okE at h
      split at h
      · exact Snd.val (snd_tup ((bd_all es).args C h)) fun _ => rfl
      · cases h) (by simp [okEs]) (by simp [okB]) (by simp [okI])
  | .idx a i, S => Bd.mk1 (fun C h => by
      unfold okE at h
      split at h
      · simp only [Bool.and_eq_true] at h
        exact Snd.val (snd_idx C h.1.1 ((bd_all a).val C h.1.2).pe ((bd_all i).val C h.2).pe) fun _ => rfl
      · cases h) (by simp [okEs]) (by simp [okB]) (by simp [okI])
  | .slc a lo hi, S => bd_slc (bd_all a) (bd_all lo) (bd_all hi)
  | .ssl a lo hi, S => bd_ssl (bd_all a) (bd_all lo) (bd_all hi)
  | .call f n es, S => bd_call (bd_all es)
  | .blt b es, S => bd_blt (bd_all es)
  | .lrng a, S => Bd.mk1 (fun C h => by
      unfold okE at h
      split at h
      · simp only [Bool.and_eq_true] at h
        obtain ⟨⟨⟨⟨⟨⟨hc, h1⟩, h2⟩, h3⟩, h4⟩, h5⟩, h6⟩ := h
        exact Snd.val (snd_lrng C hc (eq_of_beq h1) (eq_of_beq h3) h2 h4 h5 ((bd_all a).val C h6).pe) fun _ => rfl
      · cases h) (by simp [okEs]) (by simp [okB]) (by simp [okI])
  | .isi a ts, S => Bd.mk1 (fun C h => by
      unfold okE at h
      split at h
      · simp only [Bool.and_eq_true, decide_eq_true_eq] at h
        obtain ⟨⟨⟨⟨⟨h1, h2⟩, h3⟩, h4⟩, h5⟩, h6⟩ := h
        exact Snd.val (snd_isi C (eq_of_beq h1) h2 h3 ((bd_all a).val C h4).pe h6 h5) fun _ => rfl
      · cases h) (by simp [okEs]) (by simp [okB]) (by simp [okI])
  | .mth t a es, S => bd_mth (bd_all a) (bd_all es)
  | .comp it src tg js c elt, S => bd_comp (bd_all src) (bd_all c) (bd_all elt)
  | .box a, S => Bd.mk1 (fun C h => by
      unfold okE at h
      exact ⟨((bd_all a).val C h).pe.imp fun σ H Q z => box_ok z, fun q => by cases q⟩) (by simp [okEs]) (by simp [okB]) (by simp [okI])
  | .fld a x cl, S => bd_fld (bd_all a)
  | .mcall a x cf n es, S => bd_mcall (bd_all a) (bd_all es)
  | .make c f n es, S => bd_make (bd_all es)
  | .dnew, S => Bd.mk1 (fun C h => by
      unfold okE at h
      split at h
      · exact Snd.val snd_dnew fun _ => rfl
      · cases h) (by simp [okEs]) (by simp [okB]) (by simp [okI])
  | .dget a kk d, S => bd_dget (bd_all a) (bd_all kk) (bd_all d)
  | .din ng kk a, S => bd_din (bd_all a) (bd_all kk)
  | .dkeys a, S => Bd.mk1 (fun C h => by
      unfold okE at h
      split at h
      · simp only [Bool.and_eq_true] at h
        obtain ⟨⟨⟨⟨hc, h1⟩, h2⟩, h3⟩, h4⟩ := h
        exact Snd.val (snd_dkeys C hc (eq_of_beq h1) h2 h3 ((bd_all a).val C h4).pe) fun _ => rfl
      · cases h) (by simp [okEs]) (by simp [okB]) (by simp [okI])
  | .isx a tab, S => Bd.mk1 (fun C h => by
      unfold okE at h
      split at h
      · simp only [Bool.and_eq_true] at h
        obtain ⟨⟨⟨⟨h1, h2⟩, h3⟩, h4⟩, h5⟩ := h
        exact Snd.val (snd_isx C (eq_of_beq h1) h2 h3 ((bd_all a).val C h4).pe h5) fun _ => rfl
      · cases h) (by simp [okEs]) (by simp [okB]) (by simp [okI])
  | .lock a e, S => Bd.mk1 (fun C h => by
      unfold okE at h
      exact ⟨snd_lock ((bd_all e).val C h).pe, fun q => by cases q⟩) (by simp [okEs]) (by simp [okB]) (by simp [okI])
  | .dlit ks es, S => Bd.mk1 (fun C h => by
      unfold okE at h
      split at h
      · simp only [Bool.and_eq_true, decide_eq_true_eq, Bool.not_eq_true'] at h
        obtain ⟨⟨⟨⟨⟨h1, h2⟩, h3⟩, h4⟩, h5⟩, h6⟩ := h
        exact Snd.val (snd_dlit h1 h2 h3 (by intro z; rw [z] at h4; cases h4) (keys_some h5) ((bd_all es).prs C h6 h1 h5)) fun _ => rfl
      · cases h) (by simp [okEs]) (by simp [okB]) (by simp [okI])
  | .lrng2 a b, S => Bd.mk1 (fun C h => by
      unfold okE at h
      split at h
      · simp only [Bool.and_eq_true] at h
        obtain ⟨⟨⟨⟨⟨⟨⟨⟨hc, h1⟩, h2⟩, h3⟩, h4⟩, h5⟩, h6⟩, h7⟩, h8⟩ := h
        exact Snd.val (snd_lrng2 C hc (eq_of_beq h1) (eq_of_beq h3) h2 h4 h5 h6 ((bd_all a).val C h7).pe ((bd_all b).val C h8).pe) fun _ => rfl
      · cases h) (by simp [okEs]) (by simp [okB]) (by simp [okI])
  | .orv a b, S => Bd.mk1 (fun C h => by
      unfold okE at h
      split at h
      · simp only [Bool.and_eq_true] at h
        exact ⟨snd_orv C ((bd_all a).val C h.1).pe ((bd_all b).val C h.2).pe, fun q => by cases q⟩
      · cases h) (by simp [okEs]) (by simp [okB]) (by simp [okI])
  | .dof a, S => Bd.mk1 (fun C h => by
      unfold okE at h
      split at h
      · simp only [Bool.and_eq_true] at h
        obtain ⟨⟨⟨⟨hc, h1⟩, h2⟩, h3⟩, h4⟩ := h
        exact Snd.val (snd_dof C hc (eq_of_beq h1) h2 h3 ((bd_all a).val C h4).pe) fun _ => rfl
      · cases h) (by simp [okEs]) (by simp [okB]) (by simp [okI])
  | .fnv f, S => Bd.mk1 (fun C h => by
      unfold okE at h
      split at h
      · simp only [Bool.and_eq_true] at h
        obtain ⟨⟨h1, h2⟩, h3⟩ := h
        split at h1
        · rename_i y n e
          have h1 := eq_of_beq h1
          subst h1
          exact Snd.val (snd_fnv C e h2 h3) fun _ => rfl
        · cases h1
      · cases h) (by simp [okEs]) (by simp [okB]) (by simp [okI])
  | .callv j n fl es, S => Bd.mk1 (fun C h => by
      unfold okE at h
      split at h
      · simp only [Bool.and_eq_true] at h
        obtain ⟨⟨⟨⟨⟨h1, h2⟩, h3⟩, h4⟩, h5⟩, h6⟩ := h
        exact Snd.val (snd_callv C h4 h1 h2 h3 h5 h6 ((bd_all es).args C h6)) fun _ => rfl
      · cases h) (by simp [okEs]) (by simp [okB]) (by simp [okI])
  | .compx it src tg js c elt, S => bd_compx (bd_all src) (bd_all c) (bd_all elt)
  | .gget x kvs kk d, S => bd_gget (bd_all kk) (bd_all d)
  | .lrng3 a b, S => Bd.mk1 (fun C h => by
      unfold okE at h
      split at h
      · simp only [Bool.and_eq_true, decide_eq_true_eq] at h
        obtain ⟨⟨⟨⟨⟨⟨⟨⟨⟨hc, h1⟩, h2⟩, h3⟩, h4⟩, h5⟩, h6⟩, h0⟩, h7⟩, h8⟩ := h
        exact Snd.val (snd_lrng3 C hc (eq_of_beq h1) (eq_of_beq h3) h0 h2 h4 h5 h6 ((bd_all a).val C h7).pe ((bd_all b).val C h8).pe) fun _ => rfl
      · cases h) (by simp [okEs]) (by simp [okB]) (by simp [okI])
  | .lset a, S => Bd.mk1 (fun C h => by
      unfold okE at h
      split at h
      · simp only [Bool.and_eq_true] at h
        obtain ⟨⟨⟨⟨⟨⟨hc, h1⟩, h2⟩, h3⟩, h4⟩, h5⟩, h6⟩ := h
        exact Snd.val (snd_lset C hc (eq_of_beq h1) (eq_of_beq h3) h2 h4 h5 ((bd_all a).val C h6).pe) fun _ => rfl
      · cases h) (by simp [okEs]) (by simp [okB]) (by simp [okI])
  | .tupl a, S => Bd.mk1 (fun C h => by
      unfold okE at h
      split at h
      · simp only [Bool.and_eq_true] at h
        obtain ⟨⟨⟨h1, h2⟩, h3⟩, h4⟩ := h
        exact Snd.val (snd_tupl C (eq_of_beq h1) h2 h3 ((bd_all a).val C h4).pe) fun _ => rfl
      · cases h) (by simp [okEs]) (by simp [okB]) (by simp [okI])
  | .tcnt a b, S => Bd.mk1 (fun C h => by
      unfold okE at h
      split at h
      · simp only [Bool.and_eq_true] at h
        obtain ⟨⟨⟨⟨⟨h1, h2⟩, h3⟩, h4⟩, h5⟩, h6⟩ := h
        exact Snd.val (snd_tcnt C (eq_of_beq h1) h2 h3 h5 ((bd_all a).val C h4).pe ((bd_all b).val C h6).pe) fun _ => rfl
      · cases h) (by simp [okEs]) (by simp [okB]) (by simp [okI])
  | .tidx a b, S => Bd.mk1 (fun C h => by
      unfold okE at h
      split at h
      · simp only [Bool.and_eq_true] at h
        obtain ⟨⟨⟨⟨⟨h1, h2⟩, h3⟩, h4⟩, h5⟩, h6⟩ := h
        exact Snd.val (snd_tidx C (eq_of_beq h1) h2 h3 h5 ((bd_all a).val C h4).pe ((bd_all b).val C h6).pe) fun _ => rfl
      · cases h) (by simp [okEs]) (by simp [okB]) (by simp [okI])
end
end Mp
set_option Elab.async false
set_option linter.all false
set_option maxRecDepth 100000
set_option maxHeartbeats 4000000
namespace Mp
open PySem PySem.Spec PyProof.Rows L2
/-! that a block is the one of the program -/
noncomputable def swOk (sc : Scope) (x : Str) (py : Pos) (v : Expr) : Bool := match v with
  | .ListComp _ _ scope cpos => (sc.names.lookup x == some .cell) || swB sc x py scope cpos
  | .SetComp _ _ _ _ => false
  | .DictComp _ _ _ _ _ => false
  | _ => true
noncomputable def lcB (sc : Scope) (x : Str) : Bool := sc.names.lookup x == some .local
noncomputable def isLk : E → Bool
  | .lock _ _ => true
  | .compx _ _ _ _ _ _ => true
  | .box a => isLk a
  | _ => false
noncomputable def xupB (S : Sta) (x : Str) (c : Nat) : Bool := match S.exs[c]? with
  | some xi => xi.up.contains x
  | none => false
noncomputable def xnmB (S : Sta) (x : Str) (c : Nat) : Bool := match S.exs[c]? with
  | some xi => x == xi.nm
  | none => false
noncomputable def manyT : Tg → Bool
  | .one _ => false
  | _ => true
section
mutual
noncomputable def okS (S : Sta) (N : List Str) (fb : Str → Bool) (sc : Scope) (s : Mp.S) (p : Stmt) : Bool :=
  match s with
  | .skip => match p with
    | .Pass _ => true
    | .Expr (.Constant (.str _) _ _) _ => true
    | _ => false
  | .seq _ _ => false
  | .asg j e => match p with
    | .Assign [.Name x py] v _ => (N[j]? == some x) && locB fb sc x && swOk sc x py v && (notComp v || (S.cB && !isLk e)) && okE S N fb sc e v
    | _ => false
  | .unp tg e => match p with
    | .Assign [t] v _ => S.cB && okT N fb sc tg t && notTup v && (notComp v || manyT tg) && okE S N fb sc e v
    | _ => false
  | .par i j a b => match p with
    | .Assign [.Tuple [.Name x px, .Name y py] _ _] (.Tuple [pa, pb] _ _) _ => S.cB && (N[i]? == some x) && (N[j]? == some y) && decide (i ≠ j) && lcB sc x && lcB sc y && (px.line == py.line) && !(x == y) &&
        noStar pa && noStar pb && !([pa, pb].all (foldedForSure 8)) && !([pa, pb].all (constantsAlone 8)) && okE S N fb sc a pa && okE S N fb sc b pb
    | _ => false
  | .seti a i e => match p with
    | .Assign [.Subscript pa pi _] v _ => plainIxB pi && notComp v && okE S N fb sc a pa && okE S N fb sc i pi && okE S N fb sc e v
    | _ => false
  | .app a e => match p with
    | .Expr (.Call (.Attribute pa x ap) [q] [] cp) _ => (x == ("append" : Str)) && baseB pa && (ap.endLine == cp.line) && noStar q && okE S N fb sc a pa && okE S N fb sc e q
    | _ => false
  | .clr a => match p with
    | .Expr (.Call (.Attribute pa x ap) [] [] cp) _ => (x == ("clear" : Str)) && baseB pa && (ap.endLine == cp.line) && okE S N fb sc a pa
    | _ => false
  | .ex e => match p with
    | .Expr v _ => notComp v && okE S N fb sc e v
    | _ => false
  | .ret e => match p with
    | .Return (some v) _ => okE S N fb sc e v
    | _ => false
  | .retn => match p with
    | .Return none _ => true
    | _ => false
  | .iff c s t => match p with
    | .If pc ps qs _ => !isIte c && okE S N fb sc c pc && okSs S N fb sc s ps && okSs S N fb sc t qs
    | _ => false
  | .for_ it src tg b => match p with
    | .For pt pi ps [] _ => S.cB && okI S N fb sc it src pt pi && okT N fb sc tg pt && okSs S N fb sc b ps
    | _ => false
  | .whl c b => match p with
    | .While pc ps [] _ => !isIte c && okE S N fb sc c pc && okSs S N fb sc b ps
    | _ => false
  | .raise c => match p with
    | .Raise (some (.Call (.Name x _) [.Constant (.str _) _ _] [] _)) none _ => S.cB && xnmB S x c && glB sc x && plB x
    | _ => false
  | .tryx b cl j s => match p with
    | .Try ps [.ExceptHandler (some (.Name x _)) (some n) (q :: qs) _] [] [] _ => (N[j]? == some n) && lcB sc n && glB sc x && plB x && (S.exs.any fun xi => xi.nm == x) && (cl.all fun c => xupB S x c) && okSs S N fb sc b ps && okSs S.hot N fb sc s (q :: qs)
    | _ => false
  | .lockS _ s => okS S N fb sc s p
  | .augf a x cl e => match p with
    | .AugAssign (.Attribute pa y _) .Add v _ => (x == y) && (cl.all fun c => match S.cls[c]? with
        | some ci => ci.flds.contains x
        | none => false) && okE S N fb sc a pa && okE S N fb sc e v
    | _ => false
  | .never => true
  | .augn j op e => match p with
    | .AugAssign (.Name x _) o v _ => (N[j]? == some x) && locB fb sc x && (match op with
        | .add => true
        | .sub => true
        | _ => false) && opB op o && okE S N fb sc e v
    | _ => false
  | .extd a e => match p with
    | .Expr (.Call (.Attribute pa x ap) [q] [] cp) _ => (x == ("extend" : Str)) && baseB pa && (ap.endLine == cp.line) && noStar q && okE S N fb sc a pa && okE S N fb sc e q
    | _ => false
  | .setf a x cl e => match p with
    | .Assign [.Attribute pa y _] v _ => (x == y) && notComp v && (cl.all fun c => match S.cls[c]? with
        | some ci => ci.flds.contains x
        | none => false) && okE S N fb sc a pa && okE S N fb sc e v
    | _ => false
  | .dput a k e => match p with
    | .Assign [.Subscript pa pk _] v _ => plainIxB pk && notComp v && okE S N fb sc a pa && okE S N fb sc k pk && okE S N fb sc e v
    | _ => false
  | .tryn b => match p with
    | .Try ps (_ :: _) [] [] _ => okSs S N fb sc b ps
    | _ => false
  | .rsp _ _ _ _ _ => false
  | .unpi a i j e => match p with
    | .Assign [.Tuple [.Subscript pa pi _, .Name x _] _ _] v _ => S.cB && plainIxB pi && (N[j]? == some x) && locB fb sc x && notTup v && notComp v && okE S N fb sc a pa && okE S N fb sc i pi && okE S N fb sc e v
    | _ => false
noncomputable def okSs (S : Sta) (N : List Str) (fb : Str → Bool) (sc : Scope) (s : Mp.S) (ps : List Stmt) : Bool :=
  match s with
  | .seq a b => match ps with
    | p :: ps => okS S N fb sc a p && okSs S N fb sc b ps
    | [] => false
  | .skip => match ps with
    | [] => true
    | _ => false
  | .never => true
  | _ => false
end
end
/-! what a statement promises -/
section
variable (T : Tab) (xc : Nat → Value) (Wx : WX) (P : Hp) (cs : Nat → List W → Sto → CR) (gl : List W) (Nf : Nat)
noncomputable def PostSt (B : Hp) (r : List Addr) (x : R Out) (D : Ends) : Prop :=
  match x with
  | .ok o en m => ∀ σ B2 r2 H2, Ext P B r B2 r2 → Rel T B2 r2 P m en σ H2 → (match o with
    | .nx => D.nx σ H2
    | .rt a => ∀ v, RepC T B2 r2 P H2 v a → D.rt v H2)
  | .ex c en m => ∀ σ B2 r2 H2, Ext P B r B2 r2 → Rel T B2 r2 P m en σ H2 → Wx (xc c) none σ H2
  | .bad => False
end
noncomputable def SVg (T : Tab) (xc : Nat → Value) (Wx : WX) (f : En → Sto → R Out) : TS := fun D σ H => ∃ B r P m en, Rel T B r P m en σ H ∧ PostSt T xc Wx P B r (f en m) D
noncomputable def SV (T : Tab) (xc : Nat → Value) (cs : Nat → List W → Sto → CR) (gl : List W) (Nf : Nat) (Wx : WX) (s : Mp.S) : TS := SVg T xc Wx (sv cs gl Nf s)
section
variable {T : Tab} {xc : Nat → Value} {S : Sta} {cs : Nat → List W → Sto → CR} {gl : List W} {k Nf : Nat} {N : List Str} {fb : Str → Bool} {sc : Scope} {Wx : WX} {X : Cx} {P B B1 H : Hp} {r r1 : List Addr} {D : Ends} {σ : Slo} {A : Type}
theorem PostSt.mono {x : R Out} (e : Ext P B r B1 r1) (h : PostSt T xc Wx P B r x D) : PostSt T xc Wx P B1 r1 x D := by
  cases x with
  | ok a en m => exact fun σ B2 r2 H2 e2 R => h σ B2 r2 H2 (e.trans e2) R
  | ex c en m => exact fun σ B2 r2 H2 e2 R => h σ B2 r2 H2 (e.trans e2) R
  | bad => exact h
theorem PostSt.bindE {x : R A} {f : A → En → Sto → R Out} {g : A → En → Sto → Hp → List Addr → Hp → Prop} (h : PostSt T xc Wx P B r (x.bind f) D)
    (q : ∀ a en m B2 r2 H2, Ext P B r B2 r2 → Rel T B2 r2 P m en σ H2 → PostSt T xc Wx P B2 r2 (f a en m) D → g a en m B2 r2 H2) : PostG T xc Wx P σ B r x g := by
  cases x with
  | ok a en m => exact fun B2 r2 H2 e R => q a en m B2 r2 H2 e R (PostSt.mono e h)
  | ex c en m => exact fun B2 r2 H2 e R => h σ B2 r2 H2 e R
  | bad => exact h
theorem PostSt.bindS {x : R Out} {f : Out → En → Sto → R Out} {D2 : Ends} (h : PostSt T xc Wx P B r (x.bind f) D)
    (q : ∀ en m σ B2 r2 H2, Ext P B r B2 r2 → Rel T B2 r2 P m en σ H2 → PostSt T xc Wx P B2 r2 (f .nx en m) D → D2.nx σ H2)
    (q2 : ∀ a en m σ B2 r2 H2 v, Ext P B r B2 r2 → Rel T B2 r2 P m en σ H2 → PostSt T xc Wx P B2 r2 (f (.rt a) en m) D → RepC T B2 r2 P H2 v a → D2.rt v H2) : PostSt T xc Wx P B r x D2 := by
  cases x with
  | ok a en m =>
    intro σ B2 r2 H2 e R
    cases a with
    | nx => exact q en m σ B2 r2 H2 e R (PostSt.mono e h)
    | rt a => exact fun v hv => q2 a en m σ B2 r2 H2 v e R (PostSt.mono e h) hv
  | ex c en m => exact h
  | bad => exact h
theorem PostSt.opt {o : Option A} {f : A → R Out} (h : PostSt T xc Wx P B r (Mp.opt o f) D) : ∃ a, o = some a ∧ PostSt T xc Wx P B r (f a) D := by
  cases o with
  | none => exact False.elim h
  | some a => exact ⟨a, rfl, h⟩
theorem PostSt.opt2 {A2 : Type} {o : Option (A × A2)} {f : A → A2 → R Out} (h : PostSt T xc Wx P B r (Mp.opt2 o f) D) : ∃ a b, o = some (a, b) ∧ PostSt T xc Wx P B r (f a b) D := by
  cases o with
  | none => exact False.elim h
  | some p => exact ⟨p.1, p.2, rfl, h⟩
theorem PostSt.nx {en : En} {m : Sto} (h : PostSt T xc Wx P B r (.ok .nx en m) D) (R : Rel T B r P m en σ H) : D.nx σ H := h σ B r H Ext.refl R
theorem PostSt.quiet {Wx2 : WX} {x : R Out} (h : PostSt T xc Wx P B r x.noex D) : PostSt T xc Wx2 P B r x D := by
  cases x with
  | ok a en m => exact h
  | ex c en m => exact False.elim h
  | bad => exact h
structure CsOk (T : Tab) (xc : Nat → Value) (S : Sta) (cs : Nat → List W → Sto → CR) (gl : List W) (k : Nat) (N : List Str) (fb : Str → Bool) (sc : Scope) (Wx : WX) (X : Cx) : Prop where
  C : CxOk T xc S cs gl k N fb sc Wx X
  po : PassesOwn (model X.prog X.w) X.A X.env X.xe
  kf : sc.kind = .function
  stk : X.stack = X.env :: X.outer
  frm : X.env.frame = some X.env.locals
  exn : X.ex = []
  tk : Takes X Wx
theorem notComp_sole {t v : Expr} {l : Nat} {env : PySem.Env} (h : notComp v = true) : swapsWithSole [t] v l env = pure false := noSwap_of h
theorem many_sole {N : List Str} {fb : Str → Bool} {sc : Scope} {tg : Tg} {t v : Expr} {l : Nat} {env : PySem.Env} (ht : okT N fb sc tg t = true) (h : (notComp v || manyT tg) = true) : swapsWithSole [t] v l env = pure false := by
  rw [Bool.or_eq_true] at h
  rcases h with h | h
  · exact notComp_sole h
  · cases tg with
    | one j => cases h
    | many js =>
      cases t <;> first | (exfalso; simp [okT] at ht; done) | skip
      cases v <;> rfl
    | manyL js =>
      cases t <;> first | (exfalso; simp [okT] at ht; done) | skip
      cases v <;> rfl
theorem notTup_sw {t v : Expr} {env : PySem.Env} (h : notTup v = true) : swappedStores [t] v env = pure none := by
  cases v <;> first | (cases t <;> rfl) | cases h
theorem one_each {t : Expr} {env : PySem.Env} (h : noStar t = true) : (assignEach [t] env).map (·.2) = [assign t env] := by
  cases t <;> first | rfl | cases h
theorem okT_star {tg : Tg} {t : Expr} (h : okT N fb sc tg t = true) : noStar t = true := by
  unfold okT at h
  split at h <;> first | rfl | cases h
theorem lb_of {x : Str} (h : lcB sc x = true) : sc.names.lookup x = some .local := eq_of_beq h
theorem slOf_rel {B P H : Hp} {r : List Addr} {m : Sto} {en en2 : En} {v : V} {x : RV} {s : Sl} {j : Nat} (R : Rel T B r P m en σ H) (hv : RepR T B r P en σ H v x) (e : slOf x en = some (s, en2)) :
    ∃ B2, Ext P B r B2 r ∧ Rel T B2 r P m (en2.set j (some s)) (σ.set j (some v)) H := by
  have es : ∀ {x : RV}, RepR T B r P en σ H v x → ((esc x en).map fun p => ((.val p.1 : Sl), p.2)) = some (s, en2) → ∃ B2, Ext P B r B2 r ∧ Rel T B2 r P m (en2.set j (some s)) (σ.set j (some v)) H := fun {x} hv e => by
    cases q : esc x en with
    | none => rw [q] at e; cases e
    | some p =>
      rw [q] at e
      simp only [Option.map_some, Option.some.injEq, Prod.mk.injEq] at e
      obtain ⟨rfl, rfl⟩ := e
      obtain ⟨B2, e2, R2, h2⟩ := R.esc hv q
      exact ⟨B2, e2, R2.set_val h2⟩
  cases x with
  | new ws =>
    simp only [slOf, Option.some.injEq, Prod.mk.injEq] at e
    obtain ⟨rfl, rfl⟩ := e
    exact ⟨B, Ext.refl, R.set_own hv⟩
  | val w => exact es hv e
  | bor i => exact es hv e
theorem asg_go {j : Nat} {e : E} {D : Ends} {H : Hp} {σ : Slo} (z : SV T xc cs gl Nf Wx (.asg j e) D σ H) : SE T xc cs gl Wx e σ H fun x H1 => gName j x σ H1 D.nx := by
  obtain ⟨B, r, P, m, en, R, g⟩ := z
  simp only [sv] at g
  refine ⟨B, r, P, m, en, R, g.bindE fun x en1 m1 B1 r1 H1 e1 R1 h1 v hv => ?_⟩
  obtain ⟨s, en2, e2, h2⟩ := h1.opt2
  obtain ⟨B2, e3, R2⟩ := slOf_rel (j := j) R1 hv e2
  exact (PostSt.mono e3 h2).nx R2
theorem lc_parts (C : CxOk T xc S cs gl k N fb sc Wx X) {pe : Expr} {gens : List Comprehension} {scope : Scope} {pos : Pos} : ∀ {e : E}, isLk e = false → okE S N fb sc e (.ListComp pe gens scope pos) = true →
    ∃ pt pi ifs wi tt te tg js, gens = [⟨pt, pi, ifs, 0⟩] ∧ PI X pt pi wi ∧ blkC N sc scope (ownN N js) = true ∧
      (∀ (s : Shared) (H : Hp) (A : Addr) (cl : List (Str × Addr)) (fp : List Addr), PG (X.blk s H scope (compEnvC scope cl A X.env) fp) pt (STg T tg)) ∧
      (∀ (s : Shared) (H : Hp) (A : Addr) (cl : List (Str × Addr)) (fp : List Addr), PTs (X.blk s H scope (compEnvC scope cl A X.env) fp) ifs tt) ∧
      (∀ (s : Shared) (H : Hp) (A : Addr) (cl : List (Str × Addr)) (fp : List Addr), PE (X.blk s H scope (compEnvC scope cl A X.env) fp) pe te) ∧ setB pi = false ∧
      ∀ σ H Q, SE T xc cs gl Wx e σ H Q → tLc wi (STg T tg) tt te ((ownN N js).map (·.2)) σ H Q
  | .comp it src tg js c elt, _, h => by
    unfold okE at h
    split at h
    · rename_i pe2 pt pi ifs scope2 pos2 heq
      simp only [Expr.ListComp.injEq] at heq
      obtain ⟨rfl, rfl, rfl, rfl⟩ := heq
      simp only [Bool.and_eq_true] at h
      obtain ⟨⟨⟨⟨⟨⟨hc, h1⟩, h2⟩, h3⟩, h4⟩, h5⟩, h6⟩ := h
      obtain ⟨pi, hs⟩ := (bd_all (T := T) (xc := xc) (cs := cs) (gl := gl) (k := k) src).src C h1
      have htt : ∀ {Y : Cx}, CxOk T xc S.blk cs gl k N (fun x => scope.names.lookup x == some .cell) (relS scope sc) W0 Y → PTs Y ifs (ST T xc cs gl W0 c) := fun {Y} CY => by
        split at h4
        · exact ⟨fun pins s σ H Q I z => pts_nil.run pins s σ H Q I (by
            rcases z with z | z
            · exact z.2
            · rw [h4] at z; cases z.1)⟩
        · simp only [Bool.and_eq_true, Bool.not_eq_true'] at h4
          obtain ⟨⟨h7, h8⟩, h9⟩ := h4
          exact ⟨fun pins s σ H Q I z => (pts_one (((bd_all c).val CY h9).pt h8)).run pins s σ H Q I (by
            rcases z with z | z
            · rw [h7] at z; cases z.1
            · exact z.2)⟩
        · cases h4
      exact ⟨_, _, _, _, _, _, tg, js, rfl, pi, h2, fun s H A cl fp => pg_tg (C.blk s H scope cl A fp) hc h3, fun s H A cl fp => htt (C.blk s H scope cl A fp), fun s H A cl fp => ((bd_all elt).val (C.blk s H scope cl A fp) h5).pe, hs,
        (snd_comp C hc (pos := pos) pi h2 h3 (by split at h6 <;> exact eq_of_beq h6) htt (fun CY => ((bd_all elt).val CY h5).pe) hs).2⟩
    · cases h
  | .box a, hk, h => by
    unfold okE at h
    obtain ⟨pt, pi, ifs, wi, tt, te, tg, js, h1, h2, h3, h4, h5, h6, h7, h8⟩ := lc_parts C (by simpa [isLk] using hk) h
    exact ⟨pt, pi, ifs, wi, tt, te, tg, js, h1, h2, h3, h4, h5, h6, h7, fun σ H Q z => h8 σ H Q (box_ok z)⟩
  | .nil, _, h => by simp [okE] at h
  | .cons _ _, _, h => by simp [okE] at h
  | .var _, _, h => by simp [okE] at h
  | .int _, _, h => by simp [okE] at h
  | .bl _, _, h => by simp [okE] at h
  | .non, _, h => by simp [okE] at h
  | .str _, _, h => by simp [okE] at h
  | .glob _, _, h => by simp [okE] at h
  | .bin _ _ _, _, h => by simp [okE] at h
  | .neg _, _, h => by simp [okE] at h
  | .cmp _ _ _, _, h => by simp [okE] at h
  | .chain _ _ _ _ _, _, h => by simp [okE] at h
  | .and _, _, h => by simp [okE] at h
  | .or _, _, h => by simp [okE] at h
  | .not _, _, h => by simp [okE] at h
  | .ite _ _ _, _, h => by simp [okE] at h
  | .lst _, _, h => by simp [okE] at h
  | .tup _, _, h => by simp [okE] at h
  | .idx _ _, _, h => by simp [okE] at h
  | .slc _ _ _, _, h => by simp [okE] at h
  | .call _ _ _, _, h => by simp [okE] at h
  | .blt _ _, _, h => by simp [okE] at h
  | .lrng _, _, h => by simp [okE] at h
  | .isi _ _, _, h => by simp [okE] at h
  | .mth _ _ _, _, h => by simp [okE] at h
  | .fld _ _ _, _, h => by simp [okE] at h
  | .mcall _ _ _ _ _, _, h => by simp [okE] at h
  | .make _ _ _ _, _, h => by simp [okE] at h
  | .dnew, _, h => by simp [okE] at h
  | .dget _ _ _, _, h => by simp [okE] at h
  | .din _ _ _, _, h => by simp [okE] at h
  | .dkeys _, _, h => by simp [okE] at h
  | .isx _ _, _, h => by simp [okE] at h
  | .lock _ _, hk, _ => by simp [isLk] at hk
  | .dlit _ _, _, h => by simp [okE] at h
  | .lrng2 _ _, _, h => by simp [okE] at h
  | .orv _ _, _, h => by simp [okE] at h
  | .ssl _ _ _, _, h => by simp [okE] at h
  | .dof _, _, h => by simp [okE] at h
  | .fnv _, _, h => by simp [okE] at h
  | .callv _ _ _ _, _, h => by simp [okE] at h
  | .compx _ _ _ _ _ _, hk, _ => by simp [isLk] at hk
  | .gget _ _ _ _, _, h => by simp [okE] at h
  | .lrng3 _ _, _, h => by simp [okE] at h
  | .lset _, _, h => by simp [okE] at h
  | .tupl _, _, h => by simp [okE] at h
  | .tcnt _ _, _, h => by simp [okE] at h
  | .tidx _ _, _, h => by simp [okE] at h
theorem st_asg (C : CsOk T xc S cs gl k N fb sc Wx X) {j : Nat} {e : E} {p : Stmt} (h : okS S N fb sc (.asg j e) p = true) : PS X p (SV T xc cs gl Nf Wx (.asg j e)) := by
  unfold okS at h
  split at h
  · rename_i x py v pos
    simp only [Bool.and_eq_true] at h
    obtain ⟨⟨⟨⟨h1, h2⟩, h3⟩, h0⟩, h4⟩ := h
    obtain ⟨hl, hf⟩ := loc_of h2
    have hx : Loc X.env.scope x := by rw [C.C.es]; exact hl
    have hf2 : X.fn x = true ∨ X.env.scope.names.lookup x = some .local := by rw [C.C.ef, C.C.es]; exact hf
    have nd : X.N.Nodup := by rw [C.C.eN]; exact C.C.nd
    by_cases hn : notComp v = true
    · exact (ps_set nd (C.C.name h1) hx ((bd_all e).val C.C h4).pe (noSwap_of hn) hf2).imp fun D σ H z => asg_go z
    · cases v with
      | ListComp pe gens scope cpos =>
        unfold swOk at h3
        dsimp only at h3
        by_cases hcl : (sc.names.lookup x == some .cell) = true
        · have ky : X.env.kindOf x = some .cell := by
            show X.env.scope.names.lookup x = _
            rw [C.C.es]; exact eq_of_beq hcl
          have sw : swapsWith (.ListComp pe gens scope cpos) (some (.Name x py)) pos.line X.env = pure false := by
            unfold swapsWith
            simp only [ky, Expr.pos]
            have z : (some NameKind.cell == some NameKind.local) = false := rfl
            simp only [z, Bool.and_false, Bool.false_and]
          exact (ps_set nd (C.C.name h1) hx ((bd_all e).val C.C h4).pe sw hf2).imp fun D σ H z => asg_go z
        rw [Bool.or_eq_true] at h3
        have h3 := h3.resolve_left hcl
        unfold swB at h3
        simp only [Bool.and_eq_true, Bool.not_eq_true'] at h3
        obtain ⟨⟨h5, h6⟩, h7⟩ := h3
        obtain ⟨pt, pi, ifs, wi, tt, te, tg, js, rfl, q2, q3, q4, q5, q6, q7, q8⟩ := lc_parts C.C (by simp only [notComp, Bool.false_or, Bool.and_eq_true, Bool.not_eq_true'] at h0; exact h0.2) h4
        have hyl : X.env.scope.names.lookup x = some .local := by rw [C.C.es]; exact eq_of_beq h5
        refine (ps_setLc (C.C.calm (by simp only [notComp, Bool.false_or, Bool.and_eq_true] at h0; exact h0.1)) nd (C.C.name h1) hyl (sw_true (by rw [C.C.es]; exact C.kf) hyl h6 h7) q2 (by rw [C.C.eN, C.C.es]; exact blkOk_by q3) q4 q5 q6 (fold_of q7)).imp fun D σ H z => ?_
        exact q8 σ H _ (asg_go z)
      | SetComp _ _ _ _ => cases h3
      | DictComp _ _ _ _ _ => cases h3
      | _ => exact absurd rfl hn
  · cases h
theorem st_unp (C : CsOk T xc S cs gl k N fb sc Wx X) {tg : Tg} {e : E} {p : Stmt} (h : okS S N fb sc (.unp tg e) p = true) : PS X p (SV T xc cs gl Nf Wx (.unp tg e)) := by
  unfold okS at h
  split at h
  · simp only [Bool.and_eq_true] at h
    obtain ⟨⟨⟨⟨hc, h1⟩, h2⟩, h3⟩, h4⟩ := h
    refine (ps_asg ((bd_all e).val C.C h4).pe (pg_tg C.C hc h1) (many_sole h1 h3) (notTup_sw h2) (one_each (okT_star h1))).imp fun D σ H z => ?_
    obtain ⟨B, r, P, m, en, R, g⟩ := z
    simp only [sv] at g
    refine ⟨B, r, P, m, en, R, g.bindE fun x en1 m1 B1 r1 H1 e1 R1 h1 v hv => ?_⟩
    obtain ⟨w, en2, e2, h2⟩ := h1.opt2
    obtain ⟨en3, e3, h3⟩ := h2.opt
    obtain ⟨B2, e4, R2, hw⟩ := R1.esc hv e2
    exact ⟨B2, r1, P, m1, en2, w, en3, R2, hw, e3, fun us R3 => (PostSt.mono e4 h3).nx R3⟩
  · cases h
theorem sws_some {x y : Str} {px py pt pt2 : Pos} {kt k2 : Nat} {a b : Expr} {env : PySem.Env} (hk : env.scope.kind = .function) (hx : env.scope.names.lookup x = some .local) (hy : env.scope.names.lookup y = some .local) (hl : (px.line == py.line) = true) (hn : (x == y) = false)
    (ha : noStar a = true) (hb : noStar b = true) (h1 : [a, b].all (foldedForSure 8) = false) (h2 : [a, b].all (constantsAlone 8) = false) : swappedStores [.Tuple [.Name x px, .Name y py] kt pt] (.Tuple [a, b] k2 pt2) env = pure (some [x, y]) := by
  have kx : env.kindOf x = some .local := hx
  have ky : env.kindOf y = some .local := hy
  have hb2 : env.blockKind = .function := by unfold Env.blockKind; rw [hk]; rfl
  have hl2 : px.line = py.line := eq_of_beq hl
  have hn2 : ([x, y] : List Str).eraseDups.length = 2 := by
    have : (y == x) = false := by
      cases q : y == x with
      | false => rfl
      | true =>
        have := eq_of_beq q
        subst this
        rw [beq_self_eq_true] at hn; cases hn
    simp [List.eraseDups, List.eraseDupsBy, List.eraseDupsBy.loop, this]
  unfold swappedStores
  simp only [hb2, Expr.pos, kx, ky, hl2, List.head?_cons, Option.map_some, Option.getD_some, List.filterMap_cons, beq_self_eq_true, Bool.and_self, if_true, List.filterMap_nil, h1, h2, hn2]
  cases a <;> cases b <;> first | rfl | (cases ha; done) | (cases hb; done)
end
end Mp
set_option Elab.async false
set_option linter.all false
set_option maxRecDepth 100000
set_option maxHeartbeats 4000000
namespace Mp
open PySem PySem.Spec PyProof.Rows L2
section
variable {T : Tab} {xc : Nat → Value} {S : Sta} {cs : Nat → List W → Sto → CR} {gl : List W} {k Nf : Nat} {N : List Str} {fb : Str → Bool} {sc : Scope} {Wx : WX} {X : Cx} {P B B1 H : Hp} {r r1 : List Addr} {D : Ends} {σ : Slo} {A : Type}
theorem st_par (C : CsOk T xc S cs gl k N fb sc Wx X) {i j : Nat} {a b : E} {p : Stmt} (h : okS S N fb sc (.par i j a b) p = true) : PS X p (SV T xc cs gl Nf Wx (.par i j a b)) := by
  unfold okS at h
  split at h
  · rename_i x px y py kt pt pa pb k2 pt2 pos
    simp only [Bool.and_eq_true, Bool.not_eq_true', decide_eq_true_eq] at h
    obtain ⟨⟨⟨⟨⟨⟨⟨⟨⟨⟨⟨⟨⟨hc, h1⟩, h2⟩, h3⟩, h4⟩, h5⟩, h6⟩, h7⟩, h8⟩, h9⟩, h10⟩, h11⟩, h12⟩, h13⟩ := h
    have nd : X.N.Nodup := by rw [C.C.eN]; exact C.C.nd
    have lx : X.env.scope.names.lookup x = some .local := by rw [C.C.es]; exact lb_of h4
    have ly : X.env.scope.names.lookup y = some .local := by rw [C.C.es]; exact lb_of h5
    have kf : X.env.scope.kind = .function := by rw [C.C.es]; exact C.kf
    have ha : PA X [pa, pb] (SA T xc cs gl Wx (.cons a (.cons b .nil))) := (bd_all (.cons a (.cons b .nil))).args C.C (by simp [okEs, h8, h9, h12, h13])
    refine (ps_par (C.C.calm hc) nd (C.C.name h1) (C.C.name h2) h3 lx ly ha (sws_some kf lx ly h6 h7 h8 h9 h10 h11)).imp fun D σ H z => ?_
    obtain ⟨B, r, P, m, en, R, g⟩ := z
    simp only [sv] at g
    refine ⟨B, r, P, m, en, R, g.bindE fun ws en1 m1 B1 r1 H1 e1 R1 h1 vs hv => ?_⟩
    split at h1
    · rename_i w u
      obtain ⟨v, z, rfl, h2, h3⟩ := hv.v2
      exact ⟨v, z, rfl, h1.nx ((R1.set_val h2).set_val h3)⟩
    · exact h1.elim
  · cases h
theorem seti_rel {B5 P H5 : Hp} {r5 : List Addr} {m5 m6 : Sto} {en5 en6 : En} {σ : Slo} {ov yv v : V} {o y : RV} {iw w : W} {Q : Hp → Prop} (R5 : Rel T B5 r5 P m5 en5 σ H5) (hov : RepR T B5 r5 P en5 σ H5 ov (Mp.hold o)) (hyv : RepR T B5 r5 P en5 σ H5 yv y) (hw : Rep T B5 r5 v w) (e7 : val? y = some iw) (e8 : setAt en5 m5 (Mp.hold o) iw w = some (en6, m6))
    (h7 : ∀ H6, Rel T B5 r5 P m6 en6 σ H6 → Q H6) : rSetL ov yv v H5 Q := by
  cases y with
  | val y =>
    simp only [val?, Option.some.injEq] at e7
    subst e7
    generalize hold o = ho at e8 hov
    -- where the list stands
    have own : ∀ (j : Nat) (ws : List W) (n : Int), enGet en5 j = some (.own ws) → σ[j]? = some (some ov) → yv = .int n → ((ixN ws.length n).map fun k => (en5.set j (some (.own (ws.set k w))), m5)) = some (en6, m6) →
        rSetL ov yv v H5 Q := fun j ws n gj hj hy e => by
      obtain ⟨p, a1, a2⟩ := R5.e.own_at (enGet_some gj)
      rw [hj] at a1; cases a1
      obtain ⟨vs, b1, b2⟩ := a2.at_
      cases c1 : ixN ws.length n with
      | none => rw [c1] at e; cases e
      | some k =>
        rw [c1] at e
        simp only [Option.map_some, Option.some.injEq, Prod.mk.injEq] at e
        obtain ⟨rfl, rfl⟩ := e
        exact ⟨p, vs, n, k, rfl, hy, b1, by rw [b2.len]; exact c1, h7 _ (R5.upd_own (enGet_some gj) hj (b2.set hw k))⟩
    have sto : ∀ (q : Nat) (ws : List W) (n : Int) (l : Addr), m5[q]? = some (.lst ws) → r5[q]? = some l → ov = .ref l → yv = .int n → ((ixN ws.length n).map fun k => (en5, m5.set q (.lst (ws.set k w)))) = some (en6, m6) →
        rSetL ov yv v H5 Q := fun q ws n l gn hn2 ho hy e => by
      obtain ⟨a1, o, b1, b2, b3⟩ := R5.s.ob q _ gn
      rw [hn2] at b1; cases b1
      cases b3 with
      | lst b3 =>
        rename_i vs
        cases c1 : ixN ws.length n with
        | none => rw [c1] at e; cases e
        | some k =>
          rw [c1] at e
          simp only [Option.map_some, Option.some.injEq, Prod.mk.injEq] at e
          obtain ⟨rfl, rfl⟩ := e
          exact ⟨l, vs, n, k, ho, hy, b2, by rw [b3.len]; exact c1, h7 _ (R5.upd_sto hn2 gn rfl rfl (.lst (b3.set hw k)))⟩
    cases y with
    | int n =>
      have hy : yv = .int n := by cases hyv; rfl
      cases ho with
      | new ws => cases e8
      | bor j =>
        simp only [setAt] at e8
        split at e8
        · rename_i ws gj
          exact own j ws n gj hov hy e8
        · cases e8
      | val u =>
        cases u with
        | ref q =>
          simp only [setAt] at e8
          split at e8
          · rename_i ws gn
            cases hov with
            | ref a2 => exact sto q ws n _ gn a2 rfl hy e8
          · cases e8
        | _ => cases e8
    | _ =>
      cases ho with
      | val u => cases u <;> cases e8
      | new _ => cases e8
      | bor _ => cases e8
  | new _ => cases e7
  | bor _ => cases e7
theorem st_seti (C : CsOk T xc S cs gl k N fb sc Wx X) {a i e : E} {p : Stmt} (h : okS S N fb sc (.seti a i e) p = true) : PS X p (SV T xc cs gl Nf Wx (.seti a i e)) := by
  unfold okS at h
  split at h
  · rename_i pa pi px v pos
    simp only [Bool.and_eq_true] at h
    obtain ⟨⟨⟨⟨h1, h2⟩, h3⟩, h4⟩, h5⟩ := h
    have hp : PG X (.Subscript pa pi px) (gSub (SE T xc cs gl Wx a) (SE T xc cs gl Wx i) rSetL) := pg_sub ((bd_all a).val C.C h3).pe ((bd_all i).val C.C h4).pe set_list (by
      intro v
      cases pi <;> first | rfl | cases h1)
    refine (ps_asg ((bd_all e).val C.C h5).pe hp (notComp_sole h2) (by cases v <;> rfl) rfl).imp fun D σ H z => ?_
    obtain ⟨B, r, P, m, en, R, g⟩ := z
    simp only [sv] at g
    refine ⟨B, r, P, m, en, R, g.bindE fun x en1 m1 B1 r1 H1 e1 R1 h1 v hv => ?_⟩
    obtain ⟨w, en2, e2, h2⟩ := h1.opt2
    obtain ⟨B2, e3, R2, hw⟩ := R1.esc hv e2
    refine ⟨B2, r1, P, m1, en2, R2, (PostSt.mono e3 h2).bindE fun o en3 m3 B3 r3 H3 e4 R3 h3 ov hov => ?_⟩
    obtain ⟨B4, e5, R4, hov⟩ := R3.hold hov
    refine ⟨B4, r3, P, m3, en3, R4, (PostSt.mono e5 h3).bindE fun y en5 m5 B5 r5 H5 e6 R5 h5 yv hyv => ?_⟩
    obtain ⟨iw, e7, h6⟩ := h5.opt
    obtain ⟨en6, m6, e8, h7⟩ := h6.opt2
    have hov := hov.held (P2 := P) (en3 := en5) (H3 := H5) e6.sub e6.pre
    have hw : Rep T B5 r5 v w := ((hw.mono e4.sub e4.pre).mono e5.sub e5.pre).mono e6.sub e6.pre
    exact seti_rel R5 hov hyv hw e7 e8 fun H6 R6 => h7.nx R6
  · cases h
theorem st_unpi (C : CsOk T xc S cs gl k N fb sc Wx X) {a i e : E} {j : Nat} {p : Stmt} (h : okS S N fb sc (.unpi a i j e) p = true) : PS X p (SV T xc cs gl Nf Wx (.unpi a i j e)) := by
  unfold okS at h
  split at h
  · rename_i pa pi px x xp kt pt v pos
    simp only [Bool.and_eq_true] at h
    obtain ⟨⟨⟨⟨⟨⟨⟨⟨hc, h1⟩, hj⟩, hl⟩, hn⟩, h2⟩, h3⟩, h4⟩, h5⟩ := h
    obtain ⟨l1, l2⟩ := loc_of hl
    have hp : PG X (.Subscript pa pi px) (gSub (SE T xc cs gl Wx a) (SE T xc cs gl Wx i) rSetL) := pg_sub ((bd_all a).val C.C h3).pe ((bd_all i).val C.C h4).pe set_list (by
      intro v
      cases pi <;> first | rfl | cases h1)
    have hq : PG X (.Name x xp) (gName j) := pg_name (by rw [C.C.eN]; exact C.C.nd) (C.C.name hj) (by rw [C.C.es]; exact l1) (by rw [C.C.ef, C.C.es]; exact l2)
    have ht : PG X (.Tuple [.Subscript pa pi px, .Name x xp] kt pt) (gTup X.K 2 (gCons (gSub (SE T xc cs gl Wx a) (SE T xc cs gl Wx i) rSetL) (gCons (gName j) gNil))) := pg_tup (C.C.calm hc) (pgs_cons hp (pgs_cons hq pgs_nil rfl) rfl) rfl rfl
    refine (ps_asg ((bd_all e).val C.C h5).pe ht (notComp_sole h2) (notTup_sw hn) rfl).imp fun D σ H z => ?_
    obtain ⟨B, r, P, m, en, R, g⟩ := z
    simp only [sv] at g
    refine ⟨B, r, P, m, en, R, g.bindE fun x en1 m1 B1 r1 H1 e1 R1 h1 v hv => ?_⟩
    obtain ⟨w, en2, e2, h2⟩ := h1.opt2
    obtain ⟨B2, e3, R2, hw⟩ := R1.esc hv e2
    have h9 := PostSt.mono e3 h2
    clear h2
    split at h9
    · rename_i w1 w2
      cases hw with
      | tup d l =>
        obtain ⟨v1, v2, rfl, hw1, hw2⟩ := l.v2
        rw [C.C.eK]
        refine ⟨_, _, rfl, R2.s.bh.sqt d, rfl, v1, [v2], rfl, ?_⟩
        refine ⟨B2, r1, P, m1, en2, R2, h9.bindE fun o en3 m3 B3 r3 H3 e4 R3 h3 ov hov => ?_⟩
        obtain ⟨B4, e5, R4, hov⟩ := R3.hold hov
        refine ⟨B4, r3, P, m3, en3, R4, (PostSt.mono e5 h3).bindE fun y en5 m5 B5 r5 H5 e6 R5 h5 yv hyv => ?_⟩
        obtain ⟨iw, e7, h6⟩ := h5.opt
        obtain ⟨en6, m6, e8, h7⟩ := h6.opt2
        have hov := hov.held (P2 := P) (en3 := en5) (H3 := H5) e6.sub e6.pre
        have hw1 : Rep T B5 r5 v1 w1 := ((hw1.mono e4.sub e4.pre).mono e5.sub e5.pre).mono e6.sub e6.pre
        have hw2 : Rep T B5 r5 v2 w2 := ((hw2.mono e4.sub e4.pre).mono e5.sub e5.pre).mono e6.sub e6.pre
        exact seti_rel R5 hov hyv hw1 e7 e8 fun H6 R6 => ⟨v2, [], rfl, rfl, h7.nx (R6.set_val hw2)⟩
    · exact h9.elim
  · cases h
theorem st_clr (C : CsOk T xc S cs gl k N fb sc Wx X) {a : E} {p : Stmt} (h : okS S N fb sc (.clr a) p = true) : PS X p (SV T xc cs gl Nf Wx (.clr a)) := by
  unfold okS at h
  split at h
  · rename_i pa x ap cp pos
    simp only [Bool.and_eq_true] at h
    obtain ⟨⟨⟨h1, h2⟩, h3⟩, h5⟩ := h
    have h1 := eq_of_beq h1
    subst h1
    refine (ps_expr (pe_bm0 PySem.F.plainAttrs_list PySem.F.slot_list_clear PySem.F.type_list_clear mt_clear ((bd_all a).val C.C h5).pe (base_of h2) h3) rfl).imp fun D σ H z => ?_
    obtain ⟨B, r, P, m, en, R, g⟩ := z
    simp only [sv] at g
    refine ⟨B, r, P, m, en, R, g.bindE fun x en1 m1 B1 r1 H1 e1 R1 h1 v hv => ?_⟩
    obtain ⟨ws0, e0, h1⟩ := h1.opt
    by_cases hnew : ∃ ws, x = .new ws
    · obtain ⟨ws, rfl⟩ := hnew
      obtain ⟨r2, e2, R2, h3⟩ := R1.box_new hv
      cases h3 with
      | ref hn2 =>
        rename_i l
        have gn : (m1 ++ [Ob.lst ws])[m1.length]? = some (.lst ws) := by rw [List.getElem?_append_right (Nat.le_refl _), Nat.sub_self]; rfl
        obtain ⟨a1, o, b1, b2, b3⟩ := R2.s.ob m1.length _ gn
        rw [hn2] at b1; cases b1
        cases b3 with
        | lst b3 =>
          have q := (PostSt.mono e2 h1).nx (σ := σ) (by
            have := R2.upd_sto (b := .lst []) hn2 gn rfl rfl (.lst (vs := []) .nil)
            rw [List.set_append_right _ _ (Nat.le_refl _), Nat.sub_self] at this
            exact this)
          exact ⟨.inl ⟨rfl, _, .inl (.inl b2)⟩, l, _, rfl, rfl, b2, q⟩
    obtain ⟨B2, e2, R2, hv2⟩ := R1.hold hv
    unfold rvL at e0
    cases g0 : rvW en1 (hold x) with
    | none => rw [g0] at e0; cases e0
    | some w0 =>
      rw [g0] at e0
      obtain ⟨l, vs0, rfl, d0, _⟩ := RepT.lst R2.s (R2.top hv2 g0) e0
      refine ⟨.inl ⟨rfl, vs0, .inl d0⟩, ?_⟩
      have h1 : PostSt T xc Wx P B1 r1 (Mp.opt2 (clrTo en1 m1 x) fun en m => .ok .nx en m) D := by
        cases x with
        | new ws => exact absurd ⟨ws, rfl⟩ hnew
        | _ => exact h1
      obtain ⟨en6, m6, e8, h7⟩ := PostSt.opt2 (PostSt.mono e2 h1)
      have hx : hold x = x := by
        cases x with
        | new ws => exact absurd ⟨ws, rfl⟩ hnew
        | _ => rfl
      rw [hx] at hv2
      generalize x = ho at e8 hv2
      cases ho with
      | new ws => cases e8
      | bor j =>
        unfold clrTo at e8
        dsimp only at e8
        split at e8
        · rename_i ws gj
          simp only [Option.some.injEq, Prod.mk.injEq] at e8
          obtain ⟨rfl, rfl⟩ := e8
          obtain ⟨p, a1, a2⟩ := R2.e.own_at (enGet_some gj)
          have hj : σ[j]? = some (some (.ref l)) := hv2
          rw [hj] at a1; cases a1
          obtain ⟨vs, b1, b2⟩ := a2.at_
          exact ⟨l, vs, rfl, rfl, b1, h7.nx (R2.upd_own (enGet_some gj) hj .nil)⟩
        · cases e8
      | val y =>
        cases y with
        | ref n =>
          simp only [clrTo] at e8
          split at e8
          · rename_i ws gn
            simp only [Option.some.injEq, Prod.mk.injEq] at e8
            obtain ⟨rfl, rfl⟩ := e8
            cases hv2 with
            | ref hn2 =>
              obtain ⟨a1, o, b1, b2, b3⟩ := R2.s.ob n _ gn
              rw [hn2] at b1; cases b1
              cases b3 with
              | lst b3 => exact ⟨l, _, rfl, rfl, b2, h7.nx (R2.upd_sto hn2 gn rfl rfl (.lst .nil))⟩
          · cases e8
        | _ => cases e8
  · cases h
theorem st_app (C : CsOk T xc S cs gl k N fb sc Wx X) {a e : E} {p : Stmt} (h : okS S N fb sc (.app a e) p = true) : PS X p (SV T xc cs gl Nf Wx (.app a e)) := by
  unfold okS at h
  split at h
  · rename_i pa x ap q cp pos
    simp only [Bool.and_eq_true] at h
    obtain ⟨⟨⟨⟨⟨h1, h2⟩, h3⟩, h4⟩, h5⟩, h6⟩ := h
    have h1 := eq_of_beq h1
    subst h1
    have hfew : ((backTo cp (starEach [q] X.env)).all (fun x => !x.1) && (backToKw cp (keywordEach [] X.env)).all (fun x => x.1.isSome)
        && decide (([q] : List Expr).length + ([] : List Keyword).length + (if ([] : List Keyword).isEmpty then 0 else 1) < 30)) = true := by
      rw [star_of h4]; rfl
    have hq : PA X [q] (SA T xc cs gl Wx (.cons e .nil)) := snd_args h4 ((bd_all e).val C.C h6).pe snd_nil
    refine (ps_expr (pe_bm PySem.F.plainAttrs_list PySem.F.slot_list_append PySem.F.type_list_append mt_append ((bd_all a).val C.C h5).pe hq (base_of h2) hfew h3 (star_of h4) rfl) rfl).imp fun D σ H z => ?_
    obtain ⟨B, r, P, m, en, R, g⟩ := z
    simp only [sv] at g
    refine ⟨B, r, P, m, en, R, g.bindE fun x en1 m1 B1 r1 H1 e1 R1 h1 v hv => ?_⟩
    obtain ⟨ws0, e0, h1⟩ := h1.opt
    obtain ⟨B2, e2, R2, hv2⟩ := R1.hold hv
    unfold rvL at e0
    cases g0 : rvW en1 (hold x) with
    | none => rw [g0] at e0; cases e0
    | some w0 =>
      rw [g0] at e0
      obtain ⟨l, vs0, rfl, d0, _⟩ := RepT.lst R2.s (R2.top hv2 g0) e0
      refine ⟨.inl ⟨rfl, vs0, .inl d0⟩, B2, r1, P, m1, en1, R2, ?_⟩
      have h1 := PostSt.mono e2 h1
      have z : PostG T xc Wx P σ B2 r1 (evs cs gl (.cons e .nil) en1 m1) fun zs en3 m3 B3 r3 H3 => ∃ w, zs = [w] ∧ ∃ en6 m6, appTo en3 m3 (hold x) w = some (en6, m6) ∧ Ext P B2 r1 B3 r3 ∧ Rel T B3 r3 P m3 en3 σ H3 ∧ PostSt T xc Wx P B3 r3 (.ok .nx en6 m6) D := by
        simp only [evs]
        cases q1 : ev cs gl e en1 m1 with
        | bad => rw [q1] at h1; exact h1
        | ex c en m => rw [q1] at h1; exact fun B2 r2 H2 e R => h1 σ B2 r2 H2 e R
        | ok x2 en3 m3 =>
          rw [q1] at h1
          obtain ⟨w, en4, q2, h2⟩ := PostSt.opt2 h1
          obtain ⟨en6, m6, q3, h3⟩ := PostSt.opt2 h2
          show PostG T xc Wx P σ B2 r1 (Mp.opt2 (esc x2 en3) fun w en => Mp.R.ok [w] en m3) _
          rw [q2]
          exact fun B3 r3 H3 e R => ⟨w, rfl, en6, m6, q3, e, R, PostSt.mono e h3⟩
      refine z.imp fun zs en3 m3 B3 r3 H3 _ _ z us hus => ?_
      obtain ⟨w, rfl, en6, m6, e8, e3, R3, h7⟩ := z
      obtain ⟨u, rfl, hw⟩ := hus.v1
      have hv3 := hv2.held (P2 := P) (en3 := en3) (H3 := H3) e3.sub e3.pre
      generalize hold x = ho at e8 hv3
      have lt : ∀ {ws : List W} {vs : List V}, RepL T B3 r3 vs ws → ws.length < LIM → vs.length < sizeLine := fun l q => by
        rw [l.len]; exact Nat.lt_of_lt_of_le q (by decide)
      have own : ∀ (j : Nat) (ws : List W), enGet en3 j = some (.own ws) → σ[j]? = some (some (.ref l)) → (if ws.length < LIM then some (en3.set j (some (.own (ws ++ [w]))), m3) else none) = some (en6, m6) →
          rAppend (.ref l) [u] H3 fun _ H6 => D.nx σ H6 := fun j ws gj hj e => by
        obtain ⟨p, a1, a2⟩ := R3.e.own_at (enGet_some gj)
        rw [hj] at a1; cases a1
        obtain ⟨vs, b1, b2⟩ := a2.at_
        split at e
        · rename_i hl
          simp only [Option.some.injEq, Prod.mk.injEq] at e
          obtain ⟨rfl, rfl⟩ := e
          exact ⟨l, vs, u, rfl, rfl, b1, lt b2 hl, h7.nx (R3.upd_own (enGet_some gj) hj (b2.app (.cons hw .nil)))⟩
        · cases e
      have sto : ∀ (n : Nat) (ws : List W), m3[n]? = some (.lst ws) → r3[n]? = some l → (if ws.length < LIM then some (en3, m3.set n (.lst (ws ++ [w]))) else none) = some (en6, m6) →
          rAppend (.ref l) [u] H3 fun _ H6 => D.nx σ H6 := fun n ws gn hn2 e => by
        obtain ⟨a1, o, b1, b2, b3⟩ := R3.s.ob n _ gn
        rw [hn2] at b1; cases b1
        cases b3 with
        | lst b3 =>
          rename_i vs
          split at e
          · rename_i hl
            simp only [Option.some.injEq, Prod.mk.injEq] at e
            obtain ⟨rfl, rfl⟩ := e
            exact ⟨l, vs, u, rfl, rfl, b2, lt b3 hl, h7.nx (R3.upd_sto hn2 gn rfl rfl (.lst (b3.app (.cons hw .nil))))⟩
          · cases e
      cases ho with
      | new ws => cases e8
      | bor j =>
        unfold appTo at e8
        dsimp only at e8
        split at e8
        · rename_i ws gj; exact own j ws gj hv3 e8
        · cases e8
      | val y =>
        cases y with
        | ref n =>
          simp only [appTo] at e8
          split at e8
          · rename_i ws gn
            cases hv3 with
            | ref a2 => exact sto n ws gn a2 e8
          · cases e8
        | _ => cases e8
  · cases h
noncomputable def rExtR (K : PySem.W.Frag) : V → List V → Hp → VK → Prop := fun x vs H Q => ∃ l b xs zs, x = .ref l ∧ vs = [.ref b] ∧ H l = some (.lst xs) ∧ Rd H b (.lst zs) ∧ xs.length + zs.length ≤ sizeLine ∧ Q .non (upd H l (.lst (xs ++ zs)))
theorem mt_extR {X : Cx} {K : PySem.W.Frag} : MtM X "list.extend" (rExtR K) := by
  intro pins s σ H x vs v us Q I rx rv ⟨l, b, xs, zs, e1, e2, hH, hB, hz, q⟩
  subst e1 e2
  cases rx
  obtain ⟨u, rfl, ru⟩ := rv.one
  cases ru
  obtain ⟨_, ia, na, ra, la, ea⟩ := I.lstM hH
  obtain ⟨_, ib, nb, rb, eb⟩ := hB.ok I.hok
  have lb := rb.length
  have nl : ¬ (!ia.toArray.isEmpty && Builtin.List.listTooLong (ia.toArray.size + ib.toArray.size)) = true := by
    rw [notLongL (by rw [List.size_toArray, List.size_toArray]; omega), Bool.and_false]; exact Bool.false_ne_true
  have go := AutoSeq1.list_extend_list_list_0 l ia.toArray na b ib.toArray nb nl (by simp only [List.size_toArray]; omega) (by simp only [List.size_toArray]; omega)
  refine call_meets PySem.F.slot_list_extend ⟨_, ea, rfl⟩ PySem.F.entry_list_extend (PySem.F.args_list_extend_2 _ _) go ⟨ea, eb, .non, _, I.lset (its' := ia ++ ib) hH ea (by simp) (ra.append rb) ?_, rfl, q⟩
  rw [List.length_append]; omega
theorem st_extd (C : CsOk T xc S cs gl k N fb sc Wx X) {a e : E} {p : Stmt} (h : okS S N fb sc (.extd a e) p = true) : PS X p (SV T xc cs gl Nf Wx (.extd a e)) := by
  unfold okS at h
  split at h
  · rename_i pa x ap q cp pos
    simp only [Bool.and_eq_true] at h
    obtain ⟨⟨⟨⟨⟨h1, h2⟩, h3⟩, h4⟩, h5⟩, h6⟩ := h
    have h1 := eq_of_beq h1
    subst h1
    have hfew : ((backTo cp (starEach [q] X.env)).all (fun x => !x.1) && (backToKw cp (keywordEach [] X.env)).all (fun x => x.1.isSome)
        && decide (([q] : List Expr).length + ([] : List Keyword).length + (if ([] : List Keyword).isEmpty then 0 else 1) < 30)) = true := by
      rw [star_of h4]; rfl
    have hq : PA X [q] (SA T xc cs gl Wx (.cons e .nil)) := snd_args h4 ((bd_all e).val C.C h6).pe snd_nil
    refine (ps_expr (pe_bm PySem.F.plainAttrs_list PySem.F.slot_list_extend PySem.F.type_list_extend (mt_extR (K := T.K)) ((bd_all a).val C.C h5).pe hq (base_of h2) hfew h3 (star_of h4) rfl) rfl).imp fun D σ H z => ?_
    obtain ⟨B, r, P, m, en, R, g⟩ := z
    simp only [sv] at g
    refine ⟨B, r, P, m, en, R, g.bindE fun x en1 m1 B1 r1 H1 e1 R1 h1 v hv => ?_⟩
    obtain ⟨ws0, e0, h1⟩ := h1.opt
    obtain ⟨B2, e2, R2, hv2⟩ := R1.hold hv
    unfold rvL at e0
    cases g0 : rvW en1 (hold x) with
    | none => rw [g0] at e0; cases e0
    | some w0 =>
      rw [g0] at e0
      obtain ⟨l, vs0, rfl, d0, _⟩ := RepT.lst R2.s (R2.top hv2 g0) e0
      refine ⟨.inl ⟨rfl, vs0, .inl d0⟩, B2, r1, P, m1, en1, R2, ?_⟩
      have h1 := PostSt.mono e2 h1
      have z : PostG T xc Wx P σ B2 r1 (evs cs gl (.cons e .nil) en1 m1) fun zs en3 m3 B3 r3 H3 => ∃ w, zs = [w] ∧ ∃ es en6 m6, lstW m3 w = some es ∧ extTo en3 m3 (hold x) es = some (en6, m6) ∧ Ext P B2 r1 B3 r3 ∧ Rel T B3 r3 P m3 en3 σ H3 ∧ PostSt T xc Wx P B3 r3 (.ok .nx en6 m6) D := by
        simp only [evs]
        cases q1 : ev cs gl e en1 m1 with
        | bad => rw [q1] at h1; exact h1
        | ex c en m => rw [q1] at h1; exact fun B2 r2 H2 e R => h1 σ B2 r2 H2 e R
        | ok x2 en3 m3 =>
          rw [q1] at h1
          obtain ⟨w, en4, q2, h2⟩ := PostSt.opt2 h1
          obtain ⟨es, q4, h2⟩ := PostSt.opt h2
          obtain ⟨en6, m6, q3, h3⟩ := PostSt.opt2 h2
          show PostG T xc Wx P σ B2 r1 (Mp.opt2 (esc x2 en3) fun w en => Mp.R.ok [w] en m3) _
          rw [q2]
          exact fun B3 r3 H3 e R => ⟨w, rfl, es, en6, m6, q4, q3, e, R, PostSt.mono e h3⟩
      refine z.imp fun zs en3 m3 B3 r3 H3 _ _ z us hus => ?_
      obtain ⟨w, rfl, es, en6, m6, e9, e8, e3, R3, h7⟩ := z
      obtain ⟨u, rfl, hw⟩ := hus.v1
      obtain ⟨pb, ys, rfl, dz, lz⟩ := RepT.lst R3.s (.inl hw) e9
      have hv3 := hv2.held (P2 := P) (en3 := en3) (H3 := H3) e3.sub e3.pre
      generalize hold x = ho at e8 hv3
      have lt : ∀ {ws : List W} {vs : List V}, RepL T B3 r3 vs ws → ws.length + es.length ≤ LIM → vs.length + ys.length ≤ sizeLine := fun l q => by
        rw [l.len, lz.len]; exact Nat.le_trans q (by decide)
      have own : ∀ (j : Nat) (ws : List W), enGet en3 j = some (.own ws) → σ[j]? = some (some (.ref l)) → (if ws.length + es.length ≤ LIM then some (en3.set j (some (.own (ws ++ es))), m3) else none) = some (en6, m6) →
          rExtR T.K (.ref l) [.ref pb] H3 fun _ H6 => D.nx σ H6 := fun j ws gj hj e => by
        obtain ⟨p, a1, a2⟩ := R3.e.own_at (enGet_some gj)
        rw [hj] at a1; cases a1
        obtain ⟨vs, b1, b2⟩ := a2.at_
        split at e
        · rename_i hl
          simp only [Option.some.injEq, Prod.mk.injEq] at e
          obtain ⟨rfl, rfl⟩ := e
          exact ⟨l, pb, vs, ys, rfl, rfl, b1, dz, lt b2 hl, h7.nx (R3.upd_own (enGet_some gj) hj (b2.app lz))⟩
        · cases e
      have sto : ∀ (n : Nat) (ws : List W), m3[n]? = some (.lst ws) → r3[n]? = some l → (if ws.length + es.length ≤ LIM then some (en3, m3.set n (.lst (ws ++ es))) else none) = some (en6, m6) →
          rExtR T.K (.ref l) [.ref pb] H3 fun _ H6 => D.nx σ H6 := fun n ws gn hn2 e => by
        obtain ⟨a1, o, b1, b2, b3⟩ := R3.s.ob n _ gn
        rw [hn2] at b1; cases b1
        cases b3 with
        | lst b3 =>
          rename_i vs
          split at e
          · rename_i hl
            simp only [Option.some.injEq, Prod.mk.injEq] at e
            obtain ⟨rfl, rfl⟩ := e
            exact ⟨l, pb, vs, ys, rfl, rfl, b2, dz, lt b3 hl, h7.nx (R3.upd_sto hn2 gn rfl rfl (.lst (b3.app lz)))⟩
          · cases e
      cases ho with
      | new ws => cases e8
      | bor j =>
        unfold extTo at e8
        dsimp only at e8
        split at e8
        · rename_i ws gj; exact own j ws gj hv3 e8
        · cases e8
      | val y =>
        cases y with
        | ref n =>
          simp only [extTo] at e8
          split at e8
          · rename_i ws gn
            cases hv3 with
            | ref a2 => exact sto n ws gn a2 e8
          · cases e8
        | _ => cases e8
  · cases h
theorem st_augn (C : CsOk T xc S cs gl k N fb sc Wx X) {j : Nat} {op : Op} {e : E} {p : Stmt} (h : okS S N fb sc (.augn j op e) p = true) : PS X p (SV T xc cs gl Nf Wx (.augn j op e)) := by
  unfold okS at h
  split at h
  · rename_i x px o v pos
    simp only [Bool.and_eq_true] at h
    obtain ⟨⟨⟨⟨h1, h2⟩, h5⟩, h3⟩, h4⟩ := h
    obtain ⟨hl, hf⟩ := loc_of h2
    have hx : Loc X.env.scope x := by rw [C.C.es]; exact hl
    have hf2 : X.fn x = true ∨ X.env.scope.names.lookup x = some .local := by rw [C.C.ef, C.C.es]; exact hf
    have nd : X.N.Nodup := by rw [C.C.eN]; exact C.C.nd
    have go : ∀ {f : Int → Int → Int}, (∀ i n, augF op i n = some (f i n)) → ∀ D σ H, SV T xc cs gl Nf Wx (.augn j op e) D σ H → tAug j (SE T xc cs gl Wx e) (ipI f) D σ H := fun {f} hf D σ H z => by
      obtain ⟨B, r, P, m, en, R, g⟩ := z
      simp only [sv] at g
      obtain ⟨s, e1, h1⟩ := PostSt.opt g
      cases s with
      | own ws => exact h1.elim
      | val w =>
        cases w with
        | int i =>
          obtain ⟨v1, a1, a2⟩ := R.e.sl j _ (enGet_some e1)
          have a2 : Rep T B r v1 (.int i) := a2
          cases a2
          refine ⟨.int i, a1, B, r, P, m, en, R, h1.bindE fun y en1 m1 B1 r1 H1 e1 R1 h1 yv hy => ?_⟩
          obtain ⟨n, e2, h2⟩ := PostSt.opt h1
          cases q : intR y with
          | none => rw [q] at e2; cases e2
          | some i2 =>
            rw [q, Option.bind_some, hf] at e2
            cases e2
            have q := intR_some q
            subst q
            have hy : Rep T B1 r1 yv (.int i2) := hy
            cases hy
            exact ⟨i, i2, rfl, rfl, h2.nx (R1.set_val (.int _))⟩
        | _ => exact h1.elim
    cases op <;> first | (exact absurd h5 Bool.false_ne_true) | skip
    · cases o <;> first | (exact absurd h3 Bool.false_ne_true) | skip
      exact (ps_aug nd (C.C.name h1) hx ((bd_all e).val C.C h4).pe ip_add hf2).imp (go fun _ _ => rfl)
    · cases o <;> first | (exact absurd h3 Bool.false_ne_true) | skip
      exact (ps_aug nd (C.C.name h1) hx ((bd_all e).val C.C h4).pe ip_sub hf2).imp (go fun _ _ => rfl)
  · cases h
theorem ret_rep {B P H : Hp} {r : List Addr} {m : Sto} {en : En} {v : V} {x c : RV} (R : Rel T B r P m en σ H) (hv : RepR T B r P en σ H v x) (e : retR x en = some c) : RepC T B r P H v c := by
  cases x with
  | val w =>
    simp only [retR, Option.some.injEq] at e
    subst e; exact hv
  | new ws =>
    simp only [retR, Option.some.injEq] at e
    subst e
    obtain ⟨p, h1, h2, _⟩ := hv
    exact ⟨p, h1, h2⟩
  | bor j =>
    simp only [retR] at e
    cases q : enGet en j with
    | none => rw [q] at e; cases e
    | some s =>
      rw [q] at e
      obtain ⟨u, a1, a2⟩ := R.e.sl j s (enGet_some q)
      have hv : σ[j]? = some (some v) := hv
      rw [hv] at a1; cases a1
      cases s with
      | own ws =>
        simp only [Option.map_some, Option.some.injEq] at e
        subst e; exact a2
      | val w =>
        simp only [Option.map_some, Option.some.injEq] at e
        subst e; exact a2
theorem tst_go {A : Type} {c : E} {H : Hp} {σ : Slo} {Q : Bool → Hp → Prop} {B P : Hp} {r : List Addr} {m : Sto} {en : En} {f : Bool → En → Sto → R Out} {D : Ends} (R : Rel T B r P m en σ H)
    (g : PostSt T xc Wx P B r ((ev cs gl c en m).bind fun x en m => Mp.opt (blR x) fun b => f b en m) D)
    (q : ∀ b en m B2 r2 H2, Ext P B r B2 r2 → Rel T B2 r2 P m en σ H2 → PostSt T xc Wx P B2 r2 (f b en m) D → Q b H2) : SB T xc cs gl Wx c σ H Q := by
  refine ⟨B, r, P, m, en, R, g.bindE fun x en1 m1 B1 r1 H1 e1 R1 h1 => ?_⟩
  obtain ⟨b, e2, h2⟩ := h1.opt
  exact ⟨b, e2, q b en1 m1 B1 r1 H1 e1 R1 h2⟩
theorem bind_tst {A : Type} {y : R RV} {f : Bool → En → Sto → R A} : (y.bind fun x en m => Mp.opt (blR x) fun t => (Mp.R.ok t en m : Mp.R Bool)).bind f = y.bind fun x en m => Mp.opt (blR x) fun t => f t en m := by
  cases y with
  | ok x en1 m1 =>
    show (Mp.opt (blR x) fun t => (Mp.R.ok t en1 m1 : Mp.R Bool)).bind _ = Mp.opt (blR x) _
    cases blR x <;> rfl
  | ex _ _ _ => rfl
  | bad => rfl
theorem st_whl (C : CsOk T xc S cs gl k N fb sc Wx X) {c : E} {b : Mp.S} {pc : Expr} {ps : List Stmt} {pos : Pos} (hc : PT X pc (SB T xc cs gl Wx c)) (hb : PSs X ps (SV T xc cs gl Nf Wx b)) : PS X (.While pc ps [] pos) (SV T xc cs gl Nf Wx (.whl c b)) := by
  refine (ps_while C.po hc hb).imp fun D σ H z => ?_
  obtain ⟨B, r, P, m, en, R, g⟩ := z
  simp only [sv] at g
  -- by the turns that are left
  refine ⟨fun n σ H => ∃ B r P m en, Rel T B r P m en σ H ∧ PostSt T xc Wx P B r (whileL (fun en m => (ev cs gl c en m).bind fun x en m => Mp.opt (blR x) fun t => .ok t en m) (fun en m => sv cs gl Nf b en m) n en m) D, ⟨Nf, B, r, P, m, en, R, g⟩, fun n σ H hW => ?_⟩
  obtain ⟨B, r, P, m, en, R, g⟩ := hW
  cases n with
  | zero => exact g.elim
  | succ n =>
    unfold whileL at g
    rw [bind_tst] at g
    refine tst_go (A := Unit) R g fun t en2 m2 B2 r2 H2 e2 R2 h2 => ?_
    cases t with
    | false =>
      rw [if_neg Bool.false_ne_true] at h2 ⊢
      exact h2.nx R2
    | true =>
      rw [if_pos rfl] at h2 ⊢
      refine ⟨fun σ H => ∃ B r P m en, Rel T B r P m en σ H ∧ PostSt T xc Wx P B r (whileL (fun en m => (ev cs gl c en m).bind fun x en m => Mp.opt (blR x) fun t => .ok t en m) (fun en m => sv cs gl Nf b en m) n en m) D, fun σ' H' h => ⟨n, Nat.lt_succ_self n, h⟩, B2, r2, P, m2, en2, R2, ?_⟩
      exact h2.bindS (fun en3 m3 σ3 B3 r3 H3 e3 R3 h3 => ⟨B3, r3, P, m3, en3, R3, h3⟩) fun a en3 m3 σ3 B3 r3 H3 v e3 R3 h3 hv => h3 σ3 B3 r3 H3 Ext.refl R3 v hv
theorem st_for (C : CsOk T xc S cs gl k N fb sc Wx X) (hc : S.cB = true) {it : It} {src : E} {tg : Tg} {b : Mp.S} {pt pi : Expr} {ps : List Stmt} {pos : Pos} (hi : PI X pt pi (SI T xc cs gl Wx it src)) (hs : setB pi = false) (ht : okT N fb sc tg pt = true) (hb : PSs X ps (SV T xc cs gl Nf Wx b)) :
    PS X (.For pt pi ps [] pos) (SV T xc cs gl Nf Wx (.for_ it src tg b)) := by
  refine (ps_for C.po (C.C.calm hc) hi (pg_tg C.C hc ht) hb (fold_of hs)).imp fun D σ H z => ?_
  obtain ⟨B, r, P, m, en, R, g⟩ := z
  simp only [sv] at g
  refine ⟨B, r, P, m, en, R, g.bindE fun ws en1 m1 B1 r1 H1 e1 R1 h1 => ?_⟩
  obtain ⟨zs, ck, e2, h2⟩ := h1.opt2
  refine ⟨zs, ck, e2, fun J sim => ?_⟩
  generalize hf : (fun w en m => Mp.opt (bindT tg w m en) fun en => sv cs gl Nf b en m) = f at h2
  refine ⟨fun i mm σ H => mm = zs.length - i ∧ i ≤ zs.length ∧ ∃ B2 r2 m2 en2, Ext P B1 r1 B2 r2 ∧ Rel T B2 r2 P m2 en2 σ H ∧ PostSt T xc Wx P B2 r2 (forL (chk ck) f (zs.drop i) en2 m2) D, ⟨zs.length, rfl, Nat.zero_le _, B1, r1, m1, en1, Ext.refl, R1, h2⟩, fun i mm σ3 H3 hW => ?_⟩
  obtain ⟨rfl, hi, B2, r2, m2, en2, e3, R2, h3⟩ := hW
  by_cases hlt : i < zs.length
  · right
    have hd : zs.drop i = zs[i] :: zs.drop (i + 1) := List.drop_eq_getElem_cons hlt
    rw [hd] at h3
    unfold forL at h3
    by_cases hck : chk ck m2 = true
    · rw [if_pos hck] at h3
      refine ⟨sim.go i e3.sub e3.pre R2 hck hlt, fun σ4 H4 => i + 1 ≤ zs.length ∧ ∃ B4 r4 m4 en4, Ext P B1 r1 B4 r4 ∧ Rel T B4 r4 P m4 en4 σ4 H4 ∧ PostSt T xc Wx P B4 r4 (forL (chk ck) f (zs.drop (i + 1)) en4 m4) D, fun σ4 H4 q => ⟨zs.length - (i + 1), by omega, rfl, q⟩, fun x H4 y => ?_⟩
      obtain ⟨B4, e6, R4, hz2, sH⟩ := sim.yld i e3.sub e3.pre R2 hck y (List.getElem?_eq_getElem hlt)
      rw [← hf] at h3
      cases q : bindT tg zs[i] m2 en2 with
      | none => dsimp only at h3; rw [q] at h3; exact h3.elim
      | some en6 =>
        dsimp only at h3
        rw [q] at h3
        refine ⟨B4, r2, P, m2, en2, _, en6, R4, hz2, q, fun us R6 => ⟨B4, r2, P, m2, en6, R6, ?_⟩⟩
        have h3 : PostSt T xc Wx P B2 r2 ((sv cs gl Nf b en6 m2).bind _) D := h3
        rw [hf] at h3
        refine (PostSt.mono e6 h3).bindS (fun en7 m7 σ7 B7 r7 H7 e7 R7 h7 => ⟨by omega, B7, r7, m7, en7, (e3.trans e6).trans e7, R7, h7⟩) fun a en7 m7 σ7 B7 r7 H7 v e7 R7 h7 hv => h7 σ7 B7 r7 H7 Ext.refl R7 v hv
    · rw [if_neg hck] at h3; exact h3.elim
  · left
    have e : i = zs.length := by omega
    subst e
    rw [List.drop_length] at h3
    unfold forL at h3
    by_cases hck : chk ck m2 = true
    · rw [if_pos hck] at h3
      exact ⟨sim.stop e3.sub e3.pre R2 hck, h3.nx R2⟩
    · rw [if_neg hck] at h3; exact h3.elim
end
end Mp
set_option Elab.async false
set_option linter.all false
set_option maxRecDepth 100000
set_option maxHeartbeats 4000000
/-! stores into objects and dicts -/
namespace Mp
open PySem PySem.Spec PyProof.Rows L2
section
variable {T : Tab} {xc : Nat → Value} {S : Sta} {cs : Nat → List W → Sto → CR} {gl : List W} {k Nf : Nat} {N : List Str} {fb : Str → Bool} {sc : Scope} {Wx : WX} {X : Cx}
theorem putK_lim {kvs : List (Key × V)} (h : kvs.length < LIM) : kvs.length < sizeLine := Nat.lt_of_lt_of_le h (by rw [sizeLine_eq]; decide)
theorem st_setf (C : CsOk T xc S cs gl k N fb sc Wx X) {a e : E} {x : Str} {cl : List Nat} {p : Stmt} (h : okS S N fb sc (.setf a x cl e) p = true) : PS X p (SV T xc cs gl Nf Wx (.setf a x cl e)) := by
  unfold okS at h
  split at h
  · rename_i pa y py v pos
    simp only [Bool.and_eq_true, List.all_eq_true] at h
    obtain ⟨⟨⟨⟨h1, h2⟩, hcs⟩, h4⟩, h5⟩ := h
    have hxy := eq_of_beq h1
    subst hxy
    refine (ps_fld ((bd_all a).val C.C h4).pe ((bd_all e).val C.C h5).pe (noSwap_of h2)).imp fun D σ H z => ?_
    obtain ⟨B, r, P, m, en, R, g⟩ := z
    simp only [sv] at g
    refine ⟨B, r, P, m, en, R, g.bindE fun y1 en1 m1 B1 r1 H1 e1 R1 h1 v1 hv => ?_⟩
    obtain ⟨w, en2, e2, h2⟩ := h1.opt2
    obtain ⟨B2, e3, R2, hw⟩ := R1.esc hv e2
    refine ⟨B2, r1, P, m1, en2, R2, (PostSt.mono e3 h2).bindE fun o en3 m3 B3 r3 H3 e4 R3 h3 ov hov => ?_⟩
    obtain ⟨z, e5, h6⟩ := h3.opt
    have hz := R3.top hov e5
    cases z with
    | ref i =>
      cases q : m3[i]? with
      | none => simp only [q] at h6; exact h6.elim
      | some ob =>
        cases ob with
        | ins c fs =>
          simp only [q] at h6
          split at h6
          · rename_i hc
            obtain ⟨i2, ad, dx, vs, j1, j2, j3, j4, j5, j6⟩ := ins_of R3.s hz (c := c) (fs := fs) (by unfold insW; simp only [q])
            cases j1
            subst j4
            have h8 : ∃ ci, S.cls[c]? = some ci ∧ x ∈ ci.flds := by
              have hcl : c ∈ cl := by simpa using hc.1
              have h9 := hcs c hcl
              split at h9
              · exact ⟨_, by assumption, by simpa using h9⟩
              · cases h9
            obtain ⟨ci, k1, k2⟩ := h8
            obtain ⟨d1, d2, _⟩ := C.C.md.cls c ci k1
            rw [C.C.eK]
            refine ⟨ad, T.ca c, dx, vs, rfl, j5, d1, d2 x k2, by rw [j6.len]; omega, ?_⟩
            exact h6.nx (R3.upd_sto j2 j3 rfl rfl (.ins (j6.putF (hw.mono e4.sub e4.pre) x)))
          · exact h6.elim
        | _ => simp only [q] at h6; exact h6.elim
    | _ => exact h6.elim
  · cases h
theorem st_dput (C : CsOk T xc S cs gl k N fb sc Wx X) {a kk e : E} {p : Stmt} (h : okS S N fb sc (.dput a kk e) p = true) : PS X p (SV T xc cs gl Nf Wx (.dput a kk e)) := by
  unfold okS at h
  split at h
  · rename_i pa pk py v pos
    simp only [Bool.and_eq_true] at h
    obtain ⟨⟨⟨⟨h1, h2⟩, h3⟩, h4⟩, h5⟩ := h
    have hu := C.C.un
    refine (ps_dput (by omega) ((bd_all a).val C.C h3).pe ((bd_all kk).val C.C h4).pe ((bd_all e).val C.C h5).pe (noSwap_of h2)).imp fun D σ H z => ?_
    obtain ⟨B, r, P, m, en, R, g⟩ := z
    simp only [sv] at g
    refine ⟨B, r, P, m, en, R, g.bindE fun y1 en1 m1 B1 r1 H1 e1 R1 h1 v1 hv => ?_⟩
    obtain ⟨w, en2, e2, h2⟩ := h1.opt2
    obtain ⟨B2, e3, R2, hw⟩ := R1.esc hv e2
    refine ⟨B2, r1, P, m1, en2, R2, (PostSt.mono e3 h2).bindE fun o en3 m3 B3 r3 H3 e4 R3 h3 ov hov => ?_⟩
    obtain ⟨z, e5, h6⟩ := h3.opt
    have hz := R3.top hov e5
    refine ⟨B3, r3, P, m3, en3, R3, h6.bindE fun y2 en4 m4 B4 r4 H4 e6 R4 h7 u hu => ?_⟩
    obtain ⟨key, e7, h8⟩ := h7.opt
    have ek := key_of e7 hu
    subst ek
    cases z with
    | ref i =>
      cases q : m4[i]? with
      | none => simp only [q] at h8; exact h8.elim
      | some ob =>
        cases ob with
        | dic kvs =>
          simp only [q] at h8
          split at h8
          · rename_i hc
            obtain ⟨ad, rfl, j0⟩ := hz.ref
            obtain ⟨ad2, vs, j2, j4, j5, j6⟩ := dic_of0 R4.s (v := .ref ad) (.inl (.ref (pre_get e6.pre j0))) (kvs := kvs) q
            have j3 := q
            cases j4
            refine ⟨ad, _, rfl, DPut.k j5 (putK_lim (by rw [j6.len]; exact hc)), ?_⟩
            exact h8.nx (R4.upd_sto j2 j3 rfl rfl (.dic (j6.putK ((hw.mono e4.sub e4.pre).mono e6.sub e6.pre) key)))
          · exact h8.elim
        | _ => simp only [q] at h8; exact h8.elim
    | _ => exact h8.elim
  · cases h
end
end Mp
set_option Elab.async false
set_option linter.all false
set_option maxRecDepth 100000
set_option maxHeartbeats 4000000
namespace Mp
open PySem PySem.Spec PyProof.Rows L2
section
variable {T : Tab} {xc : Nat → Value} {S : Sta} {cs : Nat → List W → Sto → CR} {gl : List W} {k Nf : Nat} {N : List Str} {fb : Str → Bool} {sc : Scope} {Wx : WX} {X : Cx}
theorem st_skip {p : Stmt} (h : okS S N fb sc .skip p = true) : PS X p (SV T xc cs gl Nf Wx .skip) := by
  have e : ∀ D σ H, SV T xc cs gl Nf Wx .skip D σ H → tNext D σ H := fun D σ H z => by
    obtain ⟨B, r, P, m, en, R, g⟩ := z
    simp only [sv] at g
    exact PostSt.nx g R
  unfold okS at h
  split at h
  · exact ps_pass.imp e
  · exact ps_doc.imp e
  · cases h
theorem st_ex (C : CsOk T xc S cs gl k N fb sc Wx X) {e : E} {p : Stmt} (h : okS S N fb sc (.ex e) p = true) : PS X p (SV T xc cs gl Nf Wx (.ex e)) := by
  unfold okS at h
  split at h
  · simp only [Bool.and_eq_true] at h
    refine (ps_expr ((bd_all e).val C.C h.2).pe (noSwap_of h.1)).imp fun D σ H z => ?_
    obtain ⟨B, r, P, m, en, R, g⟩ := z
    simp only [sv] at g
    exact ⟨B, r, P, m, en, R, g.bindE fun x en1 m1 B1 r1 H1 e1 R1 h1 v hv => h1.nx R1⟩
  · cases h
theorem st_ret (C : CsOk T xc S cs gl k N fb sc Wx X) {e : E} {p : Stmt} (h : okS S N fb sc (.ret e) p = true) : PS X p (SV T xc cs gl Nf Wx (.ret e)) := by
  unfold okS at h
  split at h
  · refine (ps_ret ((bd_all e).val C.C h).pe).imp fun D σ H z => ?_
    obtain ⟨B, r, P, m, en, R, g⟩ := z
    simp only [sv] at g
    refine ⟨B, r, P, m, en, R, g.bindE fun x en1 m1 B1 r1 H1 e1 R1 h1 v hv => ?_⟩
    obtain ⟨c, e2, h2⟩ := h1.opt
    exact h2 σ B1 r1 H1 Ext.refl R1 v (ret_rep R1 hv e2)
  · cases h
theorem st_retn {p : Stmt} (h : okS S N fb sc .retn p = true) : PS X p (SV T xc cs gl Nf Wx .retn) := by
  unfold okS at h
  split at h
  · refine ps_retN.imp fun D σ H z => ?_
    obtain ⟨B, r, P, m, en, R, g⟩ := z
    simp only [sv] at g
    exact g σ B r H Ext.refl R .non Rep.non
  · cases h
theorem st_never {p : Stmt} : PS X p (SV T xc cs gl Nf Wx .never) := ps_never.imp fun D σ H z => by
  obtain ⟨B, r, P, m, en, R, g⟩ := z
  simp only [sv] at g
  exact g.elim
theorem sts_never {ps : List Stmt} : PSs X ps (SV T xc cs gl Nf Wx .never) := pss_never.imp fun D σ H z => by
  obtain ⟨B, r, P, m, en, R, g⟩ := z
  simp only [sv] at g
  exact g.elim
structure Bs (T : Tab) (xc : Nat → Value) (S : Sta) (cs : Nat → List W → Sto → CR) (gl : List W) (k Nf : Nat) (N : List Str) (s : Mp.S) : Prop where
  one : ∀ {fb sc Wx X p}, CsOk T xc S cs gl k N fb sc Wx X → okS S N fb sc s p = true → PS X p (SV T xc cs gl Nf Wx s)
  many : ∀ {fb sc Wx X ps}, CsOk T xc S cs gl k N fb sc Wx X → okSs S N fb sc s ps = true → PSs X ps (SV T xc cs gl Nf Wx s)
theorem Bs.mk1 {s : Mp.S} (h : ∀ {fb sc Wx X p}, CsOk T xc S cs gl k N fb sc Wx X → okS S N fb sc s p = true → PS X p (SV T xc cs gl Nf Wx s)) (h1 : ∀ {fb sc ps}, okSs S N fb sc s ps = false) : Bs T xc S cs gl k Nf N s :=
  ⟨h, fun _ q => by rw [h1] at q; cases q⟩
theorem bs_iff {c : E} {s t : Mp.S} (A : Bs T xc S cs gl k Nf N s) (B : Bs T xc S cs gl k Nf N t) : Bs T xc S cs gl k Nf N (.iff c s t) := by
  refine Bs.mk1 (fun C h => ?_) (by simp [okSs])
  unfold okS at h
  split at h
  · simp only [Bool.and_eq_true, Bool.not_eq_true'] at h
    obtain ⟨⟨⟨h1, h2⟩, h3⟩, h4⟩ := h
    refine (ps_if (((bd_all c).val C.C h2).pt h1) (A.many C h3) (B.many C h4)).imp fun D σ H z => ?_
    obtain ⟨B, r, P, m, en, R, g⟩ := z
    simp only [sv] at g
    refine tst_go (A := Unit) R g fun b en2 m2 B2 r2 H2 e2 R2 h2 => ?_
    cases b with
    | false =>
      rw [if_neg Bool.false_ne_true] at h2 ⊢
      exact ⟨B2, r2, P, m2, en2, R2, h2⟩
    | true =>
      rw [if_pos rfl] at h2 ⊢
      exact ⟨B2, r2, P, m2, en2, R2, h2⟩
  · cases h
theorem st_raise (C : CsOk T xc S cs gl k N fb sc Wx X) {c : Nat} {p : Stmt} (h : okS S N fb sc (.raise c) p = true) : PS X p (SV T xc cs gl Nf Wx (.raise c)) := by
  unfold okS at h
  split at h
  · simp only [Bool.and_eq_true] at h
    obtain ⟨⟨⟨h0, h1⟩, h2⟩, h3⟩ := h
    unfold xnmB at h1
    split at h1
    · rename_i xi hx
      have e := eq_of_beq h1
      subst e
      obtain ⟨g1, g2, g3, g4, g5, g6, _⟩ := C.C.md.exs c xi hx
      refine (ps_raise (C.C.calm h0) C.tk (pmk_own PySem.F.excBase_ValueError (by rw [C.C.eK]; exact g4) g2 (by rw [C.C.eK]; exact g5) (raises_own (by rw [C.C.eK]; exact g3.hs) (by rw [C.C.eK]; exact g6)) (gl_of C.C.es h2) (pl_of h3).1)).imp fun D σ H z => ?_
      obtain ⟨B, r, P, m, en, R, g⟩ := z
      simp only [sv] at g
      rw [← g1]
      exact g σ B r H Ext.refl R
    · cases h1
  · cases h
theorem st_augf (C : CsOk T xc S cs gl k N fb sc Wx X) {a e : E} {x : Str} {cl : List Nat} {p : Stmt} (h : okS S N fb sc (.augf a x cl e) p = true) : PS X p (SV T xc cs gl Nf Wx (.augf a x cl e)) := by
  unfold okS at h
  split at h
  · simp only [Bool.and_eq_true, List.all_eq_true] at h
    obtain ⟨⟨⟨h1, hcs⟩, h4⟩, h5⟩ := h
    have hxy := eq_of_beq h1
    subst hxy
    refine (ps_fldaug ((bd_all a).val C.C h4).pe ((bd_all e).val C.C h5).pe in_add).imp fun D σ H z => ?_
    obtain ⟨B, r, P, m, en, R, g⟩ := z
    simp only [sv] at g
    refine ⟨B, r, P, m, en, R, g.bindE fun o en1 m1 B1 r1 H1 e1 R1 h1 ov hov => ?_⟩
    obtain ⟨z, e2, h2⟩ := h1.opt
    obtain ⟨⟨c, fs⟩, e3, h3⟩ := h2.opt
    obtain ⟨i0, e4, h4⟩ := h3.opt
    have hz := R1.top hov e2
    obtain ⟨i, ad, dx, vs, rfl, j2, j3, rfl, j5, j6⟩ := ins_of R1.s hz e3
    dsimp only at e4
    split at e4
    · rename_i hc
      obtain ⟨w, e5, e6⟩ := Option.bind_eq_some_iff.mp e4
      have e6 := intR_some e6
      simp only [RV.val.injEq] at e6
      subst e6
      obtain ⟨v, l1, l2⟩ := j6.look e5
      cases l2
      have h8 : ∃ ci, S.cls[c]? = some ci ∧ x ∈ ci.flds := by
        have hcl : c ∈ cl := by simpa using hc.1
        have h9 := hcs c hcl
        split at h9
        · exact ⟨_, by assumption, by simpa using h9⟩
        · cases h9
      obtain ⟨ci, k1, k2⟩ := h8
      obtain ⟨d1, d2, _⟩ := C.C.md.cls c ci k1
      rw [C.C.eK]
      refine ⟨ad, T.ca c, dx, vs, _, rfl, j5, d1, d2 x k2, l1, B1, r1, P, m1, en1, R1, h4.bindE fun y en2 m2 B2 r2 H2 e7 R2 h5 u hu => ?_⟩
      obtain ⟨k0, f1, h6⟩ := h5.opt
      obtain ⟨⟨c2, fs2⟩, f2, h7⟩ := h6.opt
      have f1 := intR_some f1
      subst f1
      cases hu
      obtain ⟨i2, ad2, dx2, vs2, q1, q2, q3, q4, q5, q6⟩ := ins_of R2.s (v := .ref ad) (.inl (.ref (pre_get e7.pre j2))) f2
      cases q1
      cases q4
      dsimp only at h7
      split at h7
      · rename_i hc2
        obtain ⟨rfl, hl2⟩ := hc2
        refine ⟨_, _, rfl, rfl, dx2, vs2, q5, by rw [q6.len]; omega, ?_⟩
        exact h7.nx (R2.upd_sto q2 q3 rfl rfl (.ins (q6.putF (.int _) x)))
      · exact h7.elim
    · cases e4
  · cases h
theorem RepC.unlock {B P H : Hp} {r : List Addr} {d : Addr} {o : PySem.Obj} {dv : List (Key × V)} {v : V} {x : RV} (hB : B d = some (.frz o (.dK dv))) (hd : d ∈ r) (h : RepC T B r P H v x) : RepC T (dropB B d) r P (upd H d (.dK dv)) v x := by
  cases x with
  | val w => exact Rep.unlk hB h
  | bor j => exact h
  | new ws =>
    obtain ⟨p, rfl, ⟨xs, a1, a2⟩, a3, a4, a5⟩ := h
    have ne : p ≠ d := fun z => a5 (z ▸ hd)
    exact ⟨p, rfl, ⟨xs, by rw [upd_ne ne]; exact a1, a2.unlk hB⟩, by rw [dropB_ne ne]; exact a3, a4, a5⟩
theorem bs_lock {a : E} {s : Mp.S} (A : Bs T xc S cs gl k Nf N s) : Bs T xc S cs gl k Nf N (.lockS a s) := by
  refine Bs.mk1 (fun C h => ?_) (by simp [okSs])
  unfold okS at h
  refine (ps_lock (A.one C h)).imp fun D σ H z => ?_
  obtain ⟨B, r, P, m, en, R, g⟩ := z
  simp only [sv] at g
  obtain ⟨i, _, g⟩ := g.opt
  obtain ⟨kvs, ek, g⟩ := g.opt
  have hm := dicAt_some ek
  obtain ⟨d, q, hi, hd, ob⟩ := R.s.ob i _ hm
  cases ob with
  | dic l =>
    rename_i dv
    refine ⟨d, .dK dv, hd, trivial, fun od => ?_⟩
    obtain ⟨e1, R1⟩ := R.lock hi hm l od
    refine ⟨_, r, P, _, en, R1, ?_⟩
    have nb : B d = none := R.s.nb_of hi hm rfl
    have np := (R.s.fr d (List.mem_of_getElem? hi)).2
    revert g
    cases sv cs gl Nf s en (m.set i (.lk kvs)) with
    | bad => exact fun g => g
    | ex c en2 m2 => exact fun g => g.elim
    | ok o en2 m2 =>
      intro g σ2 B2 r2 H2 e2 R2
      have hB2 := e2.sub d _ upd_same
      have hi2 := pre_get e2.pre hi
      have hdr := List.mem_of_getElem? hi2
      have g : PostSt T xc _ P B r (Mp.opt (lkAt m2 i) fun kvs => .ok o en2 (m2.set i (.dic kvs))) D := g
      obtain ⟨kvs2, ek2, g⟩ := g.opt
      have hm2 := lkAt_some ek2
      have g := g σ2 (dropB B2 d) r2 _ ⟨fun b u hb => by
        have c : b ≠ d := fun z => by rw [z, nb] at hb; cases hb
        rw [dropB_ne c]
        exact e2.sub b _ (e1.sub b _ hb), e2.pre, fun b hb => by
        have c : b ≠ d := fun z => hb (z ▸ np)
        rw [dropB_ne c, e2.fix b hb, e1.fix b hb]⟩ (R2.unlock hB2 hi2 hm2)
      cases o with
      | nx => exact ⟨R2.s.bh d _ hB2, g⟩
      | rt a => exact fun v hv => ⟨R2.s.bh d _ hB2, g v (hv.unlock hB2 hdr)⟩
theorem bs_try {b s : Mp.S} {cl : List Nat} {j : Nat} (A : Bs T xc S cs gl k Nf N b) (B : Bs T xc S.hot cs gl k Nf N s) : Bs T xc S cs gl k Nf N (.tryx b cl j s) := by
  refine Bs.mk1 (fun {fb sc Wx X p} C h => ?_) (by simp [okSs])
  unfold okS at h
  split at h
  · simp only [Bool.and_eq_true, List.all_eq_true] at h
    obtain ⟨⟨⟨⟨⟨⟨⟨h1, h2⟩, h3⟩, h4⟩, h5⟩, h6⟩, h7⟩, h8⟩ := h
    rw [List.any_eq_true] at h5
    obtain ⟨xd, hm, e⟩ := h5
    have e := eq_of_beq e
    subst e
    obtain ⟨d, hd⟩ := List.mem_iff_getElem?.mp hm
    obtain ⟨_, gd, _⟩ := C.C.md.exs d xd hd
    obtain ⟨pd1, _, _⟩ := pl_of h4
    have hi := C.C.name h1
    refine (ps_try_keep (c := .ref (T.xa d)) (i := j) (tb := fun W => SV T xc cs gl Nf W b) (ts := SV T xc cs gl Nf (fun _ _ _ _ => False) s) C.stk C.frm C.exn (by rw [C.C.eN]; exact C.C.nd) hi (by show X.env.scope.names.lookup _ = _; rw [C.C.es]; exact lb_of h2) ⟨gl_of C.C.es h3, pd1, .inl gd⟩
      (fun W pn xe tk po => A.many (X := X.tr pn xe) ⟨⟨C.C.eK, C.C.eN, C.C.nd, C.C.es, C.C.ef, C.C.calm, C.C.room, C.C.un, fun σ => passAt tk σ, fun _ => ⟨tk, C.stk, C.frm⟩, C.C.md⟩, po, C.kf, C.stk, C.frm, C.exn, tk⟩ h7)
      (fun a pn => B.many (X := X.suite a pn) ⟨⟨C.C.eK, C.C.eN, C.C.nd, C.C.es, C.C.ef, (fun z => absurd z Bool.false_ne_true), (fun z => absurd z Bool.false_ne_true), C.C.un, (fun σ => passAt takes_none5 σ), (fun _ => ⟨takes_none5, C.stk, C.frm⟩), ⟨C.C.md.fns, C.C.md.cls, C.C.md.gls, C.C.md.blt, C.C.md.dcs, C.C.md.exs⟩⟩, PassesOwn.never, C.kf, C.stk, C.frm, C.exn, takes_none5⟩ h8)).imp fun D σ H z => ?_
    obtain ⟨B0, r, P, m, en, R, g⟩ := z
    simp only [sv] at g
    refine ⟨B0, r, P, m, en, R, ?_⟩
    revert g
    cases sv cs gl Nf b en m with
    | bad => exact fun g => g
    | ok o en2 m2 => exact fun g => g
    | ex c en2 m2 =>
      intro g σ2 B2 r2 H2 e2 R2
      dsimp only at g
      split at g
      · rename_i hc
        have hup := h6 c (by simpa using hc)
        unfold xupB at hup
        split at hup
        · rename_i xi hx
          obtain ⟨g1, _, _, _, _, _, _, _, g9⟩ := C.C.md.exs c xi hx
          have hx2 := (g9 d xd hd).2
          rw [hup] at hx2
          refine ⟨T.xa c, g1, rfl, by rw [C.C.eK, g1]; exact hx2, fun a na => ?_⟩
          obtain ⟨B3, e3, R3, hB3⟩ := R2.new_frz (o := .ext (ExcAt a (T.xa c))) na
          refine ⟨B3, r2, P, m2, _, R3.set_val (j := j) (.exc c hB3), ?_⟩
          have g := PostSt.mono (e2.trans e3) g
          revert g
          cases sv cs gl Nf s (en2.set j (some (.val (.exc c)))) m2 with
          | bad => exact fun g => g
          | ex c2 en3 m3 => exact fun g => g.elim
          | ok o en3 m3 =>
            intro g σ4 B4 r4 H4 e4 R4
            have g := g (σ4.set j none) B4 r4 H4 e4 (R4.set_none (j := j))
            cases o with
            | nx => exact g
            | rt a => exact g
        · cases hup
      · exact g.elim
  · cases h
theorem bs_tryn {b : Mp.S} (A : Bs T xc S cs gl k Nf N b) : Bs T xc S cs gl k Nf N (.tryn b) := by
  refine Bs.mk1 (fun {fb sc Wx X p} C h => ?_) (by simp [okSs])
  unfold okS at h
  split at h
  · have D : CsOk T xc S cs gl k N fb sc (fun _ _ _ _ => False) X.nox := ⟨⟨C.C.eK, C.C.eN, C.C.nd, C.C.es, C.C.ef, C.C.calm, C.C.room, C.C.un, (fun σ => passAt takes_none5 σ), (fun _ => ⟨takes_none5, C.stk, C.frm⟩), ⟨C.C.md.fns, C.C.md.cls, C.C.md.gls, C.C.md.blt, C.C.md.dcs, C.C.md.exs⟩⟩, PassesOwn.never, C.kf, C.stk, C.frm, C.exn, takes_none5⟩
    refine (ps_try_thru0 (A.many D h)).imp fun D σ H z => ?_
    obtain ⟨B, r, P, m, en, R, g⟩ := z
    simp only [sv] at g
    exact ⟨B, r, P, m, en, R, g.quiet⟩
  · cases h
theorem bs_seq {s t : Mp.S} (A : Bs T xc S cs gl k Nf N s) (B : Bs T xc S cs gl k Nf N t) : Bs T xc S cs gl k Nf N (.seq s t) := by
  refine ⟨fun _ h => by simp [okS] at h, fun C h => ?_⟩
  unfold okSs at h
  split at h
  · simp only [Bool.and_eq_true] at h
    refine (pss_cons (A.one C h.1) (B.many C h.2)).imp fun D σ H z => ?_
    obtain ⟨B, r, P, m, en, R, g⟩ := z
    simp only [sv] at g
    exact ⟨B, r, P, m, en, R, g.bindS (fun en3 m3 σ3 B3 r3 H3 e3 R3 h3 => ⟨B3, r3, P, m3, en3, R3, h3⟩) fun a en3 m3 σ3 B3 r3 H3 v e3 R3 h3 hv => h3 σ3 B3 r3 H3 Ext.refl R3 v hv⟩
  · cases h
theorem bs_all : ∀ (s : Mp.S) {S : Sta}, Bs T xc S cs gl k Nf N s
  | .skip, S => ⟨fun _ h => st_skip h, fun C h => by
      unfold okSs at h
      split at h
      · exact pss_nil.imp fun D σ H z => by
          obtain ⟨B, r, P, m, en, R, g⟩ := z
          simp only [sv] at g
          exact PostSt.nx g R
      · cases h⟩
  | .seq s t, S => bs_seq (bs_all s) (bs_all t)
  | .asg j e, S => Bs.mk1 (fun C h => st_asg C h) (by simp [okSs])
  | .unp tg e, S => Bs.mk1 (fun C h => st_unp C h) (by simp [okSs])
  | .par i j a b, S => Bs.mk1 (fun C h => st_par C h) (by simp [okSs])
  | .seti a i e, S => Bs.mk1 (fun C h => st_seti C h) (by simp [okSs])
  | .app a e, S => Bs.mk1 (fun C h => st_app C h) (by simp [okSs])
  | .extd a e, S => Bs.mk1 (fun C h => st_extd C h) (by simp [okSs])
  | .ex e, S => Bs.mk1 (fun C h => st_ex C h) (by simp [okSs])
  | .ret e, S => Bs.mk1 (fun C h => st_ret C h) (by simp [okSs])
  | .retn, S => Bs.mk1 (fun C h => st_retn h) (by simp [okSs])
  | .iff c s t, S => bs_iff (bs_all s) (bs_all t)
  | .for_ it src tg b, S => Bs.mk1 (fun C h => by
      unfold okS at h
      split at h
      · simp only [Bool.and_eq_true] at h
        obtain ⟨pi, hs⟩ := (bd_all src).src C.C h.1.1.2
        exact st_for C h.1.1.1 pi hs h.1.2 ((bs_all b).many C h.2)
      · cases h) (by simp [okSs])
  | .whl c b, S => Bs.mk1 (fun C h => by
      unfold okS at h
      split at h
      · simp only [Bool.and_eq_true, Bool.not_eq_true'] at h
        exact st_whl C (((bd_all c).val C.C h.1.2).pt h.1.1) ((bs_all b).many C h.2)
      · cases h) (by simp [okSs])
  | .raise c, S => Bs.mk1 (fun C h => st_raise C h) (by simp [okSs])
  | .never, S => ⟨fun _ _ => st_never, fun _ _ => sts_never⟩
  | .augn j op e, S => Bs.mk1 (fun C h => st_augn C h) (by simp [okSs])
  | .tryx b cl j s, S => bs_try (bs_all b) (bs_all s)
  | .lockS a s, S => bs_lock (bs_all s)
  | .tryn b, S => bs_tryn (bs_all b)
  | .unpi a i j e, S => Bs.mk1 (fun C h => st_unpi C h) (by simp [okSs])
  | .rsp j i y z w, S => Bs.mk1 (fun C h => by simp [okS] at h) (by simp [okSs])
  | .augf a x cl e, S => Bs.mk1 (fun C h => st_augf C h) (by simp [okSs])
  | .clr a, S => Bs.mk1 (fun C h => st_clr C h) (by simp [okSs])
  | .setf a x cl e, S => Bs.mk1 (fun C h => st_setf C h) (by simp [okSs])
  | .dput a kk e, S => Bs.mk1 (fun C h => st_dput C h) (by simp [okSs])
end
end Mp
set_option Elab.async false
set_option linter.all false
set_option maxRecDepth 100000
set_option maxHeartbeats 4000000
/-! name = text.replace(y, z, 1).split(w), the texts written down, as the first row of a def -/
namespace Mp
open PySem PySem.Spec PyProof.Rows L2
open Builtin Builtin.Str in
theorem gives_repl1 (x y z : Str) (t u v c : Tok) (h0 : (u == 0 || v == 0) = false) (huv : (u == v) = false) (hyz : (y == z) = false) (hl : tooLong (x.length + (occurrences x y 0 x.length 1).length * z.length) = false) :
    Gives («str.replace» ⟨[.str x t, .str y u, .str z v, .int 1 c], []⟩) (if (occurrences x y 0 x.length 1).isEmpty = true then .val (.str x t) else .str (glued z (partsBetween x (occurrences x y 0 x.length 1) y.length))) := by
  show Gives (if ((occurrences x y 0 x.length 1).isEmpty || (y.length == 0 && z.length == 0)) = true then (do rule "str.replace.nothing"; ret (.str x t)) else
          (do let same ← isSame (.str y u) (.str z v)
              if same = true then (do rule "str.replace.old-is-new"; ret (.str x t)) else
              if tooLong (x.length + (occurrences x y 0 x.length 1).length * z.length) = true then unsupported "str.replace:memory" else
              retStr (glued z (partsBetween x (occurrences x y 0 x.length 1) y.length)))) _
  have he : (y.length == 0 && z.length == 0) = false := by
    cases hq : (y.length == 0 && z.length == 0)
    · rfl
    · rw [Bool.and_eq_true] at hq
      have e : y = z := by
        obtain ⟨⟨l⟩⟩ := y
        obtain ⟨⟨l2⟩⟩ := z
        have a1 : l = [] := List.length_eq_zero_iff.mp (eq_of_beq hq.1)
        have a2 : l2 = [] := List.length_eq_zero_iff.mp (eq_of_beq hq.2)
        subst a1; subst a2; rfl
      subst e
      rw [beq_self_eq_true] at hyz
      cases hyz
  rw [he, Bool.or_false]
  cases hc : (occurrences x y 0 x.length 1).isEmpty
  · rw [isSame_str_other y z u v h0 huv hyz, hl]
    exact .of_eq rfl
  · exact .rule (.of_eq rfl)
section
variable {prog : Program} {w : World} {A : Around} {E : Value → Shared → Prop} {s : Shared} {x y z : Str} {t u v c : Tok} {Q : Value → Shared → Prop}
open Builtin Builtin.Str in
theorem sc_repl1 (hu : u ≠ 0) (hv : v ≠ 0) (huv : u ≠ v) (hyz : (y == z) = false) (hb : x.length + z.length ≤ sizeLine) (hz : (repl1 x y z).length ≤ sizeLine)
    (hq : ∀ t' k, Q (.str (repl1 x y z) t') { s with toks := k }) : wpAny (model prog w) A (call (.builtin "str.replace") [.str x t, .str y u, .str z v, .int 1 c]) Q E s := by
  have hl : tooLong (x.length + (occurrences x y 0 x.length 1).length * z.length) = false := by
    have h1 := StrLaws.occ_length_le x y 0 x.length 1
    have h2 : (occurrences x y 0 x.length 1).length * z.length ≤ 1 * z.length := Nat.mul_le_mul_right _ h1
    unfold tooLong
    exact decide_eq_false (by omega)
  refine call_gives F.slot_str_replace (typeIs_str _ _ _) F.entry_str_replace (F.args_str_replace_4 _ _ _ _)
    (gives_repl1 x y z t u v c (by simp [hu, hv]) (by simp [huv]) hyz hl) ?_
  have hq' := hq
  have hz' := hz
  unfold repl1 at hq' hz'
  cases hc : (occurrences x y 0 x.length 1).isEmpty
  · rw [hc] at hq' hz'
    simp only [Bool.false_eq_true, if_false] at hq' hz' ⊢
    exact ⟨hz', hq' _ _⟩
  · rw [hc] at hq'
    simp only [if_true] at hq' ⊢
    exact hq' t s.toks
end
section
variable {X : Cx}
noncomputable def tRsp (j i : Nat) (y z w : Str) : TS := fun D σ H => ∃ x, σ[i]? = some (some (.str x)) ∧ (y == z) = false ∧ (w.length == 0) = false ∧ x.length + z.length ≤ sizeLine ∧ (repl1 x y z).length + 2 ≤ sizeLine ∧
  ∀ p, H p = none → D.nx (σ.set j (some (.ref p))) (upd H p (.lst ((Txt.split (repl1 x y z) w).map V.str)))
theorem pst_rsp {j i : Nat} {x kx : Str} {y z w : Str} {o1 o2 o3 o4 : Nat} {py p1 p2 p3 p4 p5 ap1 cp1 ap2 cp2 pos : Pos} (hN : X.N.Nodup) (hj : X.N[j]? = some x) (hx : Loc X.env.scope x) (hf : X.fn x = true ∨ X.env.scope.names.lookup x = some .local)
    (hi : X.N[i]? = some kx) (hk : Vis X.env.scope kx) (hd : (kx == ("__debug__" : Str)) = false) (hcd : (kx == ("__classdict__" : Str)) = false) (l1 : (ap1.endLine == cp1.line) = true) (l2 : (ap2.endLine == cp2.line) = true) :
    PST X (.Assign [.Name x py] (.Call (.Attribute (.Call (.Attribute (.Name kx p1) "replace" ap1) [.Constant (.str y) o1 p2, .Constant (.str z) o2 p3, .Constant (.int 1) o3 p4] [] cp1) "split" ap2) [.Constant (.str w) o4 p5] [] cp2) pos) (tRsp j i y z w) := by
  intro pins s σ H D h0 I h
  obtain ⟨a, ha, hyz, hw, b1, b2, q⟩ := h
  refine wpAny_Assign_Name ?_ (by rfl)
  refine PySem.Call_method1 rfl rfl l2 ?_
  refine wpAny_Call_method_lateS rfl rfl l1 (raw_name hi hk I ha (fun v r => ?_) hd hcd)
  obtain ⟨tx, e⟩ := r
  subst e
  refine ⟨"str", _, F.plainAttrs_str, F.slot_str_replace, F.type_str_replace, typeIs_str _ _ _, (fun _ e => nomatch e), Calls.callWith_builtin rfl (Calls.evalArgs_plain ?_)⟩
  show wpAny _ _ (spliced ((false, eval (.Constant (.str y) o1 p2) X.env) :: (false, eval (.Constant (.str z) o2 p3) X.env) :: (false, eval (.Constant (.int 1) o3 p4) X.env) :: [])) _ _ s
  refine Calls.spliced_cons (Calls.Constant_str (Calls.spliced_cons (Calls.Constant_str (Calls.spliced_cons (wpAny_Constant_int (Calls.spliced_nil ?_))))))
  refine sc_repl1 (show s.toks ≠ 0 by omega) (show s.toks + 1 ≠ 0 by omega) (show s.toks ≠ s.toks + 1 by omega) hyz b1 (by omega) fun t' k => ?_
  refine ⟨"str", _, F.plainAttrs_str, F.slot_str_split, F.type_str_split, typeIs_str _ _ _, (fun _ e => nomatch e), Calls.callWith_builtin rfl (Calls.evalArgs_plain ?_)⟩
  refine Calls.spliced_cons (Calls.Constant_str (Calls.spliced_nil ?_))
  have I2 : Inv X pins σ H { s with toks := k + 1 } := I.tok (k + 1)
  refine thn (mt_split pins { s with toks := k + 1 } σ H (.str (repl1 a y z)) [.str w] _ [_] (fun v H1 => D.nx (σ.set j (some v)) H1) I2 ⟨t', rfl⟩ (.cons ⟨k, rfl⟩ .nil) ⟨_, _, rfl, rfl, hw, b2, fun p hp => q p hp⟩) fun v s1 ⟨u, H1, I1, r1, q1⟩ => ?_
  exact store_ok I1 hN hj hx r1 (fun s2 I3 => ⟨_, H1, I3, q1⟩) hf
end
end Mp
set_option Elab.async false
set_option linter.all false
set_option maxRecDepth 100000
set_option maxHeartbeats 4000000
namespace Mp
open PySem PySem.Spec PyProof.Rows L2
theorem room65 {k : Nat} {A : Around} (r : Room k A) : A.units + 65 < cLine := by have := r.un; omega
/-! ### defs, level by level -/
structure Fx where
  x : Str
  q : Str
  ps : List Str
  N : List Str
  st : Stmt
  fd : Fd
noncomputable def scopeB (N ps : List Str) (sc : Scope) : Bool :=
  (match sc.kind with
    | .function => true
    | _ => false) && !sc.isCoroutine && !sc.isGenerator && decide N.Nodup && (N.take ps.length == ps) &&
  (ps.all fun x => match sc.names.lookup x with
    | some .local => true
    | some .cell => true
    | _ => false) && sc.names.all fun y => match y.2 with
    | .free => false
    | _ => true
theorem scope_of {N ps : List Str} {sc : Scope} (h : scopeB N ps sc = true) : FnScope N ps sc := by
  unfold scopeB at h
  simp only [Bool.and_eq_true, Bool.not_eq_true', decide_eq_true_eq, List.all_eq_true] at h
  obtain ⟨⟨⟨⟨⟨⟨h1, h2⟩, h3⟩, h4⟩, h5⟩, h6⟩, h7⟩ := h
  refine ⟨?_, h2, h3, h4, eq_of_beq h5, fun x hx => ?_, fun y hy e => ?_⟩
  · cases q : sc.kind <;> rw [q] at h1 <;> first | rfl | cases h1
  · have z := h6 x hx
    split at z
    · exact .inl (by assumption)
    · exact .inr (by assumption)
    · cases z
  · have z := h7 y hy
    rw [e] at z; cases z
noncomputable def okRsp (N : List Str) (sc : Scope) (s : Mp.S) (p : Stmt) : Bool :=
  match s with
  | .rsp j i y z w => match p with
    | .Assign [.Name x _] (.Call (.Attribute (.Call (.Attribute (.Name kx _) n1 ap1) [.Constant (.str y2) _ _, .Constant (.str z2) _ _, .Constant (.int n) _ _] [] cp1) n2 ap2) [.Constant (.str w2) _ _] [] cp2) _ =>
      (N[j]? == some x) && locB (fun _ => true) sc x && (N[i]? == some kx) && visB sc kx && plB kx && (n1 == ("replace" : Str)) && (n2 == ("split" : Str)) && (y2 == y) && (z2 == z) && (w2 == w) && decide (n = 1) && (ap1.endLine == cp1.line) && (ap2.endLine == cp2.line)
    | _ => false
  | _ => false
noncomputable def noCellB (sc : Scope) : Bool := sc.names.all fun y => match y.2 with
  | .cell => false
  | _ => true
noncomputable def okRspS (S : Sta) (N : List Str) (sc : Scope) (n : Nat) (s : Mp.S) (ps : List Stmt) : Bool :=
  match s with
  | .seq a b => match ps with
    | p :: ps => decide (1 ≤ n) && noCellB sc && okRsp N sc a p && okSs S N (fun _ => true) sc b ps
    | [] => false
  | _ => false
noncomputable def okF (S : Sta) (f : Fx) : Bool :=
  decide (f.fd.np = f.ps.length) && decide (f.fd.nn = f.N.length) && scopeB f.N f.ps (defScope f.st) && (okSs S f.N (fun _ => true) (defScope f.st) f.fd.body (defBody f.st) || okRspS S f.N (defScope f.st) f.ps.length f.fd.body (defBody f.st))
noncomputable def staOf (fs : List Fx) (gn : List Str) (ci : List CI) (ex : List XI := []) (dc : List (Str × List (Str × Int)) := []) : Sta := ⟨fs.map fun f => (if f.x = f.q then some f.x else none, f.ps.length), gn, ci, ex, true, true, dc⟩
theorem start_rel {T : Tab} {B P H : Hp} {r : List Addr} {m : Sto} {N : List Str} {vs : List V} {ws : List W} (R : RelS T B r P m H) (l : RepL T B r vs ws) : Rel T B r P m (ws.map (fun w => some (.val w)) ++ List.replicate (N.length - ws.length) none) (L2.start N vs) H := by
  have len := l.len
  have cases_ : ∀ {j : Nat} {s : Sl}, (ws.map (fun w => some (Sl.val w)) ++ List.replicate (N.length - ws.length) none)[j]? = some (some s) → ∃ w, ws[j]? = some w ∧ s = .val w := fun {j s} h => by
    by_cases hj : j < ws.length
    · rw [List.getElem?_append_left (by rw [List.length_map]; exact hj), List.getElem?_map, List.getElem?_eq_getElem hj] at h
      simp only [Option.map_some, Option.some.injEq] at h
      exact ⟨_, List.getElem?_eq_getElem hj, h.symm⟩
    · rw [List.getElem?_append_right (by rw [List.length_map]; omega)] at h
      have := List.mem_of_getElem? h
      rw [List.mem_replicate] at this
      cases this.2
  refine ⟨R, ?_, fun j s h => ?_, fun j k ws1 zs p h => ?_⟩
  · unfold L2.start
    simp only [List.length_append, List.length_map, List.length_replicate, len]
  · obtain ⟨w, e, rfl⟩ := cases_ h
    obtain ⟨v, e2, h2⟩ := l.get e
    refine ⟨v, ?_, h2⟩
    unfold L2.start
    have hj : j < vs.length := (List.getElem?_eq_some_iff.mp e2).1
    rw [List.getElem?_append_left (by rw [List.length_map]; exact hj), List.getElem?_map, e2]
    rfl
  · obtain ⟨w, _, e⟩ := cases_ h
    cases e
structure FnsIn (T : Tab) (mg : Str → Option Value) (fs : List Fx) : Prop where
  at_ : ∀ i f, fs[i]? = some f → ∃ fd, L2.Fun T.K f.x f.q f.st (T.fa i) fd ∧ Binds T.K fd f.ps [] ∧ (f.x = f.q → mg f.x = some (.ref (T.fa i)))
noncomputable def ClsIn (T : Tab) (mg : Str → Option Value) (cis : List CI) : Prop := ∀ c ci, cis[c]? = some ci → Cls T.K (T.ca c) ∧ (∀ x ∈ ci.flds, NoAttr T.K (T.ca c) x) ∧ (∀ x f, (x, f) ∈ ci.mts → Meth T.K (T.ca c) x (T.fa f)) ∧ mg ci.nm = some (.ref (T.ca c)) ∧ Mk T.K (T.ca c) (T.fa ci.ini)
noncomputable def ExsIn (T : Tab) (xc : Nat → Value) (mg : Str → Option Value) (exs : List XI) : Prop := ∀ c xi, exs[c]? = some xi → xc c = .ref (T.xa c) ∧ mg xi.nm = some (.ref (T.xa c)) ∧ L2.ExcC T.K (T.xa c) ∧ PySem.W.excIn T.K (T.xa c) [.type "ValueError", .type "Exception", .type "BaseException", .type "object"] "ValueError.__new__" = true ∧ PySem.W.keepIn T.K (.ref (T.xa c)) = true ∧ PySem.W.typeIn T.K (.ref (T.xa c)) = some (.type "type") ∧
    PySem.W.kitOne T.K (.ref (T.xa c)) (.type "ValueError") = some (xi.up.contains "ValueError") ∧ PySem.W.kitOne T.K (.type "NoneType") (.ref (T.xa c)) = some false ∧ ∀ d xd, exs[d]? = some xd → PySem.W.kitOne T.K (.ref (T.xa c)) (.ref (T.xa d)) = some (xi.up.contains xd.nm) ∧ PySem.W.exmOne T.K (.ref (T.xa c)) (.ref (T.xa d)) = some (xi.up.contains xd.nm)
noncomputable def DcsIn (K : PySem.W.Frag) (w : World) (mg : Str → Option Value) (dc : List (Str × List (Str × Int))) : Prop := ∀ x kvs, (x, kvs) ∈ dc → ∃ a, mg x = some (.ref a) ∧ KDs K w a kvs
theorem Fun.okXT {P : Program} {w : World} {K : PySem.W.Frag} {mg : Str → Option Value} {base : Heap} {x qual : Str} {st : Stmt} {f : Addr} {fd : FuncData} {N ps : List Str} {k : Nat} {sp : Sp} (F : L2.Fun K x qual st f fd) (S : FnScope N ps (defScope st))
    (hnc : ∀ y ∈ (defScope st).names, y.2 ≠ .cell) (hps : 1 ≤ ps.length) (len : ∀ vs H Q E, sp vs H Q E → vs.length = ps.length)
    (hbody : ∀ (cdv : Value) (A : Around) (outer : List PySem.Env) (s : Shared) (H : Hp) (vs : List V) (Q : VK) (E : XK), Room k (A.deeper (envOfC qual (defScope st) s.heap.objs.size f cdv)) → sp vs H Q E →
      ∃ t, PSsT (cxOf (L2.CX P w) P w K mg base N qual (defScope st) f cdv A outer s H E) (defBody st) t ∧ t { nx := fun _ H' => Q .non H', rt := Q } (start N vs) H) : FnOk P w K mg base (L2.CX P w) (k + 1) f fd ps sp := by
  obtain ⟨oc, od, kV, doc, pm, an, cdv, ct, osl, rfl, lk, hcd⟩ := F.ex
  exact fn_ofT lk hcd S hnc hps len fun A outer s H vs Q E hr hsp => hbody cdv A outer s H vs Q E hr hsp
section
variable {T : Tab} {xc : Nat → Value} {mg : Str → Option Value} {fs : List Fx} {gn : List Str} {cis : List CI} {exs : List XI} {dc : List (Str × List (Str × Int))} {gl : List W} {Nf : Nat} {P : Program} {w : World} {base : Heap}
theorem fn_levels (F : FnsIn T mg fs) (ok : fs.all (okF (staOf fs gn cis exs dc)) = true) (G : ∀ (i : Nat) (x : Str), gn[i]? = some x → ∃ v u w, mg x = some u ∧ RelV v u ∧ gl[i]? = some w ∧ ∀ B r, Rep T B r v w) (Bl : ∀ x ∈ bltNames, mg x = none) (CI_ : ClsIn T mg cis) (XI_ : ExsIn T xc mg exs) (DI_ : DcsIn T.K w mg dc) :
    ∀ k i f, fs[i]? = some f → ∃ fd, L2.Fun T.K f.x f.q f.st (T.fa i) fd ∧ Binds T.K fd f.ps [] ∧ (f.x = f.q → mg f.x = some (.ref (T.fa i))) ∧ FnOk P w T.K mg base (L2.CX P w) (2 * k) (T.fa i) fd f.ps (spF T xc (callN (fs.map (·.fd)) gl Nf k) i f.ps.length)
  | 0, i, f, h => by
    obtain ⟨fd, h1, h2, h3⟩ := F.at_ i f h
    refine ⟨fd, h1, h2, h3, fun vs H Q E z => z.1, fun A outer s H args us vs Q E hr he hb hv z => ?_⟩
    obtain ⟨_, B, r, Pp, m, ws, R, l, c⟩ := z
    exact c.elim
  | k + 1, i, f, h => by
    obtain ⟨fd, h1, h2, h3⟩ := F.at_ i f h
    refine ⟨fd, h1, h2, h3, ?_⟩
    have hf := List.all_eq_true.mp ok f (List.mem_of_getElem? h)
    unfold okF at hf
    simp only [Bool.and_eq_true, decide_eq_true_eq] at hf
    obtain ⟨⟨⟨k1, k2⟩, k3⟩, k4⟩ := hf
    have SC := scope_of k3
    show FnOk P w T.K mg base (L2.CX P w) (2 * k + 1 + 1) (T.fa i) fd f.ps _
    have CC : ∀ (cdv : Value) (A : Around) (outer : List PySem.Env) (s : Shared) (H : Hp) (E : XK), Room (2 * k + 1) (A.deeper (envOfC f.q (defScope f.st) s.heap.objs.size (T.fa i) cdv)) →
        CsOk T xc (staOf fs gn cis exs dc) (callN (fs.map (·.fd)) gl Nf k) gl k f.N (fun _ => true) (defScope f.st) (fun cls d _ H => E cls d H) (cxOf (L2.CX P w) P w T.K mg base f.N f.q (defScope f.st) (T.fa i) cdv A outer s H E) := fun cdv A outer s H E hr =>
      ⟨⟨rfl, rfl, SC.nd, rfl, rfl, (fun _ => rfl), (fun _ => hr), room65 hr, (fun σ => passAt (takes_of rfl rfl rfl rfl) σ), (fun _ => ⟨takes_of rfl rfl rfl rfl, rfl, rfl⟩), ⟨fun i x n e => by
        unfold staOf at e
        dsimp only at e
        rw [List.getElem?_map] at e
        cases q : fs[i]? with
        | none => rw [q] at e; cases e
        | some g =>
          rw [q] at e
          simp only [Option.map_some, Option.some.injEq, Prod.mk.injEq] at e
          obtain ⟨rfl, rfl⟩ := e
          obtain ⟨fd2, j1, j2, j3, j4⟩ := fn_levels F ok G Bl CI_ XI_ DI_ k i g q
          have jm : ∀ y, (if g.x = g.q then some g.x else none) = some y → mg y = some (.ref (T.fa i)) := fun y hy => by
            split at hy
            · rename_i hxq
              cases hy
              exact j3 hxq
            · cases hy
          exact ⟨fd2, g.ps, jm, j1.kp, j2, j4⟩, CI_, G, Bl, DI_, XI_⟩⟩, passes_of rfl, SC.kind, rfl, rfl, rfl, takes_of rfl rfl rfl rfl⟩
    have e1 : ((fs.map (·.fd))[i]?) = some f.fd := by rw [List.getElem?_map, h]; rfl
    have OP : ∀ {Pp : Hp} {B : Hp} {r : List Addr} {m : Sto} {ws : List W} {Q : VK} {E : XK}, ws.length = f.ps.length → CPost T xc Pp B r (callN (fs.map (·.fd)) gl Nf (k + 1) i ws m) Q E →
        PostSt T xc (fun cls d _ H => E cls d H) Pp B r (sv (callN (fs.map (·.fd)) gl Nf k) gl Nf f.fd.body (ws.map (fun w => some (.val w)) ++ List.replicate (f.N.length - ws.length) none) m) { nx := fun _ H' => Q .non H', rt := Q } := fun {Pp B r m ws Q E} hl c => by
      have e2 : ws.length = f.fd.np := by rw [k1, hl]
      unfold callN at c
      rw [e1] at c
      dsimp only at c
      rw [if_pos e2] at c
      unfold runB at c
      rw [k2] at c
      generalize sv (callN (fs.map (·.fd)) gl Nf k) gl Nf f.fd.body (ws.map (fun w => some (Sl.val w)) ++ List.replicate (f.N.length - ws.length) none) m = x at c ⊢
      cases x with
      | bad => exact c
      | ex cc en m2 => exact fun σ B2 r2 H2 e R2 => c B2 r2 H2 e R2.s
      | ok o en m2 =>
        cases o with
        | nx => exact fun σ B2 r2 H2 e R2 => c .non B2 r2 H2 e R2.s .non
        | rt a => exact fun σ B2 r2 H2 e R2 v hv => c v B2 r2 H2 e R2.s hv
    rw [Bool.or_eq_true] at k4
    rcases k4 with k4 | k4
    · refine L2.Fun.okX h1 SC (fun vs H Q E z => z.1) fun cdv A outer s H vs Q E hr z => ?_
      obtain ⟨hl, B, r, Pp, m, ws, R, l, c⟩ := z
      exact ⟨_, (bs_all (Nf := Nf) f.fd.body).many (CC cdv A outer s H E hr) k4, B, r, Pp, m, _, start_rel (N := f.N) R l, OP (l.len.symm.trans hl) c⟩
    · cases hbd : f.fd.body with
      | seq a b =>
        cases hdb : defBody f.st with
        | nil => rw [hbd, hdb] at k4; cases k4
        | cons p ps =>
          rw [hbd, hdb] at k4
          simp only [okRspS, Bool.and_eq_true, decide_eq_true_eq] at k4
          obtain ⟨⟨⟨n1, n2⟩, n3⟩, n4⟩ := k4
          cases a with
          | rsp j ii y z w =>
            simp only [okRsp] at n3
            split at n3
            · · rename_i x py kx p1 r1 ap1 y2 o1 q1 z2 o2 q2 nn o3 q3 cp1 s2 ap2 w2 o4 q4 cp2 pos
                simp only [Bool.and_eq_true, decide_eq_true_eq] at n3
                obtain ⟨⟨⟨⟨⟨⟨⟨⟨⟨⟨⟨⟨m1, m2⟩, m3⟩, m4⟩, m5⟩, m6⟩, m7⟩, m8⟩, m9⟩, m10⟩, m11⟩, m12⟩, m13⟩ := n3
                have g6 := eq_of_beq m6
                have g7 := eq_of_beq m7
                have g8 := eq_of_beq m8
                have g9 := eq_of_beq m9
                have g10 := eq_of_beq m10
                subst g6 g7 g8 g9 g10 m11
                refine Fun.okXT h1 SC (fun y hy e => ?_) n1 (fun vs H Q E z => z.1) fun cdv A outer s H vs Q E hr z => ?_
                · have := List.all_eq_true.mp n2 y hy
                  rw [e] at this; cases this
                obtain ⟨hl, B, r, Pp, m, ws, R, l, c⟩ := z
                have C := CC cdv A outer s H E hr
                have c2 := OP (l.len.symm.trans hl) c
                have R2 := start_rel (N := f.N) R l
                obtain ⟨hloc, hfl⟩ := loc_of m2
                rw [hdb]
                refine ⟨_, psst_cons (pst_rsp (j := j) (i := ii) C.C.nd (eq_of_beq m1) hloc hfl (eq_of_beq m3) (vis_of m4) (pl_of m5).1 (pl_of m5).2.1 m12 m13) (PSsT.of ((bs_all (Nf := Nf) b).many C n4)), ?_⟩
                rw [hbd] at c2
                generalize (ws.map (fun w => some (Sl.val w)) ++ List.replicate (f.N.length - ws.length) none) = en at c2 R2
                simp only [sv] at c2
                cases hen : enGet en ii with
                | none => rw [hen] at c2; exact c2.elim
                | some sl =>
                  rw [hen] at c2
                  cases sl with
                  | own _ => exact c2.elim
                  | val wv =>
                    cases wv <;> first | exact c2.elim | skip
                    rename_i tx
                    dsimp only at c2
                    by_cases hc : (w2.length == 0) = false ∧ (y2 == z2) = false ∧ tx.length + 2 * z2.length + 4 ≤ LIM ∧ (repl1 tx y2 z2).length + 2 ≤ LIM
                    · rw [if_pos hc] at c2
                      obtain ⟨c1, c3, c4, c5⟩ := hc
                      obtain ⟨v, e3, e4⟩ := R2.e.sl _ _ (enGet_some hen)
                      have e5 : v = .str tx := by
                        cases e4; rfl
                      subst e5
                      refine ⟨tx, e3, c3, c1, Nat.le_trans (by omega) (lim_line c4), lim_line c5, fun p hp => ?_⟩
                      dsimp only [Mp.R.bind] at c2
                      obtain ⟨B2, e6, R6⟩ := slOf_rel (j := j) (R2.grow (Sub.new hp)) (R2.new_own hp (rep_strs (Txt.split (repl1 tx y2 z2) w2))) (rfl : slOf (.new _) en = some (.own _, en))
                      exact ⟨B2, r, Pp, m, _, R6, PostSt.mono e6 c2⟩
                    · rw [if_neg hc] at c2; exact c2.elim
            · cases n3
          | _ => simp [okRsp] at n3
      | _ => rw [hbd] at k4; simp [okRspS] at k4
noncomputable def spTrue (K : PySem.W.Frag) (most : Nat) : Sp := fun vs H Q _ => ∃ (a : Addr) (ns : List Int), vs = [.ref a] ∧ SqL K H a (ns.map V.int) ∧ ns.length ≤ most ∧ ∀ H', Q (.bl true) H'
theorem law_level {most : Nat} (F : FnsIn T mg fs) (ok : fs.all (okF (staOf fs gn cis exs dc)) = true) (G : ∀ (i : Nat) (x : Str), gn[i]? = some x → ∃ v u w, mg x = some u ∧ RelV v u ∧ gl[i]? = some w ∧ ∀ B r, Rep T B r v w) (Bl : ∀ x ∈ bltNames, mg x = none) (CI_ : ClsIn T mg cis) (XI_ : ExsIn T (fun c => .ref (T.xa c)) mg exs) (DI_ : DcsIn T.K w mg dc)
    {k i : Nat} {f : Fx} (h : fs[i]? = some f) (hp : f.ps.length = 1) (law : ∀ ns : List Int, ns.length ≤ most → ∃ m, callN (fs.map (·.fd)) gl Nf k i [.scr (ns.map W.int)] [] = .ok (.val (.bl true)) m) :
    ∃ fd, L2.Fun T.K f.x f.q f.st (T.fa i) fd ∧ FnOk P w T.K mg base (L2.CX P w) (2 * k) (T.fa i) fd f.ps (spTrue T.K most) := by
  obtain ⟨fd, h1, h2, h3, h4⟩ := fn_levels (xc := fun c => .ref (T.xa c)) (P := P) (w := w) (base := base) (Nf := Nf) F ok G Bl CI_ XI_ DI_ k i f h
  refine ⟨fd, h1, h4.imp fun vs H Q E z => ?_⟩
  obtain ⟨a, ns, rfl, hS, hm, q⟩ := z
  obtain ⟨m, e⟩ := law ns hm
  have li : ∀ ns : List Int, RepL T H [] (ns.map V.int) (ns.map W.int) := fun ns => by
    induction ns with
    | nil => exact .nil
    | cons n ns ih => exact .cons (.int n) ih
  refine ⟨hp.symm, H, [], fun _ => none, [], [.scr (ns.map W.int)], ⟨Sub.refl H, fun _ _ z => (nomatch z), .nil, rfl, fun _ z => (nomatch z), fun i b z => by simp at z, fun i kvs a z => by simp at z⟩, .cons (.scr hS (li ns)) .nil, ?_⟩
  · show CPost T _ _ H [] (callN (fs.map (·.fd)) gl Nf k i [.scr (ns.map W.int)] []) Q E
    rw [e]
    intro v B2 r2 H2 _ _ hv
    cases hv
    exact q H2
end
end Mp
set_option Elab.async false
set_option linter.all false
set_option maxRecDepth 100000
set_option maxHeartbeats 4000000
namespace Mp
open PySem PySem.Spec PyProof.Rows L2
/-! ### from what the top has written to a law -/
structure FF (K : PySem.W.Frag) (f : Fx) (a : Addr) : Prop where
  ns : f.x = f.q → PySem.W.nsIn K mainGlobals f.x = some (some (.ref a))
  fn : ∃ fd, L2.Fun K f.x f.q f.st a fd ∧ ∀ us : List Value, us.length = f.ps.length → bindArgs fd ⟨us, []⟩ = pure (f.ps.zip us)
theorem ff_mk {K : PySem.W.Frag} {x : Str} {ps N : List Str} {st : Stmt} {fd : Fd} {a : Addr} {oc : Value} {od an : Option Addr} {osl : Array (Option Value)} {kV doc pm cdv ct : Value}
    (hb : ∀ (kV doc pm : Value) (an : Option Addr) (cdv ct : Value) (us : List Value), us.length = ps.length → bindArgs (PySem.W.fnOf x x (defArgs st) (defBody st) (defScope st) .none kV doc pm an cdv ct) ⟨us, []⟩ = pure (ps.zip us))
    (h1 : PySem.W.nsIn K mainGlobals x = some (some (.ref a))) (h2 : K.lookup a = some ⟨oc, od, .func (PySem.W.fnOf x x (defArgs st) (defBody st) (defScope st) .none kV doc pm an cdv ct), osl⟩)
    (h3 : PySem.W.codeIn K cdv x = true) (h4 : PySem.W.keepIn K (.ref a) = true) : FF K ⟨x, x, ps, N, st, fd⟩ a :=
  ⟨fun _ => h1, _, fun_mk h2 h3 h4, hb kV doc pm an cdv ct⟩
inductive MTs (K : PySem.W.Frag) (C : Addr) (as : List Addr) : List (Str × Nat) → Prop
  | nil : MTs K C as []
  | cons {x : Str} {f : Nat} {b : Addr} {r : List (Str × Nat)} : as[f]? = some b → PySem.W.findIn K (.ref C) x = some (some (.ref b)) → PySem.W.isFn K (.ref b) = true → PySem.W.keepIn K (.ref b) = true → MTs K C as r → MTs K C as ((x, f) :: r)
theorem MTs.at_ {K : PySem.W.Frag} {C : Addr} {as : List Addr} : ∀ {l : List (Str × Nat)}, MTs K C as l → ∀ x f, (x, f) ∈ l → Meth K C x (as.getD f 0)
  | [], .nil, x, f, h => by cases h
  | (x0, f0) :: _, .cons (b := b) e h1 h2 h3 l, x, f, h => by
    rcases List.mem_cons.mp h with q | h
    · obtain ⟨rfl, rfl⟩ := Prod.mk.inj q
      have : as.getD f 0 = b := by rw [List.getD_eq_getElem?_getD, e]; rfl
      rw [this]
      exact ⟨h1, h2, h3⟩
    · exact l.at_ x f h
inductive NAs (K : PySem.W.Frag) (C : Addr) : List Str → Prop
  | nil : NAs K C []
  | cons {x : Str} {r : List Str} : PySem.W.findIn K (.ref C) x = some none → NAs K C r → NAs K C (x :: r)
theorem NAs.at_ {K : PySem.W.Frag} {C : Addr} : ∀ {l : List Str}, NAs K C l → ∀ x ∈ l, NoAttr K C x
  | _, .nil, x, h => by cases h
  | _, .cons h1 l, x, h => by
    rcases List.mem_cons.mp h with rfl | h
    · exact h1
    · exact l.at_ x h
structure CC (K : PySem.W.Frag) (as : List Addr) (ci : CI) (a : Addr) : Prop where
  ns : PySem.W.nsIn K mainGlobals ci.nm = some (some (.ref a))
  cl : Cls K a
  fl : NAs K a ci.flds
  mt : MTs K a as ci.mts
  mkk : Mk K a (as.getD ci.ini 0)
inductive CCs (K : PySem.W.Frag) (as : List Addr) : List CI → List Addr → Prop
  | nil : CCs K as [] []
  | cons {c : CI} {a : Addr} {cs : List CI} {cas : List Addr} : CC K as c a → CCs K as cs cas → CCs K as (c :: cs) (a :: cas)
theorem CCs.at_ {K : PySem.W.Frag} {as : List Addr} : ∀ {cs : List CI} {cas : List Addr}, CCs K as cs cas → ∀ (i : Nat) (c : CI), cs[i]? = some c → ∃ a, cas[i]? = some a ∧ CC K as c a
  | _, _, .nil, i, f, h => by simp at h
  | _, _, .cons h0 l, 0, f, h => by
    simp only [List.getElem?_cons_zero, Option.some.injEq] at h
    subst h
    exact ⟨_, rfl, h0⟩
  | _, _, .cons h0 l, i + 1, f, h => by
    simp only [List.getElem?_cons_succ] at h
    obtain ⟨a, h1, h2⟩ := l.at_ i f h
    exact ⟨a, by simpa using h1, h2⟩
inductive FFs (K : PySem.W.Frag) : List Fx → List Addr → Prop
  | nil : FFs K [] []
  | cons {f : Fx} {a : Addr} {fs : List Fx} {as : List Addr} : FF K f a → FFs K fs as → FFs K (f :: fs) (a :: as)
theorem FFs.at_ {K : PySem.W.Frag} : ∀ {fs : List Fx} {as : List Addr}, FFs K fs as → ∀ (i : Nat) (f : Fx), fs[i]? = some f → ∃ a, as[i]? = some a ∧ FF K f a
  | _, _, .nil, i, f, h => by simp at h
  | _, _, .cons h0 l, 0, f, h => by
    simp only [List.getElem?_cons_zero, Option.some.injEq] at h
    subst h
    exact ⟨_, rfl, h0⟩
  | _, _, .cons h0 l, i + 1, f, h => by
    simp only [List.getElem?_cons_succ] at h
    obtain ⟨a, h1, h2⟩ := l.at_ i f h
    exact ⟨a, by simpa using h1, h2⟩
inductive XRow (K : PySem.W.Frag) (xi : XI) (a : Addr) : List XI → List Addr → Prop
  | nil : XRow K xi a [] []
  | cons {xd : XI} {b : Addr} {r : List XI} {as : List Addr} : PySem.W.subIn K (.ref a) (.ref b) = some (xi.up.contains xd.nm) → XRow K xi a r as → XRow K xi a (xd :: r) (b :: as)
theorem XRow.at_ {K : PySem.W.Frag} {xi : XI} {a : Addr} : ∀ {r : List XI} {as : List Addr}, XRow K xi a r as → ∀ (i : Nat) (xd : XI), r[i]? = some xd → ∃ b, as[i]? = some b ∧ PySem.W.subIn K (.ref a) (.ref b) = some (xi.up.contains xd.nm)
  | _, _, .nil, i, xd, h => by simp at h
  | _, _, .cons h0 l, 0, xd, h => by
    simp only [List.getElem?_cons_zero, Option.some.injEq] at h
    subst h
    exact ⟨_, rfl, h0⟩
  | _, _, .cons h0 l, i + 1, xd, h => by
    simp only [List.getElem?_cons_succ] at h
    obtain ⟨b, h1, h2⟩ := l.at_ i xd h
    exact ⟨b, by simpa using h1, h2⟩
structure XX (K : PySem.W.Frag) (xi : XI) (a : Addr) : Prop where
  ns : PySem.W.nsIn K mainGlobals xi.nm = some (some (.ref a))
  ec : L2.ExcC K a
  ex : PySem.W.excIn K a [.type "ValueError", .type "Exception", .type "BaseException", .type "object"] "ValueError.__new__" = true
  kp : PySem.W.keepIn K (.ref a) = true
  ty : PySem.W.typeIn K (.ref a) = some (.type "type")
  ve : PySem.W.subIn K (.ref a) (.type "ValueError") = some (xi.up.contains "ValueError")
theorem xx_mk {K : PySem.W.Frag} {nm : Str} {up : List Str} {a : Addr} (ns : PySem.W.nsIn K mainGlobals nm = some (some (.ref a)))
    (h1 : PySem.W.findIn K (.ref a) "__getattribute__" = some (some (.builtin "BaseException.__getattribute__"))) (h2 : PySem.W.findIn K (.ref a) "__getattr__" = some none) (h3 : PySem.W.subIn K (.ref a) (.type "BaseException") = some true) (h4 : PySem.W.hasDictIn K a = true)
    (h5 : PySem.W.findIn K (.ref a) "__class__" = some (some (.builtin "object.__class__"))) (h6 : PySem.W.specialIn K (.builtin "object.__class__") "__get__" = some (some (.builtin "getset_descriptor.__get__"))) (h7 : PySem.W.takesIn K (.builtin "object.__class__") = some true) (h8 : PySem.W.mroIn K a (.type "object") = some true)
    (ex : PySem.W.excIn K a [.type "ValueError", .type "Exception", .type "BaseException", .type "object"] "ValueError.__new__" = true) (kp : PySem.W.keepIn K (.ref a) = true) (ty : PySem.W.typeIn K (.ref a) = some (.type "type")) (ve : PySem.W.subIn K (.ref a) (.type "ValueError") = some (up.contains "ValueError")) : XX K ⟨nm, up⟩ a :=
  ⟨ns, ⟨h1, h2, h3, h4, h5, h6, h7, h8⟩, ex, kp, ty, ve⟩
inductive XXs (K : PySem.W.Frag) (all : List XI) (alls : List Addr) : List XI → List Addr → Prop
  | nil : XXs K all alls [] []
  | cons {xi : XI} {a : Addr} {r : List XI} {as : List Addr} : XX K xi a → XRow K xi a all alls → XXs K all alls r as → XXs K all alls (xi :: r) (a :: as)
theorem XXs.at_ {K : PySem.W.Frag} {all : List XI} {alls : List Addr} : ∀ {r : List XI} {as : List Addr}, XXs K all alls r as → ∀ (i : Nat) (xi : XI), r[i]? = some xi → ∃ a, as[i]? = some a ∧ XX K xi a ∧ XRow K xi a all alls
  | _, _, .nil, i, xd, h => by simp at h
  | _, _, .cons h0 h1 l, 0, xd, h => by
    simp only [List.getElem?_cons_zero, Option.some.injEq] at h
    subst h
    exact ⟨_, rfl, h0, h1⟩
  | _, _, .cons h0 h1 l, i + 1, xd, h => by
    simp only [List.getElem?_cons_succ] at h
    obtain ⟨b, h1, h2⟩ := l.at_ i xd h
    exact ⟨b, by simpa using h1, h2⟩
theorem kitCls_ref {K : PySem.W.Frag} {t : Value} {C : Addr} {b : Bool} (hd : PySem.W.hasDictIn K C = true) (ht : PySem.W.typeIn K (.ref C) = some (.type "type")) (h : PySem.W.subIn K t (.ref C) = some b) : PySem.W.kitCls K t (.ref C) = some b := by
  obtain ⟨cd, hc, _⟩ := PySem.W.any_some hd
  have e : ((PySem.W.clsIn K C).isSome && PySem.W.typeIn K (.ref C) == some (.type "type")) = true := by rw [hc, ht] <;> rfl
  show (if ((PySem.W.clsIn K C).isSome && PySem.W.typeIn K (.ref C) == some (.type "type")) = true then PySem.W.subIn K t (.ref C) else none) = some b
  rw [if_pos e]; exact h
inductive Bare (K : PySem.W.Frag) : List Str → Prop
  | nil : Bare K []
  | cons {x : Str} {xs : List Str} : PySem.W.nsIn K mainGlobals x = some none → Bare K xs → Bare K (x :: xs)
theorem Bare.of {K : PySem.W.Frag} {h : Heap} {mg : Str → Option Value} (X : K.In h) (G : h.Ns mainGlobals mg) : ∀ {xs : List Str}, Bare K xs → ∀ x ∈ xs, mg x = none
  | _, .nil, x, hx => by cases hx
  | _, .cons h0 l, x, hx => by
    rcases List.mem_cons.mp hx with rfl | hx
    · exact PySem.W.mg_none_of X G h0
    · exact l.of X G x hx
structure GC (K : PySem.W.Frag) (x : Str) (w : W) : Prop where
  ex : ∃ v u, PySem.W.nsIn K mainGlobals x = some (some u) ∧ RelV v u ∧ ∀ (T : Tab) (B : Hp) (r : List Addr), T.K = K → Rep T B r v w
theorem gc_str {K : PySem.W.Frag} {x z : Str} {t : Nat} (h : PySem.W.nsIn K mainGlobals x = some (some (.str z t))) : GC K x (.str z) :=
  ⟨.str z, .str z t, h, ⟨t, rfl⟩, fun _ _ _ _ => .str z⟩
inductive GCs (K : PySem.W.Frag) : List Str → List W → Prop
  | nil : GCs K [] []
  | cons {x : Str} {w : W} {xs : List Str} {ws : List W} : GC K x w → GCs K xs ws → GCs K (x :: xs) (w :: ws)
theorem GCs.at_ {K : PySem.W.Frag} : ∀ {xs : List Str} {ws : List W}, GCs K xs ws → ∀ (i : Nat) x, xs[i]? = some x → ∃ w, ws[i]? = some w ∧ GC K x w
  | _, _, .nil, i, f, h => by simp at h
  | _, _, .cons h0 l, 0, f, h => by
    simp only [List.getElem?_cons_zero, Option.some.injEq] at h
    subst h
    exact ⟨_, rfl, h0⟩
  | _, _, .cons h0 l, i + 1, f, h => by
    simp only [List.getElem?_cons_succ] at h
    obtain ⟨a, h1, h2⟩ := l.at_ i f h
    exact ⟨a, by simpa using h1, h2⟩
structure GD (K : PySem.W.Frag) (w : World) (x : Str) (kvs : List (Str × Int)) : Prop where
  ex : ∃ a, PySem.W.nsIn K mainGlobals x = some (some (.ref a)) ∧ KDs K w a kvs
inductive GDs (K : PySem.W.Frag) (w : World) : List (Str × List (Str × Int)) → Prop
  | nil : GDs K w []
  | cons {x : Str} {kvs : List (Str × Int)} {r : List (Str × List (Str × Int))} : GD K w x kvs → GDs K w r → GDs K w ((x, kvs) :: r)
theorem GDs.at_ {K : PySem.W.Frag} {w : World} : ∀ {l : List (Str × List (Str × Int))}, GDs K w l → ∀ x kvs, (x, kvs) ∈ l → GD K w x kvs
  | _, .nil, x, kvs, h => by cases h
  | _, .cons h0 l, x, kvs, h => by
    rcases List.mem_cons.mp h with e | h
    · cases e; exact h0
    · exact l.at_ x kvs h
theorem law_mkD {P : Program} {w : World} {K : PySem.W.Frag} {h : Heap} {mg : Str → Option Value} {fa : Addr} {fs : List Fx} {as cas xas : List Addr} {cis : List CI} {exs : List XI} {dc : List (Str × List (Str × Int))} {gn : List Str} {gl : List W} {k i Nf most : Nat} {f : Fx} {x : Str}
    (X : K.In h) (G : h.Ns mainGlobals mg) (hfa : mg f.x = some (.ref fa)) (ok : fs.all (okF (staOf fs gn cis exs dc)) = true) (hf : fs[i]? = some f) (hq : f.x = f.q) (hp : f.ps = [x])
    (law : ∀ ns : List Int, ns.length ≤ most → ∃ m, callN (fs.map (·.fd)) gl Nf k i [.scr (ns.map W.int)] [] = .ok (.val (.bl true)) m)
    (F : FFs K fs as) (C : GCs K gn gl) (Bl : Bare K bltNames) (CL : CCs K as cis cas) (XL : XXs K exs xas exs xas) (XS : exs.all (fun xi => xi.up.contains xi.nm) = true) (D : GDs K w dc) :
    ∃ fd : FuncData, (∀ (s : Shared) (u : Value), BindsTo s fd ⟨[u], []⟩ [(x, u)]) ∧ ∀ base : Heap, K.In base → base.Ns mainGlobals mg → FnOk P w K mg base (L2.CX P w) (2 * k) fa fd [x] (spTrue K most) := by
  obtain ⟨a, e1, e2⟩ := F.at_ i f hf
  have e3 := PySem.W.mg_of X G (e2.ns hq)
  rw [hfa] at e3
  cases e3
  have FI : FnsIn ⟨K, fun i => cas.getD i 0, fun i => as.getD i 0, fun i => xas.getD i 0⟩ mg fs := ⟨fun j g hg => by
    obtain ⟨b, q1, q2⟩ := F.at_ j g hg
    obtain ⟨fd, q3, q4⟩ := q2.fn
    have e : as.getD j 0 = b := by rw [List.getD_eq_getElem?_getD, q1]; rfl
    refine ⟨fd, ?_, .all q4, ?_⟩
    · show L2.Fun K g.x g.q g.st (as.getD j 0) fd
      rw [e]; exact q3
    · intro hxq
      show mg g.x = some (.ref (as.getD j 0))
      rw [e]; exact PySem.W.mg_of X G (q2.ns hxq)⟩
  have XN : ExsIn ⟨K, fun i => cas.getD i 0, fun i => as.getD i 0, fun i => xas.getD i 0⟩ (fun c => .ref (xas.getD c 0)) mg exs := fun c xi hc => by
    obtain ⟨b, q1, q2, q3⟩ := XL.at_ c xi hc
    have e : xas.getD c 0 = b := by rw [List.getD_eq_getElem?_getD, q1]; rfl
    have hself := List.all_eq_true.mp XS xi (List.mem_of_getElem? hc)
    refine ⟨rfl, ?_⟩
    show mg xi.nm = some (.ref (xas.getD c 0)) ∧ L2.ExcC K (xas.getD c 0) ∧ PySem.W.excIn K (xas.getD c 0) _ _ = true ∧ PySem.W.keepIn K (.ref (xas.getD c 0)) = true ∧ PySem.W.typeIn K (.ref (xas.getD c 0)) = _ ∧ PySem.W.kitOne K (.ref (xas.getD c 0)) _ = _ ∧ PySem.W.kitOne K _ (.ref (xas.getD c 0)) = _ ∧ ∀ d xd, exs[d]? = some xd → PySem.W.kitOne K (.ref (xas.getD c 0)) (.ref (xas.getD d 0)) = some (xi.up.contains xd.nm) ∧ PySem.W.exmOne K (.ref (xas.getD c 0)) (.ref (xas.getD d 0)) = some (xi.up.contains xd.nm)
    rw [e]
    refine ⟨PySem.W.mg_of X G q2.ns, q2.ec, q2.ex, q2.kp, q2.ty, ?_, ?_, fun d xd hd => ?_⟩
    · have h1 : ((Value.ref b) == (Value.type "ValueError")) = false := rfl
      unfold PySem.W.kitOne
      rw [h1, if_neg Bool.false_ne_true]
      show (if PySem.W.kitMeta "ValueError" = true then _ else none) = _
      rw [if_pos (by decide +kernel)]; exact q2.ve
    · have h1 : ((Value.type "NoneType") == (Value.ref b)) = false := rfl
      unfold PySem.W.kitOne
      rw [h1, if_neg Bool.false_ne_true]
      exact kitCls_ref q2.ec.hd q2.ty rfl
    · obtain ⟨b2, p1, p2, p3⟩ := XL.at_ d xd hd
      obtain ⟨b3, p4, p5⟩ := q3.at_ d xd hd
      rw [p1] at p4; cases p4
      have e2 : xas.getD d 0 = b2 := by rw [List.getD_eq_getElem?_getD, p1]; rfl
      rw [e2]
      refine ⟨?_, PySem.W.exm_ref p2.ec.hs p2.ec.hd p2.ty p5⟩
      unfold PySem.W.kitOne
      by_cases cc : (Value.ref b == Value.ref b2) = true
      · rw [if_pos cc]
        have e3 : b = b2 := Value.ref.inj (beq_iff_eq.mp cc)
        subst e3
        obtain ⟨b4, s1, s2⟩ := q3.at_ c xi hc
        rw [q1] at s1; cases s1
        rw [hself] at s2
        exact s2.symm.trans p5
      · rw [if_neg cc]
        exact kitCls_ref p2.ec.hd p2.ty p5
  have CN : ClsIn ⟨K, fun i => cas.getD i 0, fun i => as.getD i 0, fun i => xas.getD i 0⟩ mg cis := fun c ci hc => by
    obtain ⟨b, q1, q2⟩ := CL.at_ c ci hc
    have e : cas.getD c 0 = b := by rw [List.getD_eq_getElem?_getD, q1]; rfl
    show Cls K (cas.getD c 0) ∧ (∀ x ∈ ci.flds, NoAttr K (cas.getD c 0) x) ∧ (∀ x f, (x, f) ∈ ci.mts → Meth K (cas.getD c 0) x (as.getD f 0)) ∧ mg ci.nm = some (.ref (cas.getD c 0)) ∧ Mk K (cas.getD c 0) (as.getD ci.ini 0)
    rw [e]
    exact ⟨q2.cl, q2.fl.at_, q2.mt.at_, PySem.W.mg_of X G q2.ns, q2.mkk⟩
  obtain ⟨fd, q3, q4⟩ := e2.fn
  have ea : as.getD i 0 = fa := by rw [List.getD_eq_getElem?_getD, e1]; rfl
  refine ⟨fd, fun s u => .of_eq ?_, fun base _ _ => ?_⟩
  · have := q4 [u] (by rw [hp]; rfl)
    rw [hp] at this; exact this
  · obtain ⟨fd2, q5, q6⟩ := law_level (P := P) (w := w) (base := base) (Nf := Nf) (k := k) (most := most) FI ok (fun j y hy => by
      obtain ⟨w, z1, z2⟩ := C.at_ j y hy
      obtain ⟨v, u, z3, z4, z5⟩ := z2.ex
      exact ⟨v, u, w, PySem.W.mg_of X G z3, z4, z1, fun B r => z5 _ B r rfl⟩) (Bl.of X G) CN XN (fun x kvs hx => by
      obtain ⟨a, z1, z2⟩ := (D.at_ x kvs hx).ex
      exact ⟨a, PySem.W.mg_of X G z1, z2⟩) hf (by rw [hp]; rfl) law
    have q5 : L2.Fun K f.x f.q f.st (as.getD i 0) fd2 := q5
    have q6 : FnOk P w K mg base (L2.CX P w) (2 * k) (as.getD i 0) fd2 f.ps (spTrue K most) := q6
    rw [ea] at q5 q6
    have e : fd = fd2 := by
      obtain ⟨oc, od, kV, doc, pm, an, cdv, ct, osl, r1, lk, hcd⟩ := q3.ex
      obtain ⟨oc', od', kV', doc', pm', an', cdv', ct', osl', r2, lk', hcd'⟩ := q5.ex
      rw [lk] at lk'
      injection lk' with lk'
      injection lk' with _ _ lk' _
      injection lk' with lk'
    rw [e, ← hp]; exact q6
theorem law_mk {P : Program} {w : World} {K : PySem.W.Frag} {h : Heap} {mg : Str → Option Value} {fa : Addr} {fs : List Fx} {as cas xas : List Addr} {cis : List CI} {exs : List XI} {gn : List Str} {gl : List W} {k i Nf most : Nat} {f : Fx} {x : Str}
    (X : K.In h) (G : h.Ns mainGlobals mg) (hfa : mg f.x = some (.ref fa)) (ok : fs.all (okF (staOf fs gn cis exs)) = true) (hf : fs[i]? = some f) (hq : f.x = f.q) (hp : f.ps = [x])
    (law : ∀ ns : List Int, ns.length ≤ most → ∃ m, callN (fs.map (·.fd)) gl Nf k i [.scr (ns.map W.int)] [] = .ok (.val (.bl true)) m)
    (F : FFs K fs as) (C : GCs K gn gl) (Bl : Bare K bltNames) (CL : CCs K as cis cas) (XL : XXs K exs xas exs xas) (XS : exs.all (fun xi => xi.up.contains xi.nm) = true) :
    ∃ fd : FuncData, (∀ (s : Shared) (u : Value), BindsTo s fd ⟨[u], []⟩ [(x, u)]) ∧ ∀ base : Heap, K.In base → base.Ns mainGlobals mg → FnOk P w K mg base (L2.CX P w) (2 * k) fa fd [x] (spTrue K most) :=
  law_mkD X G hfa ok hf hq hp law F C Bl CL XL XS .nil
end Mp
set_option Elab.async false
set_option linter.all false
namespace Mp
noncomputable def b_blind_weights (c_inverse_by : Nat) : S := (.seq (.asg 2 (.lst .nil))
  (.seq (.for_ .rng1 (.cons (.var 0) .nil) (.one 3) (.seq (.asg 4 (.int 1))
  (.seq (.for_ .rng1 (.cons (.var 0) .nil) (.one 5) (.seq (.iff (.cmp .ne (.var 5) (.var 3)) (.seq (.asg 4 (.bin .mod (.bin .mul (.var 4) (.bin .sub (.var 3) (.var 5))) (.var 1)))
  .skip) .skip)
  .skip))
  (.seq (.app (.var 2) (.call c_inverse_by 2 (.cons (.var 4) (.cons (.var 1) .nil))))
  .skip))))
  (.seq (.ret (.var 2))
  .skip)))
noncomputable def b_cleared (c_inverse_by : Nat) : S := (.seq (.for_ .rng2 (.cons (.var 1) (.cons (.blt .len (.cons (.var 0) .nil)) .nil)) (.one 4) (.seq (.iff (.cmp .ne (.idx (.idx (.var 0) (.var 4)) (.var 2)) (.int 0)) (.seq (.asg 5 (.call c_inverse_by 2 (.cons (.idx (.idx (.var 0) (.var 4)) (.var 2)) (.cons (.var 3) .nil))))
  (.seq (.asg 6 (.comp .list (.cons (.idx (.var 0) (.var 4)) .nil) (.one 7) [7] .nil (.bin .mod (.bin .mul (.var 7) (.var 5)) (.var 3))))
  (.seq (.asg 8 (.bin .add (.slc (.var 0) .nil (.var 4)) (.slc (.var 0) (.bin .add (.var 4) (.int 1)) .nil)))
  (.seq (.asg 9 (.lst .nil))
  (.seq (.for_ .list (.cons (.var 8) .nil) (.one 10) (.seq (.app (.var 9) (.comp .zip (.cons (.var 10) (.cons (.var 6) .nil)) (.many [7, 11]) [7, 11] .nil (.bin .mod (.bin .sub (.var 7) (.bin .mul (.idx (.var 10) (.var 2)) (.var 11))) (.var 3))))
  .skip))
  (.seq (.ret (.tup (.cons (.bin .add (.bin .add (.slc (.var 9) .nil (.var 1)) (.lst (.cons (.var 6) .nil))) (.slc (.var 9) (.var 1) .nil)) (.cons (.bl true) .nil))))
  .skip)))))) .skip)
  .skip))
  (.seq (.ret (.tup (.cons (.var 0) (.cons (.bl false) .nil))))
  .skip))
noncomputable def b_first_sums (c_need_prime c_need_table c_sums_by g_MOST_SUMS : Nat) : S := (.seq (.ex (.call c_need_prime 1 (.cons (.var 2) .nil)))
  (.seq (.ex (.call c_need_table 2 (.cons (.var 0) (.cons (.var 2) .nil))))
  (.seq (.iff (.not (.chain .le .le (.int 0) (.var 1) (.glob g_MOST_SUMS))) (.seq .never
  .skip) .skip)
  (.seq (.ret (.call c_sums_by 3 (.cons (.var 0) (.cons (.var 1) (.cons (.var 2) .nil)))))
  .skip))))
noncomputable def b_first_unlike_sum (c_places_unlike c_sum_by : Nat) : S := (.seq (.for_ .rng1 (.cons (.blt .len (.cons (.call c_places_unlike 3 (.cons (.var 0) (.cons (.var 1) (.cons (.var 2) .nil)))) .nil)) .nil) (.one 3) (.seq (.iff (.cmp .ne (.call c_sum_by 3 (.cons (.var 0) (.cons (.var 3) (.cons (.var 2) .nil)))) (.call c_sum_by 3 (.cons (.var 1) (.cons (.var 3) (.cons (.var 2) .nil))))) (.seq (.ret (.var 3))
  .skip) .skip)
  .skip))
  (.seq (.ret .non)
  .skip))
noncomputable def b_inverse_by (c_need_prime c_power_by : Nat) : S := (.seq (.ex (.call c_need_prime 1 (.cons (.var 1) .nil)))
  (.seq (.iff (.cmp .eq (.bin .mod (.var 0) (.var 1)) (.int 0)) (.seq .never
  .skip) .skip)
  (.seq (.ret (.call c_power_by 3 (.cons (.var 0) (.cons (.bin .sub (.var 1) (.int 2)) (.cons (.var 1) .nil)))))
  .skip)))
noncomputable def b_is_near : S := (.seq (.iff (.or (.cons (.cmp .ne (.blt .len (.cons (.var 1) .nil)) (.blt .len (.cons (.var 0) .nil))) (.cons (.cmp .ne (.comp .list (.cons (.var 1) .nil) (.one 4) [4] (.not (.chain .le .lt (.int 0) (.var 4) (.var 3))) (.var 4)) (.lst .nil)) .nil))) (.seq (.ret (.bl false))
  .skip) .skip)
  (.seq (.ret (.cmp .le (.blt .len (.cons (.comp .rng1 (.cons (.blt .len (.cons (.var 0) .nil)) .nil) (.one 5) [5] (.cmp .ne (.idx (.var 0) (.var 5)) (.idx (.var 1) (.var 5))) (.var 5)) .nil)) (.var 2)))
  .skip))
noncomputable def b_is_prime (c_stands g_BASES : Nat) : S := (.seq (.iff (.cmp .lt (.var 0) (.int 2)) (.seq (.ret (.bl false))
  .skip) .skip)
  (.seq (.for_ .tup (.cons (.glob g_BASES) .nil) (.one 1) (.seq (.iff (.cmp .eq (.bin .mod (.var 0) (.var 1)) (.int 0)) (.seq (.ret (.cmp .eq (.var 0) (.var 1)))
  .skip) .skip)
  .skip))
  (.seq (.ret (.cmp .eq (.comp .tup (.cons (.glob g_BASES) .nil) (.one 1) [1] (.not (.call c_stands 2 (.cons (.var 0) (.cons (.var 1) .nil)))) (.var 1)) (.lst .nil)))
  .skip)))
noncomputable def b_law_cell_at : S := (.seq (.iff (.cmp .lt (.var 1) (.blt .len (.cons (.var 0) .nil))) (.seq (.ret (.idx (.var 0) (.var 1)))
  .skip) .skip)
  (.seq (.ret (.int 0))
  .skip))
noncomputable def b_law_deck (c_law_stir : Nat) : S := (.seq (.iff (.cmp .ge (.var 0) (.bin .pow (.int 10) (.int 18))) (.seq (.ret (.lst (.cons (.bin .sub (.var 0) (.bin .pow (.int 10) (.int 18))) .nil)))
  .skip) .skip)
  (.seq (.ret (.lst (.cons (.bin .add (.bin .mul (.bin .add (.bin .mul (.call c_law_stir 2 (.cons (.var 0) (.cons (.int 1) .nil))) (.bin .pow (.int 10) (.int 60))) (.call c_law_stir 2 (.cons (.var 0) (.cons (.int 2) .nil)))) (.bin .pow (.int 10) (.int 60))) (.call c_law_stir 2 (.cons (.var 0) (.cons (.int 3) .nil)))) .nil)))
  .skip))
noncomputable def b_law_digit (c_law_stir : Nat) : S := (.seq (.iff (.cmp .ge (.var 0) (.bin .pow (.int 10) (.int 18))) (.seq (.ret (.bin .mod (.bin .shr (.var 0) (.bin .mul (.int 4) (.var 1))) (.var 2)))
  .skip) .skip)
  (.seq (.ret (.bin .mod (.call c_law_stir 2 (.cons (.var 0) (.cons (.var 1) .nil))) (.var 2)))
  .skip))
noncomputable def b_law_number_v2 (c_law_take : Nat) : S := (.seq (.ret (.call c_law_take 2 (.cons (.var 0) (.cons (.idx (.lst (.cons (.int 10) (.cons (.int 10) (.cons (.int 100) (.cons (.bin .pow (.int 10) (.int 10)) (.cons (.bin .pow (.int 10) (.int 18)) .nil)))))) (.call c_law_take 2 (.cons (.var 0) (.cons (.int 5) .nil)))) .nil))))
  .skip)
noncomputable def b_law_numbers : S := (.seq (.asg 0 (.bin .mod (.var 0) (.bin .mul (.bin .pow (.int 10) (.int 45)) (.bin .pow (.int 10) (.int 45)))))
  (.seq (.asg 3 (.lst .nil))
  (.seq (.asg 4 (.bin .sub (.var 0) (.bin .pow (.int 10) (.int 18))))
  (.seq (.for_ .rng1 (.cons (.var 1) .nil) (.one 5) (.seq (.asg 6 (.bin .mod (.bin .mul (.bin .add (.bin .add (.var 0) (.bin .mul (.int 977) (.var 5))) (.int 1)) (.int 48271)) (.int 2147483647)))
  (.seq (.asg 6 (.bin .mod (.bin .mul (.var 6) (.var 6)) (.int 2147483629)))
  (.seq (.asg 6 (.bin .fdiv (.bin .mod (.bin .mul (.bin .add (.var 6) (.bin .mul (.int 40692) (.bin .add (.var 5) (.int 3)))) (.int 69621)) (.int 2147483563)) (.int 8)))
  (.seq (.iff (.cmp .ge (.var 0) (.bin .pow (.int 10) (.int 18))) (.seq (.asg 6 (.var 4))
  (.seq (.asg 4 (.bin .fdiv (.var 4) (.var 2)))
  .skip)) .skip)
  (.seq (.app (.var 3) (.bin .mod (.var 6) (.var 2)))
  .skip))))))
  (.seq (.ret (.var 3))
  .skip)))))
noncomputable def b_law_odd (c_law_take : Nat) : S := (.seq (.asg 1 (.lst (.cons (.str "") (.cons (.str " ") (.cons (.str "1 ") (.cons (.str " 1") (.cons (.str "1  2") (.cons (.str "01") (.cons (.str "1 02") (.cons (.str "-1") (.cons (.str "+1") (.cons (.str "1,2") (.cons (.str "1 x") (.cons (.str "1\n") (.cons (.str "\n1") (.cons (.str "1;2") (.cons (.str "1_0") (.cons (.str "1.0") .nil))))))))))))))))))
  (.seq (.asg 1 (.bin .add (.var 1) (.lst (.cons (.str "0:1=2") (.cons (.str "1:1=") (.cons (.str "1:=1") (.cons (.str ":1=1") (.cons (.str "1=1:1") (.cons (.str "1:1=1=1") (.cons (.str "1:1:1=1") (.cons (.str "01:1=1") (.cons (.str "1:01=1") (.cons (.str "1:1=01") .nil)))))))))))))
  (.seq (.asg 1 (.bin .add (.var 1) (.lst (.cons (.str "1 :1=1") (.cons (.str "1: 1=1") (.cons (.str "1:1= 1") (.cons (.str "1:1=1 ") (.cons (.str "-1:1=1") (.cons (.str "1:+1=1") (.cons (.str "1:1=-1") (.cons (.str "1;1=1") (.cons (.str "1:1") (.cons (.str "7:0=0") .nil)))))))))))))
  (.seq (.ret (.idx (.var 1) (.call c_law_take 2 (.cons (.var 0) (.cons (.int 36) .nil)))))
  .skip))))
noncomputable def b_law_prime_v1 : S := (.seq (.ret (.idx (.lst (.cons (.int 2) (.cons (.int 3) (.cons (.int 5) (.cons (.int 7) (.cons (.int 11) (.cons (.int 13) (.cons (.int 31) (.cons (.int 101) (.cons (.int 10007) (.cons (.int 1000000007) (.cons (.int 9999999967) .nil)))))))))))) (.bin .mod (.idx (.var 0) (.int 0)) (.int 11))))
  .skip)
noncomputable def b_law_prime_v2 (c_law_digit : Nat) : S := (.seq (.asg 2 (.comp .list (.cons (.lst (.cons (.int 2) (.cons (.int 3) (.cons (.int 5) (.cons (.int 7) (.cons (.int 11) (.cons (.int 13) (.cons (.int 17) (.cons (.int 101) (.cons (.int 65537) (.cons (.bin .add (.bin .pow (.int 10) (.int 9)) (.int 7)) .nil))))))))))) .nil) (.one 3) [3] (.cmp .gt (.var 3) (.var 1)) (.var 3)))
  (.seq (.ret (.idx (.var 2) (.call c_law_digit 3 (.cons (.var 0) (.cons (.int 0) (.cons (.blt .len (.cons (.var 2) .nil)) .nil))))))
  .skip))
noncomputable def b_law_puts (c_law_numbers : Nat) : S := (.seq (.asg 4 (.lst .nil))
  (.seq (.for_ .list (.cons (.slc (.var 0) (.var 1) (.bin .add (.var 1) (.int 16))) .nil) (.one 5) (.seq (.asg 6 (.call c_law_numbers 3 (.cons (.var 5) (.cons (.int 9) (.cons (.int 5040) .nil)))))
  (.seq (.asg 7 (.idx (.lst (.cons (.bin .mod (.idx (.var 6) (.int 0)) (.blt .len (.cons (.var 2) .nil))) (.cons (.bin .mod (.idx (.var 6) (.int 0)) (.blt .min2 (.cons (.int 3) (.cons (.blt .len (.cons (.var 2) .nil)) .nil)))) .nil))) (.bin .mod (.idx (.var 6) (.int 1)) (.int 2))))
  (.seq (.asg 8 (.idx (.lst (.cons (.bin .mod (.bin .mul (.bin .mul (.idx (.var 6) (.int 2)) (.idx (.var 6) (.int 3))) (.idx (.var 6) (.int 4))) (.var 3)) (.cons (.bin .mod (.idx (.var 6) (.int 5)) (.var 3)) (.cons (.idx (.var 2) (.var 7)) .nil)))) (.bin .mod (.idx (.var 6) (.int 6)) (.int 3))))
  (.seq (.app (.var 4) (.tup (.cons (.var 7) (.cons (.var 8) .nil))))
  .skip)))))
  (.seq (.ret (.var 4))
  .skip)))
noncomputable def b_law_stir : S := (.seq (.asg 2 (.bin .add (.bin .add (.bin .mul (.bin .mod (.var 0) (.bin .pow (.int 10) (.int 40))) (.int 48271)) (.bin .mul (.bin .mul (.bin .pow (.int 3) (.int 60)) (.bin .add (.var 1) (.int 1))) (.bin .add (.var 1) (.int 1)))) (.var 1)))
  (.seq (.asg 2 (.bin .add (.bin .mul (.var 2) (.var 2)) (.bin .mul (.int 69621) (.var 2))))
  (.seq (.ret (.bin .fdiv (.bin .mod (.bin .mul (.var 2) (.var 2)) (.bin .add (.bin .pow (.int 10) (.int 61)) (.int 7))) (.int 8)))
  .skip)))
noncomputable def b_law_stir_v1 : S := (.seq (.asg 2 (.bin .add (.bin .add (.bin .mod (.var 0) (.bin .pow (.int 10) (.int 60))) (.bin .mul (.int 3) (.var 1))) (.int 1)))
  (.seq (.ret (.bin .mod (.bin .fdiv (.bin .mul (.bin .mul (.var 2) (.bin .add (.var 2) (.bin .mul (.int 2) (.var 1)))) (.bin .add (.var 2) (.int 5))) (.int 7)) (.bin .pow (.int 10) (.int 40))))
  .skip))
noncomputable def b_law_sums_v2 : S := (.seq (.asg 3 (.lst .nil))
  (.seq (.for_ .rng1 (.cons (.var 1) .nil) (.one 4) (.seq (.asg 5 (.int 0))
  (.seq (.for_ .rng1 (.cons (.blt .len (.cons (.var 0) .nil)) .nil) (.one 6) (.seq (.asg 7 (.int 1))
  (.seq (.for_ .rng1 (.cons (.var 4) .nil) (.one 8) (.seq (.asg 7 (.bin .mod (.bin .mul (.var 7) (.bin .add (.var 6) (.int 1))) (.var 2)))
  .skip))
  (.seq (.asg 5 (.bin .add (.var 5) (.bin .mul (.idx (.var 0) (.var 6)) (.var 7))))
  .skip))))
  (.seq (.app (.var 3) (.bin .mod (.var 5) (.var 2)))
  .skip))))
  (.seq (.ret (.var 3))
  .skip)))
noncomputable def b_law_table_v1 (c_law_worth : Nat) : S := (.seq (.asg 3 (.bin .add (.int 1) (.bin .mod (.idx (.var 0) (.int 1)) (.blt .min2 (.cons (.var 2) (.cons (.bin .sub (.var 1) (.int 1)) .nil))))))
  (.seq (.ret (.comp .rng1 (.cons (.var 3) .nil) (.one 4) [4] .nil (.call c_law_worth 3 (.cons (.var 0) (.cons (.var 4) (.cons (.var 1) .nil))))))
  .skip))
noncomputable def b_law_table_v2 (c_law_digit : Nat) : S := (.seq (.ret (.comp .rng1 (.cons (.var 1) .nil) (.one 3) [3] .nil (.bin .mod (.bin .mul (.call c_law_digit 3 (.cons (.var 0) (.cons (.bin .add (.int 5) (.bin .mul (.int 9) (.var 3))) (.cons (.blt .min2 (.cons (.var 2) (.cons (.int 997) .nil))) .nil)))) (.bin .add (.bin .fdiv (.var 2) (.int 997)) (.int 1))) (.var 2))))
  .skip)
noncomputable def b_law_take : S := (.seq (.asg 2 (.bin .mod (.idx (.var 0) (.int 0)) (.var 1)))
  (.seq (.seti (.var 0) (.int 0) (.bin .fdiv (.idx (.var 0) (.int 0)) (.var 1)))
  (.seq (.ret (.var 2))
  .skip)))
noncomputable def b_law_unlike : S := (.seq (.ret (.comp .rng1 (.cons (.blt .len (.cons (.var 0) .nil)) .nil) (.one 2) [2] (.cmp .ne (.idx (.var 0) (.var 2)) (.idx (.var 1) (.var 2))) (.var 2)))
  .skip)
noncomputable def b_law_worth : S := (.seq (.asg 3 (.bin .add (.bin .mul (.idx (.var 0) (.bin .mod (.var 1) (.blt .len (.cons (.var 0) .nil)))) (.bin .add (.var 1) (.int 1))) (.idx (.var 0) (.bin .mod (.bin .add (.var 1) (.int 3)) (.blt .len (.cons (.var 0) .nil))))))
  (.seq (.asg 4 (.bin .mod (.idx (.var 0) (.bin .mod (.bin .add (.int 7) (.var 1)) (.blt .len (.cons (.var 0) .nil)))) (.int 4)))
  (.seq (.ret (.bin .mod (.idx (.lst (.cons (.var 3) (.cons (.bin .mul (.bin .mul (.var 3) (.idx (.var 0) (.int 2))) (.idx (.var 0) (.int 3))) (.cons (.bin .add (.var 1) (.idx (.var 0) (.int 6))) (.cons (.int 0) .nil))))) (.var 4)) (.var 2)))
  .skip)))
noncomputable def b_marked_places (c_power_by c_solved_by : Nat) : S := (.seq (.iff (.cmp .eq (.var 1) (.int 0)) (.seq (.ret (.lst .nil))
  .skip) .skip)
  (.seq (.asg 4 (.comp .rng1 (.cons (.bin .sub (.blt .len (.cons (.var 0) .nil)) (.var 1)) .nil) (.one 5) [5] .nil (.slc (.var 0) (.var 5) (.bin .add (.var 5) (.var 1)))))
  (.seq (.asg 6 (.call c_solved_by 3 (.cons (.var 4) (.cons (.comp .list (.cons (.slc (.var 0) (.var 1) .nil) .nil) (.one 7) [7] .nil (.bin .sub (.int 0) (.var 7))) (.cons (.var 3) .nil)))))
  (.seq (.iff (.cmp .is (.var 6) .non) (.seq (.ret .non)
  .skip) .skip)
  (.seq (.asg 8 (.lst .nil))
  (.seq (.for_ .rng1 (.cons (.var 2) .nil) (.one 9) (.seq (.asg 10 (.call c_power_by 3 (.cons (.bin .add (.var 9) (.int 1)) (.cons (.var 1) (.cons (.var 3) .nil)))))
  (.seq (.for_ .enum (.cons (.var 6) .nil) (.many [11, 12]) (.seq (.asg 10 (.bin .mod (.bin .add (.var 10) (.bin .mul (.var 12) (.call c_power_by 3 (.cons (.bin .add (.var 9) (.int 1)) (.cons (.var 11) (.cons (.var 3) .nil)))))) (.var 3)))
  .skip))
  (.seq (.iff (.cmp .eq (.var 10) (.int 0)) (.seq (.app (.var 8) (.var 9))
  .skip) .skip)
  .skip))))
  (.seq (.ret (.var 8))
  .skip)))))))
noncomputable def b_need_half (c_need_prime c_need_table : Nat) : S := (.seq (.ex (.call c_need_prime 1 (.cons (.var 2) .nil)))
  (.seq (.ex (.call c_need_table 2 (.cons (.var 0) (.cons (.var 2) .nil))))
  (.seq (.iff (.or (.cons (.cmp .lt (.var 1) (.int 1)) (.cons (.cmp .gt (.bin .mul (.int 2) (.var 1)) (.blt .len (.cons (.var 0) .nil))) .nil))) (.seq .never
  .skip) .skip)
  .skip)))
noncomputable def b_need_like (c_need_prime c_need_table : Nat) : S := (.seq (.ex (.call c_need_prime 1 (.cons (.var 2) .nil)))
  (.seq (.ex (.call c_need_table 2 (.cons (.var 0) (.cons (.var 2) .nil))))
  (.seq (.ex (.call c_need_table 2 (.cons (.var 1) (.cons (.var 2) .nil))))
  (.seq (.iff (.cmp .ne (.blt .len (.cons (.var 0) .nil)) (.blt .len (.cons (.var 1) .nil))) (.seq .never
  .skip) .skip)
  .skip))))
noncomputable def b_need_prime (c_is_prime : Nat) : S := (.seq (.iff (.not (.call c_is_prime 1 (.cons (.var 0) .nil))) (.seq .never
  .skip) .skip)
  .skip)
noncomputable def b_need_rows : S := (.seq (.iff (.or (.cons (.cmp .eq (.var 0) (.lst .nil)) (.cons (.cmp .eq (.idx (.var 0) (.int 0)) (.lst .nil)) (.cons (.cmp .ne (.comp .list (.cons (.var 0) .nil) (.one 2) [2] (.cmp .ne (.blt .len (.cons (.var 2) .nil)) (.blt .len (.cons (.idx (.var 0) (.int 0)) .nil))) (.var 2)) (.lst .nil)) .nil)))) (.seq .never
  .skip) .skip)
  (.seq (.iff (.cmp .ne (.blt .len (.cons (.var 1) .nil)) (.blt .len (.cons (.var 0) .nil))) (.seq .never
  .skip) .skip)
  .skip))
noncomputable def b_need_table : S := (.seq (.iff (.or (.cons (.not (.chain .le .lt (.int 1) (.blt .len (.cons (.var 0) .nil)) (.var 1))) (.cons (.cmp .ne (.comp .list (.cons (.var 0) .nil) (.one 2) [2] (.not (.chain .le .lt (.int 0) (.var 2) (.var 1))) (.var 2)) (.lst .nil)) .nil))) (.seq .never
  .skip) .skip)
  .skip)
noncomputable def b_places_unlike (c_need_like : Nat) : S := (.seq (.ex (.call c_need_like 3 (.cons (.var 0) (.cons (.var 1) (.cons (.var 2) .nil)))))
  (.seq (.ret (.comp .rng1 (.cons (.blt .len (.cons (.var 0) .nil)) .nil) (.one 3) [3] (.cmp .ne (.idx (.var 0) (.var 3)) (.idx (.var 1) (.var 3))) (.var 3)))
  .skip))
noncomputable def b_power_by : S := (.seq (.asg 3 (.bin .mod (.int 1) (.var 2)))
  (.seq (.asg 4 (.bin .mod (.var 0) (.var 2)))
  (.seq (.whl (.cmp .gt (.var 1) (.int 0)) (.seq (.iff (.cmp .eq (.bin .mod (.var 1) (.int 2)) (.int 1)) (.seq (.asg 3 (.bin .mod (.bin .mul (.var 3) (.var 4)) (.var 2)))
  .skip) .skip)
  (.seq (.asg 4 (.bin .mod (.bin .mul (.var 4) (.var 4)) (.var 2)))
  (.seq (.asg 1 (.bin .fdiv (.var 1) (.int 2)))
  .skip))))
  (.seq (.ret (.var 3))
  .skip))))
noncomputable def b_solved_by_v1 (c_cleared c_need_prime c_need_rows : Nat) : S := (.seq (.ex (.call c_need_prime 1 (.cons (.var 2) .nil)))
  (.seq (.ex (.call c_need_rows 2 (.cons (.var 0) (.cons (.var 1) .nil))))
  (.seq (.asg 3 (.blt .len (.cons (.idx (.var 0) (.int 0)) .nil)))
  (.seq (.asg 4 (.lst .nil))
  (.seq (.for_ .zip (.cons (.var 0) (.cons (.var 1) .nil)) (.many [5, 6]) (.seq (.app (.var 4) (.bin .add (.comp .list (.cons (.var 5) .nil) (.one 7) [7] .nil (.bin .mod (.var 7) (.var 2))) (.lst (.cons (.bin .mod (.var 6) (.var 2)) .nil))))
  .skip))
  (.seq (.asg 8 (.lst .nil))
  (.seq (.for_ .revrng (.cons (.var 3) .nil) (.one 9) (.seq (.unp (.many [4, 10]) (.call c_cleared 4 (.cons (.var 4) (.cons (.blt .len (.cons (.var 8) .nil)) (.cons (.var 9) (.cons (.var 2) .nil))))))
  (.seq (.iff (.var 10) (.seq (.app (.var 8) (.var 9))
  .skip) .skip)
  .skip)))
  (.seq (.iff (.cmp .ne (.comp .list (.cons (.slc (.var 4) (.blt .len (.cons (.var 8) .nil)) .nil) .nil) (.one 5) [5] (.cmp .ne (.idx (.var 5) (.var 3)) (.int 0)) (.var 5)) (.lst .nil)) (.seq (.ret .non)
  .skip) .skip)
  (.seq (.asg 11 (.bin .mul (.lst (.cons (.int 0) .nil)) (.var 3)))
  (.seq (.for_ .zip (.cons (.var 4) (.cons (.var 8) .nil)) (.many [5, 9]) (.seq (.seti (.var 11) (.var 9) (.idx (.var 5) (.var 3)))
  .skip))
  (.seq (.ret (.var 11))
  .skip)))))))))))
noncomputable def b_stands (c_power_by : Nat) : S := (.seq (.asg 2 (.bin .sub (.var 0) (.int 1)))
  (.seq (.whl (.cmp .eq (.bin .mod (.var 2) (.int 2)) (.int 0)) (.seq (.asg 2 (.bin .fdiv (.var 2) (.int 2)))
  .skip))
  (.seq (.asg 3 (.call c_power_by 3 (.cons (.var 1) (.cons (.var 2) (.cons (.var 0) .nil)))))
  (.seq (.iff (.cmp .eq (.var 3) (.int 1)) (.seq (.ret (.bl true))
  .skip) .skip)
  (.seq (.whl (.cmp .lt (.var 2) (.bin .sub (.var 0) (.int 1))) (.seq (.iff (.cmp .eq (.var 3) (.bin .sub (.var 0) (.int 1))) (.seq (.ret (.bl true))
  .skip) .skip)
  (.seq (.asg 3 (.bin .mod (.bin .mul (.var 3) (.var 3)) (.var 0)))
  (.seq (.asg 2 (.bin .mul (.int 2) (.var 2)))
  .skip))))
  (.seq (.ret (.bl false))
  .skip))))))
noncomputable def b_sum_by (c_power_by : Nat) : S := (.seq (.ret (.bin .mod (.blt .sum (.cons (.comp .enum (.cons (.var 0) .nil) (.many [3, 4]) [3, 4] .nil (.bin .mul (.var 4) (.call c_power_by 3 (.cons (.bin .add (.var 3) (.int 1)) (.cons (.var 1) (.cons (.var 2) .nil)))))) .nil)) (.var 2)))
  .skip)
noncomputable def b_sums_by (c_sum_by : Nat) : S := (.seq (.ret (.comp .rng1 (.cons (.var 1) .nil) (.one 3) [3] .nil (.call c_sum_by 3 (.cons (.var 0) (.cons (.var 3) (.cons (.var 2) .nil))))))
  .skip)
noncomputable def b_table_by_width (c_marked_places c_worths_at : Nat) : S := (.seq (.asg 5 (.call c_marked_places 4 (.cons (.slc (.var 1) .nil (.bin .mul (.int 2) (.var 2))) (.cons (.var 3) (.cons (.blt .len (.cons (.var 0) .nil)) (.cons (.var 4) .nil))))))
  (.seq (.iff (.or (.cons (.cmp .is (.var 5) .non) (.cons (.cmp .ne (.blt .len (.cons (.var 5) .nil)) (.var 3)) .nil))) (.seq (.ret .non)
  .skip) .skip)
  (.seq (.asg 6 (.call c_worths_at 3 (.cons (.var 5) (.cons (.var 1) (.cons (.var 4) .nil)))))
  (.seq (.iff (.cmp .is (.var 6) .non) (.seq (.ret .non)
  .skip) .skip)
  (.seq (.asg 7 (.blt .list (.cons (.var 0) .nil)))
  (.seq (.for_ .zip (.cons (.var 5) (.cons (.var 6) .nil)) (.many [8, 9]) (.seq (.seti (.var 7) (.var 8) (.bin .mod (.bin .add (.idx (.var 7) (.var 8)) (.var 9)) (.var 4)))
  .skip))
  (.seq (.ret (.var 7))
  .skip)))))))
noncomputable def b_table_near (c_need_prime c_need_table c_sums_by c_table_by_width : Nat) : S := (.seq (.ex (.call c_need_prime 1 (.cons (.var 3) .nil)))
  (.seq (.ex (.call c_need_table 2 (.cons (.var 0) (.cons (.var 3) .nil))))
  (.seq (.iff (.cmp .lt (.var 2) (.int 0)) (.seq .never
  .skip) .skip)
  (.seq (.iff (.cmp .lt (.blt .len (.cons (.var 1) .nil)) (.bin .mul (.int 2) (.var 2))) (.seq .never
  .skip) .skip)
  (.seq (.asg 4 (.comp .zip (.cons (.var 1) (.cons (.call c_sums_by 3 (.cons (.var 0) (.cons (.blt .len (.cons (.var 1) .nil)) (.cons (.var 3) .nil)))) .nil)) (.many [5, 6]) [5, 6] .nil (.bin .mod (.bin .sub (.var 5) (.var 6)) (.var 3))))
  (.seq (.for_ .rng1 (.cons (.bin .add (.blt .min2 (.cons (.var 2) (.cons (.blt .len (.cons (.var 0) .nil)) .nil))) (.int 1)) .nil) (.one 7) (.seq (.asg 8 (.call c_table_by_width 5 (.cons (.var 0) (.cons (.var 4) (.cons (.var 2) (.cons (.var 7) (.cons (.var 3) .nil)))))))
  (.seq (.iff (.cmp .isn (.var 8) .non) (.seq (.ret (.var 8))
  .skip) .skip)
  .skip)))
  (.seq (.ret .non)
  .skip)))))))
noncomputable def b_twins_of (c_blind_weights c_need_half : Nat) : S := (.seq (.ex (.call c_need_half 3 (.cons (.var 0) (.cons (.var 1) (.cons (.var 2) .nil)))))
  (.seq (.asg 3 (.call c_blind_weights 2 (.cons (.bin .mul (.int 2) (.var 1)) (.cons (.var 2) .nil))))
  (.seq (.asg 4 (.box (.blt .list (.cons (.var 0) .nil))))
  (.seq (.asg 5 (.box (.blt .list (.cons (.var 0) .nil))))
  (.seq (.for_ .rng1 (.cons (.bin .mul (.int 2) (.var 1)) .nil) (.one 6) (.seq (.iff (.cmp .lt (.var 6) (.var 1)) (.seq (.seti (.var 4) (.var 6) (.bin .mod (.bin .add (.idx (.var 4) (.var 6)) (.idx (.var 3) (.var 6))) (.var 2)))
  .skip) (.seq (.seti (.var 5) (.var 6) (.bin .mod (.bin .sub (.idx (.var 5) (.var 6)) (.idx (.var 3) (.var 6))) (.var 2)))
  .skip))
  .skip))
  (.seq (.ret (.tup (.cons (.var 4) (.cons (.var 5) .nil))))
  .skip))))))
noncomputable def b_twins_show (c_first_sums c_is_near c_need_half : Nat) : S := (.seq (.ex (.call c_need_half 3 (.cons (.var 0) (.cons (.var 1) (.cons (.var 2) .nil)))))
  (.seq (.iff (.or (.cons (.cmp .eq (.var 3) (.var 4)) (.cons (.not (.call c_is_near 4 (.cons (.var 0) (.cons (.var 3) (.cons (.var 1) (.cons (.var 2) .nil)))))) (.cons (.not (.call c_is_near 4 (.cons (.var 0) (.cons (.var 4) (.cons (.var 1) (.cons (.var 2) .nil)))))) .nil)))) (.seq (.ret (.bl false))
  .skip) .skip)
  (.seq (.ret (.cmp .eq (.call c_first_sums 3 (.cons (.var 3) (.cons (.bin .sub (.bin .mul (.int 2) (.var 1)) (.int 1)) (.cons (.var 2) .nil)))) (.call c_first_sums 3 (.cons (.var 4) (.cons (.bin .sub (.bin .mul (.int 2) (.var 1)) (.int 1)) (.cons (.var 2) .nil))))))
  .skip)))
noncomputable def b_worths_at (c_power_by c_solved_by : Nat) : S := (.seq (.iff (.cmp .eq (.var 0) (.lst .nil)) (.seq (.ret (.idx (.lst (.cons .non (.cons (.lst .nil) .nil))) (.blt .int (.cons (.cmp .eq (.comp .list (.cons (.var 1) .nil) (.one 3) [3] (.cmp .ne (.var 3) (.int 0)) (.var 3)) (.lst .nil)) .nil))))
  .skip) .skip)
  (.seq (.asg 4 (.comp .rng1 (.cons (.blt .len (.cons (.var 1) .nil)) .nil) (.one 6) [6] .nil (.comp .list (.cons (.var 0) .nil) (.one 5) [5] .nil (.call c_power_by 3 (.cons (.bin .add (.var 5) (.int 1)) (.cons (.var 6) (.cons (.var 2) .nil)))))))
  (.seq (.ret (.call c_solved_by 3 (.cons (.var 4) (.cons (.var 1) (.cons (.var 2) .nil)))))
  .skip)))
end Mp
set_option Elab.async false
set_option linter.all false
set_option maxRecDepth 100000
set_option maxHeartbeats 4000000
namespace Mp
open PySem PySem.Spec PyProof.Rows L2
/-! ### running -/
structure Pin {F : Type} (f : F) : Type where
noncomputable def bnd {A B : Type} (x : R A) (f : A → En → Sto → R B) (_ : Pin f := ⟨⟩) : R B := x.bind f
noncomputable def optp {A B : Type} (o : Option A) (f : A → R B) (_ : Pin f := ⟨⟩) : R B := opt o f
noncomputable def opt2p {A B C : Type} (o : Option (A × B)) (f : A → B → R C) (_ : Pin f := ⟨⟩) : R C := opt2 o f
@[simp] theorem bnd_ok {A B : Type} {a : A} {en : En} {m : Sto} {f : A → En → Sto → R B} {h : Pin f} : bnd (.ok a en m) f h = f a en m := rfl
@[simp] theorem bnd_ex {A B : Type} {c : Nat} {en : En} {m : Sto} {f : A → En → Sto → R B} {h : Pin f} : bnd (.ex c en m) f h = .ex c en m := rfl
@[simp] theorem optp_some {A B : Type} {a : A} {f : A → R B} {h : Pin f} : optp (some a) f h = f a := rfl
@[simp] theorem opt2p_some {A B C : Type} {a : A} {b : B} {f : A → B → R C} {h : Pin f} : opt2p (some (a, b)) f h = f a b := rfl
@[simp] theorem bind_okR {A B : Type} {a : A} {en : En} {m : Sto} {f : A → En → Sto → R B} : (R.ok a en m).bind f = f a en m := rfl
@[simp] theorem bind_exR {A B : Type} {c : Nat} {en : En} {m : Sto} {f : A → En → Sto → R B} : (R.ex c en m : R A).bind f = .ex c en m := rfl
@[simp] theorem opt_someR {A B : Type} {a : A} {f : A → R B} : opt (some a) f = f a := rfl
@[simp] theorem opt2_someR {A B C : Type} {a : A} {b : B} {f : A → B → R C} : opt2 (some (a, b)) f = f a b := rfl
@[simp] theorem noex_okR {A : Type} {a : A} {en : En} {m : Sto} : (R.ok a en m).noex = .ok a en m := rfl
@[simp] theorem toR_ok {r : RV} {en : En} {m : Sto} : (CR.ok r m).toR en = .ok r en m := rfl
@[simp] theorem toR_ex {c : Nat} {en : En} {m : Sto} : (CR.ex c m).toR en = .ex c en m := rfl
@[simp] theorem hold_val {w : W} : hold (.val w) = .val w := rfl
@[simp] theorem hold_new {ws : List W} : hold (.new ws) = .val (.lst ws) := rfl
@[simp] theorem hold_bor {j : Nat} : hold (.bor j) = .bor j := rfl
@[simp] theorem rvW_val {en : En} {w : W} : rvW en (.val w) = some w := rfl
@[simp] theorem rvW_new {en : En} {ws : List W} : rvW en (.new ws) = some (.lst ws) := rfl
@[simp] theorem rvW_bor {en : En} {j : Nat} : rvW en (.bor j) = (enGet en j).map slW := rfl
@[simp] theorem slW_val {w : W} : slW (.val w) = w := rfl
@[simp] theorem slW_own {ws : List W} : slW (.own ws) = .lst ws := rfl
@[simp] theorem enGet_0 {s : Option Sl} {en : En} : enGet (s :: en) 0 = s := by cases s <;> rfl
@[simp] theorem enGet_s {s : Option Sl} {en : En} {j : Nat} : enGet (s :: en) (j + 1) = enGet en j := rfl
@[simp] theorem intR_int {i : Int} : intR (.val (.int i)) = some i := rfl
@[simp] theorem blR_bl {b : Bool} : blR (.val (.bl b)) = some b := rfl
@[simp] theorem esc_val {w : W} {en : En} : esc (.val w) en = some (w, en) := rfl
@[simp] theorem esc_new {ws : List W} {en : En} : esc (.new ws) en = some (.lst ws, en) := rfl
@[simp] theorem slOf_val {w : W} {en : En} : slOf (.val w) en = some (.val w, en) := rfl
@[simp] theorem slOf_new {ws : List W} {en : En} : slOf (.new ws) en = some (.own ws, en) := rfl
@[simp] theorem retR_val {w : W} {en : En} : retR (.val w) en = some (.val w) := rfl
@[simp] theorem retR_new {ws : List W} {en : En} : retR (.new ws) en = some (.new ws) := rfl
@[simp] theorem boxR_new {ws : List W} {en : En} {m : Sto} : boxP (.new ws) en m = .ok (.val (.ref m.length)) en (m ++ [.lst ws]) := rfl
@[simp] theorem boxP_non {en : En} {m : Sto} : boxP (.val .non) en m = .ok (.val .non) en m := rfl
@[simp] theorem lstW_lst {m : Sto} {ws : List W} : lstW m (.lst ws) = some ws := rfl
theorem lstW_ref {m : Sto} {i : Nat} {ws : List W} (h : m[i]? = some (.lst ws)) : lstW m (.ref i) = some ws := by unfold lstW; simp only [h]
@[simp] theorem add_ints {en : En} {m : Sto} {i j : Int} : binR .add en m (.val (.int i)) (.val (.int j)) = some (.val (.int (i + j))) := rfl
@[simp] theorem sub_ints {en : En} {m : Sto} {i j : Int} : binR .sub en m (.val (.int i)) (.val (.int j)) = some (.val (.int (i - j))) := rfl
theorem mul_ints {en : En} {m : Sto} {i j : Int} (h : mulOk i j = true) : binR .mul en m (.val (.int i)) (.val (.int j)) = some (.val (.int (i * j))) := by show (if mulOk i j then _ else _) = _; rw [if_pos h]
theorem mod_ints {en : En} {m : Sto} {i j : Int} (h : 0 < j) : binR .mod en m (.val (.int i)) (.val (.int j)) = some (.val (.int (i % j))) := by show (if 0 < j then _ else _) = _; rw [if_pos h]
theorem fdiv_ints {en : En} {m : Sto} {i j : Int} (h : 0 < j ∧ j < BIG) : binR .fdiv en m (.val (.int i)) (.val (.int j)) = some (.val (.int (i / j))) := by show (if 0 < j ∧ j < BIG then _ else _) = _; rw [if_pos h]
theorem pow_ints {en : En} {m : Sto} {i j : Int} (h : 0 ≤ j ∧ j ≤ 1000 ∧ -(2 ^ 64) < i ∧ i < 2 ^ 64) : binR .pow en m (.val (.int i)) (.val (.int j)) = some (.val (.int (i ^ j.toNat))) := by show (if _ then _ else _) = _; rw [if_pos h]
theorem mulOk_l {i j : Int} (h : -(2 ^ 64) < i ∧ i < 2 ^ 64) : mulOk i j = true := by unfold mulOk; rw [decide_eq_true h]; rfl
theorem mulOk_r {i j : Int} (h : -(2 ^ 64) < j ∧ j < 2 ^ 64) : mulOk i j = true := by unfold mulOk; rw [decide_eq_true h]; simp
theorem mulOk_b {i j : Int} (h : -BIG < i ∧ i < BIG) (h2 : -BIG < j ∧ j < BIG) : mulOk i j = true := by unfold mulOk small; rw [decide_eq_true h, decide_eq_true h2]; simp
@[simp] theorem lt_ints {en : En} {m : Sto} {i j : Int} : cmpR .lt en m (.val (.int i)) (.val (.int j)) = some (decide (i < j)) := rfl
@[simp] theorem le_ints {en : En} {m : Sto} {i j : Int} : cmpR .le en m (.val (.int i)) (.val (.int j)) = some (decide (i ≤ j)) := rfl
@[simp] theorem gt_ints {en : En} {m : Sto} {i j : Int} : cmpR .gt en m (.val (.int i)) (.val (.int j)) = some (decide (j < i)) := rfl
@[simp] theorem ge_ints {en : En} {m : Sto} {i j : Int} : cmpR .ge en m (.val (.int i)) (.val (.int j)) = some (decide (j ≤ i)) := rfl
theorem eq_data {en : En} {m : Sto} {x y : RV} {a b : W} {d e : PyData} (hx : rvW en x = some a) (hy : rvW en y = some b) (ha : pd m DEEP a = some d) (hb : pd m DEEP b = some e) (sa : SeqAt.shaped d = true) (sb : SeqAt.shaped e = true) : cmpR .eq en m x y = some (PyData.eqv d e) := by
  unfold cmpR; simp only [hx, hy, ha, hb, sa, sb]; rfl
theorem ne_data {en : En} {m : Sto} {x y : RV} {a b : W} {d e : PyData} (hx : rvW en x = some a) (hy : rvW en y = some b) (ha : pd m DEEP a = some d) (hb : pd m DEEP b = some e) (sa : SeqAt.shaped d = true) (sb : SeqAt.shaped e = true) : cmpR .ne en m x y = some (!PyData.eqv d e) := by
  unfold cmpR; simp only [hx, hy, ha, hb, sa, sb]; rfl
/-! ### what is equal -/
mutual
noncomputable def W.dat : Nat → W → Bool
  | _, .non => true
  | _, .int _ => true
  | _, .str s => PyData.strOk s
  | n + 1, .lst ws => W.dats n ws
  | n + 1, .tup ws => W.dats n ws
  | _, _ => false
noncomputable def W.dats : Nat → List W → Bool
  | _, [] => true
  | n, w :: ws => W.dat n w && W.dats n ws
end
mutual
noncomputable def W.toD : W → PyData
  | .non => .none
  | .int i => .int i
  | .str s => .str s
  | .lst ws => .list (W.toDs ws)
  | .tup ws => .tuple (W.toDs ws)
  | _ => .none
noncomputable def W.toDs : List W → List PyData
  | [] => []
  | w :: ws => W.toD w :: W.toDs ws
end
mutual
theorem pd_dat {m : Sto} : ∀ (n : Nat) (w : W), W.dat n w = true → pd m n w = some (W.toD w)
  | n, .non, h => by cases n <;> rfl
  | n, .int i, h => by cases n <;> rfl
  | n, .str i, h => by cases n <;> rfl
  | n + 1, .lst ws, h => by
    simp only [W.dat] at h
    simp only [pd, pds_dat n ws h, Option.map_some, W.toD]
  | n + 1, .tup ws, h => by
    simp only [W.dat] at h
    simp only [pd, pds_dat n ws h, Option.map_some, W.toD]
  | n, .bl _, h => by cases n <;> simp [W.dat] at h
  | n, .scr _, h => by cases n <;> simp [W.dat] at h
  | n, .ref _, h => by cases n <;> simp [W.dat] at h
  | n, .raw _, h => by cases n <;> simp [W.dat] at h
  | n, .fn _, h => by cases n <;> simp [W.dat] at h
  | n, .exc _, h => by cases n <;> simp [W.dat] at h
  | 0, .lst _, h => by simp [W.dat] at h
  | 0, .tup _, h => by simp [W.dat] at h
theorem pds_dat {m : Sto} : ∀ (n : Nat) (ws : List W), W.dats n ws = true → pdAll (pd m n) ws = some (W.toDs ws)
  | n, [], h => rfl
  | n, w :: ws, h => by
    simp only [W.dats, Bool.and_eq_true] at h
    simp only [pdAll, pd_dat n w h.1, pds_dat n ws h.2, W.toDs]
end
mutual
theorem shaped_dat : ∀ (n : Nat) (w : W), W.dat n w = true → (W.toD w).canLay0 = true ∧ (W.toD w).depth ≤ n
  | n, .non, h => by simp [W.toD, PyData.canLay0, PyData.depth]
  | n, .int i, h => by simp [W.toD, PyData.canLay0, PyData.depth]
  | n, .str i, h => by
    have h : PyData.strOk i = true := by cases n <;> simpa [W.dat] using h
    simp [W.toD, PyData.canLay0, PyData.depth, h]
  | n + 1, .lst ws, h => by
    simp only [W.dat] at h
    have := shapeds_dat n ws h
    simp only [W.toD, PyData.canLay0, PyData.depth]
    exact ⟨this.1, by omega⟩
  | n + 1, .tup ws, h => by
    simp only [W.dat] at h
    have := shapeds_dat n ws h
    simp only [W.toD, PyData.canLay0, PyData.depth]
    exact ⟨this.1, by omega⟩
  | n, .bl _, h => by cases n <;> simp [W.dat] at h
  | n, .scr _, h => by cases n <;> simp [W.dat] at h
  | n, .ref _, h => by cases n <;> simp [W.dat] at h
  | n, .raw _, h => by cases n <;> simp [W.dat] at h
  | n, .fn _, h => by cases n <;> simp [W.dat] at h
  | n, .exc _, h => by cases n <;> simp [W.dat] at h
  | 0, .lst _, h => by simp [W.dat] at h
  | 0, .tup _, h => by simp [W.dat] at h
theorem shapeds_dat : ∀ (n : Nat) (ws : List W), W.dats n ws = true → PyData.canLayAll0 (W.toDs ws) = true ∧ PyData.depthAll (W.toDs ws) ≤ n
  | n, [], h => by simp [W.toDs, PyData.canLayAll0, PyData.depthAll]
  | n, w :: ws, h => by
    simp only [W.dats, Bool.and_eq_true] at h
    have h1 := shaped_dat n w h.1
    have h2 := shapeds_dat n ws h.2
    simp only [W.toDs, PyData.canLayAll0, PyData.depthAll, h1.1, h2.1, Bool.and_self, true_and]
    omega
end
mutual
theorem eqv_dat : ∀ (n k : Nat) (a b : W), W.dat n a = true → W.dat k b = true → PyData.eqv (W.toD a) (W.toD b) = W.same a b
  | n, k, .non, b, h, h2 => by cases k <;> cases b <;> simp_all [W.dat, W.toD, PyData.eqv, W.same]
  | n, k, .int i, b, h, h2 => by cases k <;> cases b <;> simp_all [W.dat, W.toD, PyData.eqv, W.same]
  | n, k, .str i, b, h, h2 => by cases k <;> cases b <;> simp_all [W.dat, W.toD, PyData.eqv, W.same]
  | n + 1, k, .lst ws, b, h, h2 => by
    cases b with
    | lst zs =>
      cases k with
      | zero => simp [W.dat] at h2
      | succ k =>
        simp only [W.dat] at h h2
        simp only [W.toD, PyData.eqv, W.same]
        exact eqvs_dat n k ws zs h h2
    | _ => cases k <;> simp_all [W.dat, W.toD, PyData.eqv, W.same]
  | n + 1, k, .tup ws, b, h, h2 => by
    cases b with
    | tup zs =>
      cases k with
      | zero => simp [W.dat] at h2
      | succ k =>
        simp only [W.dat] at h h2
        simp only [W.toD, PyData.eqv, W.same]
        exact eqvs_dat n k ws zs h h2
    | _ => cases k <;> simp_all [W.dat, W.toD, PyData.eqv, W.same]
  | n, k, .bl _, b, h, h2 => by cases n <;> simp [W.dat] at h
  | n, k, .scr _, b, h, h2 => by cases n <;> simp [W.dat] at h
  | n, k, .ref _, b, h, h2 => by cases n <;> simp [W.dat] at h
  | n, k, .raw _, b, h, h2 => by cases n <;> simp [W.dat] at h
  | n, k, .fn _, b, h, h2 => by cases n <;> simp [W.dat] at h
  | n, k, .exc _, b, h, h2 => by cases n <;> simp [W.dat] at h
  | 0, k, .lst _, b, h, h2 => by simp [W.dat] at h
  | 0, k, .tup _, b, h, h2 => by simp [W.dat] at h
theorem eqvs_dat : ∀ (n k : Nat) (a b : List W), W.dats n a = true → W.dats k b = true → PyData.eqvAll (W.toDs a) (W.toDs b) = W.sames a b
  | n, k, [], b, h, h2 => by cases b <;> simp [W.toDs, PyData.eqvAll, W.sames]
  | n, k, a :: as, b, h, h2 => by
    cases b with
    | nil => simp [W.toDs, PyData.eqvAll, W.sames]
    | cons b bs =>
      simp only [W.dats, Bool.and_eq_true] at h h2
      simp only [W.toDs, PyData.eqvAll, W.sames, eqv_dat n k a b h.1 h2.1, eqvs_dat n k as bs h.2 h2.2]
end
noncomputable def rd (m : Sto) : W → W
  | .ref i => match m[i]? with
    | some (.lst ws) => .lst ws
    | _ => .ref i
  | w => w
theorem pd_rd {m : Sto} {n : Nat} {w : W} : pd m n (rd m w) = pd m n w := by
  cases w with
  | ref i =>
    cases q : m[i]? with
    | none => simp only [rd, q]
    | some b =>
      cases b with
      | lst ws => cases n with
        | zero => simp only [rd, q, pd]
        | succ n => simp only [rd, q, pd]
      | _ => simp only [rd, q]
  | _ => rfl
theorem eqR_dat {en : En} {m : Sto} {x y : RV} {a b : W} (hx : rvW en x = some a) (hy : rvW en y = some b) (ha : W.dat DEEP (rd m a) = true) (hb : W.dat DEEP (rd m b) = true) : cmpR .eq en m x y = some (W.same (rd m a) (rd m b)) := by
  have sh : ∀ {w}, W.dat DEEP w = true → SeqAt.shaped (W.toD w) = true := fun {w} h => by
    obtain ⟨h1, h2⟩ := shaped_dat DEEP w h
    unfold SeqAt.shaped
    rw [h1, decide_eq_true (Nat.le_trans h2 (by decide)), Bool.and_self]
  rw [eq_data hx hy (by rw [← pd_rd]; exact pd_dat _ _ ha) (by rw [← pd_rd]; exact pd_dat _ _ hb) (sh ha) (sh hb), eqv_dat _ _ _ _ ha hb]
theorem neR_dat {en : En} {m : Sto} {x y : RV} {a b : W} (hx : rvW en x = some a) (hy : rvW en y = some b) (ha : W.dat DEEP (rd m a) = true) (hb : W.dat DEEP (rd m b) = true) : cmpR .ne en m x y = some (!W.same (rd m a) (rd m b)) := by
  have sh : ∀ {w}, W.dat DEEP w = true → SeqAt.shaped (W.toD w) = true := fun {w} h => by
    obtain ⟨h1, h2⟩ := shaped_dat DEEP w h
    unfold SeqAt.shaped
    rw [h1, decide_eq_true (Nat.le_trans h2 (by decide)), Bool.and_self]
  rw [ne_data hx hy (by rw [← pd_rd]; exact pd_dat _ _ ha) (by rw [← pd_rd]; exact pd_dat _ _ hb) (sh ha) (sh hb), eqv_dat _ _ _ _ ha hb]
theorem dats_ints (n : Nat) : ∀ ns : List Int, W.dats n (ns.map W.int) = true
  | [] => by simp [W.dats]
  | i :: ns => by
    have : W.dat n (.int i) = true := by cases n <;> rfl
    simp [W.dats, this, dats_ints n ns]
@[simp] theorem sames_ints : ∀ (a b : List Int), W.sames (a.map W.int) (b.map W.int) = decide (a = b)
  | [], [] => by simp [W.sames]
  | [], _ :: _ => by simp [W.sames]
  | _ :: _, [] => by simp [W.sames]
  | x :: a, y :: b => by
    simp only [List.map_cons, W.sames, W.same, sames_ints a b]
    by_cases h1 : x = y <;> by_cases h2 : a = b <;> simp [h1, h2]
@[simp] theorem eq_ints {en : En} {m : Sto} {i j : Int} : cmpR .eq en m (.val (.int i)) (.val (.int j)) = some (decide (i = j)) := by
  rw [eqR_dat rfl rfl rfl rfl]
  show some (i == j) = _
  by_cases h : i = j <;> simp [h]
@[simp] theorem ne_ints {en : En} {m : Sto} {i j : Int} : cmpR .ne en m (.val (.int i)) (.val (.int j)) = some (decide (i ≠ j)) := by
  rw [neR_dat rfl rfl rfl rfl]
  show some (!(i == j)) = _
  by_cases h : i = j <;> simp [h]
/-! ### calls -/
theorem call_at {fs : List Fd} {gl : List W} {N k f : Nat} {d : Fd} {ws : List W} {m : Sto} (h : fs[f]? = some d) (hn : ws.length = d.np) :
    callN fs gl N (k + 1) f ws m = endR (sv (callN fs gl N k) gl N d.body (ws.map (fun w => some (.val w)) ++ List.replicate (d.nn - ws.length) none) m) := by
  show (match fs[f]? with
    | some d => if ws.length = d.np then runB (callN fs gl N k) gl N d ws m else .bad
    | none => .bad) = _
  rw [h]
  dsimp only
  rw [if_pos hn]
  rfl
theorem get_set {m : Sto} {r : Nat} {o b : Ob} (h : m[r]? = some o) : (m.set r b)[r]? = some b := by
  have := (List.getElem?_eq_some_iff.mp h).1
  rw [List.getElem?_set_self this]
@[simp] theorem val_val {w : W} : val? (.val w) = some w := rfl
theorem at_ok {A : Type} {xs : List A} {i : Int} {v : A} (h0 : 0 ≤ i) (h : xs[i.toNat]? = some v) : atI xs i = some v := by
  have := atI_nat h
  rwa [Int.toNat_of_nonneg h0] at this
@[simp] theorem at_0 {A : Type} {x : A} {xs : List A} : atI (x :: xs) 0 = some x := at_ok (by decide) rfl
@[simp] theorem at_1 {A : Type} {x y : A} {xs : List A} : atI (x :: y :: xs) 1 = some y := at_ok (by decide) rfl
@[simp] theorem at_2 {A : Type} {x y z : A} {xs : List A} : atI (x :: y :: z :: xs) 2 = some z := at_ok (by decide) rfl
@[simp] theorem at_3 {A : Type} {x y z u : A} {xs : List A} : atI (x :: y :: z :: u :: xs) 3 = some u := at_ok (by decide) rfl
@[simp] theorem at_4 {A : Type} {x y z u v : A} {xs : List A} : atI (x :: y :: z :: u :: v :: xs) 4 = some v := at_ok (by decide) rfl
@[simp] theorem idx_lst {en : En} {m : Sto} {ws : List W} {i : Int} : idxR en m (.val (.lst ws)) (.val (.int i)) = atI ws i := rfl
@[simp] theorem idx_tup {en : En} {m : Sto} {ws : List W} {i : Int} : idxR en m (.val (.tup ws)) (.val (.int i)) = atI ws i := rfl
@[simp] theorem idx_scr {en : En} {m : Sto} {ws : List W} {i : Int} : idxR en m (.val (.scr ws)) (.val (.int i)) = atI ws i := rfl
theorem idx_ref {en : En} {m : Sto} {ws : List W} {r : Nat} {i : Int} (h : m[r]? = some (.lst ws)) : idxR en m (.val (.ref r)) (.val (.int i)) = atI ws i := by
  show (seqW m (.ref r)).bind _ = _
  unfold seqW lstS
  simp only [lstW_ref h, Option.bind_some]
theorem idx_own {en : En} {m : Sto} {ws : List W} {j : Nat} {i : Int} (h : enGet en j = some (.own ws)) : idxR en m (.bor j) (.val (.int i)) = atI ws i := by
  unfold idxR
  simp only [rvW_bor, h, Option.map_some, slW_own, rvW_val]
  rfl
theorem set_ref {en : En} {m : Sto} {ws : List W} {r k : Nat} {i : Int} {v : W} (h : m[r]? = some (.lst ws)) (hk : ixN ws.length i = some k) : setAt en m (.val (.ref r)) (.int i) v = some (en, m.set r (.lst (ws.set k v))) := by
  unfold setAt
  simp only [h, hk, Option.map_some]
theorem set_own {en : En} {m : Sto} {ws : List W} {j k : Nat} {i : Int} {v : W} (h : enGet en j = some (.own ws)) (hk : ixN ws.length i = some k) : setAt en m (.bor j) (.int i) v = some (en.set j (some (.own (ws.set k v))), m) := by
  unfold setAt
  simp only [h, hk, Option.map_some]
@[simp] theorem ix_0 {n : Nat} : ixN (n + 1) 0 = some 0 := by unfold ixN; rw [if_pos (by decide), if_pos (by omega)]; rfl
@[simp] theorem end_nx {en : En} {m : Sto} : endR (.ok .nx en m) = .ok (.val .non) m := rfl
@[simp] theorem end_rt {r : RV} {en : En} {m : Sto} : endR (.ok (.rt r) en m) = .ok r m := rfl
/-! ### loops, turn by turn -/
section
variable (cs : Nat → List W → Sto → CR) (gl : List W) (N : Nat)
noncomputable def wl (c : E) (b : S) (n : Nat) (en : En) (m : Sto) : R Out := whileL (fun en m => (ev cs gl c en m).bind fun x en m => opt (blR x) fun t => .ok t en m) (fun en m => sv cs gl N b en m) n en m
noncomputable def thn (o : R Out) (f : En → Sto → R Out) (_ : Pin f := ⟨⟩) : R Out := o.bind fun o en m => match o with
  | .nx => f en m
  | .rt r => .ok (.rt r) en m
noncomputable def fl (tg : Tg) (b : S) (ck : List (Nat × List W)) (zs : List W) (en : En) (m : Sto) : R Out := forL (chk ck) (fun w en m => opt (bindT tg w m en) fun en => sv cs gl N b en m) zs en m
noncomputable def cl (tg : Tg) (js : List Nat) (c elt : E) (ck : List (Nat × List W)) (zs : List W) (en : En) (m : Sto) : R (List W) :=
  compL (chk ck) (compF tg js (isNil c) (fun en m => ev cs gl c en m) (fun en m => ev cs gl elt en m)) zs en m
end
section
variable {cs : Nat → List W → Sto → CR} {gl : List W} {N : Nat} {en en2 : En} {m m2 : Sto}
@[simp] theorem thn_nx {f : En → Sto → R Out} {h : Pin f} : thn (.ok .nx en m) f h = f en m := rfl
@[simp] theorem thn_rt {r : RV} {f : En → Sto → R Out} {h : Pin f} : thn (.ok (.rt r) en m) f h = .ok (.rt r) en m := rfl
@[simp] theorem sv_seq {s t : S} : sv cs gl N (.seq s t) en m = thn (sv cs gl N s en m) (sv cs gl N t) := by
  simp only [sv]
  rfl
@[simp] theorem sv_whl {c : E} {b : S} : sv cs gl N (.whl c b) en m = wl cs gl N c b N en m := rfl
@[simp] theorem sv_for {it : It} {src : E} {tg : Tg} {b : S} : sv cs gl N (.for_ it src tg b) en m = bnd (evs cs gl src en m) fun ws en m => opt2p (itemsR it m ws) fun zs ck => fl cs gl N tg b ck zs en m := rfl
theorem fl_nil {tg : Tg} {b : S} {ck : List (Nat × List W)} (h : chk ck m = true) : fl cs gl N tg b ck [] en m = .ok .nx en m := by
  unfold fl forL
  rw [if_pos h]
theorem fl_cons {tg : Tg} {b : S} {ck : List (Nat × List W)} {z : W} {zs : List W} (h : chk ck m = true) : fl cs gl N tg b ck (z :: zs) en m = thn (optp (bindT tg z m en) fun en => sv cs gl N b en m) (fl cs gl N tg b ck zs) := by
  show forL _ _ _ _ _ = _
  unfold forL
  rw [if_pos h]
  rfl
@[simp] theorem chk_nil : chk [] m = true := rfl
@[simp] theorem ev_comp {it : It} {src c elt : E} {tg : Tg} {js : List Nat} : ev cs gl (.comp it src tg js c elt) en m = bnd (evs cs gl src en m) fun ws en m => opt2p (itemsR it m ws) fun zs ck =>
    if zs.length ≤ LIM then bnd (cl cs gl tg js c elt ck zs (wipeE (frzE en js) js) m) fun r en2 m => .ok (.new r) (restE (frzE en js) en2 js) m else .bad := by
  simp only [ev]; rfl
theorem cl_nil {tg : Tg} {js : List Nat} {c elt : E} {ck : List (Nat × List W)} (h : chk ck m = true) : cl cs gl tg js c elt ck [] en m = .ok [] en m := by
  unfold cl compL
  rw [if_pos h]
theorem cl_keep {tg : Tg} {js : List Nat} {c elt : E} {ck : List (Nat × List W)} {z w : W} {zs : List W} {x : RV} {en3 en4 en5 : En} {m3 m4 : Sto} (h : chk ck m = true) (hb : bindT tg z m en = some en2)
    (hc : if isNil c then en3 = en2 ∧ m3 = m else ev cs gl c en2 m = .ok (.val (.bl true)) en3 m3) (he : ev cs gl elt en3 m3 = .ok x en4 m4) (hx : esc x en4 = some (w, en5)) :
    cl cs gl tg js c elt ck (z :: zs) en m = (cl cs gl tg js c elt ck zs (wipeE en5 js) m4).bind fun r en m => .ok (w :: r) en m := by
  show compL _ _ _ _ _ = _
  unfold compL
  rw [if_pos h]
  have e : compF tg js (isNil c) (fun en m => ev cs gl c en m) (fun en m => ev cs gl elt en m) z en m = .ok (some w) (wipeE en5 js) m4 := by
    unfold compF
    rw [hb]
    cases q : isNil c with
    | true =>
      rw [q] at hc
      obtain ⟨rfl, rfl⟩ := hc
      simp only [opt_someR, ↓reduceIte, bind_okR, he, hx, opt2_someR]
    | false =>
      rw [q] at hc
      have hc : ev cs gl c en2 m = .ok (.val (.bl true)) en3 m3 := hc
      simp only [opt_someR, Bool.false_eq_true, ↓reduceIte, hc, bind_okR, blR_bl, he, hx, opt2_someR]
  rw [e]; rfl
theorem cl_drop {tg : Tg} {js : List Nat} {c elt : E} {ck : List (Nat × List W)} {z : W} {zs : List W} {en3 : En} {m3 : Sto} (h : chk ck m = true) (hb : bindT tg z m en = some en2)
    (hn : isNil c = false) (hc : ev cs gl c en2 m = .ok (.val (.bl false)) en3 m3) : cl cs gl tg js c elt ck (z :: zs) en m = cl cs gl tg js c elt ck zs (wipeE en3 js) m3 := by
  show compL _ _ _ _ _ = _
  unfold compL
  rw [if_pos h]
  have e : compF tg js (isNil c) (fun en m => ev cs gl c en m) (fun en m => ev cs gl elt en m) z en m = .ok none (wipeE en3 js) m3 := by
    unfold compF
    rw [hb, hn]
    simp only [opt_someR, Bool.false_eq_true, ↓reduceIte, hc, bind_okR, blR_bl]
  rw [e]
  show ((R.ok none (wipeE en3 js) m3 : R (Option W)).noex.bind _) = _
  show (compL _ _ zs _ _).bind _ = _
  unfold cl
  cases compL (chk ck) (compF tg js (isNil c) (fun en m => ev cs gl c en m) (fun en m => ev cs gl elt en m)) zs (wipeE en3 js) m3 <;> rfl
theorem cl_map {tg : Tg} {js : List Nat} {c elt : E} {ck : List (Nat × List W)} (p : W → Bool) (f : W → W) : ∀ {zs : List W}, chk ck m = true → (∀ z ∈ zs, ∃ en2, bindT tg z m en = some en2 ∧ wipeE en2 js = en ∧
      (if isNil c then p z = true else ev cs gl c en2 m = .ok (.val (.bl (p z))) en2 m) ∧ (p z = true → ev cs gl elt en2 m = .ok (.val (f z)) en2 m)) →
    cl cs gl tg js c elt ck zs en m = .ok ((zs.filter p).map f) en m
  | [], h, _ => cl_nil h
  | z :: zs, h, q => by
    obtain ⟨en2, q1, q2, q3, q4⟩ := q z List.mem_cons_self
    have ih := cl_map (tg := tg) (js := js) (c := c) (elt := elt) (ck := ck) p f (zs := zs) h fun y hy => q y (List.mem_cons_of_mem _ hy)
    cases hp : p z with
    | true =>
      rw [cl_keep h q1 (en3 := en2) (m3 := m) (by
        split
        · exact ⟨rfl, rfl⟩
        · rename_i hn
          rw [if_neg hn, hp] at q3; exact q3) (q4 hp) rfl, q2, ih, List.filter_cons_of_pos hp]
      rfl
    | false =>
      cases hn : isNil c with
      | true => rw [hn, if_pos rfl, hp] at q3; cases q3
      | false =>
        rw [hn, if_neg Bool.false_ne_true, hp] at q3
        rw [cl_drop h q1 hn q3, q2, ih, List.filter_cons_of_neg (by rw [hp]; exact Bool.false_ne_true)]
end
/-! ### one step each -/
section
variable {cs : Nat → List W → Sto → CR} {gl : List W} {N : Nat} {en : En} {m : Sto}
@[simp] theorem ev_var {j : Nat} : ev cs gl (.var j) en m = match enGet en j with
    | some (.val w) => .ok (.val w) en m
    | some (.own _) => .ok (.bor j) en m
    | none => .bad := by
  simp only [ev] <;> (cases enGet en j with
  | none => rfl
  | some s => cases s <;> rfl)
@[simp] theorem ev_int {i : Int} : ev cs gl (.int i) en m = .ok (.val (.int i)) en m := by simp only [ev]
@[simp] theorem ev_bl {i : Bool} : ev cs gl (.bl i) en m = .ok (.val (.bl i)) en m := by simp only [ev]
@[simp] theorem ev_non : ev cs gl .non en m = .ok (.val .non) en m := by simp only [ev]
@[simp] theorem ev_str {s : Str} : ev cs gl (.str s) en m = .ok (.val (.str s)) en m := by simp only [ev]
@[simp] theorem ev_glob {g : Nat} : ev cs gl (.glob g) en m = optp gl[g]? fun w => .ok (.val w) en m := by simp only [ev]; rfl
@[simp] theorem ev_bin {op : Op} {a b : E} : ev cs gl (.bin op a b) en m = bnd (ev cs gl a en m) fun x en m => bnd (ev cs gl b en m) fun y en m => optp (binR op en m (hold x) (hold y)) fun r => .ok r en m := by simp only [ev]; rfl
@[simp] theorem ev_neg {a : E} : ev cs gl (.neg a) en m = bnd (ev cs gl a en m) fun x en m => optp (intR x) fun i => .ok (.val (.int (-i))) en m := by simp only [ev]; rfl
@[simp] theorem ev_cmp {op : Cm} {a b : E} : ev cs gl (.cmp op a b) en m = bnd (ev cs gl a en m) fun x en m => bnd (ev cs gl b en m) fun y en m => optp (cmpR op en m (hold x) (hold y)) fun r => .ok (.val (.bl r)) en m := by simp only [ev]; rfl
@[simp] theorem ev_chain {op op2 : Cm} {a b c : E} : ev cs gl (.chain op op2 a b c) en m = bnd (ev cs gl a en m) fun x en m => bnd (ev cs gl b en m) fun y en m => optp (cmpR op en m (hold x) (hold y)) fun r =>
      if r then bnd (ev cs gl c en m) fun z en m => optp (cmpR op2 en m (hold y) (hold z)) fun r => .ok (.val (.bl r)) en m else .ok (.val (.bl false)) en m := by simp only [ev]; rfl
@[simp] theorem ev_not {a : E} : ev cs gl (.not a) en m = bnd (ev cs gl a en m) fun x en m => optp (blR x) fun b => .ok (.val (.bl (!b))) en m := by simp only [ev]; rfl
@[simp] theorem ev_ite {c a b : E} : ev cs gl (.ite c a b) en m = bnd (ev cs gl c en m) fun x en m => optp (blR x) fun t => if t then ev cs gl a en m else ev cs gl b en m := by simp only [ev]; rfl
@[simp] theorem ev_lst {es : E} : ev cs gl (.lst es) en m = bnd (evs cs gl es en m) fun ws en m => if ws.length ≤ LIM then .ok (.new ws) en m else .bad := by simp only [ev]; rfl
@[simp] theorem ev_tup {es : E} : ev cs gl (.tup es) en m = bnd (evs cs gl es en m) fun ws en m => if ws.length ≤ LIM then .ok (.val (.tup ws)) en m else .bad := by simp only [ev]; rfl
@[simp] theorem ev_idx {a i : E} : ev cs gl (.idx a i) en m = bnd (ev cs gl a en m) fun x en m => bnd (ev cs gl i en m) fun y en m => optp (idxR en m (hold x) (hold y)) fun w => .ok (.val w) en m := by simp only [ev]; rfl
@[simp] theorem ev_call {f n : Nat} {es : E} : ev cs gl (.call f n es) en m = bnd (evs cs gl es en m) fun ws en m => if ws.length = n then (cs f ws m).toR en else .bad := by simp only [ev]; rfl
@[simp] theorem ev_blt {b : Bi} {es : E} : ev cs gl (.blt b es) en m = bnd (evl cs gl es en m) fun ws en m => optp (bltR b m ws) fun r => .ok r en m := by simp only [ev]; rfl
@[simp] theorem ev_and {es : E} : ev cs gl (.and es) en m = evAnd cs gl es en m := by simp only [ev]
@[simp] theorem ev_or {es : E} : ev cs gl (.or es) en m = evOr cs gl es en m := by simp only [ev]
@[simp] theorem evAnd_1 {a : E} : evAnd cs gl (.cons a .nil) en m = ev cs gl a en m := by simp only [evAnd]
@[simp] theorem evAnd_2 {a b c : E} : evAnd cs gl (.cons a (.cons b c)) en m = bnd (ev cs gl a en m) fun x en m => optp (blR x) fun t => if t then evAnd cs gl (.cons b c) en m else .ok (.val (.bl false)) en m := by simp only [evAnd]; rfl
@[simp] theorem evOr_1 {a : E} : evOr cs gl (.cons a .nil) en m = ev cs gl a en m := by simp only [evOr]
@[simp] theorem evOr_2 {a b c : E} : evOr cs gl (.cons a (.cons b c)) en m = bnd (ev cs gl a en m) fun x en m => optp (blR x) fun t => if t then .ok (.val (.bl true)) en m else evOr cs gl (.cons b c) en m := by simp only [evOr]; rfl
@[simp] theorem evs_nil : evs cs gl .nil en m = .ok [] en m := by simp only [evs]
@[simp] theorem evs_cons {e es : E} : evs cs gl (.cons e es) en m = bnd (ev cs gl e en m) fun x en m => opt2p (esc x en) fun w en => bnd (evs cs gl es en m) fun ws en m => .ok (w :: ws) en m := by simp only [evs]; rfl
@[simp] theorem evl_1 {e : E} : evl cs gl (.cons e .nil) en m = bnd (ev cs gl e en m) fun x en m => optp (rvW en x) fun w => .ok [w] en m := by simp only [evl]; rfl
@[simp] theorem evl_2 {e a es : E} : evl cs gl (.cons e (.cons a es)) en m = bnd (ev cs gl e en m) fun x en m => opt2p (esc x en) fun w en => bnd (evs cs gl (.cons a es) en m) fun ws en m => .ok (w :: ws) en m := by simp only [evl]; rfl
@[simp] theorem ev_box {a : E} : ev cs gl (.box a) en m = bnd (ev cs gl a en m) boxP := by simp only [ev]; rfl
@[simp] theorem ev_isi {a : E} {ts : List Ty} : ev cs gl (.isi a ts) en m = bnd (ev cs gl a en m) fun x en m => optp (rvW en x) fun w => optp (tyR m w) fun t => .ok (.val (.bl (ts.any (isT t)))) en m := by simp only [ev]; rfl
@[simp] theorem sv_skip : sv cs gl N .skip en m = .ok .nx en m := by simp only [sv]
@[simp] theorem sv_asg {j : Nat} {e : E} : sv cs gl N (.asg j e) en m = bnd (ev cs gl e en m) fun x en m => opt2p (slOf x en) fun s en => .ok .nx (en.set j (some s)) m := by simp only [sv]; rfl
@[simp] theorem sv_unp {tg : Tg} {e : E} : sv cs gl N (.unp tg e) en m = bnd (ev cs gl e en m) fun x en m => opt2p (esc x en) fun w en => optp (bindT tg w m en) fun en => .ok .nx en m := by simp only [sv]; rfl
@[simp] theorem sv_seti {a i e : E} : sv cs gl N (.seti a i e) en m = bnd (ev cs gl e en m) fun x en m => opt2p (esc x en) fun w en => bnd (ev cs gl a en m) fun o en m => bnd (ev cs gl i en m) fun y en m =>
      optp (val? y) fun i => opt2p (setAt en m (hold o) i w) fun en m => .ok .nx en m := by simp only [sv]; rfl
@[simp] theorem sv_app {a e : E} : sv cs gl N (.app a e) en m = bnd (ev cs gl a en m) fun o en m => optp (rvL en m (hold o)) fun _ => bnd (ev cs gl e en m) fun x en m => opt2p (esc x en) fun w en => opt2p (appTo en m (hold o) w) fun en m => .ok .nx en m := by simp only [sv]; rfl
@[simp] theorem sv_ex {e : E} : sv cs gl N (.ex e) en m = bnd (ev cs gl e en m) fun _ en m => .ok .nx en m := by simp only [sv]; rfl
@[simp] theorem sv_ret {e : E} : sv cs gl N (.ret e) en m = bnd (ev cs gl e en m) fun x en m => optp (retR x en) fun r => .ok (.rt r) en m := by simp only [sv]; rfl
@[simp] theorem sv_retn : sv cs gl N .retn en m = .ok (.rt (.val .non)) en m := by simp only [sv]
@[simp] theorem sv_iff {c : E} {s t : S} : sv cs gl N (.iff c s t) en m = bnd (ev cs gl c en m) fun x en m => optp (blR x) fun b => if b then sv cs gl N s en m else sv cs gl N t en m := by simp only [sv]; rfl
@[simp] theorem sv_never : sv cs gl N .never en m = .bad := by simp only [sv]
@[simp] theorem sv_tryn {b : S} : sv cs gl N (.tryn b) en m = (sv cs gl N b en m).noex := by simp only [sv]
@[simp] theorem sv_unpi {a i e : E} {j : Nat} : sv cs gl N (.unpi a i j e) en m = bnd (ev cs gl e en m) fun x en m => opt2p (esc x en) fun w en => match w with
    | .tup [w1, w2] => bnd (ev cs gl a en m) fun o en m => bnd (ev cs gl i en m) fun y en m => optp (val? y) fun i => opt2p (setAt en m (hold o) i w1) fun en m => .ok .nx (en.set j (some (.val w2))) m
    | _ => .bad := by simp only [sv]; rfl
@[simp] theorem ev_gget {x : Str} {kvs : List (Str × Int)} {k d : E} : ev cs gl (.gget x kvs k d) en m = bnd (ev cs gl k en m) fun y en m => optp ((rvW en y).bind strW) fun z => bnd (ev cs gl d en m) fun u en m => optp (intR u) fun i => .ok (.val (.int ((kvs.lookup z).getD i))) en m := by simp only [ev]; rfl
@[simp] theorem ev_lrng3 {a b : E} : ev cs gl (.lrng3 a b) en m = bnd (ev cs gl a en m) fun x en m => bnd (ev cs gl b en m) fun y en m => optp (intR x) fun a => optp (intR y) fun b => if -100000 ≤ a ∧ a ≤ 100000 ∧ -100000 ≤ b ∧ b ≤ 100000 then .ok (.new ((List.range (a - b).toNat).map fun (i : Nat) => .int (a + (i : Int) * (-1)))) en m else .bad := by simp only [ev]; rfl
@[simp] theorem ev_lset {a : E} : ev cs gl (.lset a) en m = bnd (ev cs gl a en m) fun x en m => optp ((rvL en m x).bind intsW) fun ns => if ns.length ≤ 4000 then .ok (.val (.int ((ns.foldl dedI []).length : Nat))) en m else .bad := by simp only [ev]; rfl
@[simp] theorem ev_tupl {a : E} : ev cs gl (.tupl a) en m = bnd (ev cs gl a en m) fun x en m => optp (rvL en m x) fun ws => .ok (.val (.tup ws)) en m := by simp only [ev]; rfl
@[simp] theorem ev_tcnt {a b : E} : ev cs gl (.tcnt a b) en m = bnd (ev cs gl a en m) fun x en m => optp ((rvW en x).bind strW) fun s => bnd (ev cs gl b en m) fun y en m => optp ((rvW en y).bind strW) fun t => .ok (.val (.int (Txt.count s t))) en m := by simp only [ev]; rfl
@[simp] theorem ev_tidx {a b : E} : ev cs gl (.tidx a b) en m = bnd (ev cs gl a en m) fun x en m => optp ((rvW en x).bind strW) fun s => bnd (ev cs gl b en m) fun y en m => optp ((rvW en y).bind strW) fun t => optp (Builtin.Str.occurrences s t 0 s.length 1).head? fun i => .ok (.val (.int (i : Nat))) en m := by simp only [ev]; rfl
@[simp] theorem sv_rsp {j i : Nat} {y z w : Str} : sv cs gl N (.rsp j i y z w) en m = match enGet en i with
    | some (.val (.str s)) => if (w.length == 0) = false ∧ (y == z) = false ∧ s.length + 2 * z.length + 4 ≤ LIM ∧ (repl1 s y z).length + 2 ≤ LIM then .ok .nx (en.set j (some (.own ((Txt.split (repl1 s y z) w).map W.str)))) m else .bad
    | _ => .bad := by simp only [sv] <;> rfl
end
inductive All2 {A B : Type} (Q : A → B → Prop) : List A → List B → Prop
  | nil : All2 Q [] []
  | cons {a : A} {b : B} {as : List A} {bs : List B} : Q a b → All2 Q as bs → All2 Q (a :: as) (b :: bs)
theorem All2.len {A B : Type} {Q : A → B → Prop} : ∀ {as : List A} {bs : List B}, All2 Q as bs → as.length = bs.length
  | _, _, .nil => rfl
  | _, _, .cons _ l => by rw [List.length_cons, List.length_cons, l.len]
section
variable {cs : Nat → List W → Sto → CR} {gl : List W} {N : Nat} {en : En} {m : Sto}
theorem cl_each {tg : Tg} {js : List Nat} {elt : E} (I : Sto → Prop) (Q : W → W → Prop) : ∀ {zs : List W} {m : Sto}, I m →
    (∀ z ∈ zs, ∀ m, I m → ∃ en2 x en3 m2 w en4, bindT tg z m en = some en2 ∧ ev cs gl elt en2 m = .ok x en3 m2 ∧ esc x en3 = some (w, en4) ∧ wipeE en4 js = en ∧ I m2 ∧ Q z w) →
    ∃ rs m2, cl cs gl tg js .nil elt [] zs en m = .ok rs en m2 ∧ I m2 ∧ All2 Q zs rs
  | [], m, h, _ => ⟨[], m, cl_nil rfl, h, .nil⟩
  | z :: zs, m, h, q => by
    obtain ⟨en2, x, en3, m2, w, en4, q1, q2, q3, q4, q5, q6⟩ := q z List.mem_cons_self m h
    obtain ⟨rs, m3, r1, r2, r3⟩ := cl_each (tg := tg) (js := js) (elt := elt) I Q q5 fun y hy => q y (List.mem_cons_of_mem _ hy)
    refine ⟨w :: rs, m3, ?_, r2, .cons q6 r3⟩
    rw [cl_keep rfl q1 (en3 := en2) (m3 := m) (by simp [isNil]) q2 q3, q4, r1]
    rfl
theorem set_set {r : Nat} {a b : Ob} : (m.set r a).set r b = m.set r b := List.set_set ..
theorem lt_of_get {r : Nat} {a : Ob} (h : m[r]? = some a) : r < m.length := (List.getElem?_eq_some_iff.mp h).1
end
section
variable {fs : List Fd} {gl : List W} {N k f : Nat} {m : Sto}
theorem take_run {r : Nat} {d n : Int} (hf : fs[f]? = some ⟨2, 3, b_law_take⟩) (hm : m[r]? = some (.lst [.int d])) (hn : 0 < n) (hb : n < BIG) :
    callN fs gl N (k + 1) f [.ref r, .int n] m = .ok (.val (.int (d % n))) (m.set r (.lst [.int (d / n)])) := by
  rw [call_at hf rfl]
  simp [b_law_take, idx_ref hm, mod_ints hn, fdiv_ints ⟨hn, hb⟩, set_ref hm]
end
end Mp
set_option Elab.async false
set_option linter.all false
set_option maxRecDepth 100000
set_option maxHeartbeats 4000000
/-! what a value reads as -/
namespace Mp
open PySem PySem.Spec PyProof.Rows L2
structure Sees (m : Sto) (w d : W) : Prop where
  pd : Mp.pd m DEEP w = some d.toD
  dat : W.dat DEEP d = true
theorem shaped_sees {d : W} (h : W.dat DEEP d = true) : SeqAt.shaped d.toD = true := by
  obtain ⟨h1, h2⟩ := shaped_dat DEEP d h
  unfold SeqAt.shaped
  rw [h1, decide_eq_true (Nat.le_trans h2 (by decide)), Bool.and_self]
theorem Sees.self {m : Sto} {d : W} (h : W.dat DEEP d = true) : Sees m d d := ⟨pd_dat _ _ h, h⟩
theorem eq_sees {en : En} {m : Sto} {x y : RV} {a b a2 b2 : W} (hx : rvW en x = some a) (hy : rvW en y = some b) (ha : Sees m a a2) (hb : Sees m b b2) : cmpR .eq en m x y = some (W.same a2 b2) := by
  rw [eq_data hx hy ha.pd hb.pd (shaped_sees ha.dat) (shaped_sees hb.dat), eqv_dat _ _ _ _ ha.dat hb.dat]
theorem ne_sees {en : En} {m : Sto} {x y : RV} {a b a2 b2 : W} (hx : rvW en x = some a) (hy : rvW en y = some b) (ha : Sees m a a2) (hb : Sees m b b2) : cmpR .ne en m x y = some (!W.same a2 b2) := by
  rw [ne_data hx hy ha.pd hb.pd (shaped_sees ha.dat) (shaped_sees hb.dat), eqv_dat _ _ _ _ ha.dat hb.dat]
end Mp
set_option Elab.async false
set_option linter.all false
namespace Mp
noncomputable def b_Writer___init__ (c_need_prime : Nat) (c_need_table : Nat) (cl_letters : List Nat) (cl_prime : List Nat) (cl_worths : List Nat) : S := (.seq (.ex (.call c_need_prime 1 (.cons (.var 1) .nil)))
  (.seq (.ex (.call c_need_table 2 (.cons (.var 2) (.cons (.var 1) .nil))))
  (.seq (.setf (.var 0) "prime" cl_prime (.var 1))
  (.seq (.setf (.var 0) "worths" cl_worths (.box (.blt .list (.cons (.var 2) .nil))))
  (.seq (.setf (.var 0) "letters" cl_letters (.box (.lst .nil)))
  .skip)))))
noncomputable def b_Writer_letter (cl_letters : List Nat) : S := (.seq (.iff (.not (.chain .le .le (.int 1) (.var 1) (.blt .len (.cons (.fld (.var 0) "letters" cl_letters) .nil)))) (.seq .never
  .skip) .skip)
  (.seq (.ret (.idx (.fld (.var 0) "letters" cl_letters) (.bin .sub (.var 1) (.int 1))))
  .skip))
noncomputable def b_Writer_made (cl_letters : List Nat) : S := (.seq (.ret (.blt .len (.cons (.fld (.var 0) "letters" cl_letters) .nil)))
  .skip)
noncomputable def b_Writer_put (cl_letters : List Nat) (cl_prime : List Nat) (cl_worths : List Nat) : S := (.seq (.iff (.not (.chain .le .lt (.int 0) (.var 1) (.blt .len (.cons (.fld (.var 0) "worths" cl_worths) .nil)))) (.seq .never
  .skip) .skip)
  (.seq (.iff (.not (.chain .le .lt (.int 0) (.var 2) (.fld (.var 0) "prime" cl_prime))) (.seq .never
  .skip) .skip)
  (.seq (.seti (.fld (.var 0) "worths" cl_worths) (.var 1) (.var 2))
  (.seq (.app (.fld (.var 0) "letters" cl_letters) (.tup (.cons (.bin .add (.blt .len (.cons (.fld (.var 0) "letters" cl_letters) .nil)) (.int 1)) (.cons (.var 1) (.cons (.var 2) .nil)))))
  (.seq (.ret (.idx (.fld (.var 0) "letters" cl_letters) (.neg (.int 1))))
  .skip)))))
end Mp
set_option Elab.async false
set_option linter.all false
namespace Mp
noncomputable def b_Reader___init__ (c_need_prime : Nat) (c_need_table : Nat) (cl_covered : List Nat) (cl_greatest : List Nat) (cl_known : List Nat) (cl_prime : List Nat) (cl_worths : List Nat) : S := (.seq (.ex (.call c_need_prime 1 (.cons (.var 1) .nil)))
  (.seq (.ex (.call c_need_table 2 (.cons (.var 2) (.cons (.var 1) .nil))))
  (.seq (.setf (.var 0) "prime" cl_prime (.var 1))
  (.seq (.setf (.var 0) "worths" cl_worths (.box (.blt .list (.cons (.var 2) .nil))))
  (.seq (.setf (.var 0) "covered" cl_covered (.int 0))
  (.seq (.setf (.var 0) "known" cl_known .dnew)
  (.seq (.setf (.var 0) "greatest" cl_greatest .dnew)
  .skip)))))))
noncomputable def b_Reader_asks (cl_worths : List Nat) (mt_how_many_lack : List (Nat × Nat)) : S := (.seq (.asg 2 (.mcall (.var 0) "how_many_lack" mt_how_many_lack 1 (.cons (.var 1) .nil)))
  (.seq (.iff (.cmp .eq (.var 2) (.int 0)) (.seq (.ret (.tup (.cons (.str "none") .nil)))
  .skip) .skip)
  (.seq (.iff (.cmp .lt (.bin .mul (.int 2) (.var 2)) (.blt .len (.cons (.fld (.var 0) "worths" cl_worths) .nil))) (.seq (.ret (.tup (.cons (.str "sums") (.cons (.bin .mul (.int 2) (.var 2)) .nil))))
  .skip) .skip)
  (.seq (.ret (.tup (.cons (.str "whole") .nil)))
  .skip))))
noncomputable def b_Reader_come (cl_covered : List Nat) (cl_greatest : List Nat) (cl_known : List Nat) (cl_prime : List Nat) (cl_worths : List Nat) : S := (.seq (.unp (.many [2, 3, 4]) (.var 1))
  (.seq (.iff (.or (.cons (.cmp .lt (.var 2) (.int 1)) (.cons (.not (.chain .le .lt (.int 0) (.var 3) (.blt .len (.cons (.fld (.var 0) "worths" cl_worths) .nil)))) (.cons (.not (.chain .le .lt (.int 0) (.var 4) (.fld (.var 0) "prime" cl_prime))) .nil)))) (.seq .never
  .skip) .skip)
  (.seq (.iff (.or (.cons (.din false (.var 2) (.fld (.var 0) "known" cl_known)) (.cons (.cmp .le (.var 2) (.fld (.var 0) "covered" cl_covered)) .nil))) (.seq (.ret (.str "seen"))
  .skip) .skip)
  (.seq (.dput (.fld (.var 0) "known" cl_known) (.var 2) (.bl true))
  (.seq (.iff (.cmp .gt (.dget (.fld (.var 0) "greatest" cl_greatest) (.var 3) (.int 0)) (.var 2)) (.seq (.ret (.str "late"))
  .skip) .skip)
  (.seq (.dput (.fld (.var 0) "greatest" cl_greatest) (.var 3) (.var 2))
  (.seq (.seti (.fld (.var 0) "worths" cl_worths) (.var 3) (.var 4))
  (.seq (.ret (.str "taken"))
  .skip))))))))
noncomputable def b_Reader_how_many_lack (cl_covered : List Nat) (cl_known : List Nat) : S := (.seq (.iff (.cmp .lt (.var 1) (.int 0)) (.seq .never
  .skip) .skip)
  (.seq (.lockS (.fld (.var 0) "known" cl_known) (.asg 2 (.comp .keys (.cons (.fld (.var 0) "known" cl_known) .nil) (.one 3) [3] (.chain .lt .le (.fld (.var 0) "covered" cl_covered) (.var 3) (.var 1)) (.var 3))))
  (.seq (.ret (.bin .sub (.blt .max2 (.cons (.int 0) (.cons (.bin .sub (.var 1) (.fld (.var 0) "covered" cl_covered)) .nil))) (.blt .len (.cons (.var 2) .nil))))
  .skip)))
noncomputable def b_Reader_mend_none (cl_worths : List Nat) (mt_mended : List (Nat × Nat)) (mt_need_asked : List (Nat × Nat)) : S := (.seq (.ex (.mcall (.var 0) "need_asked" mt_need_asked 2 (.cons (.var 1) (.cons (.tup (.cons (.str "none") .nil)) .nil))))
  (.seq (.ret (.mcall (.var 0) "mended" mt_mended 2 (.cons (.var 1) (.cons (.fld (.var 0) "worths" cl_worths) .nil))))
  .skip))
noncomputable def b_Reader_mend_sums (c_table_near : Nat) (cl_prime : List Nat) (cl_worths : List Nat) (mt_mended : List (Nat × Nat)) (mt_need_asked : List (Nat × Nat)) : S := (.seq (.ex (.mcall (.var 0) "need_asked" mt_need_asked 2 (.cons (.var 1) (.cons (.tup (.cons (.str "sums") (.cons (.blt .len (.cons (.var 2) .nil)) .nil))) .nil))))
  (.seq (.asg 3 (.call c_table_near 4 (.cons (.fld (.var 0) "worths" cl_worths) (.cons (.var 2) (.cons (.bin .fdiv (.blt .len (.cons (.var 2) .nil)) (.int 2)) (.cons (.fld (.var 0) "prime" cl_prime) .nil))))))
  (.seq (.iff (.cmp .is (.var 3) .non) (.seq .never
  .skip) .skip)
  (.seq (.ret (.mcall (.var 0) "mended" mt_mended 2 (.cons (.var 1) (.cons (.var 3) .nil))))
  .skip))))
noncomputable def b_Reader_mend_whole (c_need_table : Nat) (cl_prime : List Nat) (cl_worths : List Nat) (mt_mended : List (Nat × Nat)) (mt_need_asked : List (Nat × Nat)) : S := (.seq (.ex (.mcall (.var 0) "need_asked" mt_need_asked 2 (.cons (.var 1) (.cons (.tup (.cons (.str "whole") .nil)) .nil))))
  (.seq (.ex (.call c_need_table 2 (.cons (.var 2) (.cons (.fld (.var 0) "prime" cl_prime) .nil))))
  (.seq (.iff (.cmp .ne (.blt .len (.cons (.var 2) .nil)) (.blt .len (.cons (.fld (.var 0) "worths" cl_worths) .nil))) (.seq .never
  .skip) .skip)
  (.seq (.ret (.mcall (.var 0) "mended" mt_mended 2 (.cons (.var 1) (.cons (.var 2) .nil))))
  .skip))))
noncomputable def b_Reader_mended (cl_covered : List Nat) (cl_worths : List Nat) : S := (.seq (.asg 3 (.comp .rng1 (.cons (.blt .len (.cons (.var 2) .nil)) .nil) (.one 4) [4] (.cmp .ne (.idx (.var 2) (.var 4)) (.idx (.fld (.var 0) "worths" cl_worths) (.var 4))) (.var 4)))
  (.seq (.setf (.var 0) "worths" cl_worths (.box (.blt .list (.cons (.var 2) .nil))))
  (.seq (.setf (.var 0) "covered" cl_covered (.var 1))
  (.seq (.ret (.var 3))
  .skip))))
noncomputable def b_Reader_missing (cl_covered : List Nat) (cl_known : List Nat) (mt_how_many_lack : List (Nat × Nat)) : S := (.seq (.ex (.mcall (.var 0) "how_many_lack" mt_how_many_lack 1 (.cons (.var 1) .nil)))
  (.seq (.ret (.comp .rng2 (.cons (.bin .add (.fld (.var 0) "covered" cl_covered) (.int 1)) (.cons (.bin .add (.var 1) (.int 1)) .nil)) (.one 2) [2] (.din true (.var 2) (.fld (.var 0) "known" cl_known)) (.var 2)))
  .skip))
noncomputable def b_Reader_need_asked (cl_covered : List Nat) (cl_known : List Nat) (mt_asks : List (Nat × Nat)) : S := (.seq (.iff (.cmp .lt (.var 1) (.blt .max1 (.cons (.bin .add (.lst (.cons (.int 0) (.cons (.fld (.var 0) "covered" cl_covered) .nil))) (.dkeys (.fld (.var 0) "known" cl_known))) .nil))) (.seq .never
  .skip) .skip)
  (.seq (.iff (.cmp .ne (.mcall (.var 0) "asks" mt_asks 1 (.cons (.var 1) .nil)) (.var 2)) (.seq .never
  .skip) .skip)
  .skip))
noncomputable def b_Reader_table (cl_worths : List Nat) : S := (.seq (.ret (.blt .list (.cons (.fld (.var 0) "worths" cl_worths) .nil)))
  .skip)
noncomputable def b_Writer_sums_v1 (c_first_sums : Nat) (cl_prime : List Nat) (cl_worths : List Nat) : S := (.seq (.ret (.call c_first_sums 3 (.cons (.fld (.var 0) "worths" cl_worths) (.cons (.var 1) (.cons (.fld (.var 0) "prime" cl_prime) .nil)))))
  .skip)
noncomputable def b_Writer_table_v1 (cl_worths : List Nat) : S := (.seq (.ret (.blt .list (.cons (.fld (.var 0) "worths" cl_worths) .nil)))
  .skip)
noncomputable def b_first_sums_v1 (c_need_prime c_need_table c_sums_by g_MOST_SUMS x_NoNumber : Nat) : S := (.seq (.ex (.call c_need_prime 1 (.cons (.var 2) .nil)))
  (.seq (.ex (.call c_need_table 2 (.cons (.var 0) (.cons (.var 2) .nil))))
  (.seq (.iff (.not (.chain .le .le (.int 0) (.var 1) (.glob g_MOST_SUMS))) (.seq (.raise x_NoNumber)
  .skip) .skip)
  (.seq (.ret (.call c_sums_by 3 (.cons (.var 0) (.cons (.var 1) (.cons (.var 2) .nil)))))
  .skip))))
noncomputable def b_inverse_by_v1 (c_need_prime c_power_by x_NoNumber : Nat) : S := (.seq (.ex (.call c_need_prime 1 (.cons (.var 1) .nil)))
  (.seq (.iff (.cmp .eq (.bin .mod (.var 0) (.var 1)) (.int 0)) (.seq (.raise x_NoNumber)
  .skip) .skip)
  (.seq (.ret (.call c_power_by 3 (.cons (.var 0) (.cons (.bin .sub (.var 1) (.int 2)) (.cons (.var 1) .nil)))))
  .skip)))
noncomputable def b_need_half_v1 (c_need_prime c_need_table x_NoNumber : Nat) : S := (.seq (.ex (.call c_need_prime 1 (.cons (.var 2) .nil)))
  (.seq (.ex (.call c_need_table 2 (.cons (.var 0) (.cons (.var 2) .nil))))
  (.seq (.iff (.or (.cons (.cmp .lt (.var 1) (.int 1)) (.cons (.cmp .gt (.bin .mul (.int 2) (.var 1)) (.blt .len (.cons (.var 0) .nil))) .nil))) (.seq (.raise x_NoNumber)
  .skip) .skip)
  .skip)))
noncomputable def b_need_prime_v1 (c_is_prime x_NoPrime : Nat) : S := (.seq (.iff (.not (.call c_is_prime 1 (.cons (.var 0) .nil))) (.seq (.raise x_NoPrime)
  .skip) .skip)
  .skip)
noncomputable def b_need_table_v1 (x_NoTable : Nat) : S := (.seq (.iff (.or (.cons (.not (.chain .le .lt (.int 1) (.blt .len (.cons (.var 0) .nil)) (.var 1))) (.cons (.cmp .ne (.comp .list (.cons (.var 0) .nil) (.one 2) [2] (.not (.chain .le .lt (.int 0) (.var 2) (.var 1))) (.var 2)) (.lst .nil)) .nil))) (.seq (.raise x_NoTable)
  .skip) .skip)
  .skip)
end Mp
set_option Elab.async false
set_option linter.all false
namespace Mp
noncomputable def b_law_v41 (c_Reader___init__ : Nat) (c_Writer___init__ : Nat) (c_law_cell_at : Nat) (c_law_deed_good : Nat) (c_law_digit : Nat) (c_law_mend_good : Nat) (c_law_prime : Nat) (c_law_sums : Nat) (c_law_table : Nat) (ci_Reader : Nat) (ci_Writer : Nat) (mt_made : List (Nat × Nat)) (mt_missing : List (Nat × Nat)) (mt_sums : List (Nat × Nat)) (mt_table : List (Nat × Nat)) : S := (.seq (.asg 1 (.call c_law_cell_at 2 (.cons (.var 0) (.cons (.int 0) .nil))))
  (.seq (.asg 2 (.bin .add (.int 1) (.call c_law_digit 3 (.cons (.var 1) (.cons (.int 1) (.cons (.int 8) .nil))))))
  (.seq (.asg 3 (.call c_law_prime 2 (.cons (.var 1) (.cons (.var 2) .nil))))
  (.seq (.asg 4 (.call c_law_table 3 (.cons (.var 1) (.cons (.var 2) (.cons (.var 3) .nil)))))
  (.seq (.asg 5 (.dlit ["prime", "tables", "letters", "own", "came", "floor"] (.cons (.var 3) (.cons (.box (.lst (.cons (.box (.blt .list (.cons (.var 4) .nil))) .nil))) (.cons (.box (.lst .nil)) (.cons (.box (.blt .list (.cons (.var 4) .nil))) (.cons (.box (.lst .nil)) (.cons (.int 0) .nil))))))))
  (.seq (.dput (.var 5) (.str "writer") (.make ci_Writer c_Writer___init__ 2 (.cons (.var 3) (.cons (.blt .list (.cons (.var 4) .nil)) .nil))))
  (.seq (.dput (.var 5) (.str "reader") (.make ci_Reader c_Reader___init__ 2 (.cons (.var 3) (.cons (.blt .list (.cons (.var 4) .nil)) .nil))))
  (.seq (.dput (.var 5) (.str "last") (.box (.bin .mul (.lst (.cons (.int 0) .nil)) (.var 2))))
  (.seq (.dput (.var 5) (.str "held") (.box (.lst .nil)))
  (.seq (.for_ .list (.cons (.slc (.var 0) (.int 1) (.int 31)) .nil) (.one 1) (.seq (.iff (.not (.call c_law_deed_good 2 (.cons (.var 5) (.cons (.var 1) .nil)))) (.seq (.ret (.bl false))
  .skip) .skip)
  .skip))
  (.seq (.asg 6 (.blt .len (.cons (.dget (.var 5) (.str "letters") .nil) .nil)))
  (.seq (.iff (.or (.cons (.cmp .ne (.mcall (.dget (.var 5) (.str "writer") .nil) "made" mt_made 0 .nil) (.var 6)) (.cons (.not (.call c_law_mend_good 2 (.cons (.var 5) (.cons (.var 6) .nil)))) .nil))) (.seq (.ret (.bl false))
  .skip) .skip)
  (.seq (.iff (.cmp .ne (.mcall (.dget (.var 5) (.str "writer") .nil) "sums" mt_sums 1 (.cons (.int 7) .nil)) (.call c_law_sums 3 (.cons (.dget (.var 5) (.str "own") .nil) (.cons (.int 7) (.cons (.var 3) .nil))))) (.seq (.ret (.bl false))
  .skip) .skip)
  (.seq (.iff (.blt .any (.cons (.comp .list (.cons (.dget (.var 5) (.str "held") .nil) .nil) (.many [7, 8]) [7, 8] .nil (.cmp .ne (.var 7) (.var 8))) .nil)) (.seq (.ret (.bl false))
  .skip) .skip)
  (.seq (.ret (.and (.cons (.cmp .eq (.mcall (.dget (.var 5) (.str "reader") .nil) "table" mt_table 0 .nil) (.mcall (.dget (.var 5) (.str "writer") .nil) "table" mt_table 0 .nil)) (.cons (.cmp .eq (.mcall (.dget (.var 5) (.str "reader") .nil) "missing" mt_missing 1 (.cons (.var 6) .nil)) (.lst .nil)) .nil))))
  .skip)))))))))))))))
noncomputable def b_law_bring_good_v2 (mt_come : List (Nat × Nat)) (mt_letter : List (Nat × Nat)) (mt_table : List (Nat × Nat)) : S := (.seq (.asg 2 (.mcall (.dget (.var 0) (.str "writer") .nil) "letter" mt_letter 1 (.cons (.var 1) .nil)))
  (.seq (.asg 3 (.mcall (.dget (.var 0) (.str "reader") .nil) "come" mt_come 1 (.cons (.var 2) .nil)))
  (.seq (.asg 4 (.str "taken"))
  (.seq (.unp (.many [5, 6]) (.mth (.tsl (some 1) none) (.idx (.dget (.var 0) (.str "letters") .nil) (.bin .sub (.var 1) (.int 1))) .nil))
  (.seq (.iff (.or (.cons (.cmp .mem (.var 1) (.dget (.var 0) (.str "came") .nil)) (.cons (.cmp .le (.var 1) (.dget (.var 0) (.str "floor") .nil)) .nil))) (.seq (.asg 4 (.str "seen"))
  .skip) (.seq (.iff (.cmp .gt (.idx (.dget (.var 0) (.str "last") .nil) (.var 5)) (.var 1)) (.seq (.asg 4 (.str "late"))
  .skip) (.seq (.seti (.dget (.var 0) (.str "last") .nil) (.var 5) (.var 1))
  (.seq (.seti (.dget (.var 0) (.str "own") .nil) (.var 5) (.var 6))
  .skip)))
  .skip))
  (.seq (.iff (.cmp .ne (.var 4) (.str "seen")) (.seq (.app (.dget (.var 0) (.str "came") .nil) (.var 1))
  .skip) .skip)
  (.seq (.ret (.and (.cons (.cmp .eq (.var 2) (.idx (.dget (.var 0) (.str "letters") .nil) (.bin .sub (.var 1) (.int 1)))) (.cons (.cmp .eq (.var 3) (.var 4)) (.cons (.cmp .eq (.mcall (.dget (.var 0) (.str "reader") .nil) "table" mt_table 0 .nil) (.dget (.var 0) (.str "own") .nil)) .nil)))))
  .skip)))))))
noncomputable def b_law_changed_v2 (c_law_take : Nat) : S := (.seq (.asg 2 (.call c_law_take 2 (.cons (.var 0) (.cons (.bin .add (.blt .len (.cons (.var 1) .nil)) (.int 1)) .nil))))
  (.seq (.asg 3 (.idx (.str "0123456789 :=,-+_putbringmendx\n") (.call c_law_take 2 (.cons (.var 0) (.cons (.int 31) .nil)))))
  (.seq (.asg 4 (.call c_law_take 2 (.cons (.var 0) (.cons (.int 4) .nil))))
  (.seq (.iff (.cmp .eq (.var 4) (.int 0)) (.seq (.ret (.bin .add (.bin .add (.ssl (.var 1) .nil (.var 2)) (.var 3)) (.ssl (.var 1) (.var 2) .nil)))
  .skip) .skip)
  (.seq (.iff (.cmp .eq (.var 4) (.int 1)) (.seq (.ret (.bin .add (.ssl (.var 1) .nil (.var 2)) (.ssl (.var 1) (.bin .add (.var 2) (.int 1)) .nil)))
  .skip) .skip)
  (.seq (.iff (.cmp .eq (.var 4) (.int 2)) (.seq (.ret (.bin .add (.bin .add (.ssl (.var 1) .nil (.var 2)) (.var 3)) (.ssl (.var 1) (.bin .add (.var 2) (.int 1)) .nil)))
  .skip) .skip)
  (.seq (.ret (.bin .add (.bin .add (.ssl (.var 1) .nil (.var 2)) (.ssl (.var 1) (.var 2) (.bin .add (.var 2) (.int 3)))) (.ssl (.var 1) (.var 2) .nil)))
  .skip)))))))
noncomputable def b_law_deed_good_v1 (c_law_bring_good c_law_digit c_law_mend_good c_law_put_good : Nat) : S := (.seq (.asg 2 (.call c_law_digit 3 (.cons (.var 1) (.cons (.int 0) (.cons (.int 9) .nil)))))
  (.seq (.asg 3 (.blt .len (.cons (.dget (.var 0) (.str "letters") .nil) .nil)))
  (.seq (.iff (.or (.cons (.cmp .lt (.var 2) (.int 4)) (.cons (.cmp .eq (.var 3) (.int 0)) .nil))) (.seq (.ret (.call c_law_put_good 3 (.cons (.var 0) (.cons (.call c_law_digit 3 (.cons (.var 1) (.cons (.int 1) (.cons (.blt .len (.cons (.dget (.var 0) (.str "own") .nil) .nil)) .nil)))) (.cons (.call c_law_digit 3 (.cons (.var 1) (.cons (.int 2) (.cons (.blt .min2 (.cons (.dget (.var 0) (.str "prime") .nil) (.cons (.int 50) .nil))) .nil)))) .nil)))))
  .skip) .skip)
  (.seq (.iff (.cmp .lt (.var 2) (.int 7)) (.seq (.ret (.call c_law_bring_good 2 (.cons (.var 0) (.cons (.idx (.lst (.cons (.var 3) (.cons (.bin .add (.int 1) (.call c_law_digit 3 (.cons (.var 1) (.cons (.int 3) (.cons (.var 3) .nil))))) .nil))) (.bin .fdiv (.call c_law_digit 3 (.cons (.var 1) (.cons (.int 4) (.cons (.int 3) .nil)))) (.int 2))) .nil))))
  .skip) .skip)
  (.seq (.asg 4 (.blt .max1 (.cons (.bin .add (.dget (.var 0) (.str "came") .nil) (.lst (.cons (.dget (.var 0) (.str "floor") .nil) .nil))) .nil)))
  (.seq (.iff (.cmp .eq (.var 2) (.int 7)) (.seq (.ret (.call c_law_mend_good 2 (.cons (.var 0) (.cons (.var 3) .nil))))
  .skip) .skip)
  (.seq (.ret (.call c_law_mend_good 2 (.cons (.var 0) (.cons (.blt .max2 (.cons (.var 4) (.cons (.bin .sub (.var 3) (.call c_law_digit 3 (.cons (.var 1) (.cons (.int 5) (.cons (.int 3) .nil))))) .nil))) .nil))))
  .skip)))))))
noncomputable def b_law_is_number_v1 : S := (.seq (.iff (.or (.cons (.cmp .eq (.var 0) (.str "")) (.cons (.cmp .ne (.comp .str (.cons (.var 0) .nil) (.one 1) [1] (.cmp .nmem (.var 1) (.str "0123456789")) (.var 1)) (.lst .nil)) .nil))) (.seq (.ret (.bl false))
  .skip) .skip)
  (.seq (.ret (.or (.cons (.cmp .eq (.var 0) (.str "0")) (.cons (.cmp .ne (.idx (.var 0) (.int 0)) (.str "0")) .nil))))
  .skip))
noncomputable def b_law_mend_good_v2 (c_law_mended : Nat) (c_law_unlike : Nat) (mt_asks : List (Nat × Nat)) (mt_missing : List (Nat × Nat)) (mt_sums : List (Nat × Nat)) (mt_table : List (Nat × Nat)) : S := (.seq (.asg 2 (.lst (.cons (.mcall (.dget (.var 0) (.str "writer") .nil) "table" mt_table 0 .nil) (.cons (.mcall (.dget (.var 0) (.str "reader") .nil) "table" mt_table 0 .nil) .nil))))
  (.seq (.for_ .list (.cons (.bin .add (.var 2) (.lst (.cons (.mcall (.dget (.var 0) (.str "writer") .nil) "sums" mt_sums 1 (.cons (.int 5) .nil)) (.cons (.mcall (.dget (.var 0) (.str "reader") .nil) "missing" mt_missing 1 (.cons (.var 1) .nil)) .nil)))) .nil) (.one 3) (.seq (.app (.dget (.var 0) (.str "held") .nil) (.tup (.cons (.var 3) (.cons (.blt .list (.cons (.var 3) .nil)) .nil))))
  .skip))
  (.seq (.asg 4 (.comp .rng2 (.cons (.bin .add (.dget (.var 0) (.str "floor") .nil) (.int 1)) (.cons (.bin .add (.var 1) (.int 1)) .nil)) (.one 5) [5] (.cmp .nmem (.var 5) (.dget (.var 0) (.str "came") .nil)) (.var 5)))
  (.seq (.asg 6 (.tup (.cons (.str "sums") (.cons (.bin .mul (.int 2) (.blt .len (.cons (.var 4) .nil))) .nil))))
  (.seq (.iff (.cmp .ge (.bin .mul (.int 2) (.blt .len (.cons (.var 4) .nil))) (.blt .len (.cons (.dget (.var 0) (.str "own") .nil) .nil))) (.seq (.asg 6 (.tup (.cons (.str "whole") .nil)))
  .skip) .skip)
  (.seq (.iff (.cmp .eq (.var 4) (.lst .nil)) (.seq (.asg 6 (.tup (.cons (.str "none") .nil)))
  .skip) .skip)
  (.seq (.iff (.or (.cons (.cmp .ne (.mcall (.dget (.var 0) (.str "reader") .nil) "missing" mt_missing 1 (.cons (.var 1) .nil)) (.var 4)) (.cons (.cmp .ne (.mcall (.dget (.var 0) (.str "reader") .nil) "asks" mt_asks 1 (.cons (.var 1) .nil)) (.var 6)) .nil))) (.seq (.ret (.bl false))
  .skip) .skip)
  (.seq (.asg 7 (.idx (.dget (.var 0) (.str "tables") .nil) (.var 1)))
  (.seq (.asg 2 (.call c_law_mended 4 (.cons (.var 0) (.cons (.var 1) (.cons (.var 6) (.cons (.var 7) .nil))))))
  (.seq (.clr (.mcall (.dget (.var 0) (.str "reader") .nil) "table" mt_table 0 .nil))
  (.seq (.asg 8 (.call c_law_unlike 2 (.cons (.dget (.var 0) (.str "own") .nil) (.cons (.var 7) .nil))))
  (.seq (.dput (.var 0) (.str "own") (.box (.blt .list (.cons (.var 7) .nil))))
  (.seq (.dput (.var 0) (.str "floor") (.blt .max2 (.cons (.dget (.var 0) (.str "floor") .nil) (.cons (.var 1) .nil))))
  (.seq (.ret (.and (.cons (.cmp .eq (.var 2) (.var 8)) (.cons (.cmp .eq (.mcall (.dget (.var 0) (.str "reader") .nil) "table" mt_table 0 .nil) (.var 7)) .nil))))
  .skip))))))))))))))
noncomputable def b_law_mended_v3 (c_law_sums : Nat) (mt_mend_none : List (Nat × Nat)) (mt_mend_sums : List (Nat × Nat)) (mt_mend_whole : List (Nat × Nat)) : S := (.seq (.iff (.cmp .eq (.idx (.var 2) (.int 0)) (.str "none")) (.seq (.ret (.mcall (.dget (.var 0) (.str "reader") .nil) "mend_none" mt_mend_none 1 (.cons (.var 1) .nil)))
  .skip) .skip)
  (.seq (.iff (.cmp .eq (.idx (.var 2) (.int 0)) (.str "whole")) (.seq (.asg 4 (.box (.blt .list (.cons (.var 3) .nil))))
  (.seq (.asg 5 (.mcall (.dget (.var 0) (.str "reader") .nil) "mend_whole" mt_mend_whole 2 (.cons (.var 1) (.cons (.var 4) .nil))))
  (.seq (.clr (.var 4))
  (.seq (.ret (.var 5))
  .skip)))) .skip)
  (.seq (.ret (.mcall (.dget (.var 0) (.str "reader") .nil) "mend_sums" mt_mend_sums 2 (.cons (.var 1) (.cons (.call c_law_sums 3 (.cons (.var 3) (.cons (.idx (.var 2) (.int 1)) (.cons (.dget (.var 0) (.str "prime") .nil) .nil)))) .nil))))
  .skip)))
noncomputable def b_law_put_good_v2 (mt_put : List (Nat × Nat)) (mt_table : List (Nat × Nat)) : S := (.seq (.asg 3 (.mcall (.dget (.var 0) (.str "writer") .nil) "put" mt_put 2 (.cons (.var 1) (.cons (.var 2) .nil))))
  (.seq (.app (.dget (.var 0) (.str "letters") .nil) (.tup (.cons (.bin .add (.blt .len (.cons (.dget (.var 0) (.str "letters") .nil) .nil)) (.int 1)) (.cons (.var 1) (.cons (.var 2) .nil)))))
  (.seq (.app (.dget (.var 0) (.str "tables") .nil) (.box (.blt .list (.cons (.idx (.dget (.var 0) (.str "tables") .nil) (.neg (.int 1))) .nil))))
  (.seq (.seti (.idx (.dget (.var 0) (.str "tables") .nil) (.neg (.int 1))) (.var 1) (.var 2))
  (.seq (.ret (.and (.cons (.cmp .eq (.var 3) (.idx (.dget (.var 0) (.str "letters") .nil) (.neg (.int 1)))) (.cons (.cmp .eq (.mcall (.dget (.var 0) (.str "writer") .nil) "table" mt_table 0 .nil) (.idx (.dget (.var 0) (.str "tables") .nil) (.neg (.int 1)))) .nil))))
  .skip)))))
noncomputable def b_read_from_one_v1 (c_read_number x_NoText : Nat) : S := (.seq (.asg 1 (.call c_read_number 1 (.cons (.var 0) .nil)))
  (.seq (.iff (.cmp .lt (.var 1) (.int 1)) (.seq (.raise x_NoText)
  .skip) .skip)
  (.seq (.ret (.var 1))
  .skip)))
noncomputable def b_read_number_v1 (g_FIGURES x_NoText : Nat) : S := (.seq (.iff (.or (.cons (.cmp .eq (.var 0) (.str "")) (.cons (.and (.cons (.cmp .eq (.idx (.var 0) (.int 0)) (.str "0")) (.cons (.cmp .ne (.var 0) (.str "0")) .nil))) (.cons (.cmp .ne (.comp .str (.cons (.var 0) .nil) (.one 1) [1] (.cmp .nmem (.var 1) (.glob g_FIGURES)) (.var 1)) (.lst .nil)) .nil)))) (.seq (.raise x_NoText)
  .skip) .skip)
  (.seq (.ret (.blt .int (.cons (.var 0) .nil)))
  .skip))
end Mp
set_option Elab.async false
set_option linter.all false
set_option maxRecDepth 100000
set_option maxHeartbeats 4000000
/-! where the text without errors comes to an end, so does the text with them -/
namespace Mp
open PySem PySem.Spec PyProof.Rows L2
noncomputable def LeR {A : Type} (a b : R A) : Prop := a = .bad ∨ a = b
noncomputable def LeC (a b : CR) : Prop := a = .bad ∨ a = b
theorem LeR.bind {A B : Type} {x y : R A} {f g : A → En → Sto → R B} (h : LeR x y) (q : ∀ a en m, LeR (f a en m) (g a en m)) : LeR (x.bind f) (y.bind g) := by
  rcases h with rfl | rfl
  · exact .inl rfl
  · cases x with
    | ok a en m => exact q a en m
    | ex c en m => exact .inr rfl
    | bad => exact .inr rfl
theorem LeR.opt {A B : Type} {o : Option A} {f g : A → R B} (q : ∀ a, LeR (f a) (g a)) : LeR (Mp.opt o f) (Mp.opt o g) := by
  cases o with
  | none => exact .inl rfl
  | some a => exact q a
theorem LeR.opt2 {A B D : Type} {o : Option (A × B)} {f g : A → B → R D} (q : ∀ a b, LeR (f a b) (g a b)) : LeR (Mp.opt2 o f) (Mp.opt2 o g) := by
  cases o with
  | none => exact .inl rfl
  | some a => exact q a.1 a.2
theorem LeR.ite {A : Type} {c : Prop} [Decidable c] {x y z w : R A} (h : LeR x y) (q : LeR z w) : LeR (if c then x else z) (if c then y else w) := by
  by_cases k : c
  · rw [if_pos k, if_pos k]; exact h
  · rw [if_neg k, if_neg k]; exact q
theorem LeR.noex {A : Type} {x y : R A} (h : LeR x y) : LeR x.noex y.noex := by
  rcases h with rfl | rfl
  · exact .inl rfl
  · exact .inr rfl
theorem LeC.toR {x y : CR} {en : En} (h : LeC x y) : LeR (x.toR en) (y.toR en) := by
  rcases h with rfl | rfl
  · exact .inl rfl
  · exact .inr rfl
theorem LeR.compL {ck : Sto → Bool} {f g : W → En → Sto → R (Option W)} (q : ∀ w en m, LeR (f w en m) (g w en m)) : ∀ (ws : List W) (en : En) (m : Sto), LeR (compL ck f ws en m) (compL ck g ws en m)
  | [], en, m => .inr rfl
  | w :: ws, en, m => by
    unfold Mp.compL
    exact .ite (.bind (.noex (q w en m)) fun o en m => .bind (LeR.compL q ws en m) fun r en m => .inr rfl) (.inr rfl)
theorem LeR.compF {tg : Tg} {js : List Nat} {b : Bool} {f g h k : En → Sto → R RV} (q : ∀ en m, LeR (f en m) (g en m)) (z : ∀ en m, LeR (h en m) (k en m)) (w : W) (en : En) (m : Sto) : LeR (compF tg js b f h w en m) (compF tg js b g k w en m) := by
  unfold Mp.compF
  exact .opt fun en => .bind (.ite (.inr rfl) (.bind (q en m) fun t en m => .inr rfl)) fun t en m => .ite (.bind (z en m) fun x en m => .inr rfl) (.inr rfl)
theorem LeR.compLx {ck : Sto → Bool} {f g : W → En → Sto → R (Option W)} (q : ∀ w en m, LeR (f w en m) (g w en m)) : ∀ (ws : List W) (en : En) (m : Sto), LeR (compLx ck f ws en m) (compLx ck g ws en m)
  | [], en, m => .inr rfl
  | w :: ws, en, m => by
    unfold Mp.compLx
    exact .ite (.bind (q w en m) fun o en m => .bind (LeR.compLx q ws en m) fun r en m => .inr rfl) (.inr rfl)
theorem LeR.compFx {tg : Tg} {js : List Nat} {b : Bool} {f g h k : En → Sto → R RV} (q : ∀ en m, LeR (f en m) (g en m)) (z : ∀ en m, LeR (h en m) (k en m)) (w : W) (en : En) (m : Sto) : LeR (compFx tg js b f h w en m) (compFx tg js b g k w en m) := by
  unfold Mp.compFx
  refine .opt fun en => .bind (.ite (.inr rfl) (.bind (.noex (q en m)) fun t en m => .inr rfl)) fun t en m => .ite ?_ (.inr rfl)
  rcases z en m with e | e
  · rw [e]; exact .inl rfl
  · rw [e]; exact .inr rfl
theorem LeR.rest {outer : En} {js : List Nat} {x y : R (List W)} (h : LeR x y) : LeR (x.rest outer js) (y.rest outer js) := by
  rcases h with rfl | rfl
  · exact .inl rfl
  · exact .inr rfl
theorem LeR.forL {ck : Sto → Bool} {f g : W → En → Sto → R Out} (q : ∀ w en m, LeR (f w en m) (g w en m)) : ∀ (ws : List W) (en : En) (m : Sto), LeR (forL ck f ws en m) (forL ck g ws en m)
  | [], en, m => .inr rfl
  | w :: ws, en, m => by
    unfold Mp.forL
    refine .ite (.bind (q w en m) fun o en m => ?_) (.inr rfl)
    cases o with
    | nx => exact LeR.forL q ws en m
    | rt r => exact .inr rfl
theorem LeR.whileL {c d : En → Sto → R Bool} {f g : En → Sto → R Out} (p : ∀ en m, LeR (c en m) (d en m)) (q : ∀ en m, LeR (f en m) (g en m)) : ∀ (n : Nat) (en : En) (m : Sto), LeR (whileL c f n en m) (whileL d g n en m)
  | 0, en, m => .inr rfl
  | n + 1, en, m => by
    unfold Mp.whileL
    refine .bind (p en m) fun t en m => .ite (.bind (q en m) fun o en m => ?_) (.inr rfl)
    cases o with
    | nx => exact LeR.whileL p q n en m
    | rt r => exact .inr rfl
section
variable {cs cs2 : Nat → List W → Sto → CR} (H : ∀ f ws m, LeC (cs f ws m) (cs2 f ws m)) (gl : List W)
include H
noncomputable def unr (b : Bool) : S → S
  | .raise c => if b then .never else .raise c
  | .seq s t => .seq (unr b s) (unr b t)
  | .iff c s t => .iff c (unr b s) (unr b t)
  | .for_ it src tg s => .for_ it src tg (unr b s)
  | .whl c s => .whl c (unr b s)
  | .tryx s cl j t => .tryx (unr b s) cl j (unr b t)
  | .lockS a s => .lockS a (unr b s)
  | .tryn s => .tryn (unr b s)
  | s => s
end
noncomputable def unF (b : Bool) (d : Fd) : Fd := ⟨d.np, d.nn, unr b d.body⟩
end Mp
set_option Elab.async false
set_option linter.all false
set_option maxRecDepth 100000
set_option maxHeartbeats 4000000
namespace Mp
open PySem PySem.Spec PyProof.Rows L2
/-! ### powers under a number -/
section
variable {cs : Nat → List W → Sto → CR} {fs : List Fd} {gl : List W} {N k f : Nat} {m : Sto}
/-! ### is it a prime -/
noncomputable def oddP : Nat → Int → Int
  | 0, o => o
  | t + 1, o => if o % 2 = 0 then oddP t (o / 2) else o
noncomputable def sqP : Nat → Int → Int → Int → Bool
  | 0, _, _, _ => false
  | t + 1, n, o, p => if o < n - 1 then (if p = n - 1 then true else sqP t n (2 * o) (p * p % n)) else false
noncomputable def powM : Nat → Int → Int → Int → Int → Int
  | 0, _, f, _, _ => f
  | t + 1, e, f, s, n => if 0 < e then powM t (e / 2) (if e % 2 = 1 then f * s % n else f) (s * s % n) n else f
noncomputable def standsP (n b : Int) : Bool :=
  if powM 64 (oddP 64 (n - 1)) (1 % n) (b % n) n = 1 then true else sqP 64 n (oddP 64 (n - 1)) (powM 64 (oddP 64 (n - 1)) (1 % n) (b % n) n)
end
end Mp
set_option Elab.async false
set_option linter.all false
set_option maxRecDepth 100000
set_option maxHeartbeats 4000000
namespace Mp
open PySem PySem.Spec PyProof.Rows L2
@[simp] theorem wipe_nil {en : En} : wipeE en [] = en := rfl
@[simp] theorem wipe_cons {en : En} {j : Nat} {js : List Nat} : wipeE en (j :: js) = (wipeE en js).set j none := rfl
@[simp] theorem rest_nil {a b : En} : restE a b [] = b := rfl
@[simp] theorem rest_cons {a b : En} {j : Nat} {js : List Nat} : restE a b (j :: js) = (restE a b js).set j (enGet a j) := rfl
@[simp] theorem frz_nil {en : En} : frzE en [] = en := rfl
@[simp] theorem items_tup {m : Sto} {zs : List W} : itemsR .tup m [.tup zs] = some (zs, []) := rfl
@[simp] theorem items_lst {m : Sto} {zs : List W} : itemsR .list m [.lst zs] = some (zs, []) := rfl
theorem items_ref {m : Sto} {r : Nat} {zs : List W} (h : m[r]? = some (.lst zs)) : itemsR .list m [.ref r] = some (zs, [(r, zs)]) := by
  show srcL m (.ref r) = _
  unfold srcL
  simp only [h]
theorem chk_ref {m : Sto} {r : Nat} {zs : List W} (h : m[r]? = some (.lst zs)) : chk [(r, zs)] m = true := by
  unfold chk
  simp only [List.all_cons, List.all_nil, h, W.sames_refl, Bool.and_self]
theorem items_rng1 {m : Sto} {n : Int} (h : rngOk n = true) : itemsR .rng1 m [.int n] = some ((List.range n.toNat).map fun (i : Nat) => .int (0 + (i : Int)), []) := by
  show (if rngOk n then _ else _) = _
  rw [if_pos h]
@[simp] theorem items_enum {m : Sto} {zs : List W} : itemsR .enum m [.lst zs] = some (enumL zs, []) := rfl
@[simp] theorem items_zip {m : Sto} {zs us : List W} : itemsR .zip m [.lst zs, .lst us] = some (zs.zipWith (fun a b => .tup [a, b]) us, []) := rfl
@[simp] theorem bind_one {j : Nat} {w : W} {m : Sto} {en : En} : bindT (.one j) w m en = some (en.set j (some (.val w))) := rfl
@[simp] theorem bind_many2 {i j : Nat} {w u : W} {m : Sto} {en : En} : bindT (.many [i, j]) (.tup [w, u]) m en = some ((en.set i (some (.val w))).set j (some (.val u))) := rfl
section
variable {cs : Nat → List W → Sto → CR} {gl : List W} {N : Nat} {m : Sto} {en : En}
@[simp] theorem fl_cons0 {tg : Tg} {b : S} {z : W} {zs : List W} : fl cs gl N tg b [] (z :: zs) en m = thn (optp (bindT tg z m en) fun en => sv cs gl N b en m) (fl cs gl N tg b [] zs) := fl_cons rfl
@[simp] theorem fl_nil0 {tg : Tg} {b : S} : fl cs gl N tg b [] [] en m = .ok .nx en m := fl_nil rfl
end
section
variable {cs : Nat → List W → Sto → CR} {fs : List Fd} {gl : List W} {N k f : Nat} {m : Sto} {en : En}
noncomputable def isP (n : Int) : Bool := if n < 2 then false else if n % 2 = 0 then decide (n = 2) else if n % 3 = 0 then decide (n = 3) else if n % 5 = 0 then decide (n = 5) else if n % 7 = 0 then decide (n = 7) else if n % 11 = 0 then decide (n = 11)
  else decide ((([2, 3, 5, 7, 11] : List Int).filter (fun b => !standsP n b)).map id = [])
end
end Mp
set_option Elab.async false
set_option linter.all false
set_option maxRecDepth 100000
set_option maxHeartbeats 4000000
namespace Mp
open PySem PySem.Spec PyProof.Rows L2
noncomputable def PRS : List Int := [2, 3, 5, 7, 11, 13, 17, 23, 41, 43, 101, 257, 10007, 65537, 999983, 1000000007, 9999999967, 31, 53, 97, 1000003, 999999937]
theorem prs_lim : ∀ p ∈ PRS, 2 ≤ p ∧ p ≤ 9999999967 := by decide +kernel
theorem big200 : (10 : Int) ^ 200 < BIG := by decide +kernel
theorem mulOk_200 {i j : Int} (h : 0 ≤ i) (h1 : i ≤ 10 ^ 200) (h2 : 0 ≤ j) (h3 : j ≤ 10 ^ 200) : mulOk i j = true := by
  have := big200
  exact mulOk_b ⟨by omega, by omega⟩ ⟨by omega, by omega⟩
section
variable {cs : Nat → List W → Sto → CR} {fs : List Fd} {gl : List W} {N k f : Nat} {m : Sto} {en : En}
@[simp] theorem len_lst {m : Sto} {ws : List W} : bltR .len m [.lst ws] = some (.val (.int (ws.length : Nat))) := rfl
theorem cmp_pow {en : En} {m : Sto} {b e r : Int} (h : 0 ≤ e ∧ e ≤ 1000 ∧ -(2 ^ 64) < b ∧ b < 2 ^ 64) (hr : b ^ e.toNat = r) : binR .pow en m (.val (.int b)) (.val (.int e)) = some (.val (.int r)) := by rw [pow_ints h, hr]
noncomputable def stirV (cell k : Int) : Int :=
  let n := cell % 10 ^ 40 * 48271 + 3 ^ 60 * (k + 1) * (k + 1) + k
  let n2 := n * n + 69621 * n
  n2 * n2 % (10 ^ 61 + 7) / 8
theorem stir_lim {cell k : Int} : 0 ≤ stirV cell k ∧ stirV cell k ≤ 10 ^ 61 := by
  unfold stirV
  dsimp only
  generalize (cell % 10 ^ 40 * 48271 + 3 ^ 60 * (k + 1) * (k + 1) + k) * (cell % 10 ^ 40 * 48271 + 3 ^ 60 * (k + 1) * (k + 1) + k) + 69621 * (cell % 10 ^ 40 * 48271 + 3 ^ 60 * (k + 1) * (k + 1) + k) = z
  have h1 := Int.emod_nonneg (z * z) (show (10 ^ 61 + 7 : Int) ≠ 0 by decide)
  have h2 := Int.emod_lt_of_pos (z * z) (show (0 : Int) < 10 ^ 61 + 7 by decide)
  omega
theorem sq_le {a b : Int} (h : 0 ≤ a) (h2 : a ≤ b) : a * a ≤ b * b := Int.mul_le_mul h2 h2 h (by omega)
theorem stir_run {cell j : Int} (hf : fs[f]? = some ⟨2, 3, b_law_stir⟩) (hj : j = 1 ∨ j = 2 ∨ j = 3) : callN fs gl N (k + 1) f [.int cell, .int j] m = .ok (.val (.int (stirV cell j))) m := by
  rw [call_at hf rfl]
  have p40 : ∀ en m, binR .pow en m (.val (.int 10)) (.val (.int 40)) = some (.val (.int (10 ^ 40))) := fun en m => cmp_pow (by decide) rfl
  have p60 : ∀ en m, binR .pow en m (.val (.int 3)) (.val (.int 60)) = some (.val (.int (3 ^ 60))) := fun en m => cmp_pow (by decide) rfl
  have p61 : ∀ en m, binR .pow en m (.val (.int 10)) (.val (.int 61)) = some (.val (.int (10 ^ 61))) := fun en m => cmp_pow (by decide) rfl
  have c0 := Int.emod_nonneg cell (show (10 ^ 40 : Int) ≠ 0 by decide)
  have c1 := Int.emod_lt_of_pos cell (show (0 : Int) < 10 ^ 40 by decide)
  have m1 : mulOk (cell % 10 ^ 40) 48271 = true := mulOk_r (by decide)
  have m2 : mulOk (3 ^ 60) (j + 1) = true := mulOk_r (by omega)
  have m3 : mulOk (3 ^ 60 * (j + 1)) (j + 1) = true := mulOk_r (by omega)
  have nb : 0 ≤ cell % 10 ^ 40 * 48271 + 3 ^ 60 * (j + 1) * (j + 1) + j ∧ cell % 10 ^ 40 * 48271 + 3 ^ 60 * (j + 1) * (j + 1) + j ≤ 10 ^ 46 := by
    rcases hj with rfl | rfl | rfl <;> omega
  unfold stirV
  dsimp only
  generalize hn : cell % 10 ^ 40 * 48271 + 3 ^ 60 * (j + 1) * (j + 1) + j = n at nb ⊢
  have q1 := sq_le nb.1 nb.2
  have q0 : 0 ≤ n * n := Int.mul_nonneg nb.1 nb.1
  have m4 : mulOk n n = true := mulOk_200 nb.1 (by omega) nb.1 (by omega)
  have m5 : mulOk 69621 n = true := mulOk_l (by decide)
  have m6 : mulOk (n * n + 69621 * n) (n * n + 69621 * n) = true := mulOk_200 (by omega) (by omega) (by omega) (by omega)
  have d1 : (0 : Int) < 10 ^ 61 + 7 := by decide
  have d2 : (0 : Int) < 8 ∧ (8 : Int) < BIG := ⟨by decide, by decide +kernel⟩
  have d3 : (0 : Int) < 10 ^ 40 := by decide
  simp only [b_law_stir, List.map_cons, List.map_nil, List.length_cons, List.length_nil, List.replicate, sv_seq, sv_asg, sv_ret, sv_skip, ev_bin, ev_var, ev_int, enGet_0, enGet_s, bind_okR, bnd_ok, optp_some, opt2p_some, hold_val, List.cons_append, List.nil_append,
    p40, p60, p61, opt_someR, mod_ints d3, mod_ints d1, mul_ints m1, mul_ints m2, mul_ints m3, add_ints, slOf_val, opt2_someR, hn, mul_ints m4, mul_ints m5, mul_ints m6, fdiv_ints d2, List.set_cons_succ, List.set_cons_zero, thn_nx, thn_rt, retR_val, end_rt, Nat.reduceSub, Nat.reduceAdd, List.replicate_succ, List.replicate_zero]
theorem deck_run {cell : Int} {c : Nat} (hf : fs[f]? = some ⟨1, 1, b_law_deck c⟩) (hc : fs[c]? = some ⟨2, 3, b_law_stir⟩) : ∃ d, callN fs gl N (k + 2) f [.int cell] m = .ok (.new [.int d]) m := by
  rw [call_at hf rfl]
  have p18 : ∀ en m, binR .pow en m (.val (.int 10)) (.val (.int 18)) = some (.val (.int (10 ^ 18))) := fun en m => cmp_pow (by decide) rfl
  have p60 : ∀ en m, binR .pow en m (.val (.int 10)) (.val (.int 60)) = some (.val (.int (10 ^ 60))) := fun en m => cmp_pow (by decide) rfl
  by_cases h : 10 ^ 18 ≤ cell
  · refine ⟨cell - 10 ^ 18, ?_⟩
    have hl : (1 : Nat) ≤ LIM := by decide
    simp only [b_law_deck, List.map_cons, List.map_nil, List.length_cons, List.length_nil, List.replicate, sv_seq, sv_iff, sv_ret, sv_skip, ev_cmp, ev_bin, ev_var, ev_int, ev_lst, evs_cons, evs_nil, enGet_0, enGet_s, bind_okR, bnd_ok, optp_some, opt2p_some, hold_val, List.cons_append, List.nil_append,
      p18, opt_someR, ge_ints, blR_bl, h, decide_true, if_true, sub_ints, esc_val, opt2_someR, Nat.zero_add, hl, thn_nx, thn_rt, retR_new, end_rt, Nat.reduceSub, Nat.reduceAdd]
  · have s := fun j (hj : j = 1 ∨ j = 2 ∨ j = 3) => stir_run (k := k) (gl := gl) (N := N) (m := m) (cell := cell) hc hj
    have l1 := stir_lim (cell := cell) (k := 1)
    have l2 := stir_lim (cell := cell) (k := 2)
    have l3 := stir_lim (cell := cell) (k := 3)
    have s1 := s 1 (.inl rfl)
    have s2 := s 2 (.inr (.inl rfl))
    have s3 := s 3 (.inr (.inr rfl))
    have hl : (1 : Nat) ≤ LIM := by decide
    generalize stirV cell 1 = v1 at *
    generalize stirV cell 2 = v2 at *
    generalize stirV cell 3 = v3 at *
    have m1 : mulOk v1 (10 ^ 60) = true := mulOk_200 (by omega) (by omega) (by decide) (by decide)
    have m2 : mulOk (v1 * 10 ^ 60 + v2) (10 ^ 60) = true := mulOk_200 (by omega) (by omega) (by decide) (by decide)
    refine ⟨(v1 * 10 ^ 60 + v2) * 10 ^ 60 + v3, ?_⟩
    simp only [b_law_deck, List.map_cons, List.map_nil, List.length_cons, List.length_nil, List.replicate, sv_seq, sv_iff, sv_ret, sv_skip, ev_cmp, ev_bin, ev_var, ev_int, ev_lst, ev_call, evs_cons, evs_nil, enGet_0, enGet_s, bind_okR, bnd_ok, optp_some, opt2p_some, hold_val, List.cons_append, List.nil_append,
      p18, p60, opt_someR, ge_ints, blR_bl, h, decide_false, Bool.false_eq_true, if_false, if_true, add_ints, mul_ints m1, mul_ints m2, esc_val, opt2_someR, Nat.zero_add, hl, thn_nx, thn_rt, retR_new, end_rt, Nat.reduceSub, Nat.reduceAdd, s1, s2, s3, toR_ok]
structure TableOk (most : Int) (p : Int) (tb : List Int) : Prop where
  prime : p ∈ PRS
  one : 1 ≤ tb.length
  most : (tb.length : Int) ≤ most
  few : (tb.length : Int) < p
  worth : ∀ x ∈ tb, 0 ≤ x ∧ x < p
end
end Mp
set_option Elab.async false
set_option linter.all false
set_option maxRecDepth 100000
set_option maxHeartbeats 4000000
namespace Mp
open PySem PySem.Spec PyProof.Rows L2
section
variable {cs : Nat → List W → Sto → CR} {fs : List Fd} {gl : List W} {N k f : Nat} {m : Sto} {en : En}
theorem intsW_ints : ∀ ns : List Int, intsW (ns.map W.int) = some ns
  | [] => rfl
  | n :: ns => by simp only [List.map_cons, intsW, intsW_ints ns, Option.map_some]
@[simp] theorem sum_lst {m : Sto} {ns : List Int} : bltR .sum m [.lst (ns.map W.int)] = some (.val (.int ns.sum)) := by
  show ((lstW m (.lst (ns.map W.int))).bind fun ws => (intsW ws).map fun s => RV.val (.int s.sum)) = _
  rw [lstW_lst, Option.bind_some, intsW_ints]; rfl
noncomputable def enumF (i : Nat) : List W → List W
  | [] => []
  | w :: ws => .tup [.int (i : Nat), w] :: enumF (i + 1) ws
theorem enumL_eq : ∀ (ws : List W), enumL ws = enumF 0 ws := by
  have go : ∀ (ws : List W) (i : Nat), ((List.range ws.length).map (· + i)).zipWith (fun i w => W.tup [.int (i : Nat), w]) ws = enumF i ws := by
    intro ws
    induction ws with
    | nil => intro i; rfl
    | cons w ws ih =>
      intro i
      rw [List.length_cons, List.range_succ_eq_map, List.map_cons, List.map_map, List.zipWith_cons_cons]
      unfold enumF
      rw [Nat.zero_add]
      congr 1
      rw [← ih (i + 1)]
      congr 1
      exact List.map_congr_left fun j _ => by show j.succ + i = j + (i + 1); omega
  intro ws
  have := go ws 0
  rw [← this]
  unfold enumL
  congr 1
  exact (List.map_id'' (fun _ => rfl) _).symm
end
end Mp
set_option Elab.async false
set_option linter.all false
set_option maxRecDepth 100000
set_option maxHeartbeats 4000000
namespace Mp
open PySem PySem.Spec PyProof.Rows L2
theorem slc_ev {cs : Nat → List W → Sto → CR} {gl : List W} {m : Sto} {en : En} {a lo hi : E} : ev cs gl (.slc a lo hi) en m = bnd (ev cs gl a en m) fun x en m => bnd (if isNil lo then .ok none en m else bnd (ev cs gl lo en m) fun y en m => optp (intR y) fun i => .ok (some i) en m) fun l en m =>
      bnd (if isNil hi then .ok none en m else bnd (ev cs gl hi en m) fun y en m => optp (intR y) fun i => .ok (some i) en m) fun h en m =>
      optp ((rvW en (hold x)).bind (lstS m)) fun ws => .ok (.new (cutL ws l h)) en m := by simp only [ev]; rfl
@[simp] theorem lstS_scr {m : Sto} {ws : List W} : lstS m (.scr ws) = some ws := rfl
@[simp] theorem lstS_lst {m : Sto} {ws : List W} : lstS m (.lst ws) = some ws := rfl
theorem add_lsts {en : En} {m : Sto} {ws zs : List W} (h : ws.length + zs.length ≤ LIM) : binR .add en m (.val (.lst ws)) (.val (.lst zs)) = some (.new (ws ++ zs)) := by
  show (if ws.length + zs.length ≤ LIM then _ else _) = _
  rw [if_pos h]
@[simp] theorem int_bl {m : Sto} {b : Bool} : bltR .int m [.bl b] = some (.val (.int (if b then 1 else 0))) := rfl
@[simp] theorem list_lst {m : Sto} {ws : List W} : bltR .list m [.lst ws] = some (.new ws) := rfl
@[simp] theorem ty_int {m : Sto} {i : Int} : tyR m (.int i) = some (some .int) := rfl
section
variable {fs : List Fd} {gl : List W} {N k f : Nat} {m : Sto} {en : En}
structure SumFs (fs : List Fd) (gl : List W) (pb st ip np nt sb gB : Nat) : Prop where
  fpb : fs[pb]? = some ⟨3, 5, b_power_by⟩
  fst : fs[st]? = some ⟨2, 4, b_stands pb⟩
  fip : fs[ip]? = some ⟨1, 2, b_is_prime st gB⟩
  fnp : fs[np]? = some ⟨1, 1, b_need_prime ip⟩
  fnt : fs[nt]? = some ⟨2, 3, b_need_table⟩
  fsb : fs[sb]? = some ⟨3, 5, b_sum_by pb⟩
  fgB : gl[gB]? = some (.tup (([2, 3, 5, 7, 11] : List Int).map W.int))
end
end Mp
set_option Elab.async false
set_option linter.all false
set_option maxRecDepth 100000
set_option maxHeartbeats 4000000
namespace Mp
open PySem PySem.Spec PyProof.Rows L2
section
variable {cs : Nat → List W → Sto → CR} {fs : List Fd} {gl : List W} {N k f : Nat} {m : Sto} {en : En}
theorem fl_steps {tg : Tg} {b : S} : ∀ {zs : List W} {en : En} {m : Sto} (I : Nat → En → Sto → Prop), I 0 en m →
    (∀ i z, zs[i]? = some z → ∀ en m, I i en m → ∃ en2 en3 m3, bindT tg z m en = some en2 ∧ sv cs gl N b en2 m = .ok .nx en3 m3 ∧ I (i + 1) en3 m3) → ∃ en2 m2, fl cs gl N tg b [] zs en m = .ok .nx en2 m2 ∧ I zs.length en2 m2
  | [], en, m, I, h, _ => ⟨en, m, fl_nil rfl, h⟩
  | z :: zs, en, m, I, h, q => by
    obtain ⟨en2, en3, m3, q1, q2, q3⟩ := q 0 z rfl en m h
    obtain ⟨en4, m4, r1, r2⟩ := fl_steps (tg := tg) (b := b) (zs := zs) (fun i => I (i + 1)) q3 fun i y hy => q (i + 1) y (by simpa using hy)
    refine ⟨en4, m4, ?_, r2⟩
    rw [fl_cons0, q1, optp_some, q2]
    exact r1
noncomputable def encP (q : Int × Int) : W := .tup [.int q.1, .int q.2]
noncomputable def numP (s : Int) : List Int → List (Int × Int)
  | [] => []
  | x :: xs => (s, x) :: numP (s + 1) xs
theorem enum_enc : ∀ (a : List Int) (i : Nat), enumF i (a.map W.int) = (numP i a).map encP
  | [], i => rfl
  | x :: a, i => by
    rw [List.map_cons, enumF, enum_enc a (i + 1)]
    rfl
@[simp] theorem ty_lst {m : Sto} {ws : List W} : tyR m (.lst ws) = some (some .list) := rfl
end
end Mp
set_option Elab.async false
set_option linter.all false
set_option maxRecDepth 100000
set_option maxHeartbeats 4000000
namespace Mp
open PySem PySem.Spec PyProof.Rows L2
section
variable {fs : List Fd} {gl : List W} {N k f : Nat} {m : Sto} {en : En}
end
end Mp
set_option Elab.async false
set_option linter.all false
set_option maxRecDepth 100000
set_option maxHeartbeats 4000000
namespace Mp
open PySem PySem.Spec PyProof.Rows L2
structure PrimeFs (fs : List Fd) (gl : List W) (pb st ip np gB : Nat) : Prop where
  fpb : fs[pb]? = some ⟨3, 5, b_power_by⟩
  fst : fs[st]? = some ⟨2, 4, b_stands pb⟩
  fip : fs[ip]? = some ⟨1, 2, b_is_prime st gB⟩
  fnp : fs[np]? = some ⟨1, 1, b_need_prime ip⟩
  fgB : gl[gB]? = some (.tup (([2, 3, 5, 7, 11] : List Int).map W.int))
section
variable {cs : Nat → List W → Sto → CR} {fs : List Fd} {gl : List W} {N k f : Nat} {m : Sto} {en : En}
end
end Mp
set_option Elab.async false
set_option linter.all false
set_option maxRecDepth 100000
set_option maxHeartbeats 4000000
namespace Mp
open PySem PySem.Spec PyProof.Rows L2
@[simp] theorem int1_one {i : Int} : int1 [.int i] = some i := rfl
section
variable {cs : Nat → List W → Sto → CR} {fs : List Fd} {gl : List W} {N k f : Nat} {m : Sto} {en : En}
end
end Mp
set_option Elab.async false
set_option linter.all false
set_option maxRecDepth 100000
set_option maxHeartbeats 4000000
namespace Mp
open PySem PySem.Spec PyProof.Rows L2
structure TabOk (p : Int) (tb : List Int) : Prop where
  prime : p ∈ PRS
  one : 1 ≤ tb.length
  most : tb.length ≤ 1000
  few : (tb.length : Int) < p
  worth : ∀ x ∈ tb, 0 ≤ x ∧ x < p
theorem TableOk.tab {most p : Int} {tb : List Int} (T : TableOk most p tb) (h : most ≤ 1000) : TabOk p tb := ⟨T.prime, T.one, by have := T.most; omega, T.few, T.worth⟩
section
variable {cs : Nat → List W → Sto → CR} {fs : List Fd} {gl : List W} {N k f : Nat} {m : Sto} {en : En}
end
end Mp
set_option Elab.async false
set_option linter.all false
set_option maxRecDepth 100000
set_option maxHeartbeats 4000000
namespace Mp
open PySem PySem.Spec PyProof.Rows L2
section
variable {fs : List Fd} {gl : List W} {N k f : Nat} {m : Sto} {en : En}
end
end Mp
set_option linter.all false
/-! Numbers by a prime: plain arithmetic. -/
namespace Mp
structure PrimeP (p : Int) : Prop where
  two : 2 ≤ p
  mul : ∀ a b : Int, p ∣ a * b → p ∣ a ∨ p ∣ b
section
variable {p : Int} (P : PrimeP p)
theorem PrimeP.left (P : PrimeP p) {a b : Int} (h : p ∣ a * b) (h2 : ¬ p ∣ b) : p ∣ a := (P.mul a b h).resolve_right h2
theorem PrimeP.right (P : PrimeP p) {a b : Int} (h : p ∣ a * b) (h2 : ¬ p ∣ a) : p ∣ b := (P.mul a b h).resolve_left h2
end
end Mp
set_option linter.all false
namespace Mp
noncomputable def pw : List (Int × Int) → Nat → Int
  | [], _ => 0
  | q :: l, j => q.2 * q.1 ^ j + pw l j
section
variable {p : Int}
noncomputable def apartP (x : Int) : List (Int × Int) → Int
  | [] => 1
  | q :: l => (x - q.1) * apartP x l
noncomputable def Weights (p : Int) (l : List (Int × Int)) : Prop := ∀ q r, l.Perm (q :: r) → p ∣ q.2 * apartP q.1 r - 1
theorem Weights.perm {a b : List (Int × Int)} (h : Weights p a) (e : a.Perm b) : Weights p b := fun q r h2 => h q r (e.trans h2)
end
end Mp
set_option linter.all false
namespace Mp
section
variable {p : Int}
end
end Mp
set_option linter.all false
namespace Mp
noncomputable abbrev Row := List Int
noncomputable def rat (r : Row) (k : Nat) : Int := r.getD k 0
/-! what it keeps -/
theorem rat_lt {r : Row} {k : Nat} (h : k < r.length) : rat r k = r[k] := by
  unfold rat
  rw [List.getD_eq_getElem?_getD, List.getElem?_eq_getElem h]; rfl
theorem rat_ge {r : Row} {k : Nat} (h : r.length ≤ k) : rat r k = 0 := by
  unfold rat
  rw [List.getD_eq_getElem?_getD, List.getElem?_eq_none h]; rfl
section
variable {p : Int} {m : Nat}
end
section
variable {p : Int} {m : Nat}
end
end Mp
set_option linter.all false
namespace Mp
section
variable {p : Int} {m : Nat}
end
end Mp
set_option linter.all false
namespace Mp
section
variable {p : Int}
noncomputable def offN (a b : List Int) : List Nat := (List.range a.length).filter fun i => decide (rat a i ≠ rat b i)
theorem off_mem {a b : List Int} {i : Nat} : i ∈ offN a b ↔ i < a.length ∧ rat a i ≠ rat b i := by
  unfold offN
  rw [List.mem_filter, List.mem_range]
  simp
theorem off_nodup {a b : List Int} : (offN a b).Nodup := List.Pairwise.filter _ List.nodup_range
structure TabP (p : Int) (L : Nat) (tb : List Int) : Prop where
  len : tb.length = L
  lo : ∀ k, 0 ≤ rat tb k
  hi : ∀ k, rat tb k < p
theorem len_le_of_sub {l m : List Nat} (hn : l.Nodup) (hs : ∀ i ∈ l, i ∈ m) : l.length ≤ m.length := by
  induction l generalizing m with
  | nil => exact Nat.zero_le _
  | cons i l ih =>
    have hn2 := List.nodup_cons.mp hn
    have hp := List.perm_cons_erase (hs i List.mem_cons_self)
    have := ih (m := m.erase i) hn2.2 fun k hk => (List.mem_erase_of_ne fun e : k = i => hn2.1 (e ▸ hk)).mpr (hs k (List.mem_cons_of_mem _ hk))
    have hl := hp.length_eq
    simp only [List.length_cons] at *
    omega
/-! what the program does -/
end
end Mp
set_option linter.all false
namespace Mp
section
variable {p : Int}
end
end Mp
set_option Elab.async false
set_option linter.all false
set_option maxRecDepth 100000
set_option maxHeartbeats 4000000
namespace Mp
theorem TabOk.tab {p : Int} {tb : List Int} (T : TabOk p tb) : TabP p tb.length tb := by
  have hp := prs_lim p T.prime
  have key : ∀ k, 0 ≤ rat tb k ∧ rat tb k < p := fun k => by
    by_cases c : k < tb.length
    · rw [rat_lt c]; exact T.worth _ (List.getElem_mem c)
    · rw [rat_ge (by omega)]; omega
  exact ⟨rfl, fun k => (key k).1, fun k => (key k).2⟩
end Mp
set_option Elab.async false
set_option linter.all false
set_option maxRecDepth 100000
set_option maxHeartbeats 4000000
namespace Mp
open PySem PySem.Spec PyProof.Rows L2
section
variable {cs : Nat → List W → Sto → CR} {fs : List Fd} {gl : List W} {N k f : Nat} {m : Sto} {en : En}
theorem add_own {en : En} {m : Sto} {j : Nat} {ws zs : List W} (he : enGet en j = some (.own ws)) (h : ws.length + zs.length ≤ LIM) : binR .add en m (.bor j) (.val (.lst zs)) = some (.new (ws ++ zs)) := by
  have e : rvW en (.bor j) = some (.lst ws) := by rw [rvW_bor, he]; rfl
  have e2 : binR .add en m (.bor j) (.val (.lst zs)) = binR .add en m (.val (.lst ws)) (.val (.lst zs)) := by
    unfold binR
    rw [e]; rfl
  rw [e2]
  exact add_lsts (en := en) (m := m) h
end
end Mp
set_option Elab.async false
set_option linter.all false
set_option maxRecDepth 100000
set_option maxHeartbeats 4000000
namespace Mp
open PySem PySem.Spec PyProof.Rows L2
section
variable {cs : Nat → List W → Sto → CR} {fs : List Fd} {gl : List W} {N k f : Nat} {m : Sto} {en : En}
end
end Mp
set_option Elab.async false
set_option linter.all false
set_option maxRecDepth 100000
set_option maxHeartbeats 4000000
namespace Mp
open PySem PySem.Spec PyProof.Rows L2
section
variable {cs : Nat → List W → Sto → CR} {fs : List Fd} {gl : List W} {N k f : Nat} {m : Sto} {en : En}
end
end Mp
set_option Elab.async false
set_option linter.all false
set_option maxRecDepth 100000
set_option maxHeartbeats 4000000
/-! errors: one step each -/
namespace Mp
open PySem PySem.Spec PyProof.Rows L2
section
variable {cs : Nat → List W → Sto → CR} {fs : List Fd} {gl : List W} {N k f c : Nat} {m m1 m2 m3 : Sto} {en en1 en2 en3 : En}
theorem raise_st : sv cs gl N (.raise c) en m = .ex c en m := by simp only [sv]
@[simp] theorem thn_ex {f : En → Sto → R Out} {h : Pin f} : thn (.ex c en m) f h = .ex c en m := rfl
@[simp] theorem end_ex : endR (.ex c en m) = .ex c m := rfl
theorem try_ex {b s : S} {cl : List Nat} {j : Nat} {o : Out} (h : sv cs gl N b en m = .ex c en1 m1) (hc : cl.contains c = true) (h2 : sv cs gl N s (en1.set j (some (.val (.exc c)))) m1 = .ok o en2 m2) : sv cs gl N (.tryx b cl j s) en m = .ok o (en2.set j none) m2 := by
  simp only [sv, h, hc, if_true, h2]; rfl
theorem try_ok {b s : S} {cl : List Nat} {j : Nat} {o : Out} (h : sv cs gl N b en m = .ok o en1 m1) : sv cs gl N (.tryx b cl j s) en m = .ok o en1 m1 := by
  simp only [sv, h]
theorem un_at {d : Fd} (h : fs[f]? = some d) : (fs.map (unF true))[f]? = some (unF true d) := by rw [List.getElem?_map, h]; rfl
structure PrimeX (fs : List Fd) (gl : List W) (pb st ip np gB xp : Nat) : Prop where
  fpb : fs[pb]? = some ⟨3, 5, b_power_by⟩
  fst : fs[st]? = some ⟨2, 4, b_stands pb⟩
  fip : fs[ip]? = some ⟨1, 2, b_is_prime st gB⟩
  fnp : fs[np]? = some ⟨1, 1, b_need_prime_v1 ip xp⟩
  fgB : gl[gB]? = some (.tup (([2, 3, 5, 7, 11] : List Int).map W.int))
theorem PrimeX.un {pb st ip np gB xp : Nat} (F : PrimeX fs gl pb st ip np gB xp) : PrimeFs (fs.map (unF true)) gl pb st ip np gB :=
  ⟨un_at F.fpb, un_at F.fst, un_at F.fip, un_at F.fnp, F.fgB⟩
end
end Mp
set_option Elab.async false
set_option linter.all false
set_option maxRecDepth 100000
set_option maxHeartbeats 4000000
/-! tables and sums that are refused -/
namespace Mp
open PySem PySem.Spec PyProof.Rows L2
noncomputable def BadT (p : Int) (tb : List Int) : Prop := ¬ (1 ≤ tb.length ∧ (tb.length : Int) < p) ∨ ∃ x ∈ tb, ¬ (0 ≤ x ∧ x < p)
structure SumX (fs : List Fd) (gl : List W) (pb st ip np nt sb gB xp xt : Nat) : Prop extends PrimeX fs gl pb st ip np gB xp where
  fnt : fs[nt]? = some ⟨2, 3, b_need_table_v1 xt⟩
  fsb : fs[sb]? = some ⟨3, 5, b_sum_by pb⟩
section
variable {cs : Nat → List W → Sto → CR} {fs : List Fd} {gl : List W} {N k f c : Nat} {m m1 m2 m3 : Sto} {en en1 en2 en3 : En}
theorem SumX.un {pb st ip np nt sb gB xp xt : Nat} (F : SumX fs gl pb st ip np nt sb gB xp xt) : SumFs (fs.map (unF true)) gl pb st ip np nt sb gB :=
  ⟨un_at F.fpb, un_at F.fst, un_at F.fip, un_at F.fnp, un_at F.fnt, un_at F.fsb, F.fgB⟩
variable {pb st ip np nt sb gB xp xt : Nat}
/-! what is counted -/
end
end Mp
set_option Elab.async false
set_option linter.all false
set_option maxRecDepth 100000
set_option maxHeartbeats 4000000
namespace Mp
open PySem PySem.Spec PyProof.Rows L2
section
variable {cs : Nat → List W → Sto → CR} {fs : List Fd} {gl : List W} {N k f : Nat} {m : Sto} {en : En}
structure SolveFs (fs : List Fd) (gl : List W) (pb st ip np gB iv nr cr sv_ : Nat) : Prop where
  pr : PrimeFs fs gl pb st ip np gB
  fiv : fs[iv]? = some ⟨2, 2, b_inverse_by np pb⟩
  fnr : fs[nr]? = some ⟨2, 3, b_need_rows⟩
  fcr : fs[cr]? = some ⟨4, 12, b_cleared iv⟩
  fsv : fs[sv_]? = some ⟨3, 12, b_solved_by_v1 cr np nr⟩
end
end Mp
set_option linter.all false
namespace Mp
section
variable {p : Int}
theorem TabP.mem {tb : List Int} {L : Nat} (T : TabP p L tb) : ∀ x ∈ tb, 0 ≤ x ∧ x < p := fun x hx => by
  obtain ⟨i, hi, rfl⟩ := List.getElem_of_mem hx
  have h1 := T.lo i
  have h2 := T.hi i
  rw [rat_lt hi] at h1 h2
  exact ⟨h1, h2⟩
end
end Mp
set_option Elab.async false
set_option linter.all false
set_option maxRecDepth 100000
set_option maxHeartbeats 4000000
namespace Mp
open PySem PySem.Spec PyProof.Rows L2
section
variable {cs : Nat → List W → Sto → CR} {fs : List Fd} {gl : List W} {N k f : Nat} {m : Sto} {en : En}
structure NearFs (fs : List Fd) (gl : List W) (pb st ip np gB iv nr cr sv_ mp wa tw : Nat) : Prop where
  sl : SolveFs fs gl pb st ip np gB iv nr cr sv_
  fmp : fs[mp]? = some ⟨4, 13, b_marked_places pb sv_⟩
  fwa : fs[wa]? = some ⟨3, 7, b_worths_at pb sv_⟩
  ftw : fs[tw]? = some ⟨5, 10, b_table_by_width mp wa⟩
end
end Mp
set_option Elab.async false
set_option linter.all false
set_option maxRecDepth 100000
set_option maxHeartbeats 4000000
namespace Mp
open PySem PySem.Spec PyProof.Rows L2
section
variable {cs : Nat → List W → Sto → CR} {fs : List Fd} {gl : List W} {N k f : Nat} {m : Sto} {en : En}
end
end Mp
set_option Elab.async false
set_option linter.all false
set_option maxRecDepth 100000
set_option maxHeartbeats 4000000
namespace Mp
open PySem PySem.Spec PyProof.Rows L2
section
variable {cs : Nat → List W → Sto → CR} {fs : List Fd} {gl : List W} {N k f : Nat} {m : Sto} {en : En}
structure FarFs (fs : List Fd) (gl : List W) (pb st ip np gB iv nr cr sv_ mp wa tw nt sb sy tn : Nat) : Prop where
  nf : NearFs fs gl pb st ip np gB iv nr cr sv_ mp wa tw
  fnt : fs[nt]? = some ⟨2, 3, b_need_table⟩
  fsb : fs[sb]? = some ⟨3, 5, b_sum_by pb⟩
  fsy : fs[sy]? = some ⟨3, 4, b_sums_by sb⟩
  ftn : fs[tn]? = some ⟨4, 9, b_table_near np nt sy tw⟩
theorem FarFs.sum {pb st ip np gB iv nr cr sv_ mp wa tw nt sb sy tn : Nat} (F : FarFs fs gl pb st ip np gB iv nr cr sv_ mp wa tw nt sb sy tn) : SumFs fs gl pb st ip np nt sb gB := ⟨F.nf.sl.pr.fpb, F.nf.sl.pr.fst, F.nf.sl.pr.fip, F.nf.sl.pr.fnp, F.fnt, F.fsb, F.nf.sl.pr.fgB⟩
end
end Mp
set_option Elab.async false
set_option linter.all false
set_option maxRecDepth 100000
set_option maxHeartbeats 4000000
namespace Mp
open PySem PySem.Spec PyProof.Rows L2
section
variable {fs : List Fd} {gl : List W} {N k f : Nat} {m : Sto} {en : En}
noncomputable def Holds (s : Option Sl) (ns : List Int) : Prop := s = some (.own (ns.map W.int)) ∨ s = some (.val (.lst (ns.map W.int)))
theorem Holds.ev {cs : Nat → List W → Sto → CR} {s : Option Sl} {ns : List Int} (h : Holds s ns) : s = some (.own (ns.map W.int)) ∨ s = some (.val (.lst (ns.map W.int))) := h
end
end Mp
set_option Elab.async false
set_option linter.all false
set_option maxRecDepth 100000
set_option maxHeartbeats 4000000
namespace Mp
open PySem PySem.Spec PyProof.Rows L2
noncomputable def Keeps (m m2 : Sto) : Prop := ∀ i, i < m.length → m2[i]? = m[i]?
theorem Keeps.refl {m : Sto} : Keeps m m := fun _ _ => rfl
theorem Keeps.len {m m2 : Sto} (h : Keeps m m2) : m.length ≤ m2.length := by
  by_cases c : m.length ≤ m2.length
  · exact c
  · have := h m2.length (by omega)
    rw [List.getElem?_eq_none (Nat.le_refl _), List.getElem?_eq_getElem (by omega)] at this
    cases this
theorem Keeps.trans {m m2 m3 : Sto} (h : Keeps m m2) (g : Keeps m2 m3) : Keeps m m3 := fun i hi => by
  rw [g i (Nat.lt_of_lt_of_le hi h.len), h i hi]
theorem Keeps.app {m e : Sto} : Keeps m (m ++ e) := fun i hi => List.getElem?_append_left hi
theorem Keeps.set {m m2 : Sto} (h : Keeps m m2) {r : Nat} (hr : m.length ≤ r) {o : Ob} : Keeps m (m2.set r o) := fun i hi => by
  rw [List.getElem?_set_ne (by omega)]; exact h i hi
theorem Keeps.at {m m2 : Sto} (h : Keeps m m2) {r : Nat} {o : Ob} (hr : m[r]? = some o) : m2[r]? = some o := by
  rw [h r (List.getElem?_eq_some_iff.mp hr).1]; exact hr
section
variable {cs : Nat → List W → Sto → CR} {fs : List Fd} {gl : List W} {N k f : Nat} {m : Sto} {en : En}
end
end Mp
set_option Elab.async false
set_option linter.all false
set_option maxRecDepth 100000
set_option maxHeartbeats 4000000
namespace Mp
open PySem PySem.Spec PyProof.Rows L2
section
variable {cs : Nat → List W → Sto → CR} {fs : List Fd} {gl : List W} {N k f : Nat} {m : Sto} {en : En}
structure Drawn (n : Nat) (ps left : List Int) : Prop where
  all : (ps ++ left).Perm ((List.range n).map fun (i : Nat) => (i : Int))
theorem out_perm {A : Type} : ∀ (l : List A) (i : Nat) (h : i < l.length), (l[i] :: l.eraseIdx i).Perm l
  | x :: l, 0, h => List.Perm.refl _
  | x :: l, i + 1, h => by
    have := out_perm l i (by simpa using h)
    exact (List.Perm.swap _ _ _).trans (this.cons x)
theorem Drawn.more {n i : Nat} {ps left : List Int} (D : Drawn n ps left) (h : i < left.length) : Drawn n (ps ++ [left[i]]) (left.eraseIdx i) := by
  constructor
  refine List.Perm.trans ?_ D.all
  rw [List.append_assoc]
  refine List.Perm.append_left _ ?_
  exact out_perm left i h
end
end Mp
set_option Elab.async false
set_option linter.all false
set_option maxRecDepth 100000
set_option maxHeartbeats 4000000
namespace Mp
open PySem PySem.Spec PyProof.Rows L2
theorem otherwise {p x d : Int} (hp : 2 ≤ p) (h0 : 0 ≤ x) (h1 : x < p) : x ≠ (x + 1 + d % (p - 1)) % p := fun e => by
  have a := Int.emod_nonneg d (show p - 1 ≠ 0 by omega)
  have b := Int.emod_lt_of_pos d (show 0 < p - 1 by omega)
  have := Int.emod_add_mul_ediv (x + 1 + d % (p - 1)) p
  rw [← e] at this
  generalize (x + 1 + d % (p - 1)) / p = q at this
  have c1 : q < 1 := by
    by_cases c : q < 1
    · exact c
    · have : p * 1 ≤ p * q := Int.mul_le_mul_of_nonneg_left (by omega) (by omega)
      omega
  have c2 : -1 < q := by
    by_cases c : -1 < q
    · exact c
    · have : p * q ≤ p * (-1) := Int.mul_le_mul_of_nonneg_left (by omega) (by omega)
      omega
  have : q = 0 := by omega
  subst this
  omega
section
variable {cs : Nat → List W → Sto → CR} {fs : List Fd} {gl : List W} {N k f : Nat} {m : Sto} {en : En}
end
end Mp
set_option Elab.async false
set_option linter.all false
set_option maxRecDepth 100000
set_option maxHeartbeats 4000000
namespace Mp
open PySem PySem.Spec PyProof.Rows L2
section
variable {cs : Nat → List W → Sto → CR} {fs : List Fd} {gl : List W} {N k f : Nat} {m : Sto} {en : En}
end
end Mp
set_option Elab.async false
set_option linter.all false
set_option maxRecDepth 100000
set_option maxHeartbeats 4000000
namespace Mp
open PySem PySem.Spec PyProof.Rows L2
section
variable {cs : Nat → List W → Sto → CR} {fs : List Fd} {gl : List W} {N k f : Nat} {m : Sto} {en : En}
end
end Mp
set_option Elab.async false
set_option linter.all false
set_option maxRecDepth 100000
set_option maxHeartbeats 4000000
namespace Mp
open PySem PySem.Spec PyProof.Rows L2
section
variable {cs : Nat → List W → Sto → CR} {fs : List Fd} {gl : List W} {N k f : Nat} {m : Sto} {en : En}
end
end Mp
set_option Elab.async false
set_option linter.all false
set_option maxRecDepth 100000
set_option maxHeartbeats 4000000
namespace Mp
open PySem PySem.Spec PyProof.Rows L2
theorem TabOk.table {p : Int} {tb : List Int} (T : TabOk p tb) : TableOk 1000 p tb := ⟨T.prime, T.one, by have := T.most; omega, T.few, T.worth⟩
section
variable {cs : Nat → List W → Sto → CR} {fs : List Fd} {gl : List W} {N k f : Nat} {m : Sto} {en : En}
end
end Mp
set_option Elab.async false
set_option linter.all false
set_option maxRecDepth 100000
set_option maxHeartbeats 4000000
namespace Mp
open PySem PySem.Spec PyProof.Rows L2
section
variable {cs : Nat → List W → Sto → CR} {fs : List Fd} {gl : List W} {N k f : Nat} {m : Sto} {en : En}
theorem comp_runm {it : It} {src c elt : E} {tg : Tg} {js : List Nat} {ws zs rs : List W} {ck : List (Nat × List W)} {e2 en1 en2 en3 : En} {m1 m2 : Sto} (h1 : evs cs gl src en m = .ok ws e2 m1) (h2 : itemsR it m1 ws = some (zs, ck)) (h3 : zs.length ≤ LIM) (h4 : wipeE (frzE e2 js) js = en1) (h5 : cl cs gl tg js c elt ck zs en1 m1 = .ok rs en2 m2) (h6 : restE (frzE e2 js) en2 js = en3) :
    ev cs gl (.comp it src tg js c elt) en m = .ok (.new rs) en3 m2 := by
  rw [ev_comp, h1, bnd_ok, h2, opt2p_some, if_pos h3, h4, h5, bnd_ok, h6]
end
end Mp
set_option Elab.async false
set_option linter.all false
set_option maxRecDepth 100000
set_option maxHeartbeats 4000000
namespace Mp
open PySem PySem.Spec PyProof.Rows L2
noncomputable def Rd (m : Sto) (w : W) (ns : List Int) : Prop := w = .lst (ns.map W.int) ∨ ∃ r, w = .ref r ∧ m[r]? = some (.lst (ns.map W.int))
theorem Rd.lst {m : Sto} {ns : List Int} : Rd m (.lst (ns.map W.int)) ns := .inl rfl
theorem Rd.len {m : Sto} {w : W} {ns : List Int} (h : Rd m w ns) : bltR .len m [w] = some (.val (.int (ns.length : Int))) := by
  rcases h with rfl | ⟨r, rfl, h⟩
  · rw [len_lst, List.length_map]
  · unfold bltR
    simp only [seqW, lstS, lstW_ref h, Option.map_some, List.length_map]
theorem Rd.idx {m : Sto} {w : W} {ns : List Int} (h : Rd m w ns) {en : En} {i : Int} : idxR en m (.val w) (.val (.int i)) = atI (ns.map W.int) i := by
  rcases h with rfl | ⟨r, rfl, h⟩
  · exact idx_lst
  · exact idx_ref h
theorem Rd.list {m : Sto} {w : W} {ns : List Int} (h : Rd m w ns) : bltR .list m [w] = some (.new (ns.map W.int)) := by
  rcases h with rfl | ⟨r, rfl, h⟩
  · exact list_lst
  · unfold bltR
    simp only [seqW, lstS, lstW_ref h, Option.map_some]
theorem Rd.items {m : Sto} {w : W} {ns : List Int} (h : Rd m w ns) : ∃ ck, itemsR .list m [w] = some (ns.map W.int, ck) ∧ chk ck m = true := by
  rcases h with rfl | ⟨r, rfl, h⟩
  · exact ⟨_, items_lst, rfl⟩
  · exact ⟨_, items_ref h, chk_ref h⟩
theorem Rd.rd {m : Sto} {w : W} {ns : List Int} (h : Rd m w ns) : Mp.rd m w = .lst (ns.map W.int) := by
  rcases h with rfl | ⟨r, rfl, h⟩
  · rfl
  · simp only [Mp.rd, h]
theorem Rd.keep {m m2 : Sto} {w : W} {ns : List Int} (h : Rd m w ns) (K : Keeps m m2) : Rd m2 w ns := by
  rcases h with rfl | ⟨r, rfl, h⟩
  · exact .inl rfl
  · exact .inr ⟨r, rfl, K.at h⟩
section
variable {cs : Nat → List W → Sto → CR} {fs : List Fd} {gl : List W} {N k f : Nat} {m : Sto} {en : En}
end
end Mp
set_option Elab.async false
set_option linter.all false
set_option maxRecDepth 100000
set_option maxHeartbeats 4000000
namespace Mp
open PySem PySem.Spec PyProof.Rows L2
section
variable {cs : Nat → List W → Sto → CR} {fs : List Fd} {gl : List W} {N k f : Nat} {m : Sto} {en : En}
end
end Mp
set_option Elab.async false
set_option linter.all false
set_option maxRecDepth 100000
set_option maxHeartbeats 4000000
namespace Mp
open PySem PySem.Spec PyProof.Rows L2
section
variable {cs : Nat → List W → Sto → CR} {fs : List Fd} {gl : List W} {N k f : Nat} {m : Sto} {en : En}
structure TwinFs (fs : List Fd) (gl : List W) (pb st ip np nt sb gB iv sy fi gS nh bw tw ns ts : Nat) : Prop where
  sm : SumFs fs gl pb st ip np nt sb gB
  fiv : fs[iv]? = some ⟨2, 2, b_inverse_by np pb⟩
  fsy : fs[sy]? = some ⟨3, 4, b_sums_by sb⟩
  ffi : fs[fi]? = some ⟨3, 3, b_first_sums np nt sy gS⟩
  fgS : gl[gS]? = some (.int 100)
  fnh : fs[nh]? = some ⟨3, 3, b_need_half np nt⟩
  fbw : fs[bw]? = some ⟨2, 6, b_blind_weights iv⟩
  ftw : fs[tw]? = some ⟨3, 7, b_twins_of bw nh⟩
  fns : fs[ns]? = some ⟨4, 6, b_is_near⟩
  fts : fs[ts]? = some ⟨5, 5, b_twins_show fi ns nh⟩
variable {pb st ip np nt sb gB iv sy fi gS nh bw tw ns ts : Nat}
end
end Mp
set_option Elab.async false
set_option linter.all false
set_option maxRecDepth 100000
set_option maxHeartbeats 4000000
namespace Mp
open PySem PySem.Spec PyProof.Rows L2
end Mp
set_option Elab.async false
set_option linter.all false
set_option maxRecDepth 100000
set_option maxHeartbeats 4000000
namespace Mp
open PySem PySem.Spec PyProof.Rows L2
section
variable {cs : Nat → List W → Sto → CR} {fs : List Fd} {gl : List W} {N k f : Nat} {m : Sto} {en : En}
end
end Mp
set_option Elab.async false
set_option linter.all false
set_option maxRecDepth 100000
set_option maxHeartbeats 4000000
namespace Mp
open PySem PySem.Spec PyProof.Rows L2
section
variable {cs : Nat → List W → Sto → CR} {fs : List Fd} {gl : List W} {N k f : Nat} {m : Sto} {en : En}
end
end Mp
set_option Elab.async false
set_option linter.all false
set_option maxRecDepth 100000
set_option maxHeartbeats 4000000
namespace Mp
open PySem PySem.Spec PyProof.Rows L2
/-! ### objects: one step each -/
section
variable {cs : Nat → List W → Sto → CR} {fs : List Fd} {gl : List W} {N k f : Nat} {m : Sto} {en : En}
theorem ev_fld {a : E} {x : Str} {cl : List Nat} : ev cs gl (.fld a x cl) en m = bnd (ev cs gl a en m) fun y en m => optp (rvW en y) fun w => optp (fldR m x cl w) fun z => .ok (.val z) en m := by simp only [ev]; rfl
theorem fld_at {i c : Nat} {fl : List (Str × W)} {x : Str} {cl : List Nat} {z : W} (h : m[i]? = some (.ins c fl)) (hc : cl.contains c = true) (hl : fl.lookup x = some z) : fldR m x cl (.ref i) = some z := by
  unfold fldR insW
  simp only [h, Option.bind_some]
  rw [if_pos hc]; exact hl
theorem mth_at {i c g : Nat} {fl : List (Str × W)} {x : Str} {cf : List (Nat × Nat)} (h : m[i]? = some (.ins c fl)) (hx : fl.lookup x = none) (hf : cf.lookup c = some g) : mthR m x cf (.ref i) = some g := by
  unfold mthR insW
  simp only [h, Option.bind_some, hx]
  exact hf
theorem Rd.enum {w : W} {ns : List Int} (h : Rd m w ns) : ∃ ck, itemsR .enum m [w] = some ((numP 0 ns).map encP, ck) ∧ chk ck m = true := by
  have ee : enumL (ns.map W.int) = (numP 0 ns).map encP := by rw [enumL_eq, enum_enc]; rfl
  rcases h with rfl | ⟨r, rfl, h⟩
  · exact ⟨_, by rw [← ee]; rfl, rfl⟩
  · refine ⟨[(r, ns.map W.int)], ?_, chk_ref h⟩
    rw [← ee]
    show enumI m [.ref r] = _
    unfold enumI srcL
    simp only [h]
/-! ### the sums of a table that stands in the store -/
end
end Mp
set_option Elab.async false
set_option linter.all false
set_option maxRecDepth 100000
set_option maxHeartbeats 4000000
namespace Mp
open PySem PySem.Spec PyProof.Rows L2
structure Wr (c : Nat) (m : Sto) (a u v : Nat) (p : Int) (tb : List Int) (ls : List W) : Prop where
  obj : m[a]? = some (.ins c [("prime", .int p), ("worths", .ref u), ("letters", .ref v)])
  wo : m[u]? = some (.lst (tb.map W.int))
  le : m[v]? = some (.lst ls)
  ne : u ≠ v
theorem Wr.au {c : Nat} {m : Sto} {a u v : Nat} {p : Int} {tb : List Int} {ls : List W} (h : Wr c m a u v p tb ls) : a ≠ u := fun e => by
  have := h.obj; rw [e, h.wo] at this; cases this
theorem Wr.av {c : Nat} {m : Sto} {a u v : Nat} {p : Int} {tb : List Int} {ls : List W} (h : Wr c m a u v p tb ls) : a ≠ v := fun e => by
  have := h.obj; rw [e, h.le] at this; cases this
theorem Wr.keep {c : Nat} {m m2 : Sto} {a u v : Nat} {p : Int} {tb : List Int} {ls : List W} (h : Wr c m a u v p tb ls) (K : Keeps m m2) : Wr c m2 a u v p tb ls := ⟨K.at h.obj, K.at h.wo, K.at h.le, h.ne⟩
theorem Wr.off {c : Nat} {m m2 : Sto} {a u v : Nat} {p : Int} {tb : List Int} {ls : List W} (h : Wr c m a u v p tb ls) (ka : m2[a]? = m[a]?) (ku : m2[u]? = m[u]?) (kv : m2[v]? = m[v]?) : Wr c m2 a u v p tb ls := ⟨ka.trans h.obj, ku.trans h.wo, kv.trans h.le, h.ne⟩
section
variable {cs : Nat → List W → Sto → CR} {fs : List Fd} {gl : List W} {N k f c : Nat} {m : Sto} {en : En} {a u v : Nat} {p : Int} {tb : List Int} {ls : List W}
theorem Wr.fl (h : Wr c m a u v p tb ls) {cw : List Nat} (hc : cw.contains c = true) : fldR m "letters" cw (.ref a) = some (.ref v) := fld_at h.obj hc rfl
theorem Wr.fp (h : Wr c m a u v p tb ls) {cw : List Nat} (hc : cw.contains c = true) : fldR m "prime" cw (.ref a) = some (.int p) := fld_at h.obj hc rfl
theorem len_ref {r : Nat} {ws : List W} (h : m[r]? = some (.lst ws)) : bltR .len m [.ref r] = some (.val (.int (ws.length : Int))) := by
  unfold bltR
  simp only [seqW, lstS, lstW_ref h, Option.map_some]
noncomputable def letW (n i : Nat) (x : Int) : W := .tup [.int ((n : Int) + 1), .int (i : Int), .int x]
theorem Wr.put (h : Wr c m a u v p tb ls) (i : Nat) (x : Int) (w : W) : Wr c ((m.set u (.lst ((tb.set i x).map W.int))).set v (.lst (ls ++ [w]))) a u v p (tb.set i x) (ls ++ [w]) := by
  have v1 : (m.set u (.lst ((tb.set i x).map W.int)))[v]? = some (.lst ls) := by rw [List.getElem?_set_ne h.ne]; exact h.le
  refine ⟨?_, ?_, get_set v1, h.ne⟩
  · rw [List.getElem?_set_ne (fun e => h.av e.symm), List.getElem?_set_ne (fun e => h.au e.symm)]; exact h.obj
  · rw [List.getElem?_set_ne (fun e => h.ne e.symm), get_set h.wo]
end
end Mp
set_option Elab.async false
set_option linter.all false
set_option maxRecDepth 100000
set_option maxHeartbeats 4000000
namespace Mp
open PySem PySem.Spec PyProof.Rows L2
structure DrawOk (n : Nat) (b : Int) (row : List Int) : Prop where
  len : row.length = n
  lim : ∀ x ∈ row, 0 ≤ x ∧ x < b
theorem DrawOk.at {n : Nat} {b : Int} {row : List Int} (h : DrawOk n b row) {j : Nat} (hj : j < n) : 0 ≤ rat row j ∧ rat row j < b := by
  have hj : j < row.length := by rw [h.len]; exact hj
  rw [rat_lt hj]
  exact h.lim _ (List.getElem_mem hj)
section
variable {cs : Nat → List W → Sto → CR} {fs : List Fd} {gl : List W} {N k f : Nat} {m : Sto} {en : En}
end
end Mp
set_option Elab.async false
set_option linter.all false
set_option maxRecDepth 100000
set_option maxHeartbeats 4000000
namespace Mp
open PySem PySem.Spec PyProof.Rows L2
section
variable {cs : Nat → List W → Sto → CR} {fs : List Fd} {gl : List W} {N k f : Nat} {m : Sto} {en : En}
end
end Mp
set_option Elab.async false
set_option linter.all false
set_option maxRecDepth 100000
set_option maxHeartbeats 4000000
namespace Mp
open PySem PySem.Spec PyProof.Rows L2
section
variable {cs : Nat → List W → Sto → CR} {fs : List Fd} {gl : List W} {N k f : Nat} {m : Sto} {en : En}
end
end Mp
set_option Elab.async false
set_option linter.all false
set_option maxRecDepth 100000
set_option maxHeartbeats 4000000
namespace Mp
open PySem PySem.Spec PyProof.Rows L2
noncomputable def RdW (m : Sto) (w : W) (ls : List W) : Prop := w = .lst ls ∨ ∃ r, w = .ref r ∧ m[r]? = some (.lst ls)
theorem RdW.len {m : Sto} {w : W} {ls : List W} (h : RdW m w ls) : bltR .len m [w] = some (.val (.int (ls.length : Int))) := by
  rcases h with rfl | ⟨r, rfl, h⟩
  · exact len_lst
  · exact len_ref h
theorem RdW.items {m : Sto} {w : W} {ls : List W} (h : RdW m w ls) : ∃ ck, itemsR .list m [w] = some (ls, ck) ∧ chk ck m = true := by
  rcases h with rfl | ⟨r, rfl, h⟩
  · exact ⟨_, items_lst, rfl⟩
  · exact ⟨_, items_ref h, chk_ref h⟩
theorem RdW.keep {m m2 : Sto} {w : W} {ls : List W} (h : RdW m w ls) (K : Keeps m m2) : RdW m2 w ls := by
  rcases h with rfl | ⟨r, rfl, h⟩
  · exact .inl rfl
  · exact .inr ⟨r, rfl, K.at h⟩
noncomputable def LetOk (ls : List W) : Prop := ∀ n w, ls[n]? = some w → ∃ i x, w = letW n i x
theorem LetOk.nil : LetOk [] := fun n w h => by cases h
theorem LetOk.snoc {ls : List W} (h : LetOk ls) {i : Nat} {x : Int} : LetOk (ls ++ [letW ls.length i x]) := fun n w hn => by
  by_cases c : n < ls.length
  · rw [List.getElem?_append_left c] at hn; exact h n w hn
  · rw [List.getElem?_append_right (by omega)] at hn
    have e : n - ls.length = 0 := by
      have := (List.getElem?_eq_some_iff.mp hn).1
      simpa using this
    rw [e] at hn
    have en : n = ls.length := by omega
    subst en
    exact ⟨i, x, (Option.some.inj hn).symm⟩
section
variable {fs : List Fd} {gl : List W} {N k f c : Nat} {m : Sto} {en : En} {a u v : Nat} {p : Int} {tb : List Int} {ls : List W}
variable {pb st ip np nt sb gB sy fi gS wi wp wt wm ws wl sm wh ca : Nat} {cl cp cw : List Nat} {mtl mtm mts mtt : List (Nat × Nat)}
/-! calls of a writer's methods -/
end
end Mp
set_option Elab.async false
set_option linter.all false
set_option maxRecDepth 100000
set_option maxHeartbeats 4000000
namespace Mp
open PySem PySem.Spec PyProof.Rows L2
noncomputable def HeldP (B : Nat) (m : Sto) (hs : List W) : Prop := ∀ z ∈ hs, ∃ (x : Nat) (ns : List Int), z = .lst [.ref x, .lst (ns.map W.int)] ∧ B ≤ x ∧ m[x]? = some (.lst (ns.map W.int))
theorem HeldP.nil {B : Nat} {m : Sto} : HeldP B m [] := fun z h => by cases h
theorem HeldP.keepB {B : Nat} {m m2 : Sto} {hs : List W} (h : HeldP B m hs) (K : ∀ i, B ≤ i → i < m.length → m2[i]? = m[i]?) : HeldP B m2 hs := fun z hz => by
  obtain ⟨x, ns, e, h1, h2⟩ := h z hz
  exact ⟨x, ns, e, h1, by rw [K x h1 (List.getElem?_eq_some_iff.mp h2).1]; exact h2⟩
theorem HeldP.keep {B : Nat} {m m2 : Sto} {hs : List W} (h : HeldP B m hs) (K : Keeps m m2) : HeldP B m2 hs := h.keepB fun i _ hi => K i hi
theorem HeldP.snoc {B : Nat} {m : Sto} {hs : List W} (h : HeldP B m hs) {x : Nat} {ns : List Int} (hx : B ≤ x) (hm : m[x]? = some (.lst (ns.map W.int))) : HeldP B m (hs ++ [.lst [.ref x, .lst (ns.map W.int)]]) := fun z hz => by
  rcases List.mem_append.mp hz with hz | hz
  · exact h z hz
  · rw [List.mem_singleton.mp hz]; exact ⟨x, ns, rfl, hx, hm⟩
structure St17 (ci : Nat) (p : Int) (tb0 : List Int) (i : Nat) (tb : List Int) (ls hs : List W) (m : Sto) : Prop where
  big : 9 ≤ m.length
  tab : m[0]? = some (.lst (tb.map W.int))
  wr : Wr ci m 2 3 4 p tb ls
  let_ : m[8]? = some (.lst ls)
  oth : Wr ci m 5 6 7 p tb0 []
  held : HeldP 9 m hs
  tok : TabOk p tb
  len : tb.length = tb0.length
  lok : LetOk ls
  ll : ls.length = i
  hl : hs.length = 2 * i
theorem St17.keep {ci : Nat} {p : Int} {tb0 : List Int} {i : Nat} {tb : List Int} {ls hs : List W} {m m2 : Sto} (h : St17 ci p tb0 i tb ls hs m) (K : Keeps m m2) : St17 ci p tb0 i tb ls hs m2 :=
  ⟨Nat.le_trans h.big K.len, K.at h.tab, h.wr.keep K, K.at h.let_, h.oth.keep K, h.held.keep K, h.tok, h.len, h.lok, h.ll, h.hl⟩
theorem TabOk.set {p : Int} {tb : List Int} (A : TabOk p tb) {i : Nat} {x : Int} (hx : 0 ≤ x ∧ x < p) : TabOk p (tb.set i x) := by
  refine ⟨A.prime, by rw [List.length_set]; exact A.one, by rw [List.length_set]; exact A.most, by rw [List.length_set]; exact A.few, fun y hy => ?_⟩
  rcases List.mem_or_eq_of_mem_set hy with h | h
  · exact A.worth y h
  · rw [h]; exact hx
section
variable {fs : List Fd} {gl : List W} {N k f : Nat} {m : Sto} {en : En} {p : Int} {tb tb0 : List Int} {ls hs : List W}
variable {pb st ip np nt sb gB sy fi gS wi wp wt wm ws wl sm wh ca c : Nat} {cl cp cw : List Nat} {mtl mtm mts mtt mtp : List (Nat × Nat)}
end
end Mp
set_option Elab.async false
set_option linter.all false
set_option maxRecDepth 100000
set_option maxHeartbeats 4000000
/-! readers -/
namespace Mp
open PySem PySem.Spec PyProof.Rows L2
section
variable {cs : Nat → List W → Sto → CR} {fs : List Fd} {gl : List W} {N k f : Nat} {m : Sto} {en : En}
theorem ev_dget {a k d : E} : ev cs gl (.dget a k d) en m = bnd (ev cs gl a en m) fun x en m => optp (rvW en x) fun w => optp (dicW m w) fun _ => bnd (ev cs gl k en m) fun y en m => optp (keyR y) fun kk =>
      if isNil d then optp ((dicW m w).bind fun kvs => valA kvs kk) fun z => .ok (.val z) en m
      else bnd (ev cs gl d en m) fun z en m => opt2p (esc z en) fun wz en => optp (dicW m w) fun kvs => .ok (.val ((valA kvs kk).getD wz)) en m := by simp only [ev]; rfl
theorem keyR_str {s : Str} : keyR (.val (.str s)) = some (.inr s) := rfl
theorem dicW_at {i : Nat} {kvs : List (Key × W)} (h : m[i]? = some (.dic kvs)) : dicW m (.ref i) = some kvs := by unfold dicW; simp only [h]
end
theorem valA_put {A : Type} {kvs : List (Key × A)} {k j : Key} {v : A} : valA (putA_ kvs k v) j = if j = k then some v else valA kvs j := by
  unfold putA_
  by_cases c : (kvs.any fun kv => decide (kv.1 = k)) = true
  · rw [if_pos c]
    induction kvs with
    | nil => simp at c
    | cons q kvs ih =>
      rw [List.map_cons]
      unfold valA at ih ⊢
      by_cases e : q.1 = k
      · rw [if_pos e, List.find?_cons, List.find?_cons]
        by_cases d : j = k
        · rw [if_pos d, d]; simp [e]
        · have d1 : decide (q.1 = j) = false := decide_eq_false (fun z => d (by rw [← z, e]))
          rw [if_neg d, d1]
          simp only
          by_cases c2 : (kvs.any fun kv => decide (kv.1 = k)) = true
          · rw [ih c2, if_neg d]
          · have : kvs.map (fun kv => if kv.1 = k then (kv.1, v) else kv) = kvs := by
              rw [List.map_congr_left (g := id) (fun kv hkv => ?_), List.map_id]
              have : kv.1 ≠ k := fun z => c2 (List.any_eq_true.mpr ⟨kv, hkv, decide_eq_true z⟩)
              rw [if_neg this]; rfl
            rw [this]
      · have c2 : (kvs.any fun kv => decide (kv.1 = k)) = true := by
          rw [List.any_cons, decide_eq_false e, Bool.false_or] at c; exact c
        rw [if_neg e, List.find?_cons, List.find?_cons]
        by_cases d : q.1 = j
        · have : j ≠ k := fun z => e (d.trans z)
          rw [decide_eq_true d, if_neg this]
        · rw [decide_eq_false d]; exact ih c2
  · rw [if_neg c]
    unfold valA
    rw [List.find?_append]
    have hn : ∀ kv ∈ kvs, kv.1 ≠ k := fun kv hkv z => c (List.any_eq_true.mpr ⟨kv, hkv, decide_eq_true z⟩)
    by_cases d : j = k
    · subst d
      have : kvs.find? (fun kv => decide (kv.1 = j)) = none := List.find?_eq_none.mpr fun kv hkv => by simp [hn kv hkv]
      rw [this, if_pos rfl]
      simp
    · rw [if_neg d]
      cases hq : kvs.find? (fun kv => decide (kv.1 = j)) with
      | none => simp; intro z; exact d z.symm
      | some q => rfl
theorem putA_len {A : Type} {kvs : List (Key × A)} {k : Key} {v : A} : (putA_ kvs k v).length ≤ kvs.length + 1 := by
  unfold putA_
  split
  · rw [List.length_map]; omega
  · rw [List.length_append]; simp
structure TabFs (fs : List Fd) (gl : List W) (pb st ip np nt gB : Nat) : Prop where
  fpb : fs[pb]? = some ⟨3, 5, b_power_by⟩
  fst : fs[st]? = some ⟨2, 4, b_stands pb⟩
  fip : fs[ip]? = some ⟨1, 2, b_is_prime st gB⟩
  fnp : fs[np]? = some ⟨1, 1, b_need_prime ip⟩
  fnt : fs[nt]? = some ⟨2, 3, b_need_table⟩
  fgB : gl[gB]? = some (.tup (([2, 3, 5, 7, 11] : List Int).map W.int))
structure Rdr (c : Nat) (m : Sto) (a u kn gr : Nat) (p : Int) (tb : List Int) (cov : Int) (K G : List (Key × W)) : Prop where
  obj : m[a]? = some (.ins c [("prime", .int p), ("worths", .ref u), ("covered", .int cov), ("known", .ref kn), ("greatest", .ref gr)])
  wo : m[u]? = some (.lst (tb.map W.int))
  kno : m[kn]? = some (.dic K)
  gre : m[gr]? = some (.dic G)
  ne : kn ≠ gr
section
variable {cs : Nat → List W → Sto → CR} {fs : List Fd} {gl : List W} {N k f c : Nat} {m : Sto} {en : En} {a u kn gr : Nat} {p cov : Int} {tb : List Int} {K G : List (Key × W)}
theorem Rdr.keep {m2 : Sto} (h : Rdr c m a u kn gr p tb cov K G) (Q : Keeps m m2) : Rdr c m2 a u kn gr p tb cov K G := ⟨Q.at h.obj, Q.at h.wo, Q.at h.kno, Q.at h.gre, h.ne⟩
theorem Rdr.au (h : Rdr c m a u kn gr p tb cov K G) : a ≠ u := fun e => by have := h.obj; rw [e, h.wo] at this; cases this
theorem Rdr.ak (h : Rdr c m a u kn gr p tb cov K G) : a ≠ kn := fun e => by have := h.obj; rw [e, h.kno] at this; cases this
theorem Rdr.ag (h : Rdr c m a u kn gr p tb cov K G) : a ≠ gr := fun e => by have := h.obj; rw [e, h.gre] at this; cases this
theorem Rdr.uk (h : Rdr c m a u kn gr p tb cov K G) : u ≠ kn := fun e => by have := h.wo; rw [e, h.kno] at this; cases this
theorem Rdr.ug (h : Rdr c m a u kn gr p tb cov K G) : u ≠ gr := fun e => by have := h.wo; rw [e, h.gre] at this; cases this
theorem Rdr.fp (h : Rdr c m a u kn gr p tb cov K G) {cl : List Nat} (hc : cl.contains c = true) : fldR m "prime" cl (.ref a) = some (.int p) := fld_at h.obj hc rfl
theorem Rdr.fc (h : Rdr c m a u kn gr p tb cov K G) {cl : List Nat} (hc : cl.contains c = true) : fldR m "covered" cl (.ref a) = some (.int cov) := fld_at h.obj hc rfl
theorem Rdr.seen (h : Rdr c m a u kn gr p tb cov K G) (K2 : List (Key × W)) : Rdr c (m.set kn (.dic K2)) a u kn gr p tb cov K2 G := by
  refine ⟨?_, ?_, get_set h.kno, ?_, h.ne⟩
  · rw [List.getElem?_set_ne (Ne.symm h.ak)]; exact h.obj
  · rw [List.getElem?_set_ne (Ne.symm h.uk)]; exact h.wo
  · rw [List.getElem?_set_ne h.ne]; exact h.gre
theorem Rdr.great (h : Rdr c m a u kn gr p tb cov K G) (G2 : List (Key × W)) : Rdr c (m.set gr (.dic G2)) a u kn gr p tb cov K G2 := by
  refine ⟨?_, ?_, ?_, get_set h.gre, h.ne⟩
  · rw [List.getElem?_set_ne (Ne.symm h.ag)]; exact h.obj
  · rw [List.getElem?_set_ne (Ne.symm h.ug)]; exact h.wo
  · rw [List.getElem?_set_ne (Ne.symm h.ne)]; exact h.kno
theorem Rdr.worth (h : Rdr c m a u kn gr p tb cov K G) (tb2 : List Int) : Rdr c (m.set u (.lst (tb2.map W.int))) a u kn gr p tb2 cov K G := by
  refine ⟨?_, get_set h.wo, ?_, ?_, h.ne⟩
  · rw [List.getElem?_set_ne (Ne.symm h.au)]; exact h.obj
  · rw [List.getElem?_set_ne h.uk]; exact h.kno
  · rw [List.getElem?_set_ne h.ug]; exact h.gre
noncomputable def gInt (G : List (Key × W)) : Prop := ∀ j w, valA G (.inl j) = some w → ∃ g : Int, w = .int g
noncomputable def gAt (G : List (Key × W)) (i : Int) : Int := match valA G (.inl i) with
  | some (.int g) => g
  | _ => 0
noncomputable def comeS (cov : Int) (K G : List (Key × W)) (tb : List Int) (n : Int) (i : Nat) (x : Int) : Str × List (Key × W) × List (Key × W) × List Int :=
  if (valA K (.inl n)).isSome = true ∨ n ≤ cov then (("seen" : Str), K, G, tb)
  else if n < gAt G i then (("late" : Str), putA_ K (.inl n) (.bl true), G, tb)
  else (("taken" : Str), putA_ K (.inl n) (.bl true), putA_ G (.inl (i : Int)) (.int n), tb.set i x)
noncomputable def comeM (m : Sto) (u kn gr : Nat) (q : Str × List (Key × W) × List (Key × W) × List Int) : Sto := ((m.set kn (.dic q.2.1)).set gr (.dic q.2.2.1)).set u (.lst (q.2.2.2.map W.int))
theorem Rdr.come (h : Rdr c m a u kn gr p tb cov K G) (q : Str × List (Key × W) × List (Key × W) × List Int) : Rdr c (comeM m u kn gr q) a u kn gr p q.2.2.2 cov q.2.1 q.2.2.1 := ((h.seen q.2.1).great q.2.2.1).worth q.2.2.2
end
end Mp
set_option Elab.async false
set_option linter.all false
set_option maxRecDepth 100000
set_option maxHeartbeats 4000000
/-! letters in another order -/
namespace Mp
open PySem PySem.Spec PyProof.Rows L2
section
variable {cs : Nat → List W → Sto → CR} {fs : List Fd} {gl : List W} {N k f : Nat} {m : Sto} {en : En} {row : List Int} {many : Nat}
end
end Mp
set_option Elab.async false
set_option linter.all false
set_option maxRecDepth 100000
set_option maxHeartbeats 4000000
namespace Mp
open PySem PySem.Spec PyProof.Rows L2
section
variable {cs : Nat → List W → Sto → CR} {fs : List Fd} {gl : List W} {N k f : Nat} {m : Sto} {en : En} {row : List Int} {many : Nat} {p : Int} {L : List (Int × Nat × Int)}
end
structure Mdl (m : Sto) (d t cm tp : Nat) (tb : List Int) (cov : Int) (ns : List Int) (G : List (Key × W)) : Prop where
  obj : m[d]? = some (.dic [(.inr "table", .ref t), (.inr "came", .ref cm), (.inr "top", .ref tp), (.inr "covered", .int cov)])
  tab : m[t]? = some (.lst (tb.map W.int))
  cam : m[cm]? = some (.lst (ns.map W.int))
  top : m[tp]? = some (.dic G)
  ne : t ≠ cm
  ne2 : d ≠ tp
noncomputable def comesS (cov : Int) (ns : List Int) (G : List (Key × W)) (tb : List Int) (n : Int) (i : Nat) (x : Int) : Str × List Int × List (Key × W) × List Int :=
  if n ∈ ns ∨ n ≤ cov then (("seen" : Str), ns, G, tb)
  else if n < gAt G i then (("late" : Str), ns ++ [n], G, tb)
  else (("taken" : Str), ns ++ [n], putA_ G (.inl (i : Int)) (.int n), tb.set i x)
noncomputable def comesM (m : Sto) (t cm tp : Nat) (q : Str × List Int × List (Key × W) × List Int) : Sto := ((m.set cm (.lst (q.2.1.map W.int))).set tp (.dic q.2.2.1)).set t (.lst (q.2.2.2.map W.int))
section
variable {cs : Nat → List W → Sto → CR} {fs : List Fd} {gl : List W} {N k f d t cm tp : Nat} {m : Sto} {en : En} {tb : List Int} {cov : Int} {ns : List Int} {G : List (Key × W)}
theorem Mdl.dt (h : Mdl m d t cm tp tb cov ns G) : d ≠ t := fun e => by have := h.obj; rw [e, h.tab] at this; cases this
theorem Mdl.dc (h : Mdl m d t cm tp tb cov ns G) : d ≠ cm := fun e => by have := h.obj; rw [e, h.cam] at this; cases this
theorem Mdl.tt (h : Mdl m d t cm tp tb cov ns G) : t ≠ tp := fun e => by have := h.tab; rw [e, h.top] at this; cases this
theorem Mdl.ct (h : Mdl m d t cm tp tb cov ns G) : cm ≠ tp := fun e => by have := h.cam; rw [e, h.top] at this; cases this
theorem Mdl.came (h : Mdl m d t cm tp tb cov ns G) (ns2 : List Int) : Mdl (m.set cm (.lst (ns2.map W.int))) d t cm tp tb cov ns2 G := by
  refine ⟨?_, ?_, get_set h.cam, ?_, h.ne, h.ne2⟩
  · rw [List.getElem?_set_ne (Ne.symm h.dc)]; exact h.obj
  · rw [List.getElem?_set_ne (Ne.symm h.ne)]; exact h.tab
  · rw [List.getElem?_set_ne h.ct]; exact h.top
theorem Mdl.tops (h : Mdl m d t cm tp tb cov ns G) (G2 : List (Key × W)) : Mdl (m.set tp (.dic G2)) d t cm tp tb cov ns G2 := by
  refine ⟨?_, ?_, ?_, get_set h.top, h.ne, h.ne2⟩
  · rw [List.getElem?_set_ne (Ne.symm h.ne2)]; exact h.obj
  · rw [List.getElem?_set_ne (Ne.symm h.tt)]; exact h.tab
  · rw [List.getElem?_set_ne (Ne.symm h.ct)]; exact h.cam
theorem Mdl.tabs (h : Mdl m d t cm tp tb cov ns G) (tb2 : List Int) : Mdl (m.set t (.lst (tb2.map W.int))) d t cm tp tb2 cov ns G := by
  refine ⟨?_, get_set h.tab, ?_, ?_, h.ne, h.ne2⟩
  · rw [List.getElem?_set_ne (Ne.symm h.dt)]; exact h.obj
  · rw [List.getElem?_set_ne h.ne]; exact h.cam
  · rw [List.getElem?_set_ne h.tt]; exact h.top
theorem Mdl.comes (h : Mdl m d t cm tp tb cov ns G) (q : Str × List Int × List (Key × W) × List Int) : Mdl (comesM m t cm tp q) d t cm tp q.2.2.2 cov q.2.1 q.2.2.1 := ((h.came q.2.1).tops q.2.2.1).tabs q.2.2.2
theorem Mdl.gt (h : Mdl m d t cm tp tb cov ns G) : dicW m (.ref d) = some [(.inr "table", .ref t), (.inr "came", .ref cm), (.inr "top", .ref tp), (.inr "covered", .int cov)] := dicW_at h.obj
end
end Mp
set_option Elab.async false
set_option linter.all false
set_option maxRecDepth 100000
set_option maxHeartbeats 4000000
namespace Mp
open PySem PySem.Spec PyProof.Rows L2
section
variable {cs : Nat → List W → Sto → CR} {fs : List Fd} {gl : List W} {N k f : Nat} {m : Sto} {en : En}
end
end Mp
set_option Elab.async false
set_option linter.all false
set_option maxRecDepth 100000
set_option maxHeartbeats 4000000
namespace Mp
open PySem PySem.Spec PyProof.Rows L2
theorem off3 {m : Sto} {a b c j : Nat} {x y z : Ob} (h1 : j ≠ a) (h2 : j ≠ b) (h3 : j ≠ c) : (((m.set a x).set b y).set c z)[j]? = m[j]? := by
  rw [List.getElem?_set_ne (Ne.symm h3), List.getElem?_set_ne (Ne.symm h2), List.getElem?_set_ne (Ne.symm h1)]
section
variable {fs : List Fd} {gl : List W} {N k f : Nat} {m : Sto} {pb st ip np nt gB wi wp ri rc rt cel nu pr wo ta pu br mo co ot cW cR : Nat} {cl cp cw cc cg ck cpr cwr : List Nat} {mtc mtp mtt : List (Nat × Nat)} {SC : W} {p : Int} {s1 s2 s3 s4 s5 s6 s7 s8 s9 s12 s13 s14 s15 s16 : Option Sl}
end
end Mp
set_option Elab.async false
set_option linter.all false
set_option maxRecDepth 100000
set_option maxHeartbeats 4000000
/-! readers: what is missing, what is asked for -/
namespace Mp
open PySem PySem.Spec PyProof.Rows L2
noncomputable def Kd (ns : List Int) : List (Key × W) := ns.map fun n => (.inl n, .bl true)
theorem Kd_val {n : Int} : ∀ ns : List Int, (valA (Kd ns) (.inl n)).isSome = decide (n ∈ ns)
  | [] => rfl
  | x :: ns => by
    have ih := Kd_val (n := n) ns
    unfold valA Kd at ih ⊢
    rw [List.map_cons, List.find?_cons]
    by_cases e : x = n
    · subst e
      rw [decide_eq_true (by simp)]; simp
    · have d1 : decide ((Sum.inl x : Key) = .inl n) = false := decide_eq_false (fun h => e (Sum.inl.inj h))
      simp only [d1]
      rw [ih]
      exact decide_eq_decide.mpr (by simp [Ne.symm e])
theorem Kd_put {n : Int} {ns : List Int} (h : n ∉ ns) : putA_ (Kd ns) (.inl n) (.bl true) = Kd (ns ++ [n]) := by
  unfold putA_
  have : ¬ ((Kd ns).any fun kv => decide (kv.1 = .inl n)) = true := fun z => by
    obtain ⟨kv, h1, h2⟩ := List.any_eq_true.mp z
    obtain ⟨x, hx, rfl⟩ := List.mem_map.mp h1
    exact h ((Sum.inl.inj (of_decide_eq_true h2)) ▸ hx)
  rw [if_neg this]
  unfold Kd
  rw [List.map_append]; rfl
noncomputable def btw (cov made : Int) : List Int := (List.range (made + 1 - (cov + 1)).toNat).map fun (i : Nat) => cov + 1 + (i : Int)
theorem btw_mem {cov made n : Int} : n ∈ btw cov made ↔ cov < n ∧ n ≤ made := by
  unfold btw
  rw [List.mem_map]
  constructor
  · rintro ⟨i, hi, rfl⟩
    have := List.mem_range.mp hi
    omega
  · rintro ⟨h1, h2⟩
    exact ⟨(n - cov - 1).toNat, List.mem_range.mpr (by omega), by omega⟩
theorem btw_len {cov made : Int} : (btw cov made).length = (made - cov).toNat := by unfold btw; rw [List.length_map, List.length_range]; omega
noncomputable def missL (cov made : Int) (ns : List Int) : List Int := (btw cov made).filter fun n => decide (n ∉ ns)
theorem cnt_cons {n : Int} {ns : List Int} (hn : n ∉ ns) : ∀ R : List Int, (R.filter fun x => decide (x ∈ n :: ns)).length = (R.filter fun x => decide (x ∈ ns)).length + (R.filter fun x => decide (x = n)).length
  | [] => rfl
  | x :: R => by
    have ih := cnt_cons hn R
    rw [List.filter_cons, List.filter_cons, List.filter_cons]
    by_cases e : x = n
    · subst e
      rw [if_pos (by simp), if_neg (by simp [hn]), if_pos (by simp), List.length_cons, List.length_cons, ih]; omega
    · by_cases d : x ∈ ns
      · rw [if_pos (by simp [d]), if_pos (by simp [d]), if_neg (by simp [e]), List.length_cons, List.length_cons, ih]; omega
      · rw [if_neg (by simp [d, e]), if_neg (by simp [d]), if_neg (by simp [e]), ih]
noncomputable def asksW (many : Int) (n : Nat) : W := if many = 0 then .tup [.str "none"] else if 2 * many < (n : Int) then .tup [.str "sums", .int (2 * many)] else .tup [.str "whole"]
section
variable {cs : Nat → List W → Sto → CR} {fs : List Fd} {gl : List W} {N k f c : Nat} {m : Sto} {en : En} {a u kn gr : Nat} {p cov : Int} {tb ns : List Int} {G : List (Key × W)}
end
end Mp
set_option Elab.async false
set_option linter.all false
set_option maxRecDepth 100000
set_option maxHeartbeats 4000000
/-! readers: mends -/
namespace Mp
open PySem PySem.Spec PyProof.Rows L2
section
variable {cs : Nat → List W → Sto → CR} {fs : List Fd} {gl : List W} {N k f c : Nat} {m : Sto} {en : En} {a u kn gr : Nat} {p cov : Int} {tb ns : List Int} {G : List (Key × W)}
noncomputable def mendM (c : Nat) (m : Sto) (a kn gr : Nat) (p made : Int) (tb2 : List Int) : Sto := (m ++ [Ob.lst (tb2.map W.int)]).set a (.ins c [("prime", .int p), ("worths", .ref m.length), ("covered", .int made), ("known", .ref kn), ("greatest", .ref gr)])
theorem mend_at {j : Nat} (hj : j ≠ a) (hl : j < m.length) {made : Int} {tb2 : List Int} : (mendM c m a kn gr p made tb2)[j]? = m[j]? := by
  unfold mendM
  rw [List.getElem?_set_ne (Ne.symm hj), List.getElem?_append_left hl]
theorem Rdr.mend (h : Rdr c m a u kn gr p tb cov (Kd ns) G) (made : Int) (tb2 : List Int) : Rdr c (mendM c m a kn gr p made tb2) a m.length kn gr p tb2 made (Kd ns) G := by
  have al := lt_of_get h.obj
  refine ⟨?_, ?_, ?_, ?_, h.ne⟩
  · unfold mendM
    rw [List.getElem?_set_self (by rw [List.length_append]; omega)]
  · unfold mendM
    rw [List.getElem?_set_ne (by omega), List.getElem?_append_right (Nat.le_refl _), Nat.sub_self]; rfl
  · rw [mend_at (Ne.symm h.ak) (lt_of_get h.kno)]; exact h.kno
  · rw [mend_at (Ne.symm h.ag) (lt_of_get h.gre)]; exact h.gre
noncomputable def chW (tb2 tb : List Int) : List W := (((List.range tb2.length).map fun (i : Nat) => (i : Int)).filter fun i => decide (rat tb2 i.toNat ≠ rat tb i.toNat)).map W.int
variable {hl_ mi ak na md mn mw nt : Nat} {cc cg ck cpr cwr : List Nat} {mhl mak mmd mna : List (Nat × Nat)} {made : Int}
end
end Mp
set_option Elab.async false
set_option linter.all false
set_option maxRecDepth 100000
set_option maxHeartbeats 4000000
/-! near tables of a table in the store -/
namespace Mp
open PySem PySem.Spec PyProof.Rows L2
section
variable {cs : Nat → List W → Sto → CR} {fs : List Fd} {gl : List W} {N k f : Nat} {m : Sto} {en : En}
end
end Mp
set_option Elab.async false
set_option linter.all false
/-! what a reader holds: the worths behind the greatest letter that came, or the mend -/
namespace Mp
noncomputable def tabAt (tb0 : List Int) (H : List (Nat × Int)) (t : Nat) : List Int := (H.take t).foldl (fun tb q => tb.set q.1 q.2) tb0
theorem tab_succ {tb0 : List Int} {H : List (Nat × Int)} {t : Nat} {q : Nat × Int} (h : H[t]? = some q) : tabAt tb0 H (t + 1) = (tabAt tb0 H t).set q.1 q.2 := by
  unfold tabAt
  have hl := (List.getElem?_eq_some_iff.mp h)
  obtain ⟨h1, h2⟩ := hl
  rw [List.take_succ_eq_append_getElem h1, List.foldl_append, h2]; rfl
theorem tab_len {tb0 : List Int} {H : List (Nat × Int)} : ∀ t, (tabAt tb0 H t).length = tb0.length := by
  intro t
  unfold tabAt
  generalize H.take t = l
  induction l generalizing tb0 with
  | nil => rfl
  | cons q l ih => rw [List.foldl_cons, ih, List.length_set]
theorem tab_app {tb0 : List Int} {H H2 : List (Nat × Int)} {t : Nat} (h : t ≤ H.length) : tabAt tb0 (H ++ H2) t = tabAt tb0 H t := by
  unfold tabAt
  rw [List.take_append_of_le_length h]
theorem rat_setI {l : List Int} {i j : Nat} {v : Int} : rat (l.set i v) j = if i = j ∧ i < l.length then v else rat l j := by
  unfold rat
  by_cases c : i = j
  · subst c
    by_cases d : i < l.length
    · rw [if_pos ⟨rfl, d⟩]; simp [d]
    · rw [if_neg (fun z => d z.2)]; simp [d]
  · rw [if_neg (fun z => c z.1)]
    simp [List.getElem?_set_ne c]
theorem tab_same {tb0 : List Int} {H : List (Nat × Int)} {i t1 : Nat} : ∀ {t2 : Nat}, t1 ≤ t2 → t2 ≤ H.length → (∀ n q, t1 ≤ n → n < t2 → H[n]? = some q → q.1 ≠ i) → rat (tabAt tb0 H t2) i = rat (tabAt tb0 H t1) i
  | 0, h1, _, _ => by
    have : t1 = 0 := by omega
    rw [this]
  | t2 + 1, h1, h2, h => by
    by_cases c : t1 = t2 + 1
    · rw [c]
    · have hl : t2 < H.length := by omega
      have hq : H[t2]? = some H[t2] := List.getElem?_eq_getElem hl
      rw [tab_succ hq, rat_setI, if_neg (fun z => h t2 _ (by omega) (by omega) hq z.1)]
      exact tab_same (by omega) (by omega) fun n q n1 n2 => h n q n1 (by omega)
structure Tim (tb0 : List Int) (H : List (Nat × Int)) (tb : List Int) (cov : Int) (ns : List Int) (g : Nat → Int) : Prop where
  len : tb.length = tb0.length
  pl : ∀ q ∈ H, q.1 < tb0.length
  val : ∀ i, i < tb0.length → rat tb i = rat (tabAt tb0 H (max (g i) cov).toNat) i
  c0 : 0 ≤ cov
  c1 : cov ≤ (H.length : Int)
  kn : ∀ n ∈ ns, 1 ≤ n ∧ ∃ q, H[(n - 1).toNat]? = some q ∧ n ≤ g q.1
  gr : ∀ i, g i = 0 ∨ (g i ∈ ns ∧ ∃ q, H[(g i - 1).toNat]? = some q ∧ q.1 = i)
  nd : ns.Nodup
section
variable {tb0 tb : List Int} {H : List (Nat × Int)} {cov : Int} {ns : List Int} {g : Nat → Int}
theorem Tim.lim (h : Tim tb0 H tb cov ns g) : ∀ n ∈ ns, n ≤ (H.length : Int) := fun n hn => by
  obtain ⟨h1, q, h2, _⟩ := h.kn n hn
  have := (List.getElem?_eq_some_iff.mp h2).1
  omega
theorem Tim.glim (h : Tim tb0 H tb cov ns g) (i : Nat) : 0 ≤ g i ∧ g i ≤ (H.length : Int) := by
  rcases h.gr i with e | ⟨e, _⟩
  · omega
  · have := h.kn _ e
    have := h.lim _ e
    omega
theorem Tim.start (tb0 : List Int) : Tim tb0 [] tb0 0 [] (fun _ => 0) :=
  ⟨rfl, (fun _ h => by cases h), (fun i _ => rfl), Int.le_refl _, Int.le_refl _, (fun _ h => by cases h), (fun _ => .inl rfl), List.nodup_nil⟩
theorem get_app {q q2 : Nat × Int} {n : Nat} (h : H[n]? = some q) : (H ++ [q2])[n]? = some q := by
  rw [List.getElem?_append_left (List.getElem?_eq_some_iff.mp h).1]; exact h
theorem Tim.put (h : Tim tb0 H tb cov ns g) {q : Nat × Int} (hq : q.1 < tb0.length) : Tim tb0 (H ++ [q]) tb cov ns g := by
  refine ⟨h.len, fun z hz => ?_, fun i hi => ?_, h.c0, ?_, fun n hn => ?_, fun i => ?_, h.nd⟩
  · rcases List.mem_append.mp hz with e | e
    · exact h.pl z e
    · rw [List.mem_singleton.mp e]; exact hq
  · rw [h.val i hi, tab_app]
    have := h.glim i
    have := h.c1
    omega
  · have := h.c1
    rw [List.length_append]
    show cov ≤ ((H.length + 1 : Nat) : Int)
    omega
  · obtain ⟨h1, z, h2, h3⟩ := h.kn n hn
    exact ⟨h1, z, get_app h2, h3⟩
  · rcases h.gr i with e | ⟨e, z, h2, h3⟩
    · exact .inl e
    · exact .inr ⟨e, z, get_app h2, h3⟩
theorem Tim.late (h : Tim tb0 H tb cov ns g) {n : Int} {q : Nat × Int} (h1 : 1 ≤ n) (hq : H[(n - 1).toNat]? = some q) (hn : n ∉ ns) (hg : n < g q.1) : Tim tb0 H tb cov (ns ++ [n]) g := by
  refine ⟨h.len, h.pl, h.val, h.c0, h.c1, fun z hz => ?_, fun i => ?_, ?_⟩
  · rcases List.mem_append.mp hz with e | e
    · exact h.kn z e
    · rw [List.mem_singleton.mp e]; exact ⟨h1, q, hq, by omega⟩
  · rcases h.gr i with e | ⟨e, z⟩
    · exact .inl e
    · exact .inr ⟨List.mem_append_left _ e, z⟩
  · rw [List.nodup_append]
    exact ⟨h.nd, (by simp), fun a ha b hb e => hn (by rw [List.mem_singleton.mp hb] at e; exact e ▸ ha)⟩
theorem Tim.take (h : Tim tb0 H tb cov ns g) {n : Int} {q : Nat × Int} (h1 : 1 ≤ n) (hq : H[(n - 1).toNat]? = some q) (hn : n ∉ ns) (hc : cov < n) (hg : ¬ n < g q.1) : Tim tb0 H (tb.set q.1 q.2) cov (ns ++ [n]) (fun i => if i = q.1 then n else g i) := by
  have hl := (List.getElem?_eq_some_iff.mp hq).1
  have hqm := h.pl q (List.mem_of_getElem? hq)
  refine ⟨by rw [List.length_set]; exact h.len, h.pl, fun i hi => ?_, h.c0, h.c1, fun z hz => ?_, fun i => ?_, ?_⟩
  · by_cases e : i = q.1
    · subst e
      simp only [if_pos]
      rw [rat_setI, if_pos ⟨rfl, by rw [h.len]; exact hi⟩]
      have e1 : (max n cov).toNat = (n - 1).toNat + 1 := by omega
      rw [e1, tab_succ hq, rat_setI, if_pos ⟨rfl, by rw [tab_len]; exact hi⟩]
    · simp only [if_neg e]
      rw [rat_setI, if_neg (fun z => e z.1.symm), h.val i hi]
  · rcases List.mem_append.mp hz with e | e
    · obtain ⟨k1, z2, k2, k3⟩ := h.kn z e
      refine ⟨k1, z2, k2, ?_⟩
      by_cases d : z2.1 = q.1
      · simp only [if_pos d]
        rw [d] at k3
        omega
      · simp only [if_neg d]; exact k3
    · rw [List.mem_singleton.mp e]
      exact ⟨h1, q, hq, by simp⟩
  · by_cases e : i = q.1
    · subst e
      right
      simp only [if_pos]
      exact ⟨by simp, q, hq, rfl⟩
    · simp only [if_neg e]
      rcases h.gr i with e | ⟨e, z⟩
      · exact .inl e
      · exact .inr ⟨List.mem_append_left _ e, z⟩
  · rw [List.nodup_append]
    exact ⟨h.nd, (by simp), fun a ha b hb e => hn (by rw [List.mem_singleton.mp hb] at e; exact e ▸ ha)⟩
theorem Tim.mend (h : Tim tb0 H tb cov ns g) : Tim tb0 H (tabAt tb0 H H.length) (H.length : Int) ns g := by
  refine ⟨tab_len _, h.pl, fun i hi => ?_, by omega, Int.le_refl _, h.kn, h.gr, h.nd⟩
  have := h.glim i
  have e : (max (g i) (H.length : Int)).toNat = H.length := by omega
  rw [e]
theorem Tim.few (h : Tim tb0 H tb cov ns g) : (offN tb (tabAt tb0 H H.length)).length ≤ (missL cov (H.length : Int) ns).length := by
  have sub : ∀ i ∈ offN tb (tabAt tb0 H H.length), i ∈ (missL cov (H.length : Int) ns).map fun n => ((H[(n - 1).toNat]?).map (·.1)).getD 0 := fun i hi => by
    obtain ⟨h1, h2⟩ := off_mem.mp hi
    have hi0 : i < tb0.length := by rw [← h.len]; exact h1
    have gl := h.glim i
    have c0 := h.c0
    have c1 := h.c1
    obtain ⟨n, q, n1, n2, n3, n4⟩ : ∃ n q, (max (g i) cov).toNat ≤ n ∧ n < H.length ∧ H[n]? = some q ∧ q.1 = i := by
      apply Classical.byContradiction
      intro hc
      apply h2
      rw [h.val i hi0]
      exact (tab_same (by omega) (Nat.le_refl _) fun n q k1 k2 k3 k4 => hc ⟨n, q, k1, k2, k3, k4⟩).symm
    refine List.mem_map.mpr ⟨(n : Int) + 1, ?_, ?_⟩
    · unfold missL
      rw [List.mem_filter]
      refine ⟨btw_mem.mpr ⟨by omega, by omega⟩, decide_eq_true fun hm => ?_⟩
      obtain ⟨k1, z, k2, k3⟩ := h.kn _ hm
      have e : ((n : Int) + 1 - 1).toNat = n := by omega
      rw [e, n3] at k2
      cases k2
      rw [n4] at k3
      omega
    · have e : ((n : Int) + 1 - 1).toNat = n := by omega
      rw [e, n3]; exact n4
  have := len_le_of_sub off_nodup sub
  rw [List.length_map] at this
  exact this
end
end Mp
set_option Elab.async false
set_option linter.all false
set_option maxRecDepth 100000
set_option maxHeartbeats 4000000
/-! a mend by sums -/
namespace Mp
open PySem PySem.Spec PyProof.Rows L2
section
variable {cs : Nat → List W → Sto → CR} {fs : List Fd} {gl : List W} {N k f c : Nat} {m : Sto} {en : En} {a u kn gr : Nat} {p cov : Int} {tb ns : List Int} {G : List (Key × W)}
variable {pb st ip np gB iv nr cr sv_ mp wa tw nt sb sy tn : Nat} {hl_ mi ak na md mn mw ms : Nat} {cc cg ck cpr cwr : List Nat} {mhl mak mmd mna : List (Nat × Nat)} {made : Int}
end
end Mp
set_option Elab.async false
set_option linter.all false
set_option maxRecDepth 100000
set_option maxHeartbeats 4000000
namespace Mp
open PySem PySem.Spec PyProof.Rows L2
section
variable {cs : Nat → List W → Sto → CR} {fs : List Fd} {gl : List W} {N k f d t cm tp : Nat} {m : Sto} {en : En} {tb : List Int} {cov : Int} {ns : List Int} {G : List (Key × W)}
end
end Mp
set_option Elab.async false
set_option linter.all false
set_option maxRecDepth 100000
set_option maxHeartbeats 4000000
namespace Mp
open PySem PySem.Spec PyProof.Rows L2
section
variable {cs : Nat → List W → Sto → CR} {fs : List Fd} {gl : List W} {N k f d t cm tp : Nat} {m : Sto} {en : En} {tb : List Int} {cov : Int} {ns : List Int} {G : List (Key × W)}
theorem Mdl.keep {m2 : Sto} (h : Mdl m d t cm tp tb cov ns G) (Q : Keeps m m2) : Mdl m2 d t cm tp tb cov ns G := ⟨Q.at h.obj, Q.at h.tab, Q.at h.cam, Q.at h.top, h.ne, h.ne2⟩
variable {c a u kn gr hl_ mi ak lm ask wh : Nat} {p : Int} {cc cg ck cwr : List Nat} {mhl mta mtm : List (Nat × Nat)} {made : Int}
structure AskOk (c : Nat) (m : Sto) (a u kn gr : Nat) (p : Int) (d t cm tp : Nat) (tb : List Int) (cov : Int) (ns : List Int) (G : List (Key × W)) : Prop where
  rd : Rdr c m a u kn gr p tb cov (Kd ns) G
  md : Mdl m d t cm tp tb cov ns G
  nd : ns.Nodup
  le : ns.length ≤ 1000
  c0 : 0 ≤ cov
  c1 : cov ≤ 1000
  tl : tb.length ≤ 1000
theorem AskOk.keep {m2 : Sto} (h : AskOk c m a u kn gr p d t cm tp tb cov ns G) (Q : Keeps m m2) : AskOk c m2 a u kn gr p d t cm tp tb cov ns G := ⟨h.rd.keep Q, h.md.keep Q, h.nd, h.le, h.c0, h.c1, h.tl⟩
end
end Mp
set_option Elab.async false
set_option linter.all false
set_option maxRecDepth 100000
set_option maxHeartbeats 4000000
namespace Mp
open PySem PySem.Spec PyProof.Rows L2
theorem len_subI {l m : List Int} (hn : l.Nodup) (hs : ∀ i ∈ l, i ∈ m) : l.length ≤ m.length := by
  induction l generalizing m with
  | nil => exact Nat.zero_le _
  | cons i l ih =>
    have hn2 := List.nodup_cons.mp hn
    have hp := List.perm_cons_erase (hs i List.mem_cons_self)
    have := ih (m := m.erase i) hn2.2 fun k hk => (List.mem_erase_of_ne fun e : k = i => hn2.1 (e ▸ hk)).mpr (hs k (List.mem_cons_of_mem _ hk))
    have hl := hp.length_eq
    simp only [List.length_cons] at *
    omega
structure LetH (H : List (Nat × Int)) (ls : List W) : Prop where
  len : ls.length = H.length
  at_ : ∀ (n : Nat) (q : Nat × Int), H[n]? = some q → ls[n]? = some (letW n q.1 q.2)
theorem LetH.nil : LetH [] [] := ⟨rfl, fun _ _ h => by cases h⟩
theorem LetH.snoc {H : List (Nat × Int)} {ls : List W} (h : LetH H ls) (q : Nat × Int) : LetH (H ++ [q]) (ls ++ [letW ls.length q.1 q.2]) := by
  refine ⟨by rw [List.length_append, List.length_append, h.len]; rfl, fun n z hz => ?_⟩
  by_cases c : n < H.length
  · rw [List.getElem?_append_left c] at hz
    rw [List.getElem?_append_left (by rw [h.len]; exact c)]
    exact h.at_ n z hz
  · have hn := (List.getElem?_eq_some_iff.mp hz).1
    rw [List.length_append, List.length_cons, List.length_nil] at hn
    have e : n = H.length := by omega
    subst e
    rw [List.getElem?_append_right (Nat.le_refl _), Nat.sub_self] at hz
    cases hz
    rw [← h.len, List.getElem?_append_right (Nat.le_refl _), Nat.sub_self]; rfl
theorem comeS_Kd {cov : Int} {ns : List Int} {G : List (Key × W)} {tb : List Int} {n : Int} {i : Nat} {x : Int} : comeS cov (Kd ns) G tb n i x = ((comesS cov ns G tb n i x).1, Kd (comesS cov ns G tb n i x).2.1, (comesS cov ns G tb n i x).2.2) := by
  unfold comeS comesS
  by_cases c1 : n ∈ ns ∨ n ≤ cov
  · rw [if_pos c1, if_pos (by rw [Kd_val]; exact c1.imp decide_eq_true id)]
  · have c2 : n ∉ ns := fun h => c1 (.inl h)
    rw [if_neg c1, if_neg (by rw [Kd_val]; exact fun z => c1 (z.imp of_decide_eq_true id)), Kd_put c2]
    split <;> rfl
theorem off2 {m : Sto} {a b j : Nat} {x y : Ob} (h1 : j ≠ a) (h2 : j ≠ b) : ((m.set a x).set b y)[j]? = m[j]? := by
  rw [List.getElem?_set_ne (Ne.symm h2), List.getElem?_set_ne (Ne.symm h1)]
structure St19 (cW cR : Nat) (p : Int) (m : Sto) (tb0 : List Int) (H : List (Nat × Int)) (ls : List W) (tb : List Int) (cov : Int) (ns : List Int) (G : List (Key × W)) (u t : Nat) : Prop where
  wr : Wr cW m 0 1 2 p (tabAt tb0 H H.length) ls
  rd : Rdr cR m 3 u 5 6 p tb cov (Kd ns) G
  md : Mdl m 10 t 8 9 tb cov ns G
  gi : gInt G
  ti : Tim tb0 H tb cov ns (fun i => gAt G (i : Int))
  lt : LetH H ls
  hu : u = 4 ∨ 11 ≤ u
  ht : t = 7 ∨ 11 ≤ t
  ut : u ≠ t
  A : TabOk p tb
  Aw : TabOk p (tabAt tb0 H H.length)
  lg : G.length ≤ ns.length
  hx : ∀ q ∈ H, 0 ≤ q.2 ∧ q.2 < p
section
variable {cW cR : Nat} {p : Int} {m : Sto} {tb0 : List Int} {H : List (Nat × Int)} {ls : List W} {tb : List Int} {cov : Int} {ns : List Int} {G : List (Key × W)} {u t : Nat}
theorem St19.few (h : St19 cW cR p m tb0 H ls tb cov ns G u t) : ns.length ≤ H.length := by
  have := len_subI (m := btw 0 (H.length : Int)) h.ti.nd fun n hn => btw_mem.mpr ⟨by have := (h.ti.kn n hn).1; omega, h.ti.lim n hn⟩
  rw [btw_len] at this
  omega
theorem St19.keep {m2 : Sto} (h : St19 cW cR p m tb0 H ls tb cov ns G u t) (K : Keeps m m2) : St19 cW cR p m2 tb0 H ls tb cov ns G u t :=
  ⟨h.wr.keep K, h.rd.keep K, h.md.keep K, h.gi, h.ti, h.lt, h.hu, h.ht, h.ut, h.A, h.Aw, h.lg, h.hx⟩
theorem St19.lm (h : St19 cW cR p m tb0 H ls tb cov ns G u t) : 11 ≤ m.length := lt_of_get h.md.obj
theorem St19.put (h : St19 cW cR p m tb0 H ls tb cov ns G u t) {q : Nat × Int} (q1 : q.1 < tb0.length) (q2 : 0 ≤ q.2 ∧ q.2 < p) :
    St19 cW cR p ((m.set 1 (.lst (((tabAt tb0 H H.length).set q.1 q.2).map W.int))).set 2 (.lst (ls ++ [letW ls.length q.1 q.2]))) tb0 (H ++ [q]) (ls ++ [letW ls.length q.1 q.2]) tb cov ns G u t := by
  have e : tabAt tb0 (H ++ [q]) (H ++ [q]).length = (tabAt tb0 H H.length).set q.1 q.2 := by
    have e1 : (H ++ [q]).length = H.length + 1 := by rw [List.length_append]; rfl
    have e2 : (H ++ [q])[H.length]? = some q := by rw [List.getElem?_append_right (Nat.le_refl _), Nat.sub_self]; rfl
    rw [e1, tab_succ e2, tab_app (Nat.le_refl _)]
  have o : ∀ j, j ≠ 1 → j ≠ 2 → ((m.set 1 (.lst (((tabAt tb0 H H.length).set q.1 q.2).map W.int))).set 2 (.lst (ls ++ [letW ls.length q.1 q.2])))[j]? = m[j]? := fun j h1 h2 => off2 h1 h2
  have wp := h.wr.put q.1 q.2 (letW ls.length q.1 q.2)
  have hu := h.hu
  have ht := h.ht
  generalize (m.set 1 (.lst (((tabAt tb0 H H.length).set q.1 q.2).map W.int))).set 2 (.lst (ls ++ [letW ls.length q.1 q.2])) = m2 at *
  refine ⟨by rw [e]; exact wp, ⟨?_, ?_, ?_, ?_, h.rd.ne⟩, ⟨?_, ?_, ?_, ?_, h.md.ne, h.md.ne2⟩, h.gi, h.ti.put q1, h.lt.snoc q, h.hu, h.ht, h.ut, h.A, by rw [e]; exact h.Aw.set q2, h.lg, fun z hz => ?_⟩
  · exact (o 3 (by decide) (by decide)).trans h.rd.obj
  · exact (o u (by omega) (by omega)).trans h.rd.wo
  · exact (o 5 (by decide) (by decide)).trans h.rd.kno
  · exact (o 6 (by decide) (by decide)).trans h.rd.gre
  · exact (o 10 (by decide) (by decide)).trans h.md.obj
  · exact (o t (by omega) (by omega)).trans h.md.tab
  · exact (o 8 (by decide) (by decide)).trans h.md.cam
  · exact (o 9 (by decide) (by decide)).trans h.md.top
  · rcases List.mem_append.mp hz with e | e
    · exact h.hx z e
    · rw [List.mem_singleton.mp e]; exact q2
theorem gAt_put {i j : Int} {n : Int} : gAt (putA_ G (.inl i) (.int n)) j = if j = i then n else gAt G j := by
  unfold gAt
  rw [valA_put]
  by_cases e : j = i
  · rw [if_pos (by rw [e]), if_pos e]
  · rw [if_neg (fun z => e (Sum.inl.inj z)), if_neg e]
theorem gInt_put {i : Int} {n : Int} (h : gInt G) : gInt (putA_ G (.inl i) (.int n)) := fun j w hw => by
  rw [valA_put] at hw
  by_cases e : (.inl j : Key) = .inl i
  · rw [if_pos e] at hw; cases hw; exact ⟨n, rfl⟩
  · rw [if_neg e] at hw; exact h j w hw
theorem St19.come (h : St19 cW cR p m tb0 H ls tb cov ns G u t) {n : Int} {q : Nat × Int} (h1 : 1 ≤ n) (hq : H[(n - 1).toNat]? = some q) :
    ∃ tb2 ns2 G2, St19 cW cR p (comesM (comeM m u 5 6 (comeS cov (Kd ns) G tb n q.1 q.2)) t 8 9 (comesS cov ns G tb n q.1 q.2)) tb0 H ls tb2 cov ns2 G2 u t ∧ tb2.length = tb.length := by
  have hu := h.hu
  have ht := h.ht
  have r1 := h.rd.come (comeS cov (Kd ns) G tb n q.1 q.2)
  have m1 : Mdl (comeM m u 5 6 (comeS cov (Kd ns) G tb n q.1 q.2)) 10 t 8 9 tb cov ns G := by
    unfold comeM
    have := h.ut
    exact ⟨(off3 (by decide) (by decide) (by omega)).trans h.md.obj, (off3 (by omega) (by omega) (by omega)).trans h.md.tab, (off3 (by decide) (by decide) (by omega)).trans h.md.cam, (off3 (by decide) (by decide) (by omega)).trans h.md.top, h.md.ne, h.md.ne2⟩
  have w1 : Wr cW (comeM m u 5 6 (comeS cov (Kd ns) G tb n q.1 q.2)) 0 1 2 p (tabAt tb0 H H.length) ls := by
    unfold comeM
    exact h.wr.off (off3 (by decide) (by decide) (by omega)) (off3 (by decide) (by decide) (by omega)) (off3 (by decide) (by decide) (by omega))
  have m2 := m1.comes (comesS cov ns G tb n q.1 q.2)
  have w2 : Wr cW (comesM (comeM m u 5 6 (comeS cov (Kd ns) G tb n q.1 q.2)) t 8 9 (comesS cov ns G tb n q.1 q.2)) 0 1 2 p (tabAt tb0 H H.length) ls := by
    unfold comesM
    exact w1.off (off3 (by decide) (by decide) (by omega)) (off3 (by decide) (by decide) (by omega)) (off3 (by decide) (by decide) (by omega))
  have r2 : Rdr cR (comesM (comeM m u 5 6 (comeS cov (Kd ns) G tb n q.1 q.2)) t 8 9 (comesS cov ns G tb n q.1 q.2)) 3 u 5 6 p (comeS cov (Kd ns) G tb n q.1 q.2).2.2.2 cov (comeS cov (Kd ns) G tb n q.1 q.2).2.1 (comeS cov (Kd ns) G tb n q.1 q.2).2.2.1 := by
    unfold comesM
    have := h.ut
    exact ⟨(off3 (by decide) (by decide) (by omega)).trans r1.obj, (off3 (by omega) (by omega) (by omega)).trans r1.wo, (off3 (by decide) (by decide) (by omega)).trans r1.kno, (off3 (by decide) (by decide) (by omega)).trans r1.gre, r1.ne⟩
  rw [comeS_Kd] at r2 ⊢
  rw [comeS_Kd] at m2 w2
  dsimp only at r2
  generalize comesM (comeM m u 5 6 ((comesS cov ns G tb n q.1 q.2).1, Kd (comesS cov ns G tb n q.1 q.2).2.1, (comesS cov ns G tb n q.1 q.2).2.2)) t 8 9 (comesS cov ns G tb n q.1 q.2) = mm at *
  have hqm := List.mem_of_getElem? hq
  by_cases c1 : n ∈ ns ∨ n ≤ cov
  · have e : comesS cov ns G tb n q.1 q.2 = (("seen" : Str), ns, G, tb) := by unfold comesS; rw [if_pos c1]
    rw [e] at r2 m2
    exact ⟨tb, ns, G, ⟨w2, r2, m2, h.gi, h.ti, h.lt, h.hu, h.ht, h.ut, h.A, h.Aw, h.lg, h.hx⟩, rfl⟩
  · obtain ⟨c2, c3⟩ := not_or.mp c1
    by_cases c4 : n < gAt G q.1
    · have e : comesS cov ns G tb n q.1 q.2 = (("late" : Str), ns ++ [n], G, tb) := by unfold comesS; rw [if_neg c1, if_pos c4]
      rw [e] at r2 m2
      exact ⟨tb, ns ++ [n], G, ⟨w2, r2, m2, h.gi, h.ti.late h1 hq c2 c4, h.lt, h.hu, h.ht, h.ut, h.A, h.Aw, by have := h.lg; rw [List.length_append]; omega, h.hx⟩, rfl⟩
    · have e : comesS cov ns G tb n q.1 q.2 = (("taken" : Str), ns ++ [n], putA_ G (.inl (q.1 : Int)) (.int n), tb.set q.1 q.2) := by unfold comesS; rw [if_neg c1, if_neg c4]
      rw [e] at r2 m2
      have tk := h.ti.take h1 hq c2 (by omega) c4
      have eg : (fun i : Nat => gAt (putA_ G (.inl (q.1 : Int)) (.int n)) (i : Int)) = (fun i => if i = q.1 then n else gAt G (i : Int)) := by
        funext i
        rw [gAt_put]
        by_cases d : i = q.1
        · rw [if_pos d, if_pos (by rw [d])]
        · rw [if_neg d, if_neg (by omega)]
      have pl := putA_len (kvs := G) (k := .inl (q.1 : Int)) (v := W.int n)
      exact ⟨tb.set q.1 q.2, ns ++ [n], putA_ G (.inl (q.1 : Int)) (.int n), ⟨w2, r2, m2, gInt_put h.gi, by rw [eg]; exact tk, h.lt, h.hu, h.ht, h.ut, h.A.set (h.hx q hqm), h.Aw, by have := h.lg; rw [List.length_append]; simp only [List.length_cons, List.length_nil]; omega, h.hx⟩, by rw [List.length_set]⟩
end
section
variable {fs : List Fd} {gl : List W} {N k f c : Nat} {m : Sto} {a u v : Nat} {p : Int} {tb : List Int} {ls : List W}
end
end Mp
set_option Elab.async false
set_option linter.all false
set_option maxRecDepth 100000
set_option maxHeartbeats 4000000
namespace Mp
open PySem PySem.Spec PyProof.Rows L2
section
variable {fs : List Fd} {gl : List W} {N k f : Nat} {m : Sto} {en : En} {pb st ip np gB iv nr cr sv_ mp wa tw nt sb sy tn fi gS wt ws hl_ mi ak na md mn mw ms lm ask wh cW cR : Nat} {cp cw cc cg ck cpr cwr : List Nat} {mhl mak mmd mna mta mtm mtn mtS mtw mts mtt : List (Nat × Nat)}
variable {p : Int} {tb0 : List Int} {H : List (Nat × Int)} {ls : List W} {tb : List Int} {cov : Int} {ns : List Int} {G : List (Key × W)} {u t : Nat}
end
end Mp
set_option Elab.async false
set_option linter.all false
set_option maxRecDepth 100000
set_option maxHeartbeats 4000000
/-! deeds of a writer and a reader, walked -/
namespace Mp
open PySem PySem.Spec PyProof.Rows L2
inductive Dd where
  | put (i : Nat) (x : Int) | bring (n : Nat) | mend
structure Wk where
  H : List (Nat × Int)
  tb : List Int
  cov : Int
  ns : List Int
  G : List (Key × W)
  bl : Int
  bm : Int
noncomputable def askN (many : Int) (n : Nat) : Int := if many = 0 then 0 else if 2 * many < (n : Int) then 2 * many else (n : Int)
noncomputable def qAt (H : List (Nat × Int)) (n : Nat) : Nat × Int := (H[n - 1]?).getD (0, 0)
noncomputable def bringS (s : Wk) (n : Nat) : Str × List Int × List (Key × W) × List Int := comesS s.cov s.ns s.G s.tb (n : Int) (qAt s.H n).1 (qAt s.H n).2
noncomputable def lackN (s : Wk) : Int := ((missL s.cov (s.H.length : Int) s.ns).length : Int)
noncomputable def stepW (tb0 : List Int) (s : Wk) : Dd → Wk × W
  | .put i x => (⟨s.H ++ [(i, x)], s.tb, s.cov, s.ns, s.G, s.bl, s.bm⟩, letW s.H.length i x)
  | .bring n => (⟨s.H, (bringS s n).2.2.2, s.cov, (bringS s n).2.1, (bringS s n).2.2.1, s.bl + 3, s.bm⟩, .str (bringS s n).1)
  | .mend => (⟨s.H, tabAt tb0 s.H s.H.length, (s.H.length : Int), s.ns, s.G, s.bl, s.bm + askN (lackN s) s.tb.length⟩, .tup [asksW (lackN s) s.tb.length, .lst (chW (tabAt tb0 s.H s.H.length) s.tb)])
noncomputable def mdA (made : Nat) : Dd → Nat
  | .put _ _ => made + 1
  | _ => made
noncomputable def DdOk (L : Nat) (p : Int) (made : Nat) : Dd → Prop
  | .put i x => i < L ∧ 0 ≤ x ∧ x < p
  | .bring n => 1 ≤ n ∧ n ≤ made
  | .mend => True
noncomputable def mdN (ds : List Dd) : Nat := ds.foldl mdA 0
noncomputable def RunOk (L : Nat) (p : Int) (ds : List Dd) : Prop := ∀ n d, ds[n]? = some d → DdOk L p (mdN (ds.take n)) d
theorem RunOk.nil {L : Nat} {p : Int} : RunOk L p [] := fun n d h => by cases h
theorem RunOk.snoc {L : Nat} {p : Int} {ds : List Dd} {d : Dd} (h : RunOk L p ds) (hd : DdOk L p (mdN ds) d) : RunOk L p (ds ++ [d]) := fun n e he => by
  by_cases c : n < ds.length
  · rw [List.getElem?_append_left c] at he
    rw [List.take_append_of_le_length (by omega)]
    exact h n e he
  · have hl := (List.getElem?_eq_some_iff.mp he).1
    rw [List.length_append, List.length_cons, List.length_nil] at hl
    have e1 : n = ds.length := by omega
    subst e1
    rw [List.getElem?_append_right (Nat.le_refl _), Nat.sub_self] at he
    cases he
    rw [List.take_left]
    exact hd
structure WkOk (tb0 : List Int) (p : Int) (s : Wk) : Prop where
  gi : gInt s.G
  ti : Tim tb0 s.H s.tb s.cov s.ns (fun i => gAt s.G (i : Int))
  A : TabOk p s.tb
  Aw : TabOk p (tabAt tb0 s.H s.H.length)
  lg : s.G.length ≤ s.ns.length
  hx : ∀ q ∈ s.H, 0 ≤ q.2 ∧ q.2 < p
noncomputable def start38 (tb0 : List Int) : Wk := ⟨[], tb0, 0, [], [], 0, 0⟩
section
variable {tb0 : List Int} {p : Int} {s : Wk}
theorem WkOk.start (A : TabOk p tb0) : WkOk tb0 p (start38 tb0) := ⟨(fun j w h => by cases h), Tim.start tb0, A, A, Nat.le_refl _, (fun q h => by cases h)⟩
theorem WkOk.few (h : WkOk tb0 p s) : s.ns.length ≤ s.H.length := by
  have := len_subI (m := btw 0 (s.H.length : Int)) h.ti.nd fun n hn => btw_mem.mpr ⟨by have := (h.ti.kn n hn).1; omega, h.ti.lim n hn⟩
  rw [btw_len] at this
  omega
theorem q_at {n : Nat} (h : 1 ≤ n ∧ n ≤ s.H.length) : s.H[((n : Int) - 1).toNat]? = some (qAt s.H n) := by
  have e : ((n : Int) - 1).toNat = n - 1 := by omega
  have hl : n - 1 < s.H.length := by omega
  unfold qAt
  rw [e, List.getElem?_eq_getElem hl]; rfl
theorem WkOk.step (h : WkOk tb0 p s) {d : Dd} (hd : DdOk tb0.length p s.H.length d) : WkOk tb0 p (stepW tb0 s d).1 ∧ (stepW tb0 s d).1.H.length = mdA s.H.length d := by
  cases d with
  | put i x =>
    obtain ⟨d1, d2⟩ := hd
    have e : tabAt tb0 (s.H ++ [(i, x)]) (s.H ++ [(i, x)]).length = (tabAt tb0 s.H s.H.length).set i x := by
      have e1 : (s.H ++ [(i, x)]).length = s.H.length + 1 := by rw [List.length_append]; rfl
      have e2 : (s.H ++ [(i, x)])[s.H.length]? = some (i, x) := by rw [List.getElem?_append_right (Nat.le_refl _), Nat.sub_self]; rfl
      rw [e1, tab_succ e2, tab_app (Nat.le_refl _)]
    refine ⟨⟨h.gi, h.ti.put (q := (i, x)) d1, h.A, ?_, h.lg, fun z hz => ?_⟩, by show (s.H ++ [(i, x)]).length = _; rw [List.length_append]; rfl⟩
    · show TabOk p (tabAt tb0 (s.H ++ [(i, x)]) (s.H ++ [(i, x)]).length)
      rw [e]; exact h.Aw.set d2
    · rcases List.mem_append.mp hz with e | e
      · exact h.hx z e
      · rw [List.mem_singleton.mp e]; exact d2
  | bring n =>
    refine ⟨?_, rfl⟩
    have hq := q_at hd
    have hqm := List.mem_of_getElem? hq
    have h1 : 1 ≤ (n : Int) := by have := hd.1; omega
    show WkOk tb0 p ⟨s.H, (bringS s n).2.2.2, s.cov, (bringS s n).2.1, (bringS s n).2.2.1, s.bl + 3, s.bm⟩
    generalize qAt s.H n = q at *
    have eb : bringS s n = comesS s.cov s.ns s.G s.tb (n : Int) (qAt s.H n).1 (qAt s.H n).2 := rfl
    have hq2 := q_at (s := s) hd
    rw [hq] at hq2
    have hqq : qAt s.H n = q := (Option.some.inj hq2).symm
    rw [hqq] at eb
    by_cases c1 : (n : Int) ∈ s.ns ∨ (n : Int) ≤ s.cov
    · have e : comesS s.cov s.ns s.G s.tb (n : Int) q.1 q.2 = (("seen" : Str), s.ns, s.G, s.tb) := by unfold comesS; rw [if_pos c1]
      rw [eb, e]
      exact ⟨h.gi, h.ti, h.A, h.Aw, h.lg, h.hx⟩
    · obtain ⟨c2, c3⟩ := not_or.mp c1
      by_cases c4 : (n : Int) < gAt s.G q.1
      · have e : comesS s.cov s.ns s.G s.tb (n : Int) q.1 q.2 = (("late" : Str), s.ns ++ [(n : Int)], s.G, s.tb) := by unfold comesS; rw [if_neg c1, if_pos c4]
        rw [eb, e]
        exact ⟨h.gi, h.ti.late h1 hq c2 c4, h.A, h.Aw, by have := h.lg; show s.G.length ≤ (s.ns ++ [(n : Int)]).length; rw [List.length_append]; omega, h.hx⟩
      · have e : comesS s.cov s.ns s.G s.tb (n : Int) q.1 q.2 = (("taken" : Str), s.ns ++ [(n : Int)], putA_ s.G (.inl (q.1 : Int)) (.int (n : Int)), s.tb.set q.1 q.2) := by unfold comesS; rw [if_neg c1, if_neg c4]
        rw [eb, e]
        have tk := h.ti.take h1 hq c2 (by omega) c4
        have eg : (fun i : Nat => gAt (putA_ s.G (.inl (q.1 : Int)) (.int (n : Int))) (i : Int)) = (fun i => if i = q.1 then (n : Int) else gAt s.G (i : Int)) := by
          funext i
          rw [gAt_put]
          by_cases d : i = q.1
          · rw [if_pos d, if_pos (by rw [d])]
          · rw [if_neg d, if_neg (by omega)]
        have pl := putA_len (kvs := s.G) (k := .inl (q.1 : Int)) (v := W.int (n : Int))
        exact ⟨gInt_put h.gi, by rw [eg]; exact tk, h.A.set (h.hx q hqm), h.Aw, by have := h.lg; show (putA_ s.G (.inl (q.1 : Int)) (.int (n : Int))).length ≤ (s.ns ++ [(n : Int)]).length; rw [List.length_append]; simp only [List.length_cons, List.length_nil]; omega, h.hx⟩
  | mend => exact ⟨⟨h.gi, h.ti.mend, h.Aw, h.Aw, h.lg, h.hx⟩, rfl⟩
theorem WkOk.len (h : WkOk tb0 p s) : s.tb.length = tb0.length := h.ti.len
end
/-! what is told is data -/
end Mp
set_option Elab.async false
set_option linter.all false
set_option maxRecDepth 100000
set_option maxHeartbeats 4000000
namespace Mp
open PySem PySem.Spec PyProof.Rows L2
section
variable {cs : Nat → List W → Sto → CR} {gl : List W} {N : Nat} {m : Sto} {en : En}
end
noncomputable def Low (b : Nat) (m m2 : Sto) : Prop := ∀ j, j < b → m2[j]? = m[j]?
theorem Low.trans {b : Nat} {m m2 m3 : Sto} (h : Low b m m2) (g : Low b m2 m3) : Low b m m3 := fun j hj => (g j hj).trans (h j hj)
theorem Low.refl {b : Nat} {m : Sto} : Low b m m := fun _ _ => rfl
section
variable {fs : List Fd} {gl : List W} {N k f : Nat} {m : Sto} {en : En} {pb st ip np gB iv nr cr sv_ mp wa tw nt sb sy tn fi gS wi wp wt wm ws wl ri rc rt hl_ ak na md mn mw ms npu nru bi bd bm bb cB cW cR : Nat} {cl cp cw cc cg ck cpr cwr blw blr bll blm : List Nat} {mhl mak mmd mna mtp mts mtt mta mtd mtn mtS mtw mtc mtl mtm mto : List (Nat × Nat)}
variable {b u : Nat} {p : Int} {tb0 : List Int} {s : Wk} {ls : List W}
end
end Mp
set_option Elab.async false
set_option linter.all false
set_option maxRecDepth 100000
set_option maxHeartbeats 4000000
namespace Mp
open PySem PySem.Spec PyProof.Rows L2
section
variable {fs : List Fd} {gl : List W} {N k f : Nat} {m : Sto} {en : En} {pb st ip np gB iv nr cr sv_ mp wa tw nt sb sy tn fi gS wi wp wt wm ws wl ri rc rt hl_ ak na md mn mw ms npu nru bi bd bm bb cB cW cR : Nat} {cl cp cw cc cg ck cpr cwr blw blr bll blm : List Nat} {mhl mak mmd mna mtp mts mtt mta mtd mtn mtS mtw mtc mtl mtm mto : List (Nat × Nat)}
variable {b u : Nat} {p : Int} {tb0 : List Int} {s : Wk} {ls : List W}
end
end Mp
set_option Elab.async false
set_option linter.all false
set_option maxRecDepth 100000
set_option maxHeartbeats 4000000
namespace Mp
open PySem PySem.Spec PyProof.Rows L2
section
variable {fs : List Fd} {gl : List W} {N k f : Nat} {m : Sto} {en : En} {pb st ip np gB iv nr cr sv_ mp wa tw nt sb sy tn fi gS wi wp wt wm ws wl ri rc rt hl_ ak na md mn mw ms npu nru bi bd bm bb cB cW cR : Nat} {cl cp cw cc cg ck cpr cwr blw blr bll blm : List Nat} {mhl mak mmd mna mtp mts mtt mta mtd mtn mtS mtw mtc mtl mtm mto : List (Nat × Nat)}
variable {b u : Nat} {p : Int} {tb0 : List Int} {s : Wk} {ls : List W}
end
end Mp
set_option Elab.async false
set_option linter.all false
set_option maxRecDepth 100000
set_option maxHeartbeats 4000000
namespace Mp
open PySem PySem.Spec PyProof.Rows L2
section
variable {fs : List Fd} {gl : List W} {N k f : Nat} {m : Sto} {en : En} {pb st ip np gB iv nr cr sv_ mp wa tw nt sb sy tn fi gS wi wp wt wm ws wl ri rc rt hl_ ak na md mn mw ms npu nru bi bd bm bb cB cW cR : Nat} {cl cp cw cc cg ck cpr cwr blw blr bll blm : List Nat} {mhl mak mmd mna mtp mts mtt mta mtd mtn mtS mtw mtc mtl mtm mto : List (Nat × Nat)}
variable {b u : Nat} {p : Int} {tb0 : List Int} {s : Wk} {ls : List W}
end
end Mp
set_option Elab.async false
set_option linter.all false
set_option maxRecDepth 100000
set_option maxHeartbeats 4000000
namespace Mp
open PySem PySem.Spec PyProof.Rows L2
section
variable {fs : List Fd} {gl : List W} {N k f : Nat} {m : Sto} {en : En} {p : Int}
end
end Mp
set_option Elab.async false
set_option linter.all false
set_option maxRecDepth 100000
set_option maxHeartbeats 4000000
namespace Mp
open PySem PySem.Spec PyProof.Rows L2
noncomputable def mkv (e rI : Nat) (c bl bm : Int) : List (Key × W) := [(.inr "writer", .ref e), (.inr "reader", .ref rI), (.inr "came", .ref (e + 2)), (.inr "last", .ref (e + 3)), (.inr "floor", .int c), (.inr "letters told", .int bl), (.inr "mends told", .int bm)]
structure Mn (m : Sto) (e rI : Nat) (tb0 : List Int) (s : Wk) (La : List Int) : Prop where
  obj : m[e + 4]? = some (.dic (mkv e rI s.cov s.bl s.bm))
  wri : m[e]? = some (.lst ((tabAt tb0 s.H s.H.length).map W.int))
  rea : m[rI]? = some (.lst (s.tb.map W.int))
  cam : m[e + 2]? = some (.lst (s.ns.map W.int))
  las : m[e + 3]? = some (.lst (La.map W.int))
  ll : La.length = tb0.length
  lg : ∀ i, i < tb0.length → rat La i = gAt s.G (i : Int)
  hr : rI = e + 1 ∨ e + 5 ≤ rI
section
variable {m : Sto} {e rI : Nat} {tb0 La : List Int} {s : Wk}
theorem Mn.dd (h : Mn m e rI tb0 s La) : dicW m (.ref (e + 4)) = some (mkv e rI s.cov s.bl s.bm) := dicW_at h.obj
theorem Mn.put (h : Mn m e rI tb0 s La) (c bl bm : Int) : Mn (m.set (e + 4) (.dic (mkv e rI c bl bm))) e rI tb0 ⟨s.H, s.tb, c, s.ns, s.G, bl, bm⟩ La := by
  have hr := h.hr
  have o : ∀ j, j ≠ e + 4 → (m.set (e + 4) (.dic (mkv e rI c bl bm)))[j]? = m[j]? := fun j hj => List.getElem?_set_ne (Ne.symm hj)
  exact ⟨get_set h.obj, (o _ (by omega)).trans h.wri, (o _ (by omega)).trans h.rea, (o _ (by omega)).trans h.cam, (o _ (by omega)).trans h.las, h.ll, h.lg, hr⟩
theorem Mn.came (h : Mn m e rI tb0 s La) (ns : List Int) : Mn (m.set (e + 2) (.lst (ns.map W.int))) e rI tb0 ⟨s.H, s.tb, s.cov, ns, s.G, s.bl, s.bm⟩ La := by
  have hr := h.hr
  have o : ∀ j, j ≠ e + 2 → (m.set (e + 2) (.lst (ns.map W.int)))[j]? = m[j]? := fun j hj => List.getElem?_set_ne (Ne.symm hj)
  exact ⟨(o _ (by omega)).trans h.obj, (o _ (by omega)).trans h.wri, (o _ (by omega)).trans h.rea, get_set h.cam, (o _ (by omega)).trans h.las, h.ll, h.lg, hr⟩
theorem Mn.taken (h : Mn m e rI tb0 s La) {i : Nat} {n x : Int} (hi : i < tb0.length) : Mn ((m.set (e + 3) (.lst ((La.set i n).map W.int))).set rI (.lst ((s.tb.set i x).map W.int))) e rI tb0 ⟨s.H, s.tb.set i x, s.cov, s.ns, putA_ s.G (.inl (i : Int)) (.int n), s.bl, s.bm⟩ (La.set i n) := by
  have hr := h.hr
  have o : ∀ j, j ≠ e + 3 → j ≠ rI → ((m.set (e + 3) (.lst ((La.set i n).map W.int))).set rI (.lst ((s.tb.set i x).map W.int)))[j]? = m[j]? := fun j h1 h2 => off2 h1 h2
  refine ⟨(o _ (by omega) (by omega)).trans h.obj, (o _ (by omega) (by omega)).trans h.wri, ?_, (o _ (by omega) (by omega)).trans h.cam, ?_, by rw [List.length_set]; exact h.ll, fun j hj => ?_, hr⟩
  · exact get_set (by rw [List.getElem?_set_ne (by omega)]; exact h.rea)
  · rw [List.getElem?_set_ne (by omega)]; exact get_set h.las
  · show rat (La.set i n) j = gAt (putA_ s.G (.inl (i : Int)) (.int n)) (j : Int)
    rw [gAt_put, rat_setI]
    by_cases c : i = j
    · subst c
      rw [if_pos ⟨rfl, by rw [h.ll]; exact hi⟩, if_pos rfl]
    · rw [if_neg (fun z => c z.1), if_neg (by omega)]; exact h.lg j hj
theorem Mn.again (h : Mn m e rI tb0 s La) (tb2 : List Int) : Mn ((m ++ [Ob.lst (tb2.map W.int)]).set (e + 4) (.dic (mkv e m.length s.cov s.bl s.bm))) e m.length tb0 ⟨s.H, tb2, s.cov, s.ns, s.G, s.bl, s.bm⟩ La := by
  have hl := lt_of_get h.obj
  have o : ∀ j, j ≠ e + 4 → j < m.length → ((m ++ [Ob.lst (tb2.map W.int)]).set (e + 4) (.dic (mkv e m.length s.cov s.bl s.bm)))[j]? = m[j]? := fun j h1 h2 => by rw [List.getElem?_set_ne (Ne.symm h1), List.getElem?_append_left h2]
  refine ⟨?_, (o _ (by omega) (by omega)).trans h.wri, ?_, (o _ (by omega) (by omega)).trans h.cam, (o _ (by omega) (by omega)).trans h.las, h.ll, h.lg, .inr (by omega)⟩
  · rw [List.getElem?_set_self (by rw [List.length_append]; omega)]
  · rw [List.getElem?_set_ne (by omega), List.getElem?_append_right (Nat.le_refl _), Nat.sub_self]; rfl
end
section
variable {cs : Nat → List W → Sto → CR} {fs : List Fd} {gl : List W} {N k f : Nat} {m : Sto} {en : En} {p : Int} {e rI : Nat} {tb0 La : List Int} {s : Wk}
end
end Mp
set_option Elab.async false
set_option linter.all false
set_option maxRecDepth 100000
set_option maxHeartbeats 4000000
namespace Mp
open PySem PySem.Spec PyProof.Rows L2
section
variable {cs : Nat → List W → Sto → CR} {fs : List Fd} {gl : List W} {N k f : Nat} {m : Sto} {en : En} {p : Int} {e rI : Nat} {tb0 La : List Int} {s : Wk}
end
end Mp
set_option Elab.async false
set_option linter.all false
set_option maxRecDepth 100000
set_option maxHeartbeats 4000000
namespace Mp
open PySem PySem.Spec PyProof.Rows L2
section
variable {cs : Nat → List W → Sto → CR} {fs : List Fd} {gl : List W} {N k f : Nat} {m : Sto} {en : En} {p : Int} {e rI : Nat} {tb0 La : List Int} {s : Wk} {ls T : List W}
end
end Mp
set_option Elab.async false
set_option linter.all false
set_option maxRecDepth 100000
set_option maxHeartbeats 4000000
namespace Mp
open PySem PySem.Spec PyProof.Rows L2
section
variable {fs : List Fd} {gl : List W} {N k f : Nat} {m : Sto} {en : En} {pb st ip np gB iv nr cr sv_ mp wa tw nt sb sy tn fi gS wi wp wt wm ws wl ri rc rt hl_ ak na md mn mw ms npu nru bi bd bm bb cB cW cR : Nat} {cl cp cw cc cg ck cpr cwr blw blr bll blm : List Nat} {mhl mak mmd mna mtp mts mtt mta mtd mtn mtS mtw mtc mtl mtm mto : List (Nat × Nat)}
variable {b u : Nat} {p : Int} {tb0 : List Int} {s : Wk} {ls : List W}
theorem Mn.keep {m2 : Sto} {e rI : Nat} {La : List Int} (h : Mn m e rI tb0 s La) (K : Keeps m m2) : Mn m2 e rI tb0 s La := ⟨K.at h.obj, K.at h.wri, K.at h.rea, K.at h.cam, K.at h.las, h.ll, h.lg, h.hr⟩
end
end Mp
set_option Elab.async false
set_option linter.all false
set_option maxRecDepth 100000
set_option maxHeartbeats 4000000
namespace Mp
open PySem PySem.Spec PyProof.Rows L2
structure RD where
  w : Str
  a : List Int
noncomputable def okD (L : Nat) (p : Int) (made : Nat) (d : RD) : Option Nat :=
  if d.w = "put" then match d.a with
    | [i, x] => if (0 ≤ i ∧ i < (L : Int)) ∧ (0 ≤ x ∧ x < p) then some (made + 1) else none
    | _ => none
  else if d.w = "bring" then match d.a with
    | [n] => if 1 ≤ n ∧ n ≤ (made : Int) then some made else none
    | _ => none
  else if d.w = "mend" ∧ d.a = [] then some made else none
noncomputable def okR (L : Nat) (p : Int) : Nat → List RD → Option Nat
  | made, [] => some made
  | made, d :: ds => match okD L p made d with
    | some n => okR L p n ds
    | none => none
section
variable {cs : Nat → List W → Sto → CR} {fs : List Fd} {gl : List W} {N k f c : Nat} {m : Sto} {en : En} {p : Int}
theorem bnd_exR {A B : Type} {f : A → En → Sto → R B} {h : Pin f} : bnd (.ex c en m) f h = .ex c en m := rfl
theorem toR_exR : (CR.ex c m).toR en = .ex c en m := rfl
end
end Mp
set_option Elab.async false
set_option linter.all false
set_option maxRecDepth 100000
set_option maxHeartbeats 4000000
/-! texts: one step each. A text is SX.S of its signs -/
namespace Mp
open PySem PySem.Spec PyProof.Rows L2
noncomputable def OkT (a : List Nat) : Prop := ∀ c ∈ a, c < 128
theorem OkT.app {a b : List Nat} (h : OkT a) (g : OkT b) : OkT (a ++ b) := fun c hc => (List.mem_append.mp hc).elim (h c) (g c)
theorem OkT.sub {a b : List Nat} (h : OkT b) (g : ∀ c ∈ a, c ∈ b) : OkT a := fun c hc => h c (g c hc)
theorem OkT.take {a : List Nat} (h : OkT a) (n : Nat) : OkT (a.take n) := h.sub fun c hc => List.mem_of_mem_take hc
theorem OkT.drop {a : List Nat} (h : OkT a) (n : Nat) : OkT (a.drop n) := h.sub fun c hc => List.mem_of_mem_drop hc
theorem strOk_S {a : List Nat} (h : OkT a) : PyData.strOk (SX.S a) = true := by
  unfold PyData.strOk
  rw [← Array.all_toList, List.all_eq_true]
  intro c hc
  have := h c hc
  exact decide_eq_true (by omega)
theorem dat_S {a : List Nat} (h : OkT a) {n : Nat} : W.dat n (.str (SX.S a)) = true := by
  cases n <;> exact strOk_S h
section
variable {cs : Nat → List W → Sto → CR} {fs : List Fd} {gl : List W} {N k f : Nat} {m : Sto} {en : En} {a b : List Nat}
theorem S_beq {a b : List Nat} : (SX.S a == SX.S b) = decide (a = b) := SX.S_beq_eq
theorem eq_S (ha : OkT a) (hb : OkT b) : cmpR .eq en m (.val (.str (SX.S a))) (.val (.str (SX.S b))) = some (decide (a = b)) := by
  rw [eq_sees rfl rfl (Sees.self (dat_S ha)) (Sees.self (dat_S hb))]
  simp only [W.same, S_beq]
theorem ne_S (ha : OkT a) (hb : OkT b) : cmpR .ne en m (.val (.str (SX.S a))) (.val (.str (SX.S b))) = some (!decide (a = b)) := by
  rw [ne_sees rfl rfl (Sees.self (dat_S ha)) (Sees.self (dat_S hb))]
  simp only [W.same, S_beq]
theorem idx_S {i : Int} (hl : a.length ≤ LIM) : idxR en m (.val (.str (SX.S a))) (.val (.int i)) = (atI a i).map fun c => .str (SX.S [c]) := by
  show (if (SX.S a).length ≤ LIM then _ else _) = _
  rw [SX.S_len, if_pos hl]
theorem len_S (hl : a.length ≤ LIM) : bltR .len m [.str (SX.S a)] = some (.val (.int (a.length : Int))) := by
  show (if (SX.S a).length ≤ LIM then some (RV.val (W.int ((SX.S a).length : Nat))) else none) = _
  rw [SX.S_len, if_pos hl]
theorem items_S : itemsR .str m [.str (SX.S a)] = some (a.map fun c => .str (SX.S [c]), []) := rfl
theorem nmem_S {c : Nat} : cmpR .nmem en m (.val (.str (SX.S [c]))) (.val (.str (SX.S b))) = some (!decide (c ∈ b)) := rfl
theorem add_S (hl : a.length + b.length ≤ LIM) : binR .add en m (.val (.str (SX.S a))) (.val (.str (SX.S b))) = some (.val (.str (SX.S (a ++ b)))) := by
  show (if (SX.S a).length + (SX.S b).length ≤ LIM then some (RV.val (W.str (SX.S a ++ SX.S b))) else none) = _
  rw [SX.S_len, SX.S_len, if_pos hl, SX.S_cat]
theorem str_S (n : Nat) (h : n < 10 ^ 200) : bltR .str m [.int (n : Int)] = some (.val (.str (SX.S (TL.numL n)))) := by
  show (if ((n : Int)).natAbs.log2 < 1920 then some (RV.val (W.str (Str.ofString (toString (n : Int))))) else none) = _
  rw [if_pos (by
    rw [Int.natAbs_natCast]
    by_cases h0 : n = 0
    · subst h0; decide
    · rw [Nat.log2_lt h0]
      exact Nat.lt_of_lt_of_le h (by decide)), SX.num_S]
noncomputable def digT (a : List Nat) : Bool := a.all fun c => decide (48 ≤ c) && decide (c ≤ 57)
theorem int_S (h : digT a = true) (hne : a ≠ []) (hl : a.length ≤ 640) : bltR .int m [.str (SX.S a)] = some (.val (.int ((NumText.digitsVal a : Nat) : Int))) := by
  show (if (SX.S a).length ≤ 640 then (PySem.intText? (SX.S a)).map fun n => RV.val (W.int n) else none) = _
  rw [SX.S_len, if_pos hl, SX.int_S h hne (by omega)]; rfl
theorem cut_S {lo hi : Option Int} : cutT (SX.S a) lo hi = SX.S (cutL a lo hi) := rfl
/-! ### parts -/
noncomputable def splT (sep a : List Nat) : List (List Nat) := TL.spl sep 0 [] a
theorem spl_sub {sep : List Nat} : ∀ (l : List Nat) (k : Nat) (acc : List Nat), ∀ q ∈ TL.spl sep k acc l, (∀ c ∈ q, c ∈ acc ++ l) ∧ q.length ≤ acc.length + l.length
  | [], k, acc, q, h => by
    rw [TL.spl_nil, List.mem_singleton] at h
    subst h
    simp
  | c :: r, 0, acc, q, h => by
    unfold TL.spl at h
    split at h
    · rcases List.mem_cons.mp h with rfl | h
      · exact ⟨fun c hc => List.mem_append_left _ hc, by omega⟩
      · obtain ⟨h1, h2⟩ := spl_sub r _ [] q h
        refine ⟨fun d hd => ?_, by simp only [List.length_nil, List.length_cons] at h2 ⊢; omega⟩
        have := h1 d hd
        simp only [List.nil_append] at this
        exact List.mem_append_right _ (List.mem_cons_of_mem _ this)
    · obtain ⟨h1, h2⟩ := spl_sub r 0 (acc ++ [c]) q h
      refine ⟨fun d hd => ?_, by simp only [List.length_append, List.length_cons, List.length_nil] at h2 ⊢; omega⟩
      have := h1 d hd
      simpa using this
  | c :: r, k + 1, acc, q, h => by
    unfold TL.spl at h
    obtain ⟨h1, h2⟩ := spl_sub r k acc q h
    refine ⟨fun d hd => ?_, by simp only [List.length_cons]; omega⟩
    rcases List.mem_append.mp (h1 d hd) with z | z
    · exact List.mem_append_left _ z
    · exact List.mem_append_right _ (List.mem_cons_of_mem _ z)
theorem spl_many {sep : List Nat} : ∀ (l : List Nat) (k : Nat) (acc : List Nat), (TL.spl sep k acc l).length ≤ l.length + 1 ∧ 1 ≤ (TL.spl sep k acc l).length
  | [], k, acc => by rw [TL.spl_nil]; simp
  | c :: r, 0, acc => by
    unfold TL.spl
    split
    · have := (spl_many (sep := sep) r (sep.length - 1) []).1
      simp only [List.length_cons]; omega
    · have := spl_many (sep := sep) r 0 (acc ++ [c])
      simp only [List.length_cons]; omega
  | c :: r, k + 1, acc => by
    unfold TL.spl
    have := spl_many (sep := sep) r k acc
    simp only [List.length_cons]; omega
theorem splT_mem {sep a q : List Nat} (h : q ∈ splT sep a) : (∀ c ∈ q, c ∈ a) ∧ q.length ≤ a.length := by
  have := spl_sub a 0 [] q h
  simpa using this
theorem splT_ok {sep a q : List Nat} (h : q ∈ splT sep a) (ha : OkT a) : OkT q := ha.sub (splT_mem h).1
theorem split_ev {x y : E} {en2 en3 : En} {m2 m3 : Sto} {sep : List Nat} (h1 : ev cs gl x en m = .ok (.val (.str (SX.S a))) en2 m2) (h2 : ev cs gl y en2 m2 = .ok (.val (.str (SX.S sep))) en3 m3) (hs : sep ≠ []) (hk : sep.all (· < 256) = true) (hl : a.length ≤ 10000) :
    ev cs gl (.mth .split x y) en m = .ok (.new ((splT sep a).map fun q => .str (SX.S q))) en3 m3 := by
  have l : ((SX.S sep).length == 0) = false := by
    rw [SX.S_len]
    cases sep with
    | nil => exact absurd rfl hs
    | cons c r => rfl
  have e : (Txt.split (SX.S a) (SX.S sep)).map W.str = (splT sep a).map fun q => .str (SX.S q) := by
    rw [SX.split_S hs hk, List.map_map]; rfl
  simp only [ev, h1, bind_okR, rvW_val, Option.bind_some, strW, opt_someR, h2]
  rw [if_pos ⟨l, by rw [SX.S_len]; unfold LIM; omega⟩, e]
theorem strsW_S : ∀ ys : List (List Nat), strsW (ys.map fun q => W.str (SX.S q)) = some (ys.map SX.S)
  | [] => rfl
  | q :: ys => by
    simp only [List.map_cons, strsW]
    rw [strsW_S ys]; rfl
theorem join_ev {x y : E} {en2 en3 : En} {m2 m3 : Sto} {sep : List Nat} {ys : List (List Nat)} {z : RV} (h1 : ev cs gl x en m = .ok (.val (.str (SX.S sep))) en2 m2) (h2 : ev cs gl y en2 m2 = .ok z en3 m3) (hz : rvL en3 m3 z = some (ys.map fun q => .str (SX.S q)))
    (hl : (ys.map (·.length)).sum + ys.length * sep.length ≤ LIM) : ev cs gl (.mth .join x y) en m = .ok (.val (.str (SX.S (TL.joinL sep ys)))) en3 m3 := by
  have e := strsW_S ys
  simp only [ev, h1, bind_okR, rvW_val, Option.bind_some, strW, opt_someR, h2, hz, e, SX.lens, List.length_map, SX.S_len]
  rw [if_pos hl, SX.join_S]
end
end Mp
set_option Elab.async false
set_option linter.all false
set_option maxRecDepth 100000
set_option maxHeartbeats 4000000
namespace Mp
open PySem PySem.Spec PyProof.Rows L2
/-! numbers in texts -/
noncomputable def FIGL : List Nat := [48, 49, 50, 51, 52, 53, 54, 55, 56, 57]
theorem fig_S : ("0123456789" : Str) = SX.S FIGL := rfl
theorem emp_S : ("" : Str) = SX.S [] := rfl
theorem zero_S : ("0" : Str) = SX.S [48] := rfl
noncomputable def isFig (c : Nat) : Bool := decide (c ∈ FIGL)
theorem isFig_iff {c : Nat} : isFig c = (decide (48 ≤ c) && decide (c ≤ 57)) := by
  unfold isFig FIGL
  rw [← Bool.decide_and]
  exact decide_eq_decide.mpr (by simp only [List.mem_cons, List.not_mem_nil, or_false]; omega)
noncomputable def numOk : List Nat → Bool
  | [] => false
  | c :: r => (!decide (c = 48) || r.isEmpty) && (c :: r).all isFig
theorem numOk_dig {a : List Nat} (h : numOk a = true) : digT a = true ∧ a ≠ [] := by
  cases a with
  | nil => exact absurd h (by decide)
  | cons c r =>
    refine ⟨?_, by simp⟩
    unfold numOk at h
    rw [Bool.and_eq_true] at h
    have := h.2
    unfold digT
    rw [List.all_eq_true] at this ⊢
    intro x hx
    rw [← isFig_iff]; exact this x hx
noncomputable def encC (c : Nat) : W := .str (SX.S [c])
noncomputable def pNf : W → Bool
  | .str s => !isFig (s.cps.toList.headD 0)
  | _ => false
section
variable {cs : Nat → List W → Sto → CR} {fs : List Fd} {gl : List W} {N k f g x : Nat} {m : Sto} {en : En} {a : List Nat}
theorem offs (a : List Nat) : (((a.map encC).filter pNf).map id) = (a.filter fun c => !isFig c).map encC := by
  rw [List.map_id, List.filter_map]; rfl
theorem ne_offs (ha : OkT a) : cmpR .ne en m (.val (.lst ((a.filter fun c => !isFig c).map encC))) (.val (.lst [])) = some (!a.all isFig) := by
  have d : ∀ (n : Nat) (l : List Nat), OkT l → W.dats n (l.map encC) = true := fun n l => by
    induction l with
    | nil => intro _; cases n <;> rfl
    | cons c r ih =>
      intro h
      simp only [List.map_cons, W.dats]
      rw [ih (fun z hz => h z (List.mem_cons_of_mem _ hz)), Bool.and_true]
      exact dat_S (a := [c]) (fun z hz => by rw [List.mem_singleton] at hz; subst hz; exact h z List.mem_cons_self)
  have hf : OkT (a.filter fun c => !isFig c) := ha.sub fun c hc => (List.mem_filter.mp hc).1
  have dd : W.dat DEEP (.lst ((a.filter fun c => !isFig c).map encC)) = true := by
    simp only [DEEP, W.dat]; exact d _ _ hf
  rw [ne_sees rfl rfl (Sees.self dd) (Sees.self (by rfl))]
  congr 1
  cases h : a.all isFig
  · obtain ⟨c, hc, hn⟩ : ∃ c ∈ a, ¬ isFig c = true := by
      rw [← Bool.not_eq_true, List.all_eq_true] at h
      exact Classical.byContradiction fun z => h fun c hc => Classical.byContradiction fun y => z ⟨c, hc, y⟩
    have : c ∈ a.filter fun c => !isFig c := List.mem_filter.mpr ⟨hc, by simp [hn]⟩
    cases e : a.filter fun c => !isFig c with
    | nil => rw [e] at this; cases this
    | cons q r => rfl
  · have : a.filter (fun c => !isFig c) = [] := by
      rw [List.filter_eq_nil_iff]
      intro c hc
      have := List.all_eq_true.mp h c hc
      simp [this]
    rw [this]; rfl
theorem offs_glob (hg : gl[g]? = some (.str "0123456789")) (hl : a.length ≤ 10000) : ev cs gl (.comp .str (.cons (.var 0) .nil) (.one 1) [1] (.cmp .nmem (.var 1) (.glob g)) (.var 1)) [some (.val (.str (SX.S a))), none] m = .ok (.new ((a.filter fun c => !isFig c).map encC)) [some (.val (.str (SX.S a))), none] m := by
  have hcl := cl_map (cs := cs) (gl := gl) (m := m) (en := [some (.val (.str (SX.S a))), none]) (tg := .one 1) (js := [1]) (c := .cmp .nmem (.var 1) (.glob g)) (elt := .var 1) (ck := []) pNf id (zs := a.map encC) rfl (fun z hz => by
    obtain ⟨c, hc, rfl⟩ := List.mem_map.mp hz
    refine ⟨[some (.val (.str (SX.S a))), some (.val (encC c))], rfl, rfl, ?_, fun _ => ?_⟩
    · rw [if_neg (by simp [isNil])]
      unfold encC
      generalize SX.S a = A_
      simp only [sv_seq, sv_iff, sv_asg, sv_ret, sv_retn, sv_skip, sv_ex, sv_unp, ev_var, ev_int, ev_bl, ev_non, ev_str, ev_bin, ev_neg, ev_cmp, ev_chain, ev_not, ev_ite, ev_idx, ev_call, ev_blt, evl_1, evl_2, ev_and, ev_or, evAnd_1, evAnd_2, evOr_1, evOr_2, ev_fld, ev_box, boxR_new, evs_cons, evs_nil, enGet_0, enGet_s, bnd_ok, optp_some, opt2p_some, hold_val, hold_new, hold_bor, rvW_val, rvW_new, esc_val, esc_new, slOf_val, slOf_new, retR_val, retR_new, blR_bl, intR_int, toR_ok, thn_nx, thn_rt, end_nx, end_rt, List.set_cons_succ, List.set_cons_zero, List.length_cons, List.length_nil, Nat.zero_add, Nat.reduceAdd, if_true, if_false, Bool.false_eq_true, Bool.not_true, Bool.not_false, decide_true, decide_false, ev_glob, hg, fig_S, nmem_S]
      rfl
    · generalize encC c = A_
      generalize SX.S a = A_
      simp only [sv_seq, sv_iff, sv_asg, sv_ret, sv_retn, sv_skip, sv_ex, sv_unp, ev_var, ev_int, ev_bl, ev_non, ev_str, ev_bin, ev_neg, ev_cmp, ev_chain, ev_not, ev_ite, ev_idx, ev_call, ev_blt, evl_1, evl_2, ev_and, ev_or, evAnd_1, evAnd_2, evOr_1, evOr_2, ev_fld, ev_box, boxR_new, evs_cons, evs_nil, enGet_0, enGet_s, bnd_ok, optp_some, opt2p_some, hold_val, hold_new, hold_bor, rvW_val, rvW_new, esc_val, esc_new, slOf_val, slOf_new, retR_val, retR_new, blR_bl, intR_int, toR_ok, thn_nx, thn_rt, end_nx, end_rt, List.set_cons_succ, List.set_cons_zero, List.length_cons, List.length_nil, Nat.zero_add, Nat.reduceAdd, if_true, if_false, Bool.false_eq_true, Bool.not_true, Bool.not_false, decide_true, decide_false, id_eq])
  rw [offs] at hcl
  have src : evs cs gl (.cons (.var 0) .nil) [some (.val (.str (SX.S a))), none] m = .ok [.str (SX.S a)] [some (.val (.str (SX.S a))), none] m := by
    generalize SX.S a = A_
    simp only [sv_seq, sv_iff, sv_asg, sv_ret, sv_retn, sv_skip, sv_ex, sv_unp, ev_var, ev_int, ev_bl, ev_non, ev_str, ev_bin, ev_neg, ev_cmp, ev_chain, ev_not, ev_ite, ev_idx, ev_call, ev_blt, evl_1, evl_2, ev_and, ev_or, evAnd_1, evAnd_2, evOr_1, evOr_2, ev_fld, ev_box, boxR_new, evs_cons, evs_nil, enGet_0, enGet_s, bnd_ok, optp_some, opt2p_some, hold_val, hold_new, hold_bor, rvW_val, rvW_new, esc_val, esc_new, slOf_val, slOf_new, retR_val, retR_new, blR_bl, intR_int, toR_ok, thn_nx, thn_rt, end_nx, end_rt, List.set_cons_succ, List.set_cons_zero, List.length_cons, List.length_nil, Nat.zero_add, Nat.reduceAdd, if_true, if_false, Bool.false_eq_true, Bool.not_true, Bool.not_false, decide_true, decide_false]
  exact comp_runm (it := .str) src items_S (by rw [List.length_map]; unfold LIM; omega) rfl hcl rfl
theorem offs_lit  (hl : a.length ≤ 10000) : ev cs gl (.comp .str (.cons (.var 0) .nil) (.one 1) [1] (.cmp .nmem (.var 1) (.str "0123456789")) (.var 1)) [some (.val (.str (SX.S a))), none] m = .ok (.new ((a.filter fun c => !isFig c).map encC)) [some (.val (.str (SX.S a))), none] m := by
  have hcl := cl_map (cs := cs) (gl := gl) (m := m) (en := [some (.val (.str (SX.S a))), none]) (tg := .one 1) (js := [1]) (c := .cmp .nmem (.var 1) (.str "0123456789")) (elt := .var 1) (ck := []) pNf id (zs := a.map encC) rfl (fun z hz => by
    obtain ⟨c, hc, rfl⟩ := List.mem_map.mp hz
    refine ⟨[some (.val (.str (SX.S a))), some (.val (encC c))], rfl, rfl, ?_, fun _ => ?_⟩
    · rw [if_neg (by simp [isNil])]
      unfold encC
      generalize SX.S a = A_
      simp only [sv_seq, sv_iff, sv_asg, sv_ret, sv_retn, sv_skip, sv_ex, sv_unp, ev_var, ev_int, ev_bl, ev_non, ev_str, ev_bin, ev_neg, ev_cmp, ev_chain, ev_not, ev_ite, ev_idx, ev_call, ev_blt, evl_1, evl_2, ev_and, ev_or, evAnd_1, evAnd_2, evOr_1, evOr_2, ev_fld, ev_box, boxR_new, evs_cons, evs_nil, enGet_0, enGet_s, bnd_ok, optp_some, opt2p_some, hold_val, hold_new, hold_bor, rvW_val, rvW_new, esc_val, esc_new, slOf_val, slOf_new, retR_val, retR_new, blR_bl, intR_int, toR_ok, thn_nx, thn_rt, end_nx, end_rt, List.set_cons_succ, List.set_cons_zero, List.length_cons, List.length_nil, Nat.zero_add, Nat.reduceAdd, if_true, if_false, Bool.false_eq_true, Bool.not_true, Bool.not_false, decide_true, decide_false, ev_glob, fig_S, nmem_S]
      rfl
    · generalize encC c = A_
      generalize SX.S a = A_
      simp only [sv_seq, sv_iff, sv_asg, sv_ret, sv_retn, sv_skip, sv_ex, sv_unp, ev_var, ev_int, ev_bl, ev_non, ev_str, ev_bin, ev_neg, ev_cmp, ev_chain, ev_not, ev_ite, ev_idx, ev_call, ev_blt, evl_1, evl_2, ev_and, ev_or, evAnd_1, evAnd_2, evOr_1, evOr_2, ev_fld, ev_box, boxR_new, evs_cons, evs_nil, enGet_0, enGet_s, bnd_ok, optp_some, opt2p_some, hold_val, hold_new, hold_bor, rvW_val, rvW_new, esc_val, esc_new, slOf_val, slOf_new, retR_val, retR_new, blR_bl, intR_int, toR_ok, thn_nx, thn_rt, end_nx, end_rt, List.set_cons_succ, List.set_cons_zero, List.length_cons, List.length_nil, Nat.zero_add, Nat.reduceAdd, if_true, if_false, Bool.false_eq_true, Bool.not_true, Bool.not_false, decide_true, decide_false, id_eq])
  rw [offs] at hcl
  have src : evs cs gl (.cons (.var 0) .nil) [some (.val (.str (SX.S a))), none] m = .ok [.str (SX.S a)] [some (.val (.str (SX.S a))), none] m := by
    generalize SX.S a = A_
    simp only [sv_seq, sv_iff, sv_asg, sv_ret, sv_retn, sv_skip, sv_ex, sv_unp, ev_var, ev_int, ev_bl, ev_non, ev_str, ev_bin, ev_neg, ev_cmp, ev_chain, ev_not, ev_ite, ev_idx, ev_call, ev_blt, evl_1, evl_2, ev_and, ev_or, evAnd_1, evAnd_2, evOr_1, evOr_2, ev_fld, ev_box, boxR_new, evs_cons, evs_nil, enGet_0, enGet_s, bnd_ok, optp_some, opt2p_some, hold_val, hold_new, hold_bor, rvW_val, rvW_new, esc_val, esc_new, slOf_val, slOf_new, retR_val, retR_new, blR_bl, intR_int, toR_ok, thn_nx, thn_rt, end_nx, end_rt, List.set_cons_succ, List.set_cons_zero, List.length_cons, List.length_nil, Nat.zero_add, Nat.reduceAdd, if_true, if_false, Bool.false_eq_true, Bool.not_true, Bool.not_false, decide_true, decide_false]
  exact comp_runm (it := .str) src items_S (by rw [List.length_map]; unfold LIM; omega) rfl hcl rfl
theorem read_number_run (hf : fs[f]? = some ⟨1, 2, b_read_number_v1 g x⟩) (hg : gl[g]? = some (.str "0123456789")) (ha : OkT a) (hl : a.length ≤ 640) :
    callN fs gl N (k + 1) f [.str (SX.S a)] m = if numOk a then .ok (.val (.int ((NumText.digitsVal a : Nat) : Int))) m else .ex x m := by
  rw [call_at hf rfl]
  have oc := offs_glob (cs := callN fs gl N k) (m := m) (a := a) hg (by omega)
  have l0 : (0 : Nat) ≤ LIM := by decide
  have o0 : OkT [] := fun c hc => by cases hc
  have o1 : OkT [48] := fun c hc => by rw [List.mem_singleton] at hc; subst hc; decide
  have ne1 : ∀ en, cmpR .ne en m (.val (.lst ((a.filter fun c => !isFig c).map encC))) (.val (.lst [])) = some (!a.all isFig) := fun en => ne_offs ha
  change endR (sv (callN fs gl N k) gl N (b_read_number_v1 g x) [some (.val (.str (SX.S a))), none] m) = _
  unfold b_read_number_v1
  have e0 : ∀ en, cmpR .eq en m (.val (.str (SX.S a))) (.val (.str (SX.S []))) = some (decide (a = [])) := fun en => eq_S ha o0
  have e1 : ∀ en, cmpR .ne en m (.val (.str (SX.S a))) (.val (.str (SX.S [48]))) = some (!decide (a = [48])) := fun en => ne_S ha o1
  by_cases h0 : a = []
  · subst h0
    rw [if_neg (by decide)]
    have e0 : ∀ en, cmpR .eq en m (.val (.str (SX.S []))) (.val (.str (SX.S []))) = some true := fun en => eq_S o0 o0
    simp only [sv_seq, sv_iff, sv_asg, sv_ret, sv_retn, sv_skip, sv_ex, sv_unp, ev_var, ev_int, ev_bl, ev_non, ev_str, ev_bin, ev_neg, ev_cmp, ev_chain, ev_not, ev_ite, ev_idx, ev_call, ev_blt, evl_1, evl_2, ev_and, ev_or, evAnd_1, evAnd_2, evOr_1, evOr_2, ev_fld, ev_box, boxR_new, evs_cons, evs_nil, enGet_0, enGet_s, bnd_ok, optp_some, opt2p_some, hold_val, hold_new, hold_bor, rvW_val, rvW_new, esc_val, esc_new, slOf_val, slOf_new, retR_val, retR_new, blR_bl, intR_int, toR_ok, thn_nx, thn_rt, end_nx, end_rt, List.set_cons_succ, List.set_cons_zero, List.length_cons, List.length_nil, Nat.zero_add, Nat.reduceAdd, if_true, if_false, Bool.false_eq_true, Bool.not_true, Bool.not_false, decide_true, decide_false, raise_st, thn_ex, end_ex, bnd_exR, toR_exR, emp_S, e0]
  · obtain ⟨c, r, rfl⟩ : ∃ c r, a = c :: r := by cases a with
      | nil => exact absurd rfl h0
      | cons c r => exact ⟨c, r, rfl⟩
    have d0 : decide (c :: r = []) = false := by simp
    rw [d0] at e0
    have ix : ∀ en, idxR en m (.val (.str (SX.S (c :: r)))) (.val (.int 0)) = some (.str (SX.S [c])) := fun en => by
      rw [idx_S (by unfold LIM; omega), at_0]; rfl
    have oc1 : OkT [c] := fun z hz => by rw [List.mem_singleton] at hz; subst hz; exact ha z List.mem_cons_self
    have e2 : ∀ en, cmpR .eq en m (.val (.str (SX.S [c]))) (.val (.str (SX.S [48]))) = some (decide (c = 48)) := fun en => by
      rw [eq_S oc1 o1]; congr 1; exact decide_eq_decide.mpr (by simp)
    have i1 : numOk (c :: r) = true → bltR .int m [.str (SX.S (c :: r))] = some (.val (.int ((NumText.digitsVal (c :: r) : Nat) : Int))) := fun h => int_S (numOk_dig h).1 (numOk_dig h).2 hl
    have nk : numOk (c :: r) = ((!decide (c = 48) || r.isEmpty) && (c :: r).all isFig) := rfl
    have er : decide (c :: r = [48]) = (decide (c = 48) && r.isEmpty) := by
      cases r with
      | nil => simp
      | cons d r => simp
    rw [er] at e1
    generalize (c :: r).all isFig = AF at *
    generalize ((c :: r).filter fun c => !isFig c).map encC = OF at *
    generalize r.isEmpty = RE at *
    generalize numOk (c :: r) = NO at *
    generalize NumText.digitsVal (c :: r) = DV at *
    generalize SX.S (c :: r) = A_ at *
    generalize decide (c = 48) = C48 at *
    cases C48 <;> cases RE <;> cases AF <;> (simp only [Bool.not_true, Bool.not_false, Bool.true_and, Bool.false_and, Bool.or_true, Bool.or_false, Bool.true_or, Bool.false_or] at nk; subst nk; (first | (have i1 := i1 rfl) | skip); simp only [sv_seq, sv_iff, sv_asg, sv_ret, sv_retn, sv_skip, sv_ex, sv_unp, ev_var, ev_int, ev_bl, ev_non, ev_str, ev_bin, ev_neg, ev_cmp, ev_chain, ev_not, ev_ite, ev_idx, ev_call, ev_blt, evl_1, evl_2, ev_and, ev_or, evAnd_1, evAnd_2, evOr_1, evOr_2, ev_fld, ev_box, boxR_new, evs_cons, evs_nil, enGet_0, enGet_s, bnd_ok, optp_some, opt2p_some, hold_val, hold_new, hold_bor, rvW_val, rvW_new, esc_val, esc_new, slOf_val, slOf_new, retR_val, retR_new, blR_bl, intR_int, toR_ok, thn_nx, thn_rt, end_nx, end_rt, List.set_cons_succ, List.set_cons_zero, List.length_cons, List.length_nil, Nat.zero_add, Nat.reduceAdd, if_true, if_false, Bool.false_eq_true, Bool.not_true, Bool.not_false, decide_true, decide_false, raise_st, thn_ex, end_ex, bnd_exR, toR_exR, emp_S, zero_S, e0, e1, e2, ix, oc, ne1, ev_lst, l0, i1, Bool.true_and, Bool.and_true, Bool.false_and, Bool.and_false])
theorem is_number_run (hf : fs[f]? = some ⟨1, 2, b_law_is_number_v1⟩) (ha : OkT a) (hl : a.length ≤ 10000) :
    callN fs gl N (k + 1) f [.str (SX.S a)] m = .ok (.val (.bl (numOk a))) m := by
  rw [call_at hf rfl]
  have oc := offs_lit (cs := callN fs gl N k) (gl := gl) (m := m) (a := a) hl
  have l0 : (0 : Nat) ≤ LIM := by decide
  have o0 : OkT [] := fun c hc => by cases hc
  have o1 : OkT [48] := fun c hc => by rw [List.mem_singleton] at hc; subst hc; decide
  have ne1 : ∀ en, cmpR .ne en m (.val (.lst ((a.filter fun c => !isFig c).map encC))) (.val (.lst [])) = some (!a.all isFig) := fun en => ne_offs ha
  change endR (sv (callN fs gl N k) gl N b_law_is_number_v1 [some (.val (.str (SX.S a))), none] m) = _
  unfold b_law_is_number_v1
  by_cases h0 : a = []
  · subst h0
    have e0 : ∀ en, cmpR .eq en m (.val (.str (SX.S []))) (.val (.str (SX.S []))) = some true := fun en => eq_S o0 o0
    simp only [sv_seq, sv_iff, sv_asg, sv_ret, sv_retn, sv_skip, sv_ex, sv_unp, ev_var, ev_int, ev_bl, ev_non, ev_str, ev_bin, ev_neg, ev_cmp, ev_chain, ev_not, ev_ite, ev_idx, ev_call, ev_blt, evl_1, evl_2, ev_and, ev_or, evAnd_1, evAnd_2, evOr_1, evOr_2, ev_fld, ev_box, boxR_new, evs_cons, evs_nil, enGet_0, enGet_s, bnd_ok, optp_some, opt2p_some, hold_val, hold_new, hold_bor, rvW_val, rvW_new, esc_val, esc_new, slOf_val, slOf_new, retR_val, retR_new, blR_bl, intR_int, toR_ok, thn_nx, thn_rt, end_nx, end_rt, List.set_cons_succ, List.set_cons_zero, List.length_cons, List.length_nil, Nat.zero_add, Nat.reduceAdd, if_true, if_false, Bool.false_eq_true, Bool.not_true, Bool.not_false, decide_true, decide_false, emp_S, e0]
    rfl
  · obtain ⟨c, r, rfl⟩ : ∃ c r, a = c :: r := by cases a with
      | nil => exact absurd rfl h0
      | cons c r => exact ⟨c, r, rfl⟩
    have e0 : ∀ en, cmpR .eq en m (.val (.str (SX.S (c :: r)))) (.val (.str (SX.S []))) = some false := fun en => by rw [eq_S ha o0]; simp
    have e1 : ∀ en, cmpR .eq en m (.val (.str (SX.S (c :: r)))) (.val (.str (SX.S [48]))) = some (decide (c = 48) && r.isEmpty) := fun en => by
      rw [eq_S ha o1]
      congr 1
      cases r with
      | nil => simp
      | cons d r => simp
    have ix : ∀ en, idxR en m (.val (.str (SX.S (c :: r)))) (.val (.int 0)) = some (.str (SX.S [c])) := fun en => by
      rw [idx_S (by unfold LIM; omega), at_0]; rfl
    have oc1 : OkT [c] := fun z hz => by rw [List.mem_singleton] at hz; subst hz; exact ha z List.mem_cons_self
    have e2 : ∀ en, cmpR .ne en m (.val (.str (SX.S [c]))) (.val (.str (SX.S [48]))) = some (!decide (c = 48)) := fun en => by
      rw [ne_S oc1 o1]; congr 2; exact decide_eq_decide.mpr (by simp)
    have nk : numOk (c :: r) = ((!decide (c = 48) || r.isEmpty) && (c :: r).all isFig) := rfl
    generalize (c :: r).all isFig = AF at *
    generalize ((c :: r).filter fun c => !isFig c).map encC = OF at *
    generalize r.isEmpty = RE at *
    generalize numOk (c :: r) = NO at *
    generalize SX.S (c :: r) = A_ at *
    generalize decide (c = 48) = C48 at *
    cases C48 <;> cases RE <;> cases AF <;> (simp only [Bool.not_true, Bool.not_false, Bool.true_and, Bool.false_and, Bool.or_true, Bool.or_false, Bool.true_or, Bool.false_or] at nk; subst nk; simp only [sv_seq, sv_iff, sv_asg, sv_ret, sv_retn, sv_skip, sv_ex, sv_unp, ev_var, ev_int, ev_bl, ev_non, ev_str, ev_bin, ev_neg, ev_cmp, ev_chain, ev_not, ev_ite, ev_idx, ev_call, ev_blt, evl_1, evl_2, ev_and, ev_or, evAnd_1, evAnd_2, evOr_1, evOr_2, ev_fld, ev_box, boxR_new, evs_cons, evs_nil, enGet_0, enGet_s, bnd_ok, optp_some, opt2p_some, hold_val, hold_new, hold_bor, rvW_val, rvW_new, esc_val, esc_new, slOf_val, slOf_new, retR_val, retR_new, blR_bl, intR_int, toR_ok, thn_nx, thn_rt, end_nx, end_rt, List.set_cons_succ, List.set_cons_zero, List.length_cons, List.length_nil, Nat.zero_add, Nat.reduceAdd, if_true, if_false, Bool.false_eq_true, Bool.not_true, Bool.not_false, decide_true, decide_false, emp_S, zero_S, e0, e1, e2, ix, oc, ne1, ev_lst, l0, Bool.true_and, Bool.and_true, Bool.false_and, Bool.and_false])
end
end Mp
set_option Elab.async false
set_option linter.all false
namespace Mp
noncomputable def b_law_v42 (c_Reader___init__ : Nat) (c_Writer___init__ : Nat) (c_first_unlike_sum : Nat) (c_law_cell_at : Nat) (c_law_numbers : Nat) (c_law_order_right : Nat) (c_law_prime : Nat) (c_law_puts : Nat) (c_law_shuffled : Nat) (c_law_table : Nat) (c_places_unlike : Nat) (ci_Reader : Nat) (ci_Writer : Nat) (mt_come : List (Nat × Nat)) (mt_letter : List (Nat × Nat)) (mt_made : List (Nat × Nat)) (mt_put : List (Nat × Nat)) (mt_table : List (Nat × Nat)) : S := (.seq (.asg 1 (.call c_law_numbers 3 (.cons (.call c_law_cell_at 2 (.cons (.var 0) (.cons (.int 0) .nil))) (.cons (.int 12) (.cons (.int 5040) .nil)))))
  (.seq (.asg 2 (.call c_law_numbers 3 (.cons (.call c_law_cell_at 2 (.cons (.var 0) (.cons (.int 1) .nil))) (.cons (.int 12) (.cons (.int 5040) .nil)))))
  (.seq (.asg 3 (.call c_law_prime 1 (.cons (.var 1) .nil)))
  (.seq (.asg 4 (.call c_law_table 3 (.cons (.var 1) (.cons (.var 3) (.cons (.int 12) .nil)))))
  (.seq (.asg 5 (.make ci_Writer c_Writer___init__ 2 (.cons (.var 3) (.cons (.var 4) .nil))))
  (.seq (.for_ .list (.cons (.call c_law_puts 4 (.cons (.var 0) (.cons (.int 2) (.cons (.var 4) (.cons (.var 3) .nil))))) .nil) (.many [6, 7]) (.seq (.ex (.mcall (.var 5) "put" mt_put 2 (.cons (.var 6) (.cons (.var 7) .nil))))
  .skip))
  (.seq (.asg 8 (.mcall (.var 5) "made" mt_made 0 .nil))
  (.seq (.asg 9 (.lst (.cons (.lrng2 (.int 1) (.bin .add (.var 8) (.int 1))) (.cons (.lrng3 (.var 8) (.int 0)) .nil))))
  (.seq (.for_ .rng1 (.cons (.int 3) .nil) (.one 10) (.seq (.asg 11 (.call c_law_shuffled 2 (.cons (.bin .add (.slc (.var 2) (.var 10) .nil) (.slc (.var 2) .nil (.var 10))) (.cons (.var 8) .nil))))
  (.seq (.app (.var 9) (.bin .add (.var 11) (.slc (.var 11) .nil (.var 10))))
  .skip)))
  (.seq (.iff (.not (.blt .all (.cons (.comp .list (.cons (.var 9) .nil) (.one 12) [12] .nil (.call c_law_order_right 4 (.cons (.var 5) (.cons (.var 4) (.cons (.var 3) (.cons (.var 12) .nil)))))) .nil))) (.seq (.ret (.bl false))
  .skip) .skip)
  (.seq (.iff (.cmp .eq (.var 8) (.int 0)) (.seq (.ret (.bl true))
  .skip) .skip)
  (.seq (.asg 13 (.make ci_Reader c_Reader___init__ 2 (.cons (.var 3) (.cons (.var 4) .nil))))
  (.seq (.for_ .list (.cons (.idx (.var 9) (.int 2)) .nil) (.one 14) (.seq (.iff (.cmp .lt (.var 14) (.var 8)) (.seq (.ex (.mcall (.var 13) "come" mt_come 1 (.cons (.mcall (.var 5) "letter" mt_letter 1 (.cons (.var 14) .nil)) .nil)))
  .skip) .skip)
  .skip))
  (.seq (.asg 15 (.call c_places_unlike 3 (.cons (.mcall (.var 5) "table" mt_table 0 .nil) (.cons (.mcall (.var 13) "table" mt_table 0 .nil) (.cons (.var 3) .nil)))))
  (.seq (.iff (.cmp .nmem (.var 15) (.tup (.cons (.lst .nil) (.cons (.lst (.cons (.idx (.mcall (.var 5) "letter" mt_letter 1 (.cons (.var 8) .nil)) (.int 1)) .nil)) .nil)))) (.seq (.ret (.bl false))
  .skip) .skip)
  (.seq (.ret (.cmp .eq (.call c_first_unlike_sum 3 (.cons (.mcall (.var 5) "table" mt_table 0 .nil) (.cons (.mcall (.var 13) "table" mt_table 0 .nil) (.cons (.var 3) .nil)))) (.idx (.lst (.cons .non (.cons (.int 0) .nil))) (.blt .len (.cons (.var 15) .nil)))))
  .skip))))))))))))))))
noncomputable def b_law_order_right (c_Reader___init__ : Nat) (ci_Reader : Nat) (mt_asks : List (Nat × Nat)) (mt_come : List (Nat × Nat)) (mt_letter : List (Nat × Nat)) (mt_made : List (Nat × Nat)) (mt_mend_none : List (Nat × Nat)) (mt_missing : List (Nat × Nat)) (mt_table : List (Nat × Nat)) : S := (.seq (.asg 4 (.make ci_Reader c_Reader___init__ 2 (.cons (.var 2) (.cons (.var 1) .nil))))
  (.seq (.asg 5 (.comp .list (.cons (.var 3) .nil) (.one 6) [6] .nil (.mcall (.var 4) "come" mt_come 1 (.cons (.mcall (.var 0) "letter" mt_letter 1 (.cons (.var 6) .nil)) .nil))))
  (.seq (.asg 7 (.mcall (.var 0) "made" mt_made 0 .nil))
  (.seq (.iff (.or (.cons (.cmp .ne (.mcall (.var 4) "table" mt_table 0 .nil) (.mcall (.var 0) "table" mt_table 0 .nil)) (.cons (.cmp .ne (.mcall (.var 4) "missing" mt_missing 1 (.cons (.var 7) .nil)) (.lst .nil)) (.cons (.cmp .ne (.mcall (.var 4) "asks" mt_asks 1 (.cons (.var 7) .nil)) (.tup (.cons (.str "none") .nil))) .nil)))) (.seq (.ret (.bl false))
  .skip) .skip)
  (.seq (.iff (.cmp .ne (.bin .add (.mth .count (.var 5) (.cons (.str "taken") .nil)) (.mth .count (.var 5) (.cons (.str "late") .nil))) (.var 7)) (.seq (.ret (.bl false))
  .skip) .skip)
  (.seq (.iff (.cmp .eq (.var 3) (.lrng3 (.var 7) (.int 0))) (.seq (.asg 8 (.comp .list (.cons (.var 3) .nil) (.one 6) [6] .nil (.idx (.mcall (.var 0) "letter" mt_letter 1 (.cons (.var 6) .nil)) (.int 1))))
  (.seq (.iff (.cmp .ne (.mth .count (.var 5) (.cons (.str "taken") .nil)) (.lset (.var 8))) (.seq (.ret (.bl false))
  .skip) .skip)
  .skip)) .skip)
  (.seq (.ret (.and (.cons (.cmp .eq (.mcall (.var 4) "mend_none" mt_mend_none 1 (.cons (.var 7) .nil)) (.lst .nil)) (.cons (.cmp .eq (.mcall (.var 4) "table" mt_table 0 .nil) (.mcall (.var 0) "table" mt_table 0 .nil)) .nil))))
  .skip)))))))
noncomputable def b_law_shuffled : S := (.seq (.asg 2 (.lrng2 (.int 1) (.bin .add (.var 1) (.int 1))))
  (.seq (.asg 3 (.lst .nil))
  (.seq (.whl (.cmp .ne (.var 2) (.lst .nil)) (.seq (.app (.var 3) (.mth .pop (.var 2) (.cons (.bin .mod (.idx (.var 0) (.bin .mod (.blt .len (.cons (.var 3) .nil)) (.blt .len (.cons (.var 0) .nil)))) (.blt .len (.cons (.var 2) .nil))) .nil)))
  .skip))
  (.seq (.ret (.var 3))
  .skip))))
end Mp
set_option Elab.async false
set_option linter.all false
set_option maxRecDepth 100000
set_option maxHeartbeats 4000000
/-! numbers, tables, letters, runs as texts -/
namespace Mp
open PySem PySem.Spec PyProof.Rows L2
noncomputable def numT (i : Int) : List Nat := TL.numL i.toNat
theorem numL_ok (n : Nat) : OkT (TL.numL n) := fun c hc => by
  have := TL.numL_digits n c hc
  have h : 48 ≤ c ∧ c ≤ 57 := by simpa using this
  omega
theorem numT_ok (i : Int) : OkT (numT i) := numL_ok _
theorem numT_len {i : Int} (h : i < 10 ^ 20) : (numT i).length ≤ 20 := TL.numL_len (by decide) (by
  have : (i.toNat : Int) < 10 ^ 20 := by
    by_cases c : 0 ≤ i
    · rw [Int.toNat_of_nonneg c]; exact h
    · have : i.toNat = 0 := by omega
      rw [this]; decide
  exact_mod_cast this)
theorem joinL_ok {S : List Nat} (hS : OkT S) : ∀ {ps : List (List Nat)}, (∀ p ∈ ps, OkT p) → OkT (TL.joinL S ps)
  | [], _ => fun c hc => by cases hc
  | [p], h => h p List.mem_cons_self
  | p :: q :: r, h => by
    have ih := joinL_ok hS (ps := q :: r) fun z hz => h z (List.mem_cons_of_mem _ hz)
    have e : TL.joinL S (p :: q :: r) = p ++ S ++ TL.joinL S (q :: r) := by simp [TL.joinL]
    rw [e]
    exact ((h p List.mem_cons_self).app hS).app ih
theorem enGet_set {en : En} {j : Nat} {s : Sl} (h : j < en.length) : enGet (en.set j (some s)) j = some s := by
  unfold enGet
  rw [List.getElem?_set_self h]; rfl
theorem sum_le_of {B : Nat} : ∀ {ps : List (List Nat)}, (∀ p ∈ ps, p.length ≤ B) → (ps.map (·.length)).sum ≤ ps.length * B
  | [], _ => by simp
  | p :: r, h => by
    have ih := sum_le_of (ps := r) fun z hz => h z (List.mem_cons_of_mem _ hz)
    have := h p List.mem_cons_self
    simp only [List.map_cons, List.sum_cons, List.length_cons]
    rw [Nat.add_mul, Nat.one_mul]
    omega
noncomputable def SmI (i : Int) : Prop := 0 ≤ i ∧ i < 10 ^ 20
theorem SmI.num {i : Int} (h : SmI i) {m : Sto} : bltR .str m [.int i] = some (.val (.str (SX.S (numT i)))) := by
  have e : i = (i.toNat : Int) := (Int.toNat_of_nonneg h.1).symm
  unfold numT
  have hl : i.toNat < 10 ^ 200 := by
    have h2 := h.2
    have : (i.toNat : Int) < 10 ^ 20 := by omega
    have : i.toNat < 10 ^ 20 := by exact_mod_cast this
    exact Nat.lt_of_lt_of_le this (by decide)
  conv => lhs; rw [e]
  exact str_S i.toNat hl
section
variable {cs : Nat → List W → Sto → CR} {fs : List Fd} {gl : List W} {N k f g x : Nat} {m : Sto} {en : En} {a : List Nat}
end
end Mp
set_option Elab.async false
set_option linter.all false
set_option maxRecDepth 100000
set_option maxHeartbeats 4000000
/-! letters and runs as texts -/
namespace Mp
open PySem PySem.Spec PyProof.Rows L2
noncomputable def wPut : List Nat := [112, 117, 116]
noncomputable def wBring : List Nat := [98, 114, 105, 110, 103]
noncomputable def wMend : List Nat := [109, 101, 110, 100]
section
variable {cs : Nat → List W → Sto → CR} {fs : List Fd} {gl : List W} {N k f g x : Nat} {m : Sto} {en : En} {a : List Nat}
theorem part_ev {x y : E} {en2 en3 : En} {m2 m3 : Sto} {s : Nat} {p q : List Nat} (h1 : ev cs gl x en m = .ok (.val (.str (SX.S (p ++ ([s] ++ q))))) en2 m2) (h2 : ev cs gl y en2 m2 = .ok (.val (.str (SX.S [s]))) en3 m3) (hf : s ∉ p) (hl : (p ++ ([s] ++ q)).length ≤ 10000) :
    ev cs gl (.mth .part x y) en m = .ok (.val (.tup [.str (SX.S p), .str (SX.S [s]), .str (SX.S q)])) en3 m3 := by
  have e := SX.partition_some (a := p ++ ([s] ++ q)) (b := [s]) (p := p) (q := q) (by simp) (SX.par_head q hf)
  simp only [ev, h1, bind_okR, rvW_val, Option.bind_some, strW, opt_someR, h2]
  rw [if_pos ⟨rfl, by rw [SX.S_len]; unfold LIM; omega⟩, e]
end
end Mp
set_option Elab.async false
set_option linter.all false
set_option maxRecDepth 100000
set_option maxHeartbeats 4000000
/-! runs read -/
namespace Mp
open PySem PySem.Spec PyProof.Rows L2
section
variable {cs : Nat → List W → Sto → CR} {fs : List Fd} {gl : List W} {N k f g x : Nat} {m : Sto} {en : En} {a : List Nat}
theorem oS {a : List Nat} (h : a.all (fun c => decide (c < 128)) = true) : OkT a := fun c hc => by
  have := List.all_eq_true.mp h c hc
  simpa using this
end
end Mp
set_option Elab.async false
set_option linter.all false
namespace Mp
noncomputable def b_law_v49 (c_law_changed c_law_deck c_law_letter_due c_law_number c_law_odd c_law_table_due c_law_take c_law_told c_read_letter c_read_table : Nat) : S := (.seq (.for_ .list (.cons (.bin .add (.lst (.cons (.bin .pow (.int 10) (.int 18)) .nil)) (.slc (.var 0) .nil (.int 20))) .nil) (.one 1) (.seq (.asg 2 (.box (.call c_law_deck 1 (.cons (.var 1) .nil))))
  (.seq (.asg 3 (.mth .join (.str " ") (.comp .rng1 (.cons (.bin .add (.int 1) (.call c_law_take 2 (.cons (.var 2) (.cons (.int 6) .nil)))) .nil) (.one 4) [4] .nil (.blt .str (.cons (.call c_law_number 1 (.cons (.var 2) .nil)) .nil)))))
  (.seq (.iff (.cmp .eq (.call c_law_take 2 (.cons (.var 2) (.cons (.int 8) .nil))) (.int 3)) (.seq (.asg 3 (.mth .join (.str " ") (.comp .rng1 (.cons (.bin .add (.int 7) (.call c_law_take 2 (.cons (.var 2) (.cons (.int 33) .nil)))) .nil) (.one 4) [4] .nil (.blt .str (.cons (.call c_law_take 2 (.cons (.var 2) (.cons (.int 12) .nil))) .nil)))))
  .skip) .skip)
  (.seq (.asg 5 (.blt .str (.cons (.bin .add (.int 1) (.call c_law_take 2 (.cons (.var 2) (.cons (.idx (.lst (.cons (.int 99) (.cons (.bin .pow (.int 10) (.int 17)) .nil))) (.call c_law_take 2 (.cons (.var 2) (.cons (.int 2) .nil)))) .nil)))) .nil)))
  (.seq (.asg 5 (.bin .add (.bin .add (.bin .add (.bin .add (.var 5) (.str ":")) (.blt .str (.cons (.call c_law_number 1 (.cons (.var 2) .nil)) .nil))) (.str "=")) (.blt .str (.cons (.call c_law_number 1 (.cons (.var 2) .nil)) .nil))))
  (.seq (.asg 6 (.lst (.cons (.call c_law_changed 2 (.cons (.var 2) (.cons (.var 3) .nil))) (.cons (.call c_law_changed 2 (.cons (.var 2) (.cons (.var 5) .nil))) (.cons (.call c_law_odd 1 (.cons (.var 2) .nil)) (.cons (.call c_law_odd 1 (.cons (.var 2) .nil)) .nil))))))
  (.seq (.asg 6 (.bin .add (.var 6) (.lst (.cons (.call c_law_changed 2 (.cons (.var 2) (.cons (.call c_law_changed 2 (.cons (.var 2) (.cons (.var 5) .nil))) .nil))) (.cons (.var 3) (.cons (.var 5) .nil))))))
  (.seq (.for_ .list (.cons (.var 6) .nil) (.one 7) (.seq (.iff (.cmp .ne (.call c_law_told 2 (.cons (.fnv c_read_table) (.cons (.var 7) .nil))) (.call c_law_table_due 1 (.cons (.var 7) .nil))) (.seq (.ret (.bl false))
  .skip) .skip)
  (.seq (.iff (.cmp .ne (.call c_law_told 2 (.cons (.fnv c_read_letter) (.cons (.var 7) .nil))) (.call c_law_letter_due 1 (.cons (.var 7) .nil))) (.seq (.ret (.bl false))
  .skip) .skip)
  .skip)))
  .skip)))))))))
  (.seq (.ret (.bl true))
  .skip))
noncomputable def b_law_letter_due (c_law_is_number : Nat) : S := (.seq (.rsp 1 0 "=" ":" ":")
  (.seq (.iff (.or (.cons (.cmp .ne (.tcnt (.var 0) (.str ":")) (.int 1)) (.cons (.cmp .ne (.tcnt (.var 0) (.str "=")) (.int 1)) (.cons (.cmp .gt (.tidx (.var 0) (.str ":")) (.tidx (.var 0) (.str "="))) .nil)))) (.seq (.ret .non)
  .skip) .skip)
  (.seq (.iff (.or (.cons (.cmp .ne (.comp .list (.cons (.var 1) .nil) (.one 2) [2] (.not (.call c_law_is_number 1 (.cons (.var 2) .nil))) (.var 2)) (.lst .nil)) (.cons (.cmp .eq (.idx (.var 1) (.int 0)) (.str "0")) .nil))) (.seq (.ret .non)
  .skip) .skip)
  (.seq (.ret (.tupl (.comp .list (.cons (.var 1) .nil) (.one 2) [2] .nil (.blt .int (.cons (.var 2) .nil)))))
  .skip))))
noncomputable def b_law_table_due (c_law_is_number : Nat) : S := (.seq (.asg 1 (.mth .split (.var 0) (.str " ")))
  (.seq (.iff (.cmp .ne (.comp .list (.cons (.var 1) .nil) (.one 2) [2] (.not (.call c_law_is_number 1 (.cons (.var 2) .nil))) (.var 2)) (.lst .nil)) (.seq (.ret .non)
  .skip) .skip)
  (.seq (.ret (.comp .list (.cons (.var 1) .nil) (.one 2) [2] .nil (.blt .int (.cons (.var 2) .nil))))
  .skip)))
noncomputable def b_law_told_v4 (fv_1 : List Nat) (xs_CopyError : List Nat) (xt_NoForm_NoLetter_NoMend_NoNumber_NoPlace_NoPrime_NoRun_NoSums_NoTable : List Bool) (xt_NoText : List Bool) (xt_ValueError : List Bool) : S := (.seq (.asg 2 .non)
  (.seq (.asg 3 .non)
  (.seq (.tryx (.seq (.asg 3 (.callv 0 1 fv_1 (.cons (.var 1) .nil)))
  .skip) xs_CopyError 4 (.seq (.asg 2 (.var 4))
  .skip))
  (.seq (.iff (.cmp .is (.var 2) .non) (.seq (.ret (.var 3))
  .skip) .skip)
  (.seq (.iff (.isx (.var 2) xt_NoForm_NoLetter_NoMend_NoNumber_NoPlace_NoPrime_NoRun_NoSums_NoTable) (.seq (.ret (.str "other"))
  .skip) .skip)
  (.seq (.ret (.idx (.lst (.cons (.str "other") (.cons .non .nil))) (.blt .int (.cons (.and (.cons (.isx (.var 2) xt_NoText) (.cons (.isx (.var 2) xt_ValueError) .nil))) .nil))))
  .skip))))))
noncomputable def b_read_letter_v1 (c_read_from_one c_read_number x_NoText : Nat) : S := (.seq (.unp (.many [1, 2, 3]) (.mth .part (.var 0) (.str ":")))
  (.seq (.unp (.many [4, 5, 6]) (.mth .part (.var 3) (.str "=")))
  (.seq (.iff (.or (.cons (.cmp .eq (.var 2) (.str "")) (.cons (.cmp .eq (.var 5) (.str "")) .nil))) (.seq (.raise x_NoText)
  .skip) .skip)
  (.seq (.ret (.tup (.cons (.call c_read_from_one 1 (.cons (.var 1) .nil)) (.cons (.call c_read_number 1 (.cons (.var 4) .nil)) (.cons (.call c_read_number 1 (.cons (.var 6) .nil)) .nil)))))
  .skip))))
noncomputable def b_read_table_v1 (c_read_number : Nat) : S := (.seq (.ret (.compx .list (.cons (.mth .split (.var 0) (.str " ")) .nil) (.one 1) [1] .nil (.call c_read_number 1 (.cons (.var 1) .nil))))
  .skip)
end Mp
set_option Elab.async false
set_option linter.all false
set_option maxRecDepth 100000
set_option maxHeartbeats 4000000
/-! texts of any kind read: numbers, or not -/
namespace Mp
open PySem PySem.Spec PyProof.Rows L2
noncomputable def mapE {A B : Type} (g : A → Except Nat B) : List A → Except Nat (List B)
  | [] => .ok []
  | a :: r => match g a with
    | .error q => .error q
    | .ok b => match mapE g r with
      | .error q => .error q
      | .ok bs => .ok (b :: bs)
noncomputable def exR (g : Except Nat W) (m : Sto) : CR := match g with
  | .ok w => .ok (.val w) m
  | .error q => .ex q m
section
variable {cs : Nat → List W → Sto → CR} {fs : List Fd} {gl : List W} {N k f g x : Nat} {m : Sto} {en : En} {a : List Nat}
theorem clx_call {A : Type} (enc : A → W) (g : A → Except Nat W) {f j : Nat} {ck : List (Nat × List W)} (hck : chk ck m = true) (hw : ∀ w, wipeE (en.set j (some (.val w))) [j] = en) (hj : j < en.length) : ∀ {zs : List A}, (∀ z ∈ zs, cs f [enc z] m = exR (g z) m) →
    compLx (chk ck) (compFx (.one j) [j] (isNil .nil) (fun en m => ev cs gl .nil en m) (fun en m => ev cs gl (.call f 1 (.cons (.var j) .nil)) en m)) (zs.map enc) en m = match mapE g zs with
      | .ok ws => .ok ws en m
      | .error q => .ex q en m
  | [], _ => by
    simp only [List.map_nil, compLx, mapE, hck, if_true]
  | z :: r, h => by
    have ih := clx_call enc g hck hw hj (zs := r) fun y hy => h y (List.mem_cons_of_mem _ hy)
    have hz := h z List.mem_cons_self
    have eg : enGet (en.set j (some (.val (enc z)))) j = some (.val (enc z)) := enGet_set hj
    have e1 : ev cs gl (.call f 1 (.cons (.var j) .nil)) (en.set j (some (.val (enc z)))) m = (exR (g z) m).toR (en.set j (some (.val (enc z)))) := by
      rw [ev_call, evs_cons, ev_var, eg]
      show bnd (bnd (Mp.R.ok (RV.val (enc z)) _ _) _ _) _ _ = _
      rw [bnd_ok, esc_val, opt2p_some, evs_nil, bnd_ok, bnd_ok, if_pos (show [enc z].length = 1 from rfl), hz]
    have nz : isNil .nil = true := rfl
    rw [List.map_cons]
    unfold compLx
    rw [if_pos hck]
    have ft : compFx (.one j) [j] (isNil .nil) (fun en m => ev cs gl .nil en m) (fun en m => ev cs gl (.call f 1 (.cons (.var j) .nil)) en m) (enc z) en m = match g z with
        | .ok w => .ok (some w) en m
        | .error q => .ex q en m := by
      unfold compFx
      have bt : bindT (.one j) (enc z) m en = some (en.set j (some (.val (enc z)))) := rfl
      rw [bt, opt_someR, nz, if_pos rfl, bind_okR, if_pos rfl]
      dsimp only
      rw [e1]
      cases g z with
      | ok w =>
        show opt2 (esc (.val w) _) _ = _
        rw [show esc (.val w) (en.set j (some (.val (enc z)))) = some (w, en.set j (some (.val (enc z)))) from rfl]
        show Mp.R.ok (some w) (wipeE (en.set j (some (.val (enc z)))) [j]) m = _
        rw [hw]
      | error q =>
        show Mp.R.ex q (wipeE (en.set j (some (.val (enc z)))) [j]) m = _
        rw [hw]
    rw [ft]
    simp only [mapE]
    cases g z with
    | error q => rfl
    | ok w =>
      dsimp only
      rw [bind_okR, ih]
      cases mapE g r <;> rfl
theorem ev_compx {it : It} {src c elt : E} {tg : Tg} {js : List Nat} : ev cs gl (.compx it src tg js c elt) en m = (evs cs gl src en m).bind fun ws en m => opt2 (itemsR it m ws) fun zs ck =>
      if zs.length ≤ LIM then
        (compLx (chk ck) (compFx tg js (isNil c) (fun en m => ev cs gl c en m) (fun en m => ev cs gl elt en m)) zs (wipeE (frzE en js) js) m).rest (frzE en js) js
      else .bad := by simp only [ev]
theorem compx_call {A : Type} (enc : A → W) (g : A → Except Nat W) {f j : Nat} {src : E} {zs : List A} (hs : evs cs gl src en m = .ok [.lst (zs.map enc)] en m) (h : ∀ z ∈ zs, cs f [enc z] m = exR (g z) m) (hl : zs.length ≤ LIM) (hw : ∀ w, wipeE (en.set j (some (.val w))) [j] = en) (hf : wipeE (frzE en [j]) [j] = en) (hr : restE (frzE en [j]) en [j] = en) (hj : j < en.length) :
    ev cs gl (.compx .list src (.one j) [j] .nil (.call f 1 (.cons (.var j) .nil))) en m = match mapE g zs with
      | .ok ws => .ok (.new ws) en m
      | .error q => .ex q en m := by
  have q := clx_call (cs := cs) (gl := gl) (m := m) (ck := []) enc g (f := f) rfl hw hj h
  have it : itemsR .list m [.lst (zs.map enc)] = some (zs.map enc, []) := rfl
  rw [ev_compx, hs, bind_okR, it]
  show (if (zs.map enc).length ≤ LIM then _ else _) = _
  rw [if_pos (by rw [List.length_map]; exact hl), hf]
  rw [q]
  cases mapE g zs with
  | ok ws => show Mp.R.ok (RV.new ws) (restE (frzE en [j]) en [j]) m = _; rw [hr]
  | error q => show Mp.R.ex q (restE (frzE en [j]) en [j]) m = _; rw [hr]
noncomputable def numE (x : Nat) (a : List Nat) : Except Nat W := if numOk a then .ok (.int ((NumText.digitsVal a : Nat) : Int)) else .error x
noncomputable def oneE (x : Nat) (a : List Nat) : Except Nat W := if numOk a && !decide (a = [48]) then .ok (.int ((NumText.digitsVal a : Nat) : Int)) else .error x
theorem numE_run (hf : fs[f]? = some ⟨1, 2, b_read_number_v1 g x⟩) (hg : gl[g]? = some (.str "0123456789")) (ha : OkT a) (hl : a.length ≤ 640) :
    callN fs gl N (k + 1) f [.str (SX.S a)] m = exR (numE x a) m := by
  rw [read_number_run hf hg ha hl]
  unfold numE
  cases numOk a <;> rfl
theorem val_ge : ∀ (r : List Nat) (acc : Nat), acc ≤ r.foldl (fun acc c => acc * 10 + (c - 48)) acc
  | [], acc => Nat.le_refl _
  | c :: r, acc => by
    rw [List.foldl_cons]
    exact Nat.le_trans (by omega) (val_ge r _)
theorem val_zero {a : List Nat} (h : numOk a = true) : NumText.digitsVal a < 1 ↔ a = [48] := by
  constructor
  · intro hv
    cases a with
    | nil => cases h
    | cons c r =>
      have nk : ((!decide (c = 48) || r.isEmpty) && (c :: r).all isFig) = true := h
      rw [Bool.and_eq_true] at nk
      by_cases hc : c = 48
      · subst hc
        have := nk.1
        cases r with
        | nil => rfl
        | cons d r => simp at this
      · exfalso
        have h1 := List.all_eq_true.mp nk.2 c List.mem_cons_self
        rw [isFig_iff, Bool.and_eq_true, decide_eq_true_eq, decide_eq_true_eq] at h1
        have := val_ge r (0 * 10 + (c - 48))
        have e : NumText.digitsVal (c :: r) = r.foldl (fun acc c => acc * 10 + (c - 48)) (0 * 10 + (c - 48)) := rfl
        omega
  · intro e
    subst e
    decide
theorem oneE_run {c : Nat} (hf : fs[f]? = some ⟨1, 2, b_read_from_one_v1 c x⟩) (hc : fs[c]? = some ⟨1, 2, b_read_number_v1 g x⟩) (hg : gl[g]? = some (.str "0123456789")) (ha : OkT a) (hl : a.length ≤ 640) :
    callN fs gl N (k + 2) f [.str (SX.S a)] m = exR (oneE x a) m := by
  rw [call_at hf rfl]
  have c1 := read_number_run (k := k) (N := N) (m := m) hc hg ha hl
  change endR (sv (callN fs gl N (k + 1)) gl N (b_read_from_one_v1 c x) [some (.val (.str (SX.S a))), none] m) = _
  unfold b_read_from_one_v1
  unfold oneE
  have vz := val_zero (a := a)
  generalize NumText.digitsVal a = DV at *
  generalize SX.S a = A_ at *
  cases hk : numOk a with
  | false =>
    rw [hk, if_neg (by decide)] at c1
    simp only [sv_seq, sv_iff, sv_asg, sv_ret, sv_retn, sv_skip, sv_ex, sv_unp, ev_var, ev_int, ev_bl, ev_non, ev_str, ev_bin, ev_neg, ev_cmp, ev_chain, ev_not, ev_ite, ev_idx, ev_call, ev_blt, evl_1, evl_2, ev_and, ev_or, evAnd_1, evAnd_2, evOr_1, evOr_2, ev_fld, ev_box, boxR_new, evs_cons, evs_nil, enGet_0, enGet_s, bnd_ok, optp_some, opt2p_some, hold_val, hold_new, hold_bor, rvW_val, rvW_new, esc_val, esc_new, slOf_val, slOf_new, retR_val, retR_new, blR_bl, intR_int, toR_ok, thn_nx, thn_rt, end_nx, end_rt, List.set_cons_succ, List.set_cons_zero, List.length_cons, List.length_nil, Nat.zero_add, Nat.reduceAdd, if_true, if_false, Bool.false_eq_true, Bool.not_true, Bool.not_false, decide_true, decide_false, raise_st, thn_ex, end_ex, bnd_exR, toR_exR, c1, Bool.false_and]
    rfl
  | true =>
    rw [hk, if_pos rfl] at c1
    have vz := vz hk
    by_cases hz : a = [48]
    · have c2 : decide ((DV : Int) < 1) = true := decide_eq_true (by have := vz.mpr hz; omega)
      have c3 : decide (a = [48]) = true := decide_eq_true hz
      simp only [sv_seq, sv_iff, sv_asg, sv_ret, sv_retn, sv_skip, sv_ex, sv_unp, ev_var, ev_int, ev_bl, ev_non, ev_str, ev_bin, ev_neg, ev_cmp, ev_chain, ev_not, ev_ite, ev_idx, ev_call, ev_blt, evl_1, evl_2, ev_and, ev_or, evAnd_1, evAnd_2, evOr_1, evOr_2, ev_fld, ev_box, boxR_new, evs_cons, evs_nil, enGet_0, enGet_s, bnd_ok, optp_some, opt2p_some, hold_val, hold_new, hold_bor, rvW_val, rvW_new, esc_val, esc_new, slOf_val, slOf_new, retR_val, retR_new, blR_bl, intR_int, toR_ok, thn_nx, thn_rt, end_nx, end_rt, List.set_cons_succ, List.set_cons_zero, List.length_cons, List.length_nil, Nat.zero_add, Nat.reduceAdd, if_true, if_false, Bool.false_eq_true, Bool.not_true, Bool.not_false, decide_true, decide_false, raise_st, thn_ex, end_ex, bnd_exR, toR_exR, c1, lt_ints, c2, c3, Bool.true_and]
      rfl
    · have c2 : decide ((DV : Int) < 1) = false := decide_eq_false fun e => hz (vz.mp (by omega))
      have c3 : decide (a = [48]) = false := decide_eq_false hz
      simp only [sv_seq, sv_iff, sv_asg, sv_ret, sv_retn, sv_skip, sv_ex, sv_unp, ev_var, ev_int, ev_bl, ev_non, ev_str, ev_bin, ev_neg, ev_cmp, ev_chain, ev_not, ev_ite, ev_idx, ev_call, ev_blt, evl_1, evl_2, ev_and, ev_or, evAnd_1, evAnd_2, evOr_1, evOr_2, ev_fld, ev_box, boxR_new, evs_cons, evs_nil, enGet_0, enGet_s, bnd_ok, optp_some, opt2p_some, hold_val, hold_new, hold_bor, rvW_val, rvW_new, esc_val, esc_new, slOf_val, slOf_new, retR_val, retR_new, blR_bl, intR_int, toR_ok, thn_nx, thn_rt, end_nx, end_rt, List.set_cons_succ, List.set_cons_zero, List.length_cons, List.length_nil, Nat.zero_add, Nat.reduceAdd, if_true, if_false, Bool.false_eq_true, Bool.not_true, Bool.not_false, decide_true, decide_false, raise_st, thn_ex, end_ex, bnd_exR, toR_exR, c1, lt_ints, c2, c3, Bool.true_and]
      rfl
end
end Mp
set_option Elab.async false
set_option linter.all false
set_option maxRecDepth 100000
set_option maxHeartbeats 4000000
/-! a desk: its copies, and what it does -/
namespace Mp
open PySem PySem.Spec PyProof.Rows L2
noncomputable def Ft (d w u j : Nat) : Prop := j = d ∨ (w ≤ j ∧ j < w + 7) ∨ j = u
structure Fr (d w u : Nat) (m m2 : Sto) : Prop where
  len : m.length ≤ m2.length
  at_ : ∀ j, j < m.length → ¬ Ft d w u j → m2[j]? = m[j]?
theorem Fr.refl {d w u : Nat} {m : Sto} : Fr d w u m m := ⟨Nat.le_refl _, fun _ _ _ => rfl⟩
theorem Fr.trans {d w u w2 u2 : Nat} {m m2 m3 : Sto} (h : Fr d w u m m2) (hw : w2 = w ∨ m.length ≤ w2) (hu : u2 = u ∨ m.length ≤ u2) (g : Fr d w2 u2 m2 m3) : Fr d w u m m3 :=
  ⟨Nat.le_trans h.len g.len, fun j hj hn => (g.at_ j (Nat.lt_of_lt_of_le hj h.len) (fun z => hn (by
    rcases z with z | z | z
    · exact .inl z
    · rcases hw with e | e
      · exact .inr (.inl (by omega))
      · omega
    · rcases hu with e | e
      · exact .inr (.inr (by omega))
      · omega))).trans (h.at_ j hj hn)⟩
structure Dsk (cD cW cR d w u : Nat) (p : Int) (tb0 : List Int) (m : Sto) (s : Wk) (ls : List W) : Prop where
  obj : m[d]? = some (.ins cD [("reader", .ref (w + 3)), ("writer", .ref w), ("p", .int p), ("many", .int (s.bl + s.bm))])
  wr : Wr cW m w (w + 1) (w + 2) p (tabAt tb0 s.H s.H.length) ls
  rd : Rdr cR m (w + 3) u (w + 5) (w + 6) p s.tb s.cov (Kd s.ns) s.G
  lt : LetH s.H ls
  hu : u = w + 4 ∨ w + 7 ≤ u
  hd : d < w
section
variable {cs : Nat → List W → Sto → CR} {fs : List Fd} {gl : List W} {N k f : Nat} {m m2 : Sto} {en : En} {cD cW cR d w u : Nat} {p : Int} {tb0 : List Int} {s : Wk} {ls : List W}
theorem Dsk.lu (h : Dsk cD cW cR d w u p tb0 m s ls) : u < m.length := lt_of_get h.rd.wo
theorem Dsk.lw (h : Dsk cD cW cR d w u p tb0 m s ls) : w + 7 ≤ m.length := lt_of_get h.rd.gre
theorem Dsk.du (h : Dsk cD cW cR d w u p tb0 m s ls) : u ≠ d := by have := h.hu; have := h.hd; omega
theorem Dsk.off (h : Dsk cD cW cR d w u p tb0 m s ls) (e : ∀ j, Ft d w u j → m2[j]? = m[j]?) : Dsk cD cW cR d w u p tb0 m2 s ls := by
  have o : ∀ j, w ≤ j → j < w + 7 → m2[j]? = m[j]? := fun j h1 h2 => e j (.inr (.inl ⟨h1, h2⟩))
  exact ⟨(e d (.inl rfl)).trans h.obj, h.wr.off (o _ (by omega) (by omega)) (o _ (by omega) (by omega)) (o _ (by omega) (by omega)), ⟨(o _ (by omega) (by omega)).trans h.rd.obj, (e u (.inr (.inr rfl))).trans h.rd.wo, (o _ (by omega) (by omega)).trans h.rd.kno, (o _ (by omega) (by omega)).trans h.rd.gre, h.rd.ne⟩, h.lt, h.hu, h.hd⟩
theorem Dsk.keep (h : Dsk cD cW cR d w u p tb0 m s ls) (K : Keeps m m2) : Dsk cD cW cR d w u p tb0 m2 s ls := h.off fun j hj => by
  have l1 := h.lu
  have l2 := h.lw
  have l3 := h.hd
  exact K j (by rcases hj with z | z | z <;> omega)
theorem Dsk.put (h : Dsk cD cW cR d w u p tb0 m s ls) {i : Nat} {x : Int} (hi : i < tb0.length) :
    Dsk cD cW cR d w u p tb0 ((m.set (w + 1) (.lst (((tabAt tb0 s.H s.H.length).set i x).map W.int))).set (w + 2) (.lst (ls ++ [letW ls.length i x]))) (stepW tb0 s (.put i x)).1 (ls ++ [letW ls.length i x]) ∧
      Fr d w u m ((m.set (w + 1) (.lst (((tabAt tb0 s.H s.H.length).set i x).map W.int))).set (w + 2) (.lst (ls ++ [letW ls.length i x]))) := by
  have wp_ := h.wr.put i x (letW ls.length i x)
  have o : ∀ j, j ≠ w + 1 → j ≠ w + 2 → ((m.set (w + 1) (.lst (((tabAt tb0 s.H s.H.length).set i x).map W.int))).set (w + 2) (.lst (ls ++ [letW ls.length i x])))[j]? = m[j]? := fun j h1 h2 => off2 h1 h2
  have e : tabAt tb0 (s.H ++ [(i, x)]) (s.H ++ [(i, x)]).length = (tabAt tb0 s.H s.H.length).set i x := by
    have e1 : (s.H ++ [(i, x)]).length = s.H.length + 1 := by rw [List.length_append]; rfl
    have e2 : (s.H ++ [(i, x)])[s.H.length]? = some (i, x) := by rw [List.getElem?_append_right (Nat.le_refl _), Nat.sub_self]; rfl
    rw [e1, tab_succ e2, tab_app (Nat.le_refl _)]
  have hu := h.hu
  have hd := h.hd
  have st := h.lt.snoc (i, x)
  have hr := h.rd
  refine ⟨⟨(o d (by omega) (by omega)).trans h.obj, ?_, ⟨(o (w + 3) (by omega) (by omega)).trans hr.obj, (o u (by omega) (by omega)).trans hr.wo, (o (w + 5) (by omega) (by omega)).trans hr.kno, (o (w + 6) (by omega) (by omega)).trans hr.gre, hr.ne⟩, st, hu, hd⟩, ⟨by rw [List.length_set, List.length_set]; exact Nat.le_refl _, fun j hj hn => o j (fun e => hn (.inr (.inl (by omega)))) (fun e => hn (.inr (.inl (by omega))))⟩⟩
  show Wr cW _ w (w + 1) (w + 2) p (tabAt tb0 (s.H ++ [(i, x)]) (s.H ++ [(i, x)]).length) (ls ++ [letW ls.length i x])
  rw [e]; exact wp_
theorem Dsk.come (h : Dsk cD cW cR d w u p tb0 m s ls) (n : Nat) :
    Dsk cD cW cR d w u p tb0 (comeM m u (w + 5) (w + 6) ((bringS s n).1, Kd (bringS s n).2.1, (bringS s n).2.2)) ⟨s.H, (bringS s n).2.2.2, s.cov, (bringS s n).2.1, (bringS s n).2.2.1, s.bl, s.bm⟩ ls ∧ Fr d w u m (comeM m u (w + 5) (w + 6) ((bringS s n).1, Kd (bringS s n).2.1, (bringS s n).2.2)) := by
  have hu := h.hu
  have hd := h.hd
  have r1 : Rdr cR (comeM m u (w + 5) (w + 6) ((bringS s n).1, Kd (bringS s n).2.1, (bringS s n).2.2)) (w + 3) u (w + 5) (w + 6) p (bringS s n).2.2.2 s.cov (Kd (bringS s n).2.1) (bringS s n).2.2.1 := h.rd.come ((bringS s n).1, Kd (bringS s n).2.1, (bringS s n).2.2)
  have o2 : ∀ j, j ≠ w + 5 → j ≠ w + 6 → j ≠ u → (comeM m u (w + 5) (w + 6) ((bringS s n).1, Kd (bringS s n).2.1, (bringS s n).2.2))[j]? = m[j]? := fun j h1 h2 h3 => off3 h1 h2 h3
  have ll2 : (comeM m u (w + 5) (w + 6) ((bringS s n).1, Kd (bringS s n).2.1, (bringS s n).2.2)).length = m.length := by
    unfold comeM
    rw [List.length_set, List.length_set, List.length_set]
  exact ⟨⟨(o2 d (by omega) (by omega) (by omega)).trans h.obj, h.wr.off (o2 _ (by omega) (by omega) (by omega)) (o2 _ (by omega) (by omega) (by omega)) (o2 _ (by omega) (by omega) (by omega)), r1, h.lt, hu, hd⟩, ⟨by rw [ll2]; exact Nat.le_refl _, fun j hj hn => o2 j (fun e => hn (.inr (.inl (by omega)))) (fun e => hn (.inr (.inl (by omega)))) (fun e => hn (.inr (.inr e)))⟩⟩
end
end Mp
set_option Elab.async false
set_option linter.all false
set_option maxRecDepth 100000
set_option maxHeartbeats 4000000
/-! what a desk's defs do -/
namespace Mp
open PySem PySem.Spec PyProof.Rows L2
section
variable {fs : List Fd} {gl : List W} {N k f : Nat} {m : Sto} {en : En} {pb st ip np gB iv nr cr sv_ mp wa tw nt sb sy tn fi gS wi wp wt wm ws wl ri rc rt hl_ ak na md mn mw ms cW cR : Nat} {cl cp cw cc cg ck cpr cwr : List Nat} {mhl mak mmd mna mtp mts mtt mta mtd mtn mtS mtw mtc mtl : List (Nat × Nat)}
variable {pl rn c1 wb slt ni g g3 cD di db dbr dm dal dt ds : Nat} {dmy dp drd dwr : List Nat} {mbeg mbr mme mal mtl2 msy : List (Nat × Nat)} {nl : Nat}
variable {d w u : Nat} {p : Int} {tb0 : List Int} {s : Wk} {ls : List W}
end
end Mp
set_option Elab.async false
set_option linter.all false
set_option maxRecDepth 100000
set_option maxHeartbeats 4000000
/-! a mend at a desk -/
namespace Mp
open PySem PySem.Spec PyProof.Rows L2
section
variable {fs : List Fd} {gl : List W} {N k f : Nat} {m : Sto} {en : En} {pb st ip np gB iv nr cr sv_ mp wa tw nt sb sy tn fi gS wi wp wt wm ws wl ri rc rt hl_ ak na md mn mw ms cW cR : Nat} {cl cp cw cc cg ck cpr cwr : List Nat} {mhl mak mmd mna mtp mts mtt mta mtd mtn mtS mtw mtc mtl : List (Nat × Nat)}
variable {pl rn c1 wb slt ni g g3 cD di db dbr dm dal dt ds : Nat} {dmy dp drd dwr : List Nat} {mbeg mbr mme mal mtl2 msy : List (Nat × Nat)} {nl : Nat}
variable {d w u : Nat} {p : Int} {tb0 : List Int} {s : Wk} {ls : List W}
end
end Mp
set_option Elab.async false
set_option linter.all false
set_option maxRecDepth 100000
set_option maxHeartbeats 4000000
/-! what a desk tells -/
namespace Mp
open PySem PySem.Spec PyProof.Rows L2
section
variable {cs : Nat → List W → Sto → CR} {gl : List W} {N : Nat} {m : Sto} {d : Nat}
end
section
variable {fs : List Fd} {gl : List W} {N k f : Nat} {m : Sto} {en : En} {pb st ip np gB iv nr cr sv_ mp wa tw nt sb sy tn fi gS wi wp wt wm ws wl ri rc rt hl_ ak na md mn mw ms cW cR : Nat} {cl cp cw cc cg ck cpr cwr : List Nat} {mhl mak mmd mna mtp mts mtt mta mtd mtn mtS mtw mtc mtl : List (Nat × Nat)}
variable {pl rn c1 wb slt ni g g3 cD di db dbr dm dal dt ds : Nat} {dmy dp drd dwr : List Nat} {mbeg mbr mme mal mtl2 msy : List (Nat × Nat)} {nl : Nat}
variable {d w u : Nat} {p : Int} {tb0 : List Int} {s : Wk} {ls : List W}
end
end Mp
set_option Elab.async false
set_option linter.all false
set_option maxRecDepth 100000
set_option maxHeartbeats 4000000
/-! a row's answer -/
namespace Mp
open PySem PySem.Spec PyProof.Rows L2
inductive Rw where
  | dd (d : Dd) | sums (n : Nat) | alike | told
section
variable {fs : List Fd} {gl : List W} {N k f : Nat} {m : Sto} {en : En} {pb st ip np gB iv nr cr sv_ mp wa tw nt sb sy tn fi gS wi wp wt wm ws wl ri rc rt hl_ ak na md mn mw ms cW cR : Nat} {cl cp cw cc cg ck cpr cwr : List Nat} {mhl mak mmd mna mtp mts mtt mta mtd mtn mtS mtw mtc mtl : List (Nat × Nat)}
variable {pl rn c1 wb slt ni g g3 cD di db dbr dm dal dt ds : Nat} {dmy dp drd dwr : List Nat} {mbeg mbr mme mal mtl2 msy : List (Nat × Nat)} {nl : Nat}
variable {d w u : Nat} {p : Int} {tb0 : List Int} {s : Wk} {ls : List W}
end
end Mp
set_option Elab.async false
set_option linter.all false
set_option maxRecDepth 100000
set_option maxHeartbeats 4000000
/-! a desk is told a row -/
namespace Mp
open PySem PySem.Spec PyProof.Rows L2
section
variable {fs : List Fd} {gl : List W} {N k f : Nat} {m : Sto} {en : En} {pb st ip np gB iv nr cr sv_ mp wa tw nt sb sy tn fi gS wi wp wt wm ws wl ri rc rt hl_ ak na md mn mw ms cW cR : Nat} {cl cp cw cc cg ck cpr cwr : List Nat} {mhl mak mmd mna mtp mts mtt mta mtd mtn mtS mtw mtc mtl : List (Nat × Nat)}
variable {pl rn c1 wb slt ni g g3 cD di db dbr dm dal dt ds : Nat} {dmy dp drd dwr : List Nat} {mbeg mbr mme mal mtl2 msy : List (Nat × Nat)} {nl : Nat}
variable {d w u : Nat} {p : Int} {tb0 : List Int} {s : Wk} {ls : List W}
end
end Mp
set_option Elab.async false
set_option linter.all false
set_option maxRecDepth 100000
set_option maxHeartbeats 4000000
/-! a desk is told a row -/
namespace Mp
open PySem PySem.Spec PyProof.Rows L2
section
variable {fs : List Fd} {gl : List W} {N k f : Nat} {m : Sto} {en : En} {pb st ip np gB iv nr cr sv_ mp wa tw nt sb sy tn fi gS wi wp wt wm ws wl ri rc rt hl_ ak na md mn mw ms cW cR : Nat} {cl cp cw cc cg ck cpr cwr : List Nat} {mhl mak mmd mna mtp mts mtt mta mtd mtn mtS mtw mtc mtl : List (Nat × Nat)}
variable {pl rn c1 wb slt ni g g3 cD di db dbr dm dal dt ds : Nat} {dmy dp drd dwr : List Nat} {mbeg mbr mme mal mtl2 msy : List (Nat × Nat)} {nl : Nat}
variable {d w u : Nat} {p : Int} {tb0 : List Int} {s : Wk} {ls : List W}
end
end Mp
set_option Elab.async false
set_option linter.all false
set_option maxRecDepth 100000
set_option maxHeartbeats 4000000
/-! greater numbers as texts -/
namespace Mp
open PySem PySem.Spec PyProof.Rows L2
noncomputable def BgI (i : Int) : Prop := 0 ≤ i ∧ i < 10 ^ 60
theorem BgI.num {i : Int} (h : BgI i) {m : Sto} : bltR .str m [.int i] = some (.val (.str (SX.S (numT i)))) := by
  have e : i = (i.toNat : Int) := (Int.toNat_of_nonneg h.1).symm
  unfold numT
  have hl : i.toNat < 10 ^ 200 := by
    have h2 := h.2
    have : (i.toNat : Int) < 10 ^ 60 := by omega
    have : i.toNat < 10 ^ 60 := by exact_mod_cast this
    exact Nat.lt_of_lt_of_le this (by decide)
  conv => lhs; rw [e]
  exact str_S i.toNat hl
section
variable {cs : Nat → List W → Sto → CR} {fs : List Fd} {gl : List W} {N k f g x ni c1 rn : Nat} {m : Sto} {en : En} {a : List Nat}
end
end Mp
set_option Elab.async false
set_option linter.all false
set_option maxRecDepth 100000
set_option maxHeartbeats 4000000
/-! two things, their texts, read again -/
namespace Mp
open PySem PySem.Spec PyProof.Rows L2
noncomputable def retW (r : RV) (a : W) : Prop := r = .val a ∨ ∃ ws, r = .new ws ∧ a = .lst ws
section
variable {cs : Nat → List W → Sto → CR} {fs : List Fd} {gl : List W} {N k f g x : Nat} {m : Sto} {en : En}
theorem retW.esc {r : RV} {a : W} (h : retW r a) {en : En} : esc r en = some (a, en) := by
  rcases h with rfl | ⟨ws, rfl, rfl⟩ <;> rfl
end
end Mp
set_option Elab.async false
set_option linter.all false
set_option maxRecDepth 100000
set_option maxHeartbeats 4000000
/-! drawn runs -/
namespace Mp
open PySem PySem.Spec PyProof.Rows L2
section
variable {cs : Nat → List W → Sto → CR} {fs : List Fd} {gl : List W} {N k f g x : Nat} {m : Sto} {en : En}
@[simp] theorem ev_fnv50 {f : Nat} : ev cs gl (.fnv f) en m = .ok (.val (.fn f)) en m := by simp only [ev]
theorem take50 {tk r : Nat} (htk : fs[tk]? = some ⟨2, 3, b_law_take⟩) {d n : Int} {ob : Ob} (hm : m[r]? = some ob) (hn : 0 < n) (hb : n ≤ 10 ^ 300) :
    ∃ v d2, callN fs gl N (k + 1) tk [.ref r, .int n] (m.set r (.lst [.int d])) = .ok (.val (.int v)) (m.set r (.lst [.int d2])) ∧ 0 ≤ v ∧ v < n := by
  have t := take_run (k := k) (gl := gl) (N := N) (m := m.set r (.lst [.int d])) (d := d) htk (get_set hm) hn (Int.lt_of_le_of_lt hb (by decide +kernel))
  rw [set_set] at t
  exact ⟨d % n, d / n, t, Int.emod_nonneg _ (by omega), Int.emod_lt_of_pos _ hn⟩
end
end Mp
set_option Elab.async false
set_option linter.all false
set_option maxRecDepth 100000
set_option maxHeartbeats 8000000
/-! texts cut, changed, joined -/
namespace Mp
open PySem PySem.Spec PyProof.Rows L2
theorem cut_sub {A : Type} {xs : List A} {lo hi : Option Int} : ∀ x ∈ cutL xs lo hi, x ∈ xs := fun x hx => by
  unfold cutL at hx
  exact List.mem_of_mem_drop (List.mem_of_mem_take hx)
theorem cut_len {A : Type} {xs : List A} {lo hi : Option Int} : (cutL xs lo hi).length = min (HT.sIx xs.length xs.length hi - HT.sIx xs.length 0 lo) (xs.length - HT.sIx xs.length 0 lo) := by
  unfold cutL
  rw [List.length_take, List.length_drop]
theorem joinL_sum {S : List Nat} : ∀ {ps : List (List Nat)}, (TL.joinL S ps).length ≤ (ps.map (·.length)).sum + ps.length * S.length
  | [] => Nat.zero_le _
  | [p] => by simp [TL.joinL]
  | p :: q :: r => by
    have ih := joinL_sum (S := S) (ps := q :: r)
    have e : TL.joinL S (p :: q :: r) = p ++ S ++ TL.joinL S (q :: r) := by simp [TL.joinL]
    rw [e]
    simp only [List.length_append, List.map_cons, List.sum_cons, List.length_cons] at ih ⊢
    rw [Nat.add_mul _ 1, Nat.one_mul]
    omega
noncomputable def SGN : List Nat := [48, 49, 50, 51, 52, 53, 54, 55, 56, 57, 32, 58, 61, 44, 45, 43, 95, 112, 117, 116, 98, 114, 105, 110, 103, 109, 101, 110, 100, 120, 10]
theorem sgn_S : ("0123456789 :=,-+_putbringmendx\n" : Str) = SX.S SGN := rfl
section
variable {cs : Nat → List W → Sto → CR} {fs : List Fd} {gl : List W} {N k f g x tk r : Nat} {m : Sto} {en : En} {a : List Nat}
theorem ssl_ev {a lo hi : E} : ev cs gl (.ssl a lo hi) en m = bnd (ev cs gl a en m) fun x en m => optp ((rvW en x).bind strW) fun s => bnd (if isNil lo then .ok none en m else bnd (ev cs gl lo en m) fun y en m => optp (intR y) fun i => .ok (some i) en m) fun l en m =>
      bnd (if isNil hi then .ok none en m else bnd (ev cs gl hi en m) fun y en m => optp (intR y) fun i => .ok (some i) en m) fun h en m =>
      if s.length ≤ LIM then .ok (.val (.str (cutT s l h))) en m else .bad := by simp only [ev]; rfl
theorem ssl_lo {e hi : E} {i : Int} (h1 : ev cs gl e en m = .ok (.val (.str (SX.S a))) en m) (hn : isNil hi = false) (h2 : ev cs gl hi en m = .ok (.val (.int i)) en m) (hl : a.length ≤ LIM) : ev cs gl (.ssl e .nil hi) en m = .ok (.val (.str (SX.S (cutL a none (some i))))) en m := by
  rw [ssl_ev, h1, bnd_ok]
  show optp (some (SX.S a)) _ _ = _
  rw [optp_some, if_pos (by rfl), bnd_ok, hn, if_neg (by decide), h2, bnd_ok, intR_int, optp_some, bnd_ok, if_pos (by rw [SX.S_len]; exact hl), cut_S]
theorem ssl_hi {e lo : E} {i : Int} (h1 : ev cs gl e en m = .ok (.val (.str (SX.S a))) en m) (hn : isNil lo = false) (h2 : ev cs gl lo en m = .ok (.val (.int i)) en m) (hl : a.length ≤ LIM) : ev cs gl (.ssl e lo .nil) en m = .ok (.val (.str (SX.S (cutL a (some i) none)))) en m := by
  rw [ssl_ev, h1, bnd_ok]
  show optp (some (SX.S a)) _ _ = _
  rw [optp_some, hn, if_neg (by decide), h2, bnd_ok, intR_int, optp_some, bnd_ok, if_pos (by rfl), bnd_ok, if_pos (by rw [SX.S_len]; exact hl), cut_S]
theorem ssl_mid {e lo hi : E} {i j : Int} (h1 : ev cs gl e en m = .ok (.val (.str (SX.S a))) en m) (hn : isNil lo = false) (h2 : ev cs gl lo en m = .ok (.val (.int i)) en m) (hn2 : isNil hi = false) (h3 : ev cs gl hi en m = .ok (.val (.int j)) en m) (hl : a.length ≤ LIM) : ev cs gl (.ssl e lo hi) en m = .ok (.val (.str (SX.S (cutL a (some i) (some j))))) en m := by
  rw [ssl_ev, h1, bnd_ok]
  show optp (some (SX.S a)) _ _ = _
  rw [optp_some, hn, if_neg (by decide), h2, bnd_ok, intR_int, optp_some, bnd_ok, hn2, if_neg (by decide), h3, bnd_ok, intR_int, optp_some, bnd_ok, if_pos (by rw [SX.S_len]; exact hl), cut_S]
theorem changed_text (hf : fs[f]? = some ⟨2, 5, b_law_changed_v2 tk⟩) (htk : fs[tk]? = some ⟨2, 3, b_law_take⟩) {d0 : Int} (hr : m[r]? = some (.lst [.int d0])) (ha : OkT a) (hl : a.length ≤ 10000) :
    ∃ b d2, OkT b ∧ b.length ≤ a.length + 3 ∧ callN fs gl N (k + 2) f [.ref r, .str (SX.S a)] m = .ok (.val (.str (SX.S b))) (m.set r (.lst [.int d2])) := by
  rw [call_at hf rfl]
  have es : m = m.set r (.lst [.int d0]) := by
    apply List.ext_getElem?
    intro j
    by_cases hj : j = r
    · subst hj; rw [get_set hr, hr]
    · rw [List.getElem?_set_ne (Ne.symm hj)]
  obtain ⟨v, d1, q1, v0, v1⟩ := take50 (k := k) (gl := gl) (N := N) (d := d0) (n := (a.length : Int) + 1) htk hr (by omega) (by omega)
  obtain ⟨y, d2, q2, y0, y1⟩ := take50 (k := k) (gl := gl) (N := N) (d := d1) (n := 31) htk hr (by decide) (by decide)
  obtain ⟨way, d3, q3, w0, w1⟩ := take50 (k := k) (gl := gl) (N := N) (d := d2) (n := 4) htk hr (by decide) (by decide)
  rw [← es] at q1
  obtain ⟨i, rfl⟩ : ∃ i : Nat, v = (i : Int) := ⟨v.toNat, by omega⟩
  obtain ⟨sg, hsg, ix⟩ : ∃ sg : Nat, sg < 128 ∧ atI SGN y = some sg := by
    obtain ⟨j, rfl⟩ : ∃ j : Nat, y = (j : Int) := ⟨y.toNat, by omega⟩
    have hj : j < SGN.length := by show j < 31; omega
    refine ⟨SGN[j], ?_, at_ok (by omega) (by rw [Int.toNat_natCast]; exact List.getElem?_eq_getElem hj)⟩
    have : ∀ c ∈ SGN, c < 128 := by decide
    exact this _ (List.getElem_mem hj)
  have ix2 : ∀ en m, idxR en m (.val (.str "0123456789 :=,-+_putbringmendx\n")) (.val (.int y)) = some (.str (SX.S [sg])) := fun en m => by
    rw [sgn_S, idx_S (by decide), ix]; rfl
  have la : ∀ m, bltR .len m [.str (SX.S a)] = some (.val (.int (a.length : Int))) := fun m => len_S (by unfold LIM; omega)
  have ll : a.length ≤ LIM := by unfold LIM; omega
  obtain ⟨M, hM⟩ : ∃ M, M = m.set r (.lst [.int d3]) := ⟨_, rfl⟩
  obtain ⟨EN, hEN⟩ : ∃ EN : En, EN = [some (.val (.ref r)), some (.val (.str (SX.S a))), some (.val (.int (i : Int))), some (.val (.str (SX.S [sg]))), some (.val (.int way))] := ⟨_, rfl⟩
  have a1 : sv (callN fs gl N (k + 1)) gl N (.asg 2 (.call tk 2 (.cons (.var 0) (.cons (.bin .add (.blt .len (.cons (.var 1) .nil)) (.int 1)) .nil)))) [some (.val (.ref r)), some (.val (.str (SX.S a))), none, none, none] m = .ok .nx [some (.val (.ref r)), some (.val (.str (SX.S a))), some (.val (.int (i : Int))), none, none] (m.set r (.lst [.int d1])) := by
    generalize SX.S a = A_ at *
    simp only [sv_seq, sv_iff, sv_asg, sv_ret, sv_retn, sv_skip, sv_ex, sv_unp, ev_var, ev_int, ev_bl, ev_non, ev_str, ev_bin, ev_neg, ev_cmp, ev_chain, ev_not, ev_ite, ev_idx, ev_call, ev_blt, evl_1, evl_2, ev_and, ev_or, evAnd_1, evAnd_2, evOr_1, evOr_2, ev_fld, ev_box, boxR_new, evs_cons, evs_nil, enGet_0, enGet_s, bnd_ok, optp_some, opt2p_some, hold_val, hold_new, hold_bor, rvW_val, rvW_new, esc_val, esc_new, slOf_val, slOf_new, retR_val, retR_new, blR_bl, intR_int, toR_ok, thn_nx, thn_rt, end_nx, end_rt, List.set_cons_succ, List.set_cons_zero, List.length_cons, List.length_nil, Nat.zero_add, Nat.reduceAdd, if_true, if_false, Bool.false_eq_true, Bool.not_true, Bool.not_false, decide_true, decide_false, la, add_ints, q1]
  have a2 : sv (callN fs gl N (k + 1)) gl N (.asg 3 (.idx (.str "0123456789 :=,-+_putbringmendx\n") (.call tk 2 (.cons (.var 0) (.cons (.int 31) .nil))))) [some (.val (.ref r)), some (.val (.str (SX.S a))), some (.val (.int (i : Int))), none, none] (m.set r (.lst [.int d1])) = .ok .nx [some (.val (.ref r)), some (.val (.str (SX.S a))), some (.val (.int (i : Int))), some (.val (.str (SX.S [sg]))), none] (m.set r (.lst [.int d2])) := by
    generalize SX.S a = A_ at *
    simp only [sv_seq, sv_iff, sv_asg, sv_ret, sv_retn, sv_skip, sv_ex, sv_unp, ev_var, ev_int, ev_bl, ev_non, ev_str, ev_bin, ev_neg, ev_cmp, ev_chain, ev_not, ev_ite, ev_idx, ev_call, ev_blt, evl_1, evl_2, ev_and, ev_or, evAnd_1, evAnd_2, evOr_1, evOr_2, ev_fld, ev_box, boxR_new, evs_cons, evs_nil, enGet_0, enGet_s, bnd_ok, optp_some, opt2p_some, hold_val, hold_new, hold_bor, rvW_val, rvW_new, esc_val, esc_new, slOf_val, slOf_new, retR_val, retR_new, blR_bl, intR_int, toR_ok, thn_nx, thn_rt, end_nx, end_rt, List.set_cons_succ, List.set_cons_zero, List.length_cons, List.length_nil, Nat.zero_add, Nat.reduceAdd, if_true, if_false, Bool.false_eq_true, Bool.not_true, Bool.not_false, decide_true, decide_false, ix2, q2]
  have a3 : sv (callN fs gl N (k + 1)) gl N (.asg 4 (.call tk 2 (.cons (.var 0) (.cons (.int 4) .nil)))) [some (.val (.ref r)), some (.val (.str (SX.S a))), some (.val (.int (i : Int))), some (.val (.str (SX.S [sg]))), none] (m.set r (.lst [.int d2])) = .ok .nx EN M := by
    rw [hEN, hM]
    generalize SX.S a = A_ at *
    generalize SX.S [sg] = B_ at *
    simp only [sv_seq, sv_iff, sv_asg, sv_ret, sv_retn, sv_skip, sv_ex, sv_unp, ev_var, ev_int, ev_bl, ev_non, ev_str, ev_bin, ev_neg, ev_cmp, ev_chain, ev_not, ev_ite, ev_idx, ev_call, ev_blt, evl_1, evl_2, ev_and, ev_or, evAnd_1, evAnd_2, evOr_1, evOr_2, ev_fld, ev_box, boxR_new, evs_cons, evs_nil, enGet_0, enGet_s, bnd_ok, optp_some, opt2p_some, hold_val, hold_new, hold_bor, rvW_val, rvW_new, esc_val, esc_new, slOf_val, slOf_new, retR_val, retR_new, blR_bl, intR_int, toR_ok, thn_nx, thn_rt, end_nx, end_rt, List.set_cons_succ, List.set_cons_zero, List.length_cons, List.length_nil, Nat.zero_add, Nat.reduceAdd, if_true, if_false, Bool.false_eq_true, Bool.not_true, Bool.not_false, decide_true, decide_false, q3]
  have v1 : ev (callN fs gl N (k + 1)) gl (.var 1) EN M = .ok (.val (.str (SX.S a))) EN M := by rw [hEN, ev_var]; rfl
  have v2 : ev (callN fs gl N (k + 1)) gl (.var 2) EN M = .ok (.val (.int (i : Int))) EN M := by rw [hEN, ev_var]; rfl
  have v3 : ev (callN fs gl N (k + 1)) gl (.var 3) EN M = .ok (.val (.str (SX.S [sg]))) EN M := by rw [hEN, ev_var]; rfl
  have v4 : ev (callN fs gl N (k + 1)) gl (.var 4) EN M = .ok (.val (.int way)) EN M := by rw [hEN, ev_var]; rfl
  have v21 : ev (callN fs gl N (k + 1)) gl (.bin .add (.var 2) (.int 1)) EN M = .ok (.val (.int (((i + 1 : Nat) : Int)))) EN M := by
    rw [ev_bin, v2, bnd_ok, ev_int, bnd_ok, hold_val, hold_val, add_ints, optp_some]; rfl
  have v23 : ev (callN fs gl N (k + 1)) gl (.bin .add (.var 2) (.int 3)) EN M = .ok (.val (.int (((i + 3 : Nat) : Int)))) EN M := by
    rw [ev_bin, v2, bnd_ok, ev_int, bnd_ok, hold_val, hold_val, add_ints, optp_some]; rfl
  have s1 := ssl_lo v1 (hi := .var 2) rfl v2 ll
  have s2 := ssl_hi v1 (lo := .var 2) rfl v2 ll
  have s3 := ssl_hi v1 (lo := .bin .add (.var 2) (.int 1)) rfl v21 ll
  have s4 := ssl_mid v1 (lo := .var 2) rfl v2 (hi := .bin .add (.var 2) (.int 3)) rfl v23 ll
  have hi : i ≤ a.length := by omega
  have n1 : (cutL a none (some (i : Int))).length = i := by rw [cut_len, HT.sIx_nat, HT.sIx_none]; omega
  have n2 : (cutL a (some (i : Int)) none).length = a.length - i := by rw [cut_len, HT.sIx_nat, HT.sIx_none]; omega
  have n3 : (cutL a (some ((i + 1 : Nat) : Int)) none).length ≤ a.length - i := by rw [cut_len, HT.sIx_nat, HT.sIx_none]; omega
  have n4 : (cutL a (some (i : Int)) (some ((i + 3 : Nat) : Int))).length ≤ 3 := by rw [cut_len, HT.sIx_nat, HT.sIx_nat]; omega
  have o1 : OkT (cutL a none (some (i : Int))) := ha.sub cut_sub
  have o2 : OkT (cutL a (some (i : Int)) none) := ha.sub cut_sub
  have o3 : OkT (cutL a (some ((i + 1 : Nat) : Int)) none) := ha.sub cut_sub
  have o4 : OkT (cutL a (some (i : Int)) (some ((i + 3 : Nat) : Int))) := ha.sub cut_sub
  have os : OkT [sg] := fun c hc => by rw [List.mem_singleton] at hc; subst hc; exact hsg
  generalize cutL a none (some (i : Int)) = P1 at *
  generalize cutL a (some (i : Int)) none = P2 at *
  generalize cutL a (some ((i + 1 : Nat) : Int)) none = P3 at *
  generalize cutL a (some (i : Int)) (some ((i + 3 : Nat) : Int)) = P4 at *
  have ad : ∀ (p q : List Nat), p.length ≤ 20010 → q.length ≤ 20010 → ∀ en m, binR .add en m (.val (.str (SX.S p))) (.val (.str (SX.S q))) = some (.val (.str (SX.S (p ++ q)))) := fun p q h1 h2 en m => add_S (by unfold LIM; omega)
  have ls : [sg].length = 1 := rfl
  have fin : ∃ b, OkT b ∧ b.length ≤ a.length + 3 ∧ endR (sv (callN fs gl N (k + 1)) gl N (b_law_changed_v2 tk) [some (.val (.ref r)), some (.val (.str (SX.S a))), none, none, none] m) = .ok (.val (.str (SX.S b))) M := by
    unfold b_law_changed_v2
    rw [sv_seq, a1, thn_nx, sv_seq, a2, thn_nx, sv_seq, a3, thn_nx]
    have e0 : ∀ (c : Int), ev (callN fs gl N (k + 1)) gl (.cmp .eq (.var 4) (.int c)) EN M = .ok (.val (.bl (decide (way = c)))) EN M := fun c => by
      rw [ev_cmp, v4, bnd_ok, ev_int, bnd_ok, hold_val, hold_val, eq_ints, optp_some]
    by_cases c0 : way = 0
    · refine ⟨(P1 ++ [sg]) ++ P2, (o1.app os).app o2, by rw [List.length_append, List.length_append]; omega, ?_⟩
      have e := e0 0
      rw [decide_eq_true c0] at e
      have r1 : ev (callN fs gl N (k + 1)) gl (.bin .add (.bin .add (.ssl (.var 1) .nil (.var 2)) (.var 3)) (.ssl (.var 1) (.var 2) .nil)) EN M = .ok (.val (.str (SX.S ((P1 ++ [sg]) ++ P2)))) EN M := by
        rw [ev_bin, ev_bin, s1, bnd_ok, v3, bnd_ok, hold_val, hold_val, ad _ _ (by omega) (by omega), optp_some, bnd_ok, s2, bnd_ok, hold_val, hold_val, ad _ _ (by rw [List.length_append]; omega) (by omega), optp_some]
      rw [sv_seq, sv_iff, e, bnd_ok, blR_bl, optp_some, if_pos rfl, sv_seq, sv_ret, r1, bnd_ok, retR_val, optp_some, thn_rt, thn_rt, end_rt]
    · have f0 := e0 0
      rw [decide_eq_false c0] at f0
      by_cases c1 : way = 1
      · refine ⟨P1 ++ P3, o1.app o3, by rw [List.length_append]; omega, ?_⟩
        have e := e0 1
        rw [decide_eq_true c1] at e
        have r1 : ev (callN fs gl N (k + 1)) gl (.bin .add (.ssl (.var 1) .nil (.var 2)) (.ssl (.var 1) (.bin .add (.var 2) (.int 1)) .nil)) EN M = .ok (.val (.str (SX.S (P1 ++ P3)))) EN M := by
          rw [ev_bin, s1, bnd_ok, s3, bnd_ok, hold_val, hold_val, ad _ _ (by omega) (by omega), optp_some]
        rw [sv_seq, sv_iff, f0, bnd_ok, blR_bl, optp_some, if_neg (by decide), sv_skip, thn_nx, sv_seq, sv_iff, e, bnd_ok, blR_bl, optp_some, if_pos rfl, sv_seq, sv_ret, r1, bnd_ok, retR_val, optp_some, thn_rt, thn_rt, end_rt]
      · have f1 := e0 1
        rw [decide_eq_false c1] at f1
        by_cases c2 : way = 2
        · refine ⟨(P1 ++ [sg]) ++ P3, (o1.app os).app o3, by rw [List.length_append, List.length_append]; omega, ?_⟩
          have e := e0 2
          rw [decide_eq_true c2] at e
          have r1 : ev (callN fs gl N (k + 1)) gl (.bin .add (.bin .add (.ssl (.var 1) .nil (.var 2)) (.var 3)) (.ssl (.var 1) (.bin .add (.var 2) (.int 1)) .nil)) EN M = .ok (.val (.str (SX.S ((P1 ++ [sg]) ++ P3)))) EN M := by
            rw [ev_bin, ev_bin, s1, bnd_ok, v3, bnd_ok, hold_val, hold_val, ad _ _ (by omega) (by omega), optp_some, bnd_ok, s3, bnd_ok, hold_val, hold_val, ad _ _ (by rw [List.length_append]; omega) (by omega), optp_some]
          rw [sv_seq, sv_iff, f0, bnd_ok, blR_bl, optp_some, if_neg (by decide), sv_skip, thn_nx, sv_seq, sv_iff, f1, bnd_ok, blR_bl, optp_some, if_neg (by decide), sv_skip, thn_nx, sv_seq, sv_iff, e, bnd_ok, blR_bl, optp_some, if_pos rfl, sv_seq, sv_ret, r1, bnd_ok, retR_val, optp_some, thn_rt, thn_rt, end_rt]
        · refine ⟨(P1 ++ P4) ++ P2, (o1.app o4).app o2, by rw [List.length_append, List.length_append]; omega, ?_⟩
          have f2 := e0 2
          rw [decide_eq_false c2] at f2
          have r1 : ev (callN fs gl N (k + 1)) gl (.bin .add (.bin .add (.ssl (.var 1) .nil (.var 2)) (.ssl (.var 1) (.var 2) (.bin .add (.var 2) (.int 3)))) (.ssl (.var 1) (.var 2) .nil)) EN M = .ok (.val (.str (SX.S ((P1 ++ P4) ++ P2)))) EN M := by
            rw [ev_bin, ev_bin, s1, bnd_ok, s4, bnd_ok, hold_val, hold_val, ad _ _ (by omega) (by omega), optp_some, bnd_ok, s2, bnd_ok, hold_val, hold_val, ad _ _ (by rw [List.length_append]; omega) (by omega), optp_some]
          rw [sv_seq, sv_iff, f0, bnd_ok, blR_bl, optp_some, if_neg (by decide), sv_skip, thn_nx, sv_seq, sv_iff, f1, bnd_ok, blR_bl, optp_some, if_neg (by decide), sv_skip, thn_nx, sv_seq, sv_iff, f2, bnd_ok, blR_bl, optp_some, if_neg (by decide), sv_skip, thn_nx, sv_seq, sv_ret, r1, bnd_ok, retR_val, optp_some, thn_rt, end_rt]
  obtain ⟨b, b1, b2, b3⟩ := fin
  refine ⟨b, d3, b1, b2, ?_⟩
  rw [← hM]
  exact b3
end
end Mp
set_option Elab.async false
set_option linter.all false
set_option maxRecDepth 100000
set_option maxHeartbeats 4000000
namespace Mp
open PySem PySem.Spec PyProof.Rows L2
section
variable {tb0 tb : List Int} {H : List (Nat × Int)} {cov : Int} {ns : List Int} {g : Nat → Int}
theorem Tim.gle (h : Tim tb0 H tb cov ns g) {t : Nat} (hn : ∀ n ∈ ns, n ≤ (t : Int)) (i : Nat) : g i ≤ (t : Int) := by
  rcases h.gr i with e | ⟨e, _⟩
  · omega
  · exact hn _ e
theorem Tim.mendAt (h : Tim tb0 H tb cov ns g) {t : Nat} (ht : t ≤ H.length) (hn : ∀ n ∈ ns, n ≤ (t : Int)) : Tim tb0 H (tabAt tb0 H t) (t : Int) ns g := by
  refine ⟨tab_len _, h.pl, fun i hi => ?_, by omega, by omega, h.kn, h.gr, h.nd⟩
  have := h.gle hn i
  have e : (max (g i) (t : Int)).toNat = t := by omega
  rw [e]
end
structure K61Fs (fs : List Fd) (gl : List W) : Prop where
  f0 : fs[0]? = some ⟨3, 5, b_power_by⟩
  f1 : fs[1]? = some ⟨2, 4, b_stands 0⟩
  f2 : fs[2]? = some ⟨1, 2, b_is_prime 1 0⟩
  f3 : fs[3]? = some ⟨1, 1, b_need_prime 2⟩
  f4 : fs[4]? = some ⟨2, 2, b_inverse_by 3 0⟩
  f5 : fs[5]? = some ⟨2, 3, b_need_rows⟩
  f6 : fs[6]? = some ⟨4, 12, b_cleared 4⟩
  f7 : fs[7]? = some ⟨3, 12, b_solved_by_v1 6 3 5⟩
  f8 : fs[8]? = some ⟨2, 3, b_need_table⟩
  f9 : fs[9]? = some ⟨3, 5, b_sum_by 0⟩
  f10 : fs[10]? = some ⟨3, 4, b_sums_by 9⟩
  f11 : fs[11]? = some ⟨3, 3, b_first_sums 3 8 10 1⟩
  f12 : fs[12]? = some ⟨4, 13, b_marked_places 0 7⟩
  f13 : fs[13]? = some ⟨3, 7, b_worths_at 0 7⟩
  f14 : fs[14]? = some ⟨5, 10, b_table_by_width 12 13⟩
  f15 : fs[15]? = some ⟨4, 9, b_table_near 3 8 10 14⟩
  f16 : fs[16]? = some ⟨3, 3, b_Writer___init__ 3 8 [0] [0, 1] [0, 1]⟩
  f17 : fs[17]? = some ⟨3, 3, b_Writer_put [0] [0, 1] [0, 1]⟩
  f18 : fs[18]? = some ⟨1, 1, b_Writer_table_v1 [0, 1]⟩
  f19 : fs[19]? = some ⟨1, 1, b_Writer_made [0]⟩
  f20 : fs[20]? = some ⟨2, 2, b_Writer_sums_v1 11 [0, 1] [0, 1]⟩
  f21 : fs[21]? = some ⟨2, 2, b_Writer_letter [0]⟩
  f22 : fs[22]? = some ⟨3, 3, b_Reader___init__ 3 8 [1] [1] [1] [0, 1] [0, 1]⟩
  f23 : fs[23]? = some ⟨2, 5, b_Reader_come [1] [1] [1] [0, 1] [0, 1]⟩
  f24 : fs[24]? = some ⟨1, 1, b_Reader_table [0, 1]⟩
  f25 : fs[25]? = some ⟨2, 4, b_Reader_how_many_lack [1] [1]⟩
  f26 : fs[26]? = some ⟨2, 3, b_Reader_missing [1] [1] [(1, 25)]⟩
  f27 : fs[27]? = some ⟨2, 3, b_Reader_asks [0, 1] [(1, 25)]⟩
  f28 : fs[28]? = some ⟨3, 3, b_Reader_need_asked [1] [1] [(1, 27)]⟩
  f29 : fs[29]? = some ⟨3, 5, b_Reader_mended [1] [0, 1]⟩
  f30 : fs[30]? = some ⟨2, 2, b_Reader_mend_none [0, 1] [(1, 29)] [(1, 28)]⟩
  f31 : fs[31]? = some ⟨3, 4, b_Reader_mend_sums 15 [0, 1] [0, 1] [(1, 29)] [(1, 28)]⟩
  f32 : fs[32]? = some ⟨3, 3, b_Reader_mend_whole 8 [0, 1] [0, 1] [(1, 29)] [(1, 28)]⟩
  f33 : fs[33]? = some ⟨2, 2, b_law_cell_at⟩
  f34 : fs[34]? = some ⟨2, 3, b_law_stir_v1⟩
  f35 : fs[35]? = some ⟨3, 3, b_law_digit 34⟩
  f36 : fs[36]? = some ⟨2, 4, b_law_prime_v2 35⟩
  f37 : fs[37]? = some ⟨3, 4, b_law_table_v2 35⟩
  f38 : fs[38]? = some ⟨3, 9, b_law_sums_v2⟩
  f39 : fs[39]? = some ⟨2, 3, b_law_unlike⟩
  f40 : fs[40]? = some ⟨3, 4, b_law_put_good_v2 [(0, 17)] [(0, 18), (1, 24)]⟩
  f41 : fs[41]? = some ⟨2, 7, b_law_bring_good_v2 [(1, 23)] [(0, 21)] [(0, 18), (1, 24)]⟩
  f42 : fs[42]? = some ⟨4, 6, b_law_mended_v3 38 [(1, 30)] [(1, 31)] [(1, 32)]⟩
  f43 : fs[43]? = some ⟨2, 9, b_law_mend_good_v2 42 39 [(1, 27)] [(1, 26)] [(0, 20)] [(0, 18), (1, 24)]⟩
  f44 : fs[44]? = some ⟨2, 5, b_law_deed_good_v1 41 35 43 40⟩
  f45 : fs[45]? = some ⟨1, 9, b_law_v41 22 16 33 44 35 43 36 38 37 1 0 [(0, 19)] [(1, 26)] [(0, 20)] [(0, 18), (1, 24)]⟩
  g0 : gl[0]? = some (.tup (([2, 3, 5, 7, 11] : List Int).map W.int))
  g1 : gl[1]? = some (.int 100)
section
variable {cs : Nat → List W → Sto → CR} {fs : List Fd} {gl : List W} {N k : Nat} {m m2 : Sto} {en : En} {p cov made : Int} {tb0 tb La : List Int} {H : List (Nat × Int)} {G : List (Key × W)} {ns : List Int} {ls : List W} {u o : Nat} {rs : List Nat} {hs : List W}
theorem K61Fs.far (F : K61Fs fs gl) : FarFs fs gl 0 1 2 3 0 4 5 6 7 12 13 14 8 9 10 15 :=
  ⟨⟨⟨⟨F.f0, F.f1, F.f2, F.f3, F.g0⟩, F.f4, F.f5, F.f6, F.f7⟩, F.f12, F.f13, F.f14⟩, F.f8, F.f9, F.f10, F.f15⟩
theorem K61Fs.tab (F : K61Fs fs gl) : TabFs fs gl 0 1 2 3 8 0 := ⟨F.f0, F.f1, F.f2, F.f3, F.f8, F.g0⟩
noncomputable def mk61 (p : Int) (o : Nat) (c : Int) : List (Key × W) := [(.inr "prime", .int p), (.inr "tables", .ref 1), (.inr "letters", .ref 2), (.inr "own", .ref o), (.inr "came", .ref 4), (.inr "floor", .int c), (.inr "writer", .ref 6), (.inr "reader", .ref 9), (.inr "last", .ref 13), (.inr "held", .ref 14)]
structure Cp61 (p : Int) (tb0 : List Int) (H : List (Nat × Int)) (tb : List Int) (cov : Int) (ns : List Int) (G : List (Key × W)) (La : List Int) : Prop where
  gi : gInt G
  ti : Tim tb0 H tb cov ns (fun i => gAt G (i : Int))
  A : TabOk p tb
  Ah : ∀ n, n ≤ H.length → TabOk p (tabAt tb0 H n)
  hx : ∀ q ∈ H, 0 ≤ q.2 ∧ q.2 < p
  lg : G.length ≤ ns.length
  ll : La.length = tb0.length
  la : ∀ i, i < tb0.length → rat La i = gAt G (i : Int)
theorem Cp61.few (h : Cp61 p tb0 H tb cov ns G La) : ns.length ≤ H.length := by
  have := len_subI (m := btw 0 (H.length : Int)) h.ti.nd fun n hn => btw_mem.mpr ⟨by have := (h.ti.kn n hn).1; omega, h.ti.lim n hn⟩
  rw [btw_len] at this
  omega
theorem tab_put {q : Nat × Int} : tabAt tb0 (H ++ [q]) (H.length + 1) = (tabAt tb0 H H.length).set q.1 q.2 := by
  have e2 : (H ++ [q])[H.length]? = some q := by rw [List.getElem?_append_right (Nat.le_refl _), Nat.sub_self]; rfl
  rw [tab_succ e2, tab_app (Nat.le_refl _)]
theorem Cp61.put (h : Cp61 p tb0 H tb cov ns G La) {q : Nat × Int} (q1 : q.1 < tb0.length) (q2 : 0 ≤ q.2 ∧ q.2 < p) : Cp61 p tb0 (H ++ [q]) tb cov ns G La := by
  refine ⟨h.gi, h.ti.put q1, h.A, fun n hn => ?_, fun z hz => ?_, h.lg, h.ll, h.la⟩
  · rw [List.length_append] at hn
    by_cases c : n ≤ H.length
    · rw [tab_app c]; exact h.Ah n c
    · have e : n = H.length + 1 := by simp only [List.length_cons, List.length_nil] at hn; omega
      rw [e, tab_put]; exact (h.Ah _ (Nat.le_refl _)).set q2
  · rcases List.mem_append.mp hz with e | e
    · exact h.hx z e
    · rw [List.mem_singleton.mp e]; exact q2
theorem Cp61.late (h : Cp61 p tb0 H tb cov ns G La) {n : Int} {q : Nat × Int} (h1 : 1 ≤ n) (hq : H[(n - 1).toNat]? = some q) (c2 : n ∉ ns) (c4 : n < gAt G (q.1 : Int)) : Cp61 p tb0 H tb cov (ns ++ [n]) G La :=
  ⟨h.gi, h.ti.late h1 hq c2 c4, h.A, h.Ah, h.hx, by have := h.lg; rw [List.length_append]; omega, h.ll, h.la⟩
theorem Cp61.take (h : Cp61 p tb0 H tb cov ns G La) {n : Int} {q : Nat × Int} (h1 : 1 ≤ n) (hq : H[(n - 1).toNat]? = some q) (c2 : n ∉ ns) (c3 : cov < n) (c4 : ¬ n < gAt G (q.1 : Int)) : Cp61 p tb0 H (tb.set q.1 q.2) cov (ns ++ [n]) (putA_ G (.inl (q.1 : Int)) (.int n)) (La.set q.1 n) := by
  have hqm := List.mem_of_getElem? hq
  have hqp := h.ti.pl q hqm
  have tk := h.ti.take h1 hq c2 c3 c4
  have eg : (fun i : Nat => gAt (putA_ G (.inl (q.1 : Int)) (.int n)) (i : Int)) = (fun i => if i = q.1 then n else gAt G (i : Int)) := by
    funext i
    rw [gAt_put]
    by_cases d : i = q.1
    · rw [if_pos d, if_pos (by rw [d])]
    · rw [if_neg d, if_neg (by omega)]
  have pl := putA_len (kvs := G) (k := .inl (q.1 : Int)) (v := W.int n)
  refine ⟨gInt_put h.gi, by rw [eg]; exact tk, h.A.set (h.hx q hqm), h.Ah, h.hx, by have := h.lg; rw [List.length_append]; simp only [List.length_cons, List.length_nil]; omega, by rw [List.length_set]; exact h.ll, fun j hj => ?_⟩
  rw [gAt_put, rat_setI]
  by_cases c : q.1 = j
  · subst c
    rw [if_pos ⟨rfl, by rw [h.ll]; exact hqp⟩, if_pos rfl]
  · rw [if_neg (fun z => c z.1), if_neg (by omega)]; exact h.la j hj
theorem Cp61.mend (h : Cp61 p tb0 H tb cov ns G La) {t : Nat} (ht : t ≤ H.length) (hn : ∀ n ∈ ns, n ≤ (t : Int)) : Cp61 p tb0 H (tabAt tb0 H t) (t : Int) ns G La :=
  ⟨h.gi, h.ti.mendAt ht hn, h.Ah t ht, h.Ah, h.hx, h.lg, h.ll, h.la⟩
structure St61 (p : Int) (m : Sto) (tb0 : List Int) (H : List (Nat × Int)) (ls : List W) (tb : List Int) (cov : Int) (ns : List Int) (G : List (Key × W)) (La : List Int) (u o : Nat) (rs : List Nat) (hs : List W) : Prop where
  wr : Wr 0 m 6 7 8 p (tabAt tb0 H H.length) ls
  rd : Rdr 1 m 9 u 11 12 p tb cov (Kd ns) G
  dc : m[5]? = some (.dic (mk61 p o cov))
  tbs : m[1]? = some (.lst (rs.map W.ref))
  rl : rs.length = H.length + 1
  rt : ∀ n r, rs[n]? = some r → m[r]? = some (.lst ((tabAt tb0 H n).map W.int)) ∧ (r = 0 ∨ 15 ≤ r) ∧ r ≠ u ∧ r ≠ o
  lst : m[2]? = some (.lst ls)
  own : m[o]? = some (.lst (tb.map W.int))
  cam : m[4]? = some (.lst (ns.map W.int))
  las : m[13]? = some (.lst (La.map W.int))
  hel : m[14]? = some (.lst hs)
  lt : LetH H ls
  D : Cp61 p tb0 H tb cov ns G La
  hu : u = 10 ∨ 15 ≤ u
  ho : o = 3 ∨ 15 ≤ o
  uo : u ≠ o
theorem St61.len (h : St61 p m tb0 H ls tb cov ns G La u o rs hs) : 15 ≤ m.length := lt_of_get h.hel
theorem St61.keep (h : St61 p m tb0 H ls tb cov ns G La u o rs hs) (K : Keeps m m2) : St61 p m2 tb0 H ls tb cov ns G La u o rs hs :=
  ⟨h.wr.keep K, h.rd.keep K, K.at h.dc, K.at h.tbs, h.rl, fun n r e => ⟨K.at (h.rt n r e).1, (h.rt n r e).2⟩, K.at h.lst, K.at h.own, K.at h.cam, K.at h.las, K.at h.hel, h.lt, h.D, h.hu, h.ho, h.uo⟩
theorem St61.get (h : St61 p m tb0 H ls tb cov ns G La u o rs hs) {j : Nat} {x : Str} {z : W} (he : enGet en j = some (.val (.ref 5))) (hz : valA (mk61 p o cov) (.inr x) = some z) : ev cs gl (.dget (.var j) (.str x) .nil) en m = .ok (.val z) en m := by
  rw [ev_dget, ev_var, he]
  dsimp only
  rw [bnd_ok, rvW_val, optp_some, dicW_at h.dc, optp_some, ev_str, bnd_ok, keyR_str, optp_some]
  rw [if_pos (show isNil .nil = true from rfl), dicW_at h.dc, Option.bind_some, hz, optp_some]
theorem St61.last (h : St61 p m tb0 H ls tb cov ns G La u o rs hs) : ∃ rs0 r, rs = rs0 ++ [r] ∧ rs0.length = H.length := by
  have := h.rl
  have ne : rs ≠ [] := fun z => by rw [z] at this; cases this
  refine ⟨rs.dropLast, rs.getLast ne, (List.dropLast_concat_getLast ne).symm, ?_⟩
  rw [List.length_dropLast]; omega
end
end Mp
set_option Elab.async false
set_option linter.all false
set_option maxRecDepth 100000
set_option maxHeartbeats 4000000
/-! no primes, and no twins -/
namespace Mp
open PySem PySem.Spec PyProof.Rows L2
structure TwinX (fs : List Fd) (gl : List W) (pb st ip np nt sb gB xp xt xn iv sy fi gS nh bw tw ns ts : Nat) : Prop extends SumX fs gl pb st ip np nt sb gB xp xt where
  fiv : fs[iv]? = some ⟨2, 2, b_inverse_by_v1 np pb xn⟩
  fsy : fs[sy]? = some ⟨3, 4, b_sums_by sb⟩
  ffi : fs[fi]? = some ⟨3, 3, b_first_sums_v1 np nt sy gS xn⟩
  fgS : gl[gS]? = some (.int 100)
  fnh : fs[nh]? = some ⟨3, 3, b_need_half_v1 np nt xn⟩
  fbw : fs[bw]? = some ⟨2, 6, b_blind_weights iv⟩
  ftw : fs[tw]? = some ⟨3, 7, b_twins_of bw nh⟩
  fns : fs[ns]? = some ⟨4, 6, b_is_near⟩
  fts : fs[ts]? = some ⟨5, 5, b_twins_show fi ns nh⟩
section
variable {cs : Nat → List W → Sto → CR} {fs : List Fd} {gl : List W} {N k f c : Nat} {m m1 m2 m3 : Sto} {en en1 en2 en3 : En} {pb st ip np nt sb gB xp xt xn iv sy fi gS nh bw tw ns ts : Nat} {p mm : Int} {tb : List Int}
theorem TwinX.un (F : TwinX fs gl pb st ip np nt sb gB xp xt xn iv sy fi gS nh bw tw ns ts) : TwinFs (fs.map (unF true)) gl pb st ip np nt sb gB iv sy fi gS nh bw tw ns ts :=
  ⟨F.toSumX.un, un_at F.fiv, un_at F.fsy, un_at F.ffi, F.fgS, un_at F.fnh, un_at F.fbw, un_at F.ftw, un_at F.fns, un_at F.fts⟩
end
end Mp
set_option Elab.async false
set_option linter.all false
set_option maxRecDepth 100000
set_option maxHeartbeats 4000000
namespace Mp
open PySem PySem.Spec PyProof.Rows L2
noncomputable def GoodP (L : Nat) (p : Int) (q : Int × Int) : Prop := (0 ≤ q.1 ∧ q.1 < (L : Int)) ∧ (0 ≤ q.2 ∧ q.2 < p)
noncomputable instance {L : Nat} {p : Int} {q : Int × Int} : Decidable (GoodP L p q) := by unfold GoodP; infer_instance
section
variable {cs : Nat → List W → Sto → CR} {fs : List Fd} {gl : List W} {N k f c : Nat} {m : Sto} {en : En} {p : Int}
end
end Mp
set_option Elab.async false
set_option linter.all false
set_option maxRecDepth 100000
set_option maxHeartbeats 4000000
namespace Mp
open PySem PySem.Spec PyProof.Rows L2
section
variable {cs : Nat → List W → Sto → CR} {fs : List Fd} {gl : List W} {N k f c : Nat} {m : Sto} {en : En} {p : Int}
end
end Mp
set_option Elab.async false
set_option linter.all false
set_option maxRecDepth 100000
set_option maxHeartbeats 4000000
namespace Mp
open PySem PySem.Spec PyProof.Rows L2
inductive Named (tT tN tL : List Bool) (c : Nat) : Str → Prop
  | tab : tT[c]? = some true → tN[c]? = some false → tL[c]? = some false → Named tT tN tL c "NoTable"
  | num : tT[c]? = some false → tN[c]? = some true → tL[c]? = some false → Named tT tN tL c "NoNumber"
  | pla : tT[c]? = some false → tN[c]? = some false → tL[c]? = some true → Named tT tN tL c "NoPlace"
section
variable {cs : Nat → List W → Sto → CR} {fs : List Fd} {gl : List W} {N k f c : Nat} {m : Sto} {en : En} {fi sn sh sd : Nat} {xs : List Nat} {tO tN tL tT tV : List Bool} {w : W} {j p : Int}
end
section
variable {fs : List Fd} {gl : List W} {N k : Nat} {m : Sto} {pb st ip np nt sb gB xp xt sy sn fi sh gM gS xn xl si dk tk pr ta sd bt : Nat} {xs : List Nat} {tO tN tL tT tV : List Bool} {tb : List Int} {j p : Int}
end
end Mp
set_option Elab.async false
set_option linter.all false
set_option maxRecDepth 100000
set_option maxHeartbeats 4000000
namespace Mp
open PySem PySem.Spec PyProof.Rows L2
section
variable {cs : Nat → List W → Sto → CR} {fs : List Fd} {gl : List W} {N k f : Nat} {m M : Sto} {en : En}
end
end Mp
set_option Elab.async false
set_option linter.all false
set_option maxRecDepth 100000
set_option maxHeartbeats 4000000
namespace Mp
open PySem PySem.Spec PyProof.Rows L2
section
variable {cs : Nat → List W → Sto → CR} {fs : List Fd} {gl : List W} {N k f : Nat} {m M : Sto} {en : En}
noncomputable def NOwn (s : Option Sl) : Prop := ∀ ws, s ≠ some (.own ws)
theorem NOwn.val {w : W} : NOwn (some (.val w)) := fun ws h => by cases h
theorem NOwn.none : NOwn none := fun ws h => by cases h
end
section
variable {fs : List Fd} {gl : List W} {N k f : Nat} {m M : Sto} {en : En} {pb st ip np nt sb gB xp xt sy sn fi sh gM gS xn xl si dk tk pr ta sd bt : Nat} {xs : List Nat} {tO tN tL tT tV : List Bool}
end
end Mp
set_option Elab.async false
set_option linter.all false
set_option maxRecDepth 100000
set_option maxHeartbeats 4000000
namespace Mp
open PySem PySem.Spec PyProof.Rows L2
section
variable {cs : Nat → List W → Sto → CR} {fs : List Fd} {gl : List W} {N k f : Nat} {m : Sto} {en : En}
end
end Mp
set_option Elab.async false
set_option linter.all false
set_option maxRecDepth 100000
set_option maxHeartbeats 4000000
namespace Mp
open PySem PySem.Spec PyProof.Rows L2
section
variable {cs : Nat → List W → Sto → CR} {fs : List Fd} {gl : List W} {N k f : Nat} {m : Sto} {en : En}
theorem Rd.lstS {w : W} {ns : List Int} (h : Rd m w ns) : Mp.lstS m w = some (ns.map W.int) := by
  rcases h with rfl | ⟨r, rfl, h⟩
  · rfl
  · show lstW m (.ref r) = _
    exact lstW_ref h
theorem Rd.add {w : W} {ns : List Int} {zs : List W} (h : Rd m w ns) (hl : ns.length + zs.length ≤ LIM) {en : En} : binR .add en m (.val w) (.val (.lst zs)) = some (.new (ns.map W.int ++ zs)) := by
  rcases h with rfl | ⟨r, rfl, h⟩
  · exact add_lsts (by rw [List.length_map]; exact hl)
  · show (match Mp.lstS m (.ref r), Mp.lstS m (.lst zs) with
      | some ws, some zs => if ws.length + zs.length ≤ LIM then some (RV.new (ws ++ zs)) else none
      | _, _ => none) = _
    have e : Mp.lstS m (.ref r) = some (ns.map W.int) := lstW_ref h
    rw [e, lstS_lst]
    dsimp only
    rw [List.length_map, if_pos hl]
end
end Mp
set_option Elab.async false
set_option linter.all false
set_option maxRecDepth 100000
set_option maxHeartbeats 4000000
namespace Mp
open PySem PySem.Spec PyProof.Rows L2
section
variable {cs : Nat → List W → Sto → CR} {fs : List Fd} {gl : List W} {N k f : Nat} {m : Sto} {en : En}
theorem Rd.pd {w : W} {x : List Int} (h : Rd m w x) {n : Nat} : Mp.pd m (n + 1) w = some (W.toD (.lst (x.map W.int))) := by
  rw [← pd_rd, h.rd]
  exact pd_dat (n + 1) (.lst (x.map W.int)) (by simp only [W.dat]; exact dats_ints _ _)
end
end Mp
set_option Elab.async false
set_option linter.all false
set_option maxRecDepth 100000
set_option maxHeartbeats 4000000
namespace Mp
open PySem PySem.Spec PyProof.Rows L2
inductive Named36 (tP tT tN : List Bool) (c : Nat) : Str → Prop
  | pri : tP[c]? = some true → tT[c]? = some false → tN[c]? = some false → Named36 tP tT tN c "prime"
  | tab : tP[c]? = some false → tT[c]? = some true → tN[c]? = some false → Named36 tP tT tN c "table"
  | num : tP[c]? = some false → tT[c]? = some false → tN[c]? = some true → Named36 tP tT tN c "number"
section
variable {cs : Nat → List W → Sto → CR} {fs : List Fd} {gl : List W} {N k f c : Nat} {m m2 M : Sto} {en : En} {tw ts td : Nat} {xl : List Nat} {tL tM tN tPl tP tS tT tV : List Bool} {w SC : W} {cell mm p kind : Int}
inductive Due36 (p : Int) (tb : List Int) (mm : Int) : Str → Prop
  | prime : p ≤ 2 ^ 63 → isP p = false → Due36 p tb mm "prime"
  | table : p ∈ PRS → BadT p tb → Due36 p tb mm "table"
  | number : TabOk p tb → (mm < 1 ∨ (tb.length : Int) < 2 * mm) → Due36 p tb mm "number"
  | told : TabOk p tb → ¬ (mm < 1 ∨ (tb.length : Int) < 2 * mm) → Due36 p tb mm "told"
end
section
variable {fs : List Fd} {gl : List W} {N k f c : Nat} {m M : Sto} {en : En} {pb st ip np nt sb gB xp xt xn iv sy fi gS nh bw tw ns ts sr dg pr tbl td : Nat} {xl : List Nat} {tL tM tN tPl tP tS tT tV : List Bool} {SC : W} {cell mm p : Int} {tb : List Int}
end
end Mp
set_option Elab.async false
set_option linter.all false
set_option maxRecDepth 100000
set_option maxHeartbeats 4000000
namespace Mp
open PySem PySem.Spec PyProof.Rows L2
section
variable {cs : Nat → List W → Sto → CR} {fs : List Fd} {gl : List W} {N k f c : Nat} {m : Sto} {en : En} {p : Int}
end
end Mp
set_option Elab.async false
set_option linter.all false
set_option maxRecDepth 100000
set_option maxHeartbeats 4000000
namespace Mp
open PySem PySem.Spec PyProof.Rows L2
section
variable {cs : Nat → List W → Sto → CR} {fs : List Fd} {gl : List W} {N k f c : Nat} {m : Sto} {en : En} {p : Int}
end
end Mp
set_option Elab.async false
set_option linter.all false
set_option maxRecDepth 100000
set_option maxHeartbeats 4000000
namespace Mp
open PySem PySem.Spec PyProof.Rows L2
inductive Named39 (tP tT tR : List Bool) (c : Nat) : Str → Prop
  | pri : tP[c]? = some true → tT[c]? = some false → tR[c]? = some false → Named39 tP tT tR c "prime"
  | tab : tP[c]? = some false → tT[c]? = some true → tR[c]? = some false → Named39 tP tT tR c "table"
  | run : tP[c]? = some false → tT[c]? = some false → tR[c]? = some true → Named39 tP tT tR c "run"
section
variable {cs : Nat → List W → Sto → CR} {fs : List Fd} {gl : List W} {N k f c : Nat} {m m2 : Sto} {en : En} {p kind : Int} {ll ed to td : Nat} {xl : List Nat} {tF tL tM tN tPl tP tR tS tT tX tV : List Bool} {w2 w3 : W}
end
section
variable {fs : List Fd} {gl : List W} {N k f : Nat} {m : Sto} {en : En} {pb st ip np gB iv nr cr sv_ mp wa tw nt sb sy tn fi gS wi wp wt wm ws wl ri rc rt hl_ ak na md mn mw ms npu nru bi bd bm bb cB cW cR : Nat} {cl cp cw cc cg ck cpr cwr blw blr bll blm : List Nat} {mhl mak mmd mna mtp mts mtt mta mtd mtn mtS mtw mtc mtl mtm mto : List (Nat × Nat)}
variable {b u : Nat} {p : Int} {tb0 : List Int} {s : Wk} {ls : List W}
variable {xp xt xR : Nat}
inductive BadRun (p : Int) (xp xt xR : Nat) : List Int → List RD → Nat → Prop
  | prime {tb ds} : p ≤ 2 ^ 63 → isP p = false → BadRun p xp xt xR tb ds xp
  | table {tb ds} : p ∈ PRS → BadT p tb → BadRun p xp xt xR tb ds xt
  | run {tb ds} : TabOk p tb → (okR tb.length p 0 ds).isSome = false → BadRun p xp xt xR tb ds xR
inductive BadPut (p : Int) (xp xt xR : Nat) : List Int → List (Int × Int) → Nat → Prop
  | prime {tb qs} : p ≤ 2 ^ 63 → isP p = false → BadPut p xp xt xR tb qs xp
  | table {tb qs} : p ∈ PRS → BadT p tb → BadPut p xp xt xR tb qs xt
  | run {tb qs} : TabOk p tb → (¬ ∀ q ∈ qs, GoodP tb.length p q) → BadPut p xp xt xR tb qs xR
end
end Mp
set_option Elab.async false
set_option linter.all false
set_option maxRecDepth 100000
set_option maxHeartbeats 4000000
namespace Mp
open PySem PySem.Spec PyProof.Rows L2
section
variable {fs : List Fd} {gl : List W} {N k f c : Nat} {m M : Sto} {en : En}
end
section
variable {cs : Nat → List W → Sto → CR} {gl : List W} {N dg : Nat} {m : Sto} {SC : W} {cell mm p way v : Int} {tb : List Int} {L : Nat} {s7 s8 : Option Sl} {R_ : S}
end
section
variable {fs : List Fd} {gl : List W} {N k f c : Nat} {m M : Sto} {en : En} {pb st ip np nt sb gB xp xt xn iv sy fi gS nh bw tw ns ts sr dg pr tbl td : Nat} {xl : List Nat} {tL tM tN tPl tP tS tT tV : List Bool}
end
end Mp
set_option Elab.async false
set_option linter.all false
set_option maxRecDepth 100000
set_option maxHeartbeats 4000000
namespace Mp
open PySem PySem.Spec PyProof.Rows L2
section
variable {fs : List Fd} {gl : List W} {N k f : Nat} {m : Sto} {en : En} {pb st ip np gB iv nr cr sv_ mp wa tw nt sb sy tn fi gS wi wp wt wm ws wl ri rc rt hl_ ak na md mn mw ms npu nru bi bd bm bb cB cW cR : Nat} {cl cp cw cc cg ck cpr cwr blw blr bll blm : List Nat} {mhl mak mmd mna mtp mts mtt mta mtd mtn mtS mtw mtc mtl mtm mto : List (Nat × Nat)}
variable {b u : Nat} {p : Int} {tb0 : List Int} {s : Wk} {ls : List W}
variable {xp xt xR ll ed to td sr dg pr tbl cel ru sp ir : Nat} {xl : List Nat} {tF tL tM tN tPl tP tR tS tT tX tV : List Bool}
end
end Mp
set_option Elab.async false
set_option linter.all false
set_option maxRecDepth 100000
set_option maxHeartbeats 4000000
namespace Mp
open PySem PySem.Spec PyProof.Rows L2
section
variable {fs : List Fd} {gl : List W} {N k f : Nat} {m : Sto} {en : En} {pb st ip np gB iv nr cr sv_ mp wa tw nt sb sy tn fi gS wi wp wt wm ws wl ri rc rt hl_ ak na md mn mw ms npu nru bi bd bm bb cB cW cR : Nat} {cl cp cw cc cg ck cpr cwr blw blr bll blm : List Nat} {mhl mak mmd mna mtp mts mtt mta mtd mtn mtS mtw mtc mtl mtm mto : List (Nat × Nat)}
variable {b u : Nat} {p : Int} {tb0 : List Int} {s : Wk} {ls : List W}
variable {xp xt xR ll ed to td sr dg pr tbl cel ru sp ir : Nat} {xl : List Nat} {tF tL tM tN tPl tP tR tS tT tX tV : List Bool}
end
end Mp
set_option Elab.async false
set_option linter.all false
set_option maxRecDepth 100000
set_option maxHeartbeats 4000000
namespace Mp
open PySem PySem.Spec PyProof.Rows L2
section
variable {fs : List Fd} {gl : List W} {N k f : Nat} {m : Sto} {en : En} {pb st ip np gB iv nr cr sv_ mp wa tw nt sb sy tn fi gS wi wp wt wm ws wl ri rc rt hl_ ak na md mn mw ms npu nru bi bd bm bb cB cW cR : Nat} {cl cp cw cc cg ck cpr cwr blw blr bll blm : List Nat} {mhl mak mmd mna mtp mts mtt mta mtd mtn mtS mtw mtc mtl mtm mto : List (Nat × Nat)}
variable {b u : Nat} {p : Int} {tb0 : List Int} {s : Wk} {ls : List W}
variable {xp xt xR ll ed to td sr dg pr tbl cel ru sp ir : Nat} {xl : List Nat} {tF tL tM tN tPl tP tR tS tT tX tV : List Bool}
inductive Way39 (p : Int) (tb : List Int) (d7 d10 : Str) : Int → List Int → Str → Str → Prop
  | keep : Way39 p tb d7 d10 p tb d7 d10
  | table {t2} : BadT p t2 → t2.length ≤ tb.length + 1 → Way39 p tb d7 d10 p t2 "table" "table"
  | prime {q t2} : q ≤ 2 ^ 63 → isP q = false → t2.length ≤ tb.length + 1 → Way39 p tb d7 d10 q t2 "prime" "prime"
end
end Mp
set_option Elab.async false
set_option linter.all false
set_option maxRecDepth 100000
set_option maxHeartbeats 4000000
namespace Mp
open PySem PySem.Spec PyProof.Rows L2
section
variable {fs : List Fd} {gl : List W} {N k f : Nat} {m : Sto} {en : En} {pb st ip np gB iv nr cr sv_ mp wa tw nt sb sy tn fi gS wi wp wt wm ws wl ri rc rt hl_ ak na md mn mw ms npu nru bi bd bm bb cB cW cR : Nat} {cl cp cw cc cg ck cpr cwr blw blr bll blm : List Nat} {mhl mak mmd mna mtp mts mtt mta mtd mtn mtS mtw mtc mtl mtm mto : List (Nat × Nat)}
variable {b u : Nat} {p : Int} {tb0 : List Int} {s : Wk} {ls : List W}
variable {xp xt xR ll ed to td sr dg pr tbl cel ru sp ir : Nat} {xl : List Nat} {tF tL tM tN tPl tP tR tS tT tX tV : List Bool}
end
end Mp
set_option Elab.async false
set_option linter.all false
set_option maxRecDepth 100000
set_option maxHeartbeats 4000000
namespace Mp
open PySem PySem.Spec PyProof.Rows L2
/-! methods that refuse -/
section
variable {cs : Nat → List W → Sto → CR} {fs : List Fd} {gl : List W} {N k f g c a u v kn gr x1 x2 xp xt xn : Nat} {m m2 m3 : Sto} {en en2 en3 : En} {p cov : Int} {tb : List Int} {ls : List W} {K G : List (Key × W)} {pb st ip np nt sb gB : Nat}
theorem Wr.mth (h : Wr c m a u v p tb ls) {x : Str} {cf : List (Nat × Nat)} (hx : List.lookup x [("prime", W.int p), ("worths", .ref u), ("letters", .ref v)] = none) (hf : cf.lookup c = some g) : mthR m x cf (.ref a) = some g := mth_at h.obj hx hf
theorem Rdr.mth (h : Rdr c m a u kn gr p tb cov K G) {x : Str} {cf : List (Nat × Nat)} (hx : List.lookup x [("prime", W.int p), ("worths", .ref u), ("covered", .int cov), ("known", .ref kn), ("greatest", .ref gr)] = none) (hf : cf.lookup c = some g) : mthR m x cf (.ref a) = some g := mth_at h.obj hx hf
end
end Mp
set_option Elab.async false
set_option linter.all false
set_option maxRecDepth 100000
set_option maxHeartbeats 4000000
/-! letters brought in any order: plain -/
namespace Mp
open PySem PySem.Spec PyProof.Rows L2
section
variable {tb0 : List Int} {p : Int} {s : Wk}
end
end Mp
set_option Elab.async false
set_option linter.all false
set_option maxRecDepth 100000
set_option maxHeartbeats 8000000
/-! letters brought in an order: the walk -/
namespace Mp
open PySem PySem.Spec PyProof.Rows L2
structure K24Fs (fs : List Fd) (gl : List W) : Prop where
  f0 : fs[0]? = some ⟨3, 5, b_power_by⟩
  f1 : fs[1]? = some ⟨2, 4, b_stands 0⟩
  f2 : fs[2]? = some ⟨1, 2, b_is_prime 1 0⟩
  f3 : fs[3]? = some ⟨1, 1, b_need_prime 2⟩
  f4 : fs[4]? = some ⟨2, 3, b_need_table⟩
  f5 : fs[5]? = some ⟨3, 5, b_sum_by 0⟩
  f6 : fs[6]? = some ⟨3, 3, b_need_like 3 4⟩
  f7 : fs[7]? = some ⟨3, 4, b_places_unlike 6⟩
  f8 : fs[8]? = some ⟨3, 4, b_first_unlike_sum 7 5⟩
  f9 : fs[9]? = some ⟨3, 3, b_Writer___init__ 3 4 [0] [0, 1] [0, 1]⟩
  f10 : fs[10]? = some ⟨3, 3, b_Writer_put [0] [0, 1] [0, 1]⟩
  f11 : fs[11]? = some ⟨1, 1, b_Writer_table_v1 [0, 1]⟩
  f12 : fs[12]? = some ⟨1, 1, b_Writer_made [0]⟩
  f13 : fs[13]? = some ⟨2, 2, b_Writer_letter [0]⟩
  f14 : fs[14]? = some ⟨3, 3, b_Reader___init__ 3 4 [1] [1] [1] [0, 1] [0, 1]⟩
  f15 : fs[15]? = some ⟨2, 5, b_Reader_come [1] [1] [1] [0, 1] [0, 1]⟩
  f16 : fs[16]? = some ⟨1, 1, b_Reader_table [0, 1]⟩
  f17 : fs[17]? = some ⟨2, 4, b_Reader_how_many_lack [1] [1]⟩
  f18 : fs[18]? = some ⟨2, 3, b_Reader_missing [1] [1] [(1, 17)]⟩
  f19 : fs[19]? = some ⟨2, 3, b_Reader_asks [0, 1] [(1, 17)]⟩
  f20 : fs[20]? = some ⟨3, 3, b_Reader_need_asked [1] [1] [(1, 19)]⟩
  f21 : fs[21]? = some ⟨3, 5, b_Reader_mended [1] [0, 1]⟩
  f22 : fs[22]? = some ⟨2, 2, b_Reader_mend_none [0, 1] [(1, 21)] [(1, 20)]⟩
  f23 : fs[23]? = some ⟨2, 2, b_law_cell_at⟩
  f24 : fs[24]? = some ⟨3, 7, b_law_numbers⟩
  f25 : fs[25]? = some ⟨1, 1, b_law_prime_v1⟩
  f26 : fs[26]? = some ⟨3, 5, b_law_worth⟩
  f27 : fs[27]? = some ⟨3, 5, b_law_table_v1 26⟩
  f28 : fs[28]? = some ⟨4, 9, b_law_puts 24⟩
  f29 : fs[29]? = some ⟨2, 4, b_law_shuffled⟩
  f30 : fs[30]? = some ⟨4, 9, b_law_order_right 14 1 [(1, 19)] [(1, 15)] [(0, 13)] [(0, 12)] [(1, 22)] [(1, 18)] [(0, 11), (1, 16)]⟩
  f31 : fs[31]? = some ⟨1, 16, b_law_v42 14 9 8 23 24 30 25 28 29 27 7 1 0 [(1, 15)] [(0, 13)] [(0, 12)] [(0, 10)] [(0, 11), (1, 16)]⟩
  g0 : gl[0]? = some (.tup (([2, 3, 5, 7, 11] : List Int).map W.int))
section
variable {fs : List Fd} {gl : List W} {N k a b u : Nat} {m m2 : Sto} {en : En} {p : Int} {tb0 : List Int} {s : Wk} {ls : List W}
theorem K24Fs.tab (F : K24Fs fs gl) : TabFs fs gl 0 1 2 3 4 0 := ⟨F.f0, F.f1, F.f2, F.f3, F.f4, F.g0⟩
end
end Mp
set_option Elab.async false
set_option linter.all false
set_option maxRecDepth 100000
set_option maxHeartbeats 8000000
/-! an order of letters is right -/
namespace Mp
open PySem PySem.Spec PyProof.Rows L2
section
variable {fs : List Fd} {gl : List W} {N k a b u : Nat} {m m2 : Sto} {en : En} {p : Int} {tb0 : List Int} {s : Wk} {ls : List W}
theorem iff24_t {c : E} {s t : S} {en2 : En} {cs : Nat → List W → Sto → CR} (h : ev cs gl c en m = .ok (.val (.bl true)) en2 m2) : sv cs gl N (.iff c s t) en m = sv cs gl N s en2 m2 := by
  rw [sv_iff, h, bnd_ok, blR_bl, optp_some, if_pos rfl]
theorem iff24_f {c : E} {s t : S} {en2 : En} {cs : Nat → List W → Sto → CR} (h : ev cs gl c en m = .ok (.val (.bl false)) en2 m2) : sv cs gl N (.iff c s t) en m = sv cs gl N t en2 m2 := by
  rw [sv_iff, h, bnd_ok, blR_bl, optp_some, if_neg (by decide)]
end
end Mp
set_option Elab.async false
set_option linter.all false
set_option maxRecDepth 100000
set_option maxHeartbeats 8000000
/-! deeds of any text -/
namespace Mp
open PySem PySem.Spec PyProof.Rows L2
noncomputable def encS (q : List Nat) : W := .str (SX.S q)
theorem same_strs : ∀ {a b : List (List Nat)}, W.same (.lst (a.map encS)) (.lst (b.map encS)) = decide (a = b)
  | [], [] => rfl
  | [], _ :: _ => rfl
  | _ :: _, [] => rfl
  | x :: a, y :: b => by
    have ih := same_strs (a := a) (b := b)
    simp only [W.same, List.map_cons, W.sames] at ih ⊢
    rw [ih]
    have : W.same (encS x) (encS y) = decide (x = y) := by simp only [encS, W.same, S_beq]
    rw [this, ← Bool.decide_and]
    exact decide_eq_decide.mpr (by simp)
theorem dats_strs {n : Nat} : ∀ {a : List (List Nat)}, (∀ q ∈ a, OkT q) → W.dats n (a.map encS) = true
  | [], _ => by cases n <;> rfl
  | x :: a, h => by
    simp only [List.map_cons, W.dats]
    rw [dats_strs fun q hq => h q (List.mem_cons_of_mem _ hq), Bool.and_true]
    exact dat_S (h x List.mem_cons_self)
section
variable {cs : Nat → List W → Sto → CR} {fs : List Fd} {gl : List W} {N k f g x rn ro isn : Nat} {m : Sto} {en : En} {a : List Nat}
end
end Mp
set_option Elab.async false
set_option linter.all false
set_option maxRecDepth 100000
set_option maxHeartbeats 8000000
/-! runs of any text, told and due -/
namespace Mp
open PySem PySem.Spec PyProof.Rows L2
section
variable {cs : Nat → List W → Sto → CR} {fs : List Fd} {gl : List W} {N k f g x rn ro isn dd rd : Nat} {m : Sto} {en : En} {a : List Nat}
noncomputable def pNo : W → Bool
  | .str s => !numOk s.cps.toList
  | _ => false
theorem pNo_S (q : List Nat) : pNo (encS q) = !numOk q := by
  show (!numOk (SX.S q).cps.toList) = _
  have : (SX.S q).cps.toList = q := rfl
  rw [this]
theorem offs_words (ws : List (List Nat)) : ((ws.map encS).filter pNo).map id = (ws.filter fun q => !numOk q).map encS := by
  rw [List.map_id, List.filter_map]
  congr 1
end
end Mp
set_option Elab.async false
set_option linter.all false
set_option maxRecDepth 100000
set_option maxHeartbeats 8000000
/-! deeds drawn, written, spoilt -/
namespace Mp
open PySem PySem.Spec PyProof.Rows L2
noncomputable def PdOk (B : Int) (q : List Nat × List Int) : Prop := ((q.1 = wPut ∧ q.2.length = 2) ∨ (q.1 = wBring ∧ q.2.length = 1) ∨ (q.1 = wMend ∧ q.2 = [])) ∧ ∀ i ∈ q.2, 0 ≤ i ∧ i < B
theorem PdOk.mono {B C : Int} {q : List Nat × List Int} (h : PdOk B q) (hb : B ≤ C) : PdOk C q := ⟨h.1, fun i hi => ⟨(h.2 i hi).1, Int.lt_of_lt_of_le (h.2 i hi).2 hb⟩⟩
theorem PdOk.word {B : Int} {q : List Nat × List Int} (h : PdOk B q) : OkT q.1 ∧ q.1.length ≤ 5 ∧ 32 ∉ q.1 := by
  rcases h.1 with ⟨e, _⟩ | ⟨e, _⟩ | ⟨e, _⟩ <;> rw [e]
  · exact ⟨oS (by decide), by decide, by decide⟩
  · exact ⟨oS (by decide), by decide, by decide⟩
  · exact ⟨oS (by decide), by decide, by decide⟩
section
variable {fs : List Fd} {gl : List W} {N k f g x tk r nu : Nat} {m : Sto} {en : En}
theorem number49 (hf : fs[nu]? = some ⟨1, 1, b_law_number_v2 tk⟩) (htk : fs[tk]? = some ⟨2, 3, b_law_take⟩) {ob : Ob} (hr : m[r]? = some ob) {d0 : Int} :
    ∃ i d2, 0 ≤ i ∧ i < 10 ^ 18 ∧ callN fs gl N (k + 2) nu [.ref r] (m.set r (.lst [.int d0])) = .ok (.val (.int i)) (m.set r (.lst [.int d2])) := by
  rw [call_at hf rfl]
  obtain ⟨v, d1, q1, v0, v1⟩ := take50 (k := k) (gl := gl) (N := N) (d := d0) (n := 5) htk hr (by decide) (by decide)
  obtain ⟨B, hB, hB2, ix⟩ : ∃ B : Int, 0 < B ∧ B ≤ 10 ^ 18 ∧ atI [W.int 10, W.int 10, W.int 100, W.int (10 ^ (10 : Int).toNat), W.int (10 ^ (18 : Int).toNat)] v = some (.int B) := by
    have hv : v = 0 ∨ v = 1 ∨ v = 2 ∨ v = 3 ∨ v = 4 := by omega
    rcases hv with rfl | rfl | rfl | rfl | rfl
    · exact ⟨10, by decide, by decide, at_0⟩
    · exact ⟨10, by decide, by decide, at_1⟩
    · exact ⟨100, by decide, by decide, at_2⟩
    · exact ⟨_, by decide, by decide, at_3⟩
    · exact ⟨_, by decide, by decide, at_ok (i := 4) (by decide) rfl⟩
  obtain ⟨i, d2, q2, i0, i1⟩ := take50 (k := k) (gl := gl) (N := N) (d := d1) (n := B) htk hr hB (Int.le_trans hB2 (by decide))
  refine ⟨i, d2, i0, by omega, ?_⟩
  have pw1 : ∀ en m, binR .pow en m (.val (.int 10)) (.val (.int 10)) = some (.val (.int (10 ^ (10 : Int).toNat))) := fun en m => pow_ints (by decide)
  have pw2 : ∀ en m, binR .pow en m (.val (.int 10)) (.val (.int 18)) = some (.val (.int (10 ^ (18 : Int).toNat))) := fun en m => pow_ints (by decide)
  have ix : ∀ en m, idxR en m (.val (.lst [W.int 10, W.int 10, W.int 100, W.int (10 ^ (10 : Int).toNat), W.int (10 ^ (18 : Int).toNat)])) (.val (.int v)) = some (.int B) := fun en m => ix
  have l5 : (5 : Nat) ≤ LIM := by decide
  generalize (10 : Int) ^ (10 : Int).toNat = X1 at *
  generalize (10 : Int) ^ (18 : Int).toNat = X2 at *
  change endR (sv (callN fs gl N (k + 1)) gl N (b_law_number_v2 tk) [some (.val (.ref r))] (m.set r (.lst [.int d0]))) = _
  unfold b_law_number_v2
  simp only [sv_seq, sv_iff, sv_asg, sv_ret, sv_retn, sv_skip, sv_ex, sv_unp, ev_var, ev_int, ev_bl, ev_non, ev_str, ev_bin, ev_neg, ev_cmp, ev_chain, ev_not, ev_ite, ev_idx, ev_call, ev_blt, evl_1, evl_2, ev_and, ev_or, evAnd_1, evAnd_2, evOr_1, evOr_2, ev_fld, ev_box, boxR_new, evs_cons, evs_nil, enGet_0, enGet_s, bnd_ok, optp_some, opt2p_some, hold_val, hold_new, hold_bor, rvW_val, rvW_new, esc_val, esc_new, slOf_val, slOf_new, retR_val, retR_new, blR_bl, intR_int, toR_ok, thn_nx, thn_rt, end_nx, end_rt, List.set_cons_succ, List.set_cons_zero, List.length_cons, List.length_nil, Nat.zero_add, Nat.reduceAdd, if_true, if_false, Bool.false_eq_true, Bool.not_true, Bool.not_false, decide_true, decide_false, ev_lst, pw1, pw2, l5, q1, ix, q2]
end
end Mp
set_option Elab.async false
set_option linter.all false
set_option maxRecDepth 100000
set_option maxHeartbeats 8000000
/-! runs written; what is told of a text -/
namespace Mp
open PySem PySem.Spec PyProof.Rows L2
noncomputable def tab49 : List Bool := [false, true, true, true, true, true, true, true, true, false, true]
section
variable {cs : Nat → List W → Sto → CR} {fs : List Fd} {gl : List W} {N k f g x rn ro dd rr isn du td : Nat} {m m2 : Sto} {en : En} {a : List Nat}
theorem ne_due {z : RV} (hz : (∃ ws, z = .new ws ∧ W.dats 7 ws = true) ∨ z = .val .non) : cmpR .ne en m (hold z) (hold z) = some false := by
  rcases hz with ⟨ws, rfl, hd⟩ | rfl
  · have d : W.dat DEEP (.lst ws) = true := by simp only [DEEP, W.dat]; exact hd
    rw [hold_new, ne_sees rfl rfl (Sees.self d) (Sees.self d), W.same_refl]; rfl
  · rfl
end
end Mp
set_option Elab.async false
set_option linter.all false
set_option maxRecDepth 100000
set_option maxHeartbeats 8000000
/-! a sign in a text: how often, where first, put otherwise -/
namespace Mp
open PySem PySem.Spec PyProof.Rows L2
theorem cnt_count48 (c : Nat) : ∀ l : List Nat, PyProof.Rows.cnt c l = ((l.count c : Nat) : Int)
  | [] => rfl
  | n :: r => by
    rw [PyProof.Rows.cnt_cons, cnt_count48 c r, List.count_cons]
    by_cases e : n = c
    · rw [if_pos e, if_pos (by simpa using e)]; omega
    · rw [if_neg e, if_neg (by simpa using e)]; omega
theorem count_S (a : List Nat) (c : Nat) : Txt.count (SX.S a) (SX.S [c]) = ((a.count c : Nat) : Int) := by
  have := PyProof.Rows.count_cnt (SX.S a) c
  rw [cnt_count48] at this
  exact this
theorem occ_none {a : List Nat} {c : Nat} (h : c ∉ a) : Builtin.Str.occurrences (SX.S a) (SX.S [c]) 0 (SX.S a).length 1 = [] := by
  have := SX.in_one a c
  rw [decide_eq_false h] at this
  exact List.isEmpty_iff.mp (by simpa using this)
theorem occ_part {p q : List Nat} {c : Nat} (h : c ∉ p) : ∃ i, Builtin.Str.occurrences (SX.S (p ++ c :: q)) (SX.S [c]) 0 (SX.S (p ++ c :: q)).length 1 = [i] ∧ Builtin.Str.strSub (SX.S (p ++ c :: q)) 0 i = SX.S p ∧ Builtin.Str.strSub (SX.S (p ++ c :: q)) (i + 1) (SX.S (p ++ c :: q)).length = SX.S q := by
  have hin := SX.in_one (p ++ c :: q) c
  rw [decide_eq_true (by simp)] at hin
  have hl := StrLaws.occ_length_le (SX.S (p ++ c :: q)) (SX.S [c]) 0 (SX.S (p ++ c :: q)).length 1
  have e := SX.partition_some (a := p ++ ([c] ++ q)) (b := [c]) (p := p) (q := q) (by simp) (SX.par_head q h)
  have ea : p ++ ([c] ++ q) = p ++ c :: q := rfl
  rw [ea] at e
  unfold Txt.partition at e
  generalize Builtin.Str.occurrences (SX.S (p ++ c :: q)) (SX.S [c]) 0 (SX.S (p ++ c :: q)).length 1 = L at *
  match L, hin, hl with
  | [i], _, _ =>
    injection e with e1 e2
    injection e2 with e2 e3
    exact ⟨i, rfl, e1, e3⟩
theorem strSub_S (a : List Nat) (i j : Nat) : Builtin.Str.strSub (SX.S a) i j = SX.S ((a.take j).drop i) := by
  unfold Builtin.Str.strSub
  show (⟨(a.toArray).extract i j⟩ : Str) = ⟨_⟩
  congr 1
  simp [List.extract_toArray, List.extract_eq_drop_take, List.drop_take]
theorem occ_first {p q : List Nat} {c : Nat} (h : c ∉ p) : Builtin.Str.occurrences (SX.S (p ++ c :: q)) (SX.S [c]) 0 (SX.S (p ++ c :: q)).length 1 = [p.length] := by
  obtain ⟨i, e1, e2, e3⟩ := occ_part (q := q) h
  rw [strSub_S] at e2
  have e2 := congrArg List.length (SX.S_inj e2)
  simp only [List.drop_zero, List.length_take, List.length_append, List.length_cons] at e2
  rw [e1]
  congr 1
  omega
theorem repl_none {a : List Nat} {c : Nat} {z : List Nat} (h : c ∉ a) : repl1 (SX.S a) (SX.S [c]) (SX.S z) = SX.S a := by
  unfold repl1
  rw [occ_none h]
  rfl
theorem repl_first {p q : List Nat} {c d : Nat} (h : c ∉ p) : repl1 (SX.S (p ++ c :: q)) (SX.S [c]) (SX.S [d]) = SX.S (p ++ d :: q) := by
  have e1 := occ_first (q := q) h
  obtain ⟨i, e4, e2, e3⟩ := occ_part (q := q) h
  rw [e1] at e4
  injection e4 with e4
  subst e4
  unfold repl1
  rw [e1]
  show Builtin.Str.glued (SX.S [d]) [Builtin.Str.strSub (SX.S (p ++ c :: q)) 0 p.length, Builtin.Str.strSub (SX.S (p ++ c :: q)) (p.length + 1) (SX.S (p ++ c :: q)).length] = _
  rw [e2, e3]
  unfold Builtin.Str.glued
  show (⟨p.toArray ++ #[d] ++ q.toArray⟩ : Str) = ⟨_⟩
  congr 1
  simp
noncomputable def parC (c : Nat) : List Nat → Option (List Nat × List Nat)
  | [] => none
  | x :: r => if x = c then some ([], r) else (parC c r).map fun q => (x :: q.1, q.2)
theorem parC_none {c : Nat} : ∀ {a : List Nat}, parC c a = none → c ∉ a
  | [], _ => by simp
  | x :: r, h => by
    unfold parC at h
    by_cases e : x = c
    · rw [if_pos e] at h; cases h
    · rw [if_neg e, Option.map_eq_none_iff] at h
      have := parC_none h
      simp only [List.mem_cons, not_or]
      exact ⟨fun z => e z.symm, this⟩
theorem parC_some {c : Nat} : ∀ {a p q : List Nat}, parC c a = some (p, q) → a = p ++ c :: q ∧ c ∉ p
  | [], _, _, h => by cases h
  | x :: r, p, q, h => by
    unfold parC at h
    by_cases e : x = c
    · rw [if_pos e] at h
      cases h
      exact ⟨by rw [e]; rfl, by simp⟩
    · rw [if_neg e] at h
      obtain ⟨⟨p2, q2⟩, h1, h2⟩ := Option.map_eq_some_iff.mp h
      cases h2
      obtain ⟨g1, g2⟩ := parC_some h1
      refine ⟨by rw [g1]; rfl, ?_⟩
      simp only [List.mem_cons, not_or]
      exact ⟨fun z => e z.symm, g2⟩
theorem parC_of {c : Nat} : ∀ {p q : List Nat}, c ∉ p → parC c (p ++ c :: q) = some (p, q)
  | [], q, _ => by
    show (if c = c then _ else _) = _
    rw [if_pos rfl]
  | x :: p, q, h => by
    simp only [List.mem_cons, not_or] at h
    show (if x = c then _ else (parC c (p ++ c :: q)).map _) = _
    rw [if_neg fun z => h.1 z.symm, parC_of h.2]; rfl
noncomputable def letR (a : List Nat) : Option W := match parC 58 a with
  | none => none
  | some (u, v) => match parC 61 v with
    | none => none
    | some (p, w) => if numOk u && !decide (u = [48]) && numOk p && numOk w then some (.tup [.int ((NumText.digitsVal u : Nat) : Int), .int ((NumText.digitsVal p : Nat) : Int), .int ((NumText.digitsVal w : Nat) : Int)]) else none
theorem num_free {a : List Nat} (h : numOk a = true) {c : Nat} (hc : c < 48 ∨ 57 < c) : c ∉ a := fun hm => by
  have := List.all_eq_true.mp (numOk_dig h).1 c hm
  simp only [Bool.and_eq_true, decide_eq_true_eq] at this
  omega
theorem letR_far {a : List Nat} (h : a.count 58 ≠ 1 ∨ a.count 61 ≠ 1) : letR a = none := by
  unfold letR
  cases e1 : parC 58 a with
  | none => rfl
  | some uv =>
    obtain ⟨u, v⟩ := uv
    obtain ⟨ea, hu⟩ := parC_some e1
    dsimp only
    cases e2 : parC 61 v with
    | none => rfl
    | some pw =>
      obtain ⟨p, w⟩ := pw
      obtain ⟨ev, hp⟩ := parC_some e2
      dsimp only
      by_cases c : (numOk u && !decide (u = [48]) && numOk p && numOk w) = true
      · exfalso
        simp only [Bool.and_eq_true] at c
        obtain ⟨⟨⟨c1, _⟩, c2⟩, c3⟩ := c
        have z : ∀ x, (x = 58 ∨ x = 61) → u.count x = 0 ∧ p.count x = 0 ∧ w.count x = 0 := fun x hx => by
          have hx : x < 48 ∨ 57 < x := by omega
          exact ⟨List.count_eq_zero.mpr (num_free c1 hx), List.count_eq_zero.mpr (num_free c2 hx), List.count_eq_zero.mpr (num_free c3 hx)⟩
        have z1 := z 58 (.inl rfl)
        have z2 := z 61 (.inr rfl)
        rw [ea, ev] at h
        simp only [List.count_append, List.count_cons, z1, z2] at h
        simp at h
      · rw [if_neg c]
theorem letR_before {u v : List Nat} (hu : 58 ∉ u) (h : 61 ∈ u) : letR (u ++ 58 :: v) = none := by
  unfold letR
  rw [parC_of hu]
  dsimp only
  cases e2 : parC 61 v with
  | none => rfl
  | some pw =>
    obtain ⟨p, w⟩ := pw
    dsimp only
    rw [if_neg]
    intro c
    simp only [Bool.and_eq_true] at c
    exact num_free c.1.1.1 (c := 61) (by omega) h
section
variable {cs : Nat → List W → Sto → CR} {fs : List Fd} {gl : List W} {N k f g x rn ro isn : Nat} {m : Sto} {en : En} {a : List Nat}
theorem tcnt_ev {x y : E} {c : Nat} {en2 en3 : En} {m2 m3 : Sto} (h1 : ev cs gl x en m = .ok (.val (.str (SX.S a))) en2 m2) (h2 : ev cs gl y en2 m2 = .ok (.val (.str (SX.S [c]))) en3 m3) : ev cs gl (.tcnt x y) en m = .ok (.val (.int ((a.count c : Nat) : Int))) en3 m3 := by
  simp only [ev, h1, bind_okR, rvW_val, Option.bind_some, strW, opt_someR, h2, count_S]
theorem tidx_ev {x y : E} {c : Nat} {p q : List Nat} {en2 en3 : En} {m2 m3 : Sto} (h1 : ev cs gl x en m = .ok (.val (.str (SX.S (p ++ c :: q)))) en2 m2) (h2 : ev cs gl y en2 m2 = .ok (.val (.str (SX.S [c]))) en3 m3) (hp : c ∉ p) : ev cs gl (.tidx x y) en m = .ok (.val (.int (p.length : Int))) en3 m3 := by
  simp only [ev, h1, bind_okR, rvW_val, Option.bind_some, strW, opt_someR, h2, occ_first hp, List.head?_cons]
noncomputable def eqC (a : List Nat) : List Nat := match parC 61 a with
  | none => a
  | some (p, q) => p ++ 58 :: q
theorem repl_eqC (a : List Nat) : repl1 (SX.S a) (SX.S [61]) (SX.S [58]) = SX.S (eqC a) := by
  unfold eqC
  cases e : parC 61 a with
  | none => exact repl_none (parC_none e)
  | some pq =>
    obtain ⟨p, q⟩ := pq
    obtain ⟨ea, hp⟩ := parC_some e
    dsimp only
    rw [ea]
    exact repl_first hp
theorem eqC_len (a : List Nat) : (eqC a).length = a.length := by
  unfold eqC
  cases e : parC 61 a with
  | none => rfl
  | some pq =>
    obtain ⟨p, q⟩ := pq
    obtain ⟨ea, hp⟩ := parC_some e
    dsimp only
    rw [ea]; simp
theorem eqC_ok (ha : OkT a) : OkT (eqC a) := by
  unfold eqC
  cases e : parC 61 a with
  | none => exact ha
  | some pq =>
    obtain ⟨p, q⟩ := pq
    obtain ⟨ea, hp⟩ := parC_some e
    dsimp only
    rw [ea] at ha
    intro c hc
    rcases List.mem_append.mp hc with h | h
    · exact ha c (List.mem_append_left _ h)
    · rcases List.mem_cons.mp h with h | h
      · omega
      · exact ha c (List.mem_append_right _ (List.mem_cons_of_mem _ h))
theorem rsp_sv {z1 z2 : Option Sl} (hl : a.length ≤ 10000) : sv cs gl N (.rsp 1 0 "=" ":" ":") [some (.val (.str (SX.S a))), z1, z2] m = .ok .nx [some (.val (.str (SX.S a))), some (.own ((splT [58] (eqC a)).map encS)), z2] m := by
  have e := repl_eqC a
  have hs := SX.split_S (a := eqC a) (b := [58]) (by simp) (by decide)
  have c1 : ("=" : Str) = SX.S [61] := rfl
  have c2 : (":" : Str) = SX.S [58] := rfl
  have l := eqC_len a
  simp only [sv]
  show (if _ ∧ _ ∧ _ ∧ _ then _ else _) = _
  rw [c1, c2, e, hs, if_pos]
  · show R.ok Out.nx [_, some (Sl.own (List.map W.str (List.map SX.S (TL.spl [58] 0 [] (eqC a))))), _] m = _
    rw [List.map_map]; rfl
  · refine ⟨rfl, by decide, ?_, ?_⟩
    · rw [SX.S_len, SX.S_len]; unfold LIM; simp; omega
    · rw [SX.S_len]; unfold LIM; omega
end
end Mp
set_option Elab.async false
set_option linter.all false
set_option maxRecDepth 100000
set_option maxHeartbeats 8000000
/-! tables and letters of any text, read and looked at -/
namespace Mp
open PySem PySem.Spec PyProof.Rows L2
noncomputable def numsW (ws : List (List Nat)) : List W := ws.map fun q => .int ((NumText.digitsVal q : Nat) : Int)
noncomputable def tabR (a : List Nat) : RV := if (splT [32] a).all numOk then .new (numsW (splT [32] a)) else .val .non
noncomputable def letV (a : List Nat) : RV := match letR a with
  | some w => .val w
  | none => .val .non
theorem map_numE (x : Nat) : ∀ ws : List (List Nat), mapE (numE x) ws = if ws.all numOk then .ok (numsW ws) else .error x
  | [] => rfl
  | q :: ws => by
    unfold mapE numE
    rw [List.all_cons]
    cases h : numOk q with
    | false => rfl
    | true =>
      have ih := map_numE x ws
      rw [if_pos rfl, Bool.true_and]
      dsimp only
      have e : mapE (fun a => if numOk a = true then (.ok (.int ((NumText.digitsVal a : Nat) : Int)) : Except Nat W) else .error x) ws = mapE (numE x) ws := rfl
      rw [e, ih]
      cases ws.all numOk <;> rfl
theorem filt_all {ws : List (List Nat)} : decide (ws.filter (fun q => !numOk q) = []) = ws.all numOk := by
  rw [Bool.eq_iff_iff, decide_eq_true_eq, List.filter_eq_nil_iff, List.all_eq_true]
  exact ⟨fun h q hq => by simpa using h q hq, fun h q hq => by simpa using h q hq⟩
theorem nums_dat : ∀ {n : Nat} {ws : List (List Nat)}, W.dats n (numsW ws) = true
  | n, [] => by cases n <;> rfl
  | n, q :: ws => by
    have := nums_dat (n := n) (ws := ws)
    cases n <;> simpa [numsW, W.dats, W.dat] using this
theorem tabR_form (a : List Nat) : (∃ ws, tabR a = .new ws ∧ W.dats 7 ws = true) ∨ tabR a = .val .non := by
  unfold tabR
  split
  · exact .inl ⟨_, rfl, nums_dat⟩
  · exact .inr rfl
theorem letR_dat {a : List Nat} {w : W} (h : letR a = some w) : W.dat DEEP w = true := by
  unfold letR at h
  cases e1 : parC 58 a with
  | none => rw [e1] at h; cases h
  | some uv =>
    rw [e1] at h
    dsimp only at h
    cases e2 : parC 61 uv.2 with
    | none => rw [e2] at h; cases h
    | some pw =>
      rw [e2] at h
      dsimp only at h
      by_cases c : (numOk uv.1 && !decide (uv.1 = [48]) && numOk pw.1 && numOk pw.2) = true
      · rw [if_pos c] at h
        cases h
        simp only [DEEP, W.dat, W.dats, Bool.and_true]
      · rw [if_neg c] at h
        cases h
theorem letV_form (a : List Nat) : ∃ w, letV a = .val w ∧ W.dat DEEP w = true := by
  unfold letV
  cases e : letR a with
  | none => exact ⟨.non, rfl, rfl⟩
  | some w => exact ⟨w, rfl, letR_dat e⟩
theorem cl_vals48 {cs : Nat → List W → Sto → CR} {gl : List W} {m : Sto} {en : En} {A : Type} {tg : Tg} {js : List Nat} {elt : E} {ck : List (Nat × List W)} (enc g : A → W) (hk : chk ck m = true) : ∀ {as : List A}, (∀ a ∈ as, ∃ en2, bindT tg (enc a) m en = some en2 ∧ wipeE en2 js = en ∧ ev cs gl elt en2 m = .ok (.val (g a)) en2 m) →
    cl cs gl tg js .nil elt ck (as.map enc) en m = .ok (as.map g) en m
  | [], _ => cl_nil hk
  | a :: as, h => by
    obtain ⟨en2, h1, h2, h3⟩ := h a List.mem_cons_self
    rw [List.map_cons, cl_keep hk h1 (en3 := en2) (m3 := m) (by simp [isNil]) h3 rfl, h2, cl_vals48 enc g hk fun b hb => h b (List.mem_cons_of_mem _ hb)]
    rfl
section
variable {cs : Nat → List W → Sto → CR} {fs : List Fd} {gl : List W} {N k f g x rn ro isn : Nat} {m : Sto} {en : En} {a : List Nat}
theorem read_table48 (hf : fs[f]? = some ⟨1, 2, b_read_table_v1 rn⟩) (hn : fs[rn]? = some ⟨1, 2, b_read_number_v1 g x⟩) (hg : gl[g]? = some (.str "0123456789")) (ha : OkT a) (hl : a.length ≤ 600) :
    callN fs gl N (k + 2) f [.str (SX.S a)] m = match tabR a with
      | .new ws => .ok (.new ws) m
      | _ => .ex x m := by
  rw [call_at hf rfl]
  change endR (sv (callN fs gl N (k + 1)) gl N (b_read_table_v1 rn) [some (.val (.str (SX.S a))), none] m) = _
  unfold b_read_table_v1 tabR
  have sp := split_ev (cs := callN fs gl N (k + 1)) (gl := gl) (x := .var 0) (y := .str " ") (a := a) (sep := [32]) (en := [some (.val (.str (SX.S a))), none]) (m := m) rfl rfl (by decide) (by decide) (by omega)
  have hw : ∀ q ∈ splT [32] a, OkT q := fun q hq => splT_ok hq ha
  have hwl : ∀ q ∈ splT [32] a, q.length ≤ 640 := fun q hq => Nat.le_trans (splT_mem hq).2 (by omega)
  have hne : (splT [32] a).length ≤ a.length + 1 := (spl_many (sep := [32]) a 0 []).1
  have src : evs (callN fs gl N (k + 1)) gl (.cons (.mth .split (.var 0) (.str " ")) .nil) [some (.val (.str (SX.S a))), none] m = .ok [.lst ((splT [32] a).map encS)] [some (.val (.str (SX.S a))), none] m := by
    rw [evs_cons, sp, bnd_ok, esc_new, opt2p_some, evs_nil, bnd_ok]; rfl
  have hx := compx_call (cs := callN fs gl N (k + 1)) (gl := gl) (m := m) encS (numE x) (f := rn) (j := 1) src (fun q hq => numE_run (k := k) (N := N) hn hg (hw q hq) (hwl q hq)) (by unfold LIM; omega) (fun w => rfl) rfl rfl (by simp)
  rw [sv_seq, sv_ret, hx, map_numE]
  cases (splT [32] a).all numOk <;> rfl
theorem offs48 (hi : fs[isn]? = some ⟨1, 2, b_law_is_number_v1⟩) {A_ : W} {ws : List (List Nat)} (hw : ∀ q ∈ ws, OkT q) (hwl : ∀ q ∈ ws, q.length ≤ 640) (hl : ws.length ≤ 1000) :
    ev (callN fs gl N (k + 1)) gl (.cmp .ne (.comp .list (.cons (.var 1) .nil) (.one 2) [2] (.not (.call isn 1 (.cons (.var 2) .nil))) (.var 2)) (.lst .nil)) [some (.val A_), some (.own (ws.map encS)), none] m = .ok (.val (.bl (!ws.all numOk))) [some (.val A_), some (.val (.lst (ws.map encS))), none] m := by
  have hcl := cl_map (cs := callN fs gl N (k + 1)) (gl := gl) (m := m) (en := [some (.val A_), some (.val (.lst (ws.map encS))), none]) (tg := .one 2) (js := [2]) (c := .not (.call isn 1 (.cons (.var 2) .nil))) (elt := .var 2) (ck := []) pNo id (zs := ws.map encS) rfl (fun z hz => by
    obtain ⟨q, hq, rfl⟩ := List.mem_map.mp hz
    have q1 := is_number_run (k := k) (gl := gl) (N := N) (m := m) hi (hw q hq) (by have := hwl q hq; omega)
    refine ⟨[some (.val A_), some (.val (.lst (ws.map encS))), some (.val (encS q))], rfl, rfl, ?_, fun _ => ?_⟩
    · rw [if_neg (by simp [isNil]), pNo_S]
      generalize ws.map encS = G2
      have q1 : callN fs gl N (k + 1) isn [encS q] m = _ := q1
      generalize encS q = G3 at *
      simp only [sv_seq, sv_iff, sv_asg, sv_ret, sv_retn, sv_skip, sv_ex, sv_unp, ev_var, ev_int, ev_bl, ev_non, ev_str, ev_bin, ev_neg, ev_cmp, ev_chain, ev_not, ev_ite, ev_idx, ev_call, ev_blt, evl_1, evl_2, ev_and, ev_or, evAnd_1, evAnd_2, evOr_1, evOr_2, ev_fld, ev_box, boxR_new, evs_cons, evs_nil, enGet_0, enGet_s, bnd_ok, optp_some, opt2p_some, hold_val, hold_new, hold_bor, rvW_val, rvW_new, esc_val, esc_new, slOf_val, slOf_new, retR_val, retR_new, blR_bl, intR_int, toR_ok, thn_nx, thn_rt, end_nx, end_rt, List.set_cons_succ, List.set_cons_zero, List.length_cons, List.length_nil, Nat.zero_add, Nat.reduceAdd, if_true, if_false, Bool.false_eq_true, Bool.not_true, Bool.not_false, decide_true, decide_false, q1]
    · generalize ws.map encS = G2
      generalize encS q = G3 at *
      simp only [sv_seq, sv_iff, sv_asg, sv_ret, sv_retn, sv_skip, sv_ex, sv_unp, ev_var, ev_int, ev_bl, ev_non, ev_str, ev_bin, ev_neg, ev_cmp, ev_chain, ev_not, ev_ite, ev_idx, ev_call, ev_blt, evl_1, evl_2, ev_and, ev_or, evAnd_1, evAnd_2, evOr_1, evOr_2, ev_fld, ev_box, boxR_new, evs_cons, evs_nil, enGet_0, enGet_s, bnd_ok, optp_some, opt2p_some, hold_val, hold_new, hold_bor, rvW_val, rvW_new, esc_val, esc_new, slOf_val, slOf_new, retR_val, retR_new, blR_bl, intR_int, toR_ok, thn_nx, thn_rt, end_nx, end_rt, List.set_cons_succ, List.set_cons_zero, List.length_cons, List.length_nil, Nat.zero_add, Nat.reduceAdd, if_true, if_false, Bool.false_eq_true, Bool.not_true, Bool.not_false, decide_true, decide_false, id_eq])
  rw [offs_words] at hcl
  have src : evs (callN fs gl N (k + 1)) gl (.cons (.var 1) .nil) [some (.val A_), some (.own (ws.map encS)), none] m = .ok [.lst (ws.map encS)] [some (.val A_), some (.val (.lst (ws.map encS))), none] m := by
    rw [evs_cons, ev_var]
    rfl
  have hm := comp_runm (it := .list) src rfl (by rw [List.length_map]; unfold LIM; omega) rfl hcl rfl
  have hf2 : ∀ q ∈ ws.filter fun q => !numOk q, OkT q := fun q hq => hw q (List.mem_filter.mp hq).1
  have l0 : (0 : Nat) ≤ LIM := by decide
  have ne0 : ∀ en, cmpR .ne en m (.val (.lst ((ws.filter fun q => !numOk q).map encS))) (.val (.lst [])) = some (!ws.all numOk) := fun en => by
    have d1 : W.dat DEEP (.lst ((ws.filter fun q => !numOk q).map encS)) = true := by simp only [DEEP, W.dat]; exact dats_strs hf2
    rw [ne_sees rfl rfl (Sees.self d1) (Sees.self (by rfl))]
    have := same_strs (a := ws.filter fun q => !numOk q) (b := [])
    rw [show (W.lst []) = W.lst (([] : List (List Nat)).map encS) from rfl, this, filt_all]
  rw [ev_cmp, hm, bnd_ok, ev_lst, evs_nil, bnd_ok, if_pos (by exact l0), bnd_ok, hold_new, hold_new, ne0, optp_some]
  rfl
theorem ints48 {A_ : W} {ws : List (List Nat)} (hw : ws.all numOk = true) (hwl : ∀ q ∈ ws, q.length ≤ 640) (hl : ws.length ≤ 1000) :
    ev cs gl (.comp .list (.cons (.var 1) .nil) (.one 2) [2] .nil (.blt .int (.cons (.var 2) .nil))) [some (.val A_), some (.val (.lst (ws.map encS))), none] m = .ok (.new (numsW ws)) [some (.val A_), some (.val (.lst (ws.map encS))), none] m := by
  have hk := List.all_eq_true.mp hw
  have hcl := cl_vals48 (cs := cs) (gl := gl) (m := m) (en := [some (.val A_), some (.val (.lst (ws.map encS))), none]) (tg := .one 2) (js := [2]) (elt := .blt .int (.cons (.var 2) .nil)) (ck := []) encS (fun q => W.int ((NumText.digitsVal q : Nat) : Int)) rfl (as := ws) (fun q hq => by
    refine ⟨[some (.val A_), some (.val (.lst (ws.map encS))), some (.val (encS q))], rfl, rfl, ?_⟩
    have v1 := int_S (m := m) (numOk_dig (hk q hq)).1 (numOk_dig (hk q hq)).2 (hwl q hq)
    have v1 : bltR .int m [encS q] = _ := v1
    generalize ws.map encS = G2
    generalize encS q = G3 at *
    simp only [sv_seq, sv_iff, sv_asg, sv_ret, sv_retn, sv_skip, sv_ex, sv_unp, ev_var, ev_int, ev_bl, ev_non, ev_str, ev_bin, ev_neg, ev_cmp, ev_chain, ev_not, ev_ite, ev_idx, ev_call, ev_blt, evl_1, evl_2, ev_and, ev_or, evAnd_1, evAnd_2, evOr_1, evOr_2, ev_fld, ev_box, boxR_new, evs_cons, evs_nil, enGet_0, enGet_s, bnd_ok, optp_some, opt2p_some, hold_val, hold_new, hold_bor, rvW_val, rvW_new, esc_val, esc_new, slOf_val, slOf_new, retR_val, retR_new, blR_bl, intR_int, toR_ok, thn_nx, thn_rt, end_nx, end_rt, List.set_cons_succ, List.set_cons_zero, List.length_cons, List.length_nil, Nat.zero_add, Nat.reduceAdd, if_true, if_false, Bool.false_eq_true, Bool.not_true, Bool.not_false, decide_true, decide_false, v1])
  have src : evs cs gl (.cons (.var 1) .nil) [some (.val A_), some (.val (.lst (ws.map encS))), none] m = .ok [.lst (ws.map encS)] [some (.val A_), some (.val (.lst (ws.map encS))), none] m := by
    rw [evs_cons, ev_var]
    rfl
  exact comp_runm (it := .list) src rfl (by rw [List.length_map]; unfold LIM; omega) rfl hcl rfl
theorem table_due48 (hf : fs[f]? = some ⟨1, 3, b_law_table_due isn⟩) (hi : fs[isn]? = some ⟨1, 2, b_law_is_number_v1⟩) (ha : OkT a) (hl : a.length ≤ 600) :
    callN fs gl N (k + 2) f [.str (SX.S a)] m = .ok (tabR a) m := by
  rw [call_at hf rfl]
  have sp := split_ev (cs := callN fs gl N (k + 1)) (gl := gl) (x := .var 0) (y := .str " ") (a := a) (sep := [32]) (en := [some (.val (.str (SX.S a))), none, none]) (m := m) rfl rfl (by decide) (by decide) (by omega)
  have hw : ∀ q ∈ splT [32] a, OkT q := fun q hq => splT_ok hq ha
  have hwl : ∀ q ∈ splT [32] a, q.length ≤ 640 := fun q hq => Nat.le_trans (splT_mem hq).2 (by omega)
  have hne : (splT [32] a).length ≤ a.length + 1 := (spl_many (sep := [32]) a 0 []).1
  have sp : ev (callN fs gl N (k + 1)) gl (.mth .split (.var 0) (.str " ")) [some (.val (.str (SX.S a))), none, none] m = .ok (.new ((splT [32] a).map encS)) [some (.val (.str (SX.S a))), none, none] m := sp
  unfold tabR
  generalize splT [32] a = ws at *
  have hl2 : ws.length ≤ 1000 := by omega
  have a1 : sv (callN fs gl N (k + 1)) gl N (.asg 1 (.mth .split (.var 0) (.str " "))) [some (.val (.str (SX.S a))), none, none] m = .ok .nx [some (.val (.str (SX.S a))), some (.own (ws.map encS)), none] m := by
    rw [sv_asg, sp, bnd_ok, slOf_new, opt2p_some]; rfl
  generalize W.str (SX.S a) = A_ at *
  have cnd := offs48 (k := k) (gl := gl) (N := N) (m := m) hi (A_ := A_) hw hwl hl2
  change endR (sv (callN fs gl N (k + 1)) gl N (b_law_table_due isn) [some (.val A_), none, none] m) = _
  unfold b_law_table_due
  rw [sv_seq, a1, thn_nx]
  cases h : ws.all numOk with
  | true =>
    rw [h] at cnd
    have iv := ints48 (cs := callN fs gl N (k + 1)) (gl := gl) (m := m) (A_ := A_) h hwl hl2
    rw [sv_seq, iff24_f cnd, sv_skip, thn_nx, sv_seq, sv_ret, iv]
    rfl
  | false =>
    rw [h] at cnd
    rw [sv_seq, iff24_t cnd]
    rfl
end
end Mp
set_option Elab.async false
set_option linter.all false
set_option maxRecDepth 100000
set_option maxHeartbeats 8000000
/-! letters of any text, read and looked at -/
namespace Mp
open PySem PySem.Spec PyProof.Rows L2
section
variable {cs : Nat → List W → Sto → CR} {fs : List Fd} {gl : List W} {N k f g x rn ro isn : Nat} {m : Sto} {en : En} {a : List Nat}
theorem part_none48 {e1 e2 : E} {en2 en3 : En} {m2 m3 : Sto} {s : Nat} (h1 : ev cs gl e1 en m = .ok (.val (.str (SX.S a))) en2 m2) (h2 : ev cs gl e2 en2 m2 = .ok (.val (.str (SX.S [s]))) en3 m3) (hf : s ∉ a) (hl : a.length ≤ 10000) :
    ev cs gl (.mth .part e1 e2) en m = .ok (.val (.tup [.str (SX.S a), .str (SX.S []), .str (SX.S [])])) en3 m3 := by
  have e := SX.partition_none (a := a) (b := [s]) (by simp) (SX.par_head_none hf)
  simp only [ev, h1, bind_okR, rvW_val, Option.bind_some, strW, opt_someR, h2]
  rw [if_pos ⟨rfl, by rw [SX.S_len]; unfold LIM; omega⟩, e]
noncomputable def parts48 (s : Nat) (a : List Nat) : List Nat × List Nat × List Nat := match parC s a with
  | none => (a, [], [])
  | some (p, q) => (p, [s], q)
theorem part48 {e1 e2 : E} {en2 en3 : En} {m2 m3 : Sto} {s : Nat} (h1 : ev cs gl e1 en m = .ok (.val (.str (SX.S a))) en2 m2) (h2 : ev cs gl e2 en2 m2 = .ok (.val (.str (SX.S [s]))) en3 m3) (hl : a.length ≤ 10000) :
    ev cs gl (.mth .part e1 e2) en m = .ok (.val (.tup [.str (SX.S (parts48 s a).1), .str (SX.S (parts48 s a).2.1), .str (SX.S (parts48 s a).2.2)])) en3 m3 := by
  unfold parts48
  cases e : parC s a with
  | none => exact part_none48 h1 h2 (parC_none e) hl
  | some pq =>
    obtain ⟨p, q⟩ := pq
    obtain ⟨ea, hp⟩ := parC_some e
    subst ea
    exact part_ev (s := s) (p := p) (q := q) h1 h2 hp hl
theorem parts48_ok {s : Nat} (hs : s < 128) (ha : OkT a) : OkT (parts48 s a).1 ∧ OkT (parts48 s a).2.1 ∧ OkT (parts48 s a).2.2 ∧ (parts48 s a).1.length ≤ a.length ∧ (parts48 s a).2.2.length ≤ a.length := by
  unfold parts48
  cases e : parC s a with
  | none => exact ⟨ha, fun c hc => (by cases hc), fun c hc => (by cases hc), Nat.le_refl _, Nat.zero_le _⟩
  | some pq =>
    obtain ⟨p, q⟩ := pq
    obtain ⟨ea, hp⟩ := parC_some e
    subst ea
    refine ⟨fun c hc => ha c (List.mem_append_left _ hc), fun c hc => by rw [List.mem_singleton] at hc; omega, fun c hc => ha c (List.mem_append_right _ (List.mem_cons_of_mem _ hc)), ?_, ?_⟩
    · rw [List.length_append]; exact Nat.le_add_right _ _
    · rw [List.length_append, List.length_cons]; show q.length ≤ _; omega
theorem letR_parts (a : List Nat) : letR a = if decide ((parts48 58 a).2.1 = []) || decide ((parts48 61 (parts48 58 a).2.2).2.1 = []) then none else
    if numOk (parts48 58 a).1 && !decide ((parts48 58 a).1 = [48]) && numOk (parts48 61 (parts48 58 a).2.2).1 && numOk (parts48 61 (parts48 58 a).2.2).2.2 then some (.tup [.int ((NumText.digitsVal (parts48 58 a).1 : Nat) : Int), .int ((NumText.digitsVal (parts48 61 (parts48 58 a).2.2).1 : Nat) : Int), .int ((NumText.digitsVal (parts48 61 (parts48 58 a).2.2).2.2 : Nat) : Int)]) else none := by
  unfold letR parts48
  cases e : parC 58 a with
  | none => rfl
  | some uv =>
    obtain ⟨u, v⟩ := uv
    dsimp only
    cases e2 : parC 61 v with
    | none => rfl
    | some pw => rfl
theorem read_letter48 (hf : fs[f]? = some ⟨1, 7, b_read_letter_v1 ro rn x⟩) (ho : fs[ro]? = some ⟨1, 2, b_read_from_one_v1 rn x⟩) (hn : fs[rn]? = some ⟨1, 2, b_read_number_v1 g x⟩) (hg : gl[g]? = some (.str "0123456789")) (ha : OkT a) (hl : a.length ≤ 600) :
    callN fs gl N (k + 3) f [.str (SX.S a)] m = match letR a with
      | some w => .ok (.val w) m
      | none => .ex x m := by
  rw [call_at hf rfl, letR_parts]
  obtain ⟨o1, o2, o3, o4, o5⟩ := parts48_ok (s := 58) (by decide) ha
  have p1 := part48 (cs := callN fs gl N (k + 2)) (gl := gl) (s := 58) (e1 := .var 0) (e2 := .str ":") (en := [some (.val (.str (SX.S a))), none, none, none, none, none, none]) (m := m) (a := a) rfl rfl (by omega)
  have p2 := part48 (cs := callN fs gl N (k + 2)) (gl := gl) (s := 61) (e1 := .var 3) (e2 := .str "=") (en := [some (.val (.str (SX.S a))), some (.val (.str (SX.S (parts48 58 a).1))), some (.val (.str (SX.S (parts48 58 a).2.1))), some (.val (.str (SX.S (parts48 58 a).2.2))), none, none, none]) (m := m) (a := (parts48 58 a).2.2) rfl rfl (by omega)
  generalize (parts48 58 a).1 = u at *
  generalize (parts48 58 a).2.1 = c at *
  generalize (parts48 58 a).2.2 = v at *
  obtain ⟨r1, r2, r3, r4, r5⟩ := parts48_ok (s := 61) (by decide) o3
  generalize (parts48 61 v).1 = p at *
  generalize (parts48 61 v).2.1 = s at *
  generalize (parts48 61 v).2.2 = w at *
  have n1 := oneE_run (k := k) (N := N) (m := m) ho hn hg o1 (by omega)
  have n2 := numE_run (k := k + 1) (N := N) (m := m) hn hg r1 (by omega)
  have n3 := numE_run (k := k + 1) (N := N) (m := m) hn hg r3 (by omega)
  have on : OkT [] := fun c hc => (by cases hc)
  have c1 : ∀ en, cmpR .eq en m (.val (.str (SX.S c))) (.val (.str "")) = some (decide (c = [])) := fun en => eq_S o2 on
  have c2 : ∀ en, cmpR .eq en m (.val (.str (SX.S s))) (.val (.str "")) = some (decide (s = [])) := fun en => eq_S r2 on
  have l3 : (3 : Nat) ≤ LIM := by decide
  have b1 : ∀ en, bindT (.many [1, 2, 3]) (.tup [.str (SX.S u), .str (SX.S c), .str (SX.S v)]) m en = some (((en.set 1 (some (.val (.str (SX.S u))))).set 2 (some (.val (.str (SX.S c))))).set 3 (some (.val (.str (SX.S v))))) := fun en => rfl
  have b2 : ∀ en, bindT (.many [4, 5, 6]) (.tup [.str (SX.S p), .str (SX.S s), .str (SX.S w)]) m en = some (((en.set 4 (some (.val (.str (SX.S p))))).set 5 (some (.val (.str (SX.S s))))).set 6 (some (.val (.str (SX.S w))))) := fun en => rfl
  have s1 : sv (callN fs gl N (k + 2)) gl N (.unp (.many [1, 2, 3]) (.mth .part (.var 0) (.str ":"))) [some (.val (.str (SX.S a))), none, none, none, none, none, none] m = .ok .nx [some (.val (.str (SX.S a))), some (.val (.str (SX.S u))), some (.val (.str (SX.S c))), some (.val (.str (SX.S v))), none, none, none] m := by
    rw [sv_unp, p1, bnd_ok, esc_val, opt2p_some, b1, optp_some]; rfl
  have s2 : sv (callN fs gl N (k + 2)) gl N (.unp (.many [4, 5, 6]) (.mth .part (.var 3) (.str "="))) [some (.val (.str (SX.S a))), some (.val (.str (SX.S u))), some (.val (.str (SX.S c))), some (.val (.str (SX.S v))), none, none, none] m = .ok .nx [some (.val (.str (SX.S a))), some (.val (.str (SX.S u))), some (.val (.str (SX.S c))), some (.val (.str (SX.S v))), some (.val (.str (SX.S p))), some (.val (.str (SX.S s))), some (.val (.str (SX.S w)))] m := by
    rw [sv_unp, p2, bnd_ok, esc_val, opt2p_some, b2, optp_some]; rfl
  change endR (sv (callN fs gl N (k + 2)) gl N (b_read_letter_v1 ro rn x) [some (.val (.str (SX.S a))), none, none, none, none, none, none] m) = _
  unfold b_read_letter_v1
  rw [sv_seq, s1, thn_nx, sv_seq, s2, thn_nx]
  unfold oneE at n1
  unfold numE at n2 n3
  generalize SX.S a = A_ at *
  generalize SX.S u = U_ at *
  generalize SX.S c = C_ at *
  generalize SX.S v = V_ at *
  generalize SX.S p = P_ at *
  generalize SX.S s = S_ at *
  generalize SX.S w = W_ at *
  generalize NumText.digitsVal u = D1 at *
  generalize NumText.digitsVal p = D2 at *
  generalize NumText.digitsVal w = D3 at *
  generalize decide (c = []) = B1 at *
  generalize decide (s = []) = B2 at *
  generalize (numOk u && !decide (u = [48])) = K1 at *
  generalize numOk p = K2 at *
  generalize numOk w = K3 at *
  cases B1 with
  | true => simp only [sv_seq, sv_iff, sv_asg, sv_ret, sv_retn, sv_skip, sv_ex, sv_unp, ev_var, ev_int, ev_bl, ev_non, ev_str, ev_bin, ev_neg, ev_cmp, ev_chain, ev_not, ev_ite, ev_idx, ev_call, ev_blt, evl_1, evl_2, ev_and, ev_or, evAnd_1, evAnd_2, evOr_1, evOr_2, ev_fld, ev_box, boxR_new, evs_cons, evs_nil, enGet_0, enGet_s, bnd_ok, optp_some, opt2p_some, hold_val, hold_new, hold_bor, rvW_val, rvW_new, esc_val, esc_new, slOf_val, slOf_new, retR_val, retR_new, blR_bl, intR_int, toR_ok, thn_nx, thn_rt, end_nx, end_rt, List.set_cons_succ, List.set_cons_zero, List.length_cons, List.length_nil, Nat.zero_add, Nat.reduceAdd, if_true, if_false, Bool.false_eq_true, Bool.not_true, Bool.not_false, decide_true, decide_false, raise_st, thn_ex, end_ex, bnd_exR, toR_exR, c1, Bool.true_or]
  | false =>
    cases B2 with
    | true => simp only [sv_seq, sv_iff, sv_asg, sv_ret, sv_retn, sv_skip, sv_ex, sv_unp, ev_var, ev_int, ev_bl, ev_non, ev_str, ev_bin, ev_neg, ev_cmp, ev_chain, ev_not, ev_ite, ev_idx, ev_call, ev_blt, evl_1, evl_2, ev_and, ev_or, evAnd_1, evAnd_2, evOr_1, evOr_2, ev_fld, ev_box, boxR_new, evs_cons, evs_nil, enGet_0, enGet_s, bnd_ok, optp_some, opt2p_some, hold_val, hold_new, hold_bor, rvW_val, rvW_new, esc_val, esc_new, slOf_val, slOf_new, retR_val, retR_new, blR_bl, intR_int, toR_ok, thn_nx, thn_rt, end_nx, end_rt, List.set_cons_succ, List.set_cons_zero, List.length_cons, List.length_nil, Nat.zero_add, Nat.reduceAdd, if_true, if_false, Bool.false_eq_true, Bool.not_true, Bool.not_false, decide_true, decide_false, raise_st, thn_ex, end_ex, bnd_exR, toR_exR, c1, c2, Bool.or_true]
    | false =>
      cases K1 with
      | false =>
        rw [if_neg (by decide)] at n1
        simp only [sv_seq, sv_iff, sv_asg, sv_ret, sv_retn, sv_skip, sv_ex, sv_unp, ev_var, ev_int, ev_bl, ev_non, ev_str, ev_bin, ev_neg, ev_cmp, ev_chain, ev_not, ev_ite, ev_idx, ev_call, ev_blt, evl_1, evl_2, ev_and, ev_or, evAnd_1, evAnd_2, evOr_1, evOr_2, ev_fld, ev_box, boxR_new, evs_cons, evs_nil, enGet_0, enGet_s, bnd_ok, optp_some, opt2p_some, hold_val, hold_new, hold_bor, rvW_val, rvW_new, esc_val, esc_new, slOf_val, slOf_new, retR_val, retR_new, blR_bl, intR_int, toR_ok, thn_nx, thn_rt, end_nx, end_rt, List.set_cons_succ, List.set_cons_zero, List.length_cons, List.length_nil, Nat.zero_add, Nat.reduceAdd, if_true, if_false, Bool.false_eq_true, Bool.not_true, Bool.not_false, decide_true, decide_false, raise_st, thn_ex, end_ex, bnd_exR, toR_exR, c1, c2, ev_tup, n1, exR, Bool.false_and, Bool.or_self]
      | true =>
        rw [if_pos rfl] at n1
        cases K2 with
        | false =>
          rw [if_neg (by decide)] at n2
          simp only [sv_seq, sv_iff, sv_asg, sv_ret, sv_retn, sv_skip, sv_ex, sv_unp, ev_var, ev_int, ev_bl, ev_non, ev_str, ev_bin, ev_neg, ev_cmp, ev_chain, ev_not, ev_ite, ev_idx, ev_call, ev_blt, evl_1, evl_2, ev_and, ev_or, evAnd_1, evAnd_2, evOr_1, evOr_2, ev_fld, ev_box, boxR_new, evs_cons, evs_nil, enGet_0, enGet_s, bnd_ok, optp_some, opt2p_some, hold_val, hold_new, hold_bor, rvW_val, rvW_new, esc_val, esc_new, slOf_val, slOf_new, retR_val, retR_new, blR_bl, intR_int, toR_ok, thn_nx, thn_rt, end_nx, end_rt, List.set_cons_succ, List.set_cons_zero, List.length_cons, List.length_nil, Nat.zero_add, Nat.reduceAdd, if_true, if_false, Bool.false_eq_true, Bool.not_true, Bool.not_false, decide_true, decide_false, raise_st, thn_ex, end_ex, bnd_exR, toR_exR, c1, c2, ev_tup, n1, n2, exR, Bool.false_and, Bool.and_false, Bool.or_self]
        | true =>
          rw [if_pos rfl] at n2
          cases K3 with
          | false =>
            rw [if_neg (by decide)] at n3
            simp only [sv_seq, sv_iff, sv_asg, sv_ret, sv_retn, sv_skip, sv_ex, sv_unp, ev_var, ev_int, ev_bl, ev_non, ev_str, ev_bin, ev_neg, ev_cmp, ev_chain, ev_not, ev_ite, ev_idx, ev_call, ev_blt, evl_1, evl_2, ev_and, ev_or, evAnd_1, evAnd_2, evOr_1, evOr_2, ev_fld, ev_box, boxR_new, evs_cons, evs_nil, enGet_0, enGet_s, bnd_ok, optp_some, opt2p_some, hold_val, hold_new, hold_bor, rvW_val, rvW_new, esc_val, esc_new, slOf_val, slOf_new, retR_val, retR_new, blR_bl, intR_int, toR_ok, thn_nx, thn_rt, end_nx, end_rt, List.set_cons_succ, List.set_cons_zero, List.length_cons, List.length_nil, Nat.zero_add, Nat.reduceAdd, if_true, if_false, Bool.false_eq_true, Bool.not_true, Bool.not_false, decide_true, decide_false, raise_st, thn_ex, end_ex, bnd_exR, toR_exR, c1, c2, ev_tup, n1, n2, n3, exR, Bool.and_false, Bool.or_self]
          | true =>
            rw [if_pos rfl] at n3
            simp only [sv_seq, sv_iff, sv_asg, sv_ret, sv_retn, sv_skip, sv_ex, sv_unp, ev_var, ev_int, ev_bl, ev_non, ev_str, ev_bin, ev_neg, ev_cmp, ev_chain, ev_not, ev_ite, ev_idx, ev_call, ev_blt, evl_1, evl_2, ev_and, ev_or, evAnd_1, evAnd_2, evOr_1, evOr_2, ev_fld, ev_box, boxR_new, evs_cons, evs_nil, enGet_0, enGet_s, bnd_ok, optp_some, opt2p_some, hold_val, hold_new, hold_bor, rvW_val, rvW_new, esc_val, esc_new, slOf_val, slOf_new, retR_val, retR_new, blR_bl, intR_int, toR_ok, thn_nx, thn_rt, end_nx, end_rt, List.set_cons_succ, List.set_cons_zero, List.length_cons, List.length_nil, Nat.zero_add, Nat.reduceAdd, if_true, if_false, Bool.false_eq_true, Bool.not_true, Bool.not_false, decide_true, decide_false, raise_st, thn_ex, end_ex, bnd_exR, toR_exR, c1, c2, ev_tup, n1, n2, n3, exR, Bool.and_self, Bool.or_self, l3]
end
end Mp
set_option Elab.async false
set_option linter.all false
set_option maxRecDepth 100000
set_option maxHeartbeats 8000000
/-! the law's own look at a letter -/
namespace Mp
open PySem PySem.Spec PyProof.Rows L2
theorem two_parts {a u v p q : List Nat} (e1 : a = u ++ 58 :: v) (e2 : a = p ++ 61 :: q) (h : p.length < u.length) : 61 ∈ u := by
  have h1 : a[p.length]? = some 61 := by rw [e2, List.getElem?_append_right (Nat.le_refl _), Nat.sub_self]; rfl
  rw [e1, List.getElem?_append_left h] at h1
  exact List.mem_of_getElem? h1
theorem first_in {a u v p q : List Nat} (e1 : a = u ++ 58 :: v) (e2 : parC 61 a = some (p, q)) (h : 61 ∈ u) : p.length < u.length := by
  obtain ⟨s, t, hu, hs⟩ := List.eq_append_cons_of_mem h
  have ea : a = s ++ 61 :: (t ++ 58 :: v) := by rw [e1, hu]; simp
  rw [ea, parC_of hs] at e2
  have := Option.some.inj e2
  injection this with h1 h2
  rw [← h1, hu, List.length_append, List.length_cons]
  omega
theorem shape48 {a u v p q : List Nat} (h58 : a.count 58 = 1) (h61 : a.count 61 = 1) (e1 : parC 58 a = some (u, v)) (e2 : parC 61 a = some (p, q)) (h : ¬ p.length < u.length) :
    ∃ p2 w, parC 61 v = some (p2, w) ∧ 58 ∉ u ∧ 58 ∉ p2 ∧ 58 ∉ w ∧ eqC a = TL.joinL [58] [u, p2, w] := by
  obtain ⟨ea, hu⟩ := parC_some e1
  have nu : 61 ∉ u := fun hm => h (first_in ea e2 hm)
  have c0 := List.count_eq_zero.mpr nu
  cases e3 : parC 61 v with
  | none =>
    exfalso
    have := List.count_eq_zero.mpr (parC_none e3)
    rw [ea, List.count_append, List.count_cons, c0, this] at h61
    simp at h61
  | some pw =>
    obtain ⟨p2, w⟩ := pw
    obtain ⟨ev, hp⟩ := parC_some e3
    rw [ea, ev] at h58
    simp only [List.count_append, List.count_cons] at h58
    have z : u.count 58 = 0 := List.count_eq_zero.mpr hu
    simp at h58
    have hu2 : 58 ∉ p2 ∧ 58 ∉ w := by
      constructor
      · exact fun hm => by have := List.count_pos_iff.mpr hm; omega
      · exact fun hm => by have := List.count_pos_iff.mpr hm; omega
    refine ⟨p2, w, rfl, hu, hu2.1, hu2.2, ?_⟩
    have e4 : a = (u ++ 58 :: p2) ++ 61 :: w := by rw [ea, ev]; simp
    have n4 : 61 ∉ u ++ 58 :: p2 := by
      intro hm
      rcases List.mem_append.mp hm with hm | hm
      · exact nu hm
      · rcases List.mem_cons.mp hm with hm | hm
        · cases hm
        · exact hp hm
    unfold eqC
    rw [e4, parC_of n4]
    simp [TL.joinL]
section
variable {cs : Nat → List W → Sto → CR} {fs : List Fd} {gl : List W} {N k f g x rn ro isn : Nat} {m : Sto} {en : En} {a : List Nat}
noncomputable def due48c : E := (.or (.cons (.cmp .ne (.tcnt (.var 0) (.str ":")) (.int 1)) (.cons (.cmp .ne (.tcnt (.var 0) (.str "=")) (.int 1)) (.cons (.cmp .gt (.tidx (.var 0) (.str ":")) (.tidx (.var 0) (.str "="))) .nil))))
noncomputable def due48o (isn : Nat) : E := (.cmp .ne (.comp .list (.cons (.var 1) .nil) (.one 2) [2] (.not (.call isn 1 (.cons (.var 2) .nil))) (.var 2)) (.lst .nil))
noncomputable def due48d (isn : Nat) : E := (.or (.cons (due48o isn) (.cons (.cmp .eq (.idx (.var 1) (.int 0)) (.str "0")) .nil)))
theorem letter_due48 (hf : fs[f]? = some ⟨1, 3, b_law_letter_due isn⟩) (hi : fs[isn]? = some ⟨1, 2, b_law_is_number_v1⟩) (ha : OkT a) (hl : a.length ≤ 600) :
    callN fs gl N (k + 2) f [.str (SX.S a)] m = .ok (letV a) m := by
  rw [call_at hf rfl]
  change endR (sv (callN fs gl N (k + 1)) gl N (b_law_letter_due isn) [some (.val (.str (SX.S a))), none, none] m) = _
  have st : b_law_letter_due isn = .seq (.rsp 1 0 "=" ":" ":") (.seq (.iff due48c (.seq (.ret .non) .skip) .skip) (.seq (.iff (due48d isn) (.seq (.ret .non) .skip) .skip) (.seq (.ret (.tupl (.comp .list (.cons (.var 1) .nil) (.one 2) [2] .nil (.blt .int (.cons (.var 2) .nil))))) .skip))) := rfl
  rw [st, sv_seq, rsp_sv (by omega), thn_nx]
  have k1 : ∀ (en : En), enGet en 0 = some (.val (.str (SX.S a))) → ev (callN fs gl N (k + 1)) gl (.tcnt (.var 0) (.str ":")) en m = .ok (.val (.int ((a.count 58 : Nat) : Int))) en m := fun en he => tcnt_ev (c := 58) (by rw [ev_var, he]) rfl
  have k2 : ∀ (en : En), enGet en 0 = some (.val (.str (SX.S a))) → ev (callN fs gl N (k + 1)) gl (.tcnt (.var 0) (.str "=")) en m = .ok (.val (.int ((a.count 61 : Nat) : Int))) en m := fun en he => tcnt_ev (c := 61) (by rw [ev_var, he]) rfl
  generalize hws : splT [58] (eqC a) = ws
  by_cases h58 : a.count 58 = 1
  · by_cases h61 : a.count 61 = 1
    · -- both signs once
      cases e1 : parC 58 a with
      | none => have := List.count_eq_zero.mpr (parC_none e1); omega
      | some uv =>
        obtain ⟨u, v⟩ := uv
        cases e2 : parC 61 a with
        | none => have := List.count_eq_zero.mpr (parC_none e2); omega
        | some pq =>
          obtain ⟨p, q⟩ := pq
          obtain ⟨ea, hu⟩ := parC_some e1
          obtain ⟨ea2, hp⟩ := parC_some e2
          have t1 : ∀ (en : En), enGet en 0 = some (.val (.str (SX.S a))) → ev (callN fs gl N (k + 1)) gl (.tidx (.var 0) (.str ":")) en m = .ok (.val (.int (u.length : Int))) en m := fun en he => by
            rw [ea] at he
            exact tidx_ev (c := 58) (p := u) (q := v) (by rw [ev_var, he]) rfl hu
          have t2 : ∀ (en : En), enGet en 0 = some (.val (.str (SX.S a))) → ev (callN fs gl N (k + 1)) gl (.tidx (.var 0) (.str "=")) en m = .ok (.val (.int (p.length : Int))) en m := fun en he => by
            rw [ea2] at he
            exact tidx_ev (c := 61) (p := p) (q := q) (by rw [ev_var, he]) rfl hp
          rw [h58] at k1
          rw [h61] at k2
          have n1 : ∀ en, cmpR .ne en m (.val (.int ((1 : Nat) : Int))) (.val (.int 1)) = some false := fun en => by rw [ne_ints]; rfl
          by_cases hlt : p.length < u.length
          · have gt : ∀ en, cmpR .gt en m (.val (.int (u.length : Int))) (.val (.int (p.length : Int))) = some true := fun en => by rw [gt_ints, decide_eq_true (by omega)]
            have no : letV a = .val .non := by unfold letV; rw [show letR a = none by rw [ea]; exact letR_before hu (two_parts ea ea2 hlt)]
            rw [no]
            unfold due48c
            generalize SX.S a = A_ at *
            generalize ws.map encS = WS at *
            simp only [sv_seq, sv_iff, sv_asg, sv_ret, sv_retn, sv_skip, sv_ex, sv_unp, ev_var, ev_int, ev_bl, ev_non, ev_str, ev_bin, ev_neg, ev_cmp, ev_chain, ev_not, ev_ite, ev_idx, ev_call, ev_blt, evl_1, evl_2, ev_and, ev_or, evAnd_1, evAnd_2, evOr_1, evOr_2, ev_fld, ev_box, boxR_new, evs_cons, evs_nil, enGet_0, enGet_s, bnd_ok, optp_some, opt2p_some, hold_val, hold_new, hold_bor, rvW_val, rvW_new, esc_val, esc_new, slOf_val, slOf_new, retR_val, retR_new, blR_bl, intR_int, toR_ok, thn_nx, thn_rt, end_nx, end_rt, List.set_cons_succ, List.set_cons_zero, List.length_cons, List.length_nil, Nat.zero_add, Nat.reduceAdd, if_true, if_false, Bool.false_eq_true, Bool.not_true, Bool.not_false, decide_true, decide_false, k1, k2, n1, t1, t2, gt]
          · have gt : ∀ en, cmpR .gt en m (.val (.int (u.length : Int))) (.val (.int (p.length : Int))) = some false := fun en => by rw [gt_ints, decide_eq_false (by omega)]
            obtain ⟨p2, w, e3, f1, f2, f3, ej⟩ := shape48 h58 h61 e1 e2 hlt
            have ew : ws = [u, p2, w] := by
              rw [← hws, ej]
              unfold splT
              exact TL.spl_join (by simp) fun z hz => by
                simp only [List.mem_cons, List.not_mem_nil, or_false] at hz
                rcases hz with rfl | rfl | rfl
                · exact f1
                · exact f2
                · exact f3
            have hw : ∀ z ∈ ws, OkT z := fun z hz => by rw [← hws] at hz; exact splT_ok hz (eqC_ok ha)
            have hwl : ∀ z ∈ ws, z.length ≤ 640 := fun z hz => by
              rw [← hws] at hz
              have := (splT_mem hz).2
              rw [eqC_len] at this
              omega
            have hl3 : ws.length ≤ 1000 := by rw [ew]; simp
            have c1 : sv (callN fs gl N (k + 1)) gl N (.iff due48c (.seq (.ret .non) .skip) .skip) [some (.val (.str (SX.S a))), some (.own (ws.map encS)), none] m = .ok .nx [some (.val (.str (SX.S a))), some (.own (ws.map encS)), none] m := by
              unfold due48c
              generalize SX.S a = A_ at *
              generalize ws.map encS = WS at *
              simp only [sv_seq, sv_iff, sv_asg, sv_ret, sv_retn, sv_skip, sv_ex, sv_unp, ev_var, ev_int, ev_bl, ev_non, ev_str, ev_bin, ev_neg, ev_cmp, ev_chain, ev_not, ev_ite, ev_idx, ev_call, ev_blt, evl_1, evl_2, ev_and, ev_or, evAnd_1, evAnd_2, evOr_1, evOr_2, ev_fld, ev_box, boxR_new, evs_cons, evs_nil, enGet_0, enGet_s, bnd_ok, optp_some, opt2p_some, hold_val, hold_new, hold_bor, rvW_val, rvW_new, esc_val, esc_new, slOf_val, slOf_new, retR_val, retR_new, blR_bl, intR_int, toR_ok, thn_nx, thn_rt, end_nx, end_rt, List.set_cons_succ, List.set_cons_zero, List.length_cons, List.length_nil, Nat.zero_add, Nat.reduceAdd, if_true, if_false, Bool.false_eq_true, Bool.not_true, Bool.not_false, decide_true, decide_false, k1, k2, n1, t1, t2, gt]
            rw [sv_seq, c1, thn_nx]
            have cnd := offs48 (k := k) (gl := gl) (N := N) (m := m) hi (A_ := .str (SX.S a)) hw hwl hl3
            have cnd : ev (callN fs gl N (k + 1)) gl (due48o isn) [some (.val (.str (SX.S a))), some (.own (ws.map encS)), none] m = _ := cnd
            have eqz : ∀ en, cmpR .eq en m (.val (encS u)) (.val (.str "0")) = some (decide (u = [48])) := fun en => eq_S (hw u (by rw [ew]; simp)) (oS (by decide))
            have i0 : ∀ en, idxR en m (.val (.lst (ws.map encS))) (.val (.int 0)) = some (encS u) := fun en => by rw [idx_lst, ew]; exact at_0
            have lv : letV a = if ws.all numOk && !decide (u = [48]) then .val (.tup (numsW ws)) else .val .non := by
              unfold letV letR
              rw [e1]
              dsimp only
              rw [e3, ew]
              dsimp only
              have eb : (numOk u && !decide (u = [48]) && numOk p2 && numOk w) = ([u, p2, w].all numOk && !decide (u = [48])) := by
                simp only [List.all_cons, List.all_nil, Bool.and_true]
                cases numOk u <;> cases numOk p2 <;> cases numOk w <;> cases decide (u = [48]) <;> rfl
              rw [eb]
              cases ([u, p2, w].all numOk && !decide (u = [48])) <;> rfl
            rw [lv]
            cases h1 : ws.all numOk with
            | false =>
              rw [h1] at cnd
              unfold due48d
              generalize due48o isn = DO at *
              generalize W.str (SX.S a) = A_ at *
              generalize ws.map encS = WS at *
              simp only [sv_seq, sv_iff, sv_asg, sv_ret, sv_retn, sv_skip, sv_ex, sv_unp, ev_var, ev_int, ev_bl, ev_non, ev_str, ev_bin, ev_neg, ev_cmp, ev_chain, ev_not, ev_ite, ev_idx, ev_call, ev_blt, evl_1, evl_2, ev_and, ev_or, evAnd_1, evAnd_2, evOr_1, evOr_2, ev_fld, ev_box, boxR_new, evs_cons, evs_nil, enGet_0, enGet_s, bnd_ok, optp_some, opt2p_some, hold_val, hold_new, hold_bor, rvW_val, rvW_new, esc_val, esc_new, slOf_val, slOf_new, retR_val, retR_new, blR_bl, intR_int, toR_ok, thn_nx, thn_rt, end_nx, end_rt, List.set_cons_succ, List.set_cons_zero, List.length_cons, List.length_nil, Nat.zero_add, Nat.reduceAdd, if_true, if_false, Bool.false_eq_true, Bool.not_true, Bool.not_false, decide_true, decide_false, cnd, Bool.false_and]
            | true =>
              rw [h1] at cnd
              have iv := ints48 (cs := callN fs gl N (k + 1)) (gl := gl) (m := m) (A_ := .str (SX.S a)) h1 hwl hl3
              cases h2 : decide (u = [48]) with
              | true =>
                rw [h2] at eqz
                unfold due48d
                generalize due48o isn = DO at *
                generalize W.str (SX.S a) = A_ at *
                generalize ws.map encS = WS at *
                generalize encS u = U_ at *
                simp only [sv_seq, sv_iff, sv_asg, sv_ret, sv_retn, sv_skip, sv_ex, sv_unp, ev_var, ev_int, ev_bl, ev_non, ev_str, ev_bin, ev_neg, ev_cmp, ev_chain, ev_not, ev_ite, ev_idx, ev_call, ev_blt, evl_1, evl_2, ev_and, ev_or, evAnd_1, evAnd_2, evOr_1, evOr_2, ev_fld, ev_box, boxR_new, evs_cons, evs_nil, enGet_0, enGet_s, bnd_ok, optp_some, opt2p_some, hold_val, hold_new, hold_bor, rvW_val, rvW_new, esc_val, esc_new, slOf_val, slOf_new, retR_val, retR_new, blR_bl, intR_int, toR_ok, thn_nx, thn_rt, end_nx, end_rt, List.set_cons_succ, List.set_cons_zero, List.length_cons, List.length_nil, Nat.zero_add, Nat.reduceAdd, if_true, if_false, Bool.false_eq_true, Bool.not_true, Bool.not_false, decide_true, decide_false, cnd, i0, eqz, Bool.and_false]
              | false =>
                rw [h2] at eqz
                have tp : ∀ en, ev (callN fs gl N (k + 1)) gl (.comp .list (.cons (.var 1) .nil) (.one 2) [2] .nil (.blt .int (.cons (.var 2) .nil))) en m = .ok (.new (numsW ws)) en m → ev (callN fs gl N (k + 1)) gl (.tupl (.comp .list (.cons (.var 1) .nil) (.one 2) [2] .nil (.blt .int (.cons (.var 2) .nil)))) en m = .ok (.val (.tup (numsW ws))) en m := fun en h => by
                  have rl : rvL en m (.new (numsW ws)) = some (numsW ws) := rfl
                  rw [ev_tupl, h, bnd_ok, rl, optp_some]
                have tv := tp _ iv
                generalize (E.tupl (.comp .list (.cons (.var 1) .nil) (.one 2) [2] .nil (.blt .int (.cons (.var 2) .nil)))) = TE at *
                unfold due48d
                generalize due48o isn = DO at *
                generalize W.str (SX.S a) = A_ at *
                generalize ws.map encS = WS at *
                generalize encS u = U_ at *
                generalize numsW ws = NW at *
                simp only [sv_seq, sv_iff, sv_asg, sv_ret, sv_retn, sv_skip, sv_ex, sv_unp, ev_var, ev_int, ev_bl, ev_non, ev_str, ev_bin, ev_neg, ev_cmp, ev_chain, ev_not, ev_ite, ev_idx, ev_call, ev_blt, evl_1, evl_2, ev_and, ev_or, evAnd_1, evAnd_2, evOr_1, evOr_2, ev_fld, ev_box, boxR_new, evs_cons, evs_nil, enGet_0, enGet_s, bnd_ok, optp_some, opt2p_some, hold_val, hold_new, hold_bor, rvW_val, rvW_new, esc_val, esc_new, slOf_val, slOf_new, retR_val, retR_new, blR_bl, intR_int, toR_ok, thn_nx, thn_rt, end_nx, end_rt, List.set_cons_succ, List.set_cons_zero, List.length_cons, List.length_nil, Nat.zero_add, Nat.reduceAdd, if_true, if_false, Bool.false_eq_true, Bool.not_true, Bool.not_false, decide_true, decide_false, cnd, i0, eqz, tv, Bool.and_self]
    · have no : letV a = .val .non := by unfold letV; rw [letR_far (.inr h61)]
      rw [no]
      rw [h58] at k1
      have n1 : ∀ en, cmpR .ne en m (.val (.int ((1 : Nat) : Int))) (.val (.int 1)) = some false := fun en => by rw [ne_ints]; rfl
      have n2 : ∀ en, cmpR .ne en m (.val (.int ((a.count 61 : Nat) : Int))) (.val (.int 1)) = some true := fun en => by rw [ne_ints, decide_eq_true (by omega)]
      unfold due48c
      generalize SX.S a = A_ at *
      generalize ws.map encS = WS at *
      simp only [sv_seq, sv_iff, sv_asg, sv_ret, sv_retn, sv_skip, sv_ex, sv_unp, ev_var, ev_int, ev_bl, ev_non, ev_str, ev_bin, ev_neg, ev_cmp, ev_chain, ev_not, ev_ite, ev_idx, ev_call, ev_blt, evl_1, evl_2, ev_and, ev_or, evAnd_1, evAnd_2, evOr_1, evOr_2, ev_fld, ev_box, boxR_new, evs_cons, evs_nil, enGet_0, enGet_s, bnd_ok, optp_some, opt2p_some, hold_val, hold_new, hold_bor, rvW_val, rvW_new, esc_val, esc_new, slOf_val, slOf_new, retR_val, retR_new, blR_bl, intR_int, toR_ok, thn_nx, thn_rt, end_nx, end_rt, List.set_cons_succ, List.set_cons_zero, List.length_cons, List.length_nil, Nat.zero_add, Nat.reduceAdd, if_true, if_false, Bool.false_eq_true, Bool.not_true, Bool.not_false, decide_true, decide_false, k1, k2, n1, n2]
  · have no : letV a = .val .non := by unfold letV; rw [letR_far (.inl h58)]
    rw [no]
    have n2 : ∀ en, cmpR .ne en m (.val (.int ((a.count 58 : Nat) : Int))) (.val (.int 1)) = some true := fun en => by rw [ne_ints, decide_eq_true (by omega)]
    unfold due48c
    generalize SX.S a = A_ at *
    generalize ws.map encS = WS at *
    simp only [sv_seq, sv_iff, sv_asg, sv_ret, sv_retn, sv_skip, sv_ex, sv_unp, ev_var, ev_int, ev_bl, ev_non, ev_str, ev_bin, ev_neg, ev_cmp, ev_chain, ev_not, ev_ite, ev_idx, ev_call, ev_blt, evl_1, evl_2, ev_and, ev_or, evAnd_1, evAnd_2, evOr_1, evOr_2, ev_fld, ev_box, boxR_new, evs_cons, evs_nil, enGet_0, enGet_s, bnd_ok, optp_some, opt2p_some, hold_val, hold_new, hold_bor, rvW_val, rvW_new, esc_val, esc_new, slOf_val, slOf_new, retR_val, retR_new, blR_bl, intR_int, toR_ok, thn_nx, thn_rt, end_nx, end_rt, List.set_cons_succ, List.set_cons_zero, List.length_cons, List.length_nil, Nat.zero_add, Nat.reduceAdd, if_true, if_false, Bool.false_eq_true, Bool.not_true, Bool.not_false, decide_true, decide_false, k1, n2]
end
end Mp
set_option Elab.async false
set_option linter.all false
set_option maxRecDepth 100000
set_option maxHeartbeats 8000000
/-! what is told of a text; numbers written one behind the other -/
namespace Mp
open PySem PySem.Spec PyProof.Rows L2
noncomputable abbrev told48 : S := b_law_told_v4 [2, 3] (List.range 11) tab49 ((List.range 11).map fun j => j == 9) ((List.range 11).map fun _ => true)
section
variable {cs : Nat → List W → Sto → CR} {fs : List Fd} {gl : List W} {N k f g x rn ro dd rr isn du td r tk nu : Nat} {m m2 : Sto} {en : En} {a : List Nat}
theorem callv_ev48 {j n q : Nat} {fl : List Nat} {es : E} {ws : List W} {en2 : En} {m2 : Sto} (he : enGet en j = some (.val (.fn q))) (hc : fl.contains q = true) (h : evs cs gl es en m = .ok ws en2 m2) (hl : ws.length = n) : ev cs gl (.callv j n fl es) en m = (cs q ws m2).toR en2 := by
  rw [ev]
  simp only [he, hc, if_true, h, bind_okR, hl]
theorem told48_ok (hf : fs[f]? = some ⟨2, 5, told48⟩) (hr : rr = 2 ∨ rr = 3) {A_ : W} {z : RV} (hz : (∃ ws, z = .new ws) ∨ ∃ w, z = .val w) (h : callN fs gl N k rr [A_] m = .ok z m) : callN fs gl N (k + 1) f [.fn rr, A_] m = .ok z m := by
  rw [call_at hf rfl]
  change endR (sv (callN fs gl N k) gl N told48 [some (.val (.fn rr)), some (.val A_), none, none, none] m) = _
  unfold told48 b_law_told_v4
  have hc : [2, 3].contains rr = true := by rcases hr with rfl | rfl <;> rfl
  have a1 : sv (callN fs gl N k) gl N (.asg 2 .non) [some (.val (.fn rr)), some (.val A_), none, none, none] m = .ok .nx [some (.val (.fn rr)), some (.val A_), some (.val .non), none, none] m := rfl
  have a2 : sv (callN fs gl N k) gl N (.asg 3 .non) [some (.val (.fn rr)), some (.val A_), some (.val .non), none, none] m = .ok .nx [some (.val (.fn rr)), some (.val A_), some (.val .non), some (.val .non), none] m := rfl
  have src : evs (callN fs gl N k) gl (.cons (.var 1) .nil) [some (.val (.fn rr)), some (.val A_), some (.val .non), some (.val .non), none] m = .ok [A_] [some (.val (.fn rr)), some (.val A_), some (.val .non), some (.val .non), none] m := by
    rw [evs_cons, ev_var]; rfl
  have cv := callv_ev48 (j := 0) (n := 1) (q := rr) (fl := [2, 3]) (en := [some (.val (.fn rr)), some (.val A_), some (.val .non), some (.val .non), none]) rfl hc src rfl
  rw [h] at cv
  rw [sv_seq, a1, thn_nx, sv_seq, a2, thn_nx]
  rcases hz with ⟨ws, rfl⟩ | ⟨w, rfl⟩
  · have b : sv (callN fs gl N k) gl N (.seq (.asg 3 (.callv 0 1 [2, 3] (.cons (.var 1) .nil))) .skip) [some (.val (.fn rr)), some (.val A_), some (.val .non), some (.val .non), none] m = .ok .nx [some (.val (.fn rr)), some (.val A_), some (.val .non), some (.own ws), none] m := by
      rw [sv_seq, sv_asg, cv]; rfl
    rw [sv_seq, try_ok b, thn_nx]
    rfl
  · have b : sv (callN fs gl N k) gl N (.seq (.asg 3 (.callv 0 1 [2, 3] (.cons (.var 1) .nil))) .skip) [some (.val (.fn rr)), some (.val A_), some (.val .non), some (.val .non), none] m = .ok .nx [some (.val (.fn rr)), some (.val A_), some (.val .non), some (.val w), none] m := by
      rw [sv_seq, sv_asg, cv]; rfl
    rw [sv_seq, try_ok b, thn_nx]
    rfl
theorem told48_ex (hf : fs[f]? = some ⟨2, 5, told48⟩) (hr : rr = 2 ∨ rr = 3) {A_ : W} (h : callN fs gl N k rr [A_] m = .ex 9 m) : callN fs gl N (k + 1) f [.fn rr, A_] m = .ok (.val .non) m := by
  rw [call_at hf rfl]
  change endR (sv (callN fs gl N k) gl N told48 [some (.val (.fn rr)), some (.val A_), none, none, none] m) = _
  unfold told48 b_law_told_v4
  have hc : [2, 3].contains rr = true := by rcases hr with rfl | rfl <;> rfl
  have a1 : sv (callN fs gl N k) gl N (.asg 2 .non) [some (.val (.fn rr)), some (.val A_), none, none, none] m = .ok .nx [some (.val (.fn rr)), some (.val A_), some (.val .non), none, none] m := rfl
  have a2 : sv (callN fs gl N k) gl N (.asg 3 .non) [some (.val (.fn rr)), some (.val A_), some (.val .non), none, none] m = .ok .nx [some (.val (.fn rr)), some (.val A_), some (.val .non), some (.val .non), none] m := rfl
  have src : evs (callN fs gl N k) gl (.cons (.var 1) .nil) [some (.val (.fn rr)), some (.val A_), some (.val .non), some (.val .non), none] m = .ok [A_] [some (.val (.fn rr)), some (.val A_), some (.val .non), some (.val .non), none] m := by
    rw [evs_cons, ev_var]; rfl
  have cv := callv_ev48 (j := 0) (n := 1) (q := rr) (fl := [2, 3]) (en := [some (.val (.fn rr)), some (.val A_), some (.val .non), some (.val .non), none]) rfl hc src rfl
  rw [h] at cv
  rw [sv_seq, a1, thn_nx, sv_seq, a2, thn_nx]
  have b : sv (callN fs gl N k) gl N (.seq (.asg 3 (.callv 0 1 [2, 3] (.cons (.var 1) .nil))) .skip) [some (.val (.fn rr)), some (.val A_), some (.val .non), some (.val .non), none] m = .ex 9 [some (.val (.fn rr)), some (.val A_), some (.val .non), some (.val .non), none] m := by
    rw [sv_seq, sv_asg, cv]; rfl
  have hd : sv (callN fs gl N k) gl N (.seq (.asg 2 (.var 4)) .skip) [some (.val (.fn rr)), some (.val A_), some (.val .non), some (.val .non), some (.val (.exc 9))] m = .ok .nx [some (.val (.fn rr)), some (.val A_), some (.val (.exc 9)), some (.val .non), some (.val (.exc 9))] m := rfl
  rw [sv_seq, try_ex b rfl hd, thn_nx]
  rfl
theorem all2_nums {B : Int} : ∀ {zs rs : List W}, All2 (fun _ w => ∃ i : Int, 0 ≤ i ∧ i < B ∧ w = encS (numT i)) zs rs → ∃ is_ : List Int, is_.length = zs.length ∧ (∀ i ∈ is_, 0 ≤ i ∧ i < B) ∧ rs = (is_.map numT).map encS
  | _, _, .nil => ⟨[], rfl, (fun i h => by cases h), rfl⟩
  | _, _, .cons ⟨i, h0, h1, h2⟩ l => by
    obtain ⟨is_, e1, e2, e3⟩ := all2_nums l
    refine ⟨i :: is_, by rw [List.length_cons, e1]; rfl, fun j hj => ?_, by rw [h2, e3]; rfl⟩
    rcases List.mem_cons.mp hj with rfl | hj
    · exact ⟨h0, h1⟩
    · exact e2 j hj
theorem row48 {src elt : E} {B : Int} {L : Nat} {ob : Ob} {d1 n : Int} {x0 x1 x3 x5 x6 x7 : Option Sl} (n0 : 0 ≤ n) (n1 : n ≤ 100) (hB : ∀ i, 0 ≤ i → i < B → SmI i ∧ (numT i).length ≤ L) (hL : L ≤ 20)
    (hs : evs cs gl src [x0, x1, some (.val (.ref r)), x3, none, x5, x6, x7] m = .ok [.int n] [x0, x1, some (.val (.ref r)), x3, none, x5, x6, x7] (m2.set r (.lst [.int d1])))
    (he : ∀ z d, ∃ i d2, 0 ≤ i ∧ i < B ∧ ev cs gl elt [x0, x1, some (.val (.ref r)), x3, some (.val z), x5, x6, x7] (m2.set r (.lst [.int d])) = .ok (.val (.int i)) [x0, x1, some (.val (.ref r)), x3, some (.val z), x5, x6, x7] (m2.set r (.lst [.int d2]))) :
    ∃ a d2, OkT a ∧ a.length ≤ n.toNat * (L + 1) ∧ sv cs gl N (.asg 3 (.mth .join (.str " ") (.comp .rng1 src (.one 4) [4] .nil (.blt .str (.cons elt .nil))))) [x0, x1, some (.val (.ref r)), x3, none, x5, x6, x7] m = .ok .nx [x0, x1, some (.val (.ref r)), some (.val (encS a)), none, x5, x6, x7] (m2.set r (.lst [.int d2])) := by
  have it := items_rng1 (m := m2.set r (.lst [.int d1])) (n := n) (by unfold rngOk; exact decide_eq_true ⟨by omega, by omega⟩)
  obtain ⟨rs, m3, c1, ⟨d3, hm3⟩, c3⟩ := cl_each (cs := cs) (gl := gl) (tg := .one 4) (js := [4]) (elt := .blt .str (.cons elt .nil)) (en := [x0, x1, some (.val (.ref r)), x3, none, x5, x6, x7]) (fun mm => ∃ d, mm = m2.set r (.lst [.int d])) (fun _ w => ∃ i : Int, 0 ≤ i ∧ i < B ∧ w = encS (numT i)) (zs := (List.range n.toNat).map fun (i : Nat) => W.int (0 + (i : Int))) ⟨d1, rfl⟩ (fun z hz mm hI => by
    obtain ⟨d, rfl⟩ := hI
    obtain ⟨i, d2, i0, i1, e1⟩ := he z d
    have bs := (hB i i0 i1).1.num (m := m2.set r (.lst [.int d2]))
    refine ⟨[x0, x1, some (.val (.ref r)), x3, some (.val z), x5, x6, x7], .val (encS (numT i)), [x0, x1, some (.val (.ref r)), x3, some (.val z), x5, x6, x7], m2.set r (.lst [.int d2]), encS (numT i), [x0, x1, some (.val (.ref r)), x3, some (.val z), x5, x6, x7], rfl, ?_, rfl, rfl, ⟨_, rfl⟩, _, i0, i1, rfl⟩
    have bs : bltR .str (m2.set r (.lst [.int d2])) [.int i] = some (.val (encS (numT i))) := bs
    generalize encS (numT i) = Z_ at *
    simp only [sv_seq, sv_iff, sv_asg, sv_ret, sv_retn, sv_skip, sv_ex, sv_unp, ev_var, ev_int, ev_bl, ev_non, ev_str, ev_bin, ev_neg, ev_cmp, ev_chain, ev_not, ev_ite, ev_idx, ev_call, ev_blt, evl_1, evl_2, ev_and, ev_or, evAnd_1, evAnd_2, evOr_1, evOr_2, ev_fld, ev_box, boxR_new, evs_cons, evs_nil, enGet_0, enGet_s, bnd_ok, optp_some, opt2p_some, hold_val, hold_new, hold_bor, rvW_val, rvW_new, esc_val, esc_new, slOf_val, slOf_new, retR_val, retR_new, blR_bl, intR_int, toR_ok, thn_nx, thn_rt, end_nx, end_rt, List.set_cons_succ, List.set_cons_zero, List.length_cons, List.length_nil, Nat.zero_add, Nat.reduceAdd, if_true, if_false, Bool.false_eq_true, Bool.not_true, Bool.not_false, decide_true, decide_false, e1, bs])
  subst hm3
  obtain ⟨is_, g1, g2, g3⟩ := all2_nums c3
  rw [List.length_map, List.length_range] at g1
  rw [g3] at c1
  have hm := comp_runm (it := .rng1) hs it (by rw [List.length_map, List.length_range]; unfold LIM; omega) rfl c1 rfl
  have ll : ∀ z ∈ is_.map numT, z.length ≤ L := fun z hz => by
    obtain ⟨i, hi, rfl⟩ := List.mem_map.mp hz
    exact (hB i (g2 i hi).1 (g2 i hi).2).2
  have su := sum_le_of ll
  rw [List.length_map, g1] at su
  have o1 : [32].length = 1 := rfl
  have h1 : n.toNat * L ≤ 100 * 20 := Nat.mul_le_mul (by omega) hL
  have hjn := join_ev (cs := cs) (gl := gl) (x := .str " ") (sep := [32]) (ys := is_.map numT) (en := [x0, x1, some (.val (.ref r)), x3, none, x5, x6, x7]) (m := m) (by rw [ev_str]; rfl) hm rfl (by
    rw [List.length_map, o1, g1]; unfold LIM; omega)
  have jl := joinL_sum (S := [32]) (ps := is_.map numT)
  rw [List.length_map, o1, g1] at jl
  refine ⟨TL.joinL [32] (is_.map numT), d3, joinL_ok (oS (by decide)) fun p hp => ?_, ?_, ?_⟩
  · obtain ⟨i, _, rfl⟩ := List.mem_map.mp hp
    exact numT_ok i
  · rw [Nat.mul_add]; omega
  · rw [sv_asg, hjn, bnd_ok]
    rfl
end
end Mp
set_option Elab.async false
set_option linter.all false
set_option maxRecDepth 100000
set_option maxHeartbeats 8000000
/-! the law of texts of no table and no letter -/
namespace Mp
open PySem PySem.Spec PyProof.Rows L2
structure K48Fs (fs : List Fd) (gl : List W) : Prop where
  f0 : fs[0]? = some ⟨1, 2, b_read_number_v1 0 9⟩
  f1 : fs[1]? = some ⟨1, 2, b_read_from_one_v1 0 9⟩
  f2 : fs[2]? = some ⟨1, 2, b_read_table_v1 0⟩
  f3 : fs[3]? = some ⟨1, 7, b_read_letter_v1 1 0 9⟩
  f4 : fs[4]? = some ⟨2, 3, b_law_stir⟩
  f5 : fs[5]? = some ⟨1, 1, b_law_deck 4⟩
  f6 : fs[6]? = some ⟨2, 3, b_law_take⟩
  f7 : fs[7]? = some ⟨1, 1, b_law_number_v2 6⟩
  f8 : fs[8]? = some ⟨1, 2, b_law_is_number_v1⟩
  f9 : fs[9]? = some ⟨2, 5, b_law_changed_v2 6⟩
  f10 : fs[10]? = some ⟨1, 3, b_law_table_due 8⟩
  f11 : fs[11]? = some ⟨1, 3, b_law_letter_due 8⟩
  f12 : fs[12]? = some ⟨2, 5, told48⟩
  f13 : fs[13]? = some ⟨1, 2, b_law_odd 6⟩
  f14 : fs[14]? = some ⟨1, 8, b_law_v49 9 5 11 7 13 10 6 12 3 2⟩
  g0 : gl[0]? = some (.str "0123456789")
noncomputable def ODD48 : List (List Nat) := [[], [32], [49, 32], [32, 49], [49, 32, 32, 50], [48, 49], [49, 32, 48, 50], [45, 49], [43, 49], [49, 44, 50], [49, 32, 120], [49, 10], [10, 49], [49, 59, 50], [49, 95, 48], [49, 46, 48], [48, 58, 49, 61, 50], [49, 58, 49, 61], [49, 58, 61, 49], [58, 49, 61, 49], [49, 61, 49, 58, 49], [49, 58, 49, 61, 49, 61, 49], [49, 58, 49, 58, 49, 61, 49], [48, 49, 58, 49, 61, 49], [49, 58, 48, 49, 61, 49], [49, 58, 49, 61, 48, 49], [49, 32, 58, 49, 61, 49], [49, 58, 32, 49, 61, 49], [49, 58, 49, 61, 32, 49], [49, 58, 49, 61, 49, 32], [45, 49, 58, 49, 61, 49], [49, 58, 43, 49, 61, 49], [49, 58, 49, 61, 45, 49], [49, 59, 49, 61, 49], [49, 58, 49], [55, 58, 48, 61, 48]]
theorem odd48_ok : ∀ q ∈ ODD48, OkT q ∧ q.length ≤ 9 := by
  intro q hq
  have : ∀ q ∈ ODD48, q.all (fun c => decide (c < 128)) = true ∧ q.length ≤ 9 := by decide
  exact ⟨oS (this q hq).1, (this q hq).2⟩
noncomputable def w48f : S := (.seq (.iff (.cmp .ne (.call 12 2 (.cons (.fnv 2) (.cons (.var 7) .nil))) (.call 10 1 (.cons (.var 7) .nil))) (.seq (.ret (.bl false)) .skip) .skip) (.seq (.iff (.cmp .ne (.call 12 2 (.cons (.fnv 3) (.cons (.var 7) .nil))) (.call 11 1 (.cons (.var 7) .nil))) (.seq (.ret (.bl false)) .skip) .skip) .skip))
noncomputable def w48o : S := (.seq (.asg 2 (.box (.call 5 1 (.cons (.var 1) .nil)))) (.seq (.asg 3 (.mth .join (.str " ") (.comp .rng1 (.cons (.bin .add (.int 1) (.call 6 2 (.cons (.var 2) (.cons (.int 6) .nil)))) .nil) (.one 4) [4] .nil (.blt .str (.cons (.call 7 1 (.cons (.var 2) .nil)) .nil))))) (.seq (.iff (.cmp .eq (.call 6 2 (.cons (.var 2) (.cons (.int 8) .nil))) (.int 3)) (.seq (.asg 3 (.mth .join (.str " ") (.comp .rng1 (.cons (.bin .add (.int 7) (.call 6 2 (.cons (.var 2) (.cons (.int 33) .nil)))) .nil) (.one 4) [4] .nil (.blt .str (.cons (.call 6 2 (.cons (.var 2) (.cons (.int 12) .nil))) .nil))))) .skip) .skip) (.seq (.asg 5 (.blt .str (.cons (.bin .add (.int 1) (.call 6 2 (.cons (.var 2) (.cons (.idx (.lst (.cons (.int 99) (.cons (.bin .pow (.int 10) (.int 17)) .nil))) (.call 6 2 (.cons (.var 2) (.cons (.int 2) .nil)))) .nil)))) .nil))) (.seq (.asg 5 (.bin .add (.bin .add (.bin .add (.bin .add (.var 5) (.str ":")) (.blt .str (.cons (.call 7 1 (.cons (.var 2) .nil)) .nil))) (.str "=")) (.blt .str (.cons (.call 7 1 (.cons (.var 2) .nil)) .nil)))) (.seq (.asg 6 (.lst (.cons (.call 9 2 (.cons (.var 2) (.cons (.var 3) .nil))) (.cons (.call 9 2 (.cons (.var 2) (.cons (.var 5) .nil))) (.cons (.call 13 1 (.cons (.var 2) .nil)) (.cons (.call 13 1 (.cons (.var 2) .nil)) .nil)))))) (.seq (.asg 6 (.bin .add (.var 6) (.lst (.cons (.call 9 2 (.cons (.var 2) (.cons (.call 9 2 (.cons (.var 2) (.cons (.var 5) .nil))) .nil))) (.cons (.var 3) (.cons (.var 5) .nil)))))) (.seq (.for_ .list (.cons (.var 6) .nil) (.one 7) w48f) .skip))))))))
theorem cut20_48 {ns : List Int} : ∃ l : List Int, cutL (ns.map W.int) none (some 20) = l.map W.int ∧ l.length ≤ 20 := by
  unfold cutL
  have e : HT.sIx (ns.map W.int).length (ns.map W.int).length (some 20) = min 20 (ns.map W.int).length := HT.sIx_nat _ _ 20
  rw [e, ← List.map_drop, ← List.map_take]
  refine ⟨_, rfl, ?_⟩
  rw [List.length_take, List.length_drop]
  omega
section
variable {fs : List Fd} {gl : List W} {N k f r : Nat} {m m2 : Sto} {en : En} {A : W} {a : List Nat}
theorem odd48_run (hf : fs[f]? = some ⟨1, 2, b_law_odd 6⟩) (htk : fs[6]? = some ⟨2, 3, b_law_take⟩) {d0 : Int} (hr : m[r]? = some (.lst [.int d0])) :
    ∃ q d2, OkT q ∧ q.length ≤ 9 ∧ callN fs gl N (k + 2) f [.ref r] m = .ok (.val (encS q)) (m.set r (.lst [.int d2])) := by
  rw [call_at hf rfl]
  have t := take_run (k := k) (gl := gl) (N := N) htk hr (n := 36) (by decide) (by decide +kernel)
  have v0 := Int.emod_nonneg d0 (show (36 : Int) ≠ 0 by decide)
  have v1 := Int.emod_lt_of_pos d0 (show (0 : Int) < 36 by decide)
  generalize d0 % 36 = v at *
  generalize d0 / 36 = d1 at *
  obtain ⟨j, rfl⟩ : ∃ j : Nat, v = (j : Int) := ⟨v.toNat, by omega⟩
  have hj : j < ODD48.length := by show j < 36; omega
  have hq := odd48_ok _ (List.getElem_mem hj)
  refine ⟨ODD48[j], d1, hq.1, hq.2, ?_⟩
  have a1 : sv (callN fs gl N (k + 1)) gl N (.asg 1 (.lst (.cons (.str "") (.cons (.str " ") (.cons (.str "1 ") (.cons (.str " 1") (.cons (.str "1  2") (.cons (.str "01") (.cons (.str "1 02") (.cons (.str "-1") (.cons (.str "+1") (.cons (.str "1,2") (.cons (.str "1 x") (.cons (.str "1\n") (.cons (.str "\n1") (.cons (.str "1;2") (.cons (.str "1_0") (.cons (.str "1.0") .nil)))))))))))))))))) [some (.val (.ref r)), none] m = .ok .nx [some (.val (.ref r)), some (.own ((ODD48.take 16).map encS))] m := rfl
  have a2 : sv (callN fs gl N (k + 1)) gl N (.asg 1 (.bin .add (.var 1) (.lst (.cons (.str "0:1=2") (.cons (.str "1:1=") (.cons (.str "1:=1") (.cons (.str ":1=1") (.cons (.str "1=1:1") (.cons (.str "1:1=1=1") (.cons (.str "1:1:1=1") (.cons (.str "01:1=1") (.cons (.str "1:01=1") (.cons (.str "1:1=01") .nil))))))))))))) [some (.val (.ref r)), some (.own ((ODD48.take 16).map encS))] m = .ok .nx [some (.val (.ref r)), some (.own ((ODD48.take 26).map encS))] m := rfl
  have a3 : sv (callN fs gl N (k + 1)) gl N (.asg 1 (.bin .add (.var 1) (.lst (.cons (.str "1 :1=1") (.cons (.str "1: 1=1") (.cons (.str "1:1= 1") (.cons (.str "1:1=1 ") (.cons (.str "-1:1=1") (.cons (.str "1:+1=1") (.cons (.str "1:1=-1") (.cons (.str "1;1=1") (.cons (.str "1:1") (.cons (.str "7:0=0") .nil))))))))))))) [some (.val (.ref r)), some (.own ((ODD48.take 26).map encS))] m = .ok .nx [some (.val (.ref r)), some (.own (ODD48.map encS))] m := rfl
  have ix : ∀ m, idxR [some (.val (.ref r)), some (.own (ODD48.map encS))] m (.bor 1) (.val (.int (j : Int))) = some (encS ODD48[j]) := fun m => by
    rw [idx_own rfl, at_ok (by omega)]
    rw [Int.toNat_natCast, List.getElem?_map, List.getElem?_eq_getElem hj]; rfl
  change endR (sv (callN fs gl N (k + 1)) gl N (b_law_odd 6) [some (.val (.ref r)), none] m) = _
  unfold b_law_odd
  rw [sv_seq, a1, thn_nx, sv_seq, a2, thn_nx, sv_seq, a3, thn_nx]
  generalize ODD48.map encS = OO at *
  generalize encS ODD48[j] = ZZ at *
  simp only [sv_seq, sv_iff, sv_asg, sv_ret, sv_retn, sv_skip, sv_ex, sv_unp, ev_var, ev_int, ev_bl, ev_non, ev_str, ev_bin, ev_neg, ev_cmp, ev_chain, ev_not, ev_ite, ev_idx, ev_call, ev_blt, evl_1, evl_2, ev_and, ev_or, evAnd_1, evAnd_2, evOr_1, evOr_2, ev_fld, ev_box, boxR_new, evs_cons, evs_nil, enGet_0, enGet_s, bnd_ok, optp_some, opt2p_some, hold_val, hold_new, hold_bor, rvW_val, rvW_new, esc_val, esc_new, slOf_val, slOf_new, retR_val, retR_new, blR_bl, intR_int, toR_ok, thn_nx, thn_rt, end_nx, end_rt, List.set_cons_succ, List.set_cons_zero, List.length_cons, List.length_nil, Nat.zero_add, Nat.reduceAdd, if_true, if_false, Bool.false_eq_true, Bool.not_true, Bool.not_false, decide_true, decide_false, t, ix]
theorem w48f_run (F : K48Fs fs gl) (ha : OkT a) (hl : a.length ≤ 600) {x0 x1 x2 x3 x4 x5 x6 : Option Sl} :
    sv (callN fs gl N (k + 5)) gl N w48f [x0, x1, x2, x3, x4, x5, x6, some (.val (encS a))] m = .ok .nx [x0, x1, x2, x3, x4, x5, x6, some (.val (encS a))] m := by
  have p1 := read_table48 (k := k + 2) (N := N) (m := m) F.f2 F.f0 F.g0 ha hl
  have p1 : callN fs gl N (k + 4) 2 [encS a] m = _ := p1
  have q1 : callN fs gl N (k + 5) 12 [.fn 2, encS a] m = .ok (tabR a) m := by
    rcases tabR_form a with ⟨ws, e, _⟩ | e
    · rw [e] at p1 ⊢
      exact told48_ok F.f12 (.inl rfl) (.inl ⟨_, rfl⟩) p1
    · rw [e] at p1 ⊢
      exact told48_ex F.f12 (.inl rfl) p1
  have q2 := table_due48 (k := k + 3) (gl := gl) (N := N) (m := m) F.f10 F.f8 ha hl
  have q2 : callN fs gl N (k + 5) 10 [encS a] m = .ok (tabR a) m := q2
  have p3 := read_letter48 (k := k + 1) (N := N) (m := m) F.f3 F.f1 F.f0 F.g0 ha hl
  have p3 : callN fs gl N (k + 4) 3 [encS a] m = _ := p3
  have q3 : callN fs gl N (k + 5) 12 [.fn 3, encS a] m = .ok (letV a) m := by
    unfold letV
    cases e : letR a with
    | none =>
      rw [e] at p3
      exact told48_ex F.f12 (.inr rfl) p3
    | some w =>
      rw [e] at p3
      exact told48_ok F.f12 (.inr rfl) (.inr ⟨_, rfl⟩) p3
  have q4 := letter_due48 (k := k + 3) (gl := gl) (N := N) (m := m) F.f11 F.f8 ha hl
  have q4 : callN fs gl N (k + 5) 11 [encS a] m = .ok (letV a) m := q4
  have n1 := fun en m => ne_due (en := en) (m := m) (tabR_form a)
  have n2 : ∀ en m, cmpR .ne en m (hold (letV a)) (hold (letV a)) = some false := fun en m => by
    obtain ⟨w, e, hd⟩ := letV_form a
    rw [e, hold_val, ne_sees rfl rfl (Sees.self hd) (Sees.self hd), W.same_refl]; rfl
  have fv : ∀ f en m, ev (callN fs gl N (k + 5)) gl (.fnv f) en m = .ok (.val (.fn f)) en m := fun f en m => by simp only [ev]
  unfold w48f
  generalize encS a = A_ at *
  generalize tabR a = Z_ at *
  generalize letV a = Y_ at *
  simp only [sv_seq, sv_iff, sv_asg, sv_ret, sv_retn, sv_skip, sv_ex, sv_unp, ev_var, ev_int, ev_bl, ev_non, ev_str, ev_bin, ev_neg, ev_cmp, ev_chain, ev_not, ev_ite, ev_idx, ev_call, ev_blt, evl_1, evl_2, ev_and, ev_or, evAnd_1, evAnd_2, evOr_1, evOr_2, ev_fld, ev_box, boxR_new, evs_cons, evs_nil, enGet_0, enGet_s, bnd_ok, optp_some, opt2p_some, hold_val, hold_new, hold_bor, rvW_val, rvW_new, esc_val, esc_new, slOf_val, slOf_new, retR_val, retR_new, blR_bl, intR_int, toR_ok, thn_nx, thn_rt, end_nx, end_rt, List.set_cons_succ, List.set_cons_zero, List.length_cons, List.length_nil, Nat.zero_add, Nat.reduceAdd, if_true, if_false, Bool.false_eq_true, Bool.not_true, Bool.not_false, decide_true, decide_false, fv, q1, q2, q3, q4, n1, n2]
theorem w48o_run (F : K48Fs fs gl) {cell : Int} {x2 x3 x5 x6 x7 : Option Sl} :
    ∃ m2 z2 z3 z5 z6 z7, sv (callN fs gl N (k + 5)) gl N w48o [some (.val A), some (.val (.int cell)), x2, x3, none, x5, x6, x7] m = .ok .nx [some (.val A), some (.val (.int cell)), z2, z3, none, z5, z6, z7] m2 := by
  obtain ⟨x, q0⟩ := deck_run (k := k + 3) (gl := gl) (N := N) (m := m) (cell := cell) F.f5 F.f4
  have q0 : callN fs gl N (k + 5) 5 [.int cell] m = _ := q0
  obtain ⟨r, hr⟩ : ∃ r, r = m.length := ⟨_, rfl⟩
  obtain ⟨M0, hM⟩ : ∃ M0, M0 = m ++ [Ob.lst [W.int x]] := ⟨_, rfl⟩
  have hg : M0[r]? = some (.lst [.int x]) := by rw [hM, hr]; simp
  have es : M0 = M0.set r (.lst [.int x]) := by
    apply List.ext_getElem?
    intro j
    by_cases hj : j = r
    · subst hj; rw [get_set hg, hg]
    · rw [List.getElem?_set_ne (Ne.symm hj)]
  have a0 : sv (callN fs gl N (k + 5)) gl N (.asg 2 (.box (.call 5 1 (.cons (.var 1) .nil)))) [some (.val A), some (.val (.int cell)), x2, x3, none, x5, x6, x7] m = .ok .nx [some (.val A), some (.val (.int cell)), some (.val (.ref r)), x3, none, x5, x6, x7] (M0.set r (.lst [.int x])) := by
    rw [← es, hM, hr]
    simp only [sv_seq, sv_iff, sv_asg, sv_ret, sv_retn, sv_skip, sv_ex, sv_unp, ev_var, ev_int, ev_bl, ev_non, ev_str, ev_bin, ev_neg, ev_cmp, ev_chain, ev_not, ev_ite, ev_idx, ev_call, ev_blt, evl_1, evl_2, ev_and, ev_or, evAnd_1, evAnd_2, evOr_1, evOr_2, ev_fld, ev_box, boxR_new, evs_cons, evs_nil, enGet_0, enGet_s, bnd_ok, optp_some, opt2p_some, hold_val, hold_new, hold_bor, rvW_val, rvW_new, esc_val, esc_new, slOf_val, slOf_new, retR_val, retR_new, blR_bl, intR_int, toR_ok, thn_nx, thn_rt, end_nx, end_rt, List.set_cons_succ, List.set_cons_zero, List.length_cons, List.length_nil, Nat.zero_add, Nat.reduceAdd, if_true, if_false, Bool.false_eq_true, Bool.not_true, Bool.not_false, decide_true, decide_false, q0]
  -- the table's text
  obtain ⟨v1, d1, t1, v10, v11⟩ := take50 (k := k + 4) (gl := gl) (N := N) (d := x) (n := 6) F.f6 hg (by decide) (by decide)
  have t1 : callN fs gl N (k + 5) 6 [.ref r, .int 6] (M0.set r (.lst [.int x])) = _ := t1
  have sr1 : evs (callN fs gl N (k + 5)) gl (.cons (.bin .add (.int 1) (.call 6 2 (.cons (.var 2) (.cons (.int 6) .nil)))) .nil) [some (.val A), some (.val (.int cell)), some (.val (.ref r)), x3, none, x5, x6, x7] (M0.set r (.lst [.int x])) = .ok [.int (1 + v1)] [some (.val A), some (.val (.int cell)), some (.val (.ref r)), x3, none, x5, x6, x7] (M0.set r (.lst [.int d1])) := by
    simp only [sv_seq, sv_iff, sv_asg, sv_ret, sv_retn, sv_skip, sv_ex, sv_unp, ev_var, ev_int, ev_bl, ev_non, ev_str, ev_bin, ev_neg, ev_cmp, ev_chain, ev_not, ev_ite, ev_idx, ev_call, ev_blt, evl_1, evl_2, ev_and, ev_or, evAnd_1, evAnd_2, evOr_1, evOr_2, ev_fld, ev_box, boxR_new, evs_cons, evs_nil, enGet_0, enGet_s, bnd_ok, optp_some, opt2p_some, hold_val, hold_new, hold_bor, rvW_val, rvW_new, esc_val, esc_new, slOf_val, slOf_new, retR_val, retR_new, blR_bl, intR_int, toR_ok, thn_nx, thn_rt, end_nx, end_rt, List.set_cons_succ, List.set_cons_zero, List.length_cons, List.length_nil, Nat.zero_add, Nat.reduceAdd, if_true, if_false, Bool.false_eq_true, Bool.not_true, Bool.not_false, decide_true, decide_false, t1, add_ints]
  obtain ⟨ta, d2, tao, tal, a1⟩ := row48 (cs := callN fs gl N (k + 5)) (gl := gl) (N := N) (m := (M0.set r (.lst [.int x]))) (m2 := M0) (r := r) (ob := .lst []) (B := 10 ^ 18) (L := 20) (elt := .call 7 1 (.cons (.var 2) .nil)) (by omega) (by omega) (fun i h0 h1 => ⟨⟨h0, Int.lt_trans h1 (by decide)⟩, numT_len (Int.lt_trans h1 (by decide))⟩) (by decide) sr1 (fun z d => by
    obtain ⟨i, d2, i0, i1, e⟩ := number49 (k := k + 3) (gl := gl) (N := N) F.f7 F.f6 hg (d0 := d)
    have e : callN fs gl N (k + 5) 7 [.ref r] (M0.set r (.lst [.int d])) = _ := e
    refine ⟨i, d2, i0, i1, ?_⟩
    simp only [sv_seq, sv_iff, sv_asg, sv_ret, sv_retn, sv_skip, sv_ex, sv_unp, ev_var, ev_int, ev_bl, ev_non, ev_str, ev_bin, ev_neg, ev_cmp, ev_chain, ev_not, ev_ite, ev_idx, ev_call, ev_blt, evl_1, evl_2, ev_and, ev_or, evAnd_1, evAnd_2, evOr_1, evOr_2, ev_fld, ev_box, boxR_new, evs_cons, evs_nil, enGet_0, enGet_s, bnd_ok, optp_some, opt2p_some, hold_val, hold_new, hold_bor, rvW_val, rvW_new, esc_val, esc_new, slOf_val, slOf_new, retR_val, retR_new, blR_bl, intR_int, toR_ok, thn_nx, thn_rt, end_nx, end_rt, List.set_cons_succ, List.set_cons_zero, List.length_cons, List.length_nil, Nat.zero_add, Nat.reduceAdd, if_true, if_false, Bool.false_eq_true, Bool.not_true, Bool.not_false, decide_true, decide_false, e])
  have tal : ta.length ≤ 126 := by
    have : (1 + v1).toNat * (20 + 1) ≤ 6 * 21 := Nat.mul_le_mul_right _ (by omega)
    omega
  obtain ⟨v2, d3, t2, v20, v21⟩ := take50 (k := k + 4) (gl := gl) (N := N) (d := d2) (n := 8) F.f6 hg (by decide) (by decide)
  have t2 : callN fs gl N (k + 5) 6 [.ref r, .int 8] (M0.set r (.lst [.int d2])) = _ := t2
  obtain ⟨tx, d4, txo, txl, a2⟩ : ∃ tx d4, OkT tx ∧ tx.length ≤ 126 ∧ sv (callN fs gl N (k + 5)) gl N (.iff (.cmp .eq (.call 6 2 (.cons (.var 2) (.cons (.int 8) .nil))) (.int 3)) (.seq (.asg 3 (.mth .join (.str " ") (.comp .rng1 (.cons (.bin .add (.int 7) (.call 6 2 (.cons (.var 2) (.cons (.int 33) .nil)))) .nil) (.one 4) [4] .nil (.blt .str (.cons (.call 6 2 (.cons (.var 2) (.cons (.int 12) .nil))) .nil))))) .skip) .skip) [some (.val A), some (.val (.int cell)), some (.val (.ref r)), some (.val (encS ta)), none, x5, x6, x7] (M0.set r (.lst [.int d2])) = .ok .nx [some (.val A), some (.val (.int cell)), some (.val (.ref r)), some (.val (encS tx)), none, x5, x6, x7] (M0.set r (.lst [.int d4])) := by
    by_cases c : v2 = 3
    · obtain ⟨v3, d5, t3, v30, v31⟩ := take50 (k := k + 4) (gl := gl) (N := N) (d := d3) (n := 33) F.f6 hg (by decide) (by decide)
      have t3 : callN fs gl N (k + 5) 6 [.ref r, .int 33] (M0.set r (.lst [.int d3])) = _ := t3
      have sr2 : evs (callN fs gl N (k + 5)) gl (.cons (.bin .add (.int 7) (.call 6 2 (.cons (.var 2) (.cons (.int 33) .nil)))) .nil) [some (.val A), some (.val (.int cell)), some (.val (.ref r)), some (.val (encS ta)), none, x5, x6, x7] (M0.set r (.lst [.int d3])) = .ok [.int (7 + v3)] [some (.val A), some (.val (.int cell)), some (.val (.ref r)), some (.val (encS ta)), none, x5, x6, x7] (M0.set r (.lst [.int d5])) := by
        generalize encS ta = TA at *
        simp only [sv_seq, sv_iff, sv_asg, sv_ret, sv_retn, sv_skip, sv_ex, sv_unp, ev_var, ev_int, ev_bl, ev_non, ev_str, ev_bin, ev_neg, ev_cmp, ev_chain, ev_not, ev_ite, ev_idx, ev_call, ev_blt, evl_1, evl_2, ev_and, ev_or, evAnd_1, evAnd_2, evOr_1, evOr_2, ev_fld, ev_box, boxR_new, evs_cons, evs_nil, enGet_0, enGet_s, bnd_ok, optp_some, opt2p_some, hold_val, hold_new, hold_bor, rvW_val, rvW_new, esc_val, esc_new, slOf_val, slOf_new, retR_val, retR_new, blR_bl, intR_int, toR_ok, thn_nx, thn_rt, end_nx, end_rt, List.set_cons_succ, List.set_cons_zero, List.length_cons, List.length_nil, Nat.zero_add, Nat.reduceAdd, if_true, if_false, Bool.false_eq_true, Bool.not_true, Bool.not_false, decide_true, decide_false, t3, add_ints]
      obtain ⟨tb, d6, tbo, tbl, b1⟩ := row48 (cs := callN fs gl N (k + 5)) (gl := gl) (N := N) (m := (M0.set r (.lst [.int d3]))) (m2 := M0) (r := r) (ob := .lst []) (B := 12) (L := 2) (elt := .call 6 2 (.cons (.var 2) (.cons (.int 12) .nil))) (by omega) (by omega) (fun i h0 h1 => ⟨⟨h0, Int.lt_trans h1 (by decide)⟩, TL.numL_len (by decide) (by omega)⟩) (by decide) sr2 (fun z d => by
        obtain ⟨i, d2, e, i0, i1⟩ := take50 (k := k + 4) (gl := gl) (N := N) (d := d) (n := 12) F.f6 hg (by decide) (by decide)
        have e : callN fs gl N (k + 5) 6 [.ref r, .int 12] (M0.set r (.lst [.int d])) = _ := e
        refine ⟨i, d2, i0, i1, ?_⟩
        generalize encS ta = TA at *
        simp only [sv_seq, sv_iff, sv_asg, sv_ret, sv_retn, sv_skip, sv_ex, sv_unp, ev_var, ev_int, ev_bl, ev_non, ev_str, ev_bin, ev_neg, ev_cmp, ev_chain, ev_not, ev_ite, ev_idx, ev_call, ev_blt, evl_1, evl_2, ev_and, ev_or, evAnd_1, evAnd_2, evOr_1, evOr_2, ev_fld, ev_box, boxR_new, evs_cons, evs_nil, enGet_0, enGet_s, bnd_ok, optp_some, opt2p_some, hold_val, hold_new, hold_bor, rvW_val, rvW_new, esc_val, esc_new, slOf_val, slOf_new, retR_val, retR_new, blR_bl, intR_int, toR_ok, thn_nx, thn_rt, end_nx, end_rt, List.set_cons_succ, List.set_cons_zero, List.length_cons, List.length_nil, Nat.zero_add, Nat.reduceAdd, if_true, if_false, Bool.false_eq_true, Bool.not_true, Bool.not_false, decide_true, decide_false, e])
      have dc : decide (v2 = 3) = true := decide_eq_true c
      refine ⟨tb, d6, tbo, ?_, ?_⟩
      · have : (7 + v3).toNat * (2 + 1) ≤ 39 * 3 := Nat.mul_le_mul_right _ (by omega)
        omega
      · generalize encS ta = TA at *
        generalize encS tb = TB at *
        rw [sv_iff]
        simp only [ev_cmp, sv_seq, sv_iff, sv_asg, sv_ret, sv_retn, sv_skip, sv_ex, sv_unp, ev_var, ev_int, ev_bl, ev_non, ev_str, ev_bin, ev_neg, ev_cmp, ev_chain, ev_not, ev_ite, ev_idx, ev_call, ev_blt, evl_1, evl_2, ev_and, ev_or, evAnd_1, evAnd_2, evOr_1, evOr_2, ev_fld, ev_box, boxR_new, evs_cons, evs_nil, enGet_0, enGet_s, bnd_ok, optp_some, opt2p_some, hold_val, hold_new, hold_bor, rvW_val, rvW_new, esc_val, esc_new, slOf_val, slOf_new, retR_val, retR_new, blR_bl, intR_int, toR_ok, thn_nx, thn_rt, end_nx, end_rt, List.set_cons_succ, List.set_cons_zero, List.length_cons, List.length_nil, Nat.zero_add, Nat.reduceAdd, if_true, if_false, Bool.false_eq_true, Bool.not_true, Bool.not_false, decide_true, decide_false, t2, eq_ints, dc, b1]
    · have dc : decide (v2 = 3) = false := decide_eq_false c
      refine ⟨ta, d3, tao, tal, ?_⟩
      generalize encS ta = TA at *
      simp only [sv_seq, sv_iff, sv_asg, sv_ret, sv_retn, sv_skip, sv_ex, sv_unp, ev_var, ev_int, ev_bl, ev_non, ev_str, ev_bin, ev_neg, ev_cmp, ev_chain, ev_not, ev_ite, ev_idx, ev_call, ev_blt, evl_1, evl_2, ev_and, ev_or, evAnd_1, evAnd_2, evOr_1, evOr_2, ev_fld, ev_box, boxR_new, evs_cons, evs_nil, enGet_0, enGet_s, bnd_ok, optp_some, opt2p_some, hold_val, hold_new, hold_bor, rvW_val, rvW_new, esc_val, esc_new, slOf_val, slOf_new, retR_val, retR_new, blR_bl, intR_int, toR_ok, thn_nx, thn_rt, end_nx, end_rt, List.set_cons_succ, List.set_cons_zero, List.length_cons, List.length_nil, Nat.zero_add, Nat.reduceAdd, if_true, if_false, Bool.false_eq_true, Bool.not_true, Bool.not_false, decide_true, decide_false, t2, eq_ints, dc]
  -- the letter's text
  obtain ⟨v4, d5, t4, v40, v41⟩ := take50 (k := k + 4) (gl := gl) (N := N) (d := d4) (n := 2) F.f6 hg (by decide) (by decide)
  have t4 : callN fs gl N (k + 5) 6 [.ref r, .int 2] (M0.set r (.lst [.int d4])) = _ := t4
  obtain ⟨B, hB0, hB1, ixB⟩ : ∃ B : Int, 0 < B ∧ B ≤ 10 ^ 17 ∧ atI [W.int 99, W.int (10 ^ (17 : Int).toNat)] v4 = some (.int B) := by
    have hv : v4 = 0 ∨ v4 = 1 := by omega
    rcases hv with rfl | rfl
    · exact ⟨99, by decide, by decide, at_0⟩
    · exact ⟨_, by decide, by decide, at_1⟩
  obtain ⟨v5, d6, t5, v50, v51⟩ := take50 (k := k + 4) (gl := gl) (N := N) (d := d5) (n := B) F.f6 hg hB0 (Int.le_trans hB1 (by decide))
  have t5 : callN fs gl N (k + 5) 6 [.ref r, .int B] (M0.set r (.lst [.int d5])) = _ := t5
  obtain ⟨nl, hnl⟩ : ∃ nl, nl = 1 + v5 := ⟨_, rfl⟩
  have nlS : SmI nl := ⟨by omega, by omega⟩
  have bs : ∀ m, bltR .str m [.int nl] = some (.val (encS (numT nl))) := fun m => nlS.num
  have pw : ∀ en m, binR .pow en m (.val (.int 10)) (.val (.int 17)) = some (.val (.int (10 ^ (17 : Int).toNat))) := fun en m => pow_ints (by decide)
  have ixB : ∀ en m, idxR en m (.val (.lst [W.int 99, W.int (10 ^ (17 : Int).toNat)])) (.val (.int v4)) = some (.int B) := fun en m => ixB
  have l2 : (2 : Nat) ≤ LIM := by decide
  have a3 : sv (callN fs gl N (k + 5)) gl N (.asg 5 (.blt .str (.cons (.bin .add (.int 1) (.call 6 2 (.cons (.var 2) (.cons (.idx (.lst (.cons (.int 99) (.cons (.bin .pow (.int 10) (.int 17)) .nil))) (.call 6 2 (.cons (.var 2) (.cons (.int 2) .nil)))) .nil)))) .nil))) [some (.val A), some (.val (.int cell)), some (.val (.ref r)), some (.val (encS tx)), none, x5, x6, x7] (M0.set r (.lst [.int d4])) = .ok .nx [some (.val A), some (.val (.int cell)), some (.val (.ref r)), some (.val (encS tx)), none, some (.val (encS (numT nl))), x6, x7] (M0.set r (.lst [.int d6])) := by
    have ad : ∀ en m, binR .add en m (.val (.int 1)) (.val (.int v5)) = some (.val (.int nl)) := fun en m => by rw [add_ints, hnl]
    generalize (10 : Int) ^ (17 : Int).toNat = P17 at *
    generalize encS tx = TX at *
    generalize encS (numT nl) = NL at *
    simp only [sv_seq, sv_iff, sv_asg, sv_ret, sv_retn, sv_skip, sv_ex, sv_unp, ev_var, ev_int, ev_bl, ev_non, ev_str, ev_bin, ev_neg, ev_cmp, ev_chain, ev_not, ev_ite, ev_idx, ev_call, ev_blt, evl_1, evl_2, ev_and, ev_or, evAnd_1, evAnd_2, evOr_1, evOr_2, ev_fld, ev_box, boxR_new, evs_cons, evs_nil, enGet_0, enGet_s, bnd_ok, optp_some, opt2p_some, hold_val, hold_new, hold_bor, rvW_val, rvW_new, esc_val, esc_new, slOf_val, slOf_new, retR_val, retR_new, blR_bl, intR_int, toR_ok, thn_nx, thn_rt, end_nx, end_rt, List.set_cons_succ, List.set_cons_zero, List.length_cons, List.length_nil, Nat.zero_add, Nat.reduceAdd, if_true, if_false, Bool.false_eq_true, Bool.not_true, Bool.not_false, decide_true, decide_false, ev_lst, pw, l2, t4, ixB, t5, ad, bs]
  obtain ⟨i, d7, i0, i1, q4⟩ := number49 (k := k + 3) (gl := gl) (N := N) F.f7 F.f6 hg (d0 := d6)
  have q4 : callN fs gl N (k + 5) 7 [.ref r] (M0.set r (.lst [.int d6])) = _ := q4
  obtain ⟨w, d8, w0, w1, q5⟩ := number49 (k := k + 3) (gl := gl) (N := N) F.f7 F.f6 hg (d0 := d7)
  have q5 : callN fs gl N (k + 5) 7 [.ref r] (M0.set r (.lst [.int d7])) = _ := q5
  have iS : SmI i := ⟨i0, Int.lt_trans i1 (by decide)⟩
  have wS : SmI w := ⟨w0, Int.lt_trans w1 (by decide)⟩
  have bi : ∀ m, bltR .str m [.int i] = some (.val (encS (numT i))) := fun m => iS.num
  have bw : ∀ m, bltR .str m [.int w] = some (.val (encS (numT w))) := fun m => wS.num
  have n1 := numT_len nlS.2
  have n2 := numT_len iS.2
  have n3 := numT_len wS.2
  obtain ⟨lt, hlt⟩ : ∃ lt, lt = numT nl ++ [58] ++ numT i ++ [61] ++ numT w := ⟨_, rfl⟩
  have ltl : lt.length ≤ 62 := by rw [hlt]; simp only [List.length_append, List.length_cons, List.length_nil]; omega
  have lto : OkT lt := by
    rw [hlt]
    exact ((((numT_ok nl).app (oS (by decide))).app (numT_ok i)).app (oS (by decide))).app (numT_ok w)
  have a4 : sv (callN fs gl N (k + 5)) gl N (.asg 5 (.bin .add (.bin .add (.bin .add (.bin .add (.var 5) (.str ":")) (.blt .str (.cons (.call 7 1 (.cons (.var 2) .nil)) .nil))) (.str "=")) (.blt .str (.cons (.call 7 1 (.cons (.var 2) .nil)) .nil)))) [some (.val A), some (.val (.int cell)), some (.val (.ref r)), some (.val (encS tx)), none, some (.val (encS (numT nl))), x6, x7] (M0.set r (.lst [.int d6])) = .ok .nx [some (.val A), some (.val (.int cell)), some (.val (.ref r)), some (.val (encS tx)), none, some (.val (encS lt)), x6, x7] (M0.set r (.lst [.int d8])) := by
    have e1 : ∀ en m, binR .add en m (.val (encS (numT nl))) (.val (.str ":")) = some (.val (encS (numT nl ++ [58]))) := fun en m => add_S (a := numT nl) (b := [58]) (by unfold LIM; simp only [List.length_cons, List.length_nil]; omega)
    have e2 : ∀ en m, binR .add en m (.val (encS (numT nl ++ [58]))) (.val (encS (numT i))) = some (.val (encS (numT nl ++ [58] ++ numT i))) := fun en m => add_S (by unfold LIM; simp only [List.length_append, List.length_cons, List.length_nil]; omega)
    have e3 : ∀ en m, binR .add en m (.val (encS (numT nl ++ [58] ++ numT i))) (.val (.str "=")) = some (.val (encS (numT nl ++ [58] ++ numT i ++ [61]))) := fun en m => add_S (a := numT nl ++ [58] ++ numT i) (b := [61]) (by unfold LIM; simp only [List.length_append, List.length_cons, List.length_nil]; omega)
    have e4 : ∀ en m, binR .add en m (.val (encS (numT nl ++ [58] ++ numT i ++ [61]))) (.val (encS (numT w))) = some (.val (encS lt)) := fun en m => by rw [hlt]; exact add_S (by unfold LIM; simp only [List.length_append, List.length_cons, List.length_nil]; omega)
    generalize encS tx = TX at *
    generalize encS lt = LT at *
    generalize encS (numT nl ++ [58] ++ numT i ++ [61]) = Y3 at *
    generalize encS (numT nl ++ [58] ++ numT i) = Y2 at *
    generalize encS (numT nl ++ [58]) = Y1 at *
    generalize encS (numT nl) = Y0 at *
    generalize encS (numT i) = Y5 at *
    generalize encS (numT w) = Y6 at *
    simp only [sv_seq, sv_iff, sv_asg, sv_ret, sv_retn, sv_skip, sv_ex, sv_unp, ev_var, ev_int, ev_bl, ev_non, ev_str, ev_bin, ev_neg, ev_cmp, ev_chain, ev_not, ev_ite, ev_idx, ev_call, ev_blt, evl_1, evl_2, ev_and, ev_or, evAnd_1, evAnd_2, evOr_1, evOr_2, ev_fld, ev_box, boxR_new, evs_cons, evs_nil, enGet_0, enGet_s, bnd_ok, optp_some, opt2p_some, hold_val, hold_new, hold_bor, rvW_val, rvW_new, esc_val, esc_new, slOf_val, slOf_new, retR_val, retR_new, blR_bl, intR_int, toR_ok, thn_nx, thn_rt, end_nx, end_rt, List.set_cons_succ, List.set_cons_zero, List.length_cons, List.length_nil, Nat.zero_add, Nat.reduceAdd, if_true, if_false, Bool.false_eq_true, Bool.not_true, Bool.not_false, decide_true, decide_false, q4, q5, bi, bw, e1, e2, e3, e4]
  -- the texts
  obtain ⟨c1, e1, c1o, c1l, g1⟩ := changed_text (k := k + 3) (gl := gl) (N := N) (m := (M0.set r (.lst [.int d8]))) F.f9 F.f6 (get_set hg) txo (by omega)
  rw [set_set] at g1
  have g1 : callN fs gl N (k + 5) 9 [.ref r, encS tx] (M0.set r (.lst [.int d8])) = .ok (.val (encS c1)) (M0.set r (.lst [.int e1])) := g1
  obtain ⟨c2, e2, c2o, c2l, g2⟩ := changed_text (k := k + 3) (gl := gl) (N := N) (m := (M0.set r (.lst [.int e1]))) F.f9 F.f6 (get_set hg) lto (by omega)
  rw [set_set] at g2
  have g2 : callN fs gl N (k + 5) 9 [.ref r, encS lt] (M0.set r (.lst [.int e1])) = .ok (.val (encS c2)) (M0.set r (.lst [.int e2])) := g2
  obtain ⟨o1, e3, o1o, o1l, g3⟩ := odd48_run (k := k + 3) (gl := gl) (N := N) (m := (M0.set r (.lst [.int e2]))) F.f13 F.f6 (get_set hg)
  rw [set_set] at g3
  have g3 : callN fs gl N (k + 5) 13 [.ref r] (M0.set r (.lst [.int e2])) = .ok (.val (encS o1)) (M0.set r (.lst [.int e3])) := g3
  obtain ⟨o2, e4, o2o, o2l, g4⟩ := odd48_run (k := k + 3) (gl := gl) (N := N) (m := (M0.set r (.lst [.int e3]))) F.f13 F.f6 (get_set hg)
  rw [set_set] at g4
  have g4 : callN fs gl N (k + 5) 13 [.ref r] (M0.set r (.lst [.int e3])) = .ok (.val (encS o2)) (M0.set r (.lst [.int e4])) := g4
  have l4 : (4 : Nat) ≤ LIM := by decide
  have a5 : sv (callN fs gl N (k + 5)) gl N (.asg 6 (.lst (.cons (.call 9 2 (.cons (.var 2) (.cons (.var 3) .nil))) (.cons (.call 9 2 (.cons (.var 2) (.cons (.var 5) .nil))) (.cons (.call 13 1 (.cons (.var 2) .nil)) (.cons (.call 13 1 (.cons (.var 2) .nil)) .nil)))))) [some (.val A), some (.val (.int cell)), some (.val (.ref r)), some (.val (encS tx)), none, some (.val (encS lt)), x6, x7] (M0.set r (.lst [.int d8])) = .ok .nx [some (.val A), some (.val (.int cell)), some (.val (.ref r)), some (.val (encS tx)), none, some (.val (encS lt)), some (.own [encS c1, encS c2, encS o1, encS o2]), x7] (M0.set r (.lst [.int e4])) := by
    generalize encS tx = TX at *
    generalize encS lt = LT at *
    generalize encS c1 = C1 at *
    generalize encS c2 = C2 at *
    generalize encS o1 = O1 at *
    generalize encS o2 = O2 at *
    simp only [sv_seq, sv_iff, sv_asg, sv_ret, sv_retn, sv_skip, sv_ex, sv_unp, ev_var, ev_int, ev_bl, ev_non, ev_str, ev_bin, ev_neg, ev_cmp, ev_chain, ev_not, ev_ite, ev_idx, ev_call, ev_blt, evl_1, evl_2, ev_and, ev_or, evAnd_1, evAnd_2, evOr_1, evOr_2, ev_fld, ev_box, boxR_new, evs_cons, evs_nil, enGet_0, enGet_s, bnd_ok, optp_some, opt2p_some, hold_val, hold_new, hold_bor, rvW_val, rvW_new, esc_val, esc_new, slOf_val, slOf_new, retR_val, retR_new, blR_bl, intR_int, toR_ok, thn_nx, thn_rt, end_nx, end_rt, List.set_cons_succ, List.set_cons_zero, List.length_cons, List.length_nil, Nat.zero_add, Nat.reduceAdd, if_true, if_false, Bool.false_eq_true, Bool.not_true, Bool.not_false, decide_true, decide_false, ev_lst, g1, g2, g3, g4, l4]
  obtain ⟨c4, e5, c4o, c4l, g5⟩ := changed_text (k := k + 3) (gl := gl) (N := N) (m := (M0.set r (.lst [.int e4]))) F.f9 F.f6 (get_set hg) lto (by omega)
  rw [set_set] at g5
  have g5 : callN fs gl N (k + 5) 9 [.ref r, encS lt] (M0.set r (.lst [.int e4])) = .ok (.val (encS c4)) (M0.set r (.lst [.int e5])) := g5
  obtain ⟨c3, e6, c3o, c3l, g6⟩ := changed_text (k := k + 3) (gl := gl) (N := N) (m := (M0.set r (.lst [.int e5]))) F.f9 F.f6 (get_set hg) c4o (by omega)
  rw [set_set] at g6
  have g6 : callN fs gl N (k + 5) 9 [.ref r, encS c4] (M0.set r (.lst [.int e5])) = .ok (.val (encS c3)) (M0.set r (.lst [.int e6])) := g6
  have l3 : (3 : Nat) ≤ LIM := by decide
  have a6 : sv (callN fs gl N (k + 5)) gl N (.asg 6 (.bin .add (.var 6) (.lst (.cons (.call 9 2 (.cons (.var 2) (.cons (.call 9 2 (.cons (.var 2) (.cons (.var 5) .nil))) .nil))) (.cons (.var 3) (.cons (.var 5) .nil)))))) [some (.val A), some (.val (.int cell)), some (.val (.ref r)), some (.val (encS tx)), none, some (.val (encS lt)), some (.own [encS c1, encS c2, encS o1, encS o2]), x7] (M0.set r (.lst [.int e4])) = .ok .nx [some (.val A), some (.val (.int cell)), some (.val (.ref r)), some (.val (encS tx)), none, some (.val (encS lt)), some (.own ([c1, c2, o1, o2, c3, tx, lt].map encS)), x7] (M0.set r (.lst [.int e6])) := by
    have ao := add_own (en := [some (.val A), some (.val (.int cell)), some (.val (.ref r)), some (.val (encS tx)), none, some (.val (encS lt)), some (.own [encS c1, encS c2, encS o1, encS o2]), x7]) (m := (M0.set r (.lst [.int e6]))) (j := 6) (ws := [encS c1, encS c2, encS o1, encS o2]) (zs := [encS c3, encS tx, encS lt]) rfl (by simp only [List.length_cons, List.length_nil]; decide)
    have nl : [c1, c2, o1, o2, c3, tx, lt].map encS = [encS c1, encS c2, encS o1, encS o2] ++ [encS c3, encS tx, encS lt] := rfl
    rw [nl]
    generalize encS tx = TX at *
    generalize encS lt = LT at *
    generalize encS c1 = C1 at *
    generalize encS c2 = C2 at *
    generalize encS c3 = C3 at *
    generalize encS c4 = C4 at *
    generalize encS o1 = O1 at *
    generalize encS o2 = O2 at *
    simp only [sv_seq, sv_iff, sv_asg, sv_ret, sv_retn, sv_skip, sv_ex, sv_unp, ev_var, ev_int, ev_bl, ev_non, ev_str, ev_bin, ev_neg, ev_cmp, ev_chain, ev_not, ev_ite, ev_idx, ev_call, ev_blt, evl_1, evl_2, ev_and, ev_or, evAnd_1, evAnd_2, evOr_1, evOr_2, ev_fld, ev_box, boxR_new, evs_cons, evs_nil, enGet_0, enGet_s, bnd_ok, optp_some, opt2p_some, hold_val, hold_new, hold_bor, rvW_val, rvW_new, esc_val, esc_new, slOf_val, slOf_new, retR_val, retR_new, blR_bl, intR_int, toR_ok, thn_nx, thn_rt, end_nx, end_rt, List.set_cons_succ, List.set_cons_zero, List.length_cons, List.length_nil, Nat.zero_add, Nat.reduceAdd, if_true, if_false, Bool.false_eq_true, Bool.not_true, Bool.not_false, decide_true, decide_false, ev_lst, g5, g6, l3, ao]
  have okAll : ∀ q ∈ [c1, c2, o1, o2, c3, tx, lt], OkT q ∧ q.length ≤ 600 := fun q hq => by
    simp only [List.mem_cons, List.not_mem_nil, or_false] at hq
    rcases hq with rfl | rfl | rfl | rfl | rfl | rfl | rfl
    · exact ⟨c1o, by omega⟩
    · exact ⟨c2o, by omega⟩
    · exact ⟨o1o, by omega⟩
    · exact ⟨o2o, by omega⟩
    · exact ⟨c3o, by omega⟩
    · exact ⟨txo, by omega⟩
    · exact ⟨lto, by omega⟩
  generalize [c1, c2, o1, o2, c3, tx, lt] = TS at *
  have src : evs (callN fs gl N (k + 5)) gl (.cons (.var 6) .nil) [some (.val A), some (.val (.int cell)), some (.val (.ref r)), some (.val (encS tx)), none, some (.val (encS lt)), some (.own (TS.map encS)), x7] (M0.set r (.lst [.int e6])) = .ok [.lst (TS.map encS)] [some (.val A), some (.val (.int cell)), some (.val (.ref r)), some (.val (encS tx)), none, some (.val (encS lt)), some (.val (.lst (TS.map encS))), x7] (M0.set r (.lst [.int e6])) := by
    rw [evs_cons, ev_var]; rfl
  obtain ⟨en9, m9, lp, y7, rfl, rfl⟩ := fl_steps (cs := callN fs gl N (k + 5)) (gl := gl) (N := N) (tg := .one 7) (b := w48f) (zs := TS.map encS) (en := [some (.val A), some (.val (.int cell)), some (.val (.ref r)), some (.val (encS tx)), none, some (.val (encS lt)), some (.val (.lst (TS.map encS))), x7]) (m := (M0.set r (.lst [.int e6])))
    (fun i en mm => ∃ y7, mm = (M0.set r (.lst [.int e6])) ∧ en = [some (.val A), some (.val (.int cell)), some (.val (.ref r)), some (.val (encS tx)), none, some (.val (encS lt)), some (.val (.lst (TS.map encS))), y7])
    ⟨x7, rfl, rfl⟩ (fun i z hz en mm hI => by
      obtain ⟨y7, rfl, rfl⟩ := hI
      obtain ⟨q, hq, rfl⟩ := List.mem_map.mp (List.mem_of_getElem? hz)
      obtain ⟨o1, o2⟩ := okAll q hq
      exact ⟨_, _, _, rfl, w48f_run F o1 o2, _, rfl, rfl⟩)
  have a7 : sv (callN fs gl N (k + 5)) gl N (.for_ .list (.cons (.var 6) .nil) (.one 7) w48f) [some (.val A), some (.val (.int cell)), some (.val (.ref r)), some (.val (encS tx)), none, some (.val (encS lt)), some (.own (TS.map encS)), x7] (M0.set r (.lst [.int e6])) = .ok .nx [some (.val A), some (.val (.int cell)), some (.val (.ref r)), some (.val (encS tx)), none, some (.val (encS lt)), some (.val (.lst (TS.map encS))), y7] (M0.set r (.lst [.int e6])) := by
    rw [sv_for, src, bnd_ok, items_lst, opt2p_some, lp]
  refine ⟨(M0.set r (.lst [.int e6])), some (.val (.ref r)), some (.val (encS tx)), some (.val (encS lt)), some (.val (.lst (TS.map encS))), y7, ?_⟩
  unfold w48o
  rw [sv_seq, a0, thn_nx, sv_seq, a1, thn_nx, sv_seq, a2, thn_nx, sv_seq, a3, thn_nx, sv_seq, a4, thn_nx, sv_seq, a5, thn_nx, sv_seq, a6, thn_nx, sv_seq, a7, thn_nx, sv_skip]
theorem k48_law (F : K48Fs fs gl) {ns : List Int} (hns : ns.length ≤ 63) :
    ∃ m2, callN fs gl N (k + 6) 14 [.scr (ns.map W.int)] m = .ok (.val (.bl true)) m2 := by
  rw [call_at F.f14 rfl]
  obtain ⟨A, hA⟩ : ∃ A, A = W.scr (ns.map W.int) := ⟨_, rfl⟩
  obtain ⟨lc, ec, el⟩ := cut20_48 (ns := ns)
  have p18 : ∀ en m, binR .pow en m (.val (.int 10)) (.val (.int 18)) = some (.val (.int (10 ^ 18))) := fun en m => cmp_pow (by decide) rfl
  have ad : ∀ en, binR .add en m (.val (.lst [W.int (10 ^ 18)])) (.val (.lst (lc.map W.int))) = some (.new ((10 ^ 18 :: lc).map W.int)) := fun en => add_lsts (by
    simp only [List.length_cons, List.length_nil, List.length_map]; unfold LIM; omega)
  have l1 : (1 : Nat) ≤ LIM := by decide
  have sl : ev (callN fs gl N (k + 5)) gl (.slc (.var 0) .nil (.int 20)) [some (.val A), none, none, none, none, none, none, none] m = .ok (.new (lc.map W.int)) [some (.val A), none, none, none, none, none, none, none] m := by
    rw [slc_ev, hA]
    simp [isNil, ec]
  have src : evs (callN fs gl N (k + 5)) gl (.cons (.bin .add (.lst (.cons (.bin .pow (.int 10) (.int 18)) .nil)) (.slc (.var 0) .nil (.int 20))) .nil) [some (.val A), none, none, none, none, none, none, none] m = .ok [.lst ((10 ^ 18 :: lc).map W.int)] [some (.val A), none, none, none, none, none, none, none] m := by
    generalize (10 ^ 18 :: lc).map W.int = G2 at *
    generalize lc.map W.int = G1 at *
    simp only [sv_seq, sv_iff, sv_asg, sv_ret, sv_retn, sv_skip, sv_ex, sv_unp, ev_var, ev_int, ev_bl, ev_non, ev_str, ev_bin, ev_neg, ev_cmp, ev_chain, ev_not, ev_ite, ev_idx, ev_call, ev_blt, evl_1, evl_2, ev_and, ev_or, evAnd_1, evAnd_2, evOr_1, evOr_2, ev_fld, ev_box, boxR_new, evs_cons, evs_nil, enGet_0, enGet_s, bnd_ok, optp_some, opt2p_some, hold_val, hold_new, hold_bor, rvW_val, rvW_new, esc_val, esc_new, slOf_val, slOf_new, retR_val, retR_new, blR_bl, intR_int, toR_ok, thn_nx, thn_rt, end_nx, end_rt, List.set_cons_succ, List.set_cons_zero, List.length_cons, List.length_nil, Nat.zero_add, Nat.reduceAdd, if_true, if_false, Bool.false_eq_true, Bool.not_true, Bool.not_false, decide_true, decide_false, ev_lst, l1, p18, sl, ad]
  obtain ⟨en8, m8, lp, y1, y2, y3, y5, y6, y7, rfl⟩ := fl_steps (cs := callN fs gl N (k + 5)) (gl := gl) (N := N) (tg := .one 1) (b := w48o) (zs := (10 ^ 18 :: lc).map W.int) (en := [some (.val A), none, none, none, none, none, none, none]) (m := m)
    (fun i en mm => ∃ y1 y2 y3 y5 y6 y7, en = [some (.val A), y1, y2, y3, none, y5, y6, y7])
    ⟨none, none, none, none, none, none, rfl⟩ (fun i z hz en mm hI => by
      obtain ⟨y1, y2, y3, y5, y6, y7, rfl⟩ := hI
      obtain ⟨cell, _, rfl⟩ := List.mem_map.mp (List.mem_of_getElem? hz)
      obtain ⟨m9, z2, z3, z5, z6, z7, q9⟩ := w48o_run (k := k) (N := N) (m := mm) F (A := A) (cell := cell) (x2 := y2) (x3 := y3) (x5 := y5) (x6 := y6) (x7 := y7)
      exact ⟨_, _, m9, rfl, q9, _, _, _, _, _, _, rfl⟩)
  have a2 : sv (callN fs gl N (k + 5)) gl N (.for_ .list (.cons (.bin .add (.lst (.cons (.bin .pow (.int 10) (.int 18)) .nil)) (.slc (.var 0) .nil (.int 20))) .nil) (.one 1) w48o) [some (.val A), none, none, none, none, none, none, none] m = .ok .nx [some (.val A), y1, y2, y3, none, y5, y6, y7] m8 := by
    rw [sv_for, src, bnd_ok, items_lst, opt2p_some, lp]
  refine ⟨m8, ?_⟩
  rw [← hA]
  change endR (sv (callN fs gl N (k + 5)) gl N (.seq (.for_ .list (.cons (.bin .add (.lst (.cons (.bin .pow (.int 10) (.int 18)) .nil)) (.slc (.var 0) .nil (.int 20))) .nil) (.one 1) w48o) (.seq (.ret (.bl true)) .skip)) [some (.val A), none, none, none, none, none, none, none] m) = _
  rw [sv_seq, a2, thn_nx, sv_seq, sv_ret]
  rfl
end
end Mp
namespace K48
open PySem PySem.Spec PyProof.Rows L2 Mp
noncomputable def topS (i : Nat) : Stmt := PySem.Challenge.pw_likecopies_k48_texts_of_no_table_and_no.main.body.getD i (.Pass ⟨0, 0, 0, 0⟩)
noncomputable def x_read_number : Fx := ⟨"read_number", "read_number", ["word"], ["word", "sign"], topS 14, ⟨1, 2, b_read_number_v1 0 9⟩⟩
noncomputable def x_read_from_one : Fx := ⟨"read_from_one", "read_from_one", ["word"], ["word", "number"], topS 15, ⟨1, 2, b_read_from_one_v1 0 9⟩⟩
noncomputable def x_read_table : Fx := ⟨"read_table", "read_table", ["text"], ["text", "word"], topS 16, ⟨1, 2, b_read_table_v1 0⟩⟩
noncomputable def x_read_letter : Fx := ⟨"read_letter", "read_letter", ["text"], ["text", "number", "colon", "rest", "place", "sign", "worth"], topS 17, ⟨1, 7, b_read_letter_v1 1 0 9⟩⟩
noncomputable def x_law_stir : Fx := ⟨"_law_stir", "_law_stir", ["cell", "k"], ["cell", "k", "number"], topS 19, ⟨2, 3, b_law_stir⟩⟩
noncomputable def x_law_deck : Fx := ⟨"_law_deck", "_law_deck", ["cell"], ["cell"], topS 20, ⟨1, 1, b_law_deck 4⟩⟩
noncomputable def x_law_take : Fx := ⟨"_law_take", "_law_take", ["deck", "many"], ["deck", "many", "taken"], topS 21, ⟨2, 3, b_law_take⟩⟩
noncomputable def x_law_number : Fx := ⟨"_law_number", "_law_number", ["deck"], ["deck"], topS 22, ⟨1, 1, b_law_number_v2 6⟩⟩
noncomputable def x_law_is_number : Fx := ⟨"_law_is_number", "_law_is_number", ["word"], ["word", "sign"], topS 23, ⟨1, 2, b_law_is_number_v1⟩⟩
noncomputable def x_law_changed : Fx := ⟨"_law_changed", "_law_changed", ["deck", "text"], ["deck", "text", "at", "sign", "way"], topS 24, ⟨2, 5, b_law_changed_v2 6⟩⟩
noncomputable def x_law_table_due : Fx := ⟨"_law_table_due", "_law_table_due", ["text"], ["text", "words", "word"], topS 25, ⟨1, 3, b_law_table_due 8⟩⟩
noncomputable def x_law_letter_due : Fx := ⟨"_law_letter_due", "_law_letter_due", ["text"], ["text", "words", "word"], topS 26, ⟨1, 3, b_law_letter_due 8⟩⟩
noncomputable def x_law_told : Fx := ⟨"_law_told", "_law_told", ["read", "text"], ["read", "text", "caught", "found", "e"], topS 27, ⟨2, 5, b_law_told_v4 [2, 3] [0, 1, 2, 3, 4, 5, 6, 7, 8, 9, 10] [false, true, true, true, true, true, true, true, true, false, true] [false, false, false, false, false, false, false, false, false, true, false] [true, true, true, true, true, true, true, true, true, true, true]⟩⟩
noncomputable def x_law_odd : Fx := ⟨"_law_odd", "_law_odd", ["deck"], ["deck", "some"], topS 28, ⟨1, 2, b_law_odd 6⟩⟩
noncomputable def x_law : Fx := ⟨"law", "law", ["script"], ["script", "cell", "deck", "table", "k", "letter", "texts", "text"], topS 29, ⟨1, 8, b_law_v49 9 5 11 7 13 10 6 12 3 2⟩⟩
noncomputable def fxs : List Fx := [x_read_number, x_read_from_one, x_read_table, x_read_letter, x_law_stir, x_law_deck, x_law_take, x_law_number, x_law_is_number, x_law_changed, x_law_table_due, x_law_letter_due, x_law_told, x_law_odd, x_law]
noncomputable def gns : List Str := ["FIGURES"]
noncomputable def gls : List W := [.str "0123456789"]
noncomputable def cis : List CI := []
noncomputable def exs : List XI := [⟨"CopyError", ["CopyError", "ValueError"]⟩, ⟨"NoPrime", ["NoPrime", "CopyError", "ValueError"]⟩, ⟨"NoNumber", ["NoNumber", "CopyError", "ValueError"]⟩, ⟨"NoTable", ["NoTable", "CopyError", "ValueError"]⟩, ⟨"NoPlace", ["NoPlace", "CopyError", "ValueError"]⟩, ⟨"NoSums", ["NoSums", "CopyError", "ValueError"]⟩, ⟨"NoLetter", ["NoLetter", "CopyError", "ValueError"]⟩, ⟨"NoMend", ["NoMend", "CopyError", "ValueError"]⟩, ⟨"NoRun", ["NoRun", "CopyError", "ValueError"]⟩, ⟨"NoText", ["NoText", "CopyError", "ValueError"]⟩, ⟨"NoForm", ["NoForm", "CopyError", "ValueError"]⟩]
theorem text_ok : fxs.all (okF (staOf fxs gns cis exs)) = true := by decide +kernel
end K48
namespace K48
open PySem PySem.Spec PyProof.Rows L2 Mp
noncomputable def level : Nat := 6
noncomputable def turns : Nat := 100000
theorem law_true : ∀ ns : List Int, ns.length ≤ 63 → ∃ m, callN (fxs.map (·.fd)) gls turns level 14 [.scr (ns.map W.int)] [] = .ok (.val (.bl true)) m := fun ns h =>
  k48_law (k := 0) (N := turns) (by constructor <;> rfl) h
end K48
open PySem PySem.W PyProof.Rows L2
set_option maxHeartbeats 0 in
theorem PySem.Challenge.cw_likecopies_k48_texts_of_no_table_and_no_holds : PySem.Challenge.rw_likecopies_k48_texts_of_no_table_and_no.Holds := by
  w_on; o_law; k_head; (case hw => w_witness2)
  k_fill
  refine L2.walk_of (l := PySem.Challenge.rw_likecopies_k48_texts_of_no_table_and_no) (n := 63) (k := 2 * K48.level) (x := "script") (CX := fun w => L2.CX PySem.Challenge.pw_likecopies_k48_texts_of_no_table_and_no w) (sp := fun w => Mp.spTrue _ 63) rfl (by decide) rfl ⟨rfl, by decide, by decide⟩ (fun w h Y => PySem.W.kIn_of Y) ?F (fun _ _ a ns hl _ hS => ⟨a, ns, rfl, hS, hl, fun _ => rfl⟩) (fun w H s e s1 h => by obtain ⟨_, _, _, _, _, _, _, _, _, _, _, _, z⟩ := h; exact z)
  case F =>
    intro w mg fa h KX G hmg
    refine' Mp.law_mk (i := 14) (f := K48.x_law) (k := K48.level) (Nf := K48.turns) (gn := K48.gns) (gl := K48.gls) (fs := K48.fxs) (cis := K48.cis) (exs := K48.exs) KX G hmg K48.text_ok rfl rfl rfl K48.law_true (.cons (Mp.ff_mk (st := K48.topS 14) (fun _ _ _ _ _ _ us hl => match us, hl with | [_], _ => rfl) ?ffa0 ?ffb0 ?ffc0 ?ffd0) (.cons (Mp.ff_mk (st := K48.topS 15) (fun _ _ _ _ _ _ us hl => match us, hl with | [_], _ => rfl) ?ffa1 ?ffb1 ?ffc1 ?ffd1) (.cons (Mp.ff_mk (st := K48.topS 16) (fun _ _ _ _ _ _ us hl => match us, hl with | [_], _ => rfl) ?ffa2 ?ffb2 ?ffc2 ?ffd2) (.cons (Mp.ff_mk (st := K48.topS 17) (fun _ _ _ _ _ _ us hl => match us, hl with | [_], _ => rfl) ?ffa3 ?ffb3 ?ffc3 ?ffd3) (.cons (Mp.ff_mk (st := K48.topS 19) (fun _ _ _ _ _ _ us hl => match us, hl with | [_, _], _ => rfl) ?ffa4 ?ffb4 ?ffc4 ?ffd4) (.cons (Mp.ff_mk (st := K48.topS 20) (fun _ _ _ _ _ _ us hl => match us, hl with | [_], _ => rfl) ?ffa5 ?ffb5 ?ffc5 ?ffd5) (.cons (Mp.ff_mk (st := K48.topS 21) (fun _ _ _ _ _ _ us hl => match us, hl with | [_, _], _ => rfl) ?ffa6 ?ffb6 ?ffc6 ?ffd6) (.cons (Mp.ff_mk (st := K48.topS 22) (fun _ _ _ _ _ _ us hl => match us, hl with | [_], _ => rfl) ?ffa7 ?ffb7 ?ffc7 ?ffd7) (.cons (Mp.ff_mk (st := K48.topS 23) (fun _ _ _ _ _ _ us hl => match us, hl with | [_], _ => rfl) ?ffa8 ?ffb8 ?ffc8 ?ffd8) (.cons (Mp.ff_mk (st := K48.topS 24) (fun _ _ _ _ _ _ us hl => match us, hl with | [_, _], _ => rfl) ?ffa9 ?ffb9 ?ffc9 ?ffd9) (.cons (Mp.ff_mk (st := K48.topS 25) (fun _ _ _ _ _ _ us hl => match us, hl with | [_], _ => rfl) ?ffa10 ?ffb10 ?ffc10 ?ffd10) (.cons (Mp.ff_mk (st := K48.topS 26) (fun _ _ _ _ _ _ us hl => match us, hl with | [_], _ => rfl) ?ffa11 ?ffb11 ?ffc11 ?ffd11) (.cons (Mp.ff_mk (st := K48.topS 27) (fun _ _ _ _ _ _ us hl => match us, hl with | [_, _], _ => rfl) ?ffa12 ?ffb12 ?ffc12 ?ffd12) (.cons (Mp.ff_mk (st := K48.topS 28) (fun _ _ _ _ _ _ us hl => match us, hl with | [_], _ => rfl) ?ffa13 ?ffb13 ?ffc13 ?ffd13) (.cons (Mp.ff_mk (st := K48.topS 29) (fun _ _ _ _ _ _ us hl => match us, hl with | [_], _ => rfl) ?ffa14 ?ffb14 ?ffc14 ?ffd14) .nil))))))))))))))) (.cons (Mp.gc_str ?gca0) .nil) (.cons ?bare0 (.cons ?bare1 (.cons ?bare2 (.cons ?bare3 (.cons ?bare4 (.cons ?bare5 (.cons ?bare6 (.cons ?bare7 (.cons ?bare8 (.cons ?bare9 (.cons ?bare10 (.cons ?bare11 (.cons ?bare12 (.cons ?bare13 (.cons ?bare14 (.cons ?bare15 (.cons ?bare16 (.cons ?bare17 (.cons ?bare18 (.cons ?bare19 (.cons ?bare20 (.cons ?bare21 .nil)))))))))))))))))))))) .nil (.cons (Mp.xx_mk ?xf0_0 ?xf0_1 ?xf0_2 ?xf0_3 ?xf0_4 ?xf0_5 ?xf0_6 ?xf0_7 ?xf0_8 ?xf0_9 ?xf0_10 ?xf0_11 ?xf0_12) (.cons ?xr0_0 (.cons ?xr0_1 (.cons ?xr0_2 (.cons ?xr0_3 (.cons ?xr0_4 (.cons ?xr0_5 (.cons ?xr0_6 (.cons ?xr0_7 (.cons ?xr0_8 (.cons ?xr0_9 (.cons ?xr0_10 .nil))))))))))) (.cons (Mp.xx_mk ?xf1_0 ?xf1_1 ?xf1_2 ?xf1_3 ?xf1_4 ?xf1_5 ?xf1_6 ?xf1_7 ?xf1_8 ?xf1_9 ?xf1_10 ?xf1_11 ?xf1_12) (.cons ?xr1_0 (.cons ?xr1_1 (.cons ?xr1_2 (.cons ?xr1_3 (.cons ?xr1_4 (.cons ?xr1_5 (.cons ?xr1_6 (.cons ?xr1_7 (.cons ?xr1_8 (.cons ?xr1_9 (.cons ?xr1_10 .nil))))))))))) (.cons (Mp.xx_mk ?xf2_0 ?xf2_1 ?xf2_2 ?xf2_3 ?xf2_4 ?xf2_5 ?xf2_6 ?xf2_7 ?xf2_8 ?xf2_9 ?xf2_10 ?xf2_11 ?xf2_12) (.cons ?xr2_0 (.cons ?xr2_1 (.cons ?xr2_2 (.cons ?xr2_3 (.cons ?xr2_4 (.cons ?xr2_5 (.cons ?xr2_6 (.cons ?xr2_7 (.cons ?xr2_8 (.cons ?xr2_9 (.cons ?xr2_10 .nil))))))))))) (.cons (Mp.xx_mk ?xf3_0 ?xf3_1 ?xf3_2 ?xf3_3 ?xf3_4 ?xf3_5 ?xf3_6 ?xf3_7 ?xf3_8 ?xf3_9 ?xf3_10 ?xf3_11 ?xf3_12) (.cons ?xr3_0 (.cons ?xr3_1 (.cons ?xr3_2 (.cons ?xr3_3 (.cons ?xr3_4 (.cons ?xr3_5 (.cons ?xr3_6 (.cons ?xr3_7 (.cons ?xr3_8 (.cons ?xr3_9 (.cons ?xr3_10 .nil))))))))))) (.cons (Mp.xx_mk ?xf4_0 ?xf4_1 ?xf4_2 ?xf4_3 ?xf4_4 ?xf4_5 ?xf4_6 ?xf4_7 ?xf4_8 ?xf4_9 ?xf4_10 ?xf4_11 ?xf4_12) (.cons ?xr4_0 (.cons ?xr4_1 (.cons ?xr4_2 (.cons ?xr4_3 (.cons ?xr4_4 (.cons ?xr4_5 (.cons ?xr4_6 (.cons ?xr4_7 (.cons ?xr4_8 (.cons ?xr4_9 (.cons ?xr4_10 .nil))))))))))) (.cons (Mp.xx_mk ?xf5_0 ?xf5_1 ?xf5_2 ?xf5_3 ?xf5_4 ?xf5_5 ?xf5_6 ?xf5_7 ?xf5_8 ?xf5_9 ?xf5_10 ?xf5_11 ?xf5_12) (.cons ?xr5_0 (.cons ?xr5_1 (.cons ?xr5_2 (.cons ?xr5_3 (.cons ?xr5_4 (.cons ?xr5_5 (.cons ?xr5_6 (.cons ?xr5_7 (.cons ?xr5_8 (.cons ?xr5_9 (.cons ?xr5_10 .nil))))))))))) (.cons (Mp.xx_mk ?xf6_0 ?xf6_1 ?xf6_2 ?xf6_3 ?xf6_4 ?xf6_5 ?xf6_6 ?xf6_7 ?xf6_8 ?xf6_9 ?xf6_10 ?xf6_11 ?xf6_12) (.cons ?xr6_0 (.cons ?xr6_1 (.cons ?xr6_2 (.cons ?xr6_3 (.cons ?xr6_4 (.cons ?xr6_5 (.cons ?xr6_6 (.cons ?xr6_7 (.cons ?xr6_8 (.cons ?xr6_9 (.cons ?xr6_10 .nil))))))))))) (.cons (Mp.xx_mk ?xf7_0 ?xf7_1 ?xf7_2 ?xf7_3 ?xf7_4 ?xf7_5 ?xf7_6 ?xf7_7 ?xf7_8 ?xf7_9 ?xf7_10 ?xf7_11 ?xf7_12) (.cons ?xr7_0 (.cons ?xr7_1 (.cons ?xr7_2 (.cons ?xr7_3 (.cons ?xr7_4 (.cons ?xr7_5 (.cons ?xr7_6 (.cons ?xr7_7 (.cons ?xr7_8 (.cons ?xr7_9 (.cons ?xr7_10 .nil))))))))))) (.cons (Mp.xx_mk ?xf8_0 ?xf8_1 ?xf8_2 ?xf8_3 ?xf8_4 ?xf8_5 ?xf8_6 ?xf8_7 ?xf8_8 ?xf8_9 ?xf8_10 ?xf8_11 ?xf8_12) (.cons ?xr8_0 (.cons ?xr8_1 (.cons ?xr8_2 (.cons ?xr8_3 (.cons ?xr8_4 (.cons ?xr8_5 (.cons ?xr8_6 (.cons ?xr8_7 (.cons ?xr8_8 (.cons ?xr8_9 (.cons ?xr8_10 .nil))))))))))) (.cons (Mp.xx_mk ?xf9_0 ?xf9_1 ?xf9_2 ?xf9_3 ?xf9_4 ?xf9_5 ?xf9_6 ?xf9_7 ?xf9_8 ?xf9_9 ?xf9_10 ?xf9_11 ?xf9_12) (.cons ?xr9_0 (.cons ?xr9_1 (.cons ?xr9_2 (.cons ?xr9_3 (.cons ?xr9_4 (.cons ?xr9_5 (.cons ?xr9_6 (.cons ?xr9_7 (.cons ?xr9_8 (.cons ?xr9_9 (.cons ?xr9_10 .nil))))))))))) (.cons (Mp.xx_mk ?xf10_0 ?xf10_1 ?xf10_2 ?xf10_3 ?xf10_4 ?xf10_5 ?xf10_6 ?xf10_7 ?xf10_8 ?xf10_9 ?xf10_10 ?xf10_11 ?xf10_12) (.cons ?xr10_0 (.cons ?xr10_1 (.cons ?xr10_2 (.cons ?xr10_3 (.cons ?xr10_4 (.cons ?xr10_5 (.cons ?xr10_6 (.cons ?xr10_7 (.cons ?xr10_8 (.cons ?xr10_9 (.cons ?xr10_10 .nil))))))))))) .nil))))))))))) (by decide)
    (case ffa0 => k_is); (case ffb0 => k_is); (case ffc0 => k_is); (case ffd0 => k_is)
    (case ffa1 => k_is); (case ffb1 => k_is); (case ffc1 => k_is); (case ffd1 => k_is)
    (case ffa2 => k_is); (case ffb2 => k_is); (case ffc2 => k_is); (case ffd2 => k_is)
    (case ffa3 => k_is); (case ffb3 => k_is); (case ffc3 => k_is); (case ffd3 => k_is)
    (case ffa4 => k_is); (case ffb4 => k_is); (case ffc4 => k_is); (case ffd4 => k_is)
    (case ffa5 => k_is); (case ffb5 => k_is); (case ffc5 => k_is); (case ffd5 => k_is)
    (case ffa6 => k_is); (case ffb6 => k_is); (case ffc6 => k_is); (case ffd6 => k_is)
    (case ffa7 => k_is); (case ffb7 => k_is); (case ffc7 => k_is); (case ffd7 => k_is)
    (case ffa8 => k_is); (case ffb8 => k_is); (case ffc8 => k_is); (case ffd8 => k_is)
    (case ffa9 => k_is); (case ffb9 => k_is); (case ffc9 => k_is); (case ffd9 => k_is)
    (case ffa10 => k_is); (case ffb10 => k_is); (case ffc10 => k_is); (case ffd10 => k_is)
    (case ffa11 => k_is); (case ffb11 => k_is); (case ffc11 => k_is); (case ffd11 => k_is)
    (case ffa12 => k_is); (case ffb12 => k_is); (case ffc12 => k_is); (case ffd12 => k_is)
    (case ffa13 => k_is); (case ffb13 => k_is); (case ffc13 => k_is); (case ffd13 => k_is)
    (case ffa14 => k_is); (case ffb14 => k_is); (case ffc14 => k_is); (case ffd14 => k_is)
    (case gca0 => k_is)
    (case bare0 => k_is); (case bare1 => k_is); (case bare2 => k_is); (case bare3 => k_is); (case bare4 => k_is); (case bare5 => k_is); (case bare6 => k_is); (case bare7 => k_is); (case bare8 => k_is); (case bare9 => k_is); (case bare10 => k_is); (case bare11 => k_is); (case bare12 => k_is); (case bare13 => k_is); (case bare14 => k_is); (case bare15 => k_is); (case bare16 => k_is); (case bare17 => k_is); (case bare18 => k_is); (case bare19 => k_is); (case bare20 => k_is); (case bare21 => k_is)
    (case xf0_0 => k_is); (case xf0_1 => k_is); (case xf0_2 => k_is); (case xf0_3 => k_is); (case xf0_4 => k_is); (case xf0_5 => k_is); (case xf0_6 => k_is); (case xf0_7 => k_is); (case xf0_8 => k_is); (case xf0_9 => k_exc); (case xf0_10 => k_is); (case xf0_11 => k_is); (case xf0_12 => k_is)
    (case xf1_0 => k_is); (case xf1_1 => k_is); (case xf1_2 => k_is); (case xf1_3 => k_is); (case xf1_4 => k_is); (case xf1_5 => k_is); (case xf1_6 => k_is); (case xf1_7 => k_is); (case xf1_8 => k_is); (case xf1_9 => k_exc); (case xf1_10 => k_is); (case xf1_11 => k_is); (case xf1_12 => k_is)
    (case xf2_0 => k_is); (case xf2_1 => k_is); (case xf2_2 => k_is); (case xf2_3 => k_is); (case xf2_4 => k_is); (case xf2_5 => k_is); (case xf2_6 => k_is); (case xf2_7 => k_is); (case xf2_8 => k_is); (case xf2_9 => k_exc); (case xf2_10 => k_is); (case xf2_11 => k_is); (case xf2_12 => k_is)
    (case xf3_0 => k_is); (case xf3_1 => k_is); (case xf3_2 => k_is); (case xf3_3 => k_is); (case xf3_4 => k_is); (case xf3_5 => k_is); (case xf3_6 => k_is); (case xf3_7 => k_is); (case xf3_8 => k_is); (case xf3_9 => k_exc); (case xf3_10 => k_is); (case xf3_11 => k_is); (case xf3_12 => k_is)
    (case xf4_0 => k_is); (case xf4_1 => k_is); (case xf4_2 => k_is); (case xf4_3 => k_is); (case xf4_4 => k_is); (case xf4_5 => k_is); (case xf4_6 => k_is); (case xf4_7 => k_is); (case xf4_8 => k_is); (case xf4_9 => k_exc); (case xf4_10 => k_is); (case xf4_11 => k_is); (case xf4_12 => k_is)
    (case xf5_0 => k_is); (case xf5_1 => k_is); (case xf5_2 => k_is); (case xf5_3 => k_is); (case xf5_4 => k_is); (case xf5_5 => k_is); (case xf5_6 => k_is); (case xf5_7 => k_is); (case xf5_8 => k_is); (case xf5_9 => k_exc); (case xf5_10 => k_is); (case xf5_11 => k_is); (case xf5_12 => k_is)
    (case xf6_0 => k_is); (case xf6_1 => k_is); (case xf6_2 => k_is); (case xf6_3 => k_is); (case xf6_4 => k_is); (case xf6_5 => k_is); (case xf6_6 => k_is); (case xf6_7 => k_is); (case xf6_8 => k_is); (case xf6_9 => k_exc); (case xf6_10 => k_is); (case xf6_11 => k_is); (case xf6_12 => k_is)
    (case xf7_0 => k_is); (case xf7_1 => k_is); (case xf7_2 => k_is); (case xf7_3 => k_is); (case xf7_4 => k_is); (case xf7_5 => k_is); (case xf7_6 => k_is); (case xf7_7 => k_is); (case xf7_8 => k_is); (case xf7_9 => k_exc); (case xf7_10 => k_is); (case xf7_11 => k_is); (case xf7_12 => k_is)
    (case xf8_0 => k_is); (case xf8_1 => k_is); (case xf8_2 => k_is); (case xf8_3 => k_is); (case xf8_4 => k_is); (case xf8_5 => k_is); (case xf8_6 => k_is); (case xf8_7 => k_is); (case xf8_8 => k_is); (case xf8_9 => k_exc); (case xf8_10 => k_is); (case xf8_11 => k_is); (case xf8_12 => k_is)
    (case xf9_0 => k_is); (case xf9_1 => k_is); (case xf9_2 => k_is); (case xf9_3 => k_is); (case xf9_4 => k_is); (case xf9_5 => k_is); (case xf9_6 => k_is); (case xf9_7 => k_is); (case xf9_8 => k_is); (case xf9_9 => k_exc); (case xf9_10 => k_is); (case xf9_11 => k_is); (case xf9_12 => k_is)
    (case xf10_0 => k_is); (case xf10_1 => k_is); (case xf10_2 => k_is); (case xf10_3 => k_is); (case xf10_4 => k_is); (case xf10_5 => k_is); (case xf10_6 => k_is); (case xf10_7 => k_is); (case xf10_8 => k_is); (case xf10_9 => k_exc); (case xf10_10 => k_is); (case xf10_11 => k_is); (case xf10_12 => k_is)
    (case xr0_0 => k_is); (case xr0_1 => k_is); (case xr0_2 => k_is); (case xr0_3 => k_is); (case xr0_4 => k_is); (case xr0_5 => k_is); (case xr0_6 => k_is); (case xr0_7 => k_is); (case xr0_8 => k_is); (case xr0_9 => k_is); (case xr0_10 => k_is)
    (case xr1_0 => k_is); (case xr1_1 => k_is); (case xr1_2 => k_is); (case xr1_3 => k_is); (case xr1_4 => k_is); (case xr1_5 => k_is); (case xr1_6 => k_is); (case xr1_7 => k_is); (case xr1_8 => k_is); (case xr1_9 => k_is); (case xr1_10 => k_is)
    (case xr2_0 => k_is); (case xr2_1 => k_is); (case xr2_2 => k_is); (case xr2_3 => k_is); (case xr2_4 => k_is); (case xr2_5 => k_is); (case xr2_6 => k_is); (case xr2_7 => k_is); (case xr2_8 => k_is); (case xr2_9 => k_is); (case xr2_10 => k_is)
    (case xr3_0 => k_is); (case xr3_1 => k_is); (case xr3_2 => k_is); (case xr3_3 => k_is); (case xr3_4 => k_is); (case xr3_5 => k_is); (case xr3_6 => k_is); (case xr3_7 => k_is); (case xr3_8 => k_is); (case xr3_9 => k_is); (case xr3_10 => k_is)
    (case xr4_0 => k_is); (case xr4_1 => k_is); (case xr4_2 => k_is); (case xr4_3 => k_is); (case xr4_4 => k_is); (case xr4_5 => k_is); (case xr4_6 => k_is); (case xr4_7 => k_is); (case xr4_8 => k_is); (case xr4_9 => k_is); (case xr4_10 => k_is)
    (case xr5_0 => k_is); (case xr5_1 => k_is); (case xr5_2 => k_is); (case xr5_3 => k_is); (case xr5_4 => k_is); (case xr5_5 => k_is); (case xr5_6 => k_is); (case xr5_7 => k_is); (case xr5_8 => k_is); (case xr5_9 => k_is); (case xr5_10 => k_is)
    (case xr6_0 => k_is); (case xr6_1 => k_is); (case xr6_2 => k_is); (case xr6_3 => k_is); (case xr6_4 => k_is); (case xr6_5 => k_is); (case xr6_6 => k_is); (case xr6_7 => k_is); (case xr6_8 => k_is); (case xr6_9 => k_is); (case xr6_10 => k_is)
    (case xr7_0 => k_is); (case xr7_1 => k_is); (case xr7_2 => k_is); (case xr7_3 => k_is); (case xr7_4 => k_is); (case xr7_5 => k_is); (case xr7_6 => k_is); (case xr7_7 => k_is); (case xr7_8 => k_is); (case xr7_9 => k_is); (case xr7_10 => k_is)
    (case xr8_0 => k_is); (case xr8_1 => k_is); (case xr8_2 => k_is); (case xr8_3 => k_is); (case xr8_4 => k_is); (case xr8_5 => k_is); (case xr8_6 => k_is); (case xr8_7 => k_is); (case xr8_8 => k_is); (case xr8_9 => k_is); (case xr8_10 => k_is)
    (case xr9_0 => k_is); (case xr9_1 => k_is); (case xr9_2 => k_is); (case xr9_3 => k_is); (case xr9_4 => k_is); (case xr9_5 => k_is); (case xr9_6 => k_is); (case xr9_7 => k_is); (case xr9_8 => k_is); (case xr9_9 => k_is); (case xr9_10 => k_is)
    (case xr10_0 => k_is); (case xr10_1 => k_is); (case xr10_2 => k_is); (case xr10_3 => k_is); (case xr10_4 => k_is); (case xr10_5 => k_is); (case xr10_6 => k_is); (case xr10_7 => k_is); (case xr10_8 => k_is); (case xr10_9 => k_is); (case xr10_10 => k_is)
