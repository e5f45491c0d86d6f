import PyProof.Rows.All
import Wide.All
import OpenK.AllK
import Wide.FinOn
import KE.KStateDown
import HandS.ForMost
import HandS.Head0
import HandS.Head1
import HandS.Head2
import HandS.HeadEnd
import HandS.HeadHook1
import HandS.HeadHook2
import HandS.Text
import HandS.Deep
import HandS.TupAny
import HandS.Star
import HandS.Exc
import HandS.TupLe
import HandS.Flow
import HandS.FStr
import HandS.Codes
import HandS.SortInts
import HandS.RaiseMore
import PyProof.ReprRoads
import HandS.Zip
import KE.GoesMore
import PyProof.ListNew
import KE.KDictZip
import HandS.Keys
import HandS.Comp
import HandS.Style
import HandS.ExcOwn
import HandS.Lambda
import HandS.Defaults
import HandS.Words
import PySem.Challenge.RW_endspassed_k38_reports_that_cover
set_option Elab.async false
set_option linter.all false
set_option maxRecDepth 100000
set_option maxHeartbeats 0
/-! Y0: a small executable language Y for the linked programs: values that are trees (W), a heap for what changes, expressions E, statements S, and how they run. No PySem machine in it. -/
namespace Y
open PySem

/-! ### values -/
/-- lit: a fresh list that nobody changes; rol: a list from outside, read only; obj: an instance (or an exception) that nobody changes any more: its class, its attributes' names and values; ref: what may change, by its place in the heap -/
inductive W where
  | non
  | bl (b : Bool)
  | int (i : Int)
  | str (s : Str)
  | tup (xs : List W)
  | lit (xs : List W)
  | rol (xs : List W)
  | obj (c : Str) (ns : List Str) (xs : List W)
  | ref (n : Nat)

mutual
def W.eqb : W → W → Bool
  | .non, .non => true
  | .bl a, .bl b => a == b
  | .int a, .int b => a == b
  | .str a, .str b => a == b
  | .tup a, .tup b => W.eqbs a b
  | .lit a, .lit b => W.eqbs a b
  | .rol a, .rol b => W.eqbs a b
  | .obj c ns a, .obj d ms b => c == d && ns == ms && W.eqbs a b
  | .ref a, .ref b => a == b
  | _, _ => false
def W.eqbs : List W → List W → Bool
  | [], [] => true
  | x :: xs, y :: ys => W.eqb x y && W.eqbs xs ys
  | _, _ => false
end
mutual
theorem W.eqb_refl : ∀ w : W, W.eqb w w = true
  | .non => rfl
  | .bl b => by simp [W.eqb]
  | .int i => by simp [W.eqb]
  | .str s => by simp [W.eqb]
  | .tup xs => by simp only [W.eqb]; exact W.eqbs_refl xs
  | .lit xs => by simp only [W.eqb]; exact W.eqbs_refl xs
  | .rol xs => by simp only [W.eqb]; exact W.eqbs_refl xs
  | .obj c ns xs => by simp [W.eqb, W.eqbs_refl xs]
  | .ref n => by simp [W.eqb]
theorem W.eqbs_refl : ∀ ws : List W, W.eqbs ws ws = true
  | [] => rfl
  | w :: ws => by simp [W.eqbs, W.eqb_refl w, W.eqbs_refl ws]
end
mutual
theorem W.eqb_eq : ∀ a b : W, W.eqb a b = true → a = b
  | .non, b, h => by cases b <;> simp [W.eqb] at h ⊢
  | .bl a, b, h => by cases b <;> simp [W.eqb] at h ⊢; exact h
  | .int a, b, h => by cases b <;> simp [W.eqb] at h ⊢; exact h
  | .str a, b, h => by cases b <;> simp [W.eqb] at h ⊢; exact h
  | .tup a, b, h => by cases b <;> simp [W.eqb] at h ⊢; exact W.eqbs_eq _ _ h
  | .lit a, b, h => by cases b <;> simp [W.eqb] at h ⊢; exact W.eqbs_eq _ _ h
  | .rol a, b, h => by cases b <;> simp [W.eqb] at h ⊢; exact W.eqbs_eq _ _ h
  | .obj c ns a, b, h => by
    cases b <;> simp [W.eqb] at h ⊢
    exact ⟨h.1.1, h.1.2, W.eqbs_eq _ _ h.2⟩
  | .ref a, b, h => by cases b <;> simp [W.eqb] at h ⊢; exact h
theorem W.eqbs_eq : ∀ a b : List W, W.eqbs a b = true → a = b
  | [], b, h => by cases b <;> simp [W.eqbs] at h ⊢
  | x :: xs, b, h => by
    cases b <;> simp [W.eqbs] at h ⊢
    exact ⟨W.eqb_eq _ _ h.1, W.eqbs_eq _ _ h.2⟩
end

def W.isN : W → Bool
  | .non => true
  | _ => false
/-- what changes: a list, an instance, a dict -/
inductive O where
  | lst (xs : List W)
  | ins (c : Str) (ns : List Str) (xs : List W)
  | dct (ks : List W) (vs : List W)
def O.eqb : O → O → Bool
  | .lst a, .lst b => W.eqbs a b
  | .ins c ns a, .ins d ms b => c == d && ns == ms && W.eqbs a b
  | .dct a b, .dct c d => W.eqbs a c && W.eqbs b d
  | _, _ => false
abbrev Hb := List O
abbrev Sb := List (Option W)

/-! ### data -/
mutual
def W.pd : W → Option PyData
  | .non => some .none
  | .bl b => some (.bool b)
  | .int i => some (.int i)
  | .str s => some (.str s)
  | .tup xs => match W.pds xs with | some ds => some (.tuple ds) | none => none
  | .lit xs => match W.pds xs with | some ds => some (.list ds) | none => none
  | .rol _ => none
  | .obj _ _ _ => none
  | .ref _ => none
def W.pds : List W → Option (List PyData)
  | [] => some []
  | x :: xs => match W.pd x, W.pds xs with | some d, some ds => some (d :: ds) | _, _ => none
end
/-- a list that may change, as it stands -/
def snap (h : Hb) : W → W
  | .ref n => match h[n]? with | some (.lst xs) => .lit xs | _ => .ref n
  | w => w

/-! ### answers -/
inductive R (α : Type) where
  | ok (a : α) (h : Hb)
  | ex (x : W) (h : Hb)
  | no
def R.bind {α β : Type} : R α → (α → Hb → R β) → R β
  | .ok a h, f => f a h
  | .ex x h, _ => .ex x h
  | .no, _ => .no
/-- how a statement ends -/
inductive Fl where
  | nx (σ : Sb) | rt (w : W) | bk (σ : Sb) | ct (σ : Sb)

/-- a statement's answer: an exception comes with the slots as they stood -/
inductive G where
  | ok (fl : Fl) (h : Hb)
  | ex (x : W) (σ : Sb) (h : Hb)
  | no
/-- a part that is an expression, then the rest -/
def R.go {α : Type} : R α → Sb → (α → Hb → G) → G
  | .ok a h, _, f => f a h
  | .ex x h, σ, _ => .ex x σ h
  | .no, _, _ => .no
def G.bind : G → (Fl → Hb → G) → G
  | .ok a h, f => f a h
  | .ex x σ h, _ => .ex x σ h
  | .no, _ => .no

/-! ### the language -/
inductive Op where
  | add | sub | mul | fdv | mod | pow
inductive Cm where
  | eq | ne | lt | le | gt | ge | is | isn | inn | nin
/-- built-in functions and types, called -/
inductive Bi where
  | len | int | abs | str | repr | list | tuple | sorted | max | min | sum | all | any | bool
/-- methods of built-in types -/
inductive Mt where
  | append | extend | pop | join | index | split | get
/-- a target of a comprehension or a for: a name, a tuple of targets -/
inductive Tg where
  | nm (i : Nat) | tp (ts : Tg) | nil | cons (a r : Tg)
inductive E where
  | slot (i : Nat)
  | non | bl (b : Bool) | int (i : Int) | str (s : Str)
  | glob (x : Str)
  | bin (op : Op) (a b : E)
  | neg (a : E)
  | cmp (op : Cm) (a b : E)
  | chn (o1 o2 : Cm) (a b c : E)
  | and (a b : E) | or (a b : E)
  /-- tests: the answers are truths -/
  | tand (a b : E) | tor (a b : E) | tnot (a : E) | tru (a : E)
  | ite (c a b : E)
  /-- lists of expressions; they run to a tuple -/
  | nil | cons (a r : E) | star (a r : E)
  | tup (es : E) | lst (es : E)
  /-- a fresh list, to be changed later -/
  | new (e : E)
  | ix (a i : E) | cut (a lo hi : E)
  | bi (f : Bi) (es : E)
  | mt (m : Mt) (a es : E)
  | call (f : Str) (es : E) (ks : List Str) (kes : E)
  | cm (elt : E) (t : Tg) (it : E) (c : E) (own : List Nat)
  | rng (a : E) | rng2 (a b : E) | enum (a : E) | zip (a b : E) | lzip (a b : E)
  | fmt (a : E) | fstr (es : E)
  | isi (a : E) (ts : List Str)
inductive S where
  | skip
  | seq (a b : S)
  | expr (e : E)
  | asg (t : Tg) (e : E)
  /-- a, b = x, y: names from a display of as many -/
  | par (is : List Nat) (es : E)
  | aug (i : Nat) (op : Op) (e : E)
  | six (o i : E) (e : E)
  | sixaug (o i : E) (op : Op) (e : E)
  | ite (c : E) (a b : S)
  | for (t : Tg) (it : E) (b : S)
  | while (c : E) (b : S)
  | ret (e : E)
  | brk | cont

/-! ### operations on values -/
def truth (h : Hb) : W → Option Bool
  | .non => some false
  | .bl b => some b
  | .int i => some (i != 0)
  | .str s => if decide (s.length ≤ 16777216) then some ((s.length : Int) != 0) else none
  | .tup xs => some (!xs.isEmpty)
  | .lit xs => some (!xs.isEmpty)
  | .ref n => match h[n]? with | some (.lst xs) => some (!xs.isEmpty) | _ => none
  | _ => none
def small (n : Nat) : Bool := decide (n ≤ 16777216)
def binop : Op → W → W → Hb → R W
  | .add, .int i, .int j, h => .ok (.int (i + j)) h
  | .sub, .int i, .int j, h => .ok (.int (i - j)) h
  | .mul, .int i, .int j, h => if (decide (-(2 ^ 64) < i) && decide (i < 2 ^ 64)) || (decide (-(2 ^ 64) < j) && decide (j < 2 ^ 64)) then .ok (.int (i * j)) h else .no
  | .fdv, .int i, .int j, h => if decide (0 < j) && decide (j < 1073741824) then .ok (.int (i / j)) h else .no
  | .mod, .int i, .int j, h => if decide (0 < j) then .ok (.int (i % j)) h else .no
  | .pow, .int i, .int j, h => if decide (0 ≤ j) && (decide (j ≤ 1000000) && decide (i.natAbs < 2 ^ 64)) then .ok (.int (i ^ j.toNat)) h else .no
  | .add, .str a, .str b, h => if small (a.length + b.length) then .ok (.str (a ++ b)) h else .no
  | .add, .tup a, .tup b, h => if small (a.length + b.length) then .ok (.tup (a ++ b)) h else .no
  | .add, .lit a, .lit b, h => if small (a.length + b.length) then .ok (.lit (a ++ b)) h else .no
  | .mul, .lit a, .int k, h => if (decide (0 ≤ k) && decide (k < 2 ^ 62)) && small (a.length * k.toNat) then .ok (.lit (List.replicate k.toNat a).flatten) h else .no
  | _, _, _, _ => .no
/-- == of data -/
def eqG (h : Hb) (a b : W) : Option Bool :=
  match (snap h a).pd, (snap h b).pd with
  | some d, some e => if SeqAt.shaped d && SeqAt.shaped e then some (PyData.eqv d e) else none
  | _, _ => none
def eqD (h : Hb) (a b : W) : Option Bool :=
  match a, b with
  | .str s, .str t => some (decide (s = t))
  | .int i, .int j => some (decide (i = j))
  | .bl p, .bl q => some (decide (p = q))
  | a, b => eqG h a b
/-- x in a list or tuple of data -/
def inD (h : Hb) (a : W) (xs : List W) : Option Bool :=
  match a.pd, W.pds xs with
  | some d, some es => if SeqAt.shaped d && SeqAt.shaped (.list es) then some (es.any fun z => PyData.eqv z d) else none
  | _, _ => none
def isIn (h : Hb) (a b : W) : Option Bool :=
  match a, b with
  | a, .tup xs => inD h a xs
  | a, .lit xs => inD h a xs
  | a, .ref n => match h[n]? with
    | some (.lst xs) => inD h a xs
    | _ => none
  | .str x, .str y => some (!(Builtin.Str.occurrences y x 0 y.length 1).isEmpty)
  | _, _ => none
def cmpop : Cm → W → W → Hb → Option Bool
  | .lt, .int i, .int j, _ => some (decide (i < j))
  | .le, .int i, .int j, _ => some (decide (i ≤ j))
  | .gt, .int i, .int j, _ => some (decide (j < i))
  | .ge, .int i, .int j, _ => some (decide (j ≤ i))
  | .lt, .str i, .str j, _ => some (decide (i.cps.toList < j.cps.toList))
  | .le, .str i, .str j, _ => some (!decide (j.cps.toList < i.cps.toList))
  | .gt, .str i, .str j, _ => some (decide (j.cps.toList < i.cps.toList))
  | .ge, .str i, .str j, _ => some (!decide (i.cps.toList < j.cps.toList))
  | .le, .bl a, .bl b, _ => some (!a || b)
  | .eq, a, b, h => eqD h a b
  | .ne, a, b, h => (eqD h a b).map (!·)
  | .is, a, .non, _ => some a.isN
  | .isn, a, .non, _ => some (!a.isN)
  | .is, .bl a, .bl b, _ => some (decide (a = b))
  | .isn, .bl a, .bl b, _ => some (!decide (a = b))
  | .inn, a, b, h => isIn h a b
  | .nin, a, b, h => (isIn h a b).map (!·)
  | _, _, _, _ => none
def R.ofB (o : Option Bool) (h : Hb) : R W := match o with | some b => .ok (.bl b) h | none => .no
def R.ofO {α : Type} (o : Option α) (h : Hb) : R α := match o with | some b => .ok b h | none => .no

/-- the items of what is walked, as it stands -/
def items (h : Hb) : W → Option (List W)
  | .tup xs => some xs
  | .lit xs => some xs
  | .rol xs => some xs
  | .ref n => match h[n]? with | some (.lst xs) => some xs | _ => none
  | _ => none
/-- of a list -/
def itemsL (h : Hb) : W → Option (List W)
  | .lit xs => some xs
  | .rol xs => some xs
  | .ref n => match h[n]? with | some (.lst xs) => some xs | _ => none
  | _ => none
/-- what is walked stands as it stood -/
def stays (h h' : Hb) : W → Bool
  | .ref n => match h[n]?, h'[n]? with | some a, some b => O.eqb a b | _, _ => false
  | _ => true
def getIx (h : Hb) : W → W → Option W
  | .tup xs, .int i => (L2.ixN xs.length i).bind fun j => xs[j]?
  | .lit xs, .int i => (L2.ixN xs.length i).bind fun j => xs[j]?
  | .rol xs, .int i => (L2.ixN xs.length i).bind fun j => xs[j]?
  | .ref n, .int i => match h[n]? with
    | some (.lst xs) => (L2.ixN xs.length i).bind fun j => xs[j]?
    | _ => none
  | .str s, .int i => if small s.length then ((L2.ixN s.cps.toList.length i).bind fun j => s.cps.toList[j]?).map fun c => .str ⟨#[c]⟩ else none
  | _, _ => none
/-- not of a string -/
def getIxL (h : Hb) (a b : W) : Option W := match a with
  | .str _ => none
  | a => getIx h a b
/-- a bound of a slice: left out, or an int -/
def optP : E → W → Option (Option Int)
  | .non, _ => some none
  | _, .int i => some (some i)
  | _, _ => none
def cutW (xs : List W) (lo hi : Option Int) : List W := (xs.drop (HT.sIx xs.length 0 lo)).take (HT.sIx xs.length xs.length hi - HT.sIx xs.length 0 lo)
def getCut (h : Hb) (a : W) (l u : Option Int) : Option W :=
  match a with
  | .tup xs => some (.tup (cutW xs l u))
  | .lit xs => some (.lit (cutW xs l u))
  | .rol xs => some (.lit (cutW xs l u))
  | .ref n => (match h[n]? with | some (.lst xs) => some (.lit (cutW xs l u)) | _ => none)
  | .str s => if small s.length then some (.str (Txt.slice s l u)) else none
  | _ => none
def intsW : List W → Option (List Int)
  | [] => some []
  | .int i :: r => (intsW r).map (i :: ·)
  | _ :: _ => none
def strsW : List W → Option (List Str)
  | [] => some []
  | .str i :: r => (strsW r).map (i :: ·)
  | _ :: _ => none
def truthsW : List W → Option (List Bool)
  | [] => some []
  | .bl i :: r => (truthsW r).map (i :: ·)
  | _ :: _ => none
def insI (i : Int) : List Int → List Int
  | [] => [i]
  | j :: r => if i ≤ j then i :: j :: r else j :: insI i r
def sortI : List Int → List Int
  | [] => []
  | i :: r => insI i (sortI r)
def leS (a b : Str) : Bool := !decide (b.cps.toList < a.cps.toList)
def insS (i : Str) : List Str → List Str
  | [] => [i]
  | j :: r => if leS i j then i :: j :: r else j :: insS i r
def sortS : List Str → List Str
  | [] => []
  | i :: r => insS i (sortS r)
def strOf : W → Option Str
  | .str s => some s
  | .int i => if decide (i.natAbs.log2 < 1920) then some (toString i : String) else none
  | _ => none
def reprOf (h : Hb) (w : W) : Option Str :=
  match (snap h w).pd with
  | some d => if (d.showable && SeqAt.shaped d) && small d.shown.length then some d.shown else none
  | none => none
def builtin : Bi → List W → Hb → Option W
  | .len, [.tup xs], _ => some (.int xs.length)
  | .len, [.lit xs], _ => some (.int xs.length)
  | .len, [.str s], _ => if small s.length then some (.int s.length) else none
  | .len, [.ref n], h => (match h[n]? with | some (.lst xs) => some (.int xs.length) | _ => none)
  | .int, [.int i], _ => some (.int i)
  | .int, [.bl b], _ => some (.int (if b then 1 else 0))
  | .abs, [.int i], _ => some (.int (if i < 0 then -i else i))
  | .str, [w], _ => (strOf w).map .str
  | .repr, [w], h => (reprOf h w).map .str
  | .list, [w], h => (items h w).map .lit
  | .tuple, [.tup xs], _ => some (.tup xs)
  | .tuple, [w], h => (itemsL h w).map .tup
  | .sorted, [w], h => (match itemsL h w with
    | some xs => (match intsW xs with | some is => some (.lit ((sortI is).map .int)) | none => (match strsW xs with | some ss => if decide (ss.length < 64) then some (.lit ((sortS ss).map .str)) else none | none => none))
    | none => none)
  | .max, [.int i, .int j], _ => some (.int (if j > i then j else i))
  | .min, [.int i, .int j], _ => some (.int (if j < i then j else i))
  | .sum, [w], h => ((itemsL h w).bind intsW).map fun is => .int is.sum
  | .all, [w], h => ((itemsL h w).bind truthsW).map fun bs => .bl (bs.all id)
  | .any, [w], h => ((itemsL h w).bind truthsW).map fun bs => .bl (bs.any id)
  | .bool, [.bl b], _ => some (.bl b)
  | .bool, [.int i], _ => some (.bl (i != 0))
  | _, _, _ => none
def total (ss : List Str) : Nat := (ss.map (·.length)).sum
def method : Mt → W → List W → Hb → R W
  | .append, .ref n, [w], h => (match h[n]? with
    | some (.lst xs) => if decide (xs.length < 16777216) then .ok .non (h.set n (.lst (xs ++ [w]))) else .no
    | _ => .no)
  | .pop, .ref n, [.int i], h => (match h[n]? with
    | some (.lst xs) => if decide (-(2 ^ 62) ≤ i) && decide (i < 2 ^ 62) then (match seqIndex? i xs.length with
      | some k => (match xs[k]? with | some w => .ok w (h.set n (.lst (xs.eraseIdx k))) | none => .no)
      | none => .no) else .no
    | _ => .no)
  | .pop, .ref n, [], h => (match h[n]? with
    | some (.lst xs) => (match xs[xs.length - 1]? with | some w => .ok w (h.set n (.lst xs.dropLast)) | none => .no)
    | _ => .no)
  | .join, .str s, [w], h => (match (items h w).bind strsW with
    | some ss => if small (total ss + ss.length * s.length) then .ok (.str (Txt.join s ss)) h else .no
    | none => .no)
  | _, _, _, _ => .no
/-- what a method is asked of -/
def recv : Mt → Hb → W → Bool
  | .append, h, .ref n => (match h[n]? with | some (.lst _) => true | _ => false)
  | .extend, h, .ref n => (match h[n]? with | some (.lst _) => true | _ => false)
  | .pop, h, .ref n => (match h[n]? with | some (.lst _) => true | _ => false)
  | .join, _, .str _ => true
  | .split, _, .str _ => true
  | _, _, _ => false
/-- isinstance -/
def isOf (h : Hb) (w : W) (t : Str) : Option Bool :=
  match w with
  | .non => some false
  | .bl _ => some (t == ("bool" : Str) || t == ("int" : Str))
  | .int _ => some (t == ("int" : Str))
  | .str _ => some (t == ("str" : Str))
  | .tup _ => some (t == ("tuple" : Str))
  | .lit _ => some (t == ("list" : Str))
  | .ref n => (match h[n]? with | some (.lst _) => some (t == ("list" : Str)) | _ => none)
  | _ => none
def isAny (h : Hb) (w : W) : List Str → Option Bool
  | [] => some false
  | t :: ts => match isOf h w t, isAny h w ts with | some a, some b => some (a || b) | _, _ => none

/-! ### targets -/
mutual
def setT : Tg → W → Sb → Option Sb
  | .nm i, w, σ => if i < σ.length then some (σ.set i (some w)) else none
  | .tp ts, w, σ => match w with
    | .tup xs => setTs ts xs σ
    | _ => none
  | .nil, _, _ => none
  | .cons _ _, _, _ => none
def setTs : Tg → List W → Sb → Option Sb
  | .nil, [], σ => some σ
  | .cons t r, x :: xs, σ => match setT t x σ with | some σ' => setTs r xs σ' | none => none
  | _, _, _ => none
end

/-- slots forgotten -/
def wipe (σ : Sb) : List Nat → Sb
  | [] => σ
  | v :: vs => (wipe σ vs).set v none
/-! ### how it runs -/
structure Ctx where
  call : Str → List W → List (Str × W) → Hb → R W
  glob : Str → Option W
  fuel : Nat

/-- names stored from the left -/
def setL : List Nat → List W → Sb → Option Sb
  | [], [], σ => some σ
  | i :: is, w :: ws, σ => if i < σ.length then setL is ws (σ.set i (some w)) else none
  | _, _, _ => none
/-- a comprehension's turns; an exception within is not told -/
def forC (f : W → Hb → R (Option W)) (ok : Hb → Bool) : List W → List W → Hb → R (List W)
  | [], acc, h => if ok h then .ok acc h else .no
  | w :: ws, acc, h => if ok h then (match f w h with
    | .ok (some v) h1 => if decide (acc.length < 16777216) then forC f ok ws (acc ++ [v]) h1 else .no
    | .ok none h1 => forC f ok ws acc h1
    | _ => .no) else .no
def asB : W → Hb → (Bool → Hb → R W) → R W
  | .bl b, h, f => f b h
  | _, _, _ => .no
def asTup : W → Option (List W)
  | .tup xs => some xs
  | _ => none

def evalE (C : Ctx) : E → Sb → Hb → R W
  | .slot i, σ, h => (match σ[i]? with | some (some w) => .ok w h | _ => .no)
  | .non, _, h => .ok .non h
  | .bl b, _, h => .ok (.bl b) h
  | .int i, _, h => .ok (.int i) h
  | .str s, _, h => .ok (.str s) h
  | .glob x, _, h => R.ofO (C.glob x) h
  | .bin op a b, σ, h => (evalE C a σ h).bind fun x h1 => (evalE C b σ h1).bind fun y h2 => binop op x y h2
  | .neg a, σ, h => (evalE C a σ h).bind fun x h1 => (match x with | .int i => .ok (.int (-i)) h1 | _ => .no)
  | .cmp op a b, σ, h => (evalE C a σ h).bind fun x h1 => (evalE C b σ h1).bind fun y h2 => R.ofB (cmpop op x y h2) h2
  | .chn o1 o2 a b c, σ, h => (evalE C a σ h).bind fun x h1 => (evalE C b σ h1).bind fun y h2 => (match cmpop o1 x y h2 with
    | some true => (evalE C c σ h2).bind fun z h3 => R.ofB (cmpop o2 y z h3) h3
    | some false => .ok (.bl false) h2
    | none => .no)
  | .and a b, σ, h => (evalE C a σ h).bind fun x h1 => (match truth h1 x with | some true => evalE C b σ h1 | some false => .ok x h1 | none => .no)
  | .or a b, σ, h => (evalE C a σ h).bind fun x h1 => (match truth h1 x with | some true => .ok x h1 | some false => evalE C b σ h1 | none => .no)
  | .tand a b, σ, h => (evalE C a σ h).bind fun x h1 => (match x with | .bl true => evalE C b σ h1 | .bl false => .ok (.bl false) h1 | _ => .no)
  | .tor a b, σ, h => (evalE C a σ h).bind fun x h1 => (match x with | .bl true => .ok (.bl true) h1 | .bl false => evalE C b σ h1 | _ => .no)
  | .tnot a, σ, h => (evalE C a σ h).bind fun x h1 => (match x with | .bl b => .ok (.bl (!b)) h1 | _ => .no)
  | .tru a, σ, h => (evalE C a σ h).bind fun x h1 => R.ofB (truth h1 x) h1
  | .ite c a b, σ, h => (evalE C c σ h).bind fun x h1 => (match x with | .bl true => evalE C a σ h1 | .bl false => evalE C b σ h1 | _ => .no)
  | .nil, _, h => .ok (.tup []) h
  | .cons a r, σ, h => (evalE C a σ h).bind fun x h1 => (evalE C r σ h1).bind fun y h2 => (match y with | .tup ys => .ok (.tup (x :: ys)) h2 | _ => .no)
  | .star a r, σ, h => (evalE C a σ h).bind fun x h1 => (match items h1 x with
    | some xs => (evalE C r σ h1).bind fun y h2 => (match y with | .tup ys => if small (xs.length + ys.length) then .ok (.tup (xs ++ ys)) h2 else .no | _ => .no)
    | none => .no)
  | .tup es, σ, h => (evalE C es σ h).bind fun x h1 => (match x with | .tup xs => if small xs.length then .ok (.tup xs) h1 else .no | _ => .no)
  | .lst es, σ, h => (evalE C es σ h).bind fun x h1 => (match x with | .tup xs => if small xs.length then .ok (.lit xs) h1 else .no | _ => .no)
  | .new e, σ, h => (evalE C e σ h).bind fun x h1 => (match x with | .lit xs => .ok (.ref h1.length) (h1 ++ [.lst xs]) | _ => .no)
  | .ix a i, σ, h => (evalE C a σ h).bind fun x h1 => (evalE C i σ h1).bind fun y h2 => R.ofO (getIx h2 x y) h2
  | .cut a lo hi, σ, h => (evalE C a σ h).bind fun x h1 => (evalE C lo σ h1).bind fun y h2 => (match optP lo y with
    | some l => (evalE C hi σ h2).bind fun z h3 => (match optP hi z with | some u => R.ofO (getCut h3 x l u) h3 | none => .no)
    | none => .no)
  | .bi f es, σ, h => (evalE C es σ h).bind fun x h1 => (match x with | .tup xs => R.ofO (builtin f xs h1) h1 | _ => .no)
  | .mt m a es, σ, h => (evalE C a σ h).bind fun o h1 => if recv m h1 o then (evalE C es σ h1).bind fun x h2 => (match x with | .tup xs => method m o xs h2 | _ => .no) else .no
  | .call f es ks kes, σ, h => (evalE C es σ h).bind fun x h1 => (evalE C kes σ h1).bind fun k h2 => (match x, k with
    | .tup xs, .tup vs => C.call f xs (ks.zip vs) h2
    | _, _ => .no)
  | .cm elt t it c own, σ, h => (evalE C it σ h).bind fun w h1 => (match items h1 w with
    | some ws => (forC (fun x h2 => match setT t x (wipe σ own) with
        | some σ' => (evalE C c σ' h2).bind fun b h3 => (match b with
          | .bl true => (evalE C elt σ' h3).bind fun v h4 => .ok (some v) h4
          | .bl false => .ok none h3
          | _ => .no)
        | none => .no) (fun h' => stays h1 h' w) ws [] h1).bind fun vs h5 => .ok (.lit vs) h5
    | none => .no)
  | .rng a, σ, h => (evalE C a σ h).bind fun x h1 => (match x with
    | .int j => if decide (-(2 ^ 61) ≤ j) && decide (j < 2 ^ 61) then .ok (.tup ((List.range j.toNat).map fun (k : Nat) => W.int (0 + (k : Int)))) h1 else .no
    | _ => .no)
  | .rng2 a b, σ, h => (evalE C a σ h).bind fun x h1 => (evalE C b σ h1).bind fun y h2 => (match x, y with
    | .int i, .int j => if (decide (-(2 ^ 61) ≤ i) && decide (i < 2 ^ 61)) && (decide (-(2 ^ 61) ≤ j) && decide (j < 2 ^ 61)) then .ok (.tup ((List.range (j - i).toNat).map fun (k : Nat) => W.int (i + (k : Int)))) h2 else .no
    | _, _ => .no)
  | .enum a, σ, h => (evalE C a σ h).bind fun x h1 => (match x with
    | .tup xs => .ok (.tup (xs.zipIdx.map fun p => .tup [.int p.2, p.1])) h1
    | .lit xs => .ok (.tup (xs.zipIdx.map fun p => .tup [.int p.2, p.1])) h1
    | .rol xs => .ok (.tup (xs.zipIdx.map fun p => .tup [.int p.2, p.1])) h1
    | _ => .no)
  | .zip a b, σ, h => (evalE C a σ h).bind fun x h1 => (evalE C b σ h1).bind fun y h2 => (match x, y with
    | .tup xs, .tup ys => .ok (.tup ((xs.zip ys).map fun p => .tup [p.1, p.2])) h2
    | .lit xs, .lit ys => .ok (.tup ((xs.zip ys).map fun p => .tup [p.1, p.2])) h2
    | _, _ => .no)
  | .lzip a b, σ, h => (evalE C a σ h).bind fun x h1 => (evalE C b σ h1).bind fun y h2 => (match x, y with
    | .tup xs, .tup ys => .ok (.lit ((xs.zip ys).map fun p => .tup [p.1, p.2])) h2
    | _, _ => .no)
  | .fmt a, σ, h => (evalE C a σ h).bind fun x h1 => R.ofO ((strOf x).map .str) h1
  | .fstr es, σ, h => (evalE C es σ h).bind fun x h1 => (match x with
    | .tup xs => (match strsW xs with | some ss => if small (total ss) then .ok (.str (Txt.join Str.empty ss)) h1 else .no | none => .no)
    | _ => .no)
  | .isi a ts, σ, h => (evalE C a σ h).bind fun x h1 => R.ofB (isAny h1 x ts) h1

def setIx (h : Hb) (o i v : W) : R Unit :=
  match o, i with
  | .ref n, .int k => (match h[n]? with
    | some (.lst xs) => (match L2.ixN xs.length k with
      | some j => .ok () (h.set n (.lst (xs.set j v)))
      | none => .no)
    | _ => .no)
  | _, _ => .no
def inplace : Op → W → W → Hb → R W
  | .add, .int i, .int j, h => .ok (.int (i + j)) h
  | .sub, .int i, .int j, h => .ok (.int (i - j)) h
  | _, _, _, _ => .no

def forL (f : W → Sb → Hb → G) (ok : Hb → Bool) : List W → Sb → Hb → G
  | [], σ, h => if ok h then .ok (.nx σ) h else .no
  | w :: ws, σ, h => if ok h then (f w σ h).bind fun fl h1 => (match fl with
    | .nx σ1 => forL f ok ws σ1 h1
    | .ct σ1 => forL f ok ws σ1 h1
    | .bk σ1 => .ok (.nx σ1) h1
    | .rt v => .ok (.rt v) h1) else .no
def whileL (c : Sb → Hb → R W) (f : Sb → Hb → G) : Nat → Sb → Hb → G
  | 0, _, _ => .no
  | n + 1, σ, h => (c σ h).go σ fun b h1 => (match b with
    | .bl true => (f σ h1).bind fun fl h2 => (match fl with
      | .nx σ1 => whileL c f n σ1 h2
      | .ct σ1 => whileL c f n σ1 h2
      | .bk σ1 => .ok (.nx σ1) h2
      | .rt v => .ok (.rt v) h2)
    | .bl false => .ok (.nx σ) h1
    | _ => .no)

def evalS (C : Ctx) : S → Sb → Hb → G
  | .skip, σ, h => .ok (.nx σ) h
  | .seq a b, σ, h => (evalS C a σ h).bind fun fl h1 => (match fl with
    | .nx σ1 => evalS C b σ1 h1
    | fl => .ok fl h1)
  | .expr e, σ, h => (evalE C e σ h).go σ fun _ h1 => .ok (.nx σ) h1
  | .asg t e, σ, h => (evalE C e σ h).go σ fun w h1 => (match setT t w σ with | some σ1 => .ok (.nx σ1) h1 | none => .no)
  | .par is es, σ, h => (evalE C es σ h).go σ fun w h1 => (match w with | .tup ws => (match setL is ws σ with | some σ1 => .ok (.nx σ1) h1 | none => .no) | _ => .no)
  | .aug i op e, σ, h => (match σ[i]? with
    | some (some x) => (evalE C e σ h).go σ fun y h1 => (inplace op x y h1).go σ fun z h2 => .ok (.nx (σ.set i (some z))) h2
    | _ => .no)
  | .six o i e, σ, h => (evalE C e σ h).go σ fun v h1 => (evalE C o σ h1).go σ fun x h2 => (evalE C i σ h2).go σ fun y h3 => (setIx h3 x y v).go σ fun _ h4 => .ok (.nx σ) h4
  | .sixaug o i op e, σ, h => (evalE C o σ h).go σ fun x h1 => (evalE C i σ h1).go σ fun y h2 => (match getIxL h2 x y with
    | some z => (evalE C e σ h2).go σ fun v h3 => (inplace op z v h3).go σ fun u h4 => (setIx h4 x y u).go σ fun _ h5 => .ok (.nx σ) h5
    | none => .no)
  | .ite c a b, σ, h => (evalE C c σ h).go σ fun x h1 => (match x with | .bl true => evalS C a σ h1 | .bl false => evalS C b σ h1 | _ => .no)
  | .for t it b, σ, h => (evalE C it σ h).go σ fun w h1 => (match items h1 w with
    | some ws => forL (fun x σ1 h2 => match setT t x σ1 with | some σ2 => evalS C b σ2 h2 | none => .no) (fun h' => stays h1 h' w) ws σ h1
    | none => .no)
  | .while c b, σ, h => whileL (fun σ1 h1 => evalE C c σ1 h1) (fun σ1 h1 => evalS C b σ1 h1) C.fuel σ h
  | .ret e, σ, h => (evalE C e σ h).go σ fun w h1 => .ok (.rt w) h1
  | .brk, σ, h => .ok (.bk σ) h
  | .cont, σ, h => .ok (.ct σ) h

/-! ### programs -/
structure FD where
  ps : List Str
  ds : List W := []
  n : Nat
  body : S
structure Prg where
  fns : List (Str × FD)
  con : List (Str × W)
/-- the slots at the entry -/
def bindW (f : FD) (xs : List W) (kw : List (Str × W)) : List (Option W) :=
  if kw.isEmpty && decide (xs.length = f.ps.length) then xs.map some else f.ps.map fun p => (f.ps.zip xs ++ (kw ++ (f.ps.drop (f.ps.length - f.ds.length)).zip f.ds)).lookup p
def bindA (f : FD) (xs : List W) (kw : List (Str × W)) : Option Sb :=
  if (decide (xs.length ≤ f.ps.length) && (kw.all fun p => decide (p.1 ∈ f.ps.drop xs.length)) && decide ((kw.map (·.1)).Nodup) && (bindW f xs kw).all (·.isSome) && decide (f.ds.length ≤ f.ps.length)) = true
    then some (bindW f xs kw ++ List.replicate (f.n - f.ps.length) none) else none
def runF (P : Prg) (fuel : Nat) : Nat → Str → List W → List (Str × W) → Hb → R W
  | 0, _, _, _, _ => .no
  | d + 1, f, xs, kw, h => match P.fns.lookup f with
    | some fd => (match bindA fd xs kw with
      | some σ => (match evalS { call := runF P fuel d, glob := fun x => P.con.lookup x, fuel := fuel } fd.body σ h with
        | .ok (.rt w) h1 => .ok w h1
        | .ok (.nx _) h1 => .ok .non h1
        | .ex x _ h1 => .ex x h1
        | _ => .no)
      | none => .no)
    | none => .no
end Y
/-! Y1: what Y's values and heaps mean over HandS's abstract heap; the judgement «this Python runs as that Y». -/
namespace Y
open PySem PySem.Spec PyProof.Rows L2

/-- the module's classes by name -/
structure Tab where
  ca : Str → Addr
  /-- lists that a comprehension is making: no value is one of them -/
  hid : Addr → Prop := fun _ => False
/-- not tracked, not hidden -/
def Fr (T : Tab) (φ : List Addr) (a : Addr) : Prop := a ∉ φ ∧ ¬ T.hid a

def KL (K : PySem.W.Frag) (a : Addr) (xs : List V) : Prop :=
  ∃ (o : Obj) (its : Array Value) (n : Nat), K.lookup a = some o ∧ o.cls = .type "list" ∧ o.dict = none ∧ o.data = .seq its n ∧ its.size ≤ sizeLine ∧ Vals xs its.toList
def KT (K : PySem.W.Frag) (a : Addr) (xs : List V) : Prop :=
  ∃ (o : Obj) (its : Array Value) (n : Nat), K.lookup a = some o ∧ o.cls = .type "tuple" ∧ o.data = .seq its n ∧ its.size ≤ sizeLine ∧ Vals xs its.toList

section
variable (K : PySem.W.Frag) (T : Tab) (φ : List Addr) (H : Hp)
mutual
def RV : W → V → Prop
  | .non, v => v = .non
  | .bl b, v => v = .bl b
  | .int i, v => v = .int i
  | .str s, v => v = .str s
  | .tup xs, v => ∃ a vs, v = .ref a ∧ ((Fr T φ a ∧ Rd H a (.tup vs)) ∨ KT K a vs) ∧ RVs xs vs
  | .lit xs, v => ∃ a vs, v = .ref a ∧ Fr T φ a ∧ H a = some (.lst vs) ∧ RVs xs vs
  | .rol xs, v => ∃ a vs, v = .ref a ∧ ((Fr T φ a ∧ Rd H a (.lst vs)) ∨ KL K a vs) ∧ RVs xs vs
  | .obj c ns xs, v => ∃ a dx fs, v = .ref a ∧ Fr T φ a ∧ H a = some (.ins (T.ca c) dx fs) ∧ fs.map (·.1) = ns ∧ RVs xs (fs.map (·.2))
  | .ref n, v => ∃ a, v = .ref a ∧ φ[n]? = some a
def RVs : List W → List V → Prop
  | [], vs => vs = []
  | x :: xs, vs => ∃ v r, vs = v :: r ∧ RV x v ∧ RVs xs r
end
def RO (a : Addr) : O → Prop
  | .lst xs => ∃ vs, H a = some (.lst vs) ∧ RVs K T φ H xs vs
  | .ins c ns xs => ∃ dx fs, H a = some (.ins (T.ca c) dx fs) ∧ fs.map (·.1) = ns ∧ RVs K T φ H xs (fs.map (·.2))
  | .dct _ _ => False
structure Rel (h : Hb) : Prop where
  nd : φ.Nodup
  len : φ.length = h.length
  hd : ∀ a, T.hid a → ∃ o, H a = some o
  at_ : ∀ (n : Nat) (o : O) (a : Addr), h[n]? = some o → φ[n]? = some a → RO K T φ H a o
/-- the slots -/
structure RS (σb : Sb) (σ : L2.St) : Prop where
  len : σb.length = σ.length
  at_ : ∀ (i : Nat) (w : W), σb[i]? = some (some w) → ∃ v, σ[i]? = some (some v) ∧ RV K T φ H w v
end

/-- from one heap to a later one -/
structure Ex (K : PySem.W.Frag) (φ φ' : List Addr) (H H' : Hp) : Prop where
  pre : φ <+: φ'
  new : ∀ b, b ∈ φ' → b ∉ φ → H b = none
  keep : ∀ b o, H b = some o → b ∉ φ → H' b = some o

section
variable {K : PySem.W.Frag} {T : Tab} {φ φ1 φ2 φ' : List Addr} {H H1 H2 H' : Hp}
theorem Ex.refl : Ex K φ φ H H := ⟨List.prefix_refl φ, fun b h n => absurd h n, fun _ _ e _ => e⟩
theorem Ex.notin (x : Ex K φ φ' H H') {b : Addr} {o : HO} (e : H b = some o) (n : b ∉ φ) : b ∉ φ' := fun h => by
  rw [x.new b h n] at e; cases e
theorem Ex.trans (x : Ex K φ φ1 H H1) (y : Ex K φ1 φ2 H1 H2) : Ex K φ φ2 H H2 :=
  ⟨x.pre.trans y.pre, fun b h n => (by
    by_cases h1 : b ∈ φ1
    · exact x.new b h1 n
    · have e := y.new b h h1
      cases q : H b with
      | none => rfl
      | some o =>
        rw [x.keep b o q n] at e
        cases e), fun b o e n => y.keep b o (x.keep b o e n) (x.notin e n)⟩
theorem Ex.get (x : Ex K φ φ' H H') {n : Nat} {a : Addr} (e : φ[n]? = some a) : φ'[n]? = some a := by
  obtain ⟨t, ht⟩ := x.pre
  rw [← ht]
  obtain ⟨h1, _⟩ := List.getElem?_eq_some_iff.mp e
  rw [List.getElem?_append_left h1]; exact e
theorem Ex.fr (x : Ex K φ φ' H H') {b : Addr} {o : HO} (e : H b = some o) (n : Fr T φ b) : Fr T φ' b := ⟨x.notin e n.1, n.2⟩
theorem Ex.rd (x : Ex K φ φ' H H') {a : Addr} {u : HO} (n : Fr T φ a) (r : Rd H a u) : Fr T φ' a ∧ Rd H' a u := by
  rcases r with e | ⟨o, e⟩
  · exact ⟨x.fr e n, .inl (x.keep a _ e n.1)⟩
  · exact ⟨x.fr e n, .inr ⟨o, x.keep a _ e n.1⟩⟩
theorem Ex.hd (x : Ex K φ φ' H H') (m : ∀ a, a ∈ φ → ∃ o, H' a = some o) (d : ∀ a, T.hid a → ∃ o, H a = some o) : ∀ a, T.hid a → ∃ o, H' a = some o := fun a q => by
  by_cases z : a ∈ φ
  · exact m a z
  · obtain ⟨o, e⟩ := d a q
    exact ⟨o, x.keep a o e z⟩
mutual
theorem RV.mono (x : Ex K φ φ' H H') : ∀ (w : W) (v : V), RV K T φ H w v → RV K T φ' H' w v
  | .non, v, h => by simpa only [RV] using h
  | .bl b, v, h => by simpa only [RV] using h
  | .int i, v, h => by simpa only [RV] using h
  | .str s, v, h => by simpa only [RV] using h
  | .tup xs, v, h => by
    simp only [RV] at h ⊢
    obtain ⟨a, vs, e, h1, h2⟩ := h
    refine ⟨a, vs, e, ?_, RVs.mono x xs vs h2⟩
    rcases h1 with ⟨n, r⟩ | k
    · exact .inl (x.rd n r)
    · exact .inr k
  | .lit xs, v, h => by
    simp only [RV] at h ⊢
    obtain ⟨a, vs, e, n, h1, h2⟩ := h
    exact ⟨a, vs, e, x.fr h1 n, x.keep a _ h1 n.1, RVs.mono x xs vs h2⟩
  | .rol xs, v, h => by
    simp only [RV] at h ⊢
    obtain ⟨a, vs, e, h1, h2⟩ := h
    refine ⟨a, vs, e, ?_, RVs.mono x xs vs h2⟩
    rcases h1 with ⟨n, r⟩ | k
    · exact .inl (x.rd n r)
    · exact .inr k
  | .obj c ns xs, v, h => by
    simp only [RV] at h ⊢
    obtain ⟨a, dx, fs, e, n, h1, h2, h3⟩ := h
    exact ⟨a, dx, fs, e, x.fr h1 n, x.keep a _ h1 n.1, h2, RVs.mono x xs _ h3⟩
  | .ref n, v, h => by
    simp only [RV] at h ⊢
    obtain ⟨a, e, h1⟩ := h
    exact ⟨a, e, x.get h1⟩
theorem RVs.mono (x : Ex K φ φ' H H') : ∀ (ws : List W) (vs : List V), RVs K T φ H ws vs → RVs K T φ' H' ws vs
  | [], vs, h => by simpa only [RVs] using h
  | w :: ws, vs, h => by
    simp only [RVs] at h ⊢
    obtain ⟨v, r, e, h1, h2⟩ := h
    exact ⟨v, r, e, RV.mono x w v h1, RVs.mono x ws r h2⟩
end
theorem RS.mono {σb : Sb} {σ : L2.St} (x : Ex K φ φ' H H') (s : RS K T φ H σb σ) : RS K T φ' H' σb σ :=
  ⟨s.len, fun i w e => let ⟨v, e1, r⟩ := s.at_ i w e; ⟨v, e1, RV.mono x w v r⟩⟩
theorem RVs.length : ∀ {ws : List W} {vs : List V}, RVs K T φ H ws vs → ws.length = vs.length
  | [], vs, h => by simp only [RVs] at h; rw [h]; rfl
  | w :: ws, vs, h => by
    simp only [RVs] at h
    obtain ⟨v, r, e, _, h2⟩ := h
    rw [e, List.length_cons, List.length_cons, RVs.length h2]
theorem RVs.get : ∀ {ws : List W} {vs : List V} {i : Nat} {w : W}, RVs K T φ H ws vs → ws[i]? = some w → ∃ v, vs[i]? = some v ∧ RV K T φ H w v
  | [], _, _, _, _, e => by simp at e
  | w :: ws, vs, 0, x, h, e => by
    simp only [RVs] at h
    obtain ⟨v, r, e1, h1, _⟩ := h
    simp at e; subst e; subst e1
    exact ⟨v, rfl, h1⟩
  | w :: ws, vs, i + 1, x, h, e => by
    simp only [RVs] at h
    obtain ⟨v, r, e1, _, h2⟩ := h
    subst e1
    obtain ⟨u, e2, r2⟩ := RVs.get (i := i) h2 (by simpa using e)
    exact ⟨u, by simpa using e2, r2⟩
theorem RVs.append : ∀ {ws us : List W} {vs ts : List V}, RVs K T φ H ws vs → RVs K T φ H us ts → RVs K T φ H (ws ++ us) (vs ++ ts)
  | [], _, vs, _, h, k => by simp only [RVs] at h; subst h; exact k
  | w :: ws, us, vs, ts, h, k => by
    simp only [RVs] at h
    obtain ⟨v, r, e, h1, h2⟩ := h
    subst e
    simp only [List.cons_append, RVs]
    exact ⟨v, r ++ ts, rfl, h1, RVs.append h2 k⟩
theorem RVs.nil : RVs K T φ H [] [] := by simp only [RVs]
theorem RVs.cons {w : W} {ws : List W} {v : V} {vs : List V} (h : RV K T φ H w v) (k : RVs K T φ H ws vs) : RVs K T φ H (w :: ws) (v :: vs) := by
  simp only [RVs]; exact ⟨v, vs, rfl, h, k⟩
theorem RVs.take : ∀ (n : Nat) {ws : List W} {vs : List V}, RVs K T φ H ws vs → RVs K T φ H (ws.take n) (vs.take n)
  | 0, _, _, _ => by simp only [List.take_zero]; exact .nil
  | n + 1, [], vs, h => by simp only [RVs] at h; subst h; exact .nil
  | n + 1, w :: ws, vs, h => by
    simp only [RVs] at h
    obtain ⟨v, r, e, h1, h2⟩ := h
    subst e
    simp only [List.take_succ_cons]
    exact .cons h1 (RVs.take n h2)
theorem RVs.drop : ∀ (n : Nat) {ws : List W} {vs : List V}, RVs K T φ H ws vs → RVs K T φ H (ws.drop n) (vs.drop n)
  | 0, _, _, h => h
  | n + 1, [], vs, h => by simp only [RVs] at h; subst h; exact .nil
  | n + 1, w :: ws, vs, h => by
    simp only [RVs] at h
    obtain ⟨v, r, e, h1, h2⟩ := h
    subst e
    exact RVs.drop n h2
theorem RVs.set {w : W} {v : V} (r : RV K T φ H w v) : ∀ (i : Nat) {ws : List W} {vs : List V}, RVs K T φ H ws vs → RVs K T φ H (ws.set i w) (vs.set i v)
  | _, [], vs, h => by simp only [RVs] at h; subst h; exact .nil
  | 0, x :: ws, vs, h => by
    simp only [RVs] at h
    obtain ⟨u, t, e, _, h2⟩ := h
    subst e
    exact .cons r h2
  | i + 1, x :: ws, vs, h => by
    simp only [RVs] at h
    obtain ⟨u, t, e, h1, h2⟩ := h
    subst e
    exact .cons h1 (RVs.set r i h2)
theorem RVs.eraseIdx : ∀ (i : Nat) {ws : List W} {vs : List V}, RVs K T φ H ws vs → RVs K T φ H (ws.eraseIdx i) (vs.eraseIdx i)
  | _, [], vs, h => by simp only [RVs] at h; subst h; exact .nil
  | 0, x :: ws, vs, h => by
    simp only [RVs] at h
    obtain ⟨u, t, e, _, h2⟩ := h
    subst e
    exact h2
  | i + 1, x :: ws, vs, h => by
    simp only [RVs] at h
    obtain ⟨u, t, e, h1, h2⟩ := h
    subst e
    exact .cons h1 (RVs.eraseIdx i h2)
theorem RVs.dropLast {ws : List W} {vs : List V} (h : RVs K T φ H ws vs) : RVs K T φ H ws.dropLast vs.dropLast := by
  rw [List.dropLast_eq_take, List.dropLast_eq_take, ← h.length]; exact RVs.take _ h
theorem RVs.rep {ws : List W} {vs : List V} (h : RVs K T φ H ws vs) : ∀ n : Nat, RVs K T φ H (List.replicate n ws).flatten (List.replicate n vs).flatten
  | 0 => .nil
  | n + 1 => by simp only [List.replicate_succ, List.flatten_cons]; exact h.append (RVs.rep h n)

/-! ### the heap changes -/
theorem Rel.mem {h : Hb} (r : Rel K T φ H h) {a : Addr} (m : a ∈ φ) : ∃ o, H a = some o := by
  obtain ⟨n, hn⟩ := List.mem_iff_getElem?.mp m
  have hl : n < h.length := by rw [← r.len]; exact (List.getElem?_eq_some_iff.mp hn).1
  have q := r.at_ n _ a (List.getElem?_eq_getElem hl) hn
  cases e : h[n] with
  | lst xs => rw [e] at q; obtain ⟨vs, e1, _⟩ := q; exact ⟨_, e1⟩
  | ins c ns xs => rw [e] at q; obtain ⟨dx, fs, e1, _⟩ := q; exact ⟨_, e1⟩
  | dct ks vs => rw [e] at q; exact False.elim q
theorem Rel.fresh {h : Hb} (r : Rel K T φ H h) {p : Addr} (e : H p = none) : p ∉ φ := fun m => by
  obtain ⟨o, q⟩ := r.mem m
  rw [e] at q; cases q
theorem Rel.fr {h : Hb} (r : Rel K T φ H h) {p : Addr} (e : H p = none) : Fr T φ p := ⟨r.fresh e, fun q => by
  obtain ⟨o, z⟩ := r.hd p q
  rw [e] at z; cases z⟩
theorem RO.mono {a : Addr} {o : O} (x : Ex K φ φ' H H') (hk : H' a = H a) (r : RO K T φ H a o) : RO K T φ' H' a o := by
  cases o with
  | lst xs => obtain ⟨vs, e, k⟩ := r; exact ⟨vs, hk.trans e, RVs.mono x _ _ k⟩
  | ins c ns xs => obtain ⟨dx, fs, e, e2, k⟩ := r; exact ⟨dx, fs, hk.trans e, e2, RVs.mono x _ _ k⟩
  | dct ks vs => exact r
/-- something new beside the tracked -/
theorem Ex.side {h : Hb} (r : Rel K T φ H h) {p : Addr} {o : HO} (e : H p = none) : Ex K φ φ H (upd H p o) :=
  ⟨List.prefix_refl φ, fun b h n => absurd h n, fun b u q _ => by rw [upd_ne (ne_of_none q e)]; exact q⟩
theorem Rel.side {h : Hb} (r : Rel K T φ H h) {p : Addr} {o : HO} (e : H p = none) : Rel K T φ (upd H p o) h :=
  ⟨r.nd, r.len, fun a q => by
    obtain ⟨o, z⟩ := r.hd a q
    exact ⟨o, by rw [upd_ne (ne_of_none z e)]; exact z⟩, fun n u a h1 h2 => RO.mono (Ex.side r e) (upd_ne (fun z => r.fresh e (z ▸ List.mem_of_getElem? h2))) (r.at_ n u a h1 h2)⟩
/-- anything that keeps the tracked -/
theorem Rel.keep {h : Hb} (r : Rel K T φ H h) (k : ∀ b o, H b = some o → H' b = some o) : Rel K T φ H' h ∧ Ex K φ φ H H' :=
  have x : Ex K φ φ H H' := ⟨List.prefix_refl φ, fun b h n => absurd h n, fun b u q _ => k b u q⟩
  ⟨⟨r.nd, r.len, fun a q => let ⟨o, z⟩ := r.hd a q; ⟨o, k a o z⟩, fun n u a h1 h2 => by
    obtain ⟨o, q⟩ := r.mem (List.mem_of_getElem? h2)
    exact RO.mono x ((k a o q).trans q.symm) (r.at_ n u a h1 h2)⟩, x⟩
/-- a new tracked list -/
theorem Ex.grow {h : Hb} (r : Rel K T φ H h) {p : Addr} {o : HO} (e : H p = none) : Ex K φ (φ ++ [p]) H (upd H p o) :=
  ⟨⟨[p], rfl⟩, fun b h n => by
    rcases List.mem_append.mp h with z | z
    · exact absurd z n
    · rw [List.mem_singleton.mp z]
      exact e, fun b u q _ => by rw [upd_ne (ne_of_none q e)]; exact q⟩
theorem Rel.grow {h : Hb} (r : Rel K T φ H h) {p : Addr} {o : HO} {ob : O} (e : H p = none) (ro : RO K T (φ ++ [p]) (upd H p o) p ob) : Rel K T (φ ++ [p]) (upd H p o) (h ++ [ob]) := by
  have np := r.fresh e
  refine ⟨List.nodup_append.mpr ⟨r.nd, by simp, fun a ha b hb => by rw [List.mem_singleton.mp hb]; exact fun z => np (z ▸ ha)⟩, by simp [r.len], fun a q => (let ⟨o, z⟩ := r.hd a q; ⟨o, by rw [upd_ne (ne_of_none z e)]; exact z⟩), fun n u a h1 h2 => ?_⟩
  by_cases hn : n < h.length
  · rw [List.getElem?_append_left hn] at h1
    rw [List.getElem?_append_left (by rw [r.len]; exact hn)] at h2
    exact RO.mono (Ex.grow r e) (upd_ne (fun z => np (z ▸ List.mem_of_getElem? h2))) (r.at_ n u a h1 h2)
  · have hn' : h.length ≤ n := Nat.le_of_not_lt hn
    rw [List.getElem?_append_right hn'] at h1
    rw [List.getElem?_append_right (by rw [r.len]; exact hn')] at h2
    rw [r.len] at h2
    cases hk : n - h.length with
    | zero => rw [hk] at h1 h2; cases h1; cases h2; exact ro
    | succ k => rw [hk] at h1; simp at h1
/-- a tracked one written -/
theorem Ex.write {h : Hb} {a : Addr} {o : HO} (r : Rel K T φ H h) (m : a ∈ φ) : Ex K φ φ H (upd H a o) :=
  ⟨List.prefix_refl φ, fun b h n => absurd h n, fun b u q n => by rw [upd_ne (fun z : b = a => n (by rw [z]; exact m))]; exact q⟩
theorem Rel.write {h : Hb} {n : Nat} {a : Addr} {o : HO} {ob : O} (r : Rel K T φ H h) (e : φ[n]? = some a) (ro : RO K T φ (upd H a o) a ob) : Rel K T φ (upd H a o) (h.set n ob) := by
  have x := Ex.write (o := o) r (List.mem_of_getElem? e)
  refine ⟨r.nd, by rw [List.length_set]; exact r.len, fun b q => ?_, fun m u b h1 h2 => ?_⟩
  · by_cases z : b = a
    · exact ⟨o, by rw [z]; exact upd_same⟩
    · obtain ⟨u, e⟩ := r.hd b q
      exact ⟨u, by rw [upd_ne z]; exact e⟩
  by_cases hm : n = m
  · subst hm
    rw [e] at h2; cases h2
    have hl : n < h.length := by rw [← r.len]; exact (List.getElem?_eq_some_iff.mp e).1
    rw [List.getElem?_set_self hl] at h1; cases h1
    exact ro
  · rw [List.getElem?_set_ne hm] at h1
    have ne : b ≠ a := fun z => hm (by
      subst z
      obtain ⟨l1, e1⟩ := List.getElem?_eq_some_iff.mp e
      obtain ⟨l2, e2⟩ := List.getElem?_eq_some_iff.mp h2
      exact (List.getElem_inj r.nd).mp (e1.trans e2.symm))
    exact RO.mono x (upd_ne ne) (r.at_ m u b h1 h2)
end

/-! ### lists in the making -/
/-- T' hides what T hides, and perhaps what is not there yet -/
structure Hid (T T' : Tab) (H : Hp) : Prop where
  ca : T'.ca = T.ca
  up : ∀ a, T.hid a → T'.hid a
  new : ∀ a, T'.hid a → T.hid a ∨ H a = none
section
variable {K : PySem.W.Frag} {T T' : Tab} {φ φ' : List Addr} {H H' : Hp}
theorem Hid.refl : Hid T T H := ⟨rfl, fun _ h => h, fun _ h => .inl h⟩
theorem Hid.fr (g : Hid T T' H) {a : Addr} {o : HO} (n : Fr T φ a) (e : H a = some o) : Fr T' φ a := ⟨n.1, fun q => by
  rcases g.new a q with z | z
  · exact n.2 z
  · rw [e] at z; cases z⟩
theorem Hid.rd (g : Hid T T' H) {a : Addr} {u : HO} (n : Fr T φ a) (r : Rd H a u) : Fr T' φ a := by
  rcases r with e | ⟨o, e⟩
  · exact g.fr n e
  · exact g.fr n e
theorem Hid.bare (g : Hid T T' H) {a : Addr} (n : Fr T' φ a) : Fr T φ a := ⟨n.1, fun q => n.2 (g.up a q)⟩
theorem Hid.at (g : Hid T T' H) (k : ∀ b o, H' b = some o → ∃ u, H b = some u) : Hid T T' H' := ⟨g.ca, g.up, fun a q => by
  rcases g.new a q with z | z
  · exact .inl z
  · refine .inr ?_
    cases e : H' a with
    | none => rfl
    | some o => obtain ⟨u, e2⟩ := k a o e; rw [z] at e2; cases e2⟩
mutual
theorem RV.hide (g : Hid T T' H) : ∀ (w : W) (v : V), RV K T φ H w v → RV K T' φ H w v
  | .non, v, h => by simpa only [RV] using h
  | .bl b, v, h => by simpa only [RV] using h
  | .int i, v, h => by simpa only [RV] using h
  | .str s, v, h => by simpa only [RV] using h
  | .tup xs, v, h => by
    simp only [RV] at h ⊢
    obtain ⟨a, vs, e, h1, h2⟩ := h
    exact ⟨a, vs, e, h1.imp_left fun z => ⟨g.rd z.1 z.2, z.2⟩, RVs.hide g xs vs h2⟩
  | .lit xs, v, h => by
    simp only [RV] at h ⊢
    obtain ⟨a, vs, e, n, h1, h2⟩ := h
    exact ⟨a, vs, e, g.fr n h1, h1, RVs.hide g xs vs h2⟩
  | .rol xs, v, h => by
    simp only [RV] at h ⊢
    obtain ⟨a, vs, e, h1, h2⟩ := h
    exact ⟨a, vs, e, h1.imp_left fun z => ⟨g.rd z.1 z.2, z.2⟩, RVs.hide g xs vs h2⟩
  | .obj c ns xs, v, h => by
    simp only [RV] at h ⊢
    obtain ⟨a, dx, fs, e, n, h1, h2, h3⟩ := h
    exact ⟨a, dx, fs, e, g.fr n h1, by rw [g.ca]; exact h1, h2, RVs.hide g xs _ h3⟩
  | .ref n, v, h => by simpa only [RV] using h
theorem RVs.hide (g : Hid T T' H) : ∀ (ws : List W) (vs : List V), RVs K T φ H ws vs → RVs K T' φ H ws vs
  | [], vs, h => by simpa only [RVs] using h
  | w :: ws, vs, h => by
    simp only [RVs] at h ⊢
    obtain ⟨v, r, e, h1, h2⟩ := h
    exact ⟨v, r, e, RV.hide g w v h1, RVs.hide g ws r h2⟩
end
mutual
theorem RV.bare {H0 : Hp} (g : Hid T T' H0) : ∀ (w : W) (v : V), RV K T' φ H w v → RV K T φ H w v
  | .non, v, h => by simpa only [RV] using h
  | .bl b, v, h => by simpa only [RV] using h
  | .int i, v, h => by simpa only [RV] using h
  | .str s, v, h => by simpa only [RV] using h
  | .tup xs, v, h => by
    simp only [RV] at h ⊢
    obtain ⟨a, vs, e, h1, h2⟩ := h
    exact ⟨a, vs, e, h1.imp_left fun z => ⟨g.bare z.1, z.2⟩, RVs.bare g xs vs h2⟩
  | .lit xs, v, h => by
    simp only [RV] at h ⊢
    obtain ⟨a, vs, e, n, h1, h2⟩ := h
    exact ⟨a, vs, e, g.bare n, h1, RVs.bare g xs vs h2⟩
  | .rol xs, v, h => by
    simp only [RV] at h ⊢
    obtain ⟨a, vs, e, h1, h2⟩ := h
    exact ⟨a, vs, e, h1.imp_left fun z => ⟨g.bare z.1, z.2⟩, RVs.bare g xs vs h2⟩
  | .obj c ns xs, v, h => by
    simp only [RV] at h ⊢
    obtain ⟨a, dx, fs, e, n, h1, h2, h3⟩ := h
    exact ⟨a, dx, fs, e, g.bare n, by rw [← g.ca]; exact h1, h2, RVs.bare g xs _ h3⟩
  | .ref n, v, h => by simpa only [RV] using h
theorem RVs.bare {H0 : Hp} (g : Hid T T' H0) : ∀ (ws : List W) (vs : List V), RVs K T' φ H ws vs → RVs K T φ H ws vs
  | [], vs, h => by simpa only [RVs] using h
  | w :: ws, vs, h => by
    simp only [RVs] at h ⊢
    obtain ⟨v, r, e, h1, h2⟩ := h
    exact ⟨v, r, e, RV.bare g w v h1, RVs.bare g ws r h2⟩
end
theorem RO.hide (g : Hid T T' H) {a : Addr} {o : O} (r : RO K T φ H a o) : RO K T' φ H a o := by
  cases o with
  | lst xs => obtain ⟨vs, e, k⟩ := r; exact ⟨vs, e, RVs.hide g _ _ k⟩
  | ins c ns xs => obtain ⟨dx, fs, e, e2, k⟩ := r; exact ⟨dx, fs, by rw [g.ca]; exact e, e2, RVs.hide g _ _ k⟩
  | dct ks vs => exact r
theorem RO.bare {H0 : Hp} (g : Hid T T' H0) {a : Addr} {o : O} (r : RO K T' φ H a o) : RO K T φ H a o := by
  cases o with
  | lst xs => obtain ⟨vs, e, k⟩ := r; exact ⟨vs, e, RVs.bare g _ _ k⟩
  | ins c ns xs => obtain ⟨dx, fs, e, e2, k⟩ := r; exact ⟨dx, fs, by rw [← g.ca]; exact e, e2, RVs.bare g _ _ k⟩
  | dct ks vs => exact r
theorem Rel.into {h : Hb} (g : Hid T T' H) (k : ∀ b o, H b = some o → H' b = some o) (d : ∀ a, T'.hid a → ∃ o, H' a = some o) (r : Rel K T φ H h) : Rel K T' φ H' h :=
  have x : Ex K φ φ H H' := ⟨List.prefix_refl φ, fun b h n => absurd h n, fun b u q _ => k b u q⟩
  ⟨r.nd, r.len, d, fun n u a h1 h2 => by
    obtain ⟨o, q⟩ := r.mem (List.mem_of_getElem? h2)
    exact RO.mono x ((k a o q).trans q.symm) (RO.hide g (r.at_ n u a h1 h2))⟩
theorem Rel.bare {h : Hb} {H0 : Hp} (g : Hid T T' H0) (r : Rel K T' φ H h) : Rel K T φ H h :=
  ⟨r.nd, r.len, fun a q => r.hd a (g.up a q), fun n u a h1 h2 => RO.bare g (r.at_ n u a h1 h2)⟩
end

/-! ### answers -/
/-- an exception, as it flies -/
def RX (K : PySem.W.Frag) (T : Tab) (φ : List Addr) (H : Hp) (x : W) (cls : Value) (d : Option Addr) : Prop :=
  ∃ c ns xs, x = .obj c ns xs ∧ cls = .ref (T.ca c) ∧ ∃ dd fs, d = some dd ∧ H dd = some (.xd fs) ∧ fs.map (·.1) = ns ∧ RVs K T φ H xs (fs.map (·.2))
/-- what is wanted behind an answer; Rw: what the answer means -/
def PostR {β : Type} (K : PySem.W.Frag) (T : Tab) (Rw : List Addr → Hp → W → β → Prop) (Z : Value → Option Addr → Hp → Prop) (φ : List Addr) (H : Hp) (r : R W) (Q : β → Hp → Prop) : Prop :=
  match r with
  | .ok w h' => ∀ φ' v H', Ex K φ φ' H H' → Rel K T φ' H' h' → Rw φ' H' w v → Q v H'
  | .ex x h' => ∀ φ' H' cls d, Ex K φ φ' H H' → Rel K T φ' H' h' → RX K T φ' H' x cls d → Z cls d H'
  | .no => False
abbrev Post (K : PySem.W.Frag) (T : Tab) := PostR K T (fun φ H => RV K T φ H)
/-- arguments, one after another -/
def RA (K : PySem.W.Frag) (T : Tab) (φ : List Addr) (H : Hp) (w : W) (vs : List V) : Prop := ∃ ws, w = .tup ws ∧ RVs K T φ H ws vs
abbrev PostA (K : PySem.W.Frag) (T : Tab) := PostR K T (RA K T)
section
variable {β γ : Type} {K : PySem.W.Frag} {T : Tab} {φ φ1 φ2 φ' : List Addr} {H H1 H2 H' : Hp} {Z : Value → Option Addr → Hp → Prop} {Q Q' : β → Hp → Prop} {Rw : List Addr → Hp → W → β → Prop} {Ru : List Addr → Hp → W → γ → Prop}
theorem PostR.ext {r : R W} (x : Ex K φ φ1 H H1) (p : PostR K T Rw Z φ H r Q) : PostR K T Rw Z φ1 H1 r Q := by
  cases r with
  | ok w h' => exact fun φ' v H' y rl rv => p φ' v H' (x.trans y) rl rv
  | ex e h' => exact fun φ' H' cls d y rl rv => p φ' H' cls d (x.trans y) rl rv
  | no => exact p
theorem PostR.mono {r : R W} (p : PostR K T Rw Z φ H r Q) (h : ∀ v H', Q v H' → Q' v H') : PostR K T Rw Z φ H r Q' := by
  cases r with
  | ok w h' => exact fun φ' v H' y rl rv => h _ _ (p φ' v H' y rl rv)
  | ex e h' => exact p
  | no => exact p
/-- one part, then the rest -/
theorem PostR.bind {r : R W} {g : W → Hb → R W} (p : PostR K T Rw Z φ H (r.bind g) Q) :
    PostR K T Ru Z φ H r (fun v H1 => ∃ φ1 w h1, r = .ok w h1 ∧ Ex K φ φ1 H H1 ∧ Rel K T φ1 H1 h1 ∧ Ru φ1 H1 w v ∧ PostR K T Rw Z φ1 H1 (g w h1) Q) := by
  cases r with
  | ok w h' => exact fun φ' v H' y rl rv => ⟨φ', w, h', rfl, y, rl, rv, PostR.ext y p⟩
  | ex e h' => exact p
  | no => exact p
end

abbrev ZX (Wx : WX) (σ : L2.St) : Value → Option Addr → Hp → Prop := fun cls d H => Wx cls d σ H
/-- the reading of a Python expression (arguments: Ru) that runs as f -/
def tR {γ : Type} (K : PySem.W.Frag) (T : Tab) (Ru : List Addr → Hp → W → γ → Prop) (Wx : WX) (f : Sb → Hb → R W) : L2.St → Hp → (γ → Hp → Prop) → Prop := fun σ H Q =>
  ∃ φ σb h, RS K T φ H σb σ ∧ Rel K T φ H h ∧ PostR K T Ru (ZX Wx σ) φ H (f σb h) Q
abbrev tI (K : PySem.W.Frag) (T : Tab) (Wx : WX) (f : Sb → Hb → R W) : TE := tR K T (fun φ H => RV K T φ H) Wx f
abbrev tIA (K : PySem.W.Frag) (T : Tab) (Wx : WX) (f : Sb → Hb → R W) : TA := tR K T (RA K T) Wx f
theorem _root_.L2.PE.weak {X : L2.Cx} {e : Expr} {t t' : TE} (h : PE X e t) (hm : ∀ σ H Q, t' σ H Q → t σ H Q) : PE X e t' :=
  ⟨fun pins s σ H Q I q => h.run pins s σ H Q I (hm _ _ _ q)⟩
theorem _root_.L2.PT.weak {X : L2.Cx} {e : Expr} {t t' : TT} (h : PT X e t) (hm : ∀ σ H Q, t' σ H Q → t σ H Q) : PT X e t' :=
  ⟨fun pins s σ H Q I q => h.run pins s σ H Q I (hm _ _ _ q)⟩
theorem _root_.L2.PW.weak {X : L2.Cx} {e : Expr} {t t' : TT} (h : PW X e t) (hm : ∀ σ H Q, t' σ H Q → t σ H Q) : PW X e t' :=
  ⟨fun wh pins s σ H Q I q => h.run wh pins s σ H Q I (hm _ _ _ q)⟩
theorem _root_.L2.PA.weak {X : L2.Cx} {es : List Expr} {t t' : TA} (h : PA X es t) (hm : ∀ σ H Q, t' σ H Q → t σ H Q) : PA X es t' :=
  ⟨fun pos pins s σ H Q I q => h.run pos pins s σ H Q I (hm _ _ _ q)⟩
section
variable {β γ : Type} {K : PySem.W.Frag} {T : Tab} {Wx : WX} {φ φ1 φ2 φ' : List Addr} {H H1 H2 H' : Hp} {Q Q' : β → Hp → Prop} {σb : Sb} {σ : L2.St} {h : Hb} {Rw : List Addr → Hp → W → β → Prop} {Ru : List Addr → Hp → W → γ → Prop}
theorem tR_mono {f : Sb → Hb → R W} (t : tR K T Rw Wx f σ H Q) (m : ∀ v H', Q v H' → Q' v H') : tR K T Rw Wx f σ H Q' := by
  obtain ⟨φ, σb, h, s, r, p⟩ := t
  exact ⟨φ, σb, h, s, r, p.mono m⟩
/-- one part read, then the rest -/
theorem tR_of {f : Sb → Hb → R W} {g : W → Hb → R W} (s : RS K T φ H σb σ) (r : Rel K T φ H h) (p : PostR K T Rw (ZX Wx σ) φ H ((f σb h).bind g) Q) :
    tR K T Ru Wx f σ H (fun v H1 => ∃ φ1 w h1, f σb h = .ok w h1 ∧ Ex K φ φ1 H H1 ∧ RS K T φ1 H1 σb σ ∧ Rel K T φ1 H1 h1 ∧ Ru φ1 H1 w v ∧ PostR K T Rw (ZX Wx σ) φ1 H1 (g w h1) Q) := by
  refine ⟨φ, σb, h, s, r, (p.bind (Ru := Ru)).mono ?_⟩
  rintro v H1 ⟨φ1, w, h1, e, x, rl, rv, q⟩
  exact ⟨φ1, w, h1, e, x, s.mono x, rl, rv, q⟩
end
end Y
/-! Y2: operators and comparisons of values run as Y says. -/
namespace Y
open PySem PySem.Spec PyProof.Rows L2

abbrev Z0 : Value → Option Addr → Hp → Prop := fun _ _ _ => False
/-- two values, then Y's answer -/
def rB (K : PySem.W.Frag) (T : Tab) (f : W → W → Hb → R W) : R2 := fun x y H Q =>
  ∃ φ h w1 w2, Rel K T φ H h ∧ RV K T φ H w1 x ∧ RV K T φ H w2 y ∧ Post K T Z0 φ H (f w1 w2 h) Q

def opP : Op → Operator
  | .add => .Add | .sub => .Sub | .mul => .Mult | .fdv => .FloorDiv | .mod => .Mod | .pow => .Pow
def cmP : Cm → CmpOp
  | .eq => .Eq | .ne => .NotEq | .lt => .Lt | .le => .LtE | .gt => .Gt | .ge => .GtE | .is => .Is | .isn => .IsNot | .inn => .In | .nin => .NotIn

section
variable {K : PySem.W.Frag} {T : Tab} {φ : List Addr} {H : Hp} {h : Hb} {Q : VK} {Z : Value → Option Addr → Hp → Prop}
theorem RV.int_inv {i : Int} {v : V} (r : RV K T φ H (.int i) v) : v = .int i := by simpa only [RV] using r
theorem RV.bl_inv {i : Bool} {v : V} (r : RV K T φ H (.bl i) v) : v = .bl i := by simpa only [RV] using r
theorem RV.str_inv {i : Str} {v : V} (r : RV K T φ H (.str i) v) : v = .str i := by simpa only [RV] using r
theorem RV.non_inv {v : V} (r : RV K T φ H .non v) : v = .non := by simpa only [RV] using r
theorem RV.tup_inv {xs : List W} {v : V} (r : RV K T φ H (.tup xs) v) : ∃ a vs, v = .ref a ∧ ((Fr T φ a ∧ Rd H a (.tup vs)) ∨ KT K a vs) ∧ RVs K T φ H xs vs := by simpa only [RV] using r
theorem RV.lit_inv {xs : List W} {v : V} (r : RV K T φ H (.lit xs) v) : ∃ a vs, v = .ref a ∧ Fr T φ a ∧ H a = some (.lst vs) ∧ RVs K T φ H xs vs := by simpa only [RV] using r
theorem RV.rol_inv {xs : List W} {v : V} (r : RV K T φ H (.rol xs) v) : ∃ a vs, v = .ref a ∧ ((Fr T φ a ∧ Rd H a (.lst vs)) ∨ KL K a vs) ∧ RVs K T φ H xs vs := by simpa only [RV] using r
theorem RV.ref_inv {n : Nat} {v : V} (r : RV K T φ H (.ref n) v) : ∃ a, v = .ref a ∧ φ[n]? = some a := by simpa only [RV] using r
theorem tup_seq {a : Addr} {vs : List V} (h : (Fr T φ a ∧ Rd H a (.tup vs)) ∨ KT K a vs) : SqT K H a vs := h.elim (fun z => .inl z.2) .inr
theorem lst_seq {a : Addr} {vs : List V} (h : (Fr T φ a ∧ Rd H a (.lst vs)) ∨ KL K a vs) : SqL K H a vs := h.elim (fun z => .inl z.2) .inr
theorem RV.mk_int (i : Int) : RV K T φ H (.int i) (.int i) := by simp only [RV]
theorem RV.mk_bl (i : Bool) : RV K T φ H (.bl i) (.bl i) := by simp only [RV]
theorem RV.mk_str (i : Str) : RV K T φ H (.str i) (.str i) := by simp only [RV]
theorem RV.mk_non : RV K T φ H .non .non := by simp only [RV]
theorem RV.mk_tup {xs : List W} {a : Addr} {vs : List V} (n : Fr T φ a) (r : Rd H a (.tup vs)) (k : RVs K T φ H xs vs) : RV K T φ H (.tup xs) (.ref a) := by
  simp only [RV]; exact ⟨a, vs, rfl, .inl ⟨n, r⟩, k⟩
theorem RV.mk_lit {xs : List W} {a : Addr} {vs : List V} (n : Fr T φ a) (r : H a = some (.lst vs)) (k : RVs K T φ H xs vs) : RV K T φ H (.lit xs) (.ref a) := by
  simp only [RV]; exact ⟨a, vs, rfl, n, r, k⟩
/-- a tracked list -/
theorem Rel.lst {n : Nat} {xs : List W} {a : Addr} (r : Rel K T φ H h) (e : h[n]? = some (.lst xs)) (ha : φ[n]? = some a) : ∃ vs, H a = some (.lst vs) ∧ RVs K T φ H xs vs := r.at_ n _ a e ha

/-! ### data -/
mutual
theorem RV.dp : ∀ (w : W) (v : V) (d : PyData), w.pd = some d → RV K T φ H w v → Dp K H v d
  | .non, v, d, e, r => by cases e; rw [r.non_inv]; exact .non
  | .bl b, v, d, e, r => by cases e; rw [r.bl_inv]; exact .bl b
  | .int i, v, d, e, r => by cases e; rw [r.int_inv]; exact .int i
  | .str s, v, d, e, r => by cases e; rw [r.str_inv]; exact .str s
  | .tup xs, v, d, e, r => by
    obtain ⟨a, vs, rfl, h1, h2⟩ := r.tup_inv
    simp only [W.pd] at e
    cases q : W.pds xs with
    | none => rw [q] at e; cases e
    | some ds => rw [q] at e; cases e; exact .tup (tup_seq h1) (RVs.dp xs vs ds q h2)
  | .lit xs, v, d, e, r => by
    obtain ⟨a, vs, rfl, n, h1, h2⟩ := r.lit_inv
    simp only [W.pd] at e
    cases q : W.pds xs with
    | none => rw [q] at e; cases e
    | some ds => rw [q] at e; cases e; exact .lst (SqL.of h1) (RVs.dp xs vs ds q h2)
  | .rol xs, v, d, e, r => by cases e
  | .obj c ns xs, v, d, e, r => by cases e
  | .ref n, v, d, e, r => by cases e
theorem RVs.dp : ∀ (ws : List W) (vs : List V) (ds : List PyData), W.pds ws = some ds → RVs K T φ H ws vs → DpAll K H vs ds
  | [], vs, ds, e, r => by
    simp only [RVs] at r; subst r
    simp only [W.pds] at e; cases e; exact .nil
  | w :: ws, vs, ds, e, r => by
    simp only [RVs] at r
    obtain ⟨v, t, rfl, h1, h2⟩ := r
    simp only [W.pds] at e
    cases q1 : w.pd with
    | none => rw [q1] at e; cases e
    | some d =>
      cases q2 : W.pds ws with
      | none => rw [q1, q2] at e; cases e
      | some es => rw [q1, q2] at e; cases e; exact .cons (RV.dp w v d q1 h1) (RVs.dp ws t es q2 h2)
end
/-- a list that may change, as data -/
theorem RV.dp_snap {w : W} {v : V} {d : PyData} (rl : Rel K T φ H h) (e : (snap h w).pd = some d) (r : RV K T φ H w v) : Dp K H v d := by
  cases w with
  | ref n =>
    obtain ⟨a, rfl, ha⟩ := r.ref_inv
    simp only [snap] at e
    split at e
    · rename_i xs q
      obtain ⟨vs, e1, k⟩ := rl.lst q ha
      simp only [W.pd] at e
      cases q2 : W.pds xs with
      | none => rw [q2] at e; cases e
      | some ds => rw [q2] at e; cases e; exact .lst (SqL.of e1) (RVs.dp xs vs ds q2 k)
    · cases e
  | _ => exact RV.dp _ _ _ e r
end

theorem decide_eq_true_iff_beq {α : Type} [DecidableEq α] [BEq α] [LawfulBEq α] {a b : α} : decide (a = b) = (a == b) := by
  rw [Bool.eq_iff_iff]; simp
section
variable {X : L2.Cx} {T : Tab}
theorem opB (op : Op) : OpR X (binaryOp (opP op)) (rB X.K T (binop op)) := by
  intro pins s σ H x y v u Q I rx ry ⟨φ, h, w1, w2, rl, r1, r2, p⟩
  unfold binop at p
  split at p
  · have e1 := r1.int_inv; have e2 := r2.int_inv; subst e1 e2
    exact op_add pins s σ H _ _ v u Q I rx ry ⟨_, _, rfl, rfl, p φ _ H .refl rl (.mk_int _)⟩
  · have e1 := r1.int_inv; have e2 := r2.int_inv; subst e1 e2
    exact op_sub pins s σ H _ _ v u Q I rx ry ⟨_, _, rfl, rfl, p φ _ H .refl rl (.mk_int _)⟩
  · have e1 := r1.int_inv; have e2 := r2.int_inv; subst e1 e2
    split at p
    · rename_i c
      refine op_mul pins s σ H _ _ v u Q I rx ry ⟨_, _, rfl, rfl, ?_, p φ _ H .refl rl (.mk_int _)⟩
      simp only [Bool.or_eq_true, Bool.and_eq_true, decide_eq_true_eq] at c
      exact c
    · exact p.elim
  · have e1 := r1.int_inv; have e2 := r2.int_inv; subst e1 e2
    split at p
    · rename_i c
      simp only [Bool.and_eq_true, decide_eq_true_eq] at c
      exact op_fdiv pins s σ H _ _ v u Q I rx ry ⟨_, _, rfl, rfl, c, p φ _ H .refl rl (.mk_int _)⟩
    · exact p.elim
  · have e1 := r1.int_inv; have e2 := r2.int_inv; subst e1 e2
    split at p
    · rename_i c
      exact op_mod pins s σ H _ _ v u Q I rx ry ⟨_, _, rfl, rfl, of_decide_eq_true c, p φ _ H .refl rl (.mk_int _)⟩
    · exact p.elim
  · have e1 := r1.int_inv; have e2 := r2.int_inv; subst e1 e2
    split at p
    · rename_i c
      simp only [Bool.and_eq_true, decide_eq_true_eq] at c
      exact op_pow pins s σ H _ _ v u Q I rx ry ⟨_, _, rfl, rfl, c, p φ _ H .refl rl (.mk_int _)⟩
    · exact p.elim
  · have e1 := r1.str_inv; have e2 := r2.str_inv; subst e1 e2
    split at p
    · rename_i c
      refine op_add_str pins s σ H _ _ v u Q I rx ry ⟨_, _, rfl, rfl, ?_, p φ _ H .refl rl (.mk_str _)⟩
      rw [sizeLine_eq]; exact of_decide_eq_true c
    · exact p.elim
  · obtain ⟨a, vs, rfl, h1, k1⟩ := r1.tup_inv
    obtain ⟨b, us, rfl, h2, k2⟩ := r2.tup_inv
    split at p
    · rename_i c
      have c' : vs.length + us.length ≤ sizeLine := by
        rw [sizeLine_eq, ← k1.length, ← k2.length]; exact of_decide_eq_true c
      refine op_catA pins s σ H _ _ v u Q I rx ry ⟨a, b, vs, us, rfl, rfl, tup_seq h1, tup_seq h2, c', fun e => ?_, fun _ e => ?_, fun _ _ q hq => ?_⟩
      · subst e
        have e3 := List.length_eq_zero_iff.mp k1.length
        subst e3
        exact p φ _ H .refl rl r2
      · subst e
        have e3 := List.length_eq_zero_iff.mp k2.length
        subst e3
        rw [List.append_nil] at p
        exact p φ _ H .refl rl r1
      · have x := Ex.side (o := .tup (vs ++ us)) rl hq
        exact p φ _ _ x (rl.side hq) (.mk_tup (rl.fr hq) (.inl upd_same) ((RVs.mono x _ _ k1).append (RVs.mono x _ _ k2)))
    · exact p.elim
  · obtain ⟨a, vs, rfl, n1, h1, k1⟩ := r1.lit_inv
    obtain ⟨b, us, rfl, n2, h2, k2⟩ := r2.lit_inv
    split at p
    · rename_i c
      have c' : vs.length + us.length ≤ sizeLine := by
        rw [sizeLine_eq, ← k1.length, ← k2.length]; exact of_decide_eq_true c
      refine op_cat pins s σ H _ _ v u Q I rx ry ⟨a, b, vs, us, rfl, rfl, h1, h2, c', fun q hq => ?_⟩
      have x := Ex.side (o := .lst (vs ++ us)) rl hq
      exact p φ _ _ x (rl.side hq) (.mk_lit (rl.fr hq) upd_same ((RVs.mono x _ _ k1).append (RVs.mono x _ _ k2)))
    · exact p.elim
  · obtain ⟨a, vs, rfl, n1, h1, k1⟩ := r1.lit_inv
    have e2 := r2.int_inv; subst e2
    split at p
    · rename_i c
      simp only [Bool.and_eq_true, decide_eq_true_eq, small] at c
      refine op_rep pins s σ H _ _ v u Q I rx ry ⟨a, _, vs, rfl, rfl, h1, by omega, by omega, by rw [sizeLine_eq, ← k1.length]; exact c.2, fun q hq => ?_⟩
      exact p φ _ _ (Ex.side rl hq) (rl.side hq) (.mk_lit (rl.fr hq) upd_same (RVs.rep (RVs.mono (Ex.side rl hq) _ _ k1) _))
    · exact p.elim
  · exact p.elim

/-! ### comparisons -/
/-- x in a list or tuple of data -/
theorem in_data (hu : X.A.units + 70 < cLine) {pins : List (Addr × Obj)} {s : Shared} {σ : L2.St} {H : Hp} {φ : List Addr} {w : W} {xs : List W} {x y : V} {v u : Value} {b : Bool} {vs : List V} {a : Addr} (I : L2.Inv X pins σ H s) (rx : RelV x v) (ry : RelV (.ref a) u)
    (r1 : RV X.K T φ H w x) (k : RVs X.K T φ H xs vs) (hs : SqL X.K H a vs ∨ SqT X.K H a vs) (h : Hb) (e : inD h w xs = some b) :
    (∀ Q : Value → Shared → Prop, Q (.bool b) s → wpAny (model X.prog X.w) X.A (compareOp .In v u) Q X.xe s) ∧
    (∀ Q : Value → Shared → Prop, Q (.bool (!b)) s → wpAny (model X.prog X.w) X.A (compareOp .NotIn v u) Q X.xe s) := by
  unfold inD at e
  split at e
  · rename_i d es q1 q2
    split at e
    · rename_i c
      rw [Bool.and_eq_true] at c
      cases e
      have hd : Dp X.K H x d := RV.dp _ _ _ q1 r1
      have he : DpAll X.K H vs es := RVs.dp _ _ _ q2 k
      obtain ⟨as, g1⟩ := Dp.reads I d x v hd rx
      have cl : PyData.canLayAll0 es = true := SeqAt.canLay_of_shaped c.2
      have rm := room_in_shaped (xs := es) c.1 (show X.A.units + 65 < cLine by omega)
      rcases hs with hs | hs
      · obtain ⟨bs, g2⟩ := Dp.reads I (.list es) (.ref a) u (.lst hs he) ry
        exact ⟨fun Q q => SeqAt.in_list_reads g2 g1 cl (SeqAt.canLay_of_shaped c.1) rm q, fun Q q => SeqAt.notIn_list_reads g2 g1 cl (SeqAt.canLay_of_shaped c.1) rm q⟩
      · obtain ⟨bs, g2⟩ := Dp.reads I (.tuple es) (.ref a) u (.tup hs he) ry
        exact ⟨fun Q q => SeqAt.in_tuple_reads g2 g1 cl (SeqAt.canLay_of_shaped c.1) rm q, fun Q q => SeqAt.notIn_tuple_reads g2 g1 cl (SeqAt.canLay_of_shaped c.1) rm q⟩
    · cases e
  · cases e
/-- x in y, both ways -/
theorem in_both (hu : X.A.units + 70 < cLine) {pins : List (Addr × Obj)} {s : Shared} {σ : L2.St} {H : Hp} {φ : List Addr} {h : Hb} {w1 w2 : W} {x y : V} {v u : Value} {b : Bool} (I : L2.Inv X pins σ H s) (rx : RelV x v) (ry : RelV y u)
    (rl : Rel X.K T φ H h) (r1 : RV X.K T φ H w1 x) (r2 : RV X.K T φ H w2 y) (e : isIn h w1 w2 = some b) :
    (∀ Q : Value → Shared → Prop, Q (.bool b) s → wpAny (model X.prog X.w) X.A (compareOp .In v u) Q X.xe s) ∧
    (∀ Q : Value → Shared → Prop, Q (.bool (!b)) s → wpAny (model X.prog X.w) X.A (compareOp .NotIn v u) Q X.xe s) := by
  unfold isIn at e
  split at e
  · obtain ⟨a, vs, rfl, h1, k⟩ := r2.tup_inv
    exact in_data (y := .ref a) hu I rx ry r1 k (.inr (tup_seq h1)) h e
  · obtain ⟨a, vs, rfl, n, h1, k⟩ := r2.lit_inv
    exact in_data (y := .ref a) hu I rx ry r1 k (.inl (SqL.of h1)) h e
  · obtain ⟨a, rfl, ha⟩ := r2.ref_inv
    split at e
    · rename_i xs q
      obtain ⟨vs, e1, k⟩ := rl.lst q ha
      exact in_data (y := .ref a) hu I rx ry r1 k (.inl (SqL.of e1)) h e
    · cases e
  · have e1 := r1.str_inv; have e2 := r2.str_inv; subst e1 e2
    cases e
    obtain ⟨t, rfl⟩ := rx
    obtain ⟨t', rfl⟩ := ry
    exact ⟨fun Q q => in_str q, fun Q q => notIn_str q⟩
  · cases e
theorem isN_of (w : W) {φ : List Addr} {H : Hp} {x : V} (r : RV X.K T φ H w x) : decide (x = .non) = w.isN := by
  cases w with
  | non => rw [r.non_inv]; rfl
  | bl b => rw [r.bl_inv]; rfl
  | int b => rw [r.int_inv]; rfl
  | str b => rw [r.str_inv]; rfl
  | tup xs => obtain ⟨a, _, rfl, _⟩ := r.tup_inv; rfl
  | lit xs => obtain ⟨a, _, rfl, _⟩ := r.lit_inv; rfl
  | rol xs => obtain ⟨a, _, rfl, _⟩ := r.rol_inv; rfl
  | obj c ns xs => simp only [RV] at r; obtain ⟨a, _, _, rfl, _⟩ := r; rfl
  | ref n => obtain ⟨a, rfl, _⟩ := r.ref_inv; rfl
/-- == and !=, as Y has them -/
theorem eq_ok (hu : X.A.units + 70 < cLine) {pins : List (Addr × Obj)} {s : Shared} {σ : L2.St} {H : Hp} {φ : List Addr} {h : Hb} {w1 w2 : W} {x y : V} {v u : Value} {b : Bool} {Q : VK} (I : L2.Inv X pins σ H s) (rx : RelV x v) (ry : RelV y u)
    (rl : Rel X.K T φ H h) (r1 : RV X.K T φ H w1 x) (r2 : RV X.K T φ H w2 y) (e : eqD h w1 w2 = some b) (q : Q (.bl b) H) : wpAny (model X.prog X.w) X.A (compareOp .Eq v u) (EP X pins σ Q) X.xe s := by
  unfold eqD at e
  split at e
  · have e1 := r1.str_inv; have e2 := r2.str_inv; subst e1 e2; cases e
    exact op_eq pins s σ H _ _ v u Q I rx ry ⟨rfl, by rw [dec_str, ← decide_eq_true_iff_beq]; exact q⟩
  · have e1 := r1.int_inv; have e2 := r2.int_inv; subst e1 e2; cases e
    exact op_eq pins s σ H _ _ v u Q I rx ry ⟨rfl, by rw [dec_int, ← decide_eq_true_iff_beq]; exact q⟩
  · have e1 := r1.bl_inv; have e2 := r2.bl_inv; subst e1 e2; cases e
    exact op_eq pins s σ H _ _ v u Q I rx ry ⟨rfl, by rw [dec_bl, ← decide_eq_true_iff_beq]; exact q⟩
  · unfold eqG at e
    split at e
    · rename_i d e0 q1 q2
      split at e
      · rename_i c
        rw [Bool.and_eq_true] at c
        cases e
        exact op_eqD (by omega) pins s σ H _ _ v u Q I rx ry ⟨d, e0, RV.dp_snap rl q1 r1, RV.dp_snap rl q2 r2, c.1, c.2, q⟩
      · cases e
    · cases e
theorem ne_ok (hu : X.A.units + 70 < cLine) {pins : List (Addr × Obj)} {s : Shared} {σ : L2.St} {H : Hp} {φ : List Addr} {h : Hb} {w1 w2 : W} {x y : V} {v u : Value} {b : Bool} {Q : VK} (I : L2.Inv X pins σ H s) (rx : RelV x v) (ry : RelV y u)
    (rl : Rel X.K T φ H h) (r1 : RV X.K T φ H w1 x) (r2 : RV X.K T φ H w2 y) (e : eqD h w1 w2 = some b) (q : Q (.bl (!b)) H) : wpAny (model X.prog X.w) X.A (compareOp .NotEq v u) (EP X pins σ Q) X.xe s := by
  unfold eqD at e
  split at e
  · have e1 := r1.str_inv; have e2 := r2.str_inv; subst e1 e2; cases e
    exact op_ne pins s σ H _ _ v u Q I rx ry ⟨rfl, by rw [dec_str, ← decide_eq_true_iff_beq]; exact q⟩
  · have e1 := r1.int_inv; have e2 := r2.int_inv; subst e1 e2; cases e
    exact op_ne pins s σ H _ _ v u Q I rx ry ⟨rfl, by rw [dec_int, ← decide_eq_true_iff_beq]; exact q⟩
  · have e1 := r1.bl_inv; have e2 := r2.bl_inv; subst e1 e2; cases e
    exact op_ne pins s σ H _ _ v u Q I rx ry ⟨rfl, by rw [dec_bl, ← decide_eq_true_iff_beq]; exact q⟩
  · unfold eqG at e
    split at e
    · rename_i d e0 q1 q2
      split at e
      · rename_i c
        rw [Bool.and_eq_true] at c
        cases e
        exact op_neD (by omega) pins s σ H _ _ v u Q I rx ry ⟨d, e0, RV.dp_snap rl q1 r1, RV.dp_snap rl q2 r2, c.1, c.2, q⟩
      · cases e
    · cases e
theorem opC (hu : X.A.units + 70 < cLine) (op : Cm) : OpR X (compareOp (cmP op)) (rB X.K T fun a b h => R.ofB (cmpop op a b h) h) := by
  intro pins s σ H x y v u Q I rx ry ⟨φ, h, w1, w2, rl, r1, r2, p⟩
  dsimp only at p
  cases hc : cmpop op w1 w2 h with
  | none => rw [hc] at p; exact p.elim
  | some b =>
  rw [hc] at p
  have q : Q (.bl b) H := p φ _ H .refl rl (.mk_bl _)
  unfold cmpop at hc
  split at hc
  · have e1 := r1.int_inv; have e2 := r2.int_inv; subst e1 e2; cases hc
    exact op_lt pins s σ H _ _ v u Q I rx ry ⟨_, _, rfl, rfl, q⟩
  · have e1 := r1.int_inv; have e2 := r2.int_inv; subst e1 e2; cases hc
    exact op_le pins s σ H _ _ v u Q I rx ry ⟨_, _, rfl, rfl, q⟩
  · have e1 := r1.int_inv; have e2 := r2.int_inv; subst e1 e2; cases hc
    exact op_gt pins s σ H _ _ v u Q I rx ry ⟨_, _, rfl, rfl, q⟩
  · have e1 := r1.int_inv; have e2 := r2.int_inv; subst e1 e2; cases hc
    exact op_ge pins s σ H _ _ v u Q I rx ry ⟨_, _, rfl, rfl, q⟩
  · have e1 := r1.str_inv; have e2 := r2.str_inv; subst e1 e2; cases hc
    exact op_lt_str pins s σ H _ _ v u Q I rx ry ⟨_, _, rfl, rfl, q⟩
  · have e1 := r1.str_inv; have e2 := r2.str_inv; subst e1 e2; cases hc
    exact op_le_str pins s σ H _ _ v u Q I rx ry ⟨_, _, rfl, rfl, q⟩
  · have e1 := r1.str_inv; have e2 := r2.str_inv; subst e1 e2; cases hc
    exact op_gt_str pins s σ H _ _ v u Q I rx ry ⟨_, _, rfl, rfl, q⟩
  · have e1 := r1.str_inv; have e2 := r2.str_inv; subst e1 e2; cases hc
    exact op_ge_str pins s σ H _ _ v u Q I rx ry ⟨_, _, rfl, rfl, q⟩
  · have e1 := r1.bl_inv; have e2 := r2.bl_inv; subst e1 e2; cases hc
    cases rx; cases ry
    rename_i a b
    exact le_bool (fin_bl I q (by cases a <;> cases b <;> rfl))
  · exact eq_ok hu I rx ry rl r1 r2 hc q
  · obtain ⟨b', e', rfl⟩ := Option.map_eq_some_iff.mp hc
    exact ne_ok hu I rx ry rl r1 r2 e' q
  · have e2 := r2.non_inv; subst e2; cases hc
    exact op_isN pins s σ H _ _ v u Q I rx ry ⟨rfl, by rw [isN_of _ r1]; exact q⟩
  · have e2 := r2.non_inv; subst e2; cases hc
    refine op_notN pins s σ H _ _ v u Q I rx ry ⟨rfl, ?_⟩
    rw [isN_of _ r1]
    exact q
  · have e1 := r1.bl_inv; have e2 := r2.bl_inv; subst e1 e2; cases hc
    exact op_is_bl pins s σ H _ _ v u Q I rx ry ⟨_, _, rfl, rfl, q⟩
  · have e1 := r1.bl_inv; have e2 := r2.bl_inv; subst e1 e2; cases hc
    exact op_isnot_bl pins s σ H _ _ v u Q I rx ry ⟨_, _, rfl, rfl, q⟩
  · exact (in_both hu I rx ry rl r1 r2 hc).1 _ ⟨.bl b, H, I, rfl, q⟩
  · obtain ⟨b', e', rfl⟩ := Option.map_eq_some_iff.mp hc
    exact (in_both hu I rx ry rl r1 r2 e').2 _ ⟨.bl _, H, I, rfl, q⟩
  · cases hc
end
end Y
/-! Y3: Python's expressions run as Y's. -/
namespace Y
open PySem PySem.Spec PyProof.Rows L2

section
variable {X : L2.Cx} {T : Tab} {Wx : WX} {C : Ctx} {σ : L2.St} {φ : List Addr} {H : Hp} {h : Hb} {σb : Sb}
/-- the expression e runs as e' -/
abbrev D (X : L2.Cx) (T : Tab) (Wx : WX) (C : Ctx) (e : Expr) (e' : E) : Prop := PE X e (tI X.K T Wx (evalE C e'))
/-- as a test -/
def tT (K : PySem.W.Frag) (T : Tab) (Wx : WX) (f : Sb → Hb → R W) : TT := fun σ H Q => tI K T Wx f σ H fun v H' => ∃ b, v = .bl b ∧ Q b H'
abbrev DT (X : L2.Cx) (T : Tab) (Wx : WX) (C : Ctx) (e : Expr) (e' : E) : Prop := PT X e (tT X.K T Wx (evalE C e'))
abbrev DA (X : L2.Cx) (T : Tab) (Wx : WX) (C : Ctx) (es : List Expr) (e' : E) : Prop := PA X es (tIA X.K T Wx (evalE C e'))

theorem rB_of {f : W → W → Hb → R W} {w1 w2 : W} {x y : V} {Q : VK} {Z : Value → Option Addr → Hp → Prop} (rl : Rel X.K T φ H h) (r1 : RV X.K T φ H w1 x) (r2 : RV X.K T φ H w2 y) (p : Post X.K T Z φ H (f w1 w2 h) Q) (nx : ∀ e h', f w1 w2 h ≠ .ex e h') :
    rB X.K T f x y H Q := ⟨φ, h, w1, w2, rl, r1, r2, by
  cases q : f w1 w2 h with
  | ok w h' => rw [q] at p; exact p
  | ex e h' => exact absurd q (nx e h')
  | no => rw [q] at p; exact p⟩
theorem binop_nx (op : Op) (a b : W) (h : Hb) : ∀ e h', binop op a b h ≠ .ex e h' := by
  intro e h' q
  unfold binop at q
  split at q <;> (try split at q) <;> cases q
theorem ofB_nx (o : Option Bool) (h : Hb) : ∀ e h', R.ofB o h ≠ .ex e h' := by
  intro e h' q
  unfold R.ofB at q
  split at q <;> cases q
theorem ofB_ok {o : Option Bool} {K : PySem.W.Frag} {Z : Value → Option Addr → Hp → Prop} {Q : VK} (rl : Rel K T φ H h) (p : Post K T Z φ H (R.ofB o h) Q) : ∃ b, o = some b ∧ Q (.bl b) H := by
  cases o with
  | none => exact p.elim
  | some b => exact ⟨b, rfl, p φ _ H .refl rl (.mk_bl _)⟩

/-! ### names and constants -/
theorem d_slot {i : Nat} {x : Str} {pos : Pos} (hN : X.N[i]? = some x) (hv : Vis X.env.scope x) (hd : (x == ("__debug__" : Str)) = false) (hcd : (x == ("__classdict__" : Str)) = false) : D X T Wx C (.Name x pos) (.slot i) := by
  refine (pe_var hN hv hd hcd).weak fun σ H Q ⟨φ, σb, h, s, rl, p⟩ => ?_
  simp only [evalE] at p
  split at p
  · rename_i w q
    obtain ⟨v, e, r⟩ := s.at_ i w q
    exact ⟨v, e, p φ v H .refl rl r⟩
  · exact p.elim
theorem d_int {i : Int} {j pos} : D X T Wx C (.Constant (.int i) j pos) (.int i) := pe_int.weak fun σ H Q ⟨φ, σb, h, s, rl, p⟩ => p φ _ H .refl rl (.mk_int _)
theorem d_bl {i : Bool} {j pos} : D X T Wx C (.Constant (.bool i) j pos) (.bl i) := pe_bl.weak fun σ H Q ⟨φ, σb, h, s, rl, p⟩ => p φ _ H .refl rl (.mk_bl _)
theorem d_str {i : Str} {j pos} : D X T Wx C (.Constant (.str i) j pos) (.str i) := pe_str.weak fun σ H Q ⟨φ, σb, h, s, rl, p⟩ => p φ _ H .refl rl (.mk_str _)
theorem d_non {j pos} : D X T Wx C (.Constant .none j pos) .non := pe_non.weak fun σ H Q ⟨φ, σb, h, s, rl, p⟩ => p φ _ H .refl rl .mk_non

/-! ### operators -/
variable {a b c : Expr} {ea eb ec : E} {pos : Pos}
theorem d_bin {op : Op} (ha : D X T Wx C a ea) (hb : D X T Wx C b eb) : D X T Wx C (.BinOp a (opP op) b pos) (.bin op ea eb) := by
  refine (pe_op (opB (T := T) op) ha hb).weak fun σ H Q ⟨φ, σb, h, s, rl, p⟩ => ?_
  simp only [evalE] at p
  refine tR_mono (tR_of s rl p) ?_
  rintro x H1 ⟨φ1, w1, h1, _, x1, s1, rl1, r1, p1⟩
  refine tR_mono (tR_of s1 rl1 p1) ?_
  rintro y H2 ⟨φ2, w2, h2, _, x2, s2, rl2, r2, p2⟩
  exact rB_of rl2 (RV.mono x2 _ _ r1) r2 p2 (binop_nx _ _ _ _)
theorem d_neg (ha : D X T Wx C a ea) : D X T Wx C (.UnaryOp .USub a pos) (.neg ea) := by
  refine (pe_un un_neg ha).weak fun σ H Q ⟨φ, σb, h, s, rl, p⟩ => ?_
  simp only [evalE] at p
  refine tR_mono (tR_of s rl p) ?_
  rintro x H1 ⟨φ1, w1, h1, _, x1, s1, rl1, r1, p1⟩
  split at p1
  · have e := r1.int_inv; subst e
    exact ⟨_, rfl, p1 φ1 _ H1 .refl rl1 (.mk_int _)⟩
  · exact p1.elim
theorem d_cmp_read {op : Cm} {Q : VK} (s : RS X.K T φ H σb σ) (rl : Rel X.K T φ H h) (p : Post X.K T (ZX Wx σ) φ H (evalE C (.cmp op ea eb) σb h) Q) :
    tOp (rB X.K T fun a b h => R.ofB (cmpop op a b h) h) (tI X.K T Wx (evalE C ea)) (tI X.K T Wx (evalE C eb)) σ H Q := by
  simp only [evalE] at p
  refine tR_mono (tR_of s rl p) ?_
  rintro x H1 ⟨φ1, w1, h1, _, x1, s1, rl1, r1, p1⟩
  refine tR_mono (tR_of s1 rl1 p1) ?_
  rintro y H2 ⟨φ2, w2, h2, _, x2, s2, rl2, r2, p2⟩
  exact rB_of (f := fun a b h => R.ofB (cmpop op a b h) h) rl2 (RV.mono x2 _ _ r1) r2 p2 (ofB_nx _ _)
theorem d_cmp (hu : X.A.units + 70 < cLine) {op : Cm} (ha : D X T Wx C a ea) (hb : D X T Wx C b eb) (hm : behindInMarks (cmP op) b = false) : D X T Wx C (.Compare a [cmP op] [b] pos) (.cmp op ea eb) :=
  (pe_cmpR (opC (T := T) hu op) ha hb hm).weak fun σ H Q ⟨φ, σb, h, s, rl, p⟩ => d_cmp_read s rl p
theorem dt_cmp (hu : X.A.units + 70 < cLine) {op : Cm} (ha : D X T Wx C a ea) (hb : D X T Wx C b eb) (hm : behindInMarks (cmP op) b = false) : DT X T Wx C (.Compare a [cmP op] [b] pos) (.cmp op ea eb) :=
  (pt_cmpR (opC (T := T) hu op) ha hb hm).weak fun σ H Q ⟨φ, σb, h, s, rl, p⟩ => d_cmp_read s rl p
theorem d_chn_read {o1 o2 : Cm} {Q : VK} (s : RS X.K T φ H σb σ) (rl : Rel X.K T φ H h) (p : Post X.K T (ZX Wx σ) φ H (evalE C (.chn o1 o2 ea eb ec) σb h) Q) :
    tChain (rB X.K T fun a b h => R.ofB (cmpop o1 a b h) h) (rB X.K T fun a b h => R.ofB (cmpop o2 a b h) h) (tI X.K T Wx (evalE C ea)) (tI X.K T Wx (evalE C eb)) (tI X.K T Wx (evalE C ec)) σ H Q := by
  simp only [evalE] at p
  refine tR_mono (tR_of s rl p) ?_
  rintro x H1 ⟨φ1, w1, h1, _, x1, s1, rl1, r1, p1⟩
  refine tR_mono (tR_of s1 rl1 p1) ?_
  rintro y H2 ⟨φ2, w2, h2, _, x2, s2, rl2, r2, p2⟩
  refine ⟨φ2, h2, w1, w2, rl2, RV.mono x2 _ _ r1, r2, ?_⟩
  split at p2
  · rename_i q
    dsimp only
    rw [q]
    intro φ3 v H3 x3 rl3 rv3
    have e := rv3.bl_inv; subst e
    refine ⟨true, rfl, ?_⟩
    rw [if_pos rfl]
    refine tR_mono (tR_of (s2.mono x3) rl3 (p2.ext x3)) ?_
    rintro z H4 ⟨φ4, w4, h4, _, x4, s4, rl4, r4, p4⟩
    exact rB_of (f := fun a b h => R.ofB (cmpop o2 a b h) h) rl4 (RV.mono (x3.trans x4) _ _ r2) r4 p4 (ofB_nx _ _)
  · rename_i q
    dsimp only
    rw [q]
    intro φ3 v H3 x3 rl3 rv3
    have e := rv3.bl_inv; subst e
    refine ⟨false, rfl, ?_⟩
    rw [if_neg Bool.false_ne_true]
    exact p2 φ3 _ H3 x3 rl3 (.mk_bl _)
  · exact p2.elim
theorem d_chn (hu : X.A.units + 70 < cLine) {o1 o2 : Cm} (ha : D X T Wx C a ea) (hb : D X T Wx C b eb) (hc : D X T Wx C c ec) (hm : lastMarks [cmP o1, cmP o2] [b, c] = false) : D X T Wx C (.Compare a [cmP o1, cmP o2] [b, c] pos) (.chn o1 o2 ea eb ec) :=
  (pe_chain (opC (T := T) hu o1) (opC (T := T) hu o2) ha hb hc hm).weak fun σ H Q ⟨φ, σb, h, s, rl, p⟩ => d_chn_read s rl p
theorem dt_chn (hu : X.A.units + 70 < cLine) {o1 o2 : Cm} (ha : D X T Wx C a ea) (hb : D X T Wx C b eb) (hc : D X T Wx C c ec) (hm : lastMarks [cmP o1, cmP o2] [b, c] = false) : DT X T Wx C (.Compare a [cmP o1, cmP o2] [b, c] pos) (.chn o1 o2 ea eb ec) :=
  (pt_chain (opC (T := T) hu o1) (opC (T := T) hu o2) ha hb hc hm).weak fun σ H Q ⟨φ, σb, h, s, rl, p⟩ => d_chn_read s rl p

/-! ### truth -/
theorem truth_ok {w : W} {x : V} {k : Bool} (rl : Rel X.K T φ H h) (r : RV X.K T φ H w x) (e : truth h w = some k) : TruV X.K x H k := by
  cases w with
  | non => rw [r.non_inv]; cases e; rfl
  | bl b => rw [r.bl_inv]; cases e; rfl
  | int i => rw [r.int_inv]; cases e; rfl
  | str s =>
    rw [r.str_inv]
    simp only [truth] at e
    split at e
    · rename_i c
      cases e
      exact ⟨by rw [sizeLine_eq]; exact of_decide_eq_true c, rfl⟩
    · cases e
  | tup xs =>
    obtain ⟨a, vs, rfl, h1, k1⟩ := r.tup_inv
    cases e
    exact .inr (.inl ⟨vs, tup_seq h1, by have := k1.length; cases xs <;> cases vs <;> simp_all⟩)
  | lit xs =>
    obtain ⟨a, vs, rfl, n, h1, k1⟩ := r.lit_inv
    cases e
    exact .inl ⟨vs, SqL.of h1, by have := k1.length; cases xs <;> cases vs <;> simp_all⟩
  | rol xs => cases e
  | obj c ns xs => cases e
  | ref n =>
    obtain ⟨a, rfl, ha⟩ := r.ref_inv
    simp only [truth] at e
    split at e
    · rename_i xs q
      obtain ⟨vs, e1, k1⟩ := rl.lst q ha
      cases e
      exact .inl ⟨vs, SqL.of e1, by have := k1.length; cases xs <;> cases vs <;> simp_all⟩
    · cases e
def plainT : Expr → Bool
  | .UnaryOp .Not _ _ => false
  | .BoolOp _ _ _ => false
  | .IfExp _ _ _ _ => false
  | .Compare _ _ _ _ => false
  | _ => true
theorem plainT_ok {e : Expr} (hp : plainT e = true) (env : Env) (whole : Sem Value) : isTrue e env whole = (do let v ← whole; standAt e.pos; holding [v] (truthy v)) := by
  cases e <;> first
    | rfl
    | (exfalso; exact Bool.false_ne_true hp)
    | (rename_i op x pos; cases op <;> first | rfl | (exfalso; exact Bool.false_ne_true hp))
theorem dt_tru (ha : D X T Wx C a ea) (hp : plainT a = true) : DT X T Wx C a (.tru ea) := by
  refine (pt_truth ha (plainT_ok hp X.env)).weak fun σ H Q ⟨φ, σb, h, s, rl, p⟩ => ?_
  simp only [evalE] at p
  refine tR_mono (tR_of s rl p) ?_
  rintro x H1 ⟨φ1, w1, h1, _, x1, s1, rl1, r1, p1⟩
  obtain ⟨k, e, b, e2, q⟩ := ofB_ok rl1 p1
  cases e2
  exact ⟨_, truth_ok rl1 r1 e, q⟩
/-- a test whose value is a truth already -/
theorem dt_val (ha : D X T Wx C a ea) (hp : plainT a = true) : DT X T Wx C a ea := by
  refine (pt_val ha (plainT_ok hp X.env)).weak fun σ H Q t => t
theorem d_nott (ha : D X T Wx C a ea) : D X T Wx C (.UnaryOp .Not a pos) (.tnot (.tru ea)) := by
  refine (pe_notT ha).weak fun σ H Q ⟨φ, σb, h, s, rl, p⟩ => ?_
  simp only [evalE] at p
  have p' : Post X.K T (ZX Wx σ) φ H ((evalE C ea σb h).bind fun x h1 => (R.ofB (truth h1 x) h1).bind fun x h1 => match x with | .bl b => .ok (.bl (!b)) h1 | _ => .no) Q := by
    cases q : evalE C ea σb h <;> rw [q] at p <;> exact p
  refine tR_mono (tR_of s rl p') ?_
  rintro x H1 ⟨φ1, w1, h1, _, x1, s1, rl1, r1, p1⟩
  cases e : truth h1 w1 with
  | none => rw [e] at p1; exact p1.elim
  | some k => rw [e] at p1; exact ⟨k, truth_ok rl1 r1 e, p1 φ1 _ H1 .refl rl1 (.mk_bl _)⟩
theorem d_or {rest : List Expr} (ha : D X T Wx C a ea) (hb : D X T Wx C (.BoolOp .Or (b :: rest) pos) eb) : D X T Wx C (.BoolOp .Or (a :: b :: rest) pos) (.or ea eb) := by
  refine (pe_orT ha hb).weak fun σ H Q ⟨φ, σb, h, s, rl, p⟩ => ?_
  simp only [evalE] at p
  refine tR_mono (tR_of s rl p) ?_
  rintro x H1 ⟨φ1, w1, h1, _, x1, s1, rl1, r1, p1⟩
  split at p1
  · rename_i e
    exact ⟨true, truth_ok rl1 r1 e, iteT (p1 φ1 _ H1 .refl rl1 r1)⟩
  · rename_i e
    exact ⟨false, truth_ok rl1 r1 e, iteF (⟨φ1, σb, h1, s1, rl1, p1⟩)⟩
  · exact p1.elim
theorem d_and {rest : List Expr} (ha : D X T Wx C a ea) (hb : D X T Wx C (.BoolOp .And (b :: rest) pos) eb) : D X T Wx C (.BoolOp .And (a :: b :: rest) pos) (.and ea eb) := by
  refine (pe_andT ha hb).weak fun σ H Q ⟨φ, σb, h, s, rl, p⟩ => ?_
  simp only [evalE] at p
  refine tR_mono (tR_of s rl p) ?_
  rintro x H1 ⟨φ1, w1, h1, _, x1, s1, rl1, r1, p1⟩
  split at p1
  · rename_i e
    exact ⟨true, truth_ok rl1 r1 e, iteT (⟨φ1, σb, h1, s1, rl1, p1⟩)⟩
  · rename_i e
    exact ⟨false, truth_ok rl1 r1 e, iteF (p1 φ1 _ H1 .refl rl1 r1)⟩
  · exact p1.elim
/-! ### tests -/
theorem dt_not (ha : DT X T Wx C a ea) : DT X T Wx C (.UnaryOp .Not a pos) (.tnot ea) := by
  refine (pt_not ha).weak fun σ H Q ⟨φ, σb, h, s, rl, p⟩ => ?_
  simp only [evalE] at p
  refine tR_mono (tR_of s rl p) ?_
  rintro x H1 ⟨φ1, w1, h1, _, x1, s1, rl1, r1, p1⟩
  split at p1
  · have e := r1.bl_inv; subst e
    obtain ⟨b, e, q⟩ := p1 φ1 _ H1 .refl rl1 (.mk_bl _)
    cases e
    exact ⟨_, rfl, q⟩
  · exact p1.elim
abbrev DW (X : L2.Cx) (T : Tab) (Wx : WX) (C : Ctx) (e : Expr) (e' : E) : Prop := PW X e (tT X.K T Wx (evalE C e'))
theorem dw_and1 (ha : DT X T Wx C a ea) : DW X T Wx C (.BoolOp .And [a] pos) ea := pw_and1 ha
theorem dw_or1 (ha : DT X T Wx C a ea) : DW X T Wx C (.BoolOp .Or [a] pos) ea := pw_or1 ha
theorem dw_and {rest : List Expr} (ha : DT X T Wx C a ea) (hb : DW X T Wx C (.BoolOp .And (b :: rest) pos) eb) : DW X T Wx C (.BoolOp .And (a :: b :: rest) pos) (.tand ea eb) := by
  refine (pw_and ha hb).weak fun σ H Q ⟨φ, σb, h, s, rl, p⟩ => ?_
  simp only [evalE] at p
  refine tR_mono (tR_of s rl p) ?_
  rintro x H1 ⟨φ1, w1, h1, _, x1, s1, rl1, r1, p1⟩
  split at p1
  · have e := r1.bl_inv; subst e
    exact ⟨true, rfl, iteT (⟨φ1, σb, h1, s1, rl1, p1⟩)⟩
  · have e := r1.bl_inv; subst e
    obtain ⟨b, e, q⟩ := p1 φ1 _ H1 .refl rl1 (.mk_bl _)
    cases e
    exact ⟨false, rfl, iteF (q)⟩
  · exact p1.elim
theorem dw_or {rest : List Expr} (ha : DT X T Wx C a ea) (hb : DW X T Wx C (.BoolOp .Or (b :: rest) pos) eb) : DW X T Wx C (.BoolOp .Or (a :: b :: rest) pos) (.tor ea eb) := by
  refine (pw_or ha hb).weak fun σ H Q ⟨φ, σb, h, s, rl, p⟩ => ?_
  simp only [evalE] at p
  refine tR_mono (tR_of s rl p) ?_
  rintro x H1 ⟨φ1, w1, h1, _, x1, s1, rl1, r1, p1⟩
  split at p1
  · have e := r1.bl_inv; subst e
    obtain ⟨b, e, q⟩ := p1 φ1 _ H1 .refl rl1 (.mk_bl _)
    cases e
    exact ⟨true, rfl, iteT (q)⟩
  · have e := r1.bl_inv; subst e
    exact ⟨false, rfl, iteF (⟨φ1, σb, h1, s1, rl1, p1⟩)⟩
  · exact p1.elim
theorem d_ite (hc : DT X T Wx C c ec) (ha : D X T Wx C a ea) (hb : D X T Wx C b eb) : D X T Wx C (.IfExp c a b pos) (.ite ec ea eb) := by
  refine (pe_ifExp hc ha hb).weak fun σ H Q ⟨φ, σb, h, s, rl, p⟩ => ?_
  simp only [evalE] at p
  refine tR_mono (tR_of s rl p) ?_
  rintro x H1 ⟨φ1, w1, h1, _, x1, s1, rl1, r1, p1⟩
  split at p1
  · have e := r1.bl_inv; subst e
    exact ⟨true, rfl, iteT (⟨φ1, σb, h1, s1, rl1, p1⟩)⟩
  · have e := r1.bl_inv; subst e
    exact ⟨false, rfl, iteF (⟨φ1, σb, h1, s1, rl1, p1⟩)⟩
  · exact p1.elim

/-! ### arguments, displays -/
theorem da_nil : DA X T Wx C [] .nil := pa_nil.weak fun σ H Q ⟨φ, σb, h, s, rl, p⟩ => p φ [] H .refl rl ⟨[], rfl, .nil⟩
def notStar : Expr → Bool
  | .Starred _ _ => false
  | _ => true
theorem starEach_of {e : Expr} {es : List Expr} {env : Env} (hs : notStar e = true) : starEach (e :: es) env = (false, eval e env) :: starEach es env := by
  cases e <;> first | rfl | (exfalso; exact Bool.false_ne_true hs)
theorem da_cons {es : List Expr} (ha : D X T Wx C a ea) (hr : DA X T Wx C es eb) (hs : notStar a = true) : DA X T Wx C (a :: es) (.cons ea eb) := by
  refine (pa_cons ha hr (starEach_of hs)).weak fun σ H Q ⟨φ, σb, h, s, rl, p⟩ => ?_
  simp only [evalE] at p
  refine tR_mono (tR_of s rl p) ?_
  rintro x H1 ⟨φ1, w1, h1, _, x1, s1, rl1, r1, p1⟩
  refine tR_mono (tR_of (Ru := RA X.K T) s1 rl1 p1) ?_
  rintro ys H2 ⟨φ2, w2, h2, _, x2, s2, rl2, ⟨ws, rfl, r2⟩, p2⟩
  exact p2 φ2 _ H2 .refl rl2 ⟨_, rfl, .cons (RV.mono x2 _ _ r1) r2⟩
theorem items_ok {w : W} {x : V} {ws : List W} (rl : Rel X.K T φ H h) (r : RV X.K T φ H w x) (e : items h w = some ws) : ∃ a vs, x = .ref a ∧ (SqL X.K H a vs ∨ SqT X.K H a vs) ∧ RVs X.K T φ H ws vs := by
  cases w with
  | tup xs =>
    obtain ⟨a, vs, rfl, h1, k1⟩ := r.tup_inv
    cases e; exact ⟨a, vs, rfl, .inr (tup_seq h1), k1⟩
  | lit xs =>
    obtain ⟨a, vs, rfl, n, h1, k1⟩ := r.lit_inv
    cases e; exact ⟨a, vs, rfl, .inl (SqL.of h1), k1⟩
  | rol xs =>
    obtain ⟨a, vs, rfl, h1, k1⟩ := r.rol_inv
    cases e; exact ⟨a, vs, rfl, .inl (lst_seq h1), k1⟩
  | ref n =>
    obtain ⟨a, rfl, ha⟩ := r.ref_inv
    simp only [items] at e
    split at e
    · rename_i xs q
      obtain ⟨vs, e1, k1⟩ := rl.lst q ha
      cases e; exact ⟨a, vs, rfl, .inl (SqL.of e1), k1⟩
    · cases e
  | non => cases e
  | bl _ => cases e
  | int _ => cases e
  | str _ => cases e
  | obj _ _ _ => cases e
theorem da_star {es : List Expr} {p0 : Pos} (ha : D X T Wx C a ea) (hr : DA X T Wx C es eb) : DA X T Wx C (.Starred a p0 :: es) (.star ea eb) := by
  refine (StX.pa_star ha hr).weak fun σ H Q ⟨φ, σb, h, s, rl, p⟩ => ?_
  simp only [evalE] at p
  refine tR_mono (tR_of s rl p) ?_
  rintro x H1 ⟨φ1, w1, h1, _, x1, s1, rl1, r1, p1⟩
  split at p1
  · rename_i xs q
    obtain ⟨a, vs, rfl, hq, k1⟩ := items_ok rl1 r1 q
    refine ⟨a, vs, rfl, hq.symm, ?_⟩
    refine tR_mono (tR_of (Ru := RA X.K T) s1 rl1 p1) ?_
    rintro ys H2 ⟨φ2, w2, h2, _, x2, s2, rl2, ⟨ws, rfl, r2⟩, p2⟩
    simp only at p2
    split at p2
    · exact p2 φ2 _ H2 .refl rl2 ⟨_, rfl, (RVs.mono x2 _ _ k1).append r2⟩
    · exact p2.elim
  · exact p1.elim
theorem d_tup {es : List Expr} {k : Nat} (ha : DA X T Wx C es ea) : D X T Wx C (.Tuple es k pos) (.tup ea) := by
  refine (pe_tup ha).weak fun σ H Q ⟨φ, σb, h, s, rl, p⟩ => ?_
  simp only [evalE] at p
  refine tR_mono (tR_of (Ru := RA X.K T) s rl p) ?_
  rintro vs H1 ⟨φ1, w1, h1, _, x1, s1, rl1, ⟨ws, rfl, r1⟩, p1⟩
  simp only at p1
  split at p1
  · rename_i c
    refine ⟨by rw [sizeLine_eq, ← r1.length]; exact of_decide_eq_true c, fun q hq => ?_⟩
    exact p1 φ1 _ _ (Ex.side rl1 hq) (rl1.side hq) (.mk_tup (rl1.fr hq) (.inl upd_same) (RVs.mono (Ex.side rl1 hq) _ _ r1))
  · exact p1.elim
theorem d_lst {es : List Expr} (ha : DA X T Wx C es ea) : D X T Wx C (.List es pos) (.lst ea) := by
  refine (pe_lst ha).weak fun σ H Q ⟨φ, σb, h, s, rl, p⟩ => ?_
  simp only [evalE] at p
  refine tR_mono (tR_of (Ru := RA X.K T) s rl p) ?_
  rintro vs H1 ⟨φ1, w1, h1, _, x1, s1, rl1, ⟨ws, rfl, r1⟩, p1⟩
  simp only at p1
  split at p1
  · rename_i c
    refine ⟨by rw [sizeLine_eq, ← r1.length]; exact of_decide_eq_true c, fun q hq => ?_⟩
    exact p1 φ1 _ _ (Ex.side rl1 hq) (rl1.side hq) (.mk_lit (rl1.fr hq) upd_same (RVs.mono (Ex.side rl1 hq) _ _ r1))
  · exact p1.elim
/-- a fresh list that may be changed later -/
theorem d_newlst {es : List Expr} (ha : DA X T Wx C es ea) : D X T Wx C (.List es pos) (.new (.lst ea)) := by
  refine (pe_lst ha).weak fun σ H Q ⟨φ, σb, h, s, rl, p⟩ => ?_
  simp only [evalE] at p
  have p' : Post X.K T (ZX Wx σ) φ H ((evalE C ea σb h).bind fun x h1 => (match x with | .tup xs => (if small xs.length then R.ok (.lit xs) h1 else .no) | _ => .no : R W).bind fun x h1 => match x with | .lit xs => .ok (.ref h1.length) (h1 ++ [.lst xs]) | _ => .no) Q := by
    cases q : evalE C ea σb h <;> rw [q] at p <;> exact p
  refine tR_mono (tR_of (Ru := RA X.K T) s rl p') ?_
  rintro vs H1 ⟨φ1, w1, h1, _, x1, s1, rl1, ⟨ws, rfl, r1⟩, p1⟩
  simp only at p1
  split at p1
  · rename_i c
    refine ⟨by rw [sizeLine_eq, ← r1.length]; exact of_decide_eq_true c, fun q hq => ?_⟩
    have x2 := Ex.grow (o := .lst vs) rl1 hq
    exact p1 _ _ _ x2 (rl1.grow (ob := .lst ws) hq ⟨vs, upd_same, RVs.mono x2 _ _ r1⟩) (by simp only [RV]; exact ⟨q, rfl, by rw [← rl1.len]; simp⟩)
  · exact p1.elim

/-! ### subscripts -/
def plainIx : Expr → Bool
  | .Slice _ _ _ _ => false
  | _ => true
theorem plainIx_ok {b : Expr} (h : plainIx b = true) : PlainIx b := fun o i => by
  cases b <;> first | rfl | (exfalso; exact Bool.false_ne_true h)
/-- an item -/
def rI1 (K : PySem.W.Frag) (T : Tab) : R2 := rB K T fun a b h => R.ofO (getIx h a b) h
theorem ofO_nx {α : Type} (o : Option α) (h : Hb) : ∀ e h', R.ofO o h ≠ .ex e h' := by
  intro e h' q
  unfold R.ofO at q
  split at q <;> cases q
theorem ixI : IxR X (rI1 X.K T) := by
  intro value slice pins s σ H x y v u Q I rx ry ⟨φ, h, w1, w2, rl, r1, r2, p⟩ hs
  dsimp only at p
  cases hc : getIx h w1 w2 with
  | none => rw [hc] at p; exact p.elim
  | some w =>
  rw [hc] at p
  have fin : ∀ z, RV X.K T φ H w z → Q z H := fun z r => p φ z H .refl rl r
  have seqL : ∀ {xs : List W} {i : Int} {a : Addr} {vs : List V}, x = .ref a → y = .int i → SqL X.K H a vs → RVs X.K T φ H xs vs → ((L2.ixN xs.length i).bind fun j => xs[j]?) = some w →
      wpAny (model X.prog X.w) X.A (subscriptTail value slice v u) (EP X pins σ Q) X.xe s := by
    intro xs i a vs e1 e2 hq k e
    obtain ⟨j, hj, hw⟩ := Option.bind_eq_some_iff.mp e
    obtain ⟨z, hz, rz⟩ := k.get hw
    exact ix_list value slice pins s σ H x y v u Q I rx ry ⟨a, vs, i, z, e1, e2, hq, by unfold atI; rw [← k.length, hj]; exact hz, fin z rz⟩ hs
  have seqT : ∀ {xs : List W} {i : Int} {a : Addr} {vs : List V}, x = .ref a → y = .int i → SqT X.K H a vs → RVs X.K T φ H xs vs → ((L2.ixN xs.length i).bind fun j => xs[j]?) = some w →
      wpAny (model X.prog X.w) X.A (subscriptTail value slice v u) (EP X pins σ Q) X.xe s := by
    intro xs i a vs e1 e2 hq k e
    obtain ⟨j, hj, hw⟩ := Option.bind_eq_some_iff.mp e
    obtain ⟨z, hz, rz⟩ := k.get hw
    exact ix_tup value slice pins s σ H x y v u Q I rx ry ⟨a, vs, i, z, e1, e2, hq, by unfold atI; rw [← k.length, hj]; exact hz, fin z rz⟩ hs
  unfold getIx at hc
  split at hc
  · obtain ⟨a, vs, e1, h1, k⟩ := r1.tup_inv
    exact seqT e1 r2.int_inv (tup_seq h1) k hc
  · obtain ⟨a, vs, e1, n, h1, k⟩ := r1.lit_inv
    exact seqL e1 r2.int_inv (SqL.of h1) k hc
  · obtain ⟨a, vs, e1, h1, k⟩ := r1.rol_inv
    exact seqL e1 r2.int_inv (lst_seq h1) k hc
  · obtain ⟨a, e1, ha⟩ := r1.ref_inv
    split at hc
    · rename_i xs q
      obtain ⟨vs, e3, k⟩ := rl.lst q ha
      exact seqL e1 r2.int_inv (SqL.of e3) k hc
    · cases hc
  · split at hc
    · rename_i c
      obtain ⟨z, hz, e⟩ := Option.map_eq_some_iff.mp hc
      subst e
      exact ix_str value slice pins s σ H x y v u Q I rx ry ⟨_, _, z, r1.str_inv, r2.int_inv, by rw [sizeLine_eq]; exact of_decide_eq_true c, hz, fin _ (.mk_str _)⟩ hs
    · cases hc
  · cases hc
theorem d_ix (ha : D X T Wx C a ea) (hb : D X T Wx C b eb) (hs : plainIx b = true) : D X T Wx C (.Subscript a b pos) (.ix ea eb) := by
  refine (pe_ix (ixI (T := T)) ha hb (plainIx_ok hs)).weak fun σ H Q ⟨φ, σb, h, s, rl, p⟩ => ?_
  simp only [evalE] at p
  refine tR_mono (tR_of s rl p) ?_
  rintro x H1 ⟨φ1, w1, h1, _, x1, s1, rl1, r1, p1⟩
  refine tR_mono (tR_of s1 rl1 p1) ?_
  rintro y H2 ⟨φ2, w2, h2, _, x2, s2, rl2, r2, p2⟩
  exact rB_of (f := fun a b h => R.ofO (getIx h a b) h) rl2 (RV.mono x2 _ _ r1) r2 p2 (ofO_nx _ _)
/-! slices -/
def rCut (K : PySem.W.Frag) (T : Tab) : V → Option Int → Option Int → Hp → VK → Prop := fun x lo hi H Q =>
  ∃ φ h w, Rel K T φ H h ∧ RV K T φ H w x ∧ Post K T Z0 φ H (R.ofO (getCut h w lo hi) h) Q
theorem RVs.cut {K : PySem.W.Frag} {ws : List W} {vs : List V} {lo hi : Option Int} (k : RVs K T φ H ws vs) : RVs K T φ H (cutW ws lo hi) (L2.cutV vs lo hi) := by
  unfold cutW L2.cutV
  rw [k.length]
  exact RVs.take _ (RVs.drop _ k)
theorem cutW_all {ws : List W} {lo hi : Option Int} (c1 : HT.sIx ws.length 0 lo = 0) (c2 : HT.sIx ws.length ws.length hi = ws.length) : cutW ws lo hi = ws := by
  unfold cutW
  rw [c1, c2, List.drop_zero, Nat.sub_zero, List.take_length]
theorem slI : SlR X (rCut X.K T) := by
  intro pins s σ H x v vl vu lo hi sl Q I rx hs pl pu ⟨φ, h, w, rl, r, p⟩
  cases hc : getCut h w lo hi with
  | none => rw [hc] at p; exact p.elim
  | some w' =>
  rw [hc] at p
  unfold getCut at hc
  split at hc
  · obtain ⟨a, vs, rfl, h1, k⟩ := r.tup_inv
    cases hc
    refine sl_tupA pins s σ H _ v vl vu lo hi sl Q I rx hs pl pu ⟨a, vs, rfl, tup_seq h1, fun ⟨c1, c2⟩ => ?_, fun _ q hq => ?_⟩
    · refine p φ _ H .refl rl ?_
      rw [cutW_all (by rw [k.length]; exact c1) (by rw [k.length]; exact c2)]; exact r
    · exact p φ _ _ (Ex.side rl hq) (rl.side hq) (.mk_tup (rl.fr hq) (.inl upd_same) (RVs.mono (Ex.side rl hq) _ _ k.cut))
  · obtain ⟨a, vs, rfl, n, h1, k⟩ := r.lit_inv
    cases hc
    refine sl_list pins s σ H _ v vl vu lo hi sl Q I rx hs pl pu ⟨a, vs, rfl, SqL.of h1, fun q hq => ?_⟩
    exact p φ _ _ (Ex.side rl hq) (rl.side hq) (.mk_lit (rl.fr hq) upd_same (RVs.mono (Ex.side rl hq) _ _ k.cut))
  · obtain ⟨a, vs, rfl, h1, k⟩ := r.rol_inv
    cases hc
    refine sl_list pins s σ H _ v vl vu lo hi sl Q I rx hs pl pu ⟨a, vs, rfl, lst_seq h1, fun q hq => ?_⟩
    exact p φ _ _ (Ex.side rl hq) (rl.side hq) (.mk_lit (rl.fr hq) upd_same (RVs.mono (Ex.side rl hq) _ _ k.cut))
  · obtain ⟨a, rfl, ha⟩ := r.ref_inv
    split at hc
    · rename_i xs q
      obtain ⟨vs, h1, k⟩ := rl.lst q ha
      cases hc
      refine sl_list pins s σ H _ v vl vu lo hi sl Q I rx hs pl pu ⟨a, vs, rfl, SqL.of h1, fun q hq => ?_⟩
      exact p φ _ _ (Ex.side rl hq) (rl.side hq) (.mk_lit (rl.fr hq) upd_same (RVs.mono (Ex.side rl hq) _ _ k.cut))
    · cases hc
  · have e := r.str_inv; subst e
    split at hc
    · rename_i c
      cases hc
      exact C8.sl_txt pins s σ H _ v vl vu lo hi sl Q I rx hs pl pu ⟨_, rfl, by rw [sizeLine_eq]; exact of_decide_eq_true c, p φ _ H .refl rl (.mk_str _)⟩
    · cases hc
  · cases hc
/-- a part of a slice: left out, or an expression -/
inductive DP (X : L2.Cx) (T : Tab) (Wx : WX) (C : Ctx) : Option Expr → E → Prop where
  | no : DP X T Wx C none .non
  | yes {e : Expr} {e' : E} (h : D X T Wx C e e') (n : ∀ w : W, optP e' w = match w with | .int i => some (some i) | _ => none) : DP X T Wx C (some e) e'
/-- its reading -/
theorem DP.po {e : Option Expr} {e' : E} (d : DP X T Wx C e e') : ∃ t, PO X e t ∧ ∀ {φ : List Addr} {H : Hp} {h : Hb} {σb : Sb} {σ : L2.St} {g : W → Hb → R W} {Q : VK} {k : Option Int → Hp → Prop}, RS X.K T φ H σb σ → Rel X.K T φ H h → Post X.K T (ZX Wx σ) φ H ((evalE C e' σb h).bind g) Q →
    (∀ φ1 H1 h1 w o, Ex X.K φ φ1 H H1 → RS X.K T φ1 H1 σb σ → Rel X.K T φ1 H1 h1 → (∀ o', optP e' w = some o' → o' = o) → Post X.K T (ZX Wx σ) φ1 H1 (g w h1) Q → (o = none ∨ ∃ i, o = some i) → k o H1) →
    (∀ φ1 H1 h1 w, Ex X.K φ φ1 H H1 → RS X.K T φ1 H1 σb σ → Rel X.K T φ1 H1 h1 → optP e' w = none → Post X.K T (ZX Wx σ) φ1 H1 (g w h1) Q → False) → t σ H k := by
  cases d with
  | no =>
    refine ⟨_, po_none, fun {φ H h σb σ g Q k} s rl p f nf => ?_⟩
    exact f φ H h .non none .refl s rl (fun o' e => by cases e; rfl) p (.inl rfl)
  | yes hd n =>
    refine ⟨_, po_some hd, fun {φ H h σb σ g Q k} s rl p f nf => ?_⟩
    refine tR_mono (tR_of s rl p) ?_
    rintro x H1 ⟨φ1, w1, h1, _, x1, s1, rl1, r1, p1⟩
    cases w1 with
    | int i =>
      have e := r1.int_inv; subst e
      exact ⟨i, rfl, f φ1 H1 h1 (.int i) (some i) x1 s1 rl1 (fun o' e => by rw [n] at e; cases e; rfl) p1 (.inr ⟨i, rfl⟩)⟩
    | _ => exact (nf φ1 H1 h1 _ x1 s1 rl1 (by rw [n]) p1).elim
theorem d_cut {lo hi : Option Expr} {el eh : E} {p2 : Pos} (ha : D X T Wx C a ea) (hl : DP X T Wx C lo el) (hh : DP X T Wx C hi eh) : D X T Wx C (.Subscript a (.Slice lo hi none p2) pos) (.cut ea el eh) := by
  obtain ⟨tl, pl, rl_⟩ := hl.po
  obtain ⟨th, ph, rh_⟩ := hh.po
  refine (pe_slice (slI (T := T)) ha pl ph).weak fun σ H Q ⟨φ, σb, h, s, rl, p⟩ => ?_
  simp only [evalE] at p
  refine tR_mono (tR_of s rl p) ?_
  rintro x H1 ⟨φ1, w1, h1, _, x1, s1, rl1, r1, p1⟩
  refine rl_ s1 rl1 p1 (fun φ2 H2 h2 w2 o x2 s2 rl2 ho p2 _ => ?_) (fun φ2 H2 h2 w2 x2 s2 rl2 ho p2 => ?_)
  · split at p2
    · rename_i l q1
      have e1 := ho _ q1
      subst e1
      refine rh_ s2 rl2 p2 (fun φ3 H3 h3 w3 o3 x3 s3 rl3 ho3 p3 _ => ?_) (fun φ3 H3 h3 w3 x3 s3 rl3 ho3 p3 => ?_)
      · split at p3
        · rename_i u q2
          have e2 := ho3 _ q2
          subst e2
          refine ⟨φ3, h3, w1, rl3, RV.mono (x2.trans x3) _ _ r1, ?_⟩
          cases q : getCut h3 w1 l u with
          | none => rw [q] at p3; exact p3.elim
          | some w => rw [q] at p3; exact p3
        · exact p3.elim
      · rw [ho3] at p3
        exact p3.elim
    · exact p2.elim
  · rw [ho] at p2
    exact p2.elim
/-! ### fresh lists, to be changed later -/
/-- a list just made, tracked -/
theorem grown {K : PySem.W.Frag} {T : Tab} {φ : List Addr} {H : Hp} {h : Hb} {q : Addr} {ws : List W} {vs : List V} {Z : Value → Option Addr → Hp → Prop} {Q : VK} (rl : Rel K T φ H h) (hq : H q = none) (k : RVs K T φ H ws vs) (p : Post K T Z φ H (.ok (.ref h.length) (h ++ [.lst ws])) Q) : Q (.ref q) (upd H q (.lst vs)) := by
  have x2 := Ex.grow (o := .lst vs) rl hq
  exact p _ _ _ x2 (rl.grow (ob := .lst ws) hq ⟨vs, upd_same, RVs.mono x2 _ _ k⟩) (by simp only [RV]; exact ⟨q, rfl, by rw [← rl.len]; simp⟩)
def asNew (r : R W) : R W := match r with
  | .ok (.lit xs) h => .ok (.ref h.length) (h ++ [.lst xs])
  | .ok _ _ => .no
  | .ex x h => .ex x h
  | .no => .no
theorem evalE_new (C : Ctx) (e : E) (σ : Sb) (h : Hb) : evalE C (.new e) σ h = asNew (evalE C e σ h) := by
  rw [evalE]
  cases evalE C e σ h with
  | ok w h' => cases w <;> rfl
  | ex x h' => rfl
  | no => rfl
theorem asNew_bind {r : R W} {g : W → Hb → R W} : asNew (r.bind g) = r.bind fun w h => asNew (g w h) := by cases r <;> rfl
theorem asNew_nx {r : R W} (n : ∀ e h', r ≠ .ex e h') : ∀ e h', asNew r ≠ .ex e h' := fun e h' q => by
  cases r with
  | ok w h => cases w <;> cases q
  | ex x h => exact n x h rfl
  | no => cases q
theorem opBN (op : Op) : OpR X (binaryOp (opP op)) (rB X.K T fun a b h => asNew (binop op a b h)) := by
  intro pins s σ H x y v u Q I rx ry ⟨φ, h, w1, w2, rl, r1, r2, p⟩
  dsimp only at p
  unfold binop at p
  split at p
  case h_9 a b =>
    obtain ⟨p1, vs, rfl, n1, h1, k1⟩ := r1.lit_inv
    obtain ⟨p2, us, rfl, n2, h2, k2⟩ := r2.lit_inv
    split at p
    · rename_i c
      have c' : vs.length + us.length ≤ sizeLine := by
        rw [sizeLine_eq, ← k1.length, ← k2.length]; exact of_decide_eq_true c
      exact op_cat pins s σ H _ _ v u Q I rx ry ⟨p1, p2, vs, us, rfl, rfl, h1, h2, c', fun q hq => grown rl hq (k1.append k2) p⟩
    · exact p.elim
  case h_10 a k =>
    obtain ⟨p1, vs, rfl, n1, h1, k1⟩ := r1.lit_inv
    have e2 := r2.int_inv; subst e2
    split at p
    · rename_i c
      simp only [Bool.and_eq_true, decide_eq_true_eq, small] at c
      exact op_rep pins s σ H _ _ v u Q I rx ry ⟨p1, _, vs, rfl, rfl, h1, by omega, by omega, by rw [sizeLine_eq, ← k1.length]; exact c.2, fun q hq => grown rl hq (RVs.rep k1 _) p⟩
    · exact p.elim
  all_goals first
    | exact p.elim
    | (split at p <;> exact p.elim)
theorem d_newbin {op : Op} (ha : D X T Wx C a ea) (hb : D X T Wx C b eb) : D X T Wx C (.BinOp a (opP op) b pos) (.new (.bin op ea eb)) := by
  refine (pe_op (opBN (T := T) op) ha hb).weak fun σ H Q ⟨φ, σb, h, s, rl, p⟩ => ?_
  rw [evalE_new] at p
  simp only [evalE, asNew_bind] at p
  refine tR_mono (tR_of s rl p) ?_
  rintro x H1 ⟨φ1, w1, h1, _, x1, s1, rl1, r1, p1⟩
  refine tR_mono (tR_of s1 rl1 p1) ?_
  rintro y H2 ⟨φ2, w2, h2, _, x2, s2, rl2, r2, p2⟩
  exact rB_of (f := fun a b h => asNew (binop op a b h)) rl2 (RV.mono x2 _ _ r1) r2 p2 (asNew_nx (binop_nx _ _ _ _))
end
end Y
/-! Y4: built-in functions and methods, called. -/
namespace Y
open PySem PySem.Spec PyProof.Rows L2

/-! ### sorting: the one sorted arrangement -/
theorem insI_perm (i : Int) : ∀ l : List Int, (insI i l).Perm (i :: l)
  | [] => .refl _
  | j :: r => by
    unfold insI
    split
    · exact .refl _
    · exact ((insI_perm i r).cons j).trans (.swap i j r)
theorem sortI_perm : ∀ l : List Int, (sortI l).Perm l
  | [] => .refl _
  | i :: r => (insI_perm i (sortI r)).trans ((sortI_perm r).cons i)
theorem insI_sorted (i : Int) : ∀ l : List Int, l.Pairwise (· ≤ ·) → (insI i l).Pairwise (· ≤ ·)
  | [], _ => by simp [insI]
  | j :: r, h => by
    unfold insI
    rw [List.pairwise_cons] at h
    split
    · rename_i c
      refine List.pairwise_cons.mpr ⟨fun k hk => ?_, List.pairwise_cons.mpr h⟩
      rcases List.mem_cons.mp hk with e | hk
      · rw [e]; exact c
      · exact Int.le_trans c (h.1 k hk)
    · rename_i c
      refine List.pairwise_cons.mpr ⟨fun k hk => ?_, insI_sorted i r h.2⟩
      rcases List.mem_cons.mp ((insI_perm i r).mem_iff.mp hk) with e | hk
      · rw [e]; omega
      · exact h.1 k hk
theorem sortI_sorted : ∀ l : List Int, (sortI l).Pairwise (· ≤ ·)
  | [] => List.Pairwise.nil
  | i :: r => insI_sorted i _ (sortI_sorted r)
/-- two arrangements by one order that tells unlike things apart -/
theorem sorted_unique {α : Type} {R : α → α → Prop} (anti : ∀ a b, R a b → R b a → a = b) : ∀ {l m : List α}, l.Perm m → l.Pairwise R → m.Pairwise R → l = m
  | [], m, p, _, _ => (List.nil_perm.mp p).symm ▸ rfl
  | a :: l, [], p, _, _ => by cases (List.perm_nil.mp p)
  | a :: l, b :: m, p, h1, h2 => by
    rw [List.pairwise_cons] at h1 h2
    have e : a = b := by
      rcases List.mem_cons.mp (p.mem_iff.mp List.mem_cons_self) with e | ha
      · exact e
      · rcases List.mem_cons.mp (p.symm.mem_iff.mp List.mem_cons_self) with e | hb
        · exact e.symm
        · exact anti a b (h1.1 b hb) (h2.1 a ha)
    subst e
    rw [sorted_unique anti p.cons_inv h1.2 h2.2]
theorem sortI_unique {l m : List Int} (p : l.Perm m) (h : l.Pairwise (· ≤ ·)) : l = sortI m :=
  sorted_unique (fun a b => Int.le_antisymm) (p.trans (sortI_perm m).symm) h (sortI_sorted m)
theorem insS_perm (i : Str) : ∀ l : List Str, (insS i l).Perm (i :: l)
  | [] => .refl _
  | j :: r => by
    unfold insS
    split
    · exact .refl _
    · exact ((insS_perm i r).cons j).trans (.swap i j r)
theorem sortS_perm : ∀ l : List Str, (sortS l).Perm l
  | [] => .refl _
  | i :: r => (insS_perm i (sortS r)).trans ((sortS_perm r).cons i)
theorem leS_total {a b : Str} (h : leS a b = false) : leS b a = true := by
  unfold leS at h ⊢
  have h' : b.cps.toList < a.cps.toList := by simpa using h
  simp only [Bool.not_eq_true', decide_eq_false_iff_not]
  exact List.lt_asymm h'
theorem leS_trans {a b c : Str} (h : leS a b = true) (k : leS b c = true) : leS a c = true := by
  unfold leS at h k ⊢
  simp only [Bool.not_eq_true', decide_eq_false_iff_not] at h k ⊢
  have h' : a.cps.toList ≤ b.cps.toList := h
  have k' : b.cps.toList ≤ c.cps.toList := k
  exact List.le_trans h' k'
theorem leS_anti {a b : Str} (h : leS a b = true) (k : leS b a = true) : a = b := by
  unfold leS at h k
  simp only [Bool.not_eq_true', decide_eq_false_iff_not] at h k
  have h' : a.cps.toList ≤ b.cps.toList := h
  have k' : b.cps.toList ≤ a.cps.toList := k
  have e := List.le_antisymm h' k'
  obtain ⟨⟨x⟩⟩ := a
  obtain ⟨⟨y⟩⟩ := b
  cases e
  rfl
theorem insS_sorted (i : Str) : ∀ l : List Str, l.Pairwise (fun a b => leS a b = true) → (insS i l).Pairwise (fun a b => leS a b = true)
  | [], _ => by simp [insS]
  | j :: r, h => by
    unfold insS
    rw [List.pairwise_cons] at h
    split
    · rename_i c
      refine List.pairwise_cons.mpr ⟨fun k hk => ?_, List.pairwise_cons.mpr h⟩
      rcases List.mem_cons.mp hk with e | hk
      · rw [e]; exact c
      · exact leS_trans c (h.1 k hk)
    · rename_i c
      refine List.pairwise_cons.mpr ⟨fun k hk => ?_, insS_sorted i r h.2⟩
      rcases List.mem_cons.mp ((insS_perm i r).mem_iff.mp hk) with e | hk
      · rw [e]; exact leS_total (by simpa using c)
      · exact h.1 k hk
theorem sortS_sorted : ∀ l : List Str, (sortS l).Pairwise (fun a b => leS a b = true)
  | [] => List.Pairwise.nil
  | i :: r => insS_sorted i _ (sortS_sorted r)
theorem ltCps_lt : ∀ l m : List Nat, PySem.Spec.ltCps l m = decide (l < m)
  | [], [] => by simp [PySem.Spec.ltCps]
  | [], _ :: _ => by simp [PySem.Spec.ltCps]
  | _ :: _, [] => by simp [PySem.Spec.ltCps]
  | a :: r, b :: t => by
    rw [PySem.Spec.ltCps, ltCps_lt r t, Bool.eq_iff_iff]
    simp [List.cons_lt_cons_iff]
theorem risingS_pw : ∀ (l : List Str) (p : Str), risingS p l = true → (p :: l).Pairwise (fun a b => leS a b = true)
  | [], p, _ => by simp
  | x :: r, p, h => by
    unfold risingS at h
    rw [Bool.and_eq_true] at h
    have ih := risingS_pw r x h.2
    refine List.pairwise_cons.mpr ⟨fun k hk => ?_, ih⟩
    have c : leS p x = true := by
      unfold leS
      have := h.1
      rw [ltCps_lt] at this
      exact this
    rcases List.mem_cons.mp hk with e | hk
    · rw [e]; exact c
    · exact leS_trans c ((List.pairwise_cons.mp ih).1 k hk)
theorem sortedS_unique {l m : List Str} (p : l.Perm m) (h : PyProof.Rows.sortedS l = true) : l = sortS m := by
  refine sorted_unique (fun a b => leS_anti) (p.trans (sortS_perm m).symm) ?_ (sortS_sorted m)
  cases l with
  | nil => exact List.Pairwise.nil
  | cons x r => exact risingS_pw r x h

/-! ### lists of one kind -/
section
variable {K : PySem.W.Frag} {T : Tab} {φ : List Addr} {H : Hp}
theorem intsW_map : ∀ {xs : List W} {is : List Int}, intsW xs = some is → xs = is.map W.int
  | [], is, e => by cases e; rfl
  | .int i :: r, is, e => by
    simp only [intsW] at e
    obtain ⟨js, e1, rfl⟩ := Option.map_eq_some_iff.mp e
    rw [intsW_map e1]; rfl
  | .non :: _, _, e => by cases e
  | .bl _ :: _, _, e => by cases e
  | .str _ :: _, _, e => by cases e
  | .tup _ :: _, _, e => by cases e
  | .lit _ :: _, _, e => by cases e
  | .rol _ :: _, _, e => by cases e
  | .obj _ _ _ :: _, _, e => by cases e
  | .ref _ :: _, _, e => by cases e
theorem strsW_map : ∀ {xs : List W} {is : List Str}, strsW xs = some is → xs = is.map W.str
  | [], is, e => by cases e; rfl
  | .str i :: r, is, e => by
    simp only [strsW] at e
    obtain ⟨js, e1, rfl⟩ := Option.map_eq_some_iff.mp e
    rw [strsW_map e1]; rfl
  | .non :: _, _, e => by cases e
  | .bl _ :: _, _, e => by cases e
  | .int _ :: _, _, e => by cases e
  | .tup _ :: _, _, e => by cases e
  | .lit _ :: _, _, e => by cases e
  | .rol _ :: _, _, e => by cases e
  | .obj _ _ _ :: _, _, e => by cases e
  | .ref _ :: _, _, e => by cases e
theorem truthsW_map : ∀ {xs : List W} {is : List Bool}, truthsW xs = some is → xs = is.map W.bl
  | [], is, e => by cases e; rfl
  | .bl i :: r, is, e => by
    simp only [truthsW] at e
    obtain ⟨js, e1, rfl⟩ := Option.map_eq_some_iff.mp e
    rw [truthsW_map e1]; rfl
  | .non :: _, _, e => by cases e
  | .str _ :: _, _, e => by cases e
  | .int _ :: _, _, e => by cases e
  | .tup _ :: _, _, e => by cases e
  | .lit _ :: _, _, e => by cases e
  | .rol _ :: _, _, e => by cases e
  | .obj _ _ _ :: _, _, e => by cases e
  | .ref _ :: _, _, e => by cases e
theorem RVs.ints : ∀ {is : List Int} {vs : List V}, RVs K T φ H (is.map W.int) vs → vs = is.map V.int
  | [], vs, h => by simpa only [List.map_nil, RVs] using h
  | i :: is, vs, h => by
    simp only [List.map_cons, RVs] at h
    obtain ⟨v, r, rfl, h1, h2⟩ := h
    rw [h1.int_inv, RVs.ints h2]; rfl
theorem RVs.strs_ : ∀ {is : List Str} {vs : List V}, RVs K T φ H (is.map W.str) vs → vs = is.map V.str
  | [], vs, h => by simpa only [List.map_nil, RVs] using h
  | i :: is, vs, h => by
    simp only [List.map_cons, RVs] at h
    obtain ⟨v, r, rfl, h1, h2⟩ := h
    rw [h1.str_inv, RVs.strs_ h2]; rfl
theorem RVs.bls : ∀ {is : List Bool} {vs : List V}, RVs K T φ H (is.map W.bl) vs → vs = is.map V.bl
  | [], vs, h => by simpa only [List.map_nil, RVs] using h
  | i :: is, vs, h => by
    simp only [List.map_cons, RVs] at h
    obtain ⟨v, r, rfl, h1, h2⟩ := h
    rw [h1.bl_inv, RVs.bls h2]; rfl
theorem RVs.mk_ints : ∀ (is : List Int), RVs K T φ H (is.map W.int) (is.map V.int)
  | [] => .nil
  | i :: is => .cons (.mk_int i) (RVs.mk_ints is)
theorem RVs.mk_strs : ∀ (is : List Str), RVs K T φ H (is.map W.str) (is.map V.str)
  | [] => .nil
  | i :: is => .cons (.mk_str i) (RVs.mk_strs is)
theorem RVs.one {w : W} {vs : List V} (h : RVs K T φ H [w] vs) : ∃ v, vs = [v] ∧ RV K T φ H w v := by
  simp only [RVs] at h
  obtain ⟨v, r, rfl, h1, rfl⟩ := h
  exact ⟨v, rfl, h1⟩
theorem RVs.two {w u : W} {vs : List V} (h : RVs K T φ H [w, u] vs) : ∃ v z, vs = [v, z] ∧ RV K T φ H w v ∧ RV K T φ H u z := by
  simp only [RVs] at h
  obtain ⟨v, r, rfl, h1, z, r2, rfl, h2, rfl⟩ := h
  exact ⟨v, z, rfl, h1, h2⟩
end

mutual
theorem noDict : ∀ d : PyData, d.canLay0 = true → d.hasDict = false
  | .none, _ => by simp [PyData.hasDict]
  | .bool _, _ => by simp [PyData.hasDict]
  | .int _, _ => by simp [PyData.hasDict]
  | .str _, _ => by simp [PyData.hasDict]
  | .list xs, h => by simp only [PyData.hasDict]; exact noDicts xs (by simpa [PyData.canLay0] using h)
  | .tuple xs, h => by simp only [PyData.hasDict]; exact noDicts xs (by simpa [PyData.canLay0] using h)
  | .dict _, h => by simp [PyData.canLay0] at h
theorem noDicts : ∀ ds : List PyData, PyData.canLayAll0 ds = true → PyData.hasDictAll ds = false
  | [], _ => by simp [PyData.hasDictAll]
  | d :: ds, h => by
    have h' : d.canLay0 = true ∧ PyData.canLayAll0 ds = true := by simpa [PyData.canLayAll0] using h
    simp [PyData.hasDictAll, noDict d h'.1, noDicts ds h'.2]
end
section
variable {X : L2.Cx} {T : Tab} {φ : List Addr} {H : Hp} {h : Hb}
theorem itemsL_ok {w : W} {x : V} {ws : List W} (rl : Rel X.K T φ H h) (r : RV X.K T φ H w x) (e : itemsL h w = some ws) : ∃ a vs, x = .ref a ∧ SqL X.K H a vs ∧ RVs X.K T φ H ws vs := by
  cases w with
  | lit xs =>
    obtain ⟨a, vs, rfl, n, h1, k1⟩ := r.lit_inv
    cases e; exact ⟨a, vs, rfl, SqL.of h1, k1⟩
  | rol xs =>
    obtain ⟨a, vs, rfl, h1, k1⟩ := r.rol_inv
    cases e; exact ⟨a, vs, rfl, lst_seq h1, k1⟩
  | ref n =>
    obtain ⟨a, rfl, ha⟩ := r.ref_inv
    simp only [itemsL] at e
    split at e
    · rename_i xs q
      obtain ⟨vs, e1, k1⟩ := rl.lst q ha
      cases e; exact ⟨a, vs, rfl, SqL.of e1, k1⟩
    · cases e
  | _ => cases e
def biV : Bi → Value
  | .len => .builtin "len" | .int => .type "int" | .abs => .builtin "abs" | .str => .type "str" | .repr => .builtin "repr" | .list => .type "list" | .tuple => .type "tuple" | .sorted => .builtin "sorted"
  | .max => .builtin "max" | .min => .builtin "min" | .sum => .builtin "sum" | .all => .builtin "all" | .any => .builtin "any" | .bool => .type "bool"
def biN : Bi → Str
  | .len => "len" | .int => "int" | .abs => "abs" | .str => "str" | .repr => "repr" | .list => "list" | .tuple => "tuple" | .sorted => "sorted"
  | .max => "max" | .min => "min" | .sum => "sum" | .all => "all" | .any => "any" | .bool => "bool"
def rBi (K : PySem.W.Frag) (T : Tab) (f : Bi) : List V → Hp → VK → Prop := fun vs H Q => ∃ φ h ws, Rel K T φ H h ∧ RVs K T φ H ws vs ∧ Post K T Z0 φ H (R.ofO (builtin f ws h) h) Q
/-- repr of data -/
theorem repr_data (hu : X.A.units + 70 < cLine) (hg : X.A.guards = some []) {pins : List (Addr × Obj)} {s : Shared} {σ : L2.St} {x : V} {v : Value} {d : PyData} {Q : VK} (I : L2.Inv X pins σ H s) (rx : RelV x v) (dp : Dp X.K H x d) (hs : d.showable = true) (hd : SeqAt.shaped d = true) (hz : d.shown.length ≤ sizeLine)
    (q : Q (.str d.shown) H) : wpAny (model X.prog X.w) X.A (call (.builtin "repr") [v]) (EP X pins σ Q) X.xe s := by
  have dd : d.depth ≤ 64 := by
    unfold SeqAt.shaped at hd
    rw [Bool.and_eq_true] at hd
    exact of_decide_eq_true hd.2
  have nd : d.hasDict = false := noDict d (SeqAt.canLay_of_shaped hd)
  have big : ∀ {a : Addr}, v = .ref a → wpAny (model X.prog X.w) X.A (call (.builtin "repr") [v]) (EP X pins σ Q) X.xe s := by
    intro a e
    subst e
    obtain ⟨as, g⟩ := Dp.reads I d x _ dp rx
    refine repr_of_reads' g hs (fun c => absurd c (by rw [nd]; exact Bool.false_ne_true)) hg (by omega) (fun b o e => e) (fun h' u tk hk => ?_) hz
    exact ⟨.str d.shown, H, I.kept hk, ⟨_, rfl⟩, q⟩
  cases dp with
  | non => cases (show v = Value.none from rx); exact PySem.P.repr_of_none ⟨.str _, H, I.tok _, ⟨_, rfl⟩, q⟩
  | bl b => cases (show v = Value.bool b from rx); exact PySem.P.repr_of_bool ⟨.str _, H, I.tok _, ⟨_, by cases b <;> rfl⟩, q⟩
  | int i =>
    obtain ⟨t, rfl⟩ := (show ∃ t, v = Value.int i t from rx)
    exact PySem.P.repr_of_int (of_decide_eq_true hs) ⟨.str _, H, I.tok _, ⟨_, rfl⟩, q⟩
  | str z =>
    obtain ⟨t, rfl⟩ := (show ∃ t, v = Value.str z t from rx)
    exact PySem.P.repr_of_str ⟨.str _, H, I.tok _, ⟨_, rfl⟩, q⟩ hz
  | lst h1 h2 => exact big rx
  | tup h1 h2 => exact big rx
theorem callBi (hu : X.A.units + 70 < cLine) (hg : X.A.guards = some []) (hc : X.calm = true) (f : Bi) : CallR X (biV f) (rBi X.K T f) := by
  intro pins s σ H vs us Q I rv ⟨φ, h, ws, rl, k, p⟩
  cases hb : builtin f ws h with
  | none => rw [hb] at p; exact p.elim
  | some w =>
  rw [hb] at p
  have fin : ∀ z, RV X.K T φ H w z → Q z H := fun z r => p φ z H .refl rl r
  unfold builtin at hb
  split at hb
  · obtain ⟨x, rfl, r⟩ := k.one
    obtain ⟨a, ys, rfl, h1, k1⟩ := r.tup_inv
    cases hb
    exact call_len pins s σ H _ us Q I rv ⟨_, ys.length, rfl, .inr ⟨ys, tup_seq h1, rfl⟩, by rw [← k1.length]; exact fin _ (.mk_int _)⟩
  · obtain ⟨x, rfl, r⟩ := k.one
    obtain ⟨a, ys, rfl, n, h1, k1⟩ := r.lit_inv
    cases hb
    exact call_len pins s σ H _ us Q I rv ⟨_, ys.length, rfl, .inl ⟨ys, SqL.of h1, rfl⟩, by rw [← k1.length]; exact fin _ (.mk_int _)⟩
  · obtain ⟨x, rfl, r⟩ := k.one
    have e := r.str_inv; subst e
    split at hb
    · rename_i c
      cases hb
      exact call_len pins s σ H _ us Q I rv ⟨_, _, rfl, ⟨by rw [sizeLine_eq]; exact of_decide_eq_true c, rfl⟩, fin _ (.mk_int _)⟩
    · cases hb
  · obtain ⟨x, rfl, r⟩ := k.one
    obtain ⟨a, rfl, ha⟩ := r.ref_inv
    split at hb
    · rename_i xs q
      obtain ⟨ys, h1, k1⟩ := rl.lst q ha
      cases hb
      exact call_len pins s σ H _ us Q I rv ⟨_, ys.length, rfl, .inl ⟨ys, SqL.of h1, rfl⟩, by rw [← k1.length]; exact fin _ (.mk_int _)⟩
    · cases hb
  · obtain ⟨x, rfl, r⟩ := k.one
    have e := r.int_inv; subst e; cases hb
    exact call_int1 pins s σ H _ us Q I rv (.inl ⟨_, rfl, fin _ (.mk_int _)⟩)
  · obtain ⟨x, rfl, r⟩ := k.one
    have e := r.bl_inv; subst e; cases hb
    exact call_int1 pins s σ H _ us Q I rv (.inr ⟨_, rfl, fin _ (.mk_int _)⟩)
  · obtain ⟨x, rfl, r⟩ := k.one
    have e := r.int_inv; subst e; cases hb
    exact call_abs pins s σ H _ us Q I rv ⟨_, rfl, fin _ (.mk_int _)⟩
  · obtain ⟨x, rfl, r⟩ := k.one
    obtain ⟨z, hz, e⟩ := Option.map_eq_some_iff.mp hb
    subst e
    unfold strOf at hz
    split at hz
    · have e := r.str_inv; subst e; cases hz
      exact SkE.call_str_str pins s σ H _ us Q I rv ⟨_, rfl, fin _ (.mk_str _)⟩
    · have e := r.int_inv; subst e
      split at hz
      · rename_i c
        cases hz
        exact call_str_int pins s σ H _ us Q I rv ⟨_, rfl, of_decide_eq_true c, fin _ (.mk_str _)⟩
      · cases hz
    · cases hz
  · obtain ⟨x, rfl, r⟩ := k.one
    obtain ⟨z, hz, e⟩ := Option.map_eq_some_iff.mp hb
    subst e
    unfold reprOf at hz
    split at hz
    · rename_i d q
      split at hz
      · rename_i c
        simp only [Bool.and_eq_true] at c
        cases hz
        obtain ⟨u, rfl, rx⟩ := vals1 rv
        exact repr_data hu hg I rx (RV.dp_snap rl q r) c.1.1 c.1.2 (by rw [sizeLine_eq]; exact of_decide_eq_true c.2) (fin _ (.mk_str _))
      · cases hz
    · cases hz
  · obtain ⟨x, rfl, r⟩ := k.one
    obtain ⟨xs, hx, e⟩ := Option.map_eq_some_iff.mp hb
    subst e
    obtain ⟨a, ys, rfl, hq, k1⟩ := items_ok rl r hx
    refine call_list_of pins s σ H _ us Q I rv ⟨a, ys, rfl, hq, fun q hp => ?_⟩
    exact p φ _ _ (Ex.side rl hp) (rl.side hp) (.mk_lit (rl.fr hp) upd_same (RVs.mono (Ex.side rl hp) _ _ k1))
  · obtain ⟨x, rfl, r⟩ := k.one
    obtain ⟨a, ys, rfl, h1, k1⟩ := r.tup_inv
    cases hb
    exact call_tuple_of pins s σ H _ us Q I rv ⟨a, ys, rfl, .inr ⟨tup_seq h1, fin _ r⟩⟩
  · obtain ⟨x, rfl, r⟩ := k.one
    obtain ⟨xs, hx, e⟩ := Option.map_eq_some_iff.mp hb
    subst e
    obtain ⟨a, ys, rfl, hq, k1⟩ := itemsL_ok rl r hx
    refine call_tuple_of pins s σ H _ us Q I rv ⟨a, ys, rfl, .inl ⟨hq, fun q hp => ?_⟩⟩
    exact p φ _ _ (Ex.side rl hp) (rl.side hp) (.mk_tup (rl.fr hp) (.inl upd_same) (RVs.mono (Ex.side rl hp) _ _ k1))
  · obtain ⟨x, rfl, r⟩ := k.one
    split at hb
    · rename_i xs hx
      obtain ⟨a, ys, rfl, hq, k1⟩ := itemsL_ok rl r hx
      split at hb
      · rename_i is hi
        cases hb
        rw [intsW_map hi] at k1
        refine cr_sortedI pins s σ H _ us Q I rv ⟨a, is, rfl, by rw [← k1.ints]; exact hq, fun ns q hp hs hq' => ?_⟩
        rw [sortI_unique hp hs]
        exact p φ _ _ (Ex.side rl hq') (rl.side hq') (.mk_lit (rl.fr hq') upd_same (RVs.mk_ints _))
      · split at hb
        · rename_i ss hi
          split at hb
          · rename_i c
            cases hb
            rw [strsW_map hi] at k1
            refine cr_sortedS pins s σ H _ us Q I rv ⟨a, ss, rfl, by rw [← k1.strs_]; exact hq, of_decide_eq_true c, fun ns q hp hs hq' => ?_⟩
            rw [sortedS_unique hp hs]
            exact p φ _ _ (Ex.side rl hq') (rl.side hq') (.mk_lit (rl.fr hq') upd_same (RVs.mk_strs _))
          · cases hb
        · cases hb
    · cases hb
  · obtain ⟨x, y, rfl, r1, r2⟩ := k.two
    have e1 := r1.int_inv; have e2 := r2.int_inv; subst e1 e2; cases hb
    exact call_max2 hc pins s σ H _ us Q I rv ⟨_, _, rfl, fin _ (.mk_int _)⟩
  · obtain ⟨x, y, rfl, r1, r2⟩ := k.two
    have e1 := r1.int_inv; have e2 := r2.int_inv; subst e1 e2; cases hb
    exact call_min2 hc pins s σ H _ us Q I rv ⟨_, _, rfl, fin _ (.mk_int _)⟩
  · obtain ⟨x, rfl, r⟩ := k.one
    obtain ⟨is, hz, e⟩ := Option.map_eq_some_iff.mp hb
    subst e
    obtain ⟨xs, hx, hi⟩ := Option.bind_eq_some_iff.mp hz
    obtain ⟨a, ys, rfl, hq, k1⟩ := itemsL_ok rl r hx
    rw [intsW_map hi] at k1
    exact cr_sum hc pins s σ H _ us Q I rv ⟨a, is, rfl, by rw [← k1.ints]; exact hq, fin _ (.mk_int _)⟩
  · obtain ⟨x, rfl, r⟩ := k.one
    obtain ⟨is, hz, e⟩ := Option.map_eq_some_iff.mp hb
    subst e
    obtain ⟨xs, hx, hi⟩ := Option.bind_eq_some_iff.mp hz
    obtain ⟨a, ys, rfl, hq, k1⟩ := itemsL_ok rl r hx
    rw [truthsW_map hi] at k1
    exact cr_all hc pins s σ H _ us Q I rv ⟨a, is, rfl, by rw [← k1.bls]; exact hq, fin _ (.mk_bl _)⟩
  · obtain ⟨x, rfl, r⟩ := k.one
    obtain ⟨is, hz, e⟩ := Option.map_eq_some_iff.mp hb
    subst e
    obtain ⟨xs, hx, hi⟩ := Option.bind_eq_some_iff.mp hz
    obtain ⟨a, ys, rfl, hq, k1⟩ := itemsL_ok rl r hx
    rw [truthsW_map hi] at k1
    exact cr_any hc pins s σ H _ us Q I rv ⟨a, is, rfl, by rw [← k1.bls]; exact hq, fin _ (.mk_bl _)⟩
  · obtain ⟨x, rfl, r⟩ := k.one
    have e := r.bl_inv; subst e; cases hb
    exact call_bool1 pins s σ H _ us Q I rv (.inr ⟨_, rfl, fin _ (.mk_bl _)⟩)
  · obtain ⟨x, rfl, r⟩ := k.one
    have e := r.int_inv; subst e; cases hb
    exact call_bool1 pins s σ H _ us Q I rv (.inl ⟨_, rfl, fin _ (.mk_bl _)⟩)
  · cases hb
end
end Y
/-! Y5: calls of built-ins and their methods, f-strings. -/
namespace Y
open PySem PySem.Spec PyProof.Rows L2

section
variable {X : L2.Cx} {T : Tab} {Wx : WX} {C : Ctx} {σ : L2.St} {φ : List Addr} {H : Hp} {h : Hb} {σb : Sb}
variable {a b c : Expr} {ea eb ec : E} {pos : Pos} {es : List Expr}

/-! ### no stars among the arguments -/
def noStars (es : List Expr) : Bool := es.all notStar
theorem noStars_each {env : Env} : ∀ {es : List Expr}, noStars es = true → ∀ y ∈ starEach es env, y.1 = false
  | [], _, y, hy => by simp [starEach] at hy
  | e :: es, h, y, hy => by
    have h' : notStar e = true ∧ noStars es = true := by simpa [noStars] using h
    rw [starEach_of h'.1] at hy
    rcases List.mem_cons.mp hy with q | q
    · rw [q]
    · exact noStars_each h'.2 y q
theorem noStars_any {env : Env} {pos : Pos} {es : List Expr} (h : noStars es = true) : (backTo pos (starEach es env)).any (·.1) = false := by
  rw [List.any_eq_false]
  intro y hy
  unfold backTo at hy
  obtain ⟨z, hz, rfl⟩ := List.mem_map.mp hy
  have := noStars_each h z hz
  simp [this]
theorem noStars_all {env : Env} {pos : Pos} {es : List Expr} (h : noStars es = true) : (backTo pos (starEach es env)).all (fun x => !x.1) = true := by
  rw [List.all_eq_true]
  intro y hy
  unfold backTo at hy
  obtain ⟨z, hz, rfl⟩ := List.mem_map.mp hy
  have := noStars_each h z hz
  simp [this]

theorem d_bi_read {f : Bi} {Q : VK} (s : RS X.K T φ H σb σ) (rl : Rel X.K T φ H h) (p : Post X.K T (ZX Wx σ) φ H (evalE C (.bi f ea) σb h) Q) : tCB (rBi X.K T f) (tIA X.K T Wx (evalE C ea)) σ H Q := by
  simp only [evalE] at p
  refine tR_mono (tR_of (Ru := RA X.K T) s rl p) ?_
  rintro vs H1 ⟨φ1, w1, h1, _, x1, s1, rl1, ⟨ws, rfl, r1⟩, p1⟩
  refine ⟨φ1, h1, ws, rl1, r1, ?_⟩
  dsimp only at p1
  cases q : builtin f ws h1 with
  | none => rw [q] at p1; exact p1.elim
  | some w => rw [q] at p1; exact p1
theorem d_bi {e : Expr} {f : Bi} {p : Pos} (hu : X.A.units + 70 < cLine) (hgd : X.A.guards = some []) (hc : X.calm = true) (hg : Gl X (biN f)) (hm : X.mg (biN f) = none) (ha : DA X T Wx C (e :: es) ea) (hs : noStars (e :: es) = true) :
    D X T Wx C (.Call (.Name (biN f) p) (e :: es) [] pos) (.bi f ea) := by
  have h' : notStar e = true ∧ noStars es = true := by simpa [noStars] using hs
  have K := callBi (T := T) hu hgd hc f
  have key : PE X (.Call (.Name (biN f) p) (e :: es) [] pos) (tCB (rBi X.K T f) (tIA X.K T Wx (evalE C ea))) := by
    have st := starEach_of (env := X.env) (es := es) h'.1
    have sp := noStars_any (env := X.env) (pos := pos) h'.2
    cases f <;> first
      | exact pe_callB K hg hm (by decide +kernel) ha (by decide) (by decide) st sp
      | exact pe_callTy K hg hm (by decide +kernel) ha (by decide) (by decide) st sp
  exact key.weak fun σ H Q ⟨φ, σb, h, s, rl, p⟩ => d_bi_read s rl p

/-- a fresh list of a built-in, tracked -/
def rBiN (K : PySem.W.Frag) (T : Tab) (f : Bi) : List V → Hp → VK → Prop := fun vs H Q => ∃ φ h ws, Rel K T φ H h ∧ RVs K T φ H ws vs ∧ Post K T Z0 φ H (asNew (R.ofO (builtin f ws h) h)) Q
def newBi : Bi → Bool
  | .list => true
  | .sorted => true
  | _ => false
theorem callBiN {f : Bi} (hf : newBi f = true) : CallR X (biV f) (rBiN X.K T f) := by
  intro pins s σ H vs us Q I rv ⟨φ, h, ws, rl, k, p⟩
  unfold newBi at hf
  split at hf
  · cases ws with
    | nil => exact p.elim
    | cons w r =>
      cases r with
      | cons _ _ => exact p.elim
      | nil =>
        obtain ⟨x, rfl, r⟩ := k.one
        replace p : Post X.K T Z0 φ H (asNew (R.ofO ((items h w).map .lit) h)) Q := p
        cases hi : items h w with
        | none => rw [hi] at p; exact p.elim
        | some xs =>
          rw [hi] at p
          obtain ⟨a, ys, rfl, hq, k1⟩ := items_ok rl r hi
          exact call_list_of pins s σ H _ us Q I rv ⟨a, ys, rfl, hq, fun q hp => grown rl hp k1 p⟩
  · cases ws with
    | nil => exact p.elim
    | cons w r =>
      cases r with
      | cons _ _ => exact p.elim
      | nil =>
        obtain ⟨x, rfl, r⟩ := k.one
        replace p : Post X.K T Z0 φ H (asNew (R.ofO (match itemsL h w with
          | some xs => (match intsW xs with | some is => some (.lit ((sortI is).map .int)) | none => (match strsW xs with | some ss => if decide (ss.length < 64) then some (.lit ((sortS ss).map .str)) else none | none => none))
          | none => none) h)) Q := p
        cases hi : itemsL h w with
        | none => rw [hi] at p; exact p.elim
        | some xs =>
          rw [hi] at p
          dsimp only at p
          obtain ⟨a, ys, rfl, hq, k1⟩ := itemsL_ok rl r hi
          cases hn : intsW xs with
          | some is =>
            rw [hn] at p
            rw [intsW_map hn] at k1
            refine cr_sortedI pins s σ H _ us Q I rv ⟨a, is, rfl, by rw [← k1.ints]; exact hq, fun ns q hp hs hq' => ?_⟩
            rw [sortI_unique hp hs]
            exact grown rl hq' (RVs.mk_ints _) p
          | none =>
            rw [hn] at p
            dsimp only at p
            cases hn2 : strsW xs with
            | none => rw [hn2] at p; exact p.elim
            | some ss =>
              rw [hn2] at p
              dsimp only at p
              rw [strsW_map hn2] at k1
              split at p
              · rename_i c
                refine cr_sortedS pins s σ H _ us Q I rv ⟨a, ss, rfl, by rw [← k1.strs_]; exact hq, of_decide_eq_true c, fun ns q hp hs hq' => ?_⟩
                rw [sortedS_unique hp hs]
                exact grown rl hq' (RVs.mk_strs _) p
              · exact p.elim
  · cases hf
theorem d_newbi {e : Expr} {f : Bi} {p : Pos} (hf : newBi f = true) (hg : Gl X (biN f)) (hm : X.mg (biN f) = none) (ha : DA X T Wx C (e :: es) ea) (hs : noStars (e :: es) = true) :
    D X T Wx C (.Call (.Name (biN f) p) (e :: es) [] pos) (.new (.bi f ea)) := by
  have h' : notStar e = true ∧ noStars es = true := by simpa [noStars] using hs
  have K := callBiN (X := X) (T := T) hf
  have key : PE X (.Call (.Name (biN f) p) (e :: es) [] pos) (tCB (rBiN X.K T f) (tIA X.K T Wx (evalE C ea))) := by
    have st := starEach_of (env := X.env) (es := es) h'.1
    have sp := noStars_any (env := X.env) (pos := pos) h'.2
    cases f <;> first
      | exact pe_callB K hg hm (by decide +kernel) ha (by decide) (by decide) st sp
      | exact pe_callTy K hg hm (by decide +kernel) ha (by decide) (by decide) st sp
      | cases hf
  refine key.weak fun σ H Q ⟨φ, σb, h, s, rl, p⟩ => ?_
  rw [evalE_new] at p
  simp only [evalE, asNew_bind] at p
  refine tR_mono (tR_of (Ru := RA X.K T) s rl p) ?_
  rintro vs H1 ⟨φ1, w1, h1, _, x1, s1, rl1, ⟨ws, rfl, r1⟩, p1⟩
  refine ⟨φ1, h1, ws, rl1, r1, ?_⟩
  dsimp only at p1
  cases q : asNew (R.ofO (builtin f ws h1) h1) with
  | ok w h' => rw [q] at p1; exact p1
  | ex e h' => exact absurd q (asNew_nx (ofO_nx _ _) _ _)
  | no => rw [q] at p1; exact p1

/-! ### methods -/
def mtN : Mt → Str
  | .append => "append" | .extend => "extend" | .pop => "pop" | .join => "join" | .index => "index" | .split => "split" | .get => "get"
def rMt (K : PySem.W.Frag) (T : Tab) (m : Mt) : V → List V → Hp → VK → Prop := fun x vs H Q => ∃ φ h w ws, Rel K T φ H h ∧ RV K T φ H w x ∧ RVs K T φ H ws vs ∧ Post K T Z0 φ H (method m w ws h) Q
theorem method_nx (m : Mt) (a : W) (b : List W) (h : Hb) : ∀ e h', method m a b h ≠ .ex e h' := by
  intro e h' q
  unfold method at q
  repeat' (first | cases q | (split at q))
theorem R.nx {K : PySem.W.Frag} {Z : Value → Option Addr → Hp → Prop} {r : R W} {Q : VK} (p : Post K T Z φ H r Q) (n : ∀ e h', r ≠ .ex e h') : Post K T Z0 φ H r Q := by
  cases r with
  | ok w h' => exact p
  | ex e h' => exact absurd rfl (n e h')
  | no => exact p
theorem mt_append_ : MtR X "list.append" (rMt X.K T .append) := by
  intro pins s σ H x xs v us Q I rx rv ⟨φ, h, w, ws, rl, r, k, p⟩
  unfold method at p
  split at p
  · rename_i n w1 _
    obtain ⟨a, rfl, ha⟩ := r.ref_inv
    obtain ⟨y, rfl, ry⟩ := k.one
    split at p
    · rename_i zs q
      obtain ⟨ys, h1, k1⟩ := rl.lst q ha
      split at p
      · rename_i c
        have c' : ys.length < sizeLine := by rw [sizeLine_eq, ← k1.length]; exact of_decide_eq_true c
        refine mt_append pins s σ H _ _ v us Q I rx rv ⟨a, ys, y, rfl, rfl, h1, c', ?_⟩
        have x := Ex.write (o := .lst (ys ++ [y])) rl (List.mem_of_getElem? ha)
        exact p φ _ _ x (rl.write ha ⟨_, upd_same, (RVs.mono x _ _ k1).append (.cons (RV.mono x _ _ ry) .nil)⟩) .mk_non
      · exact p.elim
    · exact p.elim
  all_goals first | exact p.elim | (rename_i z; exact absurd z (by intro z; cases z))
theorem mt_pop_ : MtR X "list.pop" (rMt X.K T .pop) := by
  intro pins s σ H x xs v us Q I rx rv ⟨φ, h, w, ws, rl, r, k, p⟩
  unfold method at p
  split at p
  · rename_i z; exact absurd z (by intro z; cases z)
  · rename_i n i _
    obtain ⟨a, rfl, ha⟩ := r.ref_inv
    obtain ⟨y, rfl, ry⟩ := k.one
    have e := ry.int_inv; subst e
    split at p
    · rename_i zs q
      obtain ⟨ys, h1, k1⟩ := rl.lst q ha
      split at p
      · rename_i c
        simp only [Bool.and_eq_true, decide_eq_true_eq] at c
        split at p
        · rename_i j hj
          split at p
          · rename_i w hw
            obtain ⟨z, hz, rz⟩ := k1.get hw
            refine mt_popAt pins s σ H _ _ v us Q I rx rv ⟨a, ys, i, j, z, rfl, rfl, h1, by omega, by omega, by rw [← k1.length]; exact hj, hz, ?_⟩
            have x := Ex.write (o := .lst (ys.eraseIdx j)) rl (List.mem_of_getElem? ha)
            exact p φ _ _ x (rl.write ha ⟨_, upd_same, RVs.eraseIdx _ (RVs.mono x _ _ k1)⟩) (RV.mono x _ _ rz)
          · exact p.elim
        · exact p.elim
      · exact p.elim
    · exact p.elim
  · rename_i n _
    obtain ⟨a, rfl, ha⟩ := r.ref_inv
    have e : xs = [] := by simpa only [RVs] using k
    subst e
    split at p
    · rename_i zs q
      obtain ⟨ys, h1, k1⟩ := rl.lst q ha
      split at p
      · rename_i w hw
        obtain ⟨z, hz, rz⟩ := k1.get hw
        refine mt_pop pins s σ H _ _ v us Q I rx rv ⟨a, ys, z, rfl, rfl, h1, by rw [← k1.length]; exact hz, ?_⟩
        have x := Ex.write (o := .lst ys.dropLast) rl (List.mem_of_getElem? ha)
        exact p φ _ _ x (rl.write ha ⟨_, upd_same, RVs.dropLast (RVs.mono x _ _ k1)⟩) (RV.mono x _ _ rz)
      · exact p.elim
    · exact p.elim
  all_goals first | exact p.elim | (rename_i z; exact absurd z (by intro z; cases z))
theorem mt_join_ : MtR X "str.join" (rMt X.K T .join) := by
  intro pins s σ H x xs v us Q I rx rv ⟨φ, h, w, ws, rl, r, k, p⟩
  unfold method at p
  split at p
  · rename_i z; exact absurd z (by intro z; cases z)
  · rename_i z; exact absurd z (by intro z; cases z)
  · rename_i z; exact absurd z (by intro z; cases z)
  · rename_i s0 w1 _
    have e := r.str_inv; subst e
    obtain ⟨y, rfl, ry⟩ := k.one
    split at p
    · rename_i ss q
      obtain ⟨its, hx, hi⟩ := Option.bind_eq_some_iff.mp q
      obtain ⟨a, ys, rfl, hq, k1⟩ := items_ok rl ry hx
      rw [strsW_map hi] at k1
      split at p
      · rename_i c
        refine mt_join pins s σ H _ _ v us Q I rx rv ⟨s0, a, ss, rfl, rfl, by rw [← k1.strs_]; exact hq, of_decide_eq_true c, p φ _ H .refl rl (.mk_str _)⟩
      · exact p.elim
    · exact p.elim
  all_goals first | exact p.elim | (rename_i z; exact absurd z (by intro z; cases z))
/-- not a call without arguments -/
def noCall0 : Expr → Bool
  | .Call _ [] _ _ => false
  | _ => true
theorem attrBase_of {o : Expr} {n : Str} {env : Env} (hn : noCall0 o = true) : attributeBase o n env (eval o env) = eval o env := by
  cases o with
  | Call f as ks p =>
    cases as with
    | nil => exact (Bool.false_ne_true hn).elim
    | cons x y => cases f <;> rfl
  | _ => rfl
theorem d_mt_read {m : Mt} {ty : String} {Q : VK} (hr : ∀ φ H h w x, Rel X.K T φ H h → RV X.K T φ H w x → recv m h w = true → tyV X.K ty x H) (s : RS X.K T φ H σb σ) (rl : Rel X.K T φ H h) (p : Post X.K T (ZX Wx σ) φ H (evalE C (.mt m ea eb) σb h) Q) :
    tBM X.K ty (rMt X.K T m) (tI X.K T Wx (evalE C ea)) (tIA X.K T Wx (evalE C eb)) σ H Q := by
  simp only [evalE] at p
  refine tR_mono (tR_of s rl p) ?_
  rintro x H1 ⟨φ1, w1, h1, _, x1, s1, rl1, r1, p1⟩
  split at p1
  · rename_i c
    refine ⟨hr _ _ _ _ _ rl1 r1 c, ?_⟩
    refine tR_mono (tR_of (Ru := RA X.K T) s1 rl1 p1) ?_
    rintro vs H2 ⟨φ2, w2, h2, _, x2, s2, rl2, ⟨ws, rfl, r2⟩, p2⟩
    exact ⟨φ2, h2, w1, ws, rl2, RV.mono x2 _ _ r1, r2, R.nx p2 (method_nx _ _ _ _)⟩
  · exact p1.elim
theorem recv_list {m : Mt} (hm : m = .append ∨ m = .extend ∨ m = .pop) (φ : List Addr) (H : Hp) (h : Hb) (w : W) (x : V) (rl : Rel X.K T φ H h) (r : RV X.K T φ H w x) (e : recv m h w = true) : tyV X.K "list" x H := by
  have key : ∃ n xs, w = .ref n ∧ h[n]? = some (.lst xs) := by
    rcases hm with rfl | rfl | rfl <;>
    · unfold recv at e
      split at e
      all_goals first
        | (exfalso; exact Bool.false_ne_true e)
        | (split at e
           · exact ⟨_, _, rfl, by assumption⟩
           · exact (Bool.false_ne_true e).elim)
        | (rename_i z; exact absurd z (by intro z; cases z))
  obtain ⟨n, xs, rfl, q⟩ := key
  obtain ⟨a, rfl, ha⟩ := r.ref_inv
  obtain ⟨ys, h1, k1⟩ := rl.lst q ha
  exact .inl ⟨rfl, ys, SqL.of h1⟩
theorem recv_str {m : Mt} (hm : m = .join ∨ m = .split) (φ : List Addr) (H : Hp) (h : Hb) (w : W) (x : V) (rl : Rel X.K T φ H h) (r : RV X.K T φ H w x) (e : recv m h w = true) : tyV X.K "str" x H := by
  have key : ∃ n, w = .str n := by
    rcases hm with rfl | rfl <;>
    · unfold recv at e
      split at e
      all_goals first
        | (exfalso; exact Bool.false_ne_true e)
        | exact ⟨_, rfl⟩
        | (rename_i z; exact absurd z (by intro z; cases z))
  obtain ⟨n, rfl⟩ := key
  have e := r.str_inv; subst e
  exact rfl
theorem few_of {e : Expr} {es : List Expr} {env : Env} {cpos : Pos} (hs : noStars (e :: es) = true) (hf : es.length ≤ 20) : ((backTo cpos (starEach (e :: es) env)).all (fun x => !x.1) && (backToKw cpos (keywordEach [] env)).all (fun x => x.1.isSome)
      && decide ((e :: es).length + ([] : List Keyword).length + (if ([] : List Keyword).isEmpty then 0 else 1) < 30)) = true := by
  rw [noStars_all hs]
  simp [keywordEach, backToKw]
  omega
theorem d_mtL {m : Mt} {e : Expr} {apos cpos : Pos} (hm : m = .append ∨ m = .pop) (ha : D X T Wx C a ea) (hb : DA X T Wx C (e :: es) eb) (hs : noStars (e :: es) = true) (hf : es.length ≤ 20) (hn : noCall0 a = true) (hl : (apos.endLine == cpos.line) = true) :
    D X T Wx C (.Call (.Attribute a (mtN m) apos) (e :: es) [] cpos) (.mt m ea eb) := by
  have h' : notStar e = true ∧ noStars es = true := by simpa [noStars] using hs
  have st := starEach_of (env := X.env) (es := es) h'.1
  have sp := noStars_any (env := X.env) (pos := cpos) h'.2
  rcases hm with rfl | rfl
  · exact (pe_bm PySem.F.plainAttrs_list PySem.F.slot_list_append PySem.F.type_list_append mt_append_ ha hb (attrBase_of hn) (few_of hs hf) hl st sp).weak fun σ H Q ⟨φ, σb, h, s, rl, p⟩ => d_mt_read (recv_list (.inl rfl)) s rl p
  · exact (pe_bm PySem.F.plainAttrs_list PySem.F.slot_list_pop PySem.F.type_list_pop mt_pop_ ha hb (attrBase_of hn) (few_of hs hf) hl st sp).weak fun σ H Q ⟨φ, σb, h, s, rl, p⟩ => d_mt_read (recv_list (.inr (.inr rfl))) s rl p
theorem d_mtS {e : Expr} {apos cpos : Pos} (ha : D X T Wx C a ea) (hb : DA X T Wx C (e :: es) eb) (hs : noStars (e :: es) = true) (hf : es.length ≤ 20) (hn : noCall0 a = true) (hl : (apos.endLine == cpos.line) = true) :
    D X T Wx C (.Call (.Attribute a "join" apos) (e :: es) [] cpos) (.mt .join ea eb) := by
  have h' : notStar e = true ∧ noStars es = true := by simpa [noStars] using hs
  have st := starEach_of (env := X.env) (es := es) h'.1
  have sp := noStars_any (env := X.env) (pos := cpos) h'.2
  exact (pe_bm PySem.F.plainAttrs_str PySem.F.slot_str_join PySem.F.type_str_join mt_join_ ha hb (attrBase_of hn) (few_of hs hf) hl st sp).weak fun σ H Q ⟨φ, σb, h, s, rl, p⟩ => d_mt_read (recv_str (.inl rfl)) s rl p
theorem d_pop0 {apos cpos : Pos} (ha : D X T Wx C a ea) (hn : noCall0 a = true) (hl : (apos.endLine == cpos.line) = true) : D X T Wx C (.Call (.Attribute a "pop" apos) [] [] cpos) (.mt .pop ea .nil) := by
  refine (pe_bm0 PySem.F.plainAttrs_list PySem.F.slot_list_pop PySem.F.type_list_pop (mt_pop_ (T := T)) ha (attrBase_of hn) hl).weak fun σ H Q ⟨φ, σb, h, s, rl, p⟩ => ?_
  obtain t := d_mt_read (ty := "list") (recv_list (.inr (.inr rfl))) s rl p
  refine tR_mono t ?_
  rintro x H1 ⟨ty, φ1, σ1, h1, s1, rl1, p1⟩
  exact ⟨ty, p1 φ1 [] H1 .refl rl1 ⟨[], rfl, .nil⟩⟩
end
end Y
/-! Y6: what is walked: sequences, ranges, enumerate, zip. -/
namespace Y
open PySem PySem.Spec PyProof.Rows L2

/-! ### enumerate of a tuple -/
abbrev tupIt (l : Addr) : Obj := { cls := .type "tuple_iterator", data := .fields #[.ref l, .int 0 0] }
abbrev enumOf (it : Addr) : Obj := { cls := .type "enumerate", data := .fields #[.none, .bool false, .ref it, rawInt 0, .none, .none] }
theorem meets_enumT (l : Addr) (its : Array Value) (n : Nat) (dc : Option Addr) (sl : Array (Option Value)) : Meets (Builtin.«enumerate.__new__» ⟨[.type "enumerate", .ref l], []⟩) (fun _ R s =>
    s.heap.get? l = some { cls := .type "tuple", dict := dc, data := .seq its n, slots := sl } ∧ R (.ok (.ret (.ref (s.heap.push (tupIt l)).objs.size))) { s with heap := (s.heap.push (tupIt l)).push (enumOf s.heap.objs.size) }) := by
  refine .of_wp fun prog w A R s ⟨g1, g2⟩ => ?_
  obtain ⟨hp, gg, dd, tt, oo⟩ := s
  have sb := sub_enumerate
  have tu : Heap.IsTuple (Shared.heap ⟨hp, gg, dd, tt, oo⟩) l its := ⟨_, g1, rfl, n, rfl⟩
  have go : ∀ {Q : Value → Shared → Prop} {E : Value → Shared → Prop} {A' : Around}, Q (.ref hp.objs.size) ⟨hp.push (tupIt l), gg, dd, tt, oo⟩ → wpAny (model prog w) A' (pyIter (.ref l)) Q E ⟨hp, gg, dd, tt, oo⟩ := fun q => wpAny_pyIter_tuple tu q
  wp_walk using AutoSeq1.wpAny_loadPart' g1
  refine wpAny_stack_any (fun st => wpAny_pure ?_)
  split
  · rename_i c _ _ _ _ _
    cases (c == Value.type "enumerate") <;> (wp_walk using AutoSeq1.wpAny_loadPart' g1, go; exact ⟨_, rfl, g2⟩)
  · wp_walk using AutoSeq1.wpAny_loadPart' g1, go
    exact ⟨_, rfl, g2⟩

section
variable {prog : Program} {w : World} {A : Around} {E : Value → Shared → Prop} {s : Shared}
theorem call_enumT {l : Addr} {its : Array Value} {Q : Value → Shared → Prop} (tu : s.heap.IsTuple l its)
    (q : ∀ h', IsEnum h' (s.heap.objs.size + 1) s.heap.objs.size 0 .none → h'.IsTupleIter s.heap.objs.size l 0 → (∀ b o, s.heap.get? b = some o → h'.get? b = some o) → Q (.ref (s.heap.objs.size + 1)) { s with heap := h' }) :
    wpAny (model prog w) A (call (.type "enumerate") [.ref l]) Q E s := by
  obtain ⟨⟨c, dc, dt, sl⟩, g1, g2, n, g3⟩ := tu
  replace g2 : c = .type "tuple" := g2
  replace g3 : dt = .seq its n := g3
  subst g2 g3
  refine callType_new F.called_enumerate (by decide) (F.typeCall_enumerate_1 _) (F.newCall_enumerate_1 _) (fun ob => F.args_object_init_2 ob _) F.entry_enumerate_new (meets_enumT l its n dc sl) ⟨g1, ?_⟩
  have z : (s.heap.push (tupIt l)).objs.size = s.heap.objs.size + 1 := Heap.size_push ..
  show _ ∧ _
  rw [z]
  have e : IsEnum ((s.heap.push (tupIt l)).push (enumOf s.heap.objs.size)) (s.heap.objs.size + 1) s.heap.objs.size 0 .none := by
    have e0 := Heap.get?_push_size (s.heap.push (tupIt l)) (o := enumOf s.heap.objs.size) rfl
    rw [z] at e0
    exact e0
  exact ⟨⟨_, e, rfl⟩, q _ e ⟨_, Heap.get?_push_of_some _ (Heap.get?_push_size _ rfl), rfl, rfl⟩ (fun b o x => Heap.get?_push_of_some _ (Heap.get?_push_of_some _ x))⟩
end

/-- the tuple at a, its items numbered in new pairs -/
def ItE (K : PySem.W.Frag) (a : Addr) : It where
  go := fun i H => ∃ (xs : List V) (x : V), SqT K H a xs ∧ xs[i]? = some x
  yld := fun i H v H' => ∃ (t : Addr) (x : V), v = .ref t ∧ H t = none ∧ H' = upd H t (.tup [.int (i : Nat), x]) ∧ ∀ xs, SqT K H a xs → xs[i]? = some x
  stop := fun i H => ∃ xs : List V, SqT K H a xs ∧ xs.length = i
theorem turn_enumT {P : Program} {w : World} {K : PySem.W.Frag} {elts : List Expr} {kk : Nat} {tpos : Pos} (a e it : Addr) :
    Turn P w K (.Tuple elts kk tpos) (ItE K a) [e, it] e (fun i h => (∃ old, IsEnum h e it ((i : Nat) : Int) old) ∧ h.IsTupleIter it a i ∧ e ≠ it) := by
  refine ⟨by simp, ?_, ?_, ?_, ?_, ?_⟩
  · rintro i h ⟨⟨old, g1⟩, ⟨o, g2, _, g3⟩, _⟩ b hb
    rcases (show b = e ∨ b = it by simpa using hb) with z | z
    · rw [z]; exact ⟨_, g1, fun v q => nomatch q⟩
    · rw [z]; exact ⟨o, g2, fun v q => by rw [g3] at q; cases q⟩
  · rintro i h h' ⟨⟨old, g1⟩, g2, ne⟩ k
    exact ⟨⟨old, k e (by simp) _ g1⟩, g2.at (fun o q => k it (by simp) o q), ne⟩
  · intro X hP hw hK hc i pins s σ H E I hf ⟨⟨old, g1⟩, g2, ne⟩ ⟨xs, x, hq, hx⟩
    subst hP hw hK
    obtain ⟨its, rv, tu, hz⟩ := I.tuple hq
    obtain ⟨u, hu, ru⟩ := rv.get hx
    have le : e < s.heap.objs.size := Heap.lt_size g1
    have li : it < s.heap.objs.size := by obtain ⟨_, q, _⟩ := g2; exact Heap.lt_size q
    have ea : e ≠ a := by
      rintro rfl
      obtain ⟨o, q, c, _⟩ := tu
      rw [g1] at q; cases q
      exact absurd c (by show Value.type "enumerate" ≠ .type "tuple"; decide +kernel)
    have ia : a ≠ it := by
      rintro rfl
      obtain ⟨o, q, c, _⟩ := tu
      obtain ⟨o', q', c', _⟩ := g2
      rw [q'] at q; cases q
      rw [c'] at c
      exact absurd c (by decide +kernel)
    have Dr := PySem.Draws.tuple (prog := X.prog) (w := X.w) (A := X.A.in1) (I.ok.hd hc) it a ia its.toArray
    have hlt : i < its.toArray.size := by
      have := (List.getElem?_eq_some_iff.mp hu).1
      simpa using this
    refine wpAny_pyNext_enum_itemD Dr g1 ⟨g2, tu⟩ hlt ne (by simp [ne, ea]) (fun y h' tk hy ho st hT hsz hk => ?_)
    have yu : y = u := by
      have hy' : its[i]? = some y := by simpa using hy
      rw [hu] at hy'; exact (Option.some.inj hy').symm
    subst yu
    refine ⟨_, rfl, wpAny_letOwnedTupleGo_enum (s := { s with heap := h', toks := tk + 1 }) ho (fun h2 he sb => ?_)⟩
    have g5 : h2.get? s.heap.objs.size = some { cls := .type "tuple", data := .seq #[.int i tk, y] } := (sb.2 _ (Nat.ne_of_gt le)).trans hT
    have nw : ObjOk X.prog X.w (upd H s.heap.objs.size (.tup [.int (i : Nat), x])) h2 s.heap.objs.size (.tup [.int (i : Nat), x]) := ⟨by show 2 ≤ sizeLine; decide, [.int i tk, y], .cons ⟨_, rfl⟩ (.cons ru .nil), ⟨_, g5, rfl, _, rfl⟩⟩
    have I1 : L2.Inv X pins σ (upd H s.heap.objs.size (.tup [.int (i : Nat), x])) { s with heap := h2, toks := tk + 1 } := by
      refine I.turnedNew (ch := [e, it]) (fun b ob hb q => ?_) hf (Nat.le_refl _) nw
      have n1 : b ≠ e := fun z => hb (by simp [z])
      have n2 : b ≠ it := fun z => hb (by simp [z])
      exact (sb.2 b n1).trans (hk b ob n1 n2 q)
    refine ⟨.ref s.heap.objs.size, _, I1, rfl, ⟨_, x, rfl, I.hok.fresh (Nat.le_refl _), rfl, fun ys hy => by rw [I.tuple_inj hy hq]; exact hx⟩, ⟨⟨y, ?_⟩, st.1.at (fun o q => (sb.2 it (Ne.symm ne)).trans q), ne⟩, fun b hb => ?_⟩
    · rw [show ((i + 1 : Nat) : Int) = (i : Int) + 1 by omega]
      exact he
    · have lb : b < s.heap.objs.size := by
        rcases (show b = e ∨ b = it by simpa using hb) with z | z <;> rw [z] <;> assumption
      rw [upd_ne (Nat.ne_of_lt lb)]
      exact (hf b hb).1
  · intro X hP hw hK hc i pins s σ H E I hf ⟨⟨old, g1⟩, g2, ne⟩ ⟨xs, hq, hx⟩
    subst hP hw hK
    obtain ⟨its, rv, tu, hz⟩ := I.tuple hq
    obtain ⟨f0, f1, f2, f3, f4, f5⟩ := hf it (by simp)
    have ia : a ≠ it := by
      rintro rfl
      obtain ⟨o, q, c, _⟩ := tu
      obtain ⟨o', q', c', _⟩ := g2
      rw [q'] at q; cases q
      rw [c'] at c
      exact absurd c (by decide +kernel)
    have Dr := PySem.Draws.tuple (prog := X.prog) (w := X.w) (A := X.A.in1) (I.ok.hd hc) it a ia its.toArray
    have hn : i = its.toArray.size := by rw [List.size_toArray, ← rv.length]; exact hx.symm
    subst hn
    exact wpAny_pyNext_enum_endD Dr g1 ⟨g2, tu⟩ (fun h' eb => ⟨rfl, I.turned (t' := s.toks) (fun b o hb q => eb b o hb q) f0 f1 f3 f4 f5⟩)
  · rintro A i s Q E ⟨⟨_, g1⟩, _⟩ h
    exact wpAny_pyIter_enum g1 h

/-! ### what is walked, as Y walks it -/
/-- J yields what ws says, as long as w stands as it stood -/
def Walks (K : PySem.W.Frag) (T : Tab) (J : It) (φ : List Addr) (H : Hp) (h : Hb) (w : W) (ws : List W) : Prop :=
  ∀ (T' : Tab), Hid T T' H → ∀ (i : Nat) φ' h' H', Ex K φ φ' H H' → Rel K T' φ' H' h' → stays h h' w = true →
    (∀ u, ws[i]? = some u → J.go i H' ∧ ∀ x H2, J.yld i H' x H2 → Ex K φ' φ' H' H2 ∧ Rel K T' φ' H2 h' ∧ RV K T' φ' H2 u x) ∧ (i = ws.length → J.stop i H')
def tW (K : PySem.W.Frag) (T : Tab) (Wx : WX) (f : Sb → Hb → R W) : TI := fun σ H R => ∃ φ σb h, RS K T φ H σb σ ∧ Rel K T φ H h ∧
  match f σb h with
  | .ok w h' => ∃ ws, items h' w = some ws ∧ ∀ φ' H' J, Ex K φ φ' H H' → Rel K T φ' H' h' → Walks K T J φ' H' h' w ws → R J H'
  | .ex x h' => ∀ φ' H' cls d, Ex K φ φ' H H' → Rel K T φ' H' h' → RX K T φ' H' x cls d → Wx cls d σ H'
  | .no => False
theorem _root_.L2.PI.weak {X : L2.Cx} {tg iter : Expr} {t t' : TI} (h : PI X tg iter t) (hm : ∀ σ H Q, t' σ H Q → t σ H Q) : PI X tg iter t' :=
  ⟨fun pins s σ H Q I q => h.run pins s σ H Q I (hm _ _ _ q)⟩

section
variable {X : L2.Cx} {T : Tab} {Wx : WX} {C : Ctx} {σ : L2.St} {φ : List Addr} {H : Hp} {h : Hb} {σb : Sb}
variable {a b c tg : Expr} {ea eb ec : E} {pos : Pos} {es : List Expr}
abbrev DI (X : L2.Cx) (T : Tab) (Wx : WX) (C : Ctx) (tg iter : Expr) (e' : E) : Prop := PI X tg iter (tW X.K T Wx (evalE C e'))
/-- a list or a tuple -/
def iSeq (K : PySem.W.Frag) (tl : TE) : TI := fun σ H R => tl σ H fun x H1 => ∃ a, x = .ref a ∧ (((∃ xs, SqL K H1 a xs) ∧ R (Itl K a) H1) ∨ ((∃ xs, SqT K H1 a xs) ∧ R (Itt K a) H1))
theorem pi_seq {l : Expr} {tl : TE} (hl : PE X l tl) : PI X tg l (iSeq X.K tl) := by
  refine ⟨fun pins s σ H R I q => ?_⟩
  refine thn (hl.run pins s σ H _ I q) fun v s1 ⟨x, H1, I1, r1, a, e, q1⟩ => ?_
  subst e
  rcases q1 with ⟨⟨xs, hq⟩, k⟩ | ⟨⟨xs, hq⟩, k⟩
  · cases r1
    obtain ⟨its, rv, p, hz⟩ := I1.list hq
    refine wpAny_pyIter_list p.isList ?_
    refine ⟨s1.heap.objs.size, [s1.heap.objs.size], _, _, H1, rfl, I1.kept (t' := s1.toks) (fun b o e => Heap.get?_push_of_some _ e), turn_list a _, ⟨_, Heap.get?_push_size _ rfl, rfl, rfl⟩, (fun b hb => ?_), k⟩
    obtain rfl : b = s1.heap.objs.size := by simpa using hb
    exact I1.fpOk (Nat.le_refl _) (I1.hok.fresh (Nat.le_refl _))
  · cases r1
    obtain ⟨its, rv, p, hz⟩ := I1.tuple hq
    refine wpAny_pyIter_tuple (show s1.heap.IsTuple a its.toArray from p) ?_
    refine ⟨s1.heap.objs.size, [s1.heap.objs.size], _, _, H1, rfl, I1.kept (t' := s1.toks) (fun b o e => Heap.get?_push_of_some _ e), turn_tuple a _, ⟨_, Heap.get?_push_size _ rfl, rfl, rfl⟩, (fun b hb => ?_), k⟩
    obtain rfl : b = s1.heap.objs.size := by simpa using hb
    exact I1.fpOk (Nat.le_refl _) (I1.hok.fresh (Nat.le_refl _))
/-- the items of a list or tuple, walked -/
theorem walks_list {w : W} {ws : List W} {a : Addr} {vs : List V} (rl : Rel X.K T φ H h) (rv : RV X.K T φ H w (.ref a)) (hi : items h w = some ws) (hl : itemsL h w = some ws) : Walks X.K T (Itl X.K a) φ H h w ws := by
  intro T' g i φ' h' H' x rl' st
  replace rv := RV.hide g _ _ rv
  -- as it stands later
  have hl' : itemsL h' w = some ws := by
    cases w with
    | ref n =>
      simp only [stays] at st
      simp only [itemsL] at hl ⊢
      split at st
      · rename_i o o' q q'
        rw [q] at hl
        rw [q']
        cases o with
        | lst xs =>
          cases o' with
          | lst ys =>
            have e := W.eqbs_eq _ _ st
            subst e
            exact hl
          | ins c ns xs => cases st
          | dct ks vs => cases st
        | ins c ns xs => cases hl
        | dct ks vs => cases hl
      · cases st
    | lit xs => exact hl
    | rol xs => exact hl
    | non => cases hl
    | bl _ => cases hl
    | int _ => cases hl
    | str _ => cases hl
    | tup _ => cases hl
    | obj _ _ _ => cases hl
  obtain ⟨a', vs, e, hq, k⟩ := itemsL_ok rl' (RV.mono x _ _ rv) hl'
  cases e
  refine ⟨fun u hu => ?_, fun e => ⟨vs, hq, by rw [← k.length]; omega⟩⟩
  obtain ⟨v, hv, r⟩ := k.get hu
  refine ⟨⟨vs, v, hq, hv⟩, ?_⟩
  rintro y H2 ⟨rfl, hy⟩
  have e := hy vs hq
  rw [hv] at e; cases e
  exact ⟨.refl, rl', r⟩
theorem walks_tup {xs : List W} {a : Addr} (rv : RV X.K T φ H (.tup xs) (.ref a)) : Walks X.K T (Itt X.K a) φ H h (.tup xs) xs := by
  intro T' g i φ' h' H' x rl' st
  obtain ⟨a', vs, e, h1, k⟩ := (RV.mono x _ _ (RV.hide g _ _ rv)).tup_inv
  cases e
  refine ⟨fun u hu => ?_, fun e => ⟨vs, tup_seq h1, by rw [← k.length]; omega⟩⟩
  obtain ⟨v, hv, r⟩ := k.get hu
  refine ⟨⟨vs, v, tup_seq h1, hv⟩, ?_⟩
  rintro y H2 ⟨rfl, hy⟩
  have e := hy vs (tup_seq h1)
  rw [hv] at e; cases e
  exact ⟨.refl, rl', r⟩
theorem di_seq (ha : D X T Wx C a ea) : DI X T Wx C tg a ea := by
  refine (pi_seq ha).weak fun σ H R ⟨φ, σb, h, s, rl, p⟩ => ⟨φ, σb, h, s, rl, ?_⟩
  cases q : evalE C ea σb h with
  | no => rw [q] at p; exact p
  | ex e h' => rw [q] at p; exact p
  | ok w h' =>
    rw [q] at p
    obtain ⟨ws, hi, f⟩ := p
    intro φ' v H' x rl' rv
    cases w with
    | tup xs =>
      cases hi
      obtain ⟨a, vs, rfl, h1, k⟩ := rv.tup_inv
      exact ⟨a, rfl, .inr ⟨⟨vs, tup_seq h1⟩, f φ' H' _ x rl' (walks_tup rv)⟩⟩
    | lit xs =>
      obtain ⟨a, vs, rfl, n, h1, k⟩ := rv.lit_inv
      exact ⟨a, rfl, .inl ⟨⟨vs, SqL.of h1⟩, f φ' H' _ x rl' (walks_list (vs := vs) rl' rv hi hi)⟩⟩
    | rol xs =>
      obtain ⟨a, vs, rfl, h1, k⟩ := rv.rol_inv
      exact ⟨a, rfl, .inl ⟨⟨vs, lst_seq h1⟩, f φ' H' _ x rl' (walks_list (vs := vs) rl' rv hi hi)⟩⟩
    | ref n =>
      obtain ⟨a, rfl, ha⟩ := rv.ref_inv
      have hi' := hi
      simp only [items] at hi'
      split at hi'
      · rename_i xs q2
        obtain ⟨vs, h1, k⟩ := rl'.lst q2 ha
        exact ⟨a, rfl, .inl ⟨⟨vs, SqL.of h1⟩, f φ' H' _ x rl' (walks_list (vs := vs) rl' rv hi hi)⟩⟩
      · cases hi'
    | non => cases hi
    | bl _ => cases hi
    | int _ => cases hi
    | str _ => cases hi
    | obj _ _ _ => cases hi

/-! ### ranges -/
theorem walks_rng (lo : Int) (n : Nat) : Walks X.K T (Itr lo n) φ H h (.tup ((List.range n).map fun (k : Nat) => W.int (lo + (k : Int)))) ((List.range n).map fun (k : Nat) => W.int (lo + (k : Int))) := by
  intro T' g i φ' h' H' x rl' st
  refine ⟨fun u hu => ?_, fun e => ?_⟩
  · obtain ⟨hl, e⟩ := List.getElem?_eq_some_iff.mp hu
    have hi : i < n := by simpa using hl
    refine ⟨hi, ?_⟩
    rintro y H2 ⟨rfl, rfl⟩
    refine ⟨.refl, rl', ?_⟩
    rw [← e, List.getElem_map, List.getElem_range]
    exact .mk_int _
  · have : i = n := by simpa using e
    exact Nat.le_of_eq this.symm
/-- one part of an iterable, then the rest -/
theorem tW_of {f : Sb → Hb → R W} {g : W → Hb → R W} {Rn : It → Hp → Prop} (s : RS X.K T φ H σb σ) (rl : Rel X.K T φ H h) (p : match (f σb h).bind g with
    | .ok w h' => ∃ ws, items h' w = some ws ∧ ∀ φ' H' J, Ex X.K φ φ' H H' → Rel X.K T φ' H' h' → Walks X.K T J φ' H' h' w ws → Rn J H'
    | .ex x h' => ∀ φ' H' cls d, Ex X.K φ φ' H H' → Rel X.K T φ' H' h' → RX X.K T φ' H' x cls d → Wx cls d σ H'
    | .no => False) :
    tI X.K T Wx f σ H (fun v H1 => ∃ φ1 w h1, Ex X.K φ φ1 H H1 ∧ RS X.K T φ1 H1 σb σ ∧ Rel X.K T φ1 H1 h1 ∧ RV X.K T φ1 H1 w v ∧ (match g w h1 with
      | .ok w h' => ∃ ws, items h' w = some ws ∧ ∀ φ' H' J, Ex X.K φ1 φ' H1 H' → Rel X.K T φ' H' h' → Walks X.K T J φ' H' h' w ws → Rn J H'
      | .ex x h' => ∀ φ' H' cls d, Ex X.K φ1 φ' H1 H' → Rel X.K T φ' H' h' → RX X.K T φ' H' x cls d → Wx cls d σ H'
      | .no => False)) := by
  refine ⟨φ, σb, h, s, rl, ?_⟩
  cases q : f σb h with
  | no => rw [q] at p; exact p
  | ex e h' => rw [q] at p; exact p
  | ok w h' =>
    rw [q] at p
    simp only [R.bind] at p
    intro φ' v H' x rl' rv
    refine ⟨φ', w, h', x, s.mono x, rl', rv, ?_⟩
    cases q2 : g w h' with
    | no => rw [q2] at p; exact p
    | ex e h2 => rw [q2] at p; exact fun φ2 H2 cls d y => p φ2 H2 cls d (x.trans y)
    | ok u h2 =>
      rw [q2] at p
      obtain ⟨ws, hi, f⟩ := p
      exact ⟨ws, hi, fun φ2 H2 J y => f φ2 H2 J (x.trans y)⟩
/-- one argument, two -/
def tA1 (t : TE) : TA := fun σ H Q => t σ H fun v H1 => Q [v] H1
def tA2 (t u : TE) : TA := fun σ H Q => t σ H fun v H1 => u σ H1 fun w H2 => Q [v, w] H2
theorem pa_one {t : TE} (ha : PE X a t) (hn : notStar a = true) : PA X [a] (tA1 t) := pa_cons ha pa_nil (starEach_of hn)
theorem pa_two {t u : TE} (ha : PE X a t) (hb : PE X b u) (hn : notStar a = true) (hn2 : notStar b = true) : PA X [a, b] (tA2 t u) := pa_cons ha (pa_cons hb pa_nil (starEach_of hn2)) (starEach_of hn)
theorem di_rng1 {p : Pos} (hg : Gl X "range") (hm : X.mg "range" = none) (hn : notStar a = true) (ha : D X T Wx C a ea) : DI X T Wx C tg (.Call (.Name "range" p) [a] [] pos) (.rng ea) := by
  refine (pi_range1 hg hm (pa_one ha hn) (starEach_of hn)).weak fun σ H R ⟨φ, σb, h, s, rl, p⟩ => ?_
  simp only [evalE] at p
  refine tR_mono (tW_of s rl p) ?_
  rintro v H1 ⟨φ1, w1, h1, x1, s1, rl1, r1, p1⟩
  split at p1
  · rename_i w h' q
    split at q
    · rename_i j
      split at q
      · rename_i c
        cases q
        have e := r1.int_inv; subst e
        simp only [Bool.and_eq_true, decide_eq_true_eq] at c
        obtain ⟨us, hi, f⟩ := p1
        cases hi
        exact ⟨j, rfl, by omega, by omega, f φ1 H1 _ .refl rl1 (walks_rng 0 j.toNat)⟩
      · cases q
    · cases q
  · rename_i x h' q
    split at q <;> (try split at q) <;> cases q
  · exact p1.elim
theorem di_rng2 {p : Pos} (hg : Gl X "range") (hm : X.mg "range" = none) (hn : notStar a = true) (hn2 : notStar b = true) (ha : D X T Wx C a ea) (hb : D X T Wx C b eb) : DI X T Wx C tg (.Call (.Name "range" p) [a, b] [] pos) (.rng2 ea eb) := by
  refine (pi_range2 hg hm (pa_two ha hb hn hn2) (by rw [starEach_of hn, starEach_of hn2]; rfl) (starEach_of hn2)).weak fun σ H R ⟨φ, σb, h, s, rl, p⟩ => ?_
  simp only [evalE] at p
  refine tR_mono (tW_of s rl p) ?_
  rintro v H1 ⟨φ1, w1, h1, x1, s1, rl1, r1, p1⟩
  refine tR_mono (tW_of s1 rl1 p1) ?_
  rintro v2 H2 ⟨φ2, w2, h2, x2, s2, rl2, r2, p2⟩
  split at p2
  · rename_i w h' q
    split at q
    · rename_i i j
      split at q
      · rename_i c
        cases q
        have e := r1.int_inv; subst e
        have e := r2.int_inv; subst e
        simp only [Bool.and_eq_true, decide_eq_true_eq] at c
        obtain ⟨us, hi, f⟩ := p2
        cases hi
        exact ⟨i, j, rfl, by omega, f φ2 H2 _ .refl rl2 (walks_rng i _)⟩
      · cases q
    · cases q
  · rename_i x h' q
    split at q <;> (try split at q) <;> cases q
  · exact p2.elim

/-! ### enumerate -/
def iEnumA (K : PySem.W.Frag) (ta : TA) : TI := fun σ H R => ta σ H fun vs H1 => ∃ a xs, vs = [.ref a] ∧ ((SqL K H1 a xs ∧ R (Ite K a) H1) ∨ (SqT K H1 a xs ∧ R (ItE K a) H1))
theorem pi_enumA {p tpos : Pos} {elts : List Expr} {kk : Nat} {ta : TA} (hg : Gl X "enumerate") (hm : X.mg "enumerate" = none) (ha : PA X [a] ta) (hs : starEach [a] X.env = [(false, eval a X.env)]) :
    PI X (.Tuple elts kk tpos) (.Call (.Name "enumerate" p) [a] [] pos) (iEnumA X.K ta) := by
  refine ⟨fun pins s σ H R I q => ?_⟩
  refine Call_ (ld_blt I hg hm boot_enumerate (PyProof.Rows.callWith_type1 (thn (ha.run pos pins s σ H _ I q) fun us s1 ⟨vs, H1, I1, rv, l, xs, e, q1⟩ => ?_) hs rfl))
  subst e
  obtain ⟨u, rfl, ru⟩ := vals1 rv
  cases ru
  have two : ∀ b, b ∈ [s1.heap.objs.size + 1, s1.heap.objs.size] → FpOk X pins H1 b := fun b hb => by
    have hle : s1.heap.objs.size ≤ b := by
      rcases (show b = s1.heap.objs.size + 1 ∨ b = s1.heap.objs.size by simpa using hb) with z | z <;> omega
    exact I1.fpOk hle (I1.hok.fresh hle)
  rcases q1 with ⟨hq, k⟩ | ⟨hq, k⟩
  · obtain ⟨its, _, p', _⟩ := I1.list hq
    refine call_enumerate_list p'.isList (fun h' he hi _ kp => wpAny_pyIter_enum he ?_)
    exact ⟨s1.heap.objs.size + 1, _, _, _, H1, rfl, I1.kept (t' := s1.toks) kp, turn_enum l (s1.heap.objs.size + 1) s1.heap.objs.size, ⟨⟨.none, he⟩, hi, Nat.succ_ne_self _⟩, two, k⟩
  · obtain ⟨its, _, p', _⟩ := I1.tuple hq
    refine call_enumT p' (fun h' he hi kp => wpAny_pyIter_enum he ?_)
    exact ⟨s1.heap.objs.size + 1, _, _, _, H1, rfl, I1.kept (t' := s1.toks) kp, turn_enumT l (s1.heap.objs.size + 1) s1.heap.objs.size, ⟨⟨.none, he⟩, hi, Nat.succ_ne_self _⟩, two, k⟩
theorem zipIdx_at {xs : List W} {i : Nat} {u : W} (e : (xs.zipIdx.map fun p => W.tup [.int p.2, p.1])[i]? = some u) : ∃ x, xs[i]? = some x ∧ u = .tup [.int (i : Nat), x] := by
  rw [List.getElem?_map, List.getElem?_zipIdx] at e
  cases q : xs[i]? with
  | none => rw [q] at e; cases e
  | some x => rw [q] at e; simp at e; exact ⟨x, rfl, e.symm⟩
/-- a pair just made -/
theorem pair_ok {q : Addr} {x y : W} {v u : V} (rl : Rel X.K T φ H h) (hq : H q = none) (r1 : RV X.K T φ H x v) (r2 : RV X.K T φ H y u) :
    Ex X.K φ φ H (upd H q (.tup [v, u])) ∧ Rel X.K T φ (upd H q (.tup [v, u])) h ∧ RV X.K T φ (upd H q (.tup [v, u])) (.tup [x, y]) (.ref q) := by
  have e := Ex.side (o := .tup [v, u]) rl hq
  exact ⟨e, rl.side hq, .mk_tup (rl.fr hq) (.inl upd_same) (.cons (RV.mono e _ _ r1) (.cons (RV.mono e _ _ r2) .nil))⟩
theorem di_enum {p tpos : Pos} {elts : List Expr} {kk : Nat} (hg : Gl X "enumerate") (hm : X.mg "enumerate" = none) (hn : notStar a = true) (ha : D X T Wx C a ea) : DI X T Wx C (.Tuple elts kk tpos) (.Call (.Name "enumerate" p) [a] [] pos) (.enum ea) := by
  refine (pi_enumA hg hm (pa_one ha hn) (starEach_of hn)).weak fun σ H R ⟨φ, σb, h, s, rl, p⟩ => ?_
  simp only [evalE] at p
  refine tR_mono (tW_of s rl p) ?_
  rintro v H1 ⟨φ1, w1, h1, x1, s1, rl1, r1, p1⟩
  -- a list that nobody changes
  have lst : ∀ {l : Addr} {xs : List W}, (∀ T' φ' H', Hid T T' H1 → Ex X.K φ1 φ' H1 H' → ∃ vs, SqL X.K H' l vs ∧ RVs X.K T' φ' H' xs vs) → Walks X.K T (Ite X.K l) φ1 H1 h1 (.tup (xs.zipIdx.map fun p => .tup [.int p.2, p.1])) (xs.zipIdx.map fun p => .tup [.int p.2, p.1]) := by
    intro l xs hl T' g i φ' h' H' x rl' _
    obtain ⟨vs, hq, k⟩ := hl T' φ' H' g x
    refine ⟨fun u hu => ?_, fun e => ⟨vs, hq, by rw [← k.length]; simp at e; omega⟩⟩
    obtain ⟨z, hz, rfl⟩ := zipIdx_at hu
    obtain ⟨y, hy, ry⟩ := k.get hz
    refine ⟨⟨vs, y, hq, hy⟩, ?_⟩
    rintro t H2 ⟨q, y2, rfl, nq, rfl, hy2⟩
    have e := hy2 vs hq
    rw [hy] at e; cases e
    exact pair_ok rl' nq (.mk_int _) ry
  have tup : ∀ {l : Addr} {xs : List W}, (∀ T' φ' H', Hid T T' H1 → Ex X.K φ1 φ' H1 H' → ∃ vs, SqT X.K H' l vs ∧ RVs X.K T' φ' H' xs vs) → Walks X.K T (ItE X.K l) φ1 H1 h1 (.tup (xs.zipIdx.map fun p => .tup [.int p.2, p.1])) (xs.zipIdx.map fun p => .tup [.int p.2, p.1]) := by
    intro l xs hl T' g i φ' h' H' x rl' _
    obtain ⟨vs, hq, k⟩ := hl T' φ' H' g x
    refine ⟨fun u hu => ?_, fun e => ⟨vs, hq, by rw [← k.length]; simp at e; omega⟩⟩
    obtain ⟨z, hz, rfl⟩ := zipIdx_at hu
    obtain ⟨y, hy, ry⟩ := k.get hz
    refine ⟨⟨vs, y, hq, hy⟩, ?_⟩
    rintro t H2 ⟨q, y2, rfl, nq, rfl, hy2⟩
    have e := hy2 vs hq
    rw [hy] at e; cases e
    exact pair_ok rl' nq (.mk_int _) ry
  split at p1
  · rename_i w h' q
    split at q
    · cases q
      obtain ⟨us, hi, f⟩ := p1
      cases hi
      obtain ⟨l, vs, rfl, hq, k⟩ := r1.tup_inv
      refine ⟨l, vs, rfl, .inr ⟨tup_seq hq, f φ1 H1 _ .refl rl1 (tup fun T' φ' H' g x => ?_)⟩⟩
      obtain ⟨l', vs', e, hq', k'⟩ := (RV.mono x _ _ (RV.hide g _ _ r1)).tup_inv
      cases e
      exact ⟨vs', tup_seq hq', k'⟩
    · cases q
      obtain ⟨us, hi, f⟩ := p1
      cases hi
      obtain ⟨l, vs, rfl, n, hq, k⟩ := r1.lit_inv
      refine ⟨l, vs, rfl, .inl ⟨SqL.of hq, f φ1 H1 _ .refl rl1 (lst fun T' φ' H' g x => ?_)⟩⟩
      obtain ⟨l', vs', e, n', hq', k'⟩ := (RV.mono x _ _ (RV.hide g _ _ r1)).lit_inv
      cases e
      exact ⟨vs', SqL.of hq', k'⟩
    · cases q
      obtain ⟨us, hi, f⟩ := p1
      cases hi
      obtain ⟨l, vs, rfl, hq, k⟩ := r1.rol_inv
      refine ⟨l, vs, rfl, .inl ⟨lst_seq hq, f φ1 H1 _ .refl rl1 (lst fun T' φ' H' g x => ?_)⟩⟩
      obtain ⟨l', vs', e, hq', k'⟩ := (RV.mono x _ _ (RV.hide g _ _ r1)).rol_inv
      cases e
      exact ⟨vs', lst_seq hq', k'⟩
    · cases q
  · rename_i x h' q
    split at q <;> cases q
  · exact p1.elim

/-! ### zip -/
theorem zip_at {xs ys : List W} {i : Nat} {u : W} (e : ((xs.zip ys).map fun p => W.tup [p.1, p.2])[i]? = some u) : ∃ x y, xs[i]? = some x ∧ ys[i]? = some y ∧ u = .tup [x, y] := by
  rw [List.getElem?_map] at e
  cases q : (xs.zip ys)[i]? with
  | none => rw [q] at e; cases e
  | some p =>
    rw [q] at e
    simp at e
    rw [List.getElem?_zip_eq_some] at q
    exact ⟨p.1, p.2, q.1, q.2, e.symm⟩
theorem di_zip {p tpos : Pos} {elts : List Expr} {kk : Nat} (hg : Gl X "zip") (hm : X.mg "zip" = none) (hn : notStar a = true) (hn2 : notStar b = true) (ha : D X T Wx C a ea) (hb : D X T Wx C b eb) :
    DI X T Wx C (.Tuple elts kk tpos) (.Call (.Name "zip" p) [a, b] [] pos) (.zip ea eb) := by
  refine (RZ.pi_zipA hg hm (pa_two ha hb hn hn2) (starEach_of hn) (noStars_any (by simp [noStars, hn2]))).weak fun σ H R ⟨φ, σb, h, s, rl, p⟩ => ?_
  simp only [evalE] at p
  refine tR_mono (tW_of s rl p) ?_
  rintro v H1 ⟨φ1, w1, h1, x1, s1, rl1, r1, p1⟩
  refine tR_mono (tW_of s1 rl1 p1) ?_
  rintro v2 H2 ⟨φ2, w2, h2, x2, s2, rl2, r2, p2⟩
  replace r1 := RV.mono x2 _ _ r1
  split at p2
  · rename_i w h' q
    split at q
    · rename_i xs ys
      cases q
      obtain ⟨us, hi, f⟩ := p2
      cases hi
      obtain ⟨l, vs, rfl, hq, k⟩ := r1.tup_inv
      obtain ⟨l2, vs2, rfl, hq2, k2⟩ := r2.tup_inv
      refine ⟨l, l2, vs, vs2, rfl, .inr ⟨tup_seq hq, tup_seq hq2, f φ2 H2 _ .refl rl2 ?_⟩⟩
      intro T' g i φ' h' H' x rl' _
      obtain ⟨_, us, e, hq, k⟩ := (RV.mono x _ _ (RV.hide g _ _ r1)).tup_inv
      cases e
      obtain ⟨_, us2, e, hq2, k2⟩ := (RV.mono x _ _ (RV.hide g _ _ r2)).tup_inv
      cases e
      refine ⟨fun u hu => ?_, fun e => ⟨us, us2, tup_seq hq, tup_seq hq2, by rw [← k.length, ← k2.length]; simp at e; omega⟩⟩
      obtain ⟨z, z2, hz, hz2, rfl⟩ := zip_at hu
      obtain ⟨y, hy, ry⟩ := k.get hz
      obtain ⟨y2, hy2, ry2⟩ := k2.get hz2
      refine ⟨⟨us, us2, y, y2, tup_seq hq, tup_seq hq2, hy, hy2⟩, ?_⟩
      rintro t H2 ⟨q, c, c2, rfl, nq, rfl, e1, e2⟩
      have e := e1 us (tup_seq hq)
      rw [hy] at e; cases e
      have e := e2 us2 (tup_seq hq2)
      rw [hy2] at e; cases e
      exact pair_ok rl' nq ry ry2
    · rename_i xs ys
      cases q
      obtain ⟨us, hi, f⟩ := p2
      cases hi
      obtain ⟨l, vs, rfl, n, hq, k⟩ := r1.lit_inv
      obtain ⟨l2, vs2, rfl, n2, hq2, k2⟩ := r2.lit_inv
      refine ⟨l, l2, vs, vs2, rfl, .inl ⟨SqL.of hq, SqL.of hq2, f φ2 H2 _ .refl rl2 ?_⟩⟩
      intro T' g i φ' h' H' x rl' _
      obtain ⟨_, us, e, _, hq, k⟩ := (RV.mono x _ _ (RV.hide g _ _ r1)).lit_inv
      cases e
      obtain ⟨_, us2, e, _, hq2, k2⟩ := (RV.mono x _ _ (RV.hide g _ _ r2)).lit_inv
      cases e
      refine ⟨fun u hu => ?_, fun e => ⟨us, us2, SqL.of hq, SqL.of hq2, by rw [← k.length, ← k2.length]; simp at e; omega⟩⟩
      obtain ⟨z, z2, hz, hz2, rfl⟩ := zip_at hu
      obtain ⟨y, hy, ry⟩ := k.get hz
      obtain ⟨y2, hy2, ry2⟩ := k2.get hz2
      refine ⟨⟨us, us2, y, y2, SqL.of hq, SqL.of hq2, hy, hy2⟩, ?_⟩
      rintro t H2 ⟨q, c, c2, rfl, nq, rfl, e1, e2⟩
      have e := e1 us (SqL.of hq)
      rw [hy] at e; cases e
      have e := e2 us2 (SqL.of hq2)
      rw [hy2] at e; cases e
      exact pair_ok rl' nq ry ry2
    · cases q
  · rename_i x h' q
    split at q <;> cases q
  · exact p2.elim
end
end Y
/-! Y6b: list(zip(a, b)) of two tuples. -/
namespace Yz
open PySem
open PySem.Sem (wp)
section
variable {prog : Program} {w : World} {A : Around} {E : Value → Shared → Prop} {s : Shared}

/-- one more pair, the one before it being kept by somebody -/
theorem held_item {z TI TO Th p q la lb : Addr} {fl : Bool} {ob : Obj} {m n : Nat} {us vs : Array Value} {u v : Value} {Q : Value → Shared → Prop} (D : ZipApart z TI TO p q la lb) (hz : IsZipHeld s.heap z TI TO Th fl) (hT : s.heap.get? Th = some ob) (hTI : IsPair s.heap TI (.ref p) (.ref q))
    (hp : s.heap.IsTupleIter p la m) (hq : s.heap.IsTupleIter q lb n) (ha : s.heap.IsTuple la us) (hb : s.heap.IsTuple lb vs) (hu : us[m]? = some u) (hv : vs[n]? = some v)
    (post : ∀ g, IsZipHeld g z TI TO Th true → g.IsTupleIter p la (m + 1) → g.IsTupleIter q lb (n + 1) → IsPair g s.heap.objs.size u v → g.objs.size = s.heap.objs.size + 1 → (∀ c o, c ≠ z → c ≠ p → c ≠ q → s.heap.get? c = some o → g.get? c = some o) → Q (.ref s.heap.objs.size) { s with heap := g }) :
    wpAny (model prog w) A (Builtin.«zip.__next__» ⟨[.ref z], []⟩) (fun fin s' => ∃ r, fin = .done (.ret r) ∧ Q r s') E s := by
  show wpAny (model prog w) A (field (.ref z) 2 >>= _) _ E s
  refine wpAny_bind (wpAny_field hz rfl (x := Value.bool false) rfl ?_)
  show wpAny (model prog w) A (field (.ref z) 3 >>= _) _ E s
  refine wpAny_bind (wpAny_field hz rfl (x := Value.ref TI) rfl ?_)
  refine wpAny_bind (m := seqItems? (.ref TI)) (wpAny_seqItems hTI rfl ?_)
  show wpAny (model prog w) A (Builtin.SmallTypes.ownedTupleIsFree (.ref z) >>= _) _ E s
  refine wpAny_bind (wpAny_tupleHeld_zip hz hT fun g1 z1 k1 => ?_)
  simp only [Bool.false_eq_true, if_false]
  refine wpAny_bind ?_
  rw [← Array.forIn_toList]
  simp only [List.forIn_cons, List.forIn_nil]
  refine wpAny_bind (wpAny_bind (wpAny_holding ?_))
  show wpAny (model prog w) A (Builtin.SmallTypes.nextOf (.ref p) >>= _) _ E _
  refine wpAny_bind (RZ.nextOf_tuple_item (s := { s with heap := g1 }) (hp.extBut k1.extBut D.i1z) (ha.extBut k1.extBut D.l1z) hu fun g2 p2 k2 => wpAny_pure (wpAny_pure ?_))
  refine wpAny_bind (wpAny_bind (wpAny_holding ?_))
  show wpAny (model prog w) A (Builtin.SmallTypes.nextOf (.ref q) >>= _) _ E _
  refine wpAny_bind (RZ.nextOf_tuple_item (s := { s with heap := g2 }) ((hq.extBut k1.extBut D.i2z).extBut k2.extBut D.i12.symm) ((hb.extBut k1.extBut D.l2z).extBut k2.extBut D.l2i1) hv fun g3 q3 k3 => wpAny_pure (wpAny_pure (wpAny_pure ?_)))
  show wpAny (model prog w) A (newTuple [u, v] >>= _) _ E _
  refine wpAny_bind (wpAny_newTuple (wpAny_pure ⟨_, rfl, ?_⟩))
  have sz : g3.objs.size = s.heap.objs.size := by rw [k3.1, k2.1, k1.1]
  have z3 : IsZipHeld g3 z TI TO Th true := k3.extBut _ _ D.i2z.symm (k2.extBut _ _ D.i1z.symm z1)
  have p3 : g3.IsTupleIter p la (m + 1) := p2.extBut k3.extBut D.i12
  show Q (.ref g3.objs.size) _
  have hn : IsPair (g3.push { cls := .type "tuple", data := .seq #[u, v] }) g3.objs.size u v := Heap.get?_push_size _ rfl
  have s4 : (g3.push { cls := .type "tuple", data := .seq #[u, v] }).objs.size = g3.objs.size + 1 := Heap.size_push ..
  rw [sz] at hn s4 ⊢
  exact post _ (Heap.get?_push_of_some _ z3) (p3.at fun _ y => Heap.get?_push_of_some _ y) (q3.at fun _ y => Heap.get?_push_of_some _ y) hn s4 fun c o c1 c2 c3 y => Heap.get?_push_of_some _ (k3.extBut _ _ c3 (k2.extBut _ _ c2 (k1.extBut _ _ c1 y)))
theorem held_end {z TI TO Th p q la lb : Addr} {fl : Bool} {ob : Obj} {m n : Nat} {us vs : Array Value} {Q : Fin → Shared → Prop} (hh : A.handled = none) (D : ZipApart z TI TO p q la lb) (hz : IsZipHeld s.heap z TI TO Th fl) (hT : s.heap.get? Th = some ob) (hTI : IsPair s.heap TI (.ref p) (.ref q))
    (hp : s.heap.IsTupleIter p la m) (hq : s.heap.IsTupleIter q lb n) (ha : s.heap.IsTuple la us) (hb : s.heap.IsTuple lb vs) (no : us[m]? = none ∨ vs[n]? = none)
    (post : ∀ g e, (∀ c o, c ≠ z → c ≠ p → c ≠ q → s.heap.get? c = some o → g.get? c = some o) → (∃ o, g.get? e = some o ∧ o.cls = .type "StopIteration") → E (.ref e) { s with heap := g }) :
    wpAny (model prog w) A (Builtin.«zip.__next__» ⟨[.ref z], []⟩) Q E s := by
  show wpAny (model prog w) A (field (.ref z) 2 >>= _) _ E s
  refine wpAny_bind (wpAny_field hz rfl (x := Value.bool false) rfl ?_)
  show wpAny (model prog w) A (field (.ref z) 3 >>= _) _ E s
  refine wpAny_bind (wpAny_field hz rfl (x := Value.ref TI) rfl ?_)
  refine wpAny_bind (m := seqItems? (.ref TI)) (wpAny_seqItems hTI rfl ?_)
  show wpAny (model prog w) A (Builtin.SmallTypes.ownedTupleIsFree (.ref z) >>= _) _ E s
  refine wpAny_bind (wpAny_tupleHeld_zip hz hT fun g1 z1 k1 => ?_)
  simp only [Bool.false_eq_true, if_false]
  refine wpAny_bind ?_
  rw [← Array.forIn_toList]
  simp only [List.forIn_cons, List.forIn_nil]
  refine wpAny_bind (wpAny_bind (wpAny_holding ?_))
  show wpAny (model prog w) A (Builtin.SmallTypes.nextOf (.ref p) >>= _) _ E _
  cases hu : us[m]? with
  | none =>
    refine wpAny_bind (RZ.nextOf_tuple_end (s := { s with heap := g1 }) hh (hp.extBut k1.extBut D.i1z) (ha.extBut k1.extBut D.l1z) hu fun g2 e k2 he => ?_)
    exact post g2 e (fun c o c1 c2 _ y => k2 _ _ c2 (k1.extBut _ _ c1 y)) he
  | some u =>
    have hv : vs[n]? = none := by rcases no with y | y; rw [hu] at y; cases y; exact y
    refine wpAny_bind (RZ.nextOf_tuple_item (s := { s with heap := g1 }) (hp.extBut k1.extBut D.i1z) (ha.extBut k1.extBut D.l1z) hu fun g2 p2 k2 => wpAny_pure (wpAny_pure ?_))
    refine wpAny_bind (wpAny_bind (wpAny_holding ?_))
    show wpAny (model prog w) A (Builtin.SmallTypes.nextOf (.ref q) >>= _) _ E _
    refine wpAny_bind (RZ.nextOf_tuple_end (s := { s with heap := g2 }) hh ((hq.extBut k1.extBut D.i2z).extBut k2.extBut D.i12.symm) ((hb.extBut k1.extBut D.l2z).extBut k2.extBut D.l2i1) hv fun g3 e k3 he => ?_)
    exact post g3 e (fun c o c1 c2 c3 y => k3 _ _ c3 (k2.extBut _ _ c2 (k1.extBut _ _ c1 y))) he
theorem next_held {z TI TO Th p q la lb : Addr} {fl : Bool} {ob : Obj} {m n : Nat} {us vs : Array Value} {u v : Value} {Q : Option Value → Shared → Prop} (D : ZipApart z TI TO p q la lb) (hz : IsZipHeld s.heap z TI TO Th fl) (hT : s.heap.get? Th = some ob) (hTI : IsPair s.heap TI (.ref p) (.ref q))
    (hp : s.heap.IsTupleIter p la m) (hq : s.heap.IsTupleIter q lb n) (ha : s.heap.IsTuple la us) (hb : s.heap.IsTuple lb vs) (hu : us[m]? = some u) (hv : vs[n]? = some v)
    (post : ∀ g, IsZipHeld g z TI TO Th true → g.IsTupleIter p la (m + 1) → g.IsTupleIter q lb (n + 1) → IsPair g s.heap.objs.size u v → g.objs.size = s.heap.objs.size + 1 → (∀ c o, c ≠ z → c ≠ p → c ≠ q → s.heap.get? c = some o → g.get? c = some o) → Q (some (.ref s.heap.objs.size)) { s with heap := g }) :
    wpAny (model prog w) A (pyNext (.ref z)) Q E s := by
  have ty : s.TypeIs (.ref z) "zip" := ⟨_, hz, rfl⟩
  unfold pyNext
  refine wpAny_bind (wpAny_attempt (wpAny_callSpecial?_slot (name := Str.ofString "__next__") ty F.slot_zip_next (wpAny_call_entry F.slot_zip_next ty F.entry_zip_next ?_ (F.args_zip_next_1 _))))
  exact held_item D hz hT hTI hp hq ha hb hu hv fun g a1 a2 a3 a4 a5 a6 => wpAny_pure (post g a1 a2 a3 a4 a5 a6)
theorem next_held_end {z TI TO Th p q la lb : Addr} {fl : Bool} {ob : Obj} {m n : Nat} {us vs : Array Value} {Q : Option Value → Shared → Prop} (hh : A.handled = none) (D : ZipApart z TI TO p q la lb) (hz : IsZipHeld s.heap z TI TO Th fl) (hT : s.heap.get? Th = some ob) (hTI : IsPair s.heap TI (.ref p) (.ref q))
    (hp : s.heap.IsTupleIter p la m) (hq : s.heap.IsTupleIter q lb n) (ha : s.heap.IsTuple la us) (hb : s.heap.IsTuple lb vs) (no : us[m]? = none ∨ vs[n]? = none)
    (post : ∀ g, (∀ c o, c ≠ z → c ≠ p → c ≠ q → s.heap.get? c = some o → g.get? c = some o) → Q none { s with heap := g }) : wpAny (model prog w) A (pyNext (.ref z)) Q E s := by
  have ty : s.TypeIs (.ref z) "zip" := ⟨_, hz, rfl⟩
  unfold pyNext
  refine wpAny_bind (wpAny_attempt (wpAny_callSpecial?_slot (name := Str.ofString "__next__") ty F.slot_zip_next (wpAny_call_entry F.slot_zip_next ty F.entry_zip_next ?_ (F.args_zip_next_1 _))))
  refine held_end hh D hz hT hTI hp hq ha hb no fun g e k he => ?_
  obtain ⟨o, ho, hc⟩ := he
  exact wpAny_bind (wpAny_isInstance (T := "StopIteration") (b := true) ⟨o, ho, hc⟩ isSubtype_stop (wpAny_pure (post _ k)))

/-! ### the list grows -/
abbrev lstO (acc : Array Value) (c : Nat) : Obj := { cls := .type "list", dict := none, data := .seq acc c, slots := #[] }
theorem ext_turns {R : Result → Shared → Prop} {S it : Addr} {res : Value} (I : Nat → Shared → Prop)
    (turn : ∀ n s, I n s → wpAny (model prog w) A.in1 (pyNext (.ref it)) (fun r s1 => match r with
      | none => R (.ok (.ret res)) s1
      | some v => ∃ acc c, s1.heap.get? S = some (lstO acc c) ∧ acc.size < sizeLine ∧ ∃ m, m < n ∧ I m { s1 with heap := s1.heap.update S (Obj.mapSeq (·.push v)) }) (fun e s' => R (.error e) s') s) :
    ∀ (n : Nat) (s : Shared), I n s → codeAny (model prog w) A (.builtin "list.extend.loop" ⟨[.ref S, .ref it, res], []⟩) R s := by
  intro n
  induction n using Nat.strongRecOn with
  | _ n ih =>
    intro s hI
    refine codeAny_builtin F.entry_extend_loop ?_
    rw [Around.under_plainId F.plain_extend_loop _]
    show wpAny (model prog w) A.in1 (pyNext (.ref it) >>= _) _ _ s
    refine wpAny_bind (wpAny_mono (turn n s hI) (fun r s1 h => ?_) fun _ _ h => h)
    cases r with
    | none => exact wpAny_pure h
    | some v =>
      obtain ⟨acc, c, e, l, m, lt, hm⟩ := h
      show wpAny (model prog w) A.in1 (updateSeq S (·.push v) >>= _) _ _ _
      refine wpAny_bind (wpAny_updateSeq e rfl (wpAny_pure ⟨plainId_quiet F.plain_extend_loop _, ih m lt _ hm⟩) (by omega) (by show (acc.push v).size ≤ sizeLine + 1; rw [Array.size_push]; omega))

theorem zip_no_len : typeLookup (.type "zip") "__len__" = pure none := by rw [typeLookup_type, builtinLookup_eq_fast]; kernel_rfl
theorem zip_no_hint : typeLookup (.type "zip") "__length_hint__" = pure none := by rw [typeLookup_type, builtinLookup_eq_fast]; kernel_rfl

/-- list(z): an empty list, then the turns -/
theorem call_list_zip {z TI TO : Addr} {f : Value} {Q : Value → Shared → Prop} (hz : IsZip s.heap z TI TO f)
    (h : ∀ g c, (∀ b o, s.heap.get? b = some o → g.get? b = some o) → g.get? s.heap.objs.size = some (lstO #[] c) → g.objs.size = s.heap.objs.size + 1 →
      codeAny (model prog w) A.in1 (.builtin "list.extend.loop" ⟨[.ref s.heap.objs.size, .ref z, .none], []⟩) (wants (fun r s₂ => r = .none ∧ Q (.ref s.heap.objs.size) s₂) E) { s with heap := g }) :
    wpAny (model prog w) A (call (.type "list") [.ref z]) Q E s := by
  have lt : z < s.heap.objs.size := Heap.lt_size hz
  have ne : s.heap.objs.size ≠ z := Nat.ne_of_gt lt
  refine callType_codes (Q₁ := fun obj s₁ => obj = .ref s.heap.objs.size ∧ s₁ = { s with heap := s.heap.push { cls := .type "list", data := .seq #[] } }) F.called_list (F.typeCall_list_1 _) F.entry_list_init (code_list_new _ ⟨rfl, rfl⟩) fun obj s₁ h₁ => ?_
  obtain ⟨rfl, rfl⟩ := h₁
  have e0 : (s.heap.push { cls := .type "list", data := .seq #[] }).get? s.heap.objs.size = some { cls := .type "list", data := .seq #[] } := Heap.get?_push_size _ rfl
  refine ⟨⟨_, e0, rfl⟩, F.args_list_init_2 _ _, ?_⟩
  show wpAny (model prog w) A.in1.in1 (do let old ← Builtin.List.listItems (.ref s.heap.objs.size); Builtin.List.listUpdate (.ref s.heap.objs.size) (fun _ => #[]); letGo old.toList.reverse; Builtin.List.listExtendWith (.ref s.heap.objs.size) (.ref z) .none) _ _ _
  refine wpAny_bind ?_
  unfold Builtin.List.listItems
  refine wpAny_bind (wpAny_seqItems e0 rfl (wpAny_pure ?_))
  show wpAny (model prog w) A.in1.in1 (updateSeq s.heap.objs.size (fun _ => #[]) >>= fun _ => letGo (#[] : Array Value).toList.reverse >>= fun _ => Builtin.List.listExtendWith (.ref s.heap.objs.size) (.ref z) .none) _ _ _
  refine wpAny_bind (wpAny_updateSeq e0 rfl ?_)
  have e1 := Heap.get?_update_self (Obj.mapSeq (fun _ => (#[] : Array Value))) e0 rfl
  have up1 : ∀ b o, s.heap.get? b = some o → ((s.heap.push { cls := .type "list", data := .seq #[] }).update s.heap.objs.size (Obj.mapSeq (fun _ => (#[] : Array Value)))).get? b = some o :=
    fun b o y => (Heap.get?_update_other _ _ (Nat.ne_of_gt (Heap.lt_size y))).trans (Heap.get?_push_of_some _ y)
  have n1 : ((s.heap.push { cls := .type "list", data := .seq #[] }).update s.heap.objs.size (Obj.mapSeq (fun _ => (#[] : Array Value)))).objs.size = s.heap.objs.size + 1 := by rw [Heap.size_update, Heap.size_push]
  refine wpAny_bind (wpAny_letGo ?_)
  revert e1 up1 n1
  generalize (s.heap.push { cls := .type "list", data := .seq #[] }).update s.heap.objs.size (Obj.mapSeq (fun _ => (#[] : Array Value))) = g1
  intro e1 up1 n1
  have ty : ∀ g : Heap, (∀ b o, s.heap.get? b = some o → g.get? b = some o) → ({ s with heap := g } : Shared).TypeIs (.ref z) "zip" := fun g k => ⟨_, k _ _ hz, rfl⟩
  unfold Builtin.List.listExtendWith
  refine wpAny_bind (wpAny_typeOf (ty g1 up1) ?_)
  have c1 : Builtin.List.listSameRef (.ref s.heap.objs.size) (.ref z) = false := by simp [Builtin.List.listSameRef, ne]
  have c2 : (Value.type "zip" == Value.type "list") = false := by decide
  have c3 : (Value.type "zip" == Value.type "tuple") = false := by decide
  simp only [c1, c2, c3, Bool.or_false, Bool.false_eq_true, if_false]
  refine wpAny_bind (wpAny_pyIter_zip (up1 _ _ hz) (wpAny_bind (wpAny_holding ?_)))
  unfold Builtin.List.listLengthHint
  refine wpAny_bind (wpAny_specialOf (ty g1 up1) zip_no_len ?_)
  show wpAny (model prog w) _ (specialOf (Value.ref z) (Str.ofString "__length_hint__") >>= _) _ _ _
  refine wpAny_bind (wpAny_specialOf (ty g1 up1) zip_no_hint (wpAny_pure ?_))
  show wpAny (model prog w) A.in1.in1 (rule "list.extend.makes-room" >>= fun _ => Builtin.List.listTouch (.ref s.heap.objs.size) >>= fun _ => again (.builtin "list.extend.loop" ⟨[.ref s.heap.objs.size, .ref z, .none], []⟩)) _ _ _
  refine wpAny_bind (wpAny_rule (wpAny_bind ?_))
  show wpAny (model prog w) A.in1.in1 (updateSeq s.heap.objs.size (·.push .none) >>= fun _ => updateSeq s.heap.objs.size (·.pop)) _ _ _
  refine wpAny_bind (wpAny_updateSeq e1 rfl ?_)
  have e2 := Heap.get?_update_self (Obj.mapSeq (·.push Value.none)) e1 rfl
  refine wpAny_updateSeq (hz := by seq_fits) e2 rfl (wpAny_pure ⟨plainId_quiet F.plain_extend_loop _, ?_⟩)
  have e3 := Heap.get?_update_self (Obj.mapSeq (·.pop)) e2 rfl
  refine h _ _ (fun b o y => ?_) e3 (by rw [Heap.size_update, Heap.size_update, n1])
  have nb := Nat.ne_of_gt (Heap.lt_size y)
  exact (Heap.get?_update_other _ _ nb).trans ((Heap.get?_update_other _ _ nb).trans (up1 b o y))
end
end Yz

/-! ### as an expression -/
namespace Y
open PySem PySem.Spec PyProof.Rows L2
theorem nAd {a b : Nat} (h : a ≠ b) : a ≠ b := h
/-- pairs laid one by one -/
inductive Zd (xs ys : List V) (H : Hp) : Nat → List Addr → Hp → Prop
  | nil : Zd xs ys H 0 [] H
  | snoc {i : Nat} {ts : List Addr} {H' : Hp} {T : Addr} {x y : V} (h : Zd xs ys H i ts H') (hx : xs[i]? = some x) (hy : ys[i]? = some y) (n : H' T = none) : Zd xs ys H (i + 1) (ts ++ [T]) (upd H' T (.tup [x, y]))
theorem Zd.len {xs ys : List V} {H H' : Hp} {i : Nat} {ts : List Addr} (h : Zd xs ys H i ts H') : ts.length = i := by
  induction h with
  | nil => rfl
  | snoc _ _ _ _ ih => rw [List.length_append, ih]; rfl
theorem Zd.keep {xs ys : List V} {H H' : Hp} {i : Nat} {ts : List Addr} (h : Zd xs ys H i ts H') {b : Addr} {o : HO} (e : H b = some o) : H' b = some o := by
  induction h with
  | nil => exact e
  | snoc _ _ _ n ih => rw [upd_ne (ne_of_none ih n)]; exact ih
theorem vals_refs : ∀ ts : List Addr, Vals (ts.map V.ref) (ts.map Value.ref)
  | [] => .nil
  | _ :: ts => .cons rfl (vals_refs ts)
def tListZip (K : PySem.W.Frag) (ta : TA) : TE := fun σ H Q => ta σ H fun vs H1 => ∃ a b xs ys, vs = [.ref a, .ref b] ∧ SqT K H1 a xs ∧ SqT K H1 b ys ∧
  ∀ (l : Addr) (ts : List Addr) (H' : Hp), Zd xs ys H1 (min xs.length ys.length) ts H' → H' l = none → Q (.ref l) (upd H' l (.lst (ts.map .ref)))
theorem pe_listzip {X : L2.Cx} {a b : Expr} {ta : TA} {p p2 q pos : Pos} (hg : Gl X "list") (hm : X.mg "list" = none) (hg2 : Gl X "zip") (hm2 : X.mg "zip" = none) (ha : PA X [a, b] ta)
    (hs : starEach [a, b] X.env = (false, eval a X.env) :: starEach [b] X.env) (hpl : (backTo q (starEach [b] X.env)).any (·.1) = false) (hc : X.calm = true) :
    PE X (.Call (.Name "list" p) [.Call (.Name "zip" p2) [a, b] [] q] [] pos) (tListZip X.K ta) := by
  refine ⟨fun pins s σ H Q I h => ?_⟩
  refine Call_ (ld_blt I hg hm PyProof.Rows.boot_list (PyProof.Rows.callWith_type1 (PyProof.Rows.args_cons ?_ rfl) rfl rfl))
  refine Call_ (ld_blt I hg2 hm2 PyProof.Rows.boot_zip (PyProof.Rows.callWith_type1 (thn (ha.run q pins s σ H _ I h) fun us s1 ⟨vs, H1, I1, r1, q1⟩ => ?_) hs hpl))
  obtain ⟨la, lb, xs, ys, ex, hqx, hqy, q1⟩ := q1
  subst ex
  cases r1 with
  | cons r rr =>
  cases rr with
  | cons r' rr =>
  cases rr
  cases r
  cases r'
  obtain ⟨us, ru, pu, lu⟩ := I1.tuple hqx
  obtain ⟨ws, rw_, pw, lw⟩ := I1.tuple hqy
  obtain ⟨o1, ho1, c1⟩ := id pu
  obtain ⟨o2, ho2, c2⟩ := id pw
  have l1 := ru.length
  have l2 := rw_.length
  refine RZ.call_zipT (show s1.heap.IsTuple la us.toArray from pu) (show s1.heap.IsTuple lb ws.toArray from pw) fun g hz hTI hTO hp hq hsz hk => ?_
  refine PyProof.Rows.args_nil ?_
  have I2 : L2.Inv X pins σ H1 { s1 with heap := g } := I1.kept (t' := s1.toks) hk
  generalize hN : s1.heap.objs.size = N at *
  have D := PySem.W.ktu_apart N la lb (hN ▸ Heap.lt_size ho1) (hN ▸ Heap.lt_size ho2)
  refine Yz.call_list_zip (s := { s1 with heap := g }) hz fun g2 c hk2 hS hsz2 => ?_
  have I3 : L2.Inv X pins σ H1 { s1 with heap := g2 } := I2.kept (t' := s1.toks) hk2
  have hSN : g.objs.size = N + 5 := hsz
  rw [hSN] at hS hsz2 ⊢
  have fp : ∀ k : Nat, k < 6 → FpOk X pins H1 (N + k) := fun k _ => I1.fpOk (by omega) (I1.hok.fresh (by omega))
  refine Yz.ext_turns (fun n s => ∃ i ts H' acc c, n = min xs.length ys.length - i ∧ i ≤ min xs.length ys.length ∧ Zd xs ys H1 i ts H' ∧ L2.Inv X pins σ H' s ∧ s.heap.get? (N + 5) = some (Yz.lstO acc c) ∧ acc.toList = ts.map Value.ref ∧
    (∀ k : Nat, k < 6 → H' (N + k) = none) ∧ (∀ b o, s1.heap.get? b = some o → s.heap.get? b = some o) ∧ IsPair s.heap (N + 2) (.ref N) (.ref (N + 1)) ∧ s.heap.IsTupleIter N la i ∧ s.heap.IsTupleIter (N + 1) lb i ∧
    ((IsZip s.heap (N + 4) (N + 2) (N + 3) .none ∧ ∃ x y, IsPair s.heap (N + 3) x y) ∨ ∃ Th fl ob, IsZipHeld s.heap (N + 4) (N + 2) (N + 3) Th fl ∧ s.heap.get? Th = some ob ∧ ∀ k : Nat, k < 6 → Th ≠ N + k)) ?_ _ _
    ⟨0, [], H1, #[], c, rfl, Nat.zero_le _, .nil, I3, hS, rfl, fun k hk => (fp k hk).1, fun b o e => hk2 _ _ (hk b o e), hk2 _ _ hTI, hp.at fun o e => hk2 _ o e, hq.at fun o e => hk2 _ o e, .inl ⟨hk2 _ _ hz, _, _, hk2 _ _ hTO⟩⟩
  rintro n s2 ⟨i, ts, H', acc, c, rfl, hi, zd, I4, hS, hacc, free, old, hTI, hp, hq, st⟩
  have fpk : ∀ k : Nat, k < 6 → FpOk X pins H' (N + k) := fun k hk => by
    obtain ⟨_, f2, f3, f4, f5, f6⟩ := fp k hk
    exact ⟨free k hk, f2, f3, f4, f5, f6⟩
  have tu : s2.heap.IsTuple la us.toArray := ⟨o1, old _ _ ho1, c1⟩
  have tw : s2.heap.IsTuple lb ws.toArray := ⟨o2, old _ _ ho2, c2⟩
  have big : N + 5 < s2.heap.objs.size := Heap.lt_size hS
  have ml : min xs.length ys.length ≤ sizeLine := Nat.le_trans (Nat.min_le_left _ _) lu
  have fourOk : ∀ b ∈ [N, N + 1, N + 3, N + 4], FpOk X pins H' b := fun b hb => by
    have e : b = N + 0 ∨ b = N + 1 ∨ b = N + 3 ∨ b = N + 4 := by simpa using hb
    rcases e with z | z | z | z
    · rw [z]; exact fpk 0 (by omega)
    · rw [z]; exact fpk 1 (by omega)
    · rw [z]; exact fpk 3 (by omega)
    · rw [z]; exact fpk 4 (by omega)
  by_cases hlt : i < min xs.length ys.length
  · have hx : xs[i]? = some xs[i] := List.getElem?_eq_getElem (by omega)
    have hy : ys[i]? = some ys[i] := List.getElem?_eq_getElem (by omega)
    obtain ⟨u, hu, ruv⟩ := ru.get hx
    obtain ⟨v, hv, rwv⟩ := rw_.get hy
    have al : acc.size = i := by rw [← Array.length_toList, hacc, List.length_map, zd.len]
    have go : ∀ g3 : Heap, (∀ c o, c ≠ N + 4 → c ≠ N + 3 → c ≠ N → c ≠ N + 1 → s2.heap.get? c = some o → g3.get? c = some o) → IsZipHeld g3 (N + 4) (N + 2) (N + 3) s2.heap.objs.size false ∨ (∃ Th ob, IsZipHeld g3 (N + 4) (N + 2) (N + 3) Th true ∧ g3.get? Th = some ob ∧ ∀ k : Nat, k < 6 → Th ≠ N + k) →
        g3.IsTupleIter N la (i + 1) → g3.IsTupleIter (N + 1) lb (i + 1) → IsPair g3 s2.heap.objs.size u v → ∃ acc c, g3.get? (N + 5) = some (Yz.lstO acc c) ∧ acc.size < sizeLine ∧ ∃ m, m < min xs.length ys.length - i ∧
        ∃ i ts H' acc c, m = min xs.length ys.length - i ∧ i ≤ min xs.length ys.length ∧ Zd xs ys H1 i ts H' ∧ L2.Inv X pins σ H' { s2 with heap := g3.update (N + 5) (Obj.mapSeq (·.push (.ref s2.heap.objs.size))) } ∧ (g3.update (N + 5) (Obj.mapSeq (·.push (.ref s2.heap.objs.size)))).get? (N + 5) = some (Yz.lstO acc c) ∧ acc.toList = ts.map Value.ref ∧
          (∀ k : Nat, k < 6 → H' (N + k) = none) ∧ (∀ b o, s1.heap.get? b = some o → (g3.update (N + 5) (Obj.mapSeq (·.push (.ref s2.heap.objs.size)))).get? b = some o) ∧ IsPair (g3.update (N + 5) (Obj.mapSeq (·.push (.ref s2.heap.objs.size)))) (N + 2) (.ref N) (.ref (N + 1)) ∧
          (g3.update (N + 5) (Obj.mapSeq (·.push (.ref s2.heap.objs.size)))).IsTupleIter N la i ∧ (g3.update (N + 5) (Obj.mapSeq (·.push (.ref s2.heap.objs.size)))).IsTupleIter (N + 1) lb i ∧
          ((IsZip (g3.update (N + 5) (Obj.mapSeq (·.push (.ref s2.heap.objs.size)))) (N + 4) (N + 2) (N + 3) .none ∧ ∃ x y, IsPair (g3.update (N + 5) (Obj.mapSeq (·.push (.ref s2.heap.objs.size)))) (N + 3) x y) ∨
            ∃ Th fl ob, IsZipHeld (g3.update (N + 5) (Obj.mapSeq (·.push (.ref s2.heap.objs.size)))) (N + 4) (N + 2) (N + 3) Th fl ∧ (g3.update (N + 5) (Obj.mapSeq (·.push (.ref s2.heap.objs.size)))).get? Th = some ob ∧ ∀ k : Nat, k < 6 → Th ≠ N + k) := by
      intro g3 k3 z3 p3 q3 pr
      have hS3 : g3.get? (N + 5) = some (Yz.lstO acc c) := k3 _ _ (nAd (by omega)) (nAd (by omega)) (nAd (by omega)) (nAd (by omega)) hS
      have ko : ∀ b o, b ≠ N + 5 → g3.get? b = some o → (g3.update (N + 5) (Obj.mapSeq (·.push (.ref s2.heap.objs.size)))).get? b = some o := fun b o n e => (Heap.get?_update_other _ _ (Ne.symm n)).trans e
      have new : ObjOk X.prog X.w (upd H' s2.heap.objs.size (.tup [xs[i], ys[i]])) g3 s2.heap.objs.size (.tup [xs[i], ys[i]]) := ⟨by show 2 ≤ sizeLine; decide, [u, v], .cons ruv (.cons rwv .nil), ⟨_, pr, rfl, _, rfl⟩⟩
      have I5 : L2.Inv X pins σ (upd H' s2.heap.objs.size (.tup [xs[i], ys[i]])) { s2 with heap := g3 } :=
        L2.Inv.turnedNew (t' := s2.toks) (ch := [N, N + 1, N + 3, N + 4]) I4 (fun b o hb e => by
          simp only [List.mem_cons, List.not_mem_nil, or_false, not_or] at hb
          exact k3 b o hb.2.2.2 hb.2.2.1 hb.1 hb.2.1 e) fourOk (Nat.le_refl _) new
      have free5 : ∀ k : Nat, k < 6 → upd H' s2.heap.objs.size (.tup [xs[i], ys[i]]) (N + k) = none := fun k hk => by rw [upd_ne (nAd (by omega))]; exact free k hk
      have I6 : L2.Inv X pins σ (upd H' s2.heap.objs.size (.tup [xs[i], ys[i]])) { s2 with heap := g3.update (N + 5) (Obj.mapSeq (·.push (.ref s2.heap.objs.size))) } :=
        L2.Inv.turnedL (s := { s2 with heap := g3 }) (t' := s2.toks) (ch := [N + 5]) I5 (fun b o hb e => ko b o (by simpa using hb) e) fun b hb => by
          have e : b = N + 5 := by simpa using hb
          rw [e]
          obtain ⟨_, f2, f3, f4, f5, f6⟩ := fpk 5 (by omega)
          exact ⟨free5 5 (by omega), f2, f3, f4, f5, f6⟩
      have hS4 := Heap.get?_update_self (Obj.mapSeq (·.push (.ref s2.heap.objs.size))) hS3 rfl
      refine ⟨acc, c, hS3, by omega, _, ?_, i + 1, ts ++ [s2.heap.objs.size], _, _, _, rfl, hlt, .snoc zd hx hy (I4.hok.fresh (Nat.le_refl _)), I6, hS4, by rw [Array.toList_push, hacc]; simp, free5, fun b o e => ?_, ko _ _ (nAd (by omega)) (k3 _ _ (nAd (by omega)) (nAd (by omega)) (nAd (by omega)) (nAd (by omega)) hTI),
        p3.at fun o e => ko _ o (nAd (by omega)) e, q3.at fun o e => ko _ o (nAd (by omega)) e, .inr ?_⟩
      · omega
      · have lb_ : @LT.lt Nat _ b N := by rw [← hN]; exact Heap.lt_size e
        exact ko b o (nAd (by omega)) (k3 b o (nAd (by omega)) (nAd (by omega)) (nAd (by omega)) (nAd (by omega)) (old b o e))
      · rcases z3 with z3 | ⟨Th, ob, z3, hT, nT⟩
        · exact ⟨_, _, _, ko _ _ (nAd (by omega)) z3, ko _ _ (nAd (by omega)) pr, fun k hk => nAd (by omega)⟩
        · exact ⟨_, _, _, ko _ _ (nAd (by omega)) z3, ko _ _ (nT 5 (by omega)) hT, nT⟩
    rcases st with ⟨hz, x0, y0, hTO⟩ | ⟨Th, fl, ob, hz, hT, nT⟩
    · exact RZ.pyNext_zipT_item D hz hTI hTO hp hq tu tw (by simpa using hu) (by simpa using hv) fun g3 a1 a2 a3 a4 a5 a6 a7 => go g3 a7 (.inl a1) a3 a4 a5
    · exact Yz.next_held D hz hT hTI hp hq tu tw (by simpa using hu) (by simpa using hv) fun g3 a1 a2 a3 a4 a5 a6 => go g3 (fun c o c1 _ c3 c4 e => a6 c o c1 c3 c4 e) (.inr ⟨Th, ob, a1, a6 _ _ (nT 4 (by omega)) (nT 0 (by omega)) (nT 1 (by omega)) hT, nT⟩) a2 a3 a4
  · have ei : i = min xs.length ys.length := by omega
    have no : us.toArray[i]? = none ∨ ws.toArray[i]? = none := by
      rcases Nat.le_total xs.length ys.length with z | z
      · left; simp; omega
      · right; simp; omega
    have fin : ∀ g3 : Heap, (∀ c o, c ≠ N + 4 → c ≠ N + 3 → c ≠ N → c ≠ N + 1 → s2.heap.get? c = some o → g3.get? c = some o) → ∃ x H'', L2.Inv X pins σ H'' { s2 with heap := g3 } ∧ RelV x (.ref (N + 5)) ∧ Q x H'' := by
      intro g3 k3
      have I5 : L2.Inv X pins σ H' { s2 with heap := g3 } := L2.Inv.turnedL (t' := s2.toks) (ch := [N, N + 1, N + 3, N + 4]) I4 (fun b o hb e => by
          simp only [List.mem_cons, List.not_mem_nil, or_false, not_or] at hb
          exact k3 b o hb.2.2.2 hb.2.2.1 hb.1 hb.2.1 e) fourOk
      have hS3 : g3.get? (N + 5) = some (Yz.lstO acc c) := k3 _ _ (nAd (by omega)) (nAd (by omega)) (nAd (by omega)) (nAd (by omega)) hS
      have new : ObjOk X.prog X.w (upd H' (N + 5) (.lst (ts.map .ref))) g3 (N + 5) (.lst (ts.map .ref)) := ⟨by rw [List.length_map, zd.len]; omega, acc.toList, c, by rw [hacc]; exact vals_refs ts, hS3⟩
      have I6 := L2.Inv.take (t' := s2.toks) (h' := g3) I5 (fun _ _ _ e => e) (fpk 5 (by omega)) new
      exact ⟨.ref (N + 5), _, I6, rfl, q1 _ _ _ (ei ▸ zd) (free 5 (by omega))⟩
    rcases st with ⟨hz, x0, y0, hTO⟩ | ⟨Th, fl, ob, hz, hT, nT⟩
    · exact RZ.pyNext_zipT_end (I4.ok.hd hc) D hz hTI hTO hp hq tu tw no fun g3 k3 => ⟨rfl, fin g3 k3⟩
    · exact Yz.next_held_end (I4.ok.hd hc) D hz hT hTI hp hq tu tw no fun g3 k3 => ⟨rfl, fin g3 fun c o c1 _ c3 c4 e => k3 c o c1 c3 c4 e⟩

theorem zd_ok {K : PySem.W.Frag} {T : Tab} {φ : List Addr} {H H' : Hp} {h : Hb} {ws us : List W} {xs ys : List V} (rl : Rel K T φ H h) (r1 : RVs K T φ H ws xs) (r2 : RVs K T φ H us ys) {i : Nat} {ts : List Addr} (z : Zd xs ys H i ts H') :
    Ex K φ φ H H' ∧ Rel K T φ H' h ∧ RVs K T φ H' (((ws.zip us).take i).map fun p => W.tup [p.1, p.2]) (ts.map V.ref) := by
  induction z with
  | nil => exact ⟨.refl, rl, .nil⟩
  | @snoc i ts H' t x y _ hx hy n ih =>
    obtain ⟨e, rl', rs⟩ := ih
    have lx := (List.getElem?_eq_some_iff.mp hx).1
    have ly := (List.getElem?_eq_some_iff.mp hy).1
    have l1 := r1.length
    have l2 := r2.length
    have gx : ws[i]? = some ws[i] := List.getElem?_eq_getElem (by omega)
    have gy : us[i]? = some us[i] := List.getElem?_eq_getElem (by omega)
    obtain ⟨x', hx', rx⟩ := r1.get gx
    obtain ⟨y', hy', ry⟩ := r2.get gy
    rw [hx] at hx'; cases hx'
    rw [hy] at hy'; cases hy'
    have e1 := Ex.side (o := .tup [x, y]) rl' n
    have hz : (ws.zip us)[i]? = some (ws[i], us[i]) := List.getElem?_zip_eq_some.mpr ⟨gx, gy⟩
    have ht : (ws.zip us).take (i + 1) = (ws.zip us).take i ++ [(ws[i], us[i])] := by rw [List.take_add_one, hz]; rfl
    rw [ht, List.map_append, List.map_append]
    refine ⟨e.trans e1, rl'.side n, (RVs.mono e1 _ _ rs).append (.cons (.mk_tup (rl'.fr n) (.inl upd_same) (.cons (RV.mono (e.trans e1) _ _ rx) (.cons (RV.mono (e.trans e1) _ _ ry) .nil))) .nil)⟩
section
variable {X : L2.Cx} {T : Tab} {Wx : WX} {C : Ctx} {a b : Expr} {ea eb : E} {pos : Pos}
theorem d_listzip {p p2 q : Pos} (hc : X.calm = true) (hg : Gl X "list") (hm : X.mg "list" = none) (hg2 : Gl X "zip") (hm2 : X.mg "zip" = none) (hn : notStar a = true) (hn2 : notStar b = true) (ha : D X T Wx C a ea) (hb : D X T Wx C b eb) :
    D X T Wx C (.Call (.Name "list" p) [.Call (.Name "zip" p2) [a, b] [] q] [] pos) (.lzip ea eb) := by
  refine (pe_listzip hg hm hg2 hm2 (pa_two ha hb hn hn2) (starEach_of hn) (noStars_any (by simp [noStars, hn2])) hc).weak fun σ H Q ⟨φ, σb, h, s, rl, p⟩ => ?_
  simp only [evalE] at p
  refine tR_mono (tR_of s rl p) ?_
  rintro v H1 ⟨φ1, w1, h1, _, x1, s1, rl1, r1, p1⟩
  refine tR_mono (tR_of s1 rl1 p1) ?_
  rintro u H2 ⟨φ2, w2, h2, _, x2, s2, rl2, r2, p2⟩
  replace r1 := RV.mono x2 _ _ r1
  split at p2
  · obtain ⟨l, vs, rfl, hq, k⟩ := r1.tup_inv
    obtain ⟨l2, vs2, rfl, hq2, k2⟩ := r2.tup_inv
    refine ⟨l, l2, vs, vs2, rfl, tup_seq hq, tup_seq hq2, fun m ts H' z n => ?_⟩
    obtain ⟨e, rl', rs⟩ := zd_ok rl2 k k2 z
    rw [List.take_of_length_le (by rw [List.length_zip, k.length, k2.length]; exact Nat.le_refl _)] at rs
    have e1 := Ex.side (o := .lst (ts.map V.ref)) rl' n
    exact p2 φ2 _ _ (e.trans e1) (rl'.side n) (.mk_lit (rl'.fr n) upd_same (RVs.mono e1 _ _ rs))
  · exact p2.elim
end
end Y
/-! Y7: targets and comprehensions. -/
namespace Y
open PySem PySem.Spec PyProof.Rows L2

def Tg.vs : Tg → List Nat
  | .nm i => [i]
  | .tp t => t.vs
  | .nil => []
  | .cons a r => a.vs ++ r.vs
/-- the slots but those at vs are as they were -/
def Same (vs : List Nat) (σ σ' : L2.St) : Prop := σ'.length = σ.length ∧ ∀ i, i ∉ vs → σ'[i]? = σ[i]?
theorem Same.refl {vs : List Nat} {σ : L2.St} : Same vs σ σ := ⟨rfl, fun _ _ => rfl⟩
theorem Same.trans {vs us : List Nat} {σ σ1 σ2 : L2.St} (a : Same vs σ σ1) (b : Same us σ1 σ2) : Same (vs ++ us) σ σ2 :=
  ⟨b.1.trans a.1, fun i h => by
    simp only [List.mem_append, not_or] at h
    exact (b.2 i h.2).trans (a.2 i h.1)⟩
theorem Same.set {i : Nat} {x : Option V} {σ : L2.St} : Same [i] σ (σ.set i x) := ⟨List.length_set, fun j h => by
  rw [List.getElem?_set_ne (fun e => h (by simp [e]))]⟩
theorem wipe_at (σ : L2.St) (i : Nat) : ∀ vs : List Nat, (L2.wipe σ vs)[i]? = if i ∈ vs then (if i < σ.length then some none else none) else σ[i]?
  | [] => by simp [L2.wipe]
  | v :: vs => by
    unfold L2.wipe
    by_cases h : v = i
    · subst h
      rw [List.getElem?_set]
      simp only [if_true, L2.wipe_length, List.mem_cons, true_or]
    · rw [List.getElem?_set_ne h, wipe_at σ i vs]
      have : (i ∈ v :: vs) ↔ i ∈ vs := by simp [Ne.symm h]
      simp only [this]
theorem Same.wipe {vs ws : List Nat} {σ σ' : L2.St} (h : Same vs σ σ') (k : ∀ i ∈ vs, i ∈ ws) : L2.wipe σ' ws = L2.wipe σ ws := by
  refine List.ext_getElem? fun i => ?_
  rw [wipe_at, wipe_at, h.1]
  by_cases q : i ∈ ws
  · rw [if_pos q, if_pos q]
  · rw [if_neg q, if_neg q]
    exact h.2 i (fun z => q (k i z))
theorem wipe_wipe (σ : L2.St) (ws : List Nat) : L2.wipe (L2.wipe σ ws) ws = L2.wipe σ ws := by
  refine List.ext_getElem? fun i => ?_
  rw [wipe_at, L2.wipe_length, wipe_at]
  by_cases q : i ∈ ws
  · rw [if_pos q, if_pos q]
  · rw [if_neg q, if_neg q]

section
variable {K : PySem.W.Frag} {T : Tab} {φ : List Addr} {H : Hp} {h : Hb} {σb : Sb} {σ : L2.St}
theorem RS.set {i : Nat} {w : W} {v : V} (s : RS K T φ H σb σ) (r : RV K T φ H w v) : RS K T φ H (σb.set i (some w)) (σ.set i (some v)) := by
  refine ⟨by rw [List.length_set, List.length_set]; exact s.len, fun j u e => ?_⟩
  by_cases h : i = j
  · subst h
    have hl : i < σb.length := by
      have := (List.getElem?_eq_some_iff.mp e).1
      simpa using this
    rw [List.getElem?_set_self hl] at e
    cases e
    exact ⟨v, by rw [List.getElem?_set_self (by rw [← s.len]; exact hl)], r⟩
  · rw [List.getElem?_set_ne h] at e
    rw [List.getElem?_set_ne h]
    exact s.at_ j u e
theorem RS.wipe (s : RS K T φ H σb σ) : ∀ vs : List Nat, RS K T φ H (wipe σb vs) (L2.wipe σ vs)
  | [] => s
  | v :: vs => by
    have ih := RS.wipe s vs
    unfold Y.wipe L2.wipe
    refine ⟨by rw [List.length_set, List.length_set]; exact ih.len, fun j u e => ?_⟩
    by_cases h : v = j
    · subst h
      have hl : v < (Y.wipe σb vs).length := by
        have := (List.getElem?_eq_some_iff.mp e).1
        simpa using this
      rw [List.getElem?_set_self hl] at e
      cases e
    · rw [List.getElem?_set_ne h] at e
      rw [List.getElem?_set_ne h]
      exact ih.at_ j u e
theorem RS.hide {T' : Tab} (g : Hid T T' H) (s : RS K T φ H σb σ) : RS K T' φ H σb σ := ⟨s.len, fun i w e => let ⟨v, h, r⟩ := s.at_ i w e; ⟨v, h, RV.hide g w v r⟩⟩
end

/-- a target stores as t does -/
def tG (K : PySem.W.Frag) (T : Tab) (t : Tg) : TG := fun v σ H Q => ∃ φ σb w σb', RS K T φ H σb σ ∧ RV K T φ H w v ∧ setT t w σb = some σb' ∧ ∀ σ', RS K T φ H σb' σ' → Same t.vs σ σ' → Q σ' H
def tGs (K : PySem.W.Frag) (T : Tab) (t : Tg) : TGs := fun vs σ H Q => ∃ φ σb ws σb', RS K T φ H σb σ ∧ RVs K T φ H ws vs ∧ setTs t ws σb = some σb' ∧ ∀ σ', RS K T φ H σb' σ' → Same t.vs σ σ' → Q σ' H
theorem _root_.L2.PG.weak {X : L2.Cx} {tg : Expr} {t t' : TG} (h : PG X tg t) (hm : ∀ v σ H Q, t' v σ H Q → t v σ H Q) : PG X tg t' :=
  ⟨fun pins s σ H v u Q I r q => h.run pins s σ H v u Q I r (hm _ _ _ _ q)⟩
theorem _root_.L2.PGs.weak {X : L2.Cx} {tg : List Expr} {t t' : TGs} (h : PGs X tg t) (hm : ∀ v σ H Q, t' v σ H Q → t v σ H Q) : PGs X tg t' :=
  ⟨fun pins s σ H v u Q I r q => h.run pins s σ H v u Q I r (hm _ _ _ _ q)⟩
def isName : Expr → Bool
  | .Name _ _ => true
  | _ => false
section
variable {X : L2.Cx} {T : Tab} {Wx : WX} {C : Ctx} {σ : L2.St} {φ : List Addr} {H : Hp} {h : Hb} {σb : Sb}
variable {a b c tg : Expr} {ea eb ec : E} {pos : Pos} {es : List Expr}
theorem dg_name {i : Nat} {x : Str} (hN : X.N.Nodup) (hi : X.N[i]? = some x) (hx : Loc X.env.scope x) (hf : X.fn x = true ∨ X.env.scope.names.lookup x = some .local) : PG X (.Name x pos) (tG X.K T (.nm i)) := by
  refine (pg_name hN hi hx hf).weak fun v σ H Q ⟨φ, σb, w, σb', s, r, e, q⟩ => ?_
  simp only [setT] at e
  split at e
  · cases e
    exact q _ (s.set r) Same.set
  · cases e
theorem dgs_nil : PGs X [] (tGs X.K T .nil) := by
  refine pgs_nil.weak fun vs σ H Q ⟨φ, σb, ws, σb', s, r, e, q⟩ => ?_
  cases ws with
  | nil =>
    simp only [RVs] at r
    cases e
    exact ⟨r, q _ s Same.refl⟩
  | cons w ws => simp [setTs] at e
theorem dgs_cons {t u : Tg} (h1 : PG X a (tG X.K T t)) (h2 : PGs X es (tGs X.K T u)) (hs : (assignEach (a :: es) X.env).map (·.2) = assign a X.env :: (assignEach es X.env).map (·.2)) : PGs X (a :: es) (tGs X.K T (.cons t u)) := by
  refine (pgs_cons h1 h2 hs).weak fun vs σ H Q ⟨φ, σb, ws, σb', s, r, e, q⟩ => ?_
  cases ws with
  | nil => simp [setTs] at e
  | cons w ws =>
    simp only [RVs] at r
    obtain ⟨v, vr, rfl, r1, r2⟩ := r
    simp only [setTs] at e
    split at e
    · rename_i σ1 e1
      refine ⟨v, vr, rfl, φ, σb, w, σ1, s, r1, e1, fun σ' s' m => ?_⟩
      exact ⟨φ, σ1, ws, σb', s', r2, e, fun σ2 s2 m2 => q σ2 s2 (m.trans m2)⟩
    · cases e
theorem setTs_len : ∀ {t : Tg} {ws : List W} {σb σb' : Sb} {n : Nat}, setTs t ws σb = some σb' → ∀ us : List W, (∃ σb σb', setTs t us σb = some σb') → us.length = ws.length
  | .nil, [], σb, σb', n, e, us, ⟨s, s', h⟩ => by cases us <;> simp [setTs] at h ⊢
  | .nil, _ :: _, _, _, _, e, _, _ => by simp [setTs] at e
  | .cons t r, [], _, _, _, e, _, _ => by simp [setTs] at e
  | .cons t r, x :: xs, σb, σb', n, e, us, ⟨s, s', h⟩ => by
    cases us with
    | nil => simp [setTs] at h
    | cons u us =>
      simp only [setTs] at e h
      split at e
      · split at h
        · simp only [List.length_cons]
          rw [setTs_len (n := n) e us ⟨_, _, h⟩]
        · cases h
      · cases e
  | .nm _, _, _, _, _, e, _, _ => by simp [setTs] at e
  | .tp _, _, _, _, _, e, _, _ => by simp [setTs] at e
/-- how many a target list takes -/
def Tg.n : Tg → Nat
  | .cons _ r => r.n + 1
  | _ => 0
theorem setTs_n : ∀ {t : Tg} {ws : List W} {σb σb' : Sb}, setTs t ws σb = some σb' → ws.length = t.n
  | .nil, [], _, _, e => rfl
  | .nil, _ :: _, _, _, e => by simp [setTs] at e
  | .cons t r, [], _, _, e => by simp [setTs] at e
  | .cons t r, x :: xs, σb, σb', e => by
    simp only [setTs] at e
    split at e
    · simp only [List.length_cons, Tg.n]; rw [setTs_n e]
    · cases e
  | .nm _, _, _, _, e => by simp [setTs] at e
  | .tp _, _, _, _, e => by simp [setTs] at e
theorem dg_tup {t : Tg} {k : Nat} (hc : X.calm = true) (h1 : PGs X es (tGs X.K T t)) (hn : (assignEach es X.env).length = t.n) (hst : (assignEach es X.env).findIdx? (·.1) = none) : PG X (.Tuple es k pos) (tG X.K T (.tp t)) := by
  refine (pg_tup hc h1 hn hst).weak fun v σ H Q ⟨φ, σb, w, σb', s, r, e, q⟩ => ?_
  simp only [setT] at e
  split at e
  · obtain ⟨a, vs, rfl, hq, k⟩ := r.tup_inv
    exact ⟨a, vs, rfl, tup_seq hq, by rw [← k.length]; exact setTs_n e, φ, σb, _, σb', s, k, e, q⟩
  · cases e

/-! ### comprehensions -/
/-- a comprehension's turn, as evalE has it -/
def turnC (C : Ctx) (elt : E) (t : Tg) (c : E) (own : List Nat) (σ : Sb) : W → Hb → R (Option W) := fun x h2 => match setT t x (wipe σ own) with
  | some σ' => (evalE C c σ' h2).bind fun b h3 => (match b with
    | .bl true => (evalE C elt σ' h3).bind fun v h4 => .ok (some v) h4
    | .bl false => .ok none h3
    | _ => .no)
  | none => .no
theorem evalE_cm (C : Ctx) (elt : E) (t : Tg) (it c : E) (own : List Nat) (σ : Sb) (h : Hb) : evalE C (.cm elt t it c own) σ h = (evalE C it σ h).bind fun w h1 => (match items h1 w with
    | some ws => (forC (turnC C elt t c own σ) (fun h' => stays h1 h' w) ws [] h1).bind fun vs h5 => .ok (.lit vs) h5
    | none => .no) := by rw [evalE]; rfl
theorem stays_refl (h : Hb) (w : W) (ws : List W) (e : items h w = some ws) : stays h h w = true := by
  cases w with
  | ref n =>
    simp only [items] at e
    simp only [stays]
    split at e
    · rename_i xs q
      rw [q]
      exact W.eqbs_refl xs
    · cases e
  | _ => rfl
def Wn : WX := fun _ _ _ _ => False
theorem turnC_some {elt c : E} {t : Tg} {own : List Nat} {σ : Sb} {x v : W} {h h' : Hb} (e : turnC C elt t c own σ x h = .ok (some v) h') : ∃ σ' h3, setT t x (wipe σ own) = some σ' ∧ evalE C c σ' h = .ok (.bl true) h3 ∧ evalE C elt σ' h3 = .ok v h' := by
  unfold turnC at e
  split at e
  · rename_i σ' q
    cases ec : evalE C c σ' h with
    | no => rw [ec] at e; cases e
    | ex e2 h2 => rw [ec] at e; cases e
    | ok b h2 =>
      rw [ec] at e
      simp only [R.bind] at e
      split at e
      · cases ee : evalE C elt σ' h2 with
        | no => rw [ee] at e; cases e
        | ex e2 h2 => rw [ee] at e; cases e
        | ok y h4 => rw [ee] at e; cases e; exact ⟨σ', h2, q, ec, ee⟩
      · cases e
      · cases e
  · cases e
theorem turnC_none {elt c : E} {t : Tg} {own : List Nat} {σ : Sb} {x : W} {h h' : Hb} (e : turnC C elt t c own σ x h = .ok none h') : ∃ σ', setT t x (wipe σ own) = some σ' ∧ evalE C c σ' h = .ok (.bl false) h' := by
  unfold turnC at e
  split at e
  · rename_i σ' q
    cases ec : evalE C c σ' h with
    | no => rw [ec] at e; cases e
    | ex e2 h2 => rw [ec] at e; cases e
    | ok b h2 =>
      rw [ec] at e
      simp only [R.bind] at e
      split at e
      · cases ee : evalE C elt σ' h2 with
        | no => rw [ee] at e; cases e
        | ex e2 h2 => rw [ee] at e; cases e
        | ok y h4 => rw [ee] at e; cases e
      · cases e; exact ⟨σ', q, ec⟩
      · cases e
  · cases e
/-! a hidden list grows: nobody sees it -/
section
variable {K : PySem.W.Frag} {T' : Tab} {D : Addr} {o : HO}
mutual
theorem RV.unseen (hd : T'.hid D) : ∀ (w : W) (v : V), RV K T' φ H w v → RV K T' φ (upd H D o) w v
  | .non, v, h => by simpa only [RV] using h
  | .bl b, v, h => by simpa only [RV] using h
  | .int i, v, h => by simpa only [RV] using h
  | .str s, v, h => by simpa only [RV] using h
  | .tup xs, v, h => by
    simp only [RV] at h ⊢
    obtain ⟨a, vs, e, h1, h2⟩ := h
    refine ⟨a, vs, e, h1.imp_left fun z => ⟨z.1, ?_⟩, RVs.unseen hd xs vs h2⟩
    have ne : a ≠ D := fun q => z.1.2 (by rw [q]; exact hd)
    unfold Rd; rw [upd_ne ne]; exact z.2
  | .lit xs, v, h => by
    simp only [RV] at h ⊢
    obtain ⟨a, vs, e, n, h1, h2⟩ := h
    exact ⟨a, vs, e, n, by rw [upd_ne (fun q => n.2 (by rw [q]; exact hd))]; exact h1, RVs.unseen hd xs vs h2⟩
  | .rol xs, v, h => by
    simp only [RV] at h ⊢
    obtain ⟨a, vs, e, h1, h2⟩ := h
    refine ⟨a, vs, e, h1.imp_left fun z => ⟨z.1, ?_⟩, RVs.unseen hd xs vs h2⟩
    have ne : a ≠ D := fun q => z.1.2 (by rw [q]; exact hd)
    unfold Rd; rw [upd_ne ne]; exact z.2
  | .obj c ns xs, v, h => by
    simp only [RV] at h ⊢
    obtain ⟨a, dx, fs, e, n, h1, h2, h3⟩ := h
    exact ⟨a, dx, fs, e, n, by rw [upd_ne (fun q => n.2 (by rw [q]; exact hd))]; exact h1, h2, RVs.unseen hd xs _ h3⟩
  | .ref n, v, h => by simpa only [RV] using h
theorem RVs.unseen (hd : T'.hid D) : ∀ (ws : List W) (vs : List V), RVs K T' φ H ws vs → RVs K T' φ (upd H D o) ws vs
  | [], vs, h => by simpa only [RVs] using h
  | w :: ws, vs, h => by
    simp only [RVs] at h ⊢
    obtain ⟨v, r, e, h1, h2⟩ := h
    exact ⟨v, r, e, RV.unseen hd w v h1, RVs.unseen hd ws r h2⟩
end
theorem Rel.unseen {h : Hb} (hd : T'.hid D) (n : D ∉ φ) (r : Rel K T' φ H h) : Rel K T' φ (upd H D o) h := by
  refine ⟨r.nd, r.len, fun a q => ?_, fun m u a h1 h2 => ?_⟩
  · by_cases z : a = D
    · exact ⟨o, by rw [z]; exact upd_same⟩
    · obtain ⟨u, e⟩ := r.hd a q
      exact ⟨u, by rw [upd_ne z]; exact e⟩
  · have ne : a ≠ D := fun z => n (by rw [← z]; exact List.mem_of_getElem? h2)
    have q := r.at_ m u a h1 h2
    cases u with
    | lst xs => obtain ⟨vs, e, k⟩ := q; exact ⟨vs, by rw [upd_ne ne]; exact e, RVs.unseen hd _ _ k⟩
    | ins c ns xs => obtain ⟨dx, fs, e, e2, k⟩ := q; exact ⟨dx, fs, by rw [upd_ne ne]; exact e, e2, RVs.unseen hd _ _ k⟩
    | dct ks vs => exact q
end
/-- what a comprehension's turns are to reach: D is the list made -/
def PostL (K : PySem.W.Frag) (T : Tab) (φ1 : List Addr) (H1 : Hp) (Q : VK) : R (List W) → Prop
  | .ok ws h' => ∀ (T' : Tab) φ' D vs H', Hid T T' H1 → T'.hid D → H1 D = none → Ex K φ1 φ' H1 H' → Rel K T' φ' H' h' → H' D = some (.lst vs) → D ∉ φ' → RVs K T' φ' H' ws vs → Q (.ref D) H'
  | _ => False
/-- the turns of a comprehension, from the walk's start -/
theorem lc_turns {elt c : E} {t : Tg} {own : List Nat} {w : W} {ws : List W} {J : It} {σ : L2.St} {φ1 : List Addr} {H1 : Hp} {h1 : Hb} {Q : VK} (K : PySem.W.Frag) (T : Tab) (ht : ∀ i ∈ t.vs, i ∈ own) (s : RS K T φ1 H1 σb σ) (rl : Rel K T φ1 H1 h1) (wk : Walks K T J φ1 H1 h1 w ws)
    (p : PostL K T φ1 H1 Q (forC (turnC C elt t c own σb) (fun h' => stays h1 h' w) ws [] h1))
    (D : Addr) (hD : H1 D = none) (T' : Tab) (hT' : T' = { T with hid := fun a => T.hid a ∨ a = D }) :
    ∃ W : Nat → Nat → Hp → Prop, (∃ m, W 0 m (upd H1 D (.lst []))) ∧ ∀ i m H, W i m H →
      (J.stop i H ∧ Q (.ref D) H) ∨ (J.go i H ∧ ∃ Nx : Hp → Prop, (∀ H', Nx H' → ∃ m', m' < m ∧ W (i + 1) m' H') ∧ ∀ x H', J.yld i H x H' → tG K T' t x (L2.wipe σ own) H' fun σ2 H2 => L2.wipe σ2 own = L2.wipe σ own ∧ tT K T' Wn (evalE C c) σ2 H2 fun b H3 =>
        if b = true then tI K T' Wn (evalE C elt) σ2 H3 fun y H4 => ∃ acc, H4 D = some (.lst acc) ∧ acc.length < sizeLine ∧ Nx (upd H4 D (.lst (acc ++ [y]))) else Nx H3) := by
  have g : Hid T T' H1 := by
    subst hT'
    exact ⟨rfl, fun a h => .inl h, fun a h => h.imp_right fun e => by rw [e]; exact hD⟩
  have hidD : T'.hid D := by subst hT'; exact .inr rfl
  obtain ⟨NX, hNX⟩ : ∃ NX : Nat → Hp → Prop, NX = fun i H => ∃ φ' h' acc vs, Ex K φ1 φ' H1 H ∧ Rel K T' φ' H h' ∧ H D = some (.lst vs) ∧ D ∉ φ' ∧ RVs K T' φ' H acc vs ∧ PostL K T φ1 H1 Q (forC (turnC C elt t c own σb) (fun h' => stays h1 h' w) (ws.drop i) acc h') := ⟨_, rfl⟩
  refine ⟨fun i m H => m = ws.length - i ∧ i ≤ ws.length ∧ NX i H, ⟨ws.length, by simp, Nat.zero_le _, ?_⟩, ?_⟩
  · rw [hNX]
    refine ⟨φ1, h1, [], [], Ex.side rl hD, ?_, upd_same, rl.fresh hD, .nil, by rw [List.drop_zero]; exact p⟩
    refine rl.into g (fun b o e => by rw [upd_ne (ne_of_none e hD)]; exact e) (fun a q => ?_)
    by_cases z : a = D
    · exact ⟨_, by rw [z]; exact upd_same⟩
    · have q' : T.hid a := by subst hT'; exact q.resolve_right z
      obtain ⟨o, e⟩ := rl.hd a q'
      exact ⟨o, by rw [upd_ne z]; exact e⟩
  · rintro i m H ⟨rfl, hi, nx⟩
    have nx' := nx
    rw [hNX] at nx'
    obtain ⟨φ', h', acc, vs, x, rl', eD, fD, ra, q⟩ := nx'
    cases hw : ws[i]? with
    | none =>
      have hl : i = ws.length := Nat.le_antisymm hi (List.getElem?_eq_none_iff.mp hw)
      refine .inl ?_
      rw [hl, List.drop_length] at q
      simp only [forC] at q
      by_cases st : stays h1 h' w = true
      · rw [if_pos st] at q
        refine ⟨(wk T' g i φ' _ H x rl' st).2 hl, ?_⟩
        exact q T' φ' D vs H g hidD hD x rl' eD fD ra
      · rw [if_neg st] at q
        exact q.elim
    | some u =>
      have hlt : i < ws.length := (List.getElem?_eq_some_iff.mp hw).1
      refine .inr ?_
      rw [List.drop_eq_getElem?_toList_append, hw] at q
      simp only [Option.toList_some, List.singleton_append, forC] at q
      by_cases st : stays h1 h' w = true
      case neg => rw [if_neg st] at q; exact q.elim
      rw [if_pos st] at q
      obtain ⟨go, yl⟩ := (wk T' g i φ' h' H x rl' st).1 u hw
      refine ⟨go, NX (i + 1), fun H2 r2 => ⟨ws.length - (i + 1), by omega, rfl, hlt, r2⟩, ?_⟩
      intro xv H2 hy
      obtain ⟨x2, rl2, r2⟩ := yl xv H2 hy
      have s2 : RS K T' φ' H2 (wipe σb own) (L2.wipe σ own) := ((s.hide g).mono (x.trans x2)).wipe own
      split at q
      · rename_i v1 h4 et
        obtain ⟨σ', h3, es, ec, ee⟩ := turnC_some et
        split at q
        · rename_i hsz
          refine ⟨φ', _, u, σ', s2, r2, es, fun σ2 s3 sm => ⟨(sm.wipe ht).trans (wipe_wipe σ own), ?_⟩⟩
          refine ⟨φ', σ', h', s3, rl2, ?_⟩
          rw [ec]
          intro φ3 v3 H3 x3 rl3 r3
          refine ⟨true, r3.bl_inv, iteT ?_⟩
          refine ⟨φ3, σ', h3, s3.mono x3, rl3, ?_⟩
          rw [ee]
          intro φ4 v4 H4 x4 rl4 r4
          have xx := x2.trans (x3.trans x4)
          have f4 : D ∉ φ4 := xx.notin eD fD
          refine ⟨vs, xx.keep D _ eD fD, by rw [sizeLine_eq, ← ra.length]; exact of_decide_eq_true hsz, ?_⟩
          rw [hNX]
          refine ⟨φ4, h4, acc ++ [v1], _, ⟨(x.trans xx).pre, (x.trans xx).new, fun b o e n => ?_⟩, rl4.unseen hidD f4, upd_same, f4, RVs.unseen hidD _ _ ((RVs.mono xx _ _ ra).append (.cons r4 .nil)), q⟩
          rw [upd_ne (ne_of_none e hD)]
          exact (x.trans xx).keep b o e n
        · exact q.elim
      · rename_i h4 et
        obtain ⟨σ', es, ec⟩ := turnC_none et
        refine ⟨φ', _, u, σ', s2, r2, es, fun σ2 s3 sm => ⟨(sm.wipe ht).trans (wipe_wipe σ own), ?_⟩⟩
        refine ⟨φ', σ', h', s3, rl2, ?_⟩
        rw [ec]
        intro φ3 v3 H3 x3 rl3 r3
        refine ⟨false, r3.bl_inv, iteF ?_⟩
        rw [hNX]
        have xx := x2.trans x3
        exact ⟨φ3, h4, acc, vs, x.trans xx, rl3, xx.keep D _ eD fD, xx.notin eD fD, RVs.mono xx _ _ ra, q⟩
      · exact q.elim
theorem forC_nx {f : W → Hb → R (Option W)} {ok : Hb → Bool} : ∀ {ws acc : List W} {h : Hb} (e : W) (h' : Hb), forC f ok ws acc h ≠ .ex e h'
  | [], acc, h, e, h' => by unfold forC; split <;> exact fun q => nomatch q
  | w :: ws, acc, h, e, h' => by
    unfold forC
    split
    · split
      · split
        · exact forC_nx _ _
        · exact fun q => nomatch q
      · exact forC_nx _ _
      · exact fun q => nomatch q
    · exact fun q => nomatch q
/-- the list made, as a value -/
theorem PostL.lit {φ1 : List Addr} {H1 : Hp} {h1 : Hb} {Q : VK} {Z : Value → Option Addr → Hp → Prop} {K : PySem.W.Frag} {r : R (List W)} (rl : Rel K T φ1 H1 h1) (nx : ∀ e h', r ≠ .ex e h') (p : Post K T Z φ1 H1 (r.bind fun vs h5 => .ok (.lit vs) h5) Q) : PostL K T φ1 H1 Q r := by
  cases r with
  | no => exact p
  | ex e h' => exact absurd rfl (nx e h')
  | ok ws h' =>
    intro T' φ' D vs H' g hd hD x rl' eD fD ra
    refine p φ' _ H' x (rl'.bare g) (.mk_lit ⟨fD, fun q => ?_⟩ eD (RVs.bare g _ _ ra))
    obtain ⟨o, e⟩ := rl.hd D q
    rw [hD] at e; cases e
section
variable {K : PySem.W.Frag} {T' : Tab} {D : Addr} {H0 : Hp}
theorem promoteFr (g : Hid T T' H0) (hd : T'.hid D) {a : Addr} (n : Fr T' φ a) : Fr T (φ ++ [D]) a := ⟨fun m => by
  rcases List.mem_append.mp m with z | z
  · exact n.1 z
  · rw [List.mem_singleton.mp z] at n; exact n.2 hd, fun q => n.2 (g.up a q)⟩
mutual
theorem RV.promote (g : Hid T T' H0) (hd : T'.hid D) : ∀ (w : W) (v : V), RV K T' φ H w v → RV K T (φ ++ [D]) H w v
  | .non, v, h => by simpa only [RV] using h
  | .bl b, v, h => by simpa only [RV] using h
  | .int i, v, h => by simpa only [RV] using h
  | .str s, v, h => by simpa only [RV] using h
  | .tup xs, v, h => by
    simp only [RV] at h ⊢
    obtain ⟨a, vs, e, h1, h2⟩ := h
    exact ⟨a, vs, e, h1.imp_left fun z => ⟨promoteFr g hd z.1, z.2⟩, RVs.promote g hd xs vs h2⟩
  | .lit xs, v, h => by
    simp only [RV] at h ⊢
    obtain ⟨a, vs, e, n, h1, h2⟩ := h
    exact ⟨a, vs, e, promoteFr g hd n, h1, RVs.promote g hd xs vs h2⟩
  | .rol xs, v, h => by
    simp only [RV] at h ⊢
    obtain ⟨a, vs, e, h1, h2⟩ := h
    exact ⟨a, vs, e, h1.imp_left fun z => ⟨promoteFr g hd z.1, z.2⟩, RVs.promote g hd xs vs h2⟩
  | .obj c ns xs, v, h => by
    simp only [RV] at h ⊢
    obtain ⟨a, dx, fs, e, n, h1, h2, h3⟩ := h
    exact ⟨a, dx, fs, e, promoteFr g hd n, by rw [← g.ca]; exact h1, h2, RVs.promote g hd xs _ h3⟩
  | .ref n, v, h => by
    simp only [RV] at h ⊢
    obtain ⟨a, e, h1⟩ := h
    exact ⟨a, e, by rw [List.getElem?_append_left (List.getElem?_eq_some_iff.mp h1).1]; exact h1⟩
theorem RVs.promote (g : Hid T T' H0) (hd : T'.hid D) : ∀ (ws : List W) (vs : List V), RVs K T' φ H ws vs → RVs K T (φ ++ [D]) H ws vs
  | [], vs, h => by simpa only [RVs] using h
  | w :: ws, vs, h => by
    simp only [RVs] at h ⊢
    obtain ⟨v, r, e, h1, h2⟩ := h
    exact ⟨v, r, e, RV.promote g hd w v h1, RVs.promote g hd ws r h2⟩
end
/-- the list made, tracked from now on -/
theorem Rel.promote {h : Hb} {ws : List W} {vs : List V} (g : Hid T T' H0) (hd : T'.hid D) (eD : H D = some (.lst vs)) (fD : D ∉ φ) (r : Rel K T' φ H h) (ra : RVs K T' φ H ws vs) : Rel K T (φ ++ [D]) H (h ++ [.lst ws]) := by
  refine ⟨List.nodup_append.mpr ⟨r.nd, by simp, fun a ha b hb => by rw [List.mem_singleton.mp hb]; exact fun z => fD (z ▸ ha)⟩, by simp [r.len], fun a q => r.hd a (g.up a q), fun n u a h1 h2 => ?_⟩
  by_cases hn : n < h.length
  · rw [List.getElem?_append_left hn] at h1
    rw [List.getElem?_append_left (by rw [r.len]; exact hn)] at h2
    have q := r.at_ n u a h1 h2
    cases u with
    | lst xs => obtain ⟨vs, e, k⟩ := q; exact ⟨vs, e, RVs.promote g hd _ _ k⟩
    | ins c ns xs => obtain ⟨dx, fs, e, e2, k⟩ := q; exact ⟨dx, fs, by rw [← g.ca]; exact e, e2, RVs.promote g hd _ _ k⟩
    | dct ks vs => exact q
  · have hn' : h.length ≤ n := Nat.le_of_not_lt hn
    rw [List.getElem?_append_right hn'] at h1
    rw [List.getElem?_append_right (by rw [r.len]; exact hn')] at h2
    rw [r.len] at h2
    cases hk : n - h.length with
    | zero => rw [hk] at h1 h2; cases h1; cases h2; exact ⟨vs, eD, RVs.promote g hd _ _ ra⟩
    | succ k => rw [hk] at h1; simp at h1
end
/-- the list made, to be changed later -/
theorem PostL.new {φ1 : List Addr} {H1 : Hp} {h1 : Hb} {Q : VK} {Z : Value → Option Addr → Hp → Prop} {K : PySem.W.Frag} {r : R (List W)} (rl : Rel K T φ1 H1 h1) (nx : ∀ e h', r ≠ .ex e h') (p : Post K T Z φ1 H1 (r.bind fun vs h5 => .ok (.ref h5.length) (h5 ++ [.lst vs])) Q) : PostL K T φ1 H1 Q r := by
  cases r with
  | no => exact p
  | ex e h' => exact absurd rfl (nx e h')
  | ok ws h' =>
    intro T' φ' D vs H' g hd hD x rl' eD fD ra
    refine p (φ' ++ [D]) _ H' ⟨x.pre.trans ⟨[D], rfl⟩, fun b h n => ?_, x.keep⟩ (rl'.promote g hd eD fD ra) (by simp only [RV]; exact ⟨D, rfl, by rw [← rl'.len]; simp⟩)
    rcases List.mem_append.mp h with z | z
    · exact x.new b z n
    · rw [List.mem_singleton.mp z]; exact hD

/-! the comprehension's reading -/
def tExT (T : Tab) (t : Tab → TT) : TT := fun σ H Q => ∃ T', T'.ca = T.ca ∧ t T' σ H Q
def tExE (T : Tab) (t : Tab → TE) : TE := fun σ H Q => ∃ T', T'.ca = T.ca ∧ t T' σ H Q
def tExG (T : Tab) (t : Tab → TG) : TG := fun v σ H Q => ∃ T', T'.ca = T.ca ∧ t T' v σ H Q
theorem tLc_mono {wi : TI} {g : TG} {tt : TT} {te : TE} {vs : List Nat} {Q Q' : VK} (hw : ∀ {σ H R R'}, (∀ J H1, R J H1 → R' J H1) → wi σ H R → wi σ H R') (h : tLc wi g tt te vs σ H Q) (m : ∀ v H, Q v H → Q' v H) : tLc wi g tt te vs σ H Q' := by
  refine hw (fun J H1 r D hD => ?_) h
  obtain ⟨W, w0, step⟩ := r D hD
  refine ⟨W, w0, fun i k H w => ?_⟩
  rcases step i k H w with ⟨a, b⟩ | b
  · exact .inl ⟨a, m _ _ b⟩
  · exact .inr b
theorem cm_read {elt c it : E} {t : Tg} {own : List Nat} {Q : VK} (ht : ∀ i ∈ t.vs, i ∈ own) (s : RS X.K T φ H σb σ) (rl : Rel X.K T φ H h)
    (p : match (evalE C it σb h) with
      | .ok w h1 => ∃ ws, items h1 w = some ws ∧ ∀ φ1 H1, Ex X.K φ φ1 H H1 → Rel X.K T φ1 H1 h1 → PostL X.K T φ1 H1 Q (forC (turnC C elt t c own σb) (fun h' => stays h1 h' w) ws [] h1)
      | .ex x h' => ∀ φ' H' cls d, Ex X.K φ φ' H H' → Rel X.K T φ' H' h' → RX X.K T φ' H' x cls d → Wx cls d σ H'
      | .no => False) :
    tLc (tW X.K T Wx (evalE C it)) (tExG T fun T' => tG X.K T' t) (tExT T fun T' => tT X.K T' Wn (evalE C c)) (tExE T fun T' => tI X.K T' Wn (evalE C elt)) own σ H Q := by
  refine ⟨φ, σb, h, s, rl, ?_⟩
  cases q : evalE C it σb h with
  | no => rw [q] at p; exact p
  | ex e h' => rw [q] at p; exact p
  | ok w h1 =>
    rw [q] at p
    obtain ⟨ws, hi, f⟩ := p
    refine ⟨ws, hi, fun φ1 H1 J x rl1 wk D hD => ?_⟩
    obtain ⟨T', hT'⟩ : ∃ T' : Tab, T' = { T with hid := fun a => T.hid a ∨ a = D } := ⟨_, rfl⟩
    have hca : T'.ca = T.ca := by rw [hT']
    obtain ⟨W, w0, step⟩ := lc_turns X.K T ht (s.mono x) rl1 wk (f φ1 H1 x rl1) D hD T' hT'
    refine ⟨W, w0, fun i m H2 w2 => ?_⟩
    rcases step i m H2 w2 with z | ⟨go, Nx, hNx, tn⟩
    · exact .inl z
    · refine .inr ⟨go, Nx, hNx, fun xv H3 hy => ⟨T', hca, ?_⟩⟩
      obtain ⟨φ2, σ2, u, σ3, s2, r2, es, k⟩ := tn xv H3 hy
      refine ⟨φ2, σ2, u, σ3, s2, r2, es, fun σ4 s4 sm => ?_⟩
      obtain ⟨e1, k2⟩ := k σ4 s4 sm
      refine ⟨e1, T', hca, ?_⟩
      refine tR_mono k2 ?_
      rintro v H5 ⟨b, e, q5⟩
      refine ⟨b, e, ?_⟩
      cases b with
      | false => exact q5
      | true => exact ⟨T', hca, q5⟩
/-- a block's context, whatever it starts from -/
def Blk (X : L2.Cx) (scope : Scope) (P : L2.Cx → Prop) : Prop := ∀ (s : Shared) (H : Hp) (C : Addr) (cl : List (Str × Addr)) (fp : List Addr), P (X.blk s H scope (compEnvC scope cl C X.env) fp)
variable {elt iter : Expr} {ifs : List Expr} {scope : Scope} {own : List (Str × Nat)} {t : Tg} {it c' elt' : E}
theorem d_cm (hc : X.calm = true) (hN : X.N.Nodup) (hi : DI X T Wx C tg iter it) (ok : BlkOk X.N X.env.scope scope own) (ho : ∀ i ∈ t.vs, i ∈ own.map (·.2))
    (hg : ∀ T' : Tab, T'.ca = T.ca → Blk X scope fun B => PG B tg (tG X.K T' t)) (ht : ∀ T' : Tab, T'.ca = T.ca → Blk X scope fun B => PTs B ifs (tT X.K T' Wn (evalE C c'))) (he : ∀ T' : Tab, T'.ca = T.ca → Blk X scope fun B => D B T' Wn C elt elt')
    (hs : ∀ x, foldedSetIterable iter X.env x = pure x) :
    PE X (.ListComp elt [⟨tg, iter, ifs, 0⟩] scope pos) (tLc (tW X.K T Wx (evalE C it)) (tExG T fun T' => tG X.K T' t) (tExT T fun T' => tT X.K T' Wn (evalE C c')) (tExE T fun T' => tI X.K T' Wn (evalE C elt')) (own.map (·.2))) ∧
    D X T Wx C (.ListComp elt [⟨tg, iter, ifs, 0⟩] scope pos) (.cm elt' t it c' (own.map (·.2))) ∧ D X T Wx C (.ListComp elt [⟨tg, iter, ifs, 0⟩] scope pos) (.new (.cm elt' t it c' (own.map (·.2)))) := by
  have key : PE X (.ListComp elt [⟨tg, iter, ifs, 0⟩] scope pos) (tLc (tW X.K T Wx (evalE C it)) (tExG T fun T' => tG X.K T' t) (tExT T fun T' => tT X.K T' Wn (evalE C c')) (tExE T fun T' => tI X.K T' Wn (evalE C elt')) (own.map (·.2))) := by
    refine pe_lc hc hN hi ok (fun s H D cl fp => ?_) (fun s H D cl fp => ?_) (fun s H D cl fp => ?_) hs
    · exact ⟨fun pins s σ H v u Q I r ⟨T', e, q⟩ => (hg T' e _ _ _ _ _).run pins s σ H v u Q I r q⟩
    · exact ⟨fun pins s σ H Q I ⟨T', e, q⟩ => (ht T' e _ _ _ _ _).run pins s σ H Q I q⟩
    · exact ⟨fun pins s σ H Q I ⟨T', e, q⟩ => (he T' e _ _ _ _ _).run pins s σ H Q I q⟩
  refine ⟨key, key.weak fun σ H Q ⟨φ, σb, h, s, rl, p⟩ => ?_, key.weak fun σ H Q ⟨φ, σb, h, s, rl, p⟩ => ?_⟩
  · refine cm_read ho s rl ?_
    rw [evalE_cm] at p
    cases q : evalE C it σb h with
    | no => rw [q] at p; exact p
    | ex e h' => rw [q] at p; exact p
    | ok w h1 =>
      rw [q] at p
      simp only [R.bind] at p
      cases hi : items h1 w with
      | none => rw [hi] at p; exact p.elim
      | some ws =>
        rw [hi] at p
        exact ⟨ws, hi, fun φ1 H1 x rl1 => PostL.lit (Z := ZX Wx σ) rl1 (fun e h' => forC_nx e h') (PostR.ext x p)⟩
  · refine cm_read ho s rl ?_
    rw [evalE, evalE_cm] at p
    cases q : evalE C it σb h with
    | no => rw [q] at p; exact p
    | ex e h' => rw [q] at p; exact p
    | ok w h1 =>
      rw [q] at p
      simp only [R.bind] at p
      cases hi : items h1 w with
      | none => rw [hi] at p; exact p.elim
      | some ws =>
        rw [hi] at p
        dsimp only at p
        refine ⟨ws, hi, fun φ1 H1 x rl1 => PostL.new (Z := ZX Wx σ) rl1 (fun e h' => forC_nx e h') (PostR.ext x ?_)⟩
        cases q2 : forC (turnC C elt' t c' (own.map (·.2)) σb) (fun h' => stays h1 h' w) ws [] h1 with
        | no => rw [q2] at p; exact p
        | ex e h' => rw [q2] at p; exact p
        | ok vs h' => rw [q2] at p; exact p
end
end Y
/-! Y8: statements run as Y says. -/
namespace Y
open PySem PySem.Spec PyProof.Rows L2

/-- what is wanted behind a statement -/
def PostS (K : PySem.W.Frag) (T : Tab) (Wx : WX) (φ : List Addr) (H : Hp) (g : G) (D : Ends) : Prop :=
  match g with
  | .ok (.nx σb) h' => ∀ φ' σ' H', Ex K φ φ' H H' → Rel K T φ' H' h' → RS K T φ' H' σb σ' → D.nx σ' H'
  | .ok (.bk σb) h' => ∀ φ' σ' H', Ex K φ φ' H H' → Rel K T φ' H' h' → RS K T φ' H' σb σ' → D.bk σ' H'
  | .ok (.ct σb) h' => ∀ φ' σ' H', Ex K φ φ' H H' → Rel K T φ' H' h' → RS K T φ' H' σb σ' → D.ct σ' H'
  | .ok (.rt w) h' => ∀ φ' v H', Ex K φ φ' H H' → Rel K T φ' H' h' → RV K T φ' H' w v → D.rt v H'
  | .ex x σb h' => ∀ φ' σ' H' cls d, Ex K φ φ' H H' → Rel K T φ' H' h' → RS K T φ' H' σb σ' → RX K T φ' H' x cls d → Wx cls d σ' H'
  | .no => False
def tS (K : PySem.W.Frag) (T : Tab) (Wx : WX) (f : Sb → Hb → G) : TS := fun D σ H => ∃ φ σb h, RS K T φ H σb σ ∧ Rel K T φ H h ∧ PostS K T Wx φ H (f σb h) D
theorem _root_.L2.PS.weak {X : L2.Cx} {st : Stmt} {t t' : TS} (h : PS X st t) (hm : ∀ D σ H, t' D σ H → t D σ H) : PS X st t' :=
  ⟨fun pins s σ H D I q => h.run pins s σ H D I (hm _ _ _ q)⟩
theorem _root_.L2.PSs.weak {X : L2.Cx} {st : List Stmt} {t t' : TS} (h : PSs X st t) (hm : ∀ D σ H, t' D σ H → t D σ H) : PSs X st t' :=
  ⟨fun pins s σ H D I q => h.run pins s σ H D I (hm _ _ _ q)⟩
section
variable {K : PySem.W.Frag} {T : Tab} {Wx : WX} {φ φ1 : List Addr} {H H1 : Hp} {h : Hb} {σb : Sb} {σ : L2.St} {D D' : Ends}
theorem PostS.ext {g : G} (x : Ex K φ φ1 H H1) (p : PostS K T Wx φ H g D) : PostS K T Wx φ1 H1 g D := by
  cases g with
  | no => exact p
  | ex e s h' => exact fun φ' σ' H' cls d y => p φ' σ' H' cls d (x.trans y)
  | ok fl h' => cases fl with
    | nx s => exact fun φ' σ' H' y => p φ' σ' H' (x.trans y)
    | bk s => exact fun φ' σ' H' y => p φ' σ' H' (x.trans y)
    | ct s => exact fun φ' σ' H' y => p φ' σ' H' (x.trans y)
    | rt w => exact fun φ' σ' H' y => p φ' σ' H' (x.trans y)
/-- an expression's part of a statement -/
theorem tS_of {β : Type} {Ru : List Addr → Hp → W → β → Prop} {f : Sb → Hb → R W} {g : W → Hb → G} (s : RS K T φ H σb σ) (rl : Rel K T φ H h) (p : PostS K T Wx φ H ((f σb h).go σb g) D) :
    tR K T Ru Wx f σ H (fun v H1 => ∃ φ1 w h1, Ex K φ φ1 H H1 ∧ RS K T φ1 H1 σb σ ∧ Rel K T φ1 H1 h1 ∧ Ru φ1 H1 w v ∧ PostS K T Wx φ1 H1 (g w h1) D) := by
  refine ⟨φ, σb, h, s, rl, ?_⟩
  cases q : f σb h with
  | no => rw [q] at p; exact p
  | ex e h' => rw [q] at p; exact fun φ' H' cls d x rl' rx => p φ' σ H' cls d x rl' (s.mono x) rx
  | ok w h' => rw [q] at p; exact fun φ' v H' x rl' rv => ⟨φ', w, h', x, s.mono x, rl', rv, PostS.ext x p⟩
/-- a step on values in a statement -/
theorem goB_of {f : R W} {g : W → Hb → G} (s : RS K T φ H σb σ) (rl : Rel K T φ H h) (nx : ∀ e h', f ≠ .ex e h') (p : PostS K T Wx φ H (f.go σb g) D) :
    Post K T Z0 φ H f (fun v H1 => ∃ φ1 w h1, Ex K φ φ1 H H1 ∧ RS K T φ1 H1 σb σ ∧ Rel K T φ1 H1 h1 ∧ RV K T φ1 H1 w v ∧ PostS K T Wx φ1 H1 (g w h1) D) := by
  cases f with
  | no => exact p
  | ex e h' => exact absurd rfl (nx e h')
  | ok w h' => exact fun φ' v H' x rl' rv => ⟨φ', w, h', x, s.mono x, rl', rv, PostS.ext x p⟩
/-- a statement, then the rest -/
theorem PostS.seq {g : G} {k : Sb → Hb → G} (p : PostS K T Wx φ H (g.bind fun fl h1 => (match fl with | .nx σ1 => k σ1 h1 | fl => .ok fl h1)) D) :
    PostS K T Wx φ H g { D with nx := fun σ' H' => tS K T Wx k D σ' H' } := by
  cases g with
  | no => exact p
  | ex e s h' => exact p
  | ok fl h' => cases fl with
    | nx s1 => exact fun φ' σ' H' x rl s => ⟨φ', s1, h', s, rl, PostS.ext x p⟩
    | bk s => exact p
    | ct s => exact p
    | rt w => exact p
end
section
variable {X : L2.Cx} {T : Tab} {Wx : WX} {C : Ctx} {σ : L2.St} {φ : List Addr} {H : Hp} {h : Hb} {σb : Sb}
variable {a b c tg : Expr} {ea eb ec : E} {pos : Pos} {es : List Expr}
abbrev DS (X : L2.Cx) (T : Tab) (Wx : WX) (C : Ctx) (st : Stmt) (s : S) : Prop := PS X st (tS X.K T Wx (evalS C s))
abbrev DSs (X : L2.Cx) (T : Tab) (Wx : WX) (C : Ctx) (st : List Stmt) (s : S) : Prop := PSs X st (tS X.K T Wx (evalS C s))
theorem ds_nil : DSs X T Wx C [] .skip := pss_nil.weak fun D σ H ⟨φ, σb, h, s, rl, p⟩ => by
  simp only [evalS] at p; exact p φ σ H .refl rl s
theorem ds_cons {st : Stmt} {rest : List Stmt} {s1 s2 : S} (h1 : DS X T Wx C st s1) (h2 : DSs X T Wx C rest s2) : DSs X T Wx C (st :: rest) (.seq s1 s2) := by
  refine (pss_cons h1 h2).weak fun D σ H ⟨φ, σb, h, s, rl, p⟩ => ?_
  simp only [evalS] at p
  exact ⟨φ, σb, h, s, rl, p.seq⟩
theorem ds_pass : DS X T Wx C (.Pass pos) .skip := ps_pass.weak fun D σ H ⟨φ, σb, h, s, rl, p⟩ => by
  simp only [evalS] at p; exact p φ σ H .refl rl s
theorem ds_doc {x j pos'} : DS X T Wx C (.Expr (.Constant (.str x) j pos) pos') .skip := ps_doc.weak fun D σ H ⟨φ, σb, h, s, rl, p⟩ => by
  simp only [evalS] at p; exact p φ σ H .refl rl s
theorem ds_brk : DS X T Wx C (.Break pos) .brk := ps_break.weak fun D σ H ⟨φ, σb, h, s, rl, p⟩ => by
  simp only [evalS] at p; exact p φ σ H .refl rl s
theorem ds_cont : DS X T Wx C (.Continue pos) .cont := ps_continue.weak fun D σ H ⟨φ, σb, h, s, rl, p⟩ => by
  simp only [evalS] at p; exact p φ σ H .refl rl s
theorem ds_expr (ha : D X T Wx C a ea) (hs : swapsWith a none pos.line X.env = pure false) : DS X T Wx C (.Expr a pos) (.expr ea) := by
  refine (ps_expr ha hs).weak fun D σ H ⟨φ, σb, h, s, rl, p⟩ => ?_
  simp only [evalS] at p
  refine tR_mono (tS_of s rl p) ?_
  rintro x H1 ⟨φ1, w1, h1, x1, s1, rl1, r1, p1⟩
  exact p1 φ1 σ H1 .refl rl1 s1
theorem ds_ret (ha : D X T Wx C a ea) : DS X T Wx C (.Return (some a) pos) (.ret ea) := by
  refine (ps_ret ha).weak fun D σ H ⟨φ, σb, h, s, rl, p⟩ => ?_
  simp only [evalS] at p
  refine tR_mono (tS_of s rl p) ?_
  rintro x H1 ⟨φ1, w1, h1, x1, s1, rl1, r1, p1⟩
  exact p1 φ1 _ H1 .refl rl1 r1
theorem ds_retN : DS X T Wx C (.Return none pos) (.ret .non) := by
  refine ps_retN.weak fun D σ H ⟨φ, σb, h, s, rl, p⟩ => ?_
  simp only [evalS, evalE, R.go] at p
  exact p φ _ H .refl rl .mk_non
theorem ds_if {ss us : List Stmt} {s1 s2 : S} (hc : DT X T Wx C c ec) (h1 : DSs X T Wx C ss s1) (h2 : DSs X T Wx C us s2) : DS X T Wx C (.If c ss us pos) (.ite ec s1 s2) := by
  refine (ps_if hc h1 h2).weak fun D σ H ⟨φ, σb, h, s, rl, p⟩ => ?_
  simp only [evalS] at p
  refine tR_mono (tS_of s rl p) ?_
  rintro x H1 ⟨φ1, w1, h1, x1, s1', rl1, r1, p1⟩
  split at p1
  · exact ⟨true, r1.bl_inv, iteT ⟨φ1, σb, h1, s1', rl1, p1⟩⟩
  · exact ⟨false, r1.bl_inv, iteF ⟨φ1, σb, h1, s1', rl1, p1⟩⟩
  · exact p1.elim
theorem asg_read {t : Tg} {e' : E} {te : TE} {D : Ends} (p : PostS X.K T Wx φ H (evalS C (.asg t e') σb h) D) (s : RS X.K T φ H σb σ) (rl : Rel X.K T φ H h) :
    tI X.K T Wx (evalE C e') σ H fun x H1 => tG X.K T t x σ H1 D.nx := by
  simp only [evalS] at p
  refine tR_mono (tS_of s rl p) ?_
  rintro x H1 ⟨φ1, w1, h1, x1, s1, rl1, r1, p1⟩
  split at p1
  · rename_i σ1 es
    exact ⟨φ1, σb, w1, σ1, s1, r1, es, fun σ' s' _ => p1 φ1 σ' H1 .refl rl1 s'⟩
  · exact p1.elim
theorem ds_asg {t : Tg} (ha : D X T Wx C a ea) (hg : PG X tg (tG X.K T t)) (hs : swapsWithSole [tg] a pos.line X.env = pure false) (hw : swappedStores [tg] a X.env = pure none) (h1 : (assignEach [tg] X.env).map (·.2) = [assign tg X.env]) :
    DS X T Wx C (.Assign [tg] a pos) (.asg t ea) := by
  refine (ps_asg ha hg hs hw h1).weak fun D σ H ⟨φ, σb, h, s, rl, p⟩ => asg_read (te := fun _ _ _ => True) p s rl
theorem ds_ann {t : Tg} {ann : Expr} {simple : Int} (ha : D X T Wx C a ea) (hg : PG X tg (tG X.K T t)) (hs : swapsWith a (some tg) pos.line X.env = pure false) : DS X T Wx C (.AnnAssign tg ann (some a) simple pos) (.asg t ea) := by
  refine (ps_ann ha hg hs).weak fun D σ H ⟨φ, σb, h, s, rl, p⟩ => asg_read (te := fun _ _ _ => True) p s rl
/-- name = [..] on one line -/
theorem ds_setLc {i : Nat} {y : Str} {py spos : Pos} {elt iter : Expr} {ifs : List Expr} {scope : Scope} {own : List (Str × Nat)} {t : Tg} {it c' elt' : E} (hc : X.calm = true) (hN : X.N.Nodup) (hy : X.N[i]? = some y) (hyl : X.env.scope.names.lookup y = some .local)
    (hsw : swapsWith (.ListComp elt [⟨tg, iter, ifs, 0⟩] scope pos) (some (.Name y py)) spos.line X.env = pure true) (hi : DI X T Wx C tg iter it) (ok : BlkOk X.N X.env.scope scope own) (ho : ∀ i ∈ t.vs, i ∈ own.map (·.2))
    (hg : ∀ T' : Tab, T'.ca = T.ca → Blk X scope fun B => PG B tg (tG X.K T' t)) (ht : ∀ T' : Tab, T'.ca = T.ca → Blk X scope fun B => PTs B ifs (tT X.K T' Wn (evalE C c'))) (he : ∀ T' : Tab, T'.ca = T.ca → Blk X scope fun B => D B T' Wn C elt elt')
    (hs : ∀ x, foldedSetIterable iter X.env x = pure x) :
    DS X T Wx C (.Assign [.Name y py] (.ListComp elt [⟨tg, iter, ifs, 0⟩] scope pos) spos) (.asg (.nm i) (.cm elt' t it c' (own.map (·.2)))) ∧
    DS X T Wx C (.Assign [.Name y py] (.ListComp elt [⟨tg, iter, ifs, 0⟩] scope pos) spos) (.asg (.nm i) (.new (.cm elt' t it c' (own.map (·.2))))) := by
  have key : PS X (.Assign [.Name y py] (.ListComp elt [⟨tg, iter, ifs, 0⟩] scope pos) spos) (tAsg (tLc (tW X.K T Wx (evalE C it)) (tExG T fun T' => tG X.K T' t) (tExT T fun T' => tT X.K T' Wn (evalE C c')) (tExE T fun T' => tI X.K T' Wn (evalE C elt')) (own.map (·.2))) (gName i)) := by
    refine ps_setLc hc hN hy hyl hsw hi ok (fun s H D cl fp => ?_) (fun s H D cl fp => ?_) (fun s H D cl fp => ?_) hs
    · exact ⟨fun pins s σ H v u Q I r ⟨T', e, q⟩ => (hg T' e _ _ _ _ _).run pins s σ H v u Q I r q⟩
    · exact ⟨fun pins s σ H Q I ⟨T', e, q⟩ => (ht T' e _ _ _ _ _).run pins s σ H Q I q⟩
    · exact ⟨fun pins s σ H Q I ⟨T', e, q⟩ => (he T' e _ _ _ _ _).run pins s σ H Q I q⟩
  have fin : ∀ {φ1 : List Addr} {H1 : Hp} {h1 : Hb} {σ : L2.St} {σb : Sb} {w : W} {D : Ends} (s : RS X.K T φ1 H1 σb σ) (p : PostS X.K T Wx φ1 H1 (match setT (.nm i) w σb with | some σ1 => .ok (.nx σ1) h1 | none => .no) D), ∀ φ' v H', Ex X.K φ1 φ' H1 H' → Rel X.K T φ' H' h1 → RV X.K T φ' H' w v → gName i v σ H' D.nx := by
    intro φ1 H1 h1 σ σb w D s p φ' v H' x rl r
    simp only [setT] at p
    split at p
    · rename_i σ1 es
      split at es
      · cases es
        exact p φ' _ H' x rl ((s.mono x).set r)
      · cases es
    · exact p.elim
  refine ⟨key.weak fun D σ H ⟨φ, σb, h, s, rl, p⟩ => ?_, key.weak fun D σ H ⟨φ, σb, h, s, rl, p⟩ => ?_⟩
  · refine cm_read ho s rl ?_
    rw [evalS, evalE_cm] at p
    cases q : evalE C it σb h with
    | no => rw [q] at p; exact p
    | ex e h' => rw [q] at p; exact fun φ' H' cls d x rl' rx => p φ' σ H' cls d x rl' (s.mono x) rx
    | ok w h1 =>
      rw [q] at p
      simp only [R.bind] at p
      cases hi : items h1 w with
      | none => rw [hi] at p; exact p.elim
      | some ws =>
        rw [hi] at p
        dsimp only at p
        refine ⟨ws, hi, fun φ1 H1 x rl1 => PostL.lit (Z := Z0) rl1 (fun e h' => forC_nx e h') ?_⟩
        cases q2 : forC (turnC C elt' t c' (own.map (·.2)) σb) (fun h' => stays h1 h' w) ws [] h1 with
        | no => rw [q2] at p; exact p
        | ex e h' => exact absurd q2 (forC_nx _ _)
        | ok vs h' =>
          rw [q2] at p
          exact fin (s.mono x) (PostS.ext x p)
  · refine cm_read ho s rl ?_
    rw [evalS, evalE, evalE_cm] at p
    cases q : evalE C it σb h with
    | no => rw [q] at p; exact p
    | ex e h' => rw [q] at p; exact fun φ' H' cls d x rl' rx => p φ' σ H' cls d x rl' (s.mono x) rx
    | ok w h1 =>
      rw [q] at p
      simp only [R.bind] at p
      cases hi : items h1 w with
      | none => rw [hi] at p; exact p.elim
      | some ws =>
        rw [hi] at p
        dsimp only at p
        refine ⟨ws, hi, fun φ1 H1 x rl1 => PostL.new (Z := Z0) rl1 (fun e h' => forC_nx e h') ?_⟩
        cases q2 : forC (turnC C elt' t c' (own.map (·.2)) σb) (fun h' => stays h1 h' w) ws [] h1 with
        | no => rw [q2] at p; exact p
        | ex e h' => exact absurd q2 (forC_nx _ _)
        | ok vs h' =>
          rw [q2] at p
          exact fin (s.mono x) (PostS.ext x p)

/-! ### loops -/
/-- a for's turn, as evalS has it -/
def turnF (C : Ctx) (t : Tg) (b : S) : W → Sb → Hb → G := fun x σ1 h2 => match setT t x σ1 with | some σ2 => evalS C b σ2 h2 | none => .no
theorem evalS_for (C : Ctx) (t : Tg) (it : E) (b : S) (σ : Sb) (h : Hb) : evalS C (.for t it b) σ h = (evalE C it σ h).go σ fun w h1 => (match items h1 w with
    | some ws => forL (turnF C t b) (fun h' => stays h1 h' w) ws σ h1
    | none => .no) := by rw [evalS]; rfl
theorem for_turns {t : Tg} {b : S} {w : W} {ws : List W} {J : It} {φ1 : List Addr} {H1 : Hp} {h1 : Hb} {D : Ends} (K : PySem.W.Frag) (s : RS K T φ1 H1 σb σ) (rl : Rel K T φ1 H1 h1) (wk : Walks K T J φ1 H1 h1 w ws)
    (p : PostS K T Wx φ1 H1 (forL (turnF C t b) (fun h' => stays h1 h' w) ws σb h1) D) :
    ∃ W : Nat → Nat → L2.St → Hp → Prop, (∃ m, W 0 m σ H1) ∧ ∀ i m σ H, W i m σ H →
      (J.stop i H ∧ D.nx σ H) ∨ (J.go i H ∧ ∃ N : L2.St → Hp → Prop, (∀ σ' H', N σ' H' → ∃ m', m' < m ∧ W (i + 1) m' σ' H') ∧ ∀ x H', J.yld i H x H' → tG K T t x σ H' fun σ2 H2 => tS K T Wx (evalS C b) { D with nx := N, ct := N, bk := D.nx } σ2 H2) := by
  obtain ⟨NX, hNX⟩ : ∃ NX : Nat → L2.St → Hp → Prop, NX = fun i σ H => ∃ φ' σb' h', Ex K φ1 φ' H1 H ∧ RS K T φ' H σb' σ ∧ Rel K T φ' H h' ∧ PostS K T Wx φ' H (forL (turnF C t b) (fun h' => stays h1 h' w) (ws.drop i) σb' h') D := ⟨_, rfl⟩
  refine ⟨fun i m σ H => m = ws.length - i ∧ i ≤ ws.length ∧ NX i σ H, ⟨ws.length, by simp, Nat.zero_le _, ?_⟩, ?_⟩
  · rw [hNX]
    exact ⟨φ1, σb, h1, .refl, s, rl, by rw [List.drop_zero]; exact p⟩
  · rintro i m σ H ⟨rfl, hi, nx⟩
    rw [hNX] at nx
    obtain ⟨φ', σb', h', x, s', rl', q⟩ := nx
    cases hw : ws[i]? with
    | none =>
      have hl : i = ws.length := Nat.le_antisymm hi (List.getElem?_eq_none_iff.mp hw)
      refine .inl ?_
      rw [hl, List.drop_length] at q
      simp only [forL] at q
      by_cases st : stays h1 h' w = true
      · rw [if_pos st] at q
        exact ⟨(wk T .refl i φ' _ H x rl' st).2 hl, q φ' σ H .refl rl' s'⟩
      · rw [if_neg st] at q
        exact q.elim
    | some u =>
      have hlt : i < ws.length := (List.getElem?_eq_some_iff.mp hw).1
      refine .inr ?_
      rw [List.drop_eq_getElem?_toList_append, hw] at q
      simp only [Option.toList_some, List.singleton_append, forL] at q
      by_cases st : stays h1 h' w = true
      case neg => rw [if_neg st] at q; exact q.elim
      rw [if_pos st] at q
      obtain ⟨go, yl⟩ := (wk T .refl i φ' h' H x rl' st).1 u hw
      refine ⟨go, NX (i + 1), fun σ2 H2 r2 => ⟨ws.length - (i + 1), by omega, rfl, hlt, r2⟩, ?_⟩
      intro xv H2 hy
      obtain ⟨x2, rl2, r2⟩ := yl xv H2 hy
      unfold turnF at q
      cases es : setT t u σb' with
      | none => rw [es] at q; exact q.elim
      | some σ3 =>
        refine ⟨φ', σb', u, σ3, s'.mono x2, r2, es, fun σ4 s4 _ => ⟨φ', σ3, h', s4, rl2, ?_⟩⟩
        rw [es] at q
        dsimp only at q
        replace q := PostS.ext x2 q
        cases eb : evalS C b σ3 h' with
        | no => rw [eb] at q; exact q
        | ex e s5 h5 => rw [eb] at q; exact q
        | ok fl h5 =>
          rw [eb] at q
          cases fl with
          | nx s5 =>
            intro φ6 σ6 H6 x6 rl6 s6
            rw [hNX]
            exact ⟨φ6, s5, h5, (x.trans x2).trans x6, s6, rl6, PostS.ext x6 q⟩
          | ct s5 =>
            intro φ6 σ6 H6 x6 rl6 s6
            rw [hNX]
            exact ⟨φ6, s5, h5, (x.trans x2).trans x6, s6, rl6, PostS.ext x6 q⟩
          | bk s5 => exact q
          | rt v => exact q
theorem ds_for {iter : Expr} {body : List Stmt} {t : Tg} {it : E} {b : S} (hp : PassesOwn (model X.prog X.w) X.A X.env X.xe) (hc : X.calm = true) (hi : DI X T Wx C tg iter it) (hg : PG X tg (tG X.K T t)) (hb : DSs X T Wx C body b)
    (hs : ∀ x, foldedSetIterable iter X.env x = pure x) : DS X T Wx C (.For tg iter body [] pos) (.for t it b) := by
  refine (ps_for hp hc hi hg hb hs).weak fun D σ H ⟨φ, σb, h, s, rl, p⟩ => ?_
  rw [evalS_for] at p
  refine ⟨φ, σb, h, s, rl, ?_⟩
  cases q : evalE C it σb h with
  | no => rw [q] at p; exact p
  | ex e h' => rw [q] at p; exact fun φ' H' cls d x rl' rx => p φ' σ H' cls d x rl' (s.mono x) rx
  | ok w h1 =>
    rw [q] at p
    simp only [R.go] at p
    cases hi : items h1 w with
    | none => rw [hi] at p; exact p.elim
    | some ws =>
      rw [hi] at p
      exact ⟨ws, hi, fun φ1 H1 J x rl1 wk => for_turns X.K (s.mono x) rl1 wk (PostS.ext x p)⟩
theorem ds_while {body : List Stmt} {b : S} (hp : PassesOwn (model X.prog X.w) X.A X.env X.xe) (hc : DT X T Wx C c ec) (hb : DSs X T Wx C body b) : DS X T Wx C (.While c body [] pos) (.while ec b) := by
  refine (ps_while hp hc hb).weak fun D σ H ⟨φ, σb, h, s, rl, p⟩ => ?_
  simp only [evalS] at p
  refine ⟨fun m σ H => ∃ φ σb h, RS X.K T φ H σb σ ∧ Rel X.K T φ H h ∧ PostS X.K T Wx φ H (whileL (fun σ1 h1 => evalE C ec σ1 h1) (fun σ1 h1 => evalS C b σ1 h1) m σb h) D, ⟨C.fuel, φ, σb, h, s, rl, p⟩, ?_⟩
  rintro m σ H ⟨φ, σb, h, s, rl, p⟩
  cases m with
  | zero => exact p.elim
  | succ m =>
    unfold whileL at p
    refine tR_mono (tS_of s rl p) ?_
    rintro x H1 ⟨φ1, w1, h1, x1, s1, rl1, r1, p1⟩
    split at p1
    · refine ⟨true, r1.bl_inv, iteT ⟨fun σ H => ∃ φ σb h, RS X.K T φ H σb σ ∧ Rel X.K T φ H h ∧ PostS X.K T Wx φ H (whileL (fun σ1 h1 => evalE C ec σ1 h1) (fun σ1 h1 => evalS C b σ1 h1) m σb h) D, fun σ' H' r => ⟨m, Nat.lt_succ_self m, r⟩, φ1, σb, h1, s1, rl1, ?_⟩⟩
      cases eb : evalS C b σb h1 with
      | no => rw [eb] at p1; exact p1
      | ex e s5 h5 => rw [eb] at p1; exact p1
      | ok fl h5 =>
        rw [eb] at p1
        cases fl with
        | nx s5 => exact fun φ6 σ6 H6 x6 rl6 s6 => ⟨φ6, s5, h5, s6, rl6, PostS.ext x6 p1⟩
        | ct s5 => exact fun φ6 σ6 H6 x6 rl6 s6 => ⟨φ6, s5, h5, s6, rl6, PostS.ext x6 p1⟩
        | bk s5 => exact p1
        | rt v => exact p1
    · exact ⟨false, r1.bl_inv, iteF (p1 φ1 σ H1 .refl rl1 s1)⟩
    · exact p1.elim

/-! ### several names at once -/
theorem ds_par2 {i j : Nat} {x y : Str} {px py pt : Pos} {kt k2 pt2} (hc : X.calm = true) (hN : X.N.Nodup) (hi : X.N[i]? = some x) (hj : X.N[j]? = some y) (hij : i ≠ j) (hx : X.env.scope.names.lookup x = some .local) (hy : X.env.scope.names.lookup y = some .local)
    (ha : DA X T Wx C [a, b] ea) (hw : swappedStores [.Tuple [.Name x px, .Name y py] kt pt] (.Tuple [a, b] k2 pt2) X.env = pure (some [x, y])) (hs : swapsWithSole [.Tuple [.Name x px, .Name y py] kt pt] (.Tuple [a, b] k2 pt2) pos.line X.env = pure false) :
    DS X T Wx C (.Assign [.Tuple [.Name x px, .Name y py] kt pt] (.Tuple [a, b] k2 pt2) pos) (.par [i, j] ea) := by
  refine (ps_par hc hN hi hj hij hx hy ha hw hs).weak fun D σ H ⟨φ, σb, h, s, rl, p⟩ => ?_
  simp only [evalS] at p
  refine tR_mono (tS_of (Ru := RA X.K T) s rl p) ?_
  rintro vs H1 ⟨φ1, w1, h1, x1, s1, rl1, ⟨ws, rfl, r1⟩, p1⟩
  dsimp only at p1
  cases e : setL [i, j] ws σb with
  | none => rw [e] at p1; exact p1.elim
  | some σ' =>
    rw [e] at p1
    cases ws with
    | nil => simp [setL] at e
    | cons w1 ws =>
      cases ws with
      | nil => simp [setL] at e
      | cons w2 ws =>
        cases ws with
        | cons w3 ws => simp [setL] at e
        | nil =>
          obtain ⟨v1, v2, rfl, r1, r2⟩ := r1.two
          refine ⟨v1, v2, rfl, ?_⟩
          simp only [setL] at e
          split at e
          · split at e
            · cases e
              exact p1 φ1 _ H1 .refl rl1 ((s1.set r1).set r2)
            · cases e
          · cases e
theorem RVs.three {K : PySem.W.Frag} {w u z : W} {vs : List V} (h : RVs K T φ H [w, u, z] vs) : ∃ v1 v2 v3, vs = [v1, v2, v3] ∧ RV K T φ H w v1 ∧ RV K T φ H u v2 ∧ RV K T φ H z v3 := by
  simp only [RVs] at h
  obtain ⟨v, r, rfl, h1, z, r2, rfl, h2, y, r3, rfl, h3, rfl⟩ := h
  exact ⟨v, z, y, rfl, h1, h2, h3⟩
theorem ds_par3 {i j l : Nat} {x y z : Str} {px py pz pt : Pos} {kt k2 pt2} (hc : X.calm = true) (hN : X.N.Nodup) (hi : X.N[i]? = some x) (hj : X.N[j]? = some y) (hl : X.N[l]? = some z) (hij : i ≠ j) (hil : i ≠ l) (hjl : j ≠ l)
    (hx : X.env.scope.names.lookup x = some .local) (hy : X.env.scope.names.lookup y = some .local) (hz : X.env.scope.names.lookup z = some .local)
    (ha : DA X T Wx C [a, b, c] ea) (hw : swappedStores [.Tuple [.Name x px, .Name y py, .Name z pz] kt pt] (.Tuple [a, b, c] k2 pt2) X.env = pure (some [x, y, z])) (hs : swapsWithSole [.Tuple [.Name x px, .Name y py, .Name z pz] kt pt] (.Tuple [a, b, c] k2 pt2) pos.line X.env = pure false) :
    DS X T Wx C (.Assign [.Tuple [.Name x px, .Name y py, .Name z pz] kt pt] (.Tuple [a, b, c] k2 pt2) pos) (.par [i, j, l] ea) := by
  refine (L2.ps_par3 hc hN hi hj hl hij hil hjl hx hy hz ha hw hs).weak fun D σ H ⟨φ, σb, h, s, rl, p⟩ => ?_
  simp only [evalS] at p
  refine tR_mono (tS_of (Ru := RA X.K T) s rl p) ?_
  rintro vs H1 ⟨φ1, w1, h1, x1, s1, rl1, ⟨ws, rfl, r1⟩, p1⟩
  dsimp only at p1
  cases e : setL [i, j, l] ws σb with
  | none => rw [e] at p1; exact p1.elim
  | some σ' =>
    rw [e] at p1
    cases ws with
    | nil => simp [setL] at e
    | cons w1 ws =>
      cases ws with
      | nil => simp [setL] at e
      | cons w2 ws =>
        cases ws with
        | nil => simp [setL] at e
        | cons w3 ws =>
          cases ws with
          | cons w4 ws => simp [setL] at e
          | nil =>
            obtain ⟨v1, v2, v3, rfl, r1, r2, r3⟩ := r1.three
            refine ⟨v1, v2, v3, rfl, ?_⟩
            simp only [setL] at e
            split at e
            · split at e
              · split at e
                · cases e
                  exact p1 φ1 _ H1 .refl rl1 (((s1.set r1).set r2).set r3)
                · cases e
              · cases e
            · cases e

/-! ### op=, a[i] = -/
theorem inplace_nx (op : Op) (a b : W) (h : Hb) : ∀ e h', inplace op a b h ≠ .ex e h' := by
  intro e h' q
  unfold inplace at q
  split at q <;> cases q
theorem ipI_ok (op : Op) : PIp X (opP op) (rB X.K T (inplace op)) := by
  intro pins s σ H x y v u Q I rx ry ⟨φ, h, w1, w2, rl, r1, r2, p⟩
  unfold inplace at p
  split at p
  · have e1 := r1.int_inv; have e2 := r2.int_inv; subst e1 e2
    exact ip_add pins s σ H _ _ v u Q I rx ry ⟨_, _, rfl, rfl, p φ _ H .refl rl (.mk_int _)⟩
  · have e1 := r1.int_inv; have e2 := r2.int_inv; subst e1 e2
    exact ip_sub pins s σ H _ _ v u Q I rx ry ⟨_, _, rfl, rfl, p φ _ H .refl rl (.mk_int _)⟩
  · exact p.elim
theorem rB_go {op : Op} {w1 w2 : W} {x y : V} {g : W → Hb → G} {D : Ends} (s : RS X.K T φ H σb σ) (rl : Rel X.K T φ H h) (r1 : RV X.K T φ H w1 x) (r2 : RV X.K T φ H w2 y) (p : PostS X.K T Wx φ H ((inplace op w1 w2 h).go σb g) D) :
    rB X.K T (inplace op) x y H (fun v H1 => ∃ φ1 w h1, Ex X.K φ φ1 H H1 ∧ RS X.K T φ1 H1 σb σ ∧ Rel X.K T φ1 H1 h1 ∧ RV X.K T φ1 H1 w v ∧ PostS X.K T Wx φ1 H1 (g w h1) D) :=
  ⟨φ, h, w1, w2, rl, r1, r2, goB_of s rl (inplace_nx _ _ _ _) p⟩
theorem ds_aug {i : Nat} {x : Str} {op : Op} {pos' : Pos} (hN : X.N.Nodup) (hi : X.N[i]? = some x) (hx : Loc X.env.scope x) (hf : X.fn x = true ∨ X.env.scope.names.lookup x = some .local) (ha : D X T Wx C a ea) :
    DS X T Wx C (.AugAssign (.Name x pos') (opP op) a pos) (.aug i op ea) := by
  refine (ps_aug hN hi hx ha (ipI_ok (T := T) op) hf).weak fun D σ H ⟨φ, σb, h, s, rl, p⟩ => ?_
  simp only [evalS] at p
  split at p
  · rename_i w q
    obtain ⟨v, e, r⟩ := s.at_ i w q
    refine ⟨v, e, ?_⟩
    refine tR_mono (tS_of s rl p) ?_
    rintro y H1 ⟨φ1, w1, h1, x1, s1, rl1, r1, p1⟩
    obtain ⟨φ2, h2, u1, u2, rl2, ru1, ru2, q2⟩ := rB_go s1 rl1 (RV.mono x1 _ _ r) r1 p1
    refine ⟨φ2, h2, u1, u2, rl2, ru1, ru2, q2.mono ?_⟩
    rintro z H2 ⟨φ3, w3, h3, x3, s3, rl3, r3, p3⟩
    exact p3 φ3 _ H2 .refl rl3 (s3.set r3)
  · exact p.elim
/-- a[i] = v -/
def rSet (K : PySem.W.Frag) (T : Tab) : TSet := fun o i v H Q => ∃ φ h wo wi wv, Rel K T φ H h ∧ RV K T φ H wo o ∧ RV K T φ H wi i ∧ RV K T φ H wv v ∧
  (match setIx h wo wi wv with | .ok _ h' => ∀ φ' H', Ex K φ φ' H H' → Rel K T φ' H' h' → Q H' | _ => False)
theorem setI_ok : PSet X (rSet X.K T) := by
  intro pins s σ H o i v ov iv u Q I ro ri rv ⟨φ, h, wo, wi, wv, rl, r1, r2, r3, p⟩
  unfold setIx at p
  split at p
  · rename_i h' e
    split at e
    · obtain ⟨a, rfl, ha⟩ := r1.ref_inv
      have e2 := r2.int_inv; subst e2
      split at e
      · rename_i xs q
        obtain ⟨vs, h1, k⟩ := rl.lst q ha
        split at e
        · rename_i j hj
          cases e
          refine set_list pins s σ H _ _ v ov iv u Q I ro ri rv ⟨a, vs, _, j, rfl, rfl, h1, by rw [← k.length]; exact hj, ?_⟩
          have x := Ex.write (o := .lst (vs.set j v)) rl (List.mem_of_getElem? ha)
          exact p φ _ x (rl.write ha ⟨_, upd_same, RVs.set (RV.mono x _ _ r3) j (RVs.mono x _ _ k)⟩)
        · cases e
      · cases e
    · cases e
  · exact p.elim
theorem setIx_nx (h : Hb) (a b c : W) : ∀ e h', setIx h a b c ≠ .ex e h' := by
  intro e h' q
  unfold setIx at q
  repeat' (first | cases q | (split at q))
theorem rSet_go {w1 w2 w3 : W} {x y z : V} {g : Unit → Hb → G} {D : Ends} (s : RS X.K T φ H σb σ) (rl : Rel X.K T φ H h) (r1 : RV X.K T φ H w1 x) (r2 : RV X.K T φ H w2 y) (r3 : RV X.K T φ H w3 z) (p : PostS X.K T Wx φ H ((setIx h w1 w2 w3).go σb g) D) :
    rSet X.K T x y z H (fun H1 => ∃ φ1 h1, Ex X.K φ φ1 H H1 ∧ RS X.K T φ1 H1 σb σ ∧ Rel X.K T φ1 H1 h1 ∧ PostS X.K T Wx φ1 H1 (g () h1) D) := by
  refine ⟨φ, h, w1, w2, w3, rl, r1, r2, r3, ?_⟩
  cases q : setIx h w1 w2 w3 with
  | no => rw [q] at p; exact p
  | ex e h' => exact absurd q (setIx_nx _ _ _ _ _ _)
  | ok u h' => rw [q] at p; exact fun φ' H' x rl' => ⟨φ', h', x, s.mono x, rl', PostS.ext x p⟩
theorem ds_six {o i : Expr} {eo ei : E} {tpos : Pos} (ha : D X T Wx C a ea) (ho : D X T Wx C o eo) (hi : D X T Wx C i ei)
    (hA : ∀ v, assign (.Subscript o i tpos) X.env v = (do
      let ov ← holding [v] (eval o X.env)
      let iv ← holding [v, ov] (eval i X.env)
      standAt tpos
      holding [v, ov, iv] (setItem ov iv v)
      release [v, ov, iv] []))
    (hs : swapsWithSole [.Subscript o i tpos] a pos.line X.env = pure false) (hw : swappedStores [.Subscript o i tpos] a X.env = pure none) (h1 : (assignEach [.Subscript o i tpos] X.env).map (·.2) = [assign (.Subscript o i tpos) X.env]) :
    DS X T Wx C (.Assign [.Subscript o i tpos] a pos) (.six eo ei ea) := by
  refine (ps_asg ha (pg_sub ho hi (setI_ok (T := T)) hA) hs hw h1).weak fun D σ H ⟨φ, σb, h, s, rl, p⟩ => ?_
  simp only [evalS] at p
  refine tR_mono (tS_of s rl p) ?_
  rintro v H1 ⟨φ1, w1, h1, x1, s1, rl1, r1, p1⟩
  refine tR_mono (tS_of s1 rl1 p1) ?_
  rintro x H2 ⟨φ2, w2, h2, x2, s2, rl2, r2, p2⟩
  refine tR_mono (tS_of s2 rl2 p2) ?_
  rintro y H3 ⟨φ3, w3, h3, x3, s3, rl3, r3, p3⟩
  obtain ⟨φ4, h4, wo, wi, wv, a1, a2, a3, a4, q4⟩ := rSet_go s3 rl3 (RV.mono x3 _ _ r2) r3 (RV.mono (x2.trans x3) _ _ r1) p3
  refine ⟨φ4, h4, wo, wi, wv, a1, a2, a3, a4, ?_⟩
  split at q4
  · intro φ' H' x rl'
    obtain ⟨φ5, h5, _, s5, rl5, p5⟩ := q4 φ' H' x rl'
    exact p5 φ5 σ H' .refl rl5 s5
  · exact q4
/-- a[i], by values -/
theorem getI_ok : PGet X (rB X.K T fun a b h => R.ofO (getIxL h a b) h) := by
  intro pins s σ H o i ov iv Q I ro ri ⟨φ, h, w1, w2, rl, r1, r2, p⟩
  dsimp only at p
  cases hc : getIxL h w1 w2 with
  | none => rw [hc] at p; exact p.elim
  | some w =>
  rw [hc] at p
  have fin : ∀ z, RV X.K T φ H w z → Q z H := fun z r => p φ z H .refl rl r
  have seqL : ∀ {xs : List W} {k : Int} {a : Addr} {vs : List V}, o = .ref a → i = .int k → SqL X.K H a vs → RVs X.K T φ H xs vs → ((L2.ixN xs.length k).bind fun j => xs[j]?) = some w →
      wpAny (model X.prog X.w) X.A (getItem ov iv) (EP X pins σ Q) X.xe s := by
    intro xs k a vs e1 e2 hq kk e
    subst e1 e2
    cases ro
    obtain ⟨t, rfl⟩ := ri
    obtain ⟨j, hj, hw⟩ := Option.bind_eq_some_iff.mp e
    obtain ⟨z, hz, rz⟩ := kk.get hw
    obtain ⟨its, r, pl, hsz⟩ := I.list hq
    obtain ⟨u, ew, ru⟩ := r.get hz
    obtain ⟨g1, g2, g3, g4⟩ := ixN_seq (show ixN vs.length k = some j by rw [← kk.length]; exact hj)
    have hl := r.length
    have hn := line63
    have fin' : EP X pins σ Q u s := ⟨z, H, I, ru, fin z rz⟩
    by_cases h0 : 0 ≤ k
    · have e3 : k.toNat = j := by
        rw [seqIndex_of h0 g4] at g1
        exact Option.some.inj g1
      exact wpAny_getItem_list pl.isList h0 (by omega) (by rw [e3]; simpa using ew) fin'
    · have e3 : (k + (its.toArray.size : Int)).toNat = j := by
        rw [seqIndex_neg (by omega) g3] at g1
        rw [List.size_toArray, ← hl]
        exact Option.some.inj g1
      exact wpAny_getItem_list_neg pl.isList (by omega) (by rw [List.size_toArray] <;> omega) (by omega) (by rw [e3]; simpa using ew) fin'
  have seqT : ∀ {xs : List W} {k : Int} {a : Addr} {vs : List V}, o = .ref a → i = .int k → SqT X.K H a vs → RVs X.K T φ H xs vs → ((L2.ixN xs.length k).bind fun j => xs[j]?) = some w →
      wpAny (model X.prog X.w) X.A (getItem ov iv) (EP X pins σ Q) X.xe s := by
    intro xs k a vs e1 e2 hq kk e
    subst e1 e2
    cases ro
    obtain ⟨t, rfl⟩ := ri
    obtain ⟨j, hj, hw⟩ := Option.bind_eq_some_iff.mp e
    obtain ⟨z, hz, rz⟩ := kk.get hw
    obtain ⟨its, r, pl, hsz⟩ := I.tuple hq
    obtain ⟨u, ew, ru⟩ := r.get hz
    obtain ⟨g1, g2, g3, g4⟩ := ixN_seq (show ixN vs.length k = some j by rw [← kk.length]; exact hj)
    have hl := r.length
    have hn := line63
    have fin' : EP X pins σ Q u s := ⟨z, H, I, ru, fin z rz⟩
    exact getItem_tuple (j := j) pl (by omega) (by omega) (by rw [List.size_toArray, ← hl]; exact g1) (by simpa using ew) fin'
  unfold getIxL at hc
  split at hc
  · cases hc
  rename_i nstr
  unfold getIx at hc
  split at hc
  · obtain ⟨a, vs, e1, h1, k⟩ := r1.tup_inv
    exact seqT e1 r2.int_inv (tup_seq h1) k hc
  · obtain ⟨a, vs, e1, n, h1, k⟩ := r1.lit_inv
    exact seqL e1 r2.int_inv (SqL.of h1) k hc
  · obtain ⟨a, vs, e1, h1, k⟩ := r1.rol_inv
    exact seqL e1 r2.int_inv (lst_seq h1) k hc
  · obtain ⟨a, e1, ha⟩ := r1.ref_inv
    split at hc
    · rename_i xs q
      obtain ⟨vs, e3, k⟩ := rl.lst q ha
      exact seqL e1 r2.int_inv (SqL.of e3) k hc
    · cases hc
  · exact absurd rfl (nstr _)
  · cases hc
theorem ds_sixaug {o i : Expr} {eo ei : E} {op : Op} {tpos : Pos} (ho : D X T Wx C o eo) (hi : D X T Wx C i ei) (ha : D X T Wx C a ea)
    (hA : ∀ ov iv new, augStore i ov iv new = (do holding [new, ov, iv] (setItem ov iv new); release [new, ov, iv] []; pure .next)) :
    DS X T Wx C (.AugAssign (.Subscript o i tpos) (opP op) a pos) (.sixaug eo ei op ea) := by
  refine (ps_augS ho hi (getI_ok (T := T)) ha (ipI_ok (T := T) op) (setI_ok (T := T)) hA).weak fun D σ H ⟨φ, σb, h, s, rl, p⟩ => ?_
  simp only [evalS] at p
  refine tR_mono (tS_of s rl p) ?_
  rintro x H1 ⟨φ1, w1, h1, x1, s1, rl1, r1, p1⟩
  refine tR_mono (tS_of s1 rl1 p1) ?_
  rintro y H2 ⟨φ2, w2, h2, x2, s2, rl2, r2, p2⟩
  replace r1 := RV.mono x2 _ _ r1
  split at p2
  · rename_i z hz
    refine ⟨φ2, h2, w1, w2, rl2, r1, r2, ?_⟩
    dsimp only
    rw [hz]
    intro φ3 v3 H3 x3 rl3 r3
    refine tR_mono (tS_of (s2.mono x3) rl3 (PostS.ext x3 p2)) ?_
    rintro v H4 ⟨φ4, w4, h4, x4, s4, rl4, r4, p4⟩
    refine ⟨φ4, h4, z, w4, rl4, RV.mono x4 _ _ r3, r4, (goB_of s4 rl4 (inplace_nx _ _ _ _) p4).mono ?_⟩
    rintro u H5 ⟨φ5, w5, h5, x5, s5, rl5, r5, p5⟩
    have xx := x3.trans (x4.trans x5)
    obtain ⟨φ6, h6, wo, wi, wv, a1, a2, a3, a4, q6⟩ := rSet_go s5 rl5 (RV.mono xx _ _ r1) (RV.mono xx _ _ r2) r5 p5
    refine ⟨φ6, h6, wo, wi, wv, a1, a2, a3, a4, ?_⟩
    split at q6
    · intro φ' H' x rl'
      obtain ⟨φ7, h7, _, s7, rl7, p7⟩ := q6 φ' H' x rl'
      exact p7 φ7 σ H' .refl rl7 s7
    · exact q6
  · exact p2.elim
end
end Y
/-! Y9: calls of own functions; a function runs as Y says, by its body. -/
namespace Y
open PySem PySem.Spec PyProof.Rows L2

/-- the function at a, called x, runs as Y's -/
structure FnY (P : Program) (w : World) (K : PySem.W.Frag) (mg : Str → Option Value) (base : Heap) (ca : Str → Addr) (call : Str → List W → List (Str × W) → Hb → R W) (k : Nat) (x : Str) (a : Addr) : Prop where
  run : ∀ (T : Tab) (A : Around) (outer : List Env) (s : Shared) (H : Hp) (φ : List Addr) (h : Hb) (us us2 : List Value) (vs vs2 : List V) (ws ws2 : List W) (ks : List Str) (Q : VK) (E : XK), T.ca = ca → Room k A → A.guards = some [] → Env0 P w K mg base A outer s H →
    Vals vs us → Vals vs2 us2 → RVs K T φ H ws vs → RVs K T φ H ws2 vs2 → Rel K T φ H h → Post K T E φ H (call x ws (ks.zip ws2) h) Q →
    codeAny (model P w) A (.call (.ref a) ⟨us, ks.zip us2⟩) (CR (L2.CX P w) outer P w H s Q E) s

section
variable {X : L2.Cx} {T : Tab} {Wx : WX} {C : Ctx} {σ : L2.St} {φ : List Addr} {H : Hp} {h : Hb} {σb : Sb} {ca : Str → Addr} {k : Nat} {x : Str} {f : Addr}
variable {a b c tg : Expr} {ea eb ec : E} {pos p : Pos} {es : List Expr} {kws : List Keyword} {ek : E} {ks : List Str}
theorem run_fnY {pins : List (Addr × Obj)} {s : Shared} {us us2 : List Value} {vs vs2 : List V} {ws ws2 : List W} {Q : VK} (F : FnY X.prog X.w X.K X.mg X.base ca C.call k x f) (hT : T.ca = ca) (hr : Room k X.A) (hgd : X.A.guards = some []) (tk : Takes X Wx)
    (I : L2.Inv X pins σ H s) (r : Vals vs us) (r2 : Vals vs2 us2) (k1 : RVs X.K T φ H ws vs) (k2 : RVs X.K T φ H ws2 vs2) (rl : Rel X.K T φ H h) (p : Post X.K T (ZX Wx σ) φ H (C.call x ws (ks.zip ws2) h) Q) :
    wpAny (model X.prog X.w) X.A (call (.ref f) us (ks.zip us2)) (EP X pins σ Q) X.xe s := by
  refine wpAny_call (codeAny_mono (F.run T X.A X.stack s H φ h us us2 vs vs2 ws ws2 ks Q (WE Wx σ) hT hr hgd I.env0 r r2 k1 k2 rl p) fun r s' hq => ?_)
  cases r with
  | error e => exact passAt tk σ pins H s e s' I hq
  | ok fl =>
    cases fl with
    | ret u => exact I.after hq
    | next => exact False.elim hq
    | brk => exact False.elim hq
    | cont => exact False.elim hq
abbrev DK (X : L2.Cx) (T : Tab) (Wx : WX) (C : Ctx) (kws : List Keyword) (e' : E) : Prop := PK X kws (tIA X.K T Wx (evalE C e'))
theorem dk_nil : DK X T Wx C [] .nil := ⟨fun pos pins s σ H Q I ⟨φ, σb, h, s', rl, p⟩ => pk_nil.run pos pins s σ H Q I (p φ [] H .refl rl ⟨[], rfl, .nil⟩)⟩
theorem dk_cons {nm : Option Str} {kp : Pos} (ha : D X T Wx C a ea) (hr : DK X T Wx C kws eb) : DK X T Wx C (⟨nm, a, kp⟩ :: kws) (.cons ea eb) := by
  refine ⟨fun pos pins s σ H Q I ⟨φ, σb, h, s', rl, p⟩ => (pk_cons ha hr).run pos pins s σ H Q I ?_⟩
  simp only [evalE] at p
  refine tR_mono (tR_of s' rl p) ?_
  rintro x H1 ⟨φ1, w1, h1, _, x1, s1, rl1, r1, p1⟩
  refine tR_mono (tR_of (Ru := RA X.K T) s1 rl1 p1) ?_
  rintro ys H2 ⟨φ2, w2, h2, _, x2, s2, rl2, ⟨ws, rfl, r2⟩, p2⟩
  exact p2 φ2 _ H2 .refl rl2 ⟨_, rfl, .cons (RV.mono x2 _ _ r1) r2⟩
/-- what the arguments come to, then the call -/
theorem call_read {Q : VK} (s : RS X.K T φ H σb σ) (rl : Rel X.K T φ H h) (p : Post X.K T (ZX Wx σ) φ H (evalE C (.call x ea ks ek) σb h) Q) :
    tIA X.K T Wx (evalE C ea) σ H fun vs H1 => tIA X.K T Wx (evalE C ek) σ H1 fun vs2 H2 => ∃ φ2 h2 ws ws2, RVs X.K T φ2 H2 ws vs ∧ RVs X.K T φ2 H2 ws2 vs2 ∧ Rel X.K T φ2 H2 h2 ∧ Post X.K T (ZX Wx σ) φ2 H2 (C.call x ws (ks.zip ws2) h2) Q := by
  simp only [evalE] at p
  refine tR_mono (tR_of (Ru := RA X.K T) s rl p) ?_
  rintro vs H1 ⟨φ1, w1, h1, _, x1, s1, rl1, ⟨ws, rfl, r1⟩, p1⟩
  refine tR_mono (tR_of (Ru := RA X.K T) s1 rl1 p1) ?_
  rintro vs2 H2 ⟨φ2, w2, h2, _, x2, s2, rl2, ⟨ws2, rfl, r2⟩, p2⟩
  exact ⟨φ2, h2, ws, ws2, RVs.mono x2 _ _ r1, r2, rl2, p2⟩
/-- no keywords -/
theorem call_read0 {Q : VK} (s : RS X.K T φ H σb σ) (rl : Rel X.K T φ H h) (p : Post X.K T (ZX Wx σ) φ H (evalE C (.call x ea [] .nil) σb h) Q) :
    tIA X.K T Wx (evalE C ea) σ H fun vs H1 => ∃ φ1 h1 ws, RVs X.K T φ1 H1 ws vs ∧ Rel X.K T φ1 H1 h1 ∧ Post X.K T (ZX Wx σ) φ1 H1 (C.call x ws [] h1) Q := by
  simp only [evalE] at p
  refine tR_mono (tR_of (Ru := RA X.K T) s rl p) ?_
  rintro vs H1 ⟨φ1, w1, h1, _, x1, s1, rl1, ⟨ws, rfl, r1⟩, p1⟩
  exact ⟨φ1, h1, ws, r1, rl1, p1⟩
theorem d_call {e : Expr} (F : FnY X.prog X.w X.K X.mg X.base ca C.call k x f) (hT : T.ca = ca) (hr : Room k X.A) (hgd : X.A.guards = some []) (tk : Takes X Wx) (hg : Gl X x) (hm : X.mg x = some (.ref f)) (hk : PySem.W.keepIn X.K (.ref f) = true)
    (ha : DA X T Wx C (e :: es) ea) (hs : noStars (e :: es) = true) (hdb : (x == ("__debug__" : Str)) = false) : D X T Wx C (.Call (.Name x p) (e :: es) [] pos) (.call x ea [] .nil) := by
  have h' : notStar e = true ∧ noStars es = true := by simpa [noStars] using hs
  refine ⟨fun pins s σ H Q I ⟨φ, σb, h, s', rl, p⟩ => ?_⟩
  refine wpAny_Call_Name_kw (ld_glob I hg hm ?_ hdb)
  refine PySem.W.callWith_K (h₀ := X.base) I.ok.mod.kin hk (thn (ha.run pos pins s σ H _ I (call_read0 s' rl p)) fun us s1 ⟨vs, H1, I1, r, φ1, h1, ws, r1, rl1, p1⟩ => ⟨I1.kIn, ?_⟩) (starEach_of h'.1) (noStars_any h'.2)
  exact run_fnY (us2 := []) (vs2 := []) (ws2 := []) (ks := []) F hT hr hgd tk I1 r .nil r1 .nil rl1 p1
theorem d_call0 (F : FnY X.prog X.w X.K X.mg X.base ca C.call k x f) (hT : T.ca = ca) (hr : Room k X.A) (hgd : X.A.guards = some []) (tk : Takes X Wx) (hg : Gl X x) (hm : X.mg x = some (.ref f)) (hk : PySem.W.keepIn X.K (.ref f) = true)
    (hdb : (x == ("__debug__" : Str)) = false) : D X T Wx C (.Call (.Name x p) [] [] pos) (.call x .nil [] .nil) := by
  refine ⟨fun pins s σ H Q I ⟨φ, σb, h, s', rl, p⟩ => ?_⟩
  refine wpAny_Call_Name_kw (ld_glob I hg hm ?_ hdb)
  simp only [evalE, R.bind] at p
  exact PySem.W.callWith_K0 I.kIn hk (run_fnY (us := []) (us2 := []) (vs := []) (vs2 := []) (ws := []) (ws2 := []) (ks := []) F hT hr hgd tk I .nil .nil .nil .nil rl p)
/-- keywords' names -/
def kwNames (kws : List Keyword) : List (Option Str) := kws.map (·.arg)
theorem kw_all {env : Env} {pos : Pos} : ∀ {kws : List Keyword} {ks : List Str}, kwNames kws = ks.map some → (backToKw pos (keywordEach kws env)).all (·.1.isSome) = true ∧ (backToKw pos (keywordEach kws env)).filterMap (·.1) = ks ∧ (backToKw pos (keywordEach kws env)).any (·.1.isNone) = false
  | [], [], _ => ⟨rfl, rfl, rfl⟩
  | [], _ :: _, h => by simp [kwNames] at h
  | kw :: kws, [], h => by simp [kwNames] at h
  | ⟨nm, e, kp⟩ :: kws, k :: ks, h => by
    simp only [kwNames, List.map_cons, List.cons.injEq] at h
    obtain ⟨rfl, h⟩ := h
    obtain ⟨i1, i2, i3⟩ := kw_all (env := env) (pos := pos) (kws := kws) (ks := ks) h
    simp only [keywordEach, backToKw, List.map_cons, List.all_cons, List.filterMap_cons, List.any_cons, Option.isSome_some, Option.isNone_some, Bool.true_and, Bool.false_or] at i1 i2 i3 ⊢
    exact ⟨i1, by rw [i2], i3⟩
theorem d_callK {e : Expr} (F : FnY X.prog X.w X.K X.mg X.base ca C.call k x f) (hT : T.ca = ca) (hr : Room k X.A) (hgd : X.A.guards = some []) (tk : Takes X Wx) (hg : Gl X x) (hm : X.mg x = some (.ref f)) (hk : PySem.W.keepIn X.K (.ref f) = true)
    (ha : DA X T Wx C (e :: es) ea) (hs : noStars (e :: es) = true) (hkw : DK X T Wx C kws ek) (hks : kwNames kws = ks.map some) (hdb : (x == ("__debug__" : Str)) = false) : D X T Wx C (.Call (.Name x p) (e :: es) kws pos) (.call x ea ks ek) := by
  have h' : notStar e = true ∧ noStars es = true := by simpa [noStars] using hs
  obtain ⟨k1, k2, k3⟩ := kw_all (env := X.env) (pos := pos) hks
  refine ⟨fun pins s σ H Q I ⟨φ, σb, h, s', rl, p⟩ => ?_⟩
  refine wpAny_Call_Name_kw (ld_glob I hg hm ?_ hdb)
  refine PySem.W.callWith_KW (h₀ := X.base) I.ok.mod.kin hk k1 (thn (ha.run pos pins s σ H _ I (call_read s' rl p)) fun us s1 ⟨vs, H1, I1, r, q⟩ => ?_) (by rw [k3, noStars_any hs]; rfl) (starEach_of h'.1)
  refine thn (hkw.run pos pins s1 σ H1 _ I1 q) fun us2 s2 ⟨vs2, H2, I2, r2, φ2, h2, ws, ws2, a1, a2, rl2, p2⟩ => ⟨I2.kIn, ?_⟩
  rw [k2]
  exact run_fnY F hT hr hgd tk I2 r r2 a1 a2 rl2 p2
theorem d_callK0 (F : FnY X.prog X.w X.K X.mg X.base ca C.call k x f) (hT : T.ca = ca) (hr : Room k X.A) (hgd : X.A.guards = some []) (tk : Takes X Wx) (hg : Gl X x) (hm : X.mg x = some (.ref f)) (hk : PySem.W.keepIn X.K (.ref f) = true)
    (hkw : DK X T Wx C kws ek) (hks : kwNames kws = ks.map some) (hdb : (x == ("__debug__" : Str)) = false) : D X T Wx C (.Call (.Name x p) [] kws pos) (.call x .nil ks ek) := by
  obtain ⟨k1, k2, k3⟩ := kw_all (env := X.env) (pos := pos) hks
  refine ⟨fun pins s σ H Q I ⟨φ, σb, h, s', rl, p⟩ => ?_⟩
  refine wpAny_Call_Name_kw (ld_glob I hg hm ?_ hdb)
  have q := call_read s' rl p
  obtain ⟨φ0, σ0, h0, t0, rl0, p0⟩ := q
  have q0 := p0 φ0 [] H .refl rl0 ⟨[], rfl, .nil⟩
  refine PySem.W.callWith_KW0 (h₀ := X.base) I.ok.mod.kin hk k1 ?_ (by rw [k3]; rfl)
  refine thn (hkw.run pos pins s σ H _ I q0) fun us2 s2 ⟨vs2, H2, I2, r2, φ2, h2, ws, ws2, a1, a2, rl2, p2⟩ => ⟨I2.kIn, ?_⟩
  rw [k2]
  exact run_fnY (us := []) (vs := []) F hT hr hgd tk I2 .nil r2 a1 a2 rl2 p2
/-- with stars behind the first -/
theorem d_callS {e : Expr} (F : FnY X.prog X.w X.K X.mg X.base ca C.call k x f) (hT : T.ca = ca) (hr : Room k X.A) (hgd : X.A.guards = some []) (tk : Takes X Wx) (hg : Gl X x) (hm : X.mg x = some (.ref f)) (hk : PySem.W.keepIn X.K (.ref f) = true)
    (ha : DA X T Wx C (e :: es) ea) (hs : notStar e = true) (hst : (backTo pos (starEach es X.env)).any (·.1) = true) (hdb : (x == ("__debug__" : Str)) = false) : D X T Wx C (.Call (.Name x p) (e :: es) [] pos) (.call x ea [] .nil) := by
  refine ⟨fun pins s σ H Q I ⟨φ, σb, h, s', rl, p⟩ => ?_⟩
  refine wpAny_Call_Name_kw (ld_glob I hg hm ?_ hdb)
  refine PySem.W.callWith_S2 (h₀ := X.base) I.ok.mod.kin hk (thn (ha.run pos pins s σ H _ I (call_read0 s' rl p)) fun us s1 ⟨vs, H1, I1, r, φ1, h1, ws, r1, rl1, p1⟩ => ⟨I1.kIn, ?_⟩) (starEach_of hs) hst
  exact run_fnY (us2 := []) (vs2 := []) (ws2 := []) (ks := []) F hT hr hgd tk I1 r .nil r1 .nil rl1 p1
end

/-! ### a def's body -/
/-- the slots at the entry, by the values -/
theorem RS.start {K : PySem.W.Frag} {T : Tab} {φ : List Addr} {H : Hp} {N : List Str} {vs : List V} {ws : List W} {n : Nat} (k : RVs K T φ H ws vs) (hn : n = N.length) : RS K T φ H (ws.map some ++ List.replicate (n - ws.length) none) (L2.start N vs) := by
  have hl := k.length
  refine ⟨by unfold L2.start; simp only [List.length_append, List.length_map, List.length_replicate]; rw [hl, hn], fun i w e => ?_⟩
  by_cases hi : i < ws.length
  · rw [List.getElem?_append_left (by simpa using hi), List.getElem?_map] at e
    cases q : ws[i]? with
    | none => rw [q] at e; cases e
    | some u =>
      rw [q] at e
      cases e
      obtain ⟨v, hv, r⟩ := k.get q
      refine ⟨v, ?_, r⟩
      unfold L2.start
      rw [List.getElem?_append_left (by rw [List.length_map, ← hl]; exact hi), List.getElem?_map, hv]
      rfl
  · rw [List.getElem?_append_right (by simpa using Nat.le_of_not_lt hi), List.getElem?_replicate] at e
    split at e <;> cases e
theorem fnY_of {P : Program} {w : World} {K : PySem.W.Frag} {mg : Str → Option Value} {base : Heap} {k : Nat} {f : Addr} {name qual : Str} {params : Arguments} {body : List Stmt} {scope : Scope} {dV kV doc pm cdv ct oc : Value} {an od : Option Addr}
    {osl : Array (Option Value)} {N ps : List Str} {ca : Str → Addr} {call : Str → List W → List (Str × W) → Hb → R W} {x : Str} (lk : K.lookup f = some ⟨oc, od, .func (PySem.W.fnOf name qual params body scope dV kV doc pm an cdv ct), osl⟩) (hcd : PySem.W.codeIn K cdv qual = true) (S : FnScope N ps scope)
    (hbody : ∀ (T : Tab) (A : Around) (outer : List Env) (s : Shared) (H : Hp) (φ : List Addr) (h : Hb) (us us2 : List Value) (vs vs2 : List V) (ws ws2 : List W) (ks : List Str) (Q : VK) (E : XK), T.ca = ca → Room (k + 1) A → A.guards = some [] → K.In s.heap → Vals vs us → Vals vs2 us2 → RVs K T φ H ws vs → RVs K T φ H ws2 vs2 → Rel K T φ H h → Post K T E φ H (call x ws (ks.zip ws2) h) Q →
      ∃ us3 vs3 t, us3.length = ps.length ∧ Vals vs3 us3 ∧ BindsTo s (PySem.W.fnOf name qual params body scope dV kV doc pm an cdv ct) ⟨us, ks.zip us2⟩ (ps.zip us3) ∧
        PSs (cxOf (L2.CX P w) P w K mg base N qual scope f cdv A outer s H E) body t ∧ t { nx := fun _ H' => Q .non H', rt := Q } (L2.start N vs3) H) :
    FnY P w K mg base ca call (k + 1) x f := by
  refine ⟨fun T A outer s H φ h us us2 vs vs2 ws ws2 ks Q E hT hr hgd e0 r r2 k1 k2 rl p => ?_⟩
  have KX : K.In s.heap := e0.mod.kin.keeps fun b o e => (e0.bs b o e).1
  have lim : s.heap.NoLimit := e0.mod.nolimit.keeps fun b o e => (e0.bs b o e).1
  obtain ⟨us3, vs3, t, hl3, r3, hb, ht, hq⟩ := hbody T A outer s H φ h us us2 vs vs2 ws ws2 ks Q E hT hr hgd KX r r2 k1 k2 rl p
  have hkind : ∀ y ∈ ps.zip us3, scope.names.lookup y.1 = some .local ∨ (scope.names.lookup y.1 = some .cell ∧ ((cellsFrom (s.heap.objs.size + 1) scope.names []).lookup y.1).isSome = true) := fun ⟨n, v⟩ hy => by
    rcases S.par n (List.of_mem_zip hy).1 with q | q
    · exact .inl q
    · exact .inr ⟨q, PySem.W.cellsFrom_some _ _ _ (.inl q)⟩
  refine codeAny_call_function hr.depth (KX _ _ lk) rfl S.co S.gen rfl (PySem.W.codeRec_of KX hcd) (hb _ _ _ _ ?_)
  refine wpAny_newFunctionEnv_cells S.kind hkind fun env he s1 x => ?_
  subst he
  refine ⟨lim.keeps x.toInCall.keep, codeAny_func ?_⟩
  have I : L2.Inv (cxOf (L2.CX P w) P w K mg base N qual scope f cdv A outer s H E) [] (L2.start N vs3) H s1 := inv_start S hr.hd e0 (by rw [r3.length, hl3]) r3 x
  refine wpAny_mono (ht.run [] s1 (L2.start N vs3) H _ I hq) (fun fl s' hs => ?_) fun e s' hs => hs
  have fin : ∀ {σ' : L2.St} {H' : Hp} {v : V} {u : Value}, L2.Inv (cxOf (L2.CX P w) P w K mg base N qual scope f cdv A outer s H E) [] σ' H' s' → RelV v u → Q v H' → CE outer P w H s Q u s' :=
    fun {σ' H' v u} J rv q => ⟨v, H', J.os, J.bare, J.base, J.hok, rv, q⟩
  cases fl with
  | ret u =>
    obtain ⟨v, σ', H', J, rv, q⟩ := hs
    exact fin J rv q
  | next =>
    obtain ⟨σ', H', J, q⟩ := hs
    exact fin (v := V.non) (u := Value.none) J rfl q
  | brk =>
    obtain ⟨_, _, _, q⟩ := hs
    exact False.elim q
  | cont =>
    obtain ⟨_, _, _, q⟩ := hs
    exact False.elim q
end Y
/-! Y10: does a text match a term of Y? If so, it runs as the term says. -/
namespace Y
open PySem PySem.Spec PyProof.Rows L2

/-- what is known of a block: its slots' names, its written scope, its running scope, the functions, the built-ins that stand -/
structure MC where
  N : List Str
  w : Scope
  sc : Scope
  fs : List Str
  bl : List Str
def MC.blk (M : MC) (scope : Scope) : MC := { M with w := scope, sc := relS scope M.sc }
def visB (sc : Scope) (x : Str) : Bool := match sc.names.lookup x with | some .local => true | some .cell => true | some .free => true | _ => false
def stB (M : MC) (x : Str) : Bool := match M.sc.names.lookup x with
  | some .local => true
  | some .cell => (match M.w.names.lookup x with | some .cell => true | _ => false)
  | _ => false
def glB (sc : Scope) (x : Str) : Bool := match sc.names.lookup x with | some .globalImplicit => true | _ => false
def dbg (x : Str) : Bool := !(x == ("__debug__" : Str))
def ncd (x : Str) : Bool := !(x == ("__classdict__" : Str))
def blB (M : MC) (x : Str) : Bool := glB M.sc x && decide (x ∈ M.bl)
theorem vis_of {sc : Scope} {x : Str} (h : visB sc x = true) : Vis sc x := by
  unfold visB at h
  split at h
  · exact .inl (by assumption)
  · exact .inr (.inl (by assumption))
  · exact .inr (.inr (by assumption))
  · cases h
theorem dbg_of {x : Str} (h : dbg x = true) : (x == ("__debug__" : Str)) = false := by unfold dbg at h; simpa using h
theorem ncd_of {x : Str} (h : ncd x = true) : (x == ("__classdict__" : Str)) = false := by unfold ncd at h; simpa using h

def notSet : Expr → Bool
  | .Set _ _ _ => false
  | _ => true
theorem notSet_ok {e : Expr} {env : Env} (h : notSet e = true) : ∀ x, foldedSetIterable e env x = pure x := fun x => by
  cases e <;> first | rfl | (exact (Bool.false_ne_true h).elim)
def isTup : Expr → Bool
  | .Tuple _ _ _ => true
  | _ => false
/-- a built-in's call with one argument, with two -/
def blt1 (M : MC) (f : Str) : Expr → Option Expr
  | .Call (.Name g _) [x] [] _ => if decide (g = f) && blB M f && notStar x then some x else none
  | _ => none
def blt2 (M : MC) (f : Str) : Expr → Option (Expr × Expr)
  | .Call (.Name g _) [x, y] [] _ => if decide (g = f) && blB M f && notStar x && notStar y then some (x, y) else none
  | _ => none
theorem blt1_ok {M : MC} {f : Str} {e x : Expr} (h : blt1 M f e = some x) : ∃ p pos, e = .Call (.Name f p) [x] [] pos ∧ blB M f = true ∧ notStar x = true := by
  unfold blt1 at h
  split at h
  · split at h
    · rename_i c
      cases h
      simp only [Bool.and_eq_true, decide_eq_true_eq] at c
      obtain ⟨⟨rfl, c2⟩, c3⟩ := c
      exact ⟨_, _, rfl, c2, c3⟩
    · cases h
  · cases h
theorem blt2_ok {M : MC} {f : Str} {e x y : Expr} (h : blt2 M f e = some (x, y)) : ∃ p pos, e = .Call (.Name f p) [x, y] [] pos ∧ blB M f = true ∧ notStar x = true ∧ notStar y = true := by
  unfold blt2 at h
  split at h
  · split at h
    · rename_i c
      cases h
      simp only [Bool.and_eq_true, decide_eq_true_eq] at c
      obtain ⟨⟨⟨rfl, c2⟩, c3⟩, c4⟩ := c
      exact ⟨_, _, rfl, c2, c3, c4⟩
    · cases h
  · cases h

/-! ### targets -/
mutual
def mG : Tg → MC → Expr → Bool
  | .nm i, M, e => (match e with | .Name x _ => decide (M.N[i]? = some x) && stB M x | _ => false)
  | .tp t, M, e => (match e with | .Tuple es _ _ => mGs t M es | _ => false)
  | .nil, _, _ => false
  | .cons _ _, _, _ => false
def mGs : Tg → MC → List Expr → Bool
  | .nil, _, es => (match es with | [] => true | _ => false)
  | .cons t r, M, es => (match es with | x :: xs => notStar x && mG t M x && mGs r M xs | _ => false)
  | .nm _, _, _ => false
  | .tp _, _, _ => false
end
theorem assignEach_of {e : Expr} {es : List Expr} {env : Env} (hs : notStar e = true) : assignEach (e :: es) env = (false, assign e env) :: assignEach es env := by
  cases e <;> first | rfl | (exfalso; exact Bool.false_ne_true hs)

/-! ### expressions -/
def ownN (N : List Str) (own : List Nat) : List (Str × Nat) := own.map fun i => ((N[i]?).getD Str.empty, i)
def isTrueE : E → Bool
  | .bl true => true
  | _ => false
def isNonE : E → Bool
  | .non => true
  | _ => false
def canNew : E → Bool
  | .lst _ => true
  | .cm _ _ _ _ _ => true
  | .bin _ _ _ => true
  | .bi f _ => newBi f
  | _ => false
mutual
def mE : E → MC → Expr → Bool
  | .slot i, M, e => (match e with | .Name x _ => decide (M.N[i]? = some x) && (visB M.sc x && (dbg x && ncd x)) | _ => false)
  | .non, _, e => (match e with | .Constant .none _ _ => true | _ => false)
  | .bl b, _, e => (match e with | .Constant (.bool c) _ _ => decide (b = c) | _ => false)
  | .int i, _, e => (match e with | .Constant (.int j) _ _ => decide (i = j) | _ => false)
  | .str s, _, e => (match e with | .Constant (.str t) _ _ => decide (s = t) | _ => false)
  | .glob x, M, e => (match e with | .Name y _ => decide (y = x) && (glB M.sc x && dbg x) | _ => false)
  | .bin op a b, M, e => (match e with | .BinOp x o y _ => decide (o = opP op) && (mE a M x && mE b M y) | _ => false)
  | .neg a, M, e => (match e with | .UnaryOp .USub x _ => mE a M x | _ => false)
  | .cmp op a b, M, e => (match e with | .Compare x [o] [y] _ => decide (o = cmP op) && (!behindInMarks o y && (mE a M x && mE b M y)) | _ => false)
  | .chn o1 o2 a b c, M, e => (match e with | .Compare x [p1, p2] [y, z] _ => (decide (p1 = cmP o1) && decide (p2 = cmP o2)) && (!lastMarks [p1, p2] [y, z] && (mE a M x && (mE b M y && mE c M z))) | _ => false)
  | .and a b, M, e => (match e with | .BoolOp .And (x :: y :: r) p => mE a M x && (match r with | [] => mE b M y | _ :: _ => mE b M (.BoolOp .And (y :: r) p)) | _ => false)
  | .or a b, M, e => (match e with | .BoolOp .Or (x :: y :: r) p => mE a M x && (match r with | [] => mE b M y | _ :: _ => mE b M (.BoolOp .Or (y :: r) p)) | _ => false)
  | .tand _ _, _, _ => false
  | .tor _ _, _, _ => false
  | .tnot a, M, e => (match e with | .UnaryOp .Not x _ => mU a M x | _ => false)
  | .tru _, _, _ => false
  | .ite c a b, M, e => (match e with | .IfExp x y z _ => mT c M x && (mE a M y && mE b M z) | _ => false)
  | .nil, _, _ => false
  | .cons _ _, _, _ => false
  | .star _ _, _, _ => false
  | .tup es, M, e => (match e with | .Tuple xs _ _ => mA es M xs | _ => false)
  | .lst es, M, e => (match e with | .List xs _ => mA es M xs | _ => false)
  | .new a, M, e => canNew a && mE a M e
  | .ix a i, M, e => (match e with | .Subscript x y _ => plainIx y && (mE a M x && mE i M y) | _ => false)
  | .cut a lo hi, M, e => (match e with
    | .Subscript x (.Slice l u none _) _ => mE a M x && ((match l with | none => isNonE lo | some y => !isNonE lo && mE lo M y) && (match u with | none => isNonE hi | some y => !isNonE hi && mE hi M y))
    | _ => false)
  | .bi f es, M, e => (match e with | .Call (.Name g _) (x :: xs) [] _ => decide (g = biN f) && (blB M (biN f) && (noStars (x :: xs) && mA es M (x :: xs))) | _ => false)
  | .mt m a es, M, e => (match e with
    | .Call (.Attribute o g ap) xs [] cp => decide (g = mtN m) && ((noCall0 o && (ap.endLine == cp.line)) && (mE a M o && (noStars xs && (mA es M xs && decide (xs.length ≤ 20) && (match m, xs with
      | .append, _ :: _ => true
      | .pop, _ => true
      | .join, _ :: _ => true
      | _, _ => false)))))
    | _ => false)
  | .call f es ks kes, M, e => (match e with
    | .Call (.Name g _) xs kws _ => decide (g = f) && ((glB M.sc f && (dbg f && decide (f ∈ M.fs))) && (decide (kwNames kws = ks.map some) && (mA es M xs && (mK kes M kws && (match kws with
      | [] => (match xs with | [] => true | x :: _ => notStar x)
      | _ :: _ => noStars xs)))))
    | _ => false)
  | .cm elt t it c own, M, e => (match e with
    | .ListComp x [⟨tg, iter, ifs, k⟩] scope _ => decide (k = 0) && (blkC M.N M.sc scope (ownN M.N own) && ((t.vs.all fun i => decide (i ∈ own)) && (mG t (M.blk scope) tg && (notSet iter &&
      ((match ifs with | [] => isTrueE c | [y] => mT c (M.blk scope) y | _ => false) && (mE elt (M.blk scope) x &&
      (match it with
        | .rng a => (match blt1 M "range" iter with | some y => mE a M y | none => false)
        | .rng2 a b => (match blt2 M "range" iter with | some (y, z) => mE a M y && mE b M z | none => false)
        | .enum a => isTup tg && (match blt1 M "enumerate" iter with | some y => mE a M y | none => false)
        | .zip a b => isTup tg && (match blt2 M "zip" iter with | some (y, z) => mE a M y && mE b M z | none => false)
        | it => mE it M iter)))))))
    | _ => false)
  | .rng _, _, _ => false
  | .rng2 _ _, _, _ => false
  | .enum _, _, _ => false
  | .zip _ _, _, _ => false
  | .lzip a b, M, e => (match e with
    | .Call (.Name g _) [.Call (.Name g2 _) [x, y] [] _] [] _ => (decide (g = "list") && decide (g2 = "zip")) && ((blB M "list" && blB M "zip") && ((notStar x && notStar y) && (mE a M x && mE b M y)))
    | _ => false)
  | .fmt _, _, _ => false
  | .fstr _, _, _ => false
  | .isi _ _, _, _ => false
def mT : E → MC → Expr → Bool
  | .bl b, _, e => (match e with | .Constant (.bool c) _ _ => decide (b = c) | _ => false)
  | .cmp op a b, M, e => (match e with | .Compare x [o] [y] _ => decide (o = cmP op) && (!behindInMarks o y && (mE a M x && mE b M y)) | _ => false)
  | .chn o1 o2 a b c, M, e => (match e with | .Compare x [p1, p2] [y, z] _ => (decide (p1 = cmP o1) && decide (p2 = cmP o2)) && (!lastMarks [p1, p2] [y, z] && (mE a M x && (mE b M y && mE c M z))) | _ => false)
  | .tand a b, M, e => (match e with | .BoolOp .And (x :: y :: r) p => mT a M x && (match r with | [] => mT b M y | _ :: _ => mT b M (.BoolOp .And (y :: r) p)) | _ => false)
  | .tor a b, M, e => (match e with | .BoolOp .Or (x :: y :: r) p => mT a M x && (match r with | [] => mT b M y | _ :: _ => mT b M (.BoolOp .Or (y :: r) p)) | _ => false)
  | .tnot a, M, e => (match e with | .UnaryOp .Not x _ => mT a M x | _ => false)
  | .tru a, M, e => plainT e && mE a M e
  | _, _, _ => false
/-- by truth -/
def mU : E → MC → Expr → Bool
  | .tru a, M, e => mE a M e
  | _, _, _ => false
def mA : E → MC → List Expr → Bool
  | .nil, _, xs => (match xs with | [] => true | _ => false)
  | .cons a r, M, xs => (match xs with | x :: xs => notStar x && (mE a M x && mA r M xs) | _ => false)
  | .star a r, M, xs => (match xs with | .Starred x _ :: xs => mE a M x && mA r M xs | _ => false)
  | _, _, _ => false
def mK : E → MC → List Keyword → Bool
  | .nil, _, xs => (match xs with | [] => true | _ => false)
  | .cons a r, M, xs => (match xs with | ⟨_, x, _⟩ :: xs => mE a M x && mK r M xs | _ => false)
  | _, _, _ => false
end
/-- what is walked -/
def mI : E → MC → Expr → Expr → Bool
  | .rng a, M, _, iter => (match blt1 M "range" iter with | some y => mE a M y | none => false)
  | .rng2 a b, M, _, iter => (match blt2 M "range" iter with | some (y, z) => mE a M y && mE b M z | none => false)
  | .enum a, M, tg, iter => isTup tg && (match blt1 M "enumerate" iter with | some y => mE a M y | none => false)
  | .zip a b, M, tg, iter => isTup tg && (match blt2 M "zip" iter with | some (y, z) => mE a M y && mE b M z | none => false)
  | it, M, _, iter => mE it M iter
def ifsOk (c : E) (M : MC) : List Expr → Bool
  | [] => isTrueE c
  | [y] => mT c M y
  | _ => false
theorem mE_cm {elt : E} {t : Tg} {it c : E} {own : List Nat} {M : MC} {x tg iter : Expr} {ifs : List Expr} {k : Int} {scope : Scope} {pos : Pos} (h : mE (.cm elt t it c own) M (.ListComp x [⟨tg, iter, ifs, k⟩] scope pos) = true) :
    k = 0 ∧ blkC M.N M.sc scope (ownN M.N own) = true ∧ (∀ i ∈ t.vs, i ∈ own) ∧ mG t (M.blk scope) tg = true ∧ notSet iter = true ∧ ifsOk c (M.blk scope) ifs = true ∧ mE elt (M.blk scope) x = true ∧ mI it M tg iter = true := by
  unfold mE at h
  simp only [Bool.and_eq_true, decide_eq_true_eq, List.all_eq_true] at h
  obtain ⟨h1, h2, h3, h4, h5, h6, h7, h8⟩ := h
  refine ⟨h1, h2, h3, h4, h5, ?_, h7, ?_⟩
  · cases ifs with
    | nil => exact h6
    | cons y r => cases r <;> exact h6
  · cases it <;> exact h8

/-! ### the context -/
structure Good (X : L2.Cx) (M : MC) (ca : Str → Addr) (C : Ctx) (k : Nat) : Prop where
  hN : X.N = M.N
  nd : X.N.Nodup
  sc : X.env.scope = M.sc
  w : ∀ x, M.w.names.lookup x = some .cell → X.fn x = true
  calm : X.calm = true
  units : X.A.units + 70 < cLine
  guards : X.A.guards = some []
  room : Room k X.A
  mgn : ∀ x ∈ M.bl, X.mg x = none
  fns : ∀ x ∈ M.fs, ∃ f, X.mg x = some (.ref f) ∧ PySem.W.keepIn X.K (.ref f) = true ∧ FnY X.prog X.w X.K X.mg X.base ca C.call k x f
  con : ∀ x w, C.glob x = some w → ∃ u v, X.mg x = some u ∧ RelV v u ∧ ∀ T φ H, RV X.K T φ H w v
section
variable {X : L2.Cx} {M : MC} {ca : Str → Addr} {C : Ctx} {k : Nat}
theorem Good.blk (G : Good X M ca C k) (scope : Scope) : Blk X scope fun B => Good B (M.blk scope) ca C k := fun s H Ca cl fp =>
  ⟨G.hN, G.nd, by show relS scope X.env.scope = relS scope M.sc; rw [G.sc], fun x h => by
    have h : scope.names.lookup x = some .cell := h
    show (scope.names.lookup x == some NameKind.cell) = true
    rw [h]; rfl, G.calm, G.units, G.guards, G.room, G.mgn, G.fns, G.con⟩
theorem Good.gl (G : Good X M ca C k) {x : Str} (h : glB M.sc x = true) : Gl X x := by
  unfold glB at h
  split at h
  · show X.env.scope.names.lookup x = _
    rw [G.sc]
    assumption
  · cases h
theorem Good.bl (G : Good X M ca C k) {x : Str} (h : blB M x = true) : Gl X x ∧ X.mg x = none := by
  unfold blB at h
  simp only [Bool.and_eq_true, decide_eq_true_eq] at h
  exact ⟨G.gl h.1, G.mgn x h.2⟩
theorem Good.vis (G : Good X M ca C k) {x : Str} (h : visB M.sc x = true) : Vis X.env.scope x := by rw [G.sc]; exact vis_of h
theorem Good.st (G : Good X M ca C k) {x : Str} (h : stB M x = true) : Loc X.env.scope x ∧ (X.fn x = true ∨ X.env.scope.names.lookup x = some .local) := by
  unfold stB at h
  rw [G.sc]
  split at h
  · exact ⟨.inl (by assumption), .inr (by assumption)⟩
  · split at h
    · exact ⟨.inr (by assumption), .inl (G.w x (by assumption))⟩
    · cases h
  · cases h
mutual
theorem Good.tg (G : Good X M ca C k) (T : Tab) : ∀ (t : Tg) (e : Expr), mG t M e = true → PG X e (tG X.K T t)
  | .nm i, e, h => by
    unfold mG at h
    split at h
    · simp only [Bool.and_eq_true, decide_eq_true_eq] at h
      obtain ⟨s1, s2⟩ := G.st h.2
      exact dg_name G.nd (by rw [G.hN]; exact h.1) s1 s2
    · cases h
  | .tp t, e, h => by
    unfold mG at h
    split at h
    · obtain ⟨h1, h2, h3⟩ := Good.tgs G T t _ h
      exact dg_tup G.calm h1 h2 h3
    · cases h
  | .nil, e, h => by simp [mG] at h
  | .cons _ _, e, h => by simp [mG] at h
theorem Good.tgs (G : Good X M ca C k) (T : Tab) : ∀ (t : Tg) (es : List Expr), mGs t M es = true → PGs X es (tGs X.K T t) ∧ (assignEach es X.env).length = t.n ∧ (assignEach es X.env).findIdx? (·.1) = none
  | .nil, es, h => by
    unfold mGs at h
    split at h
    · exact ⟨dgs_nil, rfl, rfl⟩
    · cases h
  | .cons t r, es, h => by
    unfold mGs at h
    split at h
    · rename_i x xs
      simp only [Bool.and_eq_true] at h
      obtain ⟨i1, i2, i3⟩ := Good.tgs G T r xs h.2
      refine ⟨dgs_cons (Good.tg G T t x h.1.2) i1 (by rw [assignEach_of h.1.1] <;> rfl), ?_, ?_⟩
      · rw [assignEach_of h.1.1, List.length_cons, i2]; rfl
      · rw [assignEach_of h.1.1, List.findIdx?_cons, i3]; rfl
    · cases h
  | .nm _, es, h => by simp [mGs] at h
  | .tp _, es, h => by simp [mGs] at h
end
end
end Y
/-! Y11: what matches runs as Y says. -/
namespace Y
open PySem PySem.Spec PyProof.Rows L2

def isBool : Expr → Bool
  | .BoolOp _ _ _ => true
  | _ => false
structure Snd (C : Ctx) (ca : Str → Addr) (k : Nat) (e' : E) : Prop where
  e : ∀ (X : L2.Cx) (M : MC) (T : Tab) (Wx : WX) (e : Expr), Good X M ca C k → T.ca = ca → Takes X Wx → mE e' M e = true → D X T Wx C e e'
  n : ∀ (X : L2.Cx) (M : MC) (T : Tab) (Wx : WX) (e : Expr), Good X M ca C k → T.ca = ca → Takes X Wx → canNew e' = true → mE e' M e = true → D X T Wx C e (.new e')
  t : ∀ (X : L2.Cx) (M : MC) (T : Tab) (Wx : WX) (e : Expr), Good X M ca C k → T.ca = ca → Takes X Wx → mT e' M e = true → DT X T Wx C e e' ∧ (isBool e = true → DW X T Wx C e e')
  u : ∀ (X : L2.Cx) (M : MC) (T : Tab) (Wx : WX) (e : Expr) (pos : Pos), Good X M ca C k → T.ca = ca → Takes X Wx → mU e' M e = true → D X T Wx C (.UnaryOp .Not e pos) (.tnot e')
  a : ∀ (X : L2.Cx) (M : MC) (T : Tab) (Wx : WX) (es : List Expr), Good X M ca C k → T.ca = ca → Takes X Wx → mA e' M es = true → DA X T Wx C es e'
  kk : ∀ (X : L2.Cx) (M : MC) (T : Tab) (Wx : WX) (es : List Keyword), Good X M ca C k → T.ca = ca → Takes X Wx → mK e' M es = true → DK X T Wx C es e'
  i : ∀ (X : L2.Cx) (M : MC) (T : Tab) (Wx : WX) (tg e : Expr), Good X M ca C k → T.ca = ca → Takes X Wx → mI e' M tg e = true → DI X T Wx C tg e e'
section
variable {C : Ctx} {ca : Str → Addr} {k : Nat} {e' : E}
/-- a plain expression -/
theorem Snd.plain (he : ∀ (X : L2.Cx) (M : MC) (T : Tab) (Wx : WX) (e : Expr), Good X M ca C k → T.ca = ca → Takes X Wx → mE e' M e = true → D X T Wx C e e')
    (hn : canNew e' = false) (ht : ∀ M e, mT e' M e = false) (hu : ∀ M e, mU e' M e = false) (ha : ∀ M es, mA e' M es = false) (hk : ∀ M es, mK e' M es = false) (hi : ∀ M tg iter, mI e' M tg iter = mE e' M iter) : Snd C ca k e' :=
  ⟨he, fun _ _ _ _ _ _ _ _ z => (by rw [hn] at z; cases z), fun _ M _ _ e _ _ _ z => (by rw [ht] at z; cases z), fun _ M _ _ e _ _ _ _ z => (by rw [hu] at z; cases z), fun _ M _ _ es _ _ _ z => (by rw [ha] at z; cases z), fun _ M _ _ es _ _ _ z => (by rw [hk] at z; cases z),
    fun X M T Wx tg e G hT tk z => by rw [hi] at z; exact di_seq (he X M T Wx e G hT tk z)⟩
/-- nothing matches, but .. -/
theorem Snd.none_e (hm : ∀ M e, mE e' M e = false) : ∀ (X : L2.Cx) (M : MC) (T : Tab) (Wx : WX) (e : Expr), Good X M ca C k → T.ca = ca → Takes X Wx → mE e' M e = true → D X T Wx C e e' :=
  fun _ M _ _ e _ _ _ z => by rw [hm] at z; cases z
theorem Snd.none_n (hm : canNew e' = false) : ∀ (X : L2.Cx) (M : MC) (T : Tab) (Wx : WX) (e : Expr), Good X M ca C k → T.ca = ca → Takes X Wx → canNew e' = true → mE e' M e = true → D X T Wx C e (.new e') :=
  fun _ M _ _ e _ _ _ z => by rw [hm] at z; cases z
theorem Snd.none_t (hm : ∀ M e, mT e' M e = false) : ∀ (X : L2.Cx) (M : MC) (T : Tab) (Wx : WX) (e : Expr), Good X M ca C k → T.ca = ca → Takes X Wx → mT e' M e = true → DT X T Wx C e e' ∧ (isBool e = true → DW X T Wx C e e') :=
  fun _ M _ _ e _ _ _ z => by rw [hm] at z; cases z
theorem Snd.none_u (hm : ∀ M e, mU e' M e = false) : ∀ (X : L2.Cx) (M : MC) (T : Tab) (Wx : WX) (e : Expr) (pos : Pos), Good X M ca C k → T.ca = ca → Takes X Wx → mU e' M e = true → D X T Wx C (.UnaryOp .Not e pos) (.tnot e') :=
  fun _ M _ _ e _ _ _ _ z => by rw [hm] at z; cases z
theorem Snd.none_a (hm : ∀ M e, mA e' M e = false) : ∀ (X : L2.Cx) (M : MC) (T : Tab) (Wx : WX) (es : List Expr), Good X M ca C k → T.ca = ca → Takes X Wx → mA e' M es = true → DA X T Wx C es e' :=
  fun _ M _ _ e _ _ _ z => by rw [hm] at z; cases z
theorem Snd.none_k (hm : ∀ M e, mK e' M e = false) : ∀ (X : L2.Cx) (M : MC) (T : Tab) (Wx : WX) (es : List Keyword), Good X M ca C k → T.ca = ca → Takes X Wx → mK e' M es = true → DK X T Wx C es e' :=
  fun _ M _ _ e _ _ _ z => by rw [hm] at z; cases z
theorem Snd.seq (he : ∀ (X : L2.Cx) (M : MC) (T : Tab) (Wx : WX) (e : Expr), Good X M ca C k → T.ca = ca → Takes X Wx → mE e' M e = true → D X T Wx C e e') (hi : ∀ M tg iter, mI e' M tg iter = mE e' M iter) :
    ∀ (X : L2.Cx) (M : MC) (T : Tab) (Wx : WX) (tg e : Expr), Good X M ca C k → T.ca = ca → Takes X Wx → mI e' M tg e = true → DI X T Wx C tg e e' :=
  fun X M T Wx tg e G hT tk z => by rw [hi] at z; exact di_seq (he X M T Wx e G hT tk z)
theorem Good.ix {X : L2.Cx} {M : MC} (G : Good X M ca C k) {i : Nat} {x : Str} (h : M.N[i]? = some x) : X.N[i]? = some x := by rw [G.hN]; exact h
theorem ownN_snd (N : List Str) : ∀ own : List Nat, (ownN N own).map (·.2) = own
  | [] => rfl
  | i :: r => by
    have := ownN_snd N r
    simp only [ownN, List.map_cons, List.cons.injEq, true_and] at this ⊢
    exact this
theorem takesN {X : L2.Cx} : Takes X Wn := fun _ _ x => by
  obtain ⟨_, _, _, _, _, _, _, _, _, _, _, _, _, _, _, _, z⟩ := x
  exact z.elim
theorem isTrueE_ok {c : E} (h : isTrueE c = true) : c = .bl true := by
  unfold isTrueE at h
  split at h
  · rfl
  · cases h
theorem optP_ok {z : E} (h : isNonE z = false) (w : W) : optP z w = (match w with | .int i => some (some i) | _ => none) := by
  cases z with
  | non => cases h
  | _ => cases w <;> rfl
/-- a comprehension's parts -/
theorem Snd.cm {elt it c : E} {t : Tg} {own : List Nat} (se : Snd C ca k elt) (si : Snd C ca k it) (sc : Snd C ca k c) {X : L2.Cx} {M : MC} {T : Tab} {Wx : WX} {e : Expr} (G : Good X M ca C k) (hT : T.ca = ca) (tk : Takes X Wx) (h : mE (.cm elt t it c own) M e = true) :
    ∃ (x tg iter : Expr) (ifs : List Expr) (scope : Scope) (pos : Pos) (ow : List (Str × Nat)), e = .ListComp x [⟨tg, iter, ifs, 0⟩] scope pos ∧ ow.map (·.2) = own ∧ DI X T Wx C tg iter it ∧ BlkOk X.N X.env.scope scope ow ∧ (∀ i ∈ t.vs, i ∈ ow.map (·.2)) ∧
      (∀ T' : Tab, T'.ca = T.ca → Blk X scope fun B => PG B tg (tG X.K T' t)) ∧ (∀ T' : Tab, T'.ca = T.ca → Blk X scope fun B => PTs B ifs (tT X.K T' Wn (evalE C c))) ∧ (∀ T' : Tab, T'.ca = T.ca → Blk X scope fun B => D B T' Wn C x elt) ∧ ∀ x, foldedSetIterable iter X.env x = pure x := by
  have h0 := h
  unfold mE at h0
  split at h0
  · rename_i x tg iter ifs kk scope pos
    obtain ⟨rfl, h2, h3, h4, h5, h6, h7, h8⟩ := mE_cm h
    refine ⟨x, tg, iter, ifs, scope, pos, ownN M.N own, rfl, ownN_snd _ _, si.i X M T Wx tg iter G hT tk h8, ?_, ?_, ?_, ?_, ?_, notSet_ok h5⟩
    · rw [G.hN, G.sc]; exact blkOk_by h2
    · rw [ownN_snd]; exact h3
    · intro T' e s H Ca cl fp
      exact (G.blk scope s H Ca cl fp).tg T' t tg h4
    · intro T' e s H Ca cl fp
      have GB := G.blk scope s H Ca cl fp
      cases ifs with
      | nil =>
        have hc : c = .bl true := isTrueE_ok h6
        subst hc
        refine ⟨fun pins s σ H Q I ⟨φ, σb, h, s', rl, p⟩ => pts_nil.run pins s σ H Q I ?_⟩
        simp only [evalE] at p
        obtain ⟨b, e, q⟩ := p φ _ H .refl rl (.mk_bl true)
        cases e
        exact q
      | cons y r =>
        cases r with
        | nil => exact pts_one ((sc.t _ _ T' Wn y GB (e.trans hT) takesN h6).1)
        | cons _ _ => exact (Bool.false_ne_true h6).elim
    · intro T' e s H Ca cl fp
      exact se.e _ _ T' Wn x (G.blk scope s H Ca cl fp) (e.trans hT) takesN h7
  · cases h0
theorem any_of_not {env : Env} {pos : Pos} : ∀ {es : List Expr}, noStars es = false → (backTo pos (starEach es env)).any (·.1) = true
  | [], h => by simp [noStars] at h
  | e :: es, h => by
    by_cases q : notStar e = true
    · rw [starEach_of q]
      have h' : noStars es = false := by simpa [noStars, q] using h
      have i := any_of_not (env := env) (pos := pos) h'
      simp only [backTo, List.map_cons, List.any_cons, Bool.false_or] at i ⊢
      exact i
    · cases e with
      | Starred x p => rfl
      | _ => exact absurd rfl q
theorem biN_in (f : Bi) : True := trivial

theorem mA_nil {es : E} {M : MC} (h : mA es M [] = true) : es = .nil := by
  cases es <;> first | rfl | (simp [mA] at h)
theorem mK_nil {es : E} {M : MC} (h : mK es M [] = true) : es = .nil := by
  cases es <;> first | rfl | (simp [mK] at h)
theorem mI_rng {a : E} {M : MC} {tg iter : Expr} : mI (.rng a) M tg iter = (match blt1 M "range" iter with | some y => mE a M y | none => false) := rfl
theorem mI_rng2 {a b : E} {M : MC} {tg iter : Expr} : mI (.rng2 a b) M tg iter = (match blt2 M "range" iter with | some (y, z) => mE a M y && mE b M z | none => false) := rfl
theorem mI_enum {a : E} {M : MC} {tg iter : Expr} : mI (.enum a) M tg iter = (isTup tg && (match blt1 M "enumerate" iter with | some y => mE a M y | none => false)) := rfl
theorem mI_zip {a b : E} {M : MC} {tg iter : Expr} : mI (.zip a b) M tg iter = (isTup tg && (match blt2 M "zip" iter with | some (y, z) => mE a M y && mE b M z | none => false)) := rfl
theorem sound (C : Ctx) (ca : Str → Addr) (k : Nat) (e' : E) : Snd C ca k e' := by
  induction e' with
  | slot i =>
    refine .plain (fun X M T Wx e G hT tk h => ?_) rfl (fun _ _ => rfl) (fun _ _ => rfl) (fun _ _ => rfl) (fun _ _ => rfl) (fun _ _ _ => rfl)
    unfold mE at h
    split at h
    · simp only [Bool.and_eq_true, decide_eq_true_eq] at h
      exact d_slot (G.ix h.1) (G.vis h.2.1) (dbg_of h.2.2.1) (ncd_of h.2.2.2)
    · cases h
  | non =>
    refine .plain (fun X M T Wx e G hT tk h => ?_) rfl (fun _ _ => rfl) (fun _ _ => rfl) (fun _ _ => rfl) (fun _ _ => rfl) (fun _ _ _ => rfl)
    unfold mE at h
    split at h
    · exact d_non
    · cases h
  | bl b =>
    have he : ∀ (X : L2.Cx) (M : MC) (T : Tab) (Wx : WX) (e : Expr), Good X M ca C k → T.ca = ca → Takes X Wx → mE (.bl b) M e = true → D X T Wx C e (.bl b) := fun X M T Wx e G hT tk h => by
      unfold mE at h
      split at h
      · cases of_decide_eq_true h
        exact d_bl
      · cases h
    refine ⟨he, Snd.none_n rfl, fun X M T Wx e G hT tk h => ?_, Snd.none_u (fun _ _ => rfl), Snd.none_a (fun _ _ => rfl), Snd.none_k (fun _ _ => rfl), Snd.seq he (fun _ _ _ => rfl)⟩
    unfold mT at h
    split at h
    · cases of_decide_eq_true h
      exact ⟨dt_val d_bl rfl, fun z => nomatch z⟩
    · cases h
  | int i =>
    refine .plain (fun X M T Wx e G hT tk h => ?_) rfl (fun _ _ => rfl) (fun _ _ => rfl) (fun _ _ => rfl) (fun _ _ => rfl) (fun _ _ _ => rfl)
    unfold mE at h
    split at h
    · cases of_decide_eq_true h
      exact d_int
    · cases h
  | str s =>
    refine .plain (fun X M T Wx e G hT tk h => ?_) rfl (fun _ _ => rfl) (fun _ _ => rfl) (fun _ _ => rfl) (fun _ _ => rfl) (fun _ _ _ => rfl)
    unfold mE at h
    split at h
    · cases of_decide_eq_true h
      exact d_str
    · cases h
  | glob x =>
    refine .plain (fun X M T Wx e G hT tk h => ?_) rfl (fun _ _ => rfl) (fun _ _ => rfl) (fun _ _ => rfl) (fun _ _ => rfl) (fun _ _ _ => rfl)
    unfold mE at h
    split at h
    · rename_i y p
      simp only [Bool.and_eq_true, decide_eq_true_eq] at h
      obtain ⟨rfl, h2, h3⟩ := h
      cases q : C.glob y with
      | none => exact ⟨fun pins s σ H Q I ⟨φ, σb, h, s', rl, p⟩ => by simp only [evalE, q, R.ofO] at p; exact p.elim⟩
      | some w =>
        obtain ⟨u, v, e1, e2, e3⟩ := G.con y w q
        refine (pe_glob (G.gl h2) e1 e2 (dbg_of h3)).weak fun σ H Q ⟨φ, σb, h, s', rl, p⟩ => ?_
        simp only [evalE, q, R.ofO] at p
        exact p φ v H .refl rl (e3 T φ H)
    · cases h
  | bin op a b ia ib =>
    have he : ∀ (X : L2.Cx) (M : MC) (T : Tab) (Wx : WX) (e : Expr), Good X M ca C k → T.ca = ca → Takes X Wx → mE (.bin op a b) M e = true → D X T Wx C e (.bin op a b) ∧ D X T Wx C e (.new (.bin op a b)) := fun X M T Wx e G hT tk h => by
      unfold mE at h
      split at h
      · simp only [Bool.and_eq_true, decide_eq_true_eq] at h
        obtain ⟨rfl, h2, h3⟩ := h
        exact ⟨d_bin (ia.e _ _ _ _ _ G hT tk h2) (ib.e _ _ _ _ _ G hT tk h3), d_newbin (ia.e _ _ _ _ _ G hT tk h2) (ib.e _ _ _ _ _ G hT tk h3)⟩
      · cases h
    exact ⟨fun X M T Wx e G hT tk h => (he X M T Wx e G hT tk h).1, fun X M T Wx e G hT tk _ h => (he X M T Wx e G hT tk h).2, Snd.none_t (fun _ _ => rfl), Snd.none_u (fun _ _ => rfl), Snd.none_a (fun _ _ => rfl), Snd.none_k (fun _ _ => rfl), Snd.seq (fun X M T Wx e G hT tk h => (he X M T Wx e G hT tk h).1) (fun _ _ _ => rfl)⟩
  | neg a ia =>
    refine .plain (fun X M T Wx e G hT tk h => ?_) rfl (fun _ _ => rfl) (fun _ _ => rfl) (fun _ _ => rfl) (fun _ _ => rfl) (fun _ _ _ => rfl)
    unfold mE at h
    split at h
    · exact d_neg (ia.e _ _ _ _ _ G hT tk h)
    · cases h
  | cmp op a b ia ib =>
    have he : ∀ (X : L2.Cx) (M : MC) (T : Tab) (Wx : WX) (e : Expr), Good X M ca C k → T.ca = ca → Takes X Wx → mE (.cmp op a b) M e = true → D X T Wx C e (.cmp op a b) ∧ (DT X T Wx C e (.cmp op a b) ∧ (isBool e = true → DW X T Wx C e (.cmp op a b))) := fun X M T Wx e G hT tk h => by
      unfold mE at h
      split at h
      · simp only [Bool.and_eq_true, decide_eq_true_eq, Bool.not_eq_true'] at h
        obtain ⟨rfl, h1, h2, h3⟩ := h
        exact ⟨d_cmp G.units (ia.e _ _ _ _ _ G hT tk h2) (ib.e _ _ _ _ _ G hT tk h3) h1, dt_cmp G.units (ia.e _ _ _ _ _ G hT tk h2) (ib.e _ _ _ _ _ G hT tk h3) h1, fun z => nomatch z⟩
      · cases h
    refine ⟨fun X M T Wx e G hT tk h => (he X M T Wx e G hT tk h).1, Snd.none_n rfl, fun X M T Wx e G hT tk h => (he X M T Wx e G hT tk h).2, Snd.none_u (fun _ _ => rfl), Snd.none_a (fun _ _ => rfl), Snd.none_k (fun _ _ => rfl), Snd.seq (fun X M T Wx e G hT tk h => (he X M T Wx e G hT tk h).1) (fun _ _ _ => rfl)⟩
  | chn o1 o2 a b c ia ib ic =>
    have he : ∀ (X : L2.Cx) (M : MC) (T : Tab) (Wx : WX) (e : Expr), Good X M ca C k → T.ca = ca → Takes X Wx → mE (.chn o1 o2 a b c) M e = true → D X T Wx C e (.chn o1 o2 a b c) ∧ (DT X T Wx C e (.chn o1 o2 a b c) ∧ (isBool e = true → DW X T Wx C e (.chn o1 o2 a b c))) := fun X M T Wx e G hT tk h => by
      unfold mE at h
      split at h
      · simp only [Bool.and_eq_true, decide_eq_true_eq, Bool.not_eq_true'] at h
        obtain ⟨⟨rfl, rfl⟩, h1, h2, h3, h4⟩ := h
        exact ⟨d_chn G.units (ia.e _ _ _ _ _ G hT tk h2) (ib.e _ _ _ _ _ G hT tk h3) (ic.e _ _ _ _ _ G hT tk h4) h1, dt_chn G.units (ia.e _ _ _ _ _ G hT tk h2) (ib.e _ _ _ _ _ G hT tk h3) (ic.e _ _ _ _ _ G hT tk h4) h1, fun z => nomatch z⟩
      · cases h
    refine ⟨fun X M T Wx e G hT tk h => (he X M T Wx e G hT tk h).1, Snd.none_n rfl, fun X M T Wx e G hT tk h => (he X M T Wx e G hT tk h).2, Snd.none_u (fun _ _ => rfl), Snd.none_a (fun _ _ => rfl), Snd.none_k (fun _ _ => rfl), Snd.seq (fun X M T Wx e G hT tk h => (he X M T Wx e G hT tk h).1) (fun _ _ _ => rfl)⟩
  | and a b ia ib =>
    refine .plain (fun X M T Wx e G hT tk h => ?_) rfl (fun _ _ => rfl) (fun _ _ => rfl) (fun _ _ => rfl) (fun _ _ => rfl) (fun _ _ _ => rfl)
    unfold mE at h
    split at h
    · rename_i x y r p
      simp only [Bool.and_eq_true] at h
      refine d_and (ia.e _ _ _ _ _ G hT tk h.1) ?_
      cases r with
      | nil => exact pe_one (ib.e _ _ _ _ _ G hT tk h.2)
      | cons z r => exact ib.e _ _ _ _ _ G hT tk h.2
    · cases h
  | or a b ia ib =>
    refine .plain (fun X M T Wx e G hT tk h => ?_) rfl (fun _ _ => rfl) (fun _ _ => rfl) (fun _ _ => rfl) (fun _ _ => rfl) (fun _ _ _ => rfl)
    unfold mE at h
    split at h
    · rename_i x y r p
      simp only [Bool.and_eq_true] at h
      refine d_or (ia.e _ _ _ _ _ G hT tk h.1) ?_
      cases r with
      | nil => exact pe_one (ib.e _ _ _ _ _ G hT tk h.2)
      | cons z r => exact ib.e _ _ _ _ _ G hT tk h.2
    · cases h
  | tand a b ia ib =>
    refine ⟨Snd.none_e (fun _ _ => rfl), Snd.none_n rfl, fun X M T Wx e G hT tk h => ?_, Snd.none_u (fun _ _ => rfl), Snd.none_a (fun _ _ => rfl), Snd.none_k (fun _ _ => rfl), Snd.seq (Snd.none_e (fun _ _ => rfl)) (fun _ _ _ => rfl)⟩
    unfold mT at h
    split at h
    · rename_i x y r p
      simp only [Bool.and_eq_true] at h
      have z : DW X T Wx C (.BoolOp .And (x :: y :: r) p) (.tand a b) := by
        refine dw_and (ia.t _ _ _ _ _ G hT tk h.1).1 ?_
        cases r with
        | nil => exact dw_and1 (ib.t _ _ _ _ _ G hT tk h.2).1
        | cons z r => exact (ib.t _ _ _ _ _ G hT tk h.2).2 rfl
      exact ⟨z.pt, fun _ => z⟩
    · cases h
  | tor a b ia ib =>
    refine ⟨Snd.none_e (fun _ _ => rfl), Snd.none_n rfl, fun X M T Wx e G hT tk h => ?_, Snd.none_u (fun _ _ => rfl), Snd.none_a (fun _ _ => rfl), Snd.none_k (fun _ _ => rfl), Snd.seq (Snd.none_e (fun _ _ => rfl)) (fun _ _ _ => rfl)⟩
    unfold mT at h
    split at h
    · rename_i x y r p
      simp only [Bool.and_eq_true] at h
      have z : DW X T Wx C (.BoolOp .Or (x :: y :: r) p) (.tor a b) := by
        refine dw_or (ia.t _ _ _ _ _ G hT tk h.1).1 ?_
        cases r with
        | nil => exact dw_or1 (ib.t _ _ _ _ _ G hT tk h.2).1
        | cons z r => exact (ib.t _ _ _ _ _ G hT tk h.2).2 rfl
      exact ⟨z.pt, fun _ => z⟩
    · cases h
  | tnot a ia =>
    have he : ∀ (X : L2.Cx) (M : MC) (T : Tab) (Wx : WX) (e : Expr), Good X M ca C k → T.ca = ca → Takes X Wx → mE (.tnot a) M e = true → D X T Wx C e (.tnot a) := fun X M T Wx e G hT tk h => by
      unfold mE at h
      split at h
      · exact ia.u _ _ _ _ _ _ G hT tk h
      · cases h
    refine ⟨he, Snd.none_n rfl, fun X M T Wx e G hT tk h => ?_, Snd.none_u (fun _ _ => rfl), Snd.none_a (fun _ _ => rfl), Snd.none_k (fun _ _ => rfl), Snd.seq he (fun _ _ _ => rfl)⟩
    unfold mT at h
    split at h
    · exact ⟨dt_not (ia.t _ _ _ _ _ G hT tk h).1, fun z => nomatch z⟩
    · cases h
  | tru a ia =>
    refine ⟨Snd.none_e (fun _ _ => rfl), Snd.none_n rfl, fun X M T Wx e G hT tk h => ?_, fun X M T Wx e pos G hT tk h => d_nott (ia.e _ _ _ _ _ G hT tk h), Snd.none_a (fun _ _ => rfl), Snd.none_k (fun _ _ => rfl), Snd.seq (Snd.none_e (fun _ _ => rfl)) (fun _ _ _ => rfl)⟩
    unfold mT at h
    simp only [Bool.and_eq_true] at h
    refine ⟨dt_tru (ia.e _ _ _ _ _ G hT tk h.2) h.1, fun z => ?_⟩
    cases e with
    | BoolOp _ _ _ => exact (Bool.false_ne_true h.1).elim
    | _ => cases z
  | ite c a b ic ia ib =>
    refine .plain (fun X M T Wx e G hT tk h => ?_) rfl (fun _ _ => rfl) (fun _ _ => rfl) (fun _ _ => rfl) (fun _ _ => rfl) (fun _ _ _ => rfl)
    unfold mE at h
    split at h
    · simp only [Bool.and_eq_true] at h
      exact d_ite (ic.t _ _ _ _ _ G hT tk h.1).1 (ia.e _ _ _ _ _ G hT tk h.2.1) (ib.e _ _ _ _ _ G hT tk h.2.2)
    · cases h
  | nil =>
    refine ⟨Snd.none_e (fun _ _ => rfl), Snd.none_n rfl, Snd.none_t (fun _ _ => rfl), Snd.none_u (fun _ _ => rfl), fun X M T Wx es G hT tk h => ?_, fun X M T Wx es G hT tk h => ?_, Snd.seq (Snd.none_e (fun _ _ => rfl)) (fun _ _ _ => rfl)⟩
    · unfold mA at h
      split at h
      · exact da_nil
      · cases h
    · unfold mK at h
      split at h
      · exact dk_nil
      · cases h
  | cons a r ia ir =>
    refine ⟨Snd.none_e (fun _ _ => rfl), Snd.none_n rfl, Snd.none_t (fun _ _ => rfl), Snd.none_u (fun _ _ => rfl), fun X M T Wx es G hT tk h => ?_, fun X M T Wx es G hT tk h => ?_, Snd.seq (Snd.none_e (fun _ _ => rfl)) (fun _ _ _ => rfl)⟩
    · unfold mA at h
      split at h
      · simp only [Bool.and_eq_true] at h
        exact da_cons (ia.e _ _ _ _ _ G hT tk h.2.1) (ir.a _ _ _ _ _ G hT tk h.2.2) h.1
      · cases h
    · unfold mK at h
      split at h
      · simp only [Bool.and_eq_true] at h
        exact dk_cons (ia.e _ _ _ _ _ G hT tk h.1) (ir.kk _ _ _ _ _ G hT tk h.2)
      · cases h
  | star a r ia ir =>
    refine ⟨Snd.none_e (fun _ _ => rfl), Snd.none_n rfl, Snd.none_t (fun _ _ => rfl), Snd.none_u (fun _ _ => rfl), fun X M T Wx es G hT tk h => ?_, Snd.none_k (fun _ _ => rfl), Snd.seq (Snd.none_e (fun _ _ => rfl)) (fun _ _ _ => rfl)⟩
    unfold mA at h
    split at h
    · simp only [Bool.and_eq_true] at h
      exact da_star (ia.e _ _ _ _ _ G hT tk h.1) (ir.a _ _ _ _ _ G hT tk h.2)
    · cases h
  | tup es ia =>
    refine .plain (fun X M T Wx e G hT tk h => ?_) rfl (fun _ _ => rfl) (fun _ _ => rfl) (fun _ _ => rfl) (fun _ _ => rfl) (fun _ _ _ => rfl)
    unfold mE at h
    split at h
    · exact d_tup (ia.a _ _ _ _ _ G hT tk h)
    · cases h
  | lst es ia =>
    have he : ∀ (X : L2.Cx) (M : MC) (T : Tab) (Wx : WX) (e : Expr), Good X M ca C k → T.ca = ca → Takes X Wx → mE (.lst es) M e = true → D X T Wx C e (.lst es) ∧ D X T Wx C e (.new (.lst es)) := fun X M T Wx e G hT tk h => by
      unfold mE at h
      split at h
      · exact ⟨d_lst (ia.a _ _ _ _ _ G hT tk h), d_newlst (ia.a _ _ _ _ _ G hT tk h)⟩
      · cases h
    exact ⟨fun X M T Wx e G hT tk h => (he X M T Wx e G hT tk h).1, fun X M T Wx e G hT tk _ h => (he X M T Wx e G hT tk h).2, Snd.none_t (fun _ _ => rfl), Snd.none_u (fun _ _ => rfl), Snd.none_a (fun _ _ => rfl), Snd.none_k (fun _ _ => rfl), Snd.seq (fun X M T Wx e G hT tk h => (he X M T Wx e G hT tk h).1) (fun _ _ _ => rfl)⟩
  | new a ia =>
    refine .plain (fun X M T Wx e G hT tk h => ?_) rfl (fun _ _ => rfl) (fun _ _ => rfl) (fun _ _ => rfl) (fun _ _ => rfl) (fun _ _ _ => rfl)
    unfold mE at h
    simp only [Bool.and_eq_true] at h
    exact ia.n _ _ _ _ _ G hT tk h.1 h.2
  | ix a i ia ii =>
    refine .plain (fun X M T Wx e G hT tk h => ?_) rfl (fun _ _ => rfl) (fun _ _ => rfl) (fun _ _ => rfl) (fun _ _ => rfl) (fun _ _ _ => rfl)
    unfold mE at h
    split at h
    · simp only [Bool.and_eq_true] at h
      exact d_ix (ia.e _ _ _ _ _ G hT tk h.2.1) (ii.e _ _ _ _ _ G hT tk h.2.2) h.1
    · cases h
  | cut a lo hi ia il ih =>
    refine .plain (fun X M T Wx e G hT tk h => ?_) rfl (fun _ _ => rfl) (fun _ _ => rfl) (fun _ _ => rfl) (fun _ _ => rfl) (fun _ _ _ => rfl)
    unfold mE at h
    split at h
    · rename_i x l u p2 pos
      simp only [Bool.and_eq_true] at h
      obtain ⟨h1, h2, h3⟩ := h
      have part : ∀ {o : Option Expr} {z : E}, Snd C ca k z → (match o with | none => isNonE z | some y => !isNonE z && mE z M y) = true → DP X T Wx C o z := by
        intro o z sz hz
        cases o with
        | none =>
          unfold isNonE at hz
          dsimp only at hz
          split at hz
          · exact .no
          · cases hz
        | some y =>
          simp only [Bool.and_eq_true, Bool.not_eq_true'] at hz
          exact .yes (sz.e _ _ _ _ _ G hT tk hz.2) (optP_ok hz.1)
      exact d_cut (ia.e _ _ _ _ _ G hT tk h1) (part il h2) (part ih h3)
    · cases h
  | bi f es ia =>
    have he : ∀ (X : L2.Cx) (M : MC) (T : Tab) (Wx : WX) (e : Expr), Good X M ca C k → T.ca = ca → Takes X Wx → mE (.bi f es) M e = true → D X T Wx C e (.bi f es) ∧ (newBi f = true → D X T Wx C e (.new (.bi f es))) := fun X M T Wx e G hT tk h => by
      unfold mE at h
      split at h
      · simp only [Bool.and_eq_true, decide_eq_true_eq] at h
        obtain ⟨rfl, h2, h3, h4⟩ := h
        exact ⟨d_bi G.units G.guards G.calm (G.bl h2).1 (G.bl h2).2 (ia.a _ _ _ _ _ G hT tk h4) h3, fun hf => d_newbi hf (G.bl h2).1 (G.bl h2).2 (ia.a _ _ _ _ _ G hT tk h4) h3⟩
      · cases h
    exact ⟨fun X M T Wx e G hT tk h => (he X M T Wx e G hT tk h).1, fun X M T Wx e G hT tk hf h => (he X M T Wx e G hT tk h).2 hf, Snd.none_t (fun _ _ => rfl), Snd.none_u (fun _ _ => rfl), Snd.none_a (fun _ _ => rfl), Snd.none_k (fun _ _ => rfl), Snd.seq (fun X M T Wx e G hT tk h => (he X M T Wx e G hT tk h).1) (fun _ _ _ => rfl)⟩
  | mt m a es ia ie =>
    refine .plain (fun X M T Wx e G hT tk h => ?_) rfl (fun _ _ => rfl) (fun _ _ => rfl) (fun _ _ => rfl) (fun _ _ => rfl) (fun _ _ _ => rfl)
    unfold mE at h
    split at h
    · rename_i o g ap xs cp
      simp only [Bool.and_eq_true, decide_eq_true_eq] at h
      obtain ⟨rfl, ⟨h1, h2⟩, h3, h4, ⟨h5, h6⟩, h7⟩ := h
      split at h7
      · exact d_mtL (.inl rfl) (ia.e _ _ _ _ _ G hT tk h3) (ie.a _ _ _ _ _ G hT tk h5) h4 (by simp only [List.length_cons] at h6; omega) h1 h2
      · cases xs with
        | nil =>
          have e0 : es = .nil := mA_nil h5
          subst e0
          exact d_pop0 (ia.e _ _ _ _ _ G hT tk h3) h1 h2
        | cons y ys => exact d_mtL (.inr rfl) (ia.e _ _ _ _ _ G hT tk h3) (ie.a _ _ _ _ _ G hT tk h5) h4 (by simp only [List.length_cons] at h6; omega) h1 h2
      · exact d_mtS (ia.e _ _ _ _ _ G hT tk h3) (ie.a _ _ _ _ _ G hT tk h5) h4 (by simp only [List.length_cons] at h6; omega) h1 h2
      · cases h7
    · cases h
  | call f es ks kes ia ik =>
    refine .plain (fun X M T Wx e G hT tk h => ?_) rfl (fun _ _ => rfl) (fun _ _ => rfl) (fun _ _ => rfl) (fun _ _ => rfl) (fun _ _ _ => rfl)
    unfold mE at h
    split at h
    · rename_i g p xs kws pos
      simp only [Bool.and_eq_true, decide_eq_true_eq] at h
      obtain ⟨rfl, ⟨h1, h2, h3⟩, h4, h5, h6, h7⟩ := h
      obtain ⟨fa, e1, e2, F⟩ := G.fns _ h3
      cases kws with
      | cons kw kws =>
        cases xs with
        | nil =>
          have e0 : es = .nil := mA_nil h5
          subst e0
          exact d_callK0 F hT G.room G.guards tk (G.gl h1) e1 e2 (ik.kk _ _ _ _ _ G hT tk h6) h4 (dbg_of h2)
        | cons y ys => exact d_callK F hT G.room G.guards tk (G.gl h1) e1 e2 (ia.a _ _ _ _ _ G hT tk h5) h7 (ik.kk _ _ _ _ _ G hT tk h6) h4 (dbg_of h2)
      | nil =>
        have ek : kes = .nil := mK_nil h6
        have eks : ks = [] := by
          cases ks with
          | nil => rfl
          | cons _ _ => simp [kwNames] at h4
        subst ek eks
        cases xs with
        | nil =>
          have e0 : es = .nil := mA_nil h5
          subst e0
          exact d_call0 F hT G.room G.guards tk (G.gl h1) e1 e2 (dbg_of h2)
        | cons y ys =>
          cases hs : noStars (y :: ys) with
          | true => exact d_call F hT G.room G.guards tk (G.gl h1) e1 e2 (ia.a _ _ _ _ _ G hT tk h5) hs (dbg_of h2)
          | false => exact d_callS F hT G.room G.guards tk (G.gl h1) e1 e2 (ia.a _ _ _ _ _ G hT tk h5) h7 (any_of_not (by simpa [noStars, show notStar y = true from h7] using hs)) (dbg_of h2)
    · cases h
  | cm elt t it c own ie ii ic =>
    have he : ∀ (X : L2.Cx) (M : MC) (T : Tab) (Wx : WX) (e : Expr), Good X M ca C k → T.ca = ca → Takes X Wx → mE (.cm elt t it c own) M e = true → D X T Wx C e (.cm elt t it c own) ∧ D X T Wx C e (.new (.cm elt t it c own)) := fun X M T Wx e G hT tk h => by
      obtain ⟨x, tg, iter, ifs, scope, pos, ow, rfl, rfl, a1, a2, a3, a4, a5, a6, a7⟩ := Snd.cm ie ii ic G hT tk h
      exact (d_cm G.calm G.nd a1 a2 a3 a4 a5 a6 a7).2
    exact ⟨fun X M T Wx e G hT tk h => (he X M T Wx e G hT tk h).1, fun X M T Wx e G hT tk _ h => (he X M T Wx e G hT tk h).2, Snd.none_t (fun _ _ => rfl), Snd.none_u (fun _ _ => rfl), Snd.none_a (fun _ _ => rfl), Snd.none_k (fun _ _ => rfl), Snd.seq (fun X M T Wx e G hT tk h => (he X M T Wx e G hT tk h).1) (fun _ _ _ => rfl)⟩
  | rng a ia =>
    refine ⟨Snd.none_e (fun _ _ => rfl), Snd.none_n rfl, Snd.none_t (fun _ _ => rfl), Snd.none_u (fun _ _ => rfl), Snd.none_a (fun _ _ => rfl), Snd.none_k (fun _ _ => rfl), fun X M T Wx tg e G hT tk h => ?_⟩
    rw [mI_rng] at h
    split at h
    · rename_i y q
      obtain ⟨p, pos, rfl, b1, b2⟩ := blt1_ok q
      exact di_rng1 (G.bl b1).1 (G.bl b1).2 b2 (ia.e _ _ _ _ _ G hT tk h)
    · cases h
  | rng2 a b ia ib =>
    refine ⟨Snd.none_e (fun _ _ => rfl), Snd.none_n rfl, Snd.none_t (fun _ _ => rfl), Snd.none_u (fun _ _ => rfl), Snd.none_a (fun _ _ => rfl), Snd.none_k (fun _ _ => rfl), fun X M T Wx tg e G hT tk h => ?_⟩
    rw [mI_rng2] at h
    split at h
    · rename_i y z q
      obtain ⟨p, pos, rfl, b1, b2, b3⟩ := blt2_ok q
      simp only [Bool.and_eq_true] at h
      exact di_rng2 (G.bl b1).1 (G.bl b1).2 b2 b3 (ia.e _ _ _ _ _ G hT tk h.1) (ib.e _ _ _ _ _ G hT tk h.2)
    · cases h
  | enum a ia =>
    refine ⟨Snd.none_e (fun _ _ => rfl), Snd.none_n rfl, Snd.none_t (fun _ _ => rfl), Snd.none_u (fun _ _ => rfl), Snd.none_a (fun _ _ => rfl), Snd.none_k (fun _ _ => rfl), fun X M T Wx tg e G hT tk h => ?_⟩
    rw [mI_enum] at h
    simp only [Bool.and_eq_true] at h
    obtain ⟨h0, h⟩ := h
    unfold isTup at h0
    split at h0
    · split at h
      · rename_i y q
        obtain ⟨p, pos, rfl, b1, b2⟩ := blt1_ok q
        exact di_enum (G.bl b1).1 (G.bl b1).2 b2 (ia.e _ _ _ _ _ G hT tk h)
      · cases h
    · cases h0
  | lzip a b ia ib =>
    refine .plain (fun X M T Wx e G hT tk h => ?_) rfl (fun _ _ => rfl) (fun _ _ => rfl) (fun _ _ => rfl) (fun _ _ => rfl) (fun _ _ _ => rfl)
    unfold mE at h
    split at h
    · simp only [Bool.and_eq_true, decide_eq_true_eq] at h
      obtain ⟨⟨rfl, rfl⟩, ⟨h1, h2⟩, ⟨h3, h4⟩, h5, h6⟩ := h
      exact d_listzip G.calm (G.bl h1).1 (G.bl h1).2 (G.bl h2).1 (G.bl h2).2 h3 h4 (ia.e _ _ _ _ _ G hT tk h5) (ib.e _ _ _ _ _ G hT tk h6)
    · cases h
  | zip a b ia ib =>
    refine ⟨Snd.none_e (fun _ _ => rfl), Snd.none_n rfl, Snd.none_t (fun _ _ => rfl), Snd.none_u (fun _ _ => rfl), Snd.none_a (fun _ _ => rfl), Snd.none_k (fun _ _ => rfl), fun X M T Wx tg e G hT tk h => ?_⟩
    rw [mI_zip] at h
    simp only [Bool.and_eq_true] at h
    obtain ⟨h0, h⟩ := h
    unfold isTup at h0
    split at h0
    · split at h
      · rename_i y z q
        obtain ⟨p, pos, rfl, b1, b2, b3⟩ := blt2_ok q
        simp only [Bool.and_eq_true] at h
        exact di_zip (G.bl b1).1 (G.bl b1).2 b2 b3 (ia.e _ _ _ _ _ G hT tk h.1) (ib.e _ _ _ _ _ G hT tk h.2)
      · cases h
    · cases h0
  | fmt a ia => exact .plain (Snd.none_e (fun _ _ => rfl)) rfl (fun _ _ => rfl) (fun _ _ => rfl) (fun _ _ => rfl) (fun _ _ => rfl) (fun _ _ _ => rfl)
  | fstr a ia => exact .plain (Snd.none_e (fun _ _ => rfl)) rfl (fun _ _ => rfl) (fun _ _ => rfl) (fun _ _ => rfl) (fun _ _ => rfl) (fun _ _ _ => rfl)
  | isi a ts ia => exact .plain (Snd.none_e (fun _ _ => rfl)) rfl (fun _ _ => rfl) (fun _ _ => rfl) (fun _ _ => rfl) (fun _ _ => rfl) (fun _ _ _ => rfl)
end
end Y
/-! Y12: statements that match run as Y says; functions. -/
namespace Y
open PySem PySem.Spec PyProof.Rows L2

def notComp : Expr → Bool
  | .ListComp _ _ _ _ => false
  | .SetComp _ _ _ _ => false
  | .DictComp _ _ _ _ _ => false
  | _ => true
/-- is the store the comprehension's own -/
def swB (M : MC) (x tg : Expr) : Bool :=
  match (match x with | .ListComp _ _ s _ | .SetComp _ _ s _ | .DictComp _ _ _ s _ => some s | _ => none) with
  | none => false
  | some s => (match tg with
    | .Name y p => M.sc.names.lookup y == some .local && p.line == x.pos.line && !(s.names.any fun (n, k) => n == y && (k == .local || k == .cell))
    | _ => false)
def starE : Expr → Bool
  | .Starred .. => true
  | _ => false
def namesOn (M : MC) (line : Nat) (ts : List Expr) : List Str := ts.filterMap fun
  | .Name id pos => if M.sc.names.lookup id == some .local && pos.line == line then some id else none
  | _ => none
/-- how the stores go: none: not told -/
def swRes (M : MC) (ts vs : List Expr) : Option (Option (List Str)) :=
  if (!(ts.length == 2 || ts.length == 3) || vs.length != ts.length) = true then some none else
  if vs.any starE = true then some none else
  let names := namesOn M ((ts.head?.map (·.pos.line)).getD 0) ts
  if (names.length != ts.length || names.eraseDups.length != names.length) = true then some none else
  if vs.all (foldedForSure 8) = true then some none else
  if vs.all (constantsAlone 8) = true then none else some (some names)
def sts (M : MC) (tg x : Expr) : Option (Option (List Str)) :=
  match tg, x with
  | .Tuple ts _ _, .Tuple vs _ _ => swRes M ts vs
  | .List ts _, .Tuple vs _ _ => swRes M ts vs
  | _, _ => some none
def tgOf : List Nat → Tg
  | [] => .nil
  | i :: is => .cons (.nm i) (tgOf is)
mutual
def mS : S → MC → Stmt → Bool
  | .skip, _, st => (match st with | .Pass _ => true | .Expr (.Constant (.str _) _ _) _ => true | _ => false)
  | .seq _ _, _, _ => false
  | .expr e, M, st => (match st with | .Expr x _ => notComp x && mE e M x | _ => false)
  | .asg t e, M, st => (match st with
    | .Assign [tg] x _ => (match swB M x tg with
      | true => (match t, e, tg with
        | .nm i, .cm .., .Name y _ => decide (M.N[i]? = some y) && mE e M x
        | .nm i, .new (.cm ..), .Name y _ => decide (M.N[i]? = some y) && mE e M x
        | _, _, _ => false)
      | false => (decide (sts M tg x = some none) && notStar tg) && (mG t M tg && mE e M x))
    | .AnnAssign tg _ (some x) _ _ => !swB M x tg && (mG t M tg && mE e M x)
    | _ => false)
  | .par is es, M, st => (match st with
    | .Assign [.Tuple ts _ _] (.Tuple vs _ _) _ => (match swRes M ts vs with
      | some none => decide (is.length ≤ 1000) && (mGs (tgOf is) M ts && mA es M vs)
      | some (some ns) => (match is, ts, vs with
        | [i, j], [.Name x _, .Name y _], [_, _] => (decide (ns = [x, y]) && (decide (M.N[i]? = some x) && decide (M.N[j]? = some y))) && ((decide (M.sc.names.lookup x = some .local) && decide (M.sc.names.lookup y = some .local)) && (decide (i ≠ j) && mA es M vs))
        | [i, j, l], [.Name x _, .Name y _, .Name z _], [_, _, _] => (decide (ns = [x, y, z]) && (decide (M.N[i]? = some x) && (decide (M.N[j]? = some y) && decide (M.N[l]? = some z)))) && ((decide (M.sc.names.lookup x = some .local) && (decide (M.sc.names.lookup y = some .local) && decide (M.sc.names.lookup z = some .local))) && ((decide (i ≠ j) && (decide (i ≠ l) && decide (j ≠ l))) && mA es M vs))
        | _, _, _ => false)
      | none => false)
    | _ => false)
  | .aug i op e, M, st => (match st with | .AugAssign (.Name x _) o y _ => (decide (o = opP op) && decide (M.N[i]? = some x)) && (stB M x && mE e M y) | _ => false)
  | .six o i e, M, st => (match st with | .Assign [.Subscript a b _] x _ => plainIx b && (mE o M a && (mE i M b && mE e M x)) | _ => false)
  | .sixaug o i op e, M, st => (match st with | .AugAssign (.Subscript a b _) p x _ => (decide (p = opP op) && plainIx b) && (mE o M a && (mE i M b && mE e M x)) | _ => false)
  | .ite c a b, M, st => (match st with | .If x ss us _ => mT c M x && (mSs a M ss && mSs b M us) | _ => false)
  | .for t it b, M, st => (match st with | .For tg iter ss [] _ => notSet iter && (mG t M tg && (mI it M tg iter && mSs b M ss)) | _ => false)
  | .while c b, M, st => (match st with | .While x ss [] _ => mT c M x && mSs b M ss | _ => false)
  | .ret e, M, st => (match st with | .Return (some x) _ => mE e M x | .Return none _ => isNonE e | _ => false)
  | .brk, _, st => (match st with | .Break _ => true | _ => false)
  | .cont, _, st => (match st with | .Continue _ => true | _ => false)
def mSs : S → MC → List Stmt → Bool
  | .skip, _, ss => (match ss with | [] => true | _ => false)
  | .seq a b, M, ss => (match ss with | st :: r => mS a M st && mSs b M r | _ => false)
  | _, _, _ => false
end

structure GoodS (X : L2.Cx) (M : MC) (ca : Str → Addr) (C : Ctx) (k : Nat) : Prop extends Good X M ca C k where
  kind : X.env.scope.kind = .function
  po : PassesOwn (model X.prog X.w) X.A X.env X.xe
section
variable {X : L2.Cx} {M : MC} {ca : Str → Addr} {C : Ctx} {k : Nat} {T : Tab} {Wx : WX}
theorem GoodS.bk (G : GoodS X M ca C k) : X.env.blockKind = .function := by unfold Env.blockKind; rw [G.kind]; rfl
theorem swapsWith_none {x : Expr} {tg : Option Expr} {l : Nat} {env : Env} (h : notComp x = true) : swapsWith x tg l env = pure false := by
  cases x <;> first | rfl | (exfalso; exact Bool.false_ne_true h)
theorem swapsWith_ok (G : GoodS X M ca C k) (x tg : Expr) (l : Nat) : swapsWith x (some tg) l X.env = pure (swB M x tg) := by
  have key : ∀ y, X.env.kindOf y = M.sc.names.lookup y := fun y => by show X.env.scope.names.lookup y = _; rw [G.sc]
  unfold swapsWith swB
  cases x <;> first
    | rfl
    | (cases tg <;> first
        | rfl
        | (simp only [G.bk, key]; rfl))
theorem any_same {f g : Expr → Bool} (h : ∀ x, f x = g x) (vs : List Expr) : vs.any f = vs.any g := by
  have : f = g := funext h
  rw [this]
theorem fm_same {f g : Expr → Option Str} (h : ∀ x, f x = g x) (vs : List Expr) : vs.filterMap f = vs.filterMap g := by
  have : f = g := funext h
  rw [this]
/-- the shape of swappedStores -/
theorem sw_shape {M : MC} {ts vs : List Expr} {r : Option (List Str)} {star : Expr → Bool} {nm : Expr → Option Str} {b : Bool} {un : Sem Unit} (hb : b = false) (hst : ∀ x, star x = starE x)
    (hnm : ∀ x, nm x = (match x with | .Name id pos => if (M.sc.names.lookup id == some .local && pos.line == (ts.head?.map (·.pos.line)).getD 0) = true then some id else none | _ => none)) (h : swRes M ts vs = some r) :
    (if (!(ts.length == 2 || ts.length == 3) || vs.length != ts.length || b) = true then (pure none : Sem (Option (List Str)))
      else if vs.any star = true then pure none
      else if ((ts.filterMap nm).length != ts.length || (ts.filterMap nm).eraseDups.length != (ts.filterMap nm).length) = true then pure none
      else if vs.all (foldedForSure 8) = true then pure none
      else if vs.all (constantsAlone 8) = true then (do let _ ← un; pure (some (ts.filterMap nm))) else pure (some (ts.filterMap nm))) = pure r := by
  have e1 : ts.filterMap nm = namesOn M ((ts.head?.map (·.pos.line)).getD 0) ts := fm_same (fun x => hnm x) ts
  rw [e1, any_same hst vs, hb, Bool.or_false]
  unfold swRes at h
  dsimp only at h
  split at h
  · rename_i c; cases h; rw [if_pos c]
  · rename_i c
    rw [if_neg c]
    split at h
    · rename_i c; cases h; rw [if_pos c]
    · rename_i c
      rw [if_neg c]
      split at h
      · rename_i c; cases h; rw [if_pos c]
      · rename_i c
        rw [if_neg c]
        split at h
        · rename_i c; cases h; rw [if_pos c]
        · rename_i c
          rw [if_neg c]
          split at h
          · cases h
          · rename_i c; cases h; rw [if_neg c]
theorem sts_ok (G : GoodS X M ca C k) {tg x : Expr} {r : Option (List Str)} (h : sts M tg x = some r) : swappedStores [tg] x X.env = pure r := by
  have key : ∀ y, X.env.kindOf y = M.sc.names.lookup y := fun y => by show X.env.scope.names.lookup y = _; rw [G.sc]
  unfold sts at h
  split at h
  · unfold swappedStores
    exact sw_shape (b := X.env.blockKind != .function) (by rw [G.bk]; rfl) (fun x => by cases x <;> rfl) (fun x => by cases x <;> first | rfl | (dsimp only; rw [key])) h
  · unfold swappedStores
    exact sw_shape (b := X.env.blockKind != .function) (by rw [G.bk]; rfl) (fun x => by cases x <;> rfl) (fun x => by cases x <;> first | rfl | (dsimp only; rw [key])) h
  · rename_i n1 n2
    cases h
    cases tg with
    | Tuple ts k1 p1 => cases x with
      | Tuple vs k2 p2 => exact absurd rfl (n1 _ _ _ _ _ _ rfl)
      | _ => rfl
    | List ts p1 => cases x with
      | Tuple vs k2 p2 => exact absurd rfl (n2 _ _ _ _ _ rfl)
      | _ => rfl
    | _ => cases x <;> rfl

/-! ### names at once, the common way -/
theorem setL_tg : ∀ {is : List Nat} {ws : List W} {σ σ' : Sb}, setL is ws σ = some σ' → setTs (tgOf is) ws σ = some σ' ∧ ws.length = is.length
  | [], [], σ, σ', h => ⟨h, rfl⟩
  | [], _ :: _, σ, σ', h => by simp [setL] at h
  | i :: is, [], σ, σ', h => by simp [setL] at h
  | i :: is, w :: ws, σ, σ', h => by
    simp only [setL] at h
    split at h
    · rename_i c
      obtain ⟨h1, h2⟩ := setL_tg h
      refine ⟨?_, by rw [List.length_cons, List.length_cons, h2]⟩
      simp only [tgOf, setTs, setT]
      rw [if_pos c]
      exact h1
    · cases h
theorem par_asg {C : Ctx} {is : List Nat} {ea : E} {σ : Sb} {h : Hb} {φ : List Addr} {H : Hp} {D : Ends} (hl : is.length ≤ 1000) (p : PostS X.K T Wx φ H (evalS C (.par is ea) σ h) D) : PostS X.K T Wx φ H (evalS C (.asg (.tp (tgOf is)) (.tup ea)) σ h) D := by
  simp only [evalS, evalE] at p ⊢
  cases q : evalE C ea σ h with
  | no => rw [q] at p; exact p
  | ex e h' => rw [q] at p; exact p
  | ok w h' =>
    rw [q] at p
    simp only [R.go, R.bind] at p ⊢
    cases w with
    | tup ws =>
      dsimp only at p ⊢
      cases e : setL is ws σ with
      | none => rw [e] at p; exact p.elim
      | some σ' =>
        rw [e] at p
        obtain ⟨e1, e2⟩ := setL_tg e
        rw [if_pos (by unfold small; exact decide_eq_true (by omega))]
        simp only [setT]
        rw [e1]
        exact p
    | _ => exact p.elim
theorem ds_parG {C : Ctx} {is : List Nat} {ea : E} {ts vs : List Expr} {k1 k2 : Nat} {p1 p2 pos : Pos} (hl : is.length ≤ 1000) (ha : DA X T Wx C vs ea) (hg : PG X (.Tuple ts k1 p1) (tG X.K T (.tp (tgOf is)))) (hw : swappedStores [.Tuple ts k1 p1] (.Tuple vs k2 p2) X.env = pure none) :
    DS X T Wx C (.Assign [.Tuple ts k1 p1] (.Tuple vs k2 p2) pos) (.par is ea) :=
  (ds_asg (d_tup ha) hg rfl hw rfl).weak fun D σ H ⟨φ, σb, h, s, rl, p⟩ => ⟨φ, σb, h, s, rl, par_asg hl p⟩

structure SndS (C : Ctx) (ca : Str → Addr) (k : Nat) (z : S) : Prop where
  s : ∀ (X : L2.Cx) (M : MC) (T : Tab) (Wx : WX) (st : Stmt), GoodS X M ca C k → T.ca = ca → Takes X Wx → mS z M st = true → DS X T Wx C st z
  ss : ∀ (X : L2.Cx) (M : MC) (T : Tab) (Wx : WX) (st : List Stmt), GoodS X M ca C k → T.ca = ca → Takes X Wx → mSs z M st = true → DSs X T Wx C st z
theorem SndS.one {C : Ctx} {s : S} (h : ∀ (X : L2.Cx) (M : MC) (T : Tab) (Wx : WX) (st : Stmt), GoodS X M ca C k → T.ca = ca → Takes X Wx → mS s M st = true → DS X T Wx C st s) (hn : ∀ M st, mSs s M st = false) : SndS C ca k s :=
  ⟨h, fun _ M _ _ st _ _ _ z => by rw [hn] at z; cases z⟩
theorem notStar_each {e : Expr} {env : Env} (h : notStar e = true) : (assignEach [e] env).map (·.2) = [assign e env] := by rw [assignEach_of h]; rfl
theorem asg_plain {o i : Expr} {tpos : Pos} {env : Env} (h : plainIx i = true) (v : Value) : assign (.Subscript o i tpos) env v = (do
      let ov ← holding [v] (eval o env)
      let iv ← holding [v, ov] (eval i env)
      standAt tpos
      holding [v, ov, iv] (setItem ov iv v)
      release [v, ov, iv] []) := by
  cases i <;> first | rfl | (exact (Bool.false_ne_true h).elim)
theorem aug_plain {i : Expr} (h : plainIx i = true) (ov iv new : Value) : augStore i ov iv new = (do holding [new, ov, iv] (setItem ov iv new); release [new, ov, iv] []; pure .next) := by
  cases i <;> first | rfl | (exact (Bool.false_ne_true h).elim)
theorem mSs_skip {M : MC} {ss : List Stmt} : mSs .skip M ss = (match ss with | [] => true | _ => false) := rfl
theorem mSs_seq {a b : S} {M : MC} {ss : List Stmt} : mSs (.seq a b) M ss = (match ss with | st :: r => mS a M st && mSs b M r | _ => false) := rfl
theorem soundS (C : Ctx) (ca : Str → Addr) (k : Nat) (s : S) : SndS C ca k s := by
  have E := sound C ca k
  induction s with
  | skip =>
    refine ⟨fun X M T Wx st G hT tk h => ?_, fun X M T Wx st G hT tk h => ?_⟩
    · unfold mS at h
      split at h
      · exact ds_pass
      · exact ds_doc
      · cases h
    · rw [mSs_skip] at h
      split at h
      · exact ds_nil
      · cases h
  | seq a b ia ib =>
    refine ⟨fun X M T Wx st G hT tk h => by simp [mS] at h, fun X M T Wx st G hT tk h => ?_⟩
    rw [mSs_seq] at h
    split at h
    · simp only [Bool.and_eq_true] at h
      exact ds_cons (ia.s _ _ _ _ _ G hT tk h.1) (ib.ss _ _ _ _ _ G hT tk h.2)
    · cases h
  | expr e =>
    refine .one (fun X M T Wx st G hT tk h => ?_) (fun _ _ => rfl)
    unfold mS at h
    split at h
    · simp only [Bool.and_eq_true] at h
      exact ds_expr ((E e).e _ _ _ _ _ G.toGood hT tk h.2) (swapsWith_none h.1)
    · cases h
  | asg t e =>
    refine .one (fun X M T Wx st G hT tk h => ?_) (fun _ _ => rfl)
    unfold mS at h
    split at h
    · rename_i tg x pos
      split at h
      · rename_i hsw
        split at h
        · rename_i i elt tt it c own y py
          simp only [Bool.and_eq_true, decide_eq_true_eq] at h
          have hx := swapsWith_ok G x (.Name y py) pos.line
          rw [hsw] at hx
          obtain ⟨x', tg, iter, ifs, scope, pos', ow, rfl, rfl, a1, a2, a3, a4, a5, a6, a7⟩ := Snd.cm (E elt) (E it) (E c) G.toGood hT tk h.2
          refine (ds_setLc G.calm G.nd (G.ix h.1) ?_ hx a1 a2 a3 a4 a5 a6 a7).1
          unfold swB at hsw
          simp only [Bool.and_eq_true] at hsw
          rw [G.sc]
          simpa using hsw.1.1
        · rename_i i elt tt it c own y py
          simp only [Bool.and_eq_true, decide_eq_true_eq] at h
          have hx := swapsWith_ok G x (.Name y py) pos.line
          rw [hsw] at hx
          have h2 : mE (.cm elt tt it c own) M x = true := by
            have z := h.2
            unfold mE at z
            simp only [Bool.and_eq_true] at z
            exact z.2
          obtain ⟨x', tg, iter, ifs, scope, pos', ow, rfl, rfl, a1, a2, a3, a4, a5, a6, a7⟩ := Snd.cm (E elt) (E it) (E c) G.toGood hT tk h2
          refine (ds_setLc G.calm G.nd (G.ix h.1) ?_ hx a1 a2 a3 a4 a5 a6 a7).2
          unfold swB at hsw
          simp only [Bool.and_eq_true] at hsw
          rw [G.sc]
          simpa using hsw.1.1
        · cases h
      · rename_i hsw
        simp only [Bool.and_eq_true, decide_eq_true_eq] at h
        have hx := swapsWith_ok G x tg pos.line
        rw [hsw] at hx
        exact ds_asg ((E e).e _ _ _ _ _ G.toGood hT tk h.2.2) (G.toGood.tg T t tg h.2.1) hx (sts_ok G h.1.1) (notStar_each h.1.2)
    · rename_i tg ann x simple pos
      simp only [Bool.and_eq_true, Bool.not_eq_true'] at h
      have hx := swapsWith_ok G x tg pos.line
      rw [h.1] at hx
      exact ds_ann ((E e).e _ _ _ _ _ G.toGood hT tk h.2.2) (G.toGood.tg T t tg h.2.1) hx
    · cases h
  | par is es =>
    refine .one (fun X M T Wx st G hT tk h => ?_) (fun _ _ => rfl)
    unfold mS at h
    split at h
    · rename_i ts k1 p1 vs k2 p2 pos
      split at h
      · rename_i hw
        simp only [Bool.and_eq_true, decide_eq_true_eq] at h
        refine ds_parG h.1 ((E es).a _ _ _ _ _ G.toGood hT tk h.2.2) (G.toGood.tg T (.tp (tgOf is)) _ ?_) (sts_ok (tg := .Tuple ts k1 p1) (x := .Tuple vs k2 p2) G hw)
        unfold mG
        exact h.2.1
      · rename_i ns hw
        split at h
        · rename_i i j x px y py a b _
          simp only [Bool.and_eq_true, decide_eq_true_eq] at h
          obtain ⟨⟨rfl, h1, h2⟩, ⟨h3, h4⟩, h5, h6⟩ := h
          exact ds_par2 G.calm G.nd (G.ix h1) (G.ix h2) h5 (by rw [G.sc]; exact h3) (by rw [G.sc]; exact h4) ((E es).a _ _ _ _ _ G.toGood hT tk h6) (sts_ok (tg := .Tuple _ k1 p1) (x := .Tuple _ k2 p2) G hw) rfl
        · rename_i i j l x px y py z pz a b c _
          simp only [Bool.and_eq_true, decide_eq_true_eq] at h
          obtain ⟨⟨rfl, h1, h2, h7⟩, ⟨h3, h4, h8⟩, ⟨h5, h9, h10⟩, h6⟩ := h
          exact ds_par3 G.calm G.nd (G.ix h1) (G.ix h2) (G.ix h7) h5 h9 h10 (by rw [G.sc]; exact h3) (by rw [G.sc]; exact h4) (by rw [G.sc]; exact h8) ((E es).a _ _ _ _ _ G.toGood hT tk h6) (sts_ok (tg := .Tuple _ k1 p1) (x := .Tuple _ k2 p2) G hw) rfl
        · cases h
      · cases h
    · cases h
  | aug i op e =>
    refine .one (fun X M T Wx st G hT tk h => ?_) (fun _ _ => rfl)
    unfold mS at h
    split at h
    · simp only [Bool.and_eq_true, decide_eq_true_eq] at h
      obtain ⟨⟨rfl, h1⟩, h2, h3⟩ := h
      exact ds_aug G.nd (G.ix h1) (G.st h2).1 (G.st h2).2 ((E e).e _ _ _ _ _ G.toGood hT tk h3)
    · cases h
  | six o i e =>
    refine .one (fun X M T Wx st G hT tk h => ?_) (fun _ _ => rfl)
    unfold mS at h
    split at h
    · rename_i a b tp x pos
      simp only [Bool.and_eq_true] at h
      refine ds_six ((E e).e _ _ _ _ _ G.toGood hT tk h.2.2.2) ((E o).e _ _ _ _ _ G.toGood hT tk h.2.1) ((E i).e _ _ _ _ _ G.toGood hT tk h.2.2.1) (asg_plain h.1) ?_ (sts_ok (M := M) G (by cases x <;> rfl)) rfl
      have hx := swapsWith_ok G x (.Subscript a b tp) pos.line
      have : swB M x (.Subscript a b tp) = false := by cases x <;> rfl
      rw [this] at hx
      exact hx
    · cases h
  | sixaug o i op e =>
    refine .one (fun X M T Wx st G hT tk h => ?_) (fun _ _ => rfl)
    unfold mS at h
    split at h
    · simp only [Bool.and_eq_true, decide_eq_true_eq] at h
      obtain ⟨⟨rfl, h1⟩, h2, h3, h4⟩ := h
      exact ds_sixaug ((E o).e _ _ _ _ _ G.toGood hT tk h2) ((E i).e _ _ _ _ _ G.toGood hT tk h3) ((E e).e _ _ _ _ _ G.toGood hT tk h4) (aug_plain h1)
    · cases h
  | ite c a b ia ib =>
    refine .one (fun X M T Wx st G hT tk h => ?_) (fun _ _ => rfl)
    unfold mS at h
    split at h
    · simp only [Bool.and_eq_true] at h
      exact ds_if ((E c).t _ _ _ _ _ G.toGood hT tk h.1).1 (ia.ss _ _ _ _ _ G hT tk h.2.1) (ib.ss _ _ _ _ _ G hT tk h.2.2)
    · cases h
  | «for» t it b ib =>
    refine .one (fun X M T Wx st G hT tk h => ?_) (fun _ _ => rfl)
    unfold mS at h
    split at h
    · simp only [Bool.and_eq_true] at h
      exact ds_for G.po G.calm ((E it).i _ _ _ _ _ _ G.toGood hT tk h.2.2.1) (G.toGood.tg T t _ h.2.1) (ib.ss _ _ _ _ _ G hT tk h.2.2.2) (notSet_ok h.1)
    · cases h
  | «while» c b ib =>
    refine .one (fun X M T Wx st G hT tk h => ?_) (fun _ _ => rfl)
    unfold mS at h
    split at h
    · simp only [Bool.and_eq_true] at h
      exact ds_while G.po ((E c).t _ _ _ _ _ G.toGood hT tk h.1).1 (ib.ss _ _ _ _ _ G hT tk h.2)
    · cases h
  | ret e =>
    refine .one (fun X M T Wx st G hT tk h => ?_) (fun _ _ => rfl)
    unfold mS at h
    split at h
    · exact ds_ret ((E e).e _ _ _ _ _ G.toGood hT tk h)
    · unfold isNonE at h
      split at h
      · exact ds_retN
      · cases h
    · cases h
  | brk =>
    refine .one (fun X M T Wx st G hT tk h => ?_) (fun _ _ => rfl)
    unfold mS at h
    split at h
    · exact ds_brk
    · cases h
  | cont =>
    refine .one (fun X M T Wx st G hT tk h => ?_) (fun _ _ => rfl)
    unfold mS at h
    split at h
    · exact ds_cont
    · cases h
end
end Y
/-! Y13: how arguments are bound. -/
namespace Y
open PySem PySem.Spec PyProof.Rows L2

/-! ### the binder -/
theorem kw_loop {f : Str × Value → List (Str × Value) × List (Str × Value) → Sem (ForInStep (List (Str × Value) × List (Str × Value)))} {P : List Str} (hf : ∀ x s, P.contains x.1 = true → s.1.lookup x.1 = none → f x s = pure (.yield (s.1 ++ [x], s.2))) :
    ∀ (kw sl ex : List (Str × Value)), (∀ x ∈ kw, P.contains x.1 = true) → (∀ x ∈ kw, sl.lookup x.1 = none) → (kw.map (·.1)).Nodup → forIn kw (sl, ex) f = pure (sl ++ kw, ex)
  | [], sl, ex, _, _, _ => by rw [List.forIn_nil, List.append_nil]
  | x :: kw, sl, ex, h1, h2, h3 => by
    rw [List.forIn_cons, hf x (sl, ex) (h1 x List.mem_cons_self) (h2 x List.mem_cons_self)]
    have nd := List.nodup_cons.mp h3
    have ih := kw_loop hf kw (sl ++ [x]) ex (fun y hy => h1 y (List.mem_cons_of_mem _ hy)) (fun y hy => ?_) nd.2
    · show forIn kw (sl ++ [x], ex) f = _
      rw [ih, List.append_assoc]; rfl
    · rw [List.lookup_append, h2 y (List.mem_cons_of_mem _ hy)]
      have ne : y.1 ≠ x.1 := fun e => nd.1 (by show x.1 ∈ _; rw [← e]; exact List.mem_map_of_mem hy)
      simp [List.lookup_cons, ne]
def addD : List (Str × Value) → List (Str × Value) → List (Str × Value)
  | [], s => s
  | x :: l, s => if (s.lookup x.1).isNone = true then addD l (s ++ [x]) else addD l s
theorem add_loop {f : Str × Value → List (Str × Value) → Sem (ForInStep (List (Str × Value)))} (hf : ∀ x s, f x s = if (s.lookup x.1).isNone = true then pure (.yield (s ++ [x])) else pure (.yield s)) :
    ∀ (l s : List (Str × Value)), forIn l s f = pure (addD l s)
  | [], s => by rw [List.forIn_nil]; rfl
  | x :: l, s => by
    rw [List.forIn_cons, hf]
    unfold addD
    split
    · exact add_loop hf l _
    · exact add_loop hf l _
theorem addD_lookup (n : Str) : ∀ (l s : List (Str × Value)), (addD l s).lookup n = (s ++ l).lookup n
  | [], s => by rw [List.append_nil]; rfl
  | x :: l, s => by
    unfold addD
    split
    · rw [addD_lookup n l, List.append_assoc]; rfl
    · rename_i c
      rw [addD_lookup n l, List.lookup_append, List.lookup_append]
      cases q : s.lookup n with
      | some v => rfl
      | none =>
        have ne : n ≠ x.1 := by
          rintro rfl
          rw [q] at c
          exact c rfl
        have : (n == x.1) = false := by simpa using ne
        obtain ⟨x1, x2⟩ := x
        simp [List.lookup_cons, this]
theorem lookup_zip_none {α : Type} : ∀ {P : List Str} {us : List α} {k : Str}, k ∉ P.take us.length → (P.zip us).lookup k = none
  | [], _, _, _ => by simp
  | p :: P, [], _, _ => by simp
  | p :: P, u :: us, k, h => by
    simp only [List.length_cons, List.take_succ_cons, List.mem_cons, not_or] at h
    rw [List.zip_cons_cons, List.lookup_cons]
    have : (k == p) = false := by simpa using h.1
    rw [this]
    exact lookup_zip_none h.2
theorem filterMap_all {g : Str → Option Value} : ∀ {P : List Str} {us : List Value}, P.map g = us.map some → P.filterMap (fun n => (g n).map fun x => (n, x)) = P.zip us
  | [], us, h => by simp
  | p :: P, [], h => by simp at h
  | p :: P, u :: us, h => by
    simp only [List.map_cons, List.cons.injEq] at h
    rw [List.filterMap_cons, h.1, List.zip_cons_cons, ← filterMap_all h.2]
    rfl
/-- the names' values: given, by keyword, by default -/
def slotsOf {α : Type} (P : List Str) (us : List α) (ks : List Str) (us2 ds : List α) : List (Str × α) := P.zip us ++ (ks.zip us2 ++ (P.drop (P.length - ds.length)).zip ds)
theorem bind_k {fd : FuncData} {P ks : List Str} {us us2 ds us3 : List Value} (p1 : fd.params.posonlyargs = []) (p2 : fd.params.args.map (·.arg) = P) (p3 : fd.params.vararg = none) (p4 : fd.params.kwonlyargs = []) (p5 : fd.params.kwarg = none)
    (nd : P.Nodup) (hl : us.length ≤ P.length) (hk : ∀ k ∈ ks, k ∈ P.drop us.length) (hnd : ks.Nodup) (h2 : ks.length = us2.length) (hd : ds.length ≤ P.length) (hg : P.map (fun p => (slotsOf P us ks us2 ds).lookup p) = us3.map some) :
    ∃ k, bindArgs fd ⟨us, ks.zip us2⟩ = (seqItems? fd.defaults >>= k) ∧ ∀ o : Option (Array Value), (o.getD #[]).toList = ds → k o = pure (P.zip us3) := by
  have keys : (ks.zip us2).map (·.1) = ks := by rw [List.map_fst_zip]; omega
  have memk : ∀ x ∈ ks.zip us2, x.1 ∈ P.drop us.length := fun x hx => hk _ (by rw [← keys]; exact List.mem_map_of_mem hx)
  have disj : ∀ k, k ∈ P.drop us.length → k ∉ P.take us.length := fun k h1 h3 => by
    have := List.nodup_append.mp ((List.take_append_drop us.length P).symm ▸ nd)
    exact this.2.2 k h3 k h1 rfl
  unfold bindArgs
  dsimp only
  rw [p1, p3, p4, p5]
  simp only [List.map_nil, List.nil_append, List.append_nil, Option.isSome_none, Option.isNone_none, Bool.and_true, p2]
  rw [kw_loop (P := P) (fun x s c1 c2 => by rw [if_pos (by rw [c1]; rfl), if_neg (by rw [c2]; exact Bool.false_ne_true)]) (ks.zip us2) _ _ (fun x hx => by simpa using List.mem_of_mem_drop (memk x hx)) (fun x hx => lookup_zip_none (disj _ (memk x hx))) (by rw [keys]; exact hnd)]
  rw [pure_bind]
  refine ⟨_, rfl, fun o ho => ?_⟩
  dsimp only
  rw [ho]
  rw [if_neg (by simpa using Nat.not_lt.mpr hl)]
  have e0 : List.drop (ds.length - P.length) ds = ds := by rw [Nat.sub_eq_zero_of_le hd]; rfl
  rw [e0]
  have full : ∀ p ∈ P, ((slotsOf P us ks us2 ds).lookup p).isSome = true := fun p hp => by
    have : (slotsOf P us ks us2 ds).lookup p ∈ us3.map some := by rw [← hg]; exact List.mem_map_of_mem hp
    obtain ⟨u, _, e⟩ := List.mem_map.mp this
    rw [← e]; rfl
  have miss : List.filter (fun n => (List.lookup n (P.zip us ++ ks.zip us2)).isNone) (List.take (P.length - ds.length) P) = [] := by
    rw [List.filter_eq_nil_iff]
    intro p hp
    have f := full p (List.mem_of_mem_take hp)
    unfold slotsOf at f
    rw [← List.append_assoc, List.lookup_append] at f
    have n2 : ((P.drop (P.length - ds.length)).zip ds).lookup p = none := by
      refine lookup_zip_none fun z => ?_
      have := List.nodup_append.mp ((List.take_append_drop (P.length - ds.length) P).symm ▸ nd)
      exact this.2.2 p hp p (List.mem_of_mem_take z) rfl
    rw [n2, Option.or_none] at f
    cases q : List.lookup p (P.zip us ++ ks.zip us2) with
    | none => rw [q] at f; cases f
    | some u => simp
  rw [miss]
  rw [if_neg (by simp)]
  rw [add_loop (fun x s => rfl), pure_bind, List.forIn_nil, pure_bind]
  rw [if_neg (by simp)]
  congr 1
  refine filterMap_all ?_
  rw [← hg]
  refine List.map_congr_left fun p _ => ?_
  rw [addD_lookup]
  unfold slotsOf
  rw [List.append_assoc]
end Y
/-! Y14: functions run as Y's; the law's end. -/
namespace Y
open PySem PySem.Spec PyProof.Rows L2

/-! ### values bound -/
section
variable {K : PySem.W.Frag} {T : Tab} {φ : List Addr} {H : Hp}
/-- three lists of named values that tell the same -/
inductive R3 (K : PySem.W.Frag) (T : Tab) (φ : List Addr) (H : Hp) : List (Str × W) → List (Str × V) → List (Str × Value) → Prop where
  | nil : R3 K T φ H [] [] []
  | cons {k : Str} {w : W} {v : V} {u : Value} {a b c} (r : RV K T φ H w v) (q : RelV v u) (h : R3 K T φ H a b c) : R3 K T φ H ((k, w) :: a) ((k, v) :: b) ((k, u) :: c)
theorem R3.append {a b c a' b' c'} (h : R3 K T φ H a b c) (h' : R3 K T φ H a' b' c') : R3 K T φ H (a ++ a') (b ++ b') (c ++ c') := by
  induction h with
  | nil => exact h'
  | cons r q _ ih => exact .cons r q ih
theorem R3.zip : ∀ {P : List Str} {ws : List W} {vs : List V} {us : List Value}, RVs K T φ H ws vs → Vals vs us → R3 K T φ H (P.zip ws) (P.zip vs) (P.zip us)
  | [], _, _, _, _, _ => by simpa using R3.nil
  | p :: P, [], vs, us, h, r => by
    simp only [RVs] at h; subst h
    cases r
    simpa using R3.nil
  | p :: P, w :: ws, vs, us, h, r => by
    simp only [RVs] at h
    obtain ⟨v, t, rfl, h1, h2⟩ := h
    cases r with
    | cons q r => exact .cons h1 q (R3.zip h2 r)
theorem R3.lookup {a b c} (h : R3 K T φ H a b c) {p : Str} {w : W} (e : a.lookup p = some w) : ∃ v u, b.lookup p = some v ∧ c.lookup p = some u ∧ RV K T φ H w v ∧ RelV v u := by
  induction h with
  | nil => cases e
  | @cons k w' v' u' a b c r q _ ih =>
    rw [List.lookup_cons] at e
    cases z : (p == k) with
    | true =>
      rw [z] at e
      cases e
      exact ⟨v', u', by rw [List.lookup_cons, z], by rw [List.lookup_cons, z], r, q⟩
    | false =>
      rw [z] at e
      obtain ⟨v, u, e1, e2, e3⟩ := ih e
      exact ⟨v, u, by rw [List.lookup_cons, z]; exact e1, by rw [List.lookup_cons, z]; exact e2, e3⟩
theorem R3.all {a b c} (h : R3 K T φ H a b c) : ∀ {P : List Str} {ws : List W}, (P.map (fun p => a.lookup p) : List (Option W)) = ws.map some →
    ∃ (vs : List V) (us : List Value), (P.map (fun p => c.lookup p) : List (Option Value)) = us.map some ∧ RVs K T φ H ws vs ∧ Vals vs us ∧ us.length = P.length
  | [], [], _ => ⟨[], [], rfl, .nil, .nil, rfl⟩
  | [], _ :: _, e => by simp at e
  | _ :: _, [], e => by simp at e
  | p :: P, w :: ws, e => by
    simp only [List.map_cons, List.cons.injEq] at e
    obtain ⟨v, u, e1, e2, r, q⟩ := h.lookup e.1
    obtain ⟨vs, us, h1, h2, h3, h4⟩ := R3.all h e.2
    exact ⟨v :: vs, u :: us, by simp only [List.map_cons, e2, h1], .cons r h2, .cons q h3, by simp [h4]⟩
end
theorem all_some {α : Type} : ∀ {l : List (Option α)}, l.all (·.isSome) = true → ∃ ws : List α, l = ws.map some
  | [], _ => ⟨[], rfl⟩
  | none :: l, h => by simp at h
  | some w :: l, h => by
    simp only [List.all_cons, Option.isSome_some, Bool.true_and] at h
    obtain ⟨ws, e⟩ := all_some h
    exact ⟨w :: ws, by rw [e]; rfl⟩
theorem zip_self {α : Type} : ∀ {P : List Str} {us : List α} {l : List (Str × α)}, P.Nodup → us.length = P.length → P.map (fun p => (P.zip us ++ l).lookup p) = us.map some
  | [], [], _, _, _ => rfl
  | [], _ :: _, _, _, h => by simp at h
  | _ :: _, [], _, _, h => by simp at h
  | p :: P, u :: us, l, nd, h => by
    have nd' := List.nodup_cons.mp nd
    have ih := zip_self (P := P) (us := us) (l := l) nd'.2 (by simpa using h)
    simp only [List.map_cons, List.zip_cons_cons, List.cons_append, List.lookup_cons, BEq.rfl, List.cons.injEq, true_and]
    rw [← ih]
    refine List.map_congr_left fun q hq => ?_
    have ne : q ≠ p := fun e => nd'.1 (by rw [← e]; exact hq)
    have : (q == p) = false := by simpa using ne
    rw [this]

theorem vals_take : ∀ {vs : List V} {us : List Value}, Vals vs us → ∀ n, Vals (vs.take n) (us.take n)
  | _, _, .nil, n => by simp only [List.take_nil]; exact .nil
  | _, _, .cons q r, 0 => by simp only [List.take_zero]; exact .nil
  | _, _, .cons q r, n + 1 => by simp only [List.take_succ_cons]; exact .cons q (vals_take r n)
/-! ### a def -/
def scopeB (N ps : List Str) (sc : Scope) : Bool :=
  (decide (sc.kind = .function) && (!sc.isCoroutine && !sc.isGenerator)) && (decide N.Nodup && (decide (N.take ps.length = ps) && ((ps.all fun x => decide (sc.names.lookup x = some .local) || decide (sc.names.lookup x = some .cell)) && (sc.names.all fun y => !decide (y.2 = .free)))))
theorem scopeB_ok {N ps : List Str} {sc : Scope} (h : scopeB N ps sc = true) : FnScope N ps sc := by
  unfold scopeB at h
  simp only [Bool.and_eq_true, decide_eq_true_eq, Bool.not_eq_true', List.all_eq_true, Bool.or_eq_true, decide_eq_false_iff_not] at h
  obtain ⟨⟨h1, h2, h3⟩, h4, h5, h6, h7⟩ := h
  exact ⟨h1, h2, h3, h4, h5, h6, h7⟩
/-- the def st is the function D: N its slots' names -/
def mF (N fs bl : List Str) (st : Stmt) (D : FD) : Bool :=
  ((match (defArgs st).posonlyargs with | [] => true | _ => false) && (match (defArgs st).kwonlyargs with | [] => true | _ => false) && (match (defArgs st).vararg with | none => true | _ => false) && (match (defArgs st).kwarg with | none => true | _ => false)) &&
  (decide ((defArgs st).args.map (·.arg) = D.ps) && (scopeB N D.ps (defScope st) && (decide (D.n = N.length) && mSs D.body ⟨N, defScope st, defScope st, fs, bl⟩ (defBody st))))
/-- one call, the callees being C's -/
def stepF (C : Ctx) (D : FD) (xs : List W) (kw : List (Str × W)) (h : Hb) : R W := match bindA D xs kw with
  | some σ => (match evalS C D.body σ h with
    | .ok (.rt w) h1 => .ok w h1
    | .ok (.nx _) h1 => .ok .non h1
    | .ex x _ h1 => .ex x h1
    | _ => .no)
  | none => .no
theorem dfl_none {v : Value} (h : v = .none) {k : Option (Array Value) → Sem (List (Str × Value))} {r : List (Str × Value)} {fd : FuncData} {args : Args} (e1 : bindArgs fd args = (seqItems? fd.defaults >>= k)) (hd : fd.defaults = v) (e2 : k none = pure r) (s : Shared) : BindsTo s fd args r := by
  refine BindsTo.of_eq ?_
  rw [e1, hd, h]
  show (do notAStandIn Value.none; pure none) >>= k = _
  exact e2
theorem fnY_ok {P : Program} {w : World} {K : PySem.W.Frag} {mg : Str → Option Value} {base : Heap} {k : Nat} {f : Addr} {fd : FuncData} {x qual y : Str} {st : Stmt} {dvs : List V} {N fs bl : List Str} {ca : Str → Addr} {C : Ctx} {call : Str → List W → List (Str × W) → Hb → R W} {D : FD}
    (F : FunD K x qual (defArgs st) (defBody st) (defScope st) dvs [] f fd) (hm : mF N fs bl st D = true) (hds : ∀ T φ H, RVs K T φ H D.ds dvs) (hfs : ∀ x ∈ fs, ∃ g, mg x = some (.ref g) ∧ PySem.W.keepIn K (.ref g) = true ∧ FnY P w K mg base ca C.call k x g)
    (hbl : ∀ x ∈ bl, mg x = none) (hcon : ∀ x w, C.glob x = some w → ∃ u v, mg x = some u ∧ RelV v u ∧ ∀ T φ H, RV K T φ H w v) (hc : ∀ xs kw h, call y xs kw h = stepF C D xs kw h) : FnY P w K mg base ca call (k + 1) y f := by
  obtain ⟨oc, od, dV, kV, doc, pm, an, cdv, ct, osl, rfl, lk, hcd, hD, _⟩ := F.ex
  unfold mF at hm
  simp only [Bool.and_eq_true, decide_eq_true_eq] at hm
  obtain ⟨⟨⟨⟨p1, p4⟩, p3⟩, p5⟩, p2, hS, hn, hb⟩ := hm
  have S := scopeB_ok hS
  have ndP : D.ps.Nodup := by rw [← S.pre]; exact S.nd.sublist (List.take_sublist _ _)
  have hpl : D.ps.length ≤ N.length := by have := congrArg List.length S.pre; rw [List.length_take] at this; omega
  refine fnY_of (ps := D.ps) lk hcd S fun T A outer s H φ h us us2 vs vs2 ws ws2 ks Q E hT hr hgd KX r r2 k1 k2 rl p => ?_
  rw [hc] at p
  unfold stepF at p
  cases hbind : bindA D ws (ks.zip ws2) with
  | none => rw [hbind] at p; exact p.elim
  | some σ0 =>
  rw [hbind] at p
  dsimp only at p
  unfold bindA at hbind
  split at hbind
  case isFalse => cases hbind
  rename_i cnd
  cases hbind
  simp only [Bool.and_eq_true, decide_eq_true_eq, List.all_eq_true] at cnd
  obtain ⟨⟨⟨⟨c1, c2⟩, c3⟩, c4⟩, c5⟩ := cnd
  obtain ⟨ws3, e3⟩ := all_some (List.all_eq_true.mpr c4)
  have lw := k1.length
  have lw2 := k2.length
  have lv := r.length
  have lv2 := r2.length
  -- keywords and values, as many
  have zm : ∀ {α : Type} (l : List α), l.length = us2.length → ks.zip l = (ks.take (min ks.length us2.length)).zip (l.take (min ks.length us2.length)) := fun l hl => by
    rw [List.zip_eq_zip_take_min, hl]
  obtain ⟨n, hn0⟩ : ∃ n, n = min ks.length us2.length := ⟨_, rfl⟩
  rw [← hn0] at zm
  have keyW : (ks.zip ws2).map (·.1) = ks.take n := by
    rw [zm ws2 (by omega), List.map_fst_zip]
    simp only [List.length_take]
    omega
  have hk : ∀ z ∈ ks.take n, z ∈ D.ps.drop us.length := fun z hz => by
    rw [← keyW] at hz
    obtain ⟨q, hq, rfl⟩ := List.mem_map.mp hz
    have := c2 q hq
    rw [show us.length = ws.length by omega]
    exact this
  -- by name
  have full : D.ps.map (fun p => (slotsOf D.ps ws (ks.take n) (ws2.take n) D.ds).lookup p) = ws3.map some := by
    unfold slotsOf
    rw [← zm ws2 (by omega), ← e3]
    unfold bindW
    split
    · rename_i z
      simp only [Bool.and_eq_true, decide_eq_true_eq] at z
      exact zip_self ndP z.2
    · rfl
  have goD : ∀ its : List Value, Vals dvs its → ∃ us3 vs3, us3.length = D.ps.length ∧ Vals vs3 us3 ∧ RVs K T φ H ws3 vs3 ∧ ∃ kk, bindArgs (PySem.W.fnOf x qual (defArgs st) (defBody st) (defScope st) dV kV doc pm an cdv ct) ⟨us, ks.zip us2⟩ = (seqItems? dV >>= kk) ∧ ∀ o : Option (Array Value), (o.getD #[]).toList = its → kk o = pure (D.ps.zip us3) := by
    intro its rd
    have rds := hds T φ H
    have l1 := rds.length
    have l2 := rd.length
    have r3 : R3 K T φ H (slotsOf D.ps ws (ks.take n) (ws2.take n) D.ds) (slotsOf D.ps vs (ks.take n) (vs2.take n) dvs) (slotsOf D.ps us (ks.take n) (us2.take n) its) := by
      unfold slotsOf
      rw [show its.length = D.ds.length by omega, show dvs.length = D.ds.length by omega]
      exact (R3.zip k1 r).append ((R3.zip (RVs.take n k2) (vals_take r2 n)).append (R3.zip rds rd))
    obtain ⟨vs3, us3, g1, g2, g3, g4⟩ := r3.all full
    refine ⟨us3, vs3, g4, g3, g2, ?_⟩
    have p1' : (defArgs st).posonlyargs = [] := by split at p1; assumption; cases p1
    have p4' : (defArgs st).kwonlyargs = [] := by split at p4; assumption; cases p4
    have p3' : (defArgs st).vararg = none := by split at p3; assumption; cases p3
    have p5' : (defArgs st).kwarg = none := by split at p5; assumption; cases p5
    rw [zm us2 rfl]
    exact bind_k (fd := PySem.W.fnOf x qual (defArgs st) (defBody st) (defScope st) dV kV doc pm an cdv ct) p1' p2 p3' p4' p5' ndP (by omega) hk (by rw [← keyW]; exact c3) (by simp only [List.length_take]; omega) (by omega) g1
  have body : ∀ us3 vs3, Vals vs3 us3 → RVs K T φ H ws3 vs3 → ∃ t, PSs (cxOf (L2.CX P w) P w K mg base N qual (defScope st) f cdv A outer s H E) (defBody st) t ∧ t { nx := fun _ H' => Q .non H', rt := Q } (L2.start N vs3) H := by
    intro us3 vs3 g3 g2
    have l3 : ws3.length = D.ps.length := by
      have := congrArg List.length full
      simp only [List.length_map] at this
      omega
    have G : GoodS (cxOf (L2.CX P w) P w K mg base N qual (defScope st) f cdv A outer s H E) ⟨N, defScope st, defScope st, fs, bl⟩ ca C k :=
      { hN := rfl, nd := S.nd, sc := rfl, w := fun _ _ => rfl, calm := rfl, units := by have := (hr.deeper (envOfC qual (defScope st) s.heap.objs.size f cdv)).un; show (A.deeper _).units + 70 < _; omega, guards := hgd, room := hr.deeper _, mgn := hbl, fns := hfs, con := hcon, kind := S.kind, po := passes_of rfl }
    refine ⟨_, (soundS C ca k D.body).ss _ _ T (fun cls d _ H => E cls d H) _ G hT (takes_of rfl rfl rfl rfl) hb, φ, bindW D ws (ks.zip ws2) ++ List.replicate (D.n - D.ps.length) none, h, ?_, rl, ?_⟩
    · have := RS.start (N := N) g2 hn
      rw [e3, ← l3]
      exact this
    · cases q : evalS C D.body (bindW D ws (ks.zip ws2) ++ List.replicate (D.n - D.ps.length) none) h with
      | no => rw [q] at p; exact p
      | ex e σ1 h1 => rw [q] at p; exact fun φ' σ' H' cls d x rl' s' rx => p φ' H' cls d x rl' rx
      | ok fl h1 =>
        rw [q] at p
        cases fl with
        | nx σ1 => exact fun φ' σ' H' x rl' s' => p φ' _ H' x rl' .mk_non
        | rt v => exact p
        | bk σ1 => exact p.elim
        | ct σ1 => exact p.elim
  rcases hD with ⟨rfl, rfl⟩ | ⟨_, Ta, o, its, m, rfl, lT, oT, rT⟩
  · obtain ⟨us3, vs3, g4, g3, g2, kk, e1, e2⟩ := goD [] .nil
    obtain ⟨t, ht, hq⟩ := body us3 vs3 g3 g2
    exact ⟨us3, vs3, t, g4, g3, dfl_none rfl e1 rfl (e2 none rfl) s, ht, hq⟩
  · obtain ⟨us3, vs3, g4, g3, g2, kk, e1, e2⟩ := goD its rT
    obtain ⟨t, ht, hq⟩ := body us3 vs3 g3 g2
    exact ⟨us3, vs3, t, g4, g3, BindsTo.of_defaults rfl (KX _ _ lT) oT e1 (e2 _ (by simp)), ht, hq⟩
end Y
/-! Y15: all functions of a program; the law's end. -/
namespace Y
open PySem PySem.Spec PyProof.Rows L2

/-- a def of the program: its name, its slots' names, its text, the function -/
structure Df where
  x : Str
  N : List Str
  st : Stmt
  D : FD
def prgOf (tb : List Df) (con : List (Str × W)) : Prg := { fns := tb.map fun d => (d.x, d.D), con := con }
def names (tb : List Df) : List Str := tb.map (·.x)
def mAll (bl : List Str) (tb : List Df) : Bool := decide (names tb).Nodup && tb.all fun d => mF d.N (names tb) bl d.st d.D
theorem prg_lookup : ∀ {tb : List Df} {con : List (Str × W)}, (names tb).Nodup → ∀ d ∈ tb, (prgOf tb con).fns.lookup d.x = some d.D
  | t :: tb, con, nd, d, hd => by
    have nd' := List.nodup_cons.mp (show (t.x :: names tb).Nodup from nd)
    show List.lookup d.x ((t.x, t.D) :: (tb.map fun d => (d.x, d.D))) = _
    rw [List.lookup_cons]
    rcases List.mem_cons.mp hd with e | e
    · rw [e, beq_self_eq_true]
    · have ne : d.x ≠ t.x := fun z => nd'.1 (by rw [← z]; exact List.mem_map_of_mem e)
      have : (d.x == t.x) = false := by simpa using ne
      rw [this]
      exact prg_lookup (con := con) nd'.2 d e
/-- where each def stands -/
def Stands (K : PySem.W.Frag) (mg : Str → Option Value) (d : Df) : Prop :=
  ∃ g fd dvs, mg d.x = some (.ref g) ∧ PySem.W.keepIn K (.ref g) = true ∧ FunD K d.x d.x (defArgs d.st) (defBody d.st) (defScope d.st) dvs [] g fd ∧ ∀ T φ H, RVs K T φ H d.D.ds dvs
theorem allY {P : Program} {w : World} {K : PySem.W.Frag} {mg : Str → Option Value} {base : Heap} {ca : Str → Addr} {bl : List Str} {tb : List Df} {con : List (Str × W)} {fuel : Nat} (hm : mAll bl tb = true) (hs : ∀ d ∈ tb, Stands K mg d) (hbl : ∀ x ∈ bl, mg x = none)
    (hcon : ∀ x w, con.lookup x = some w → ∃ u v, mg x = some u ∧ RelV v u ∧ ∀ T φ H, RV K T φ H w v) : ∀ (k : Nat), ∀ x ∈ names tb, ∃ g, mg x = some (.ref g) ∧ PySem.W.keepIn K (.ref g) = true ∧ FnY P w K mg base ca (runF (prgOf tb con) fuel k) k x g := by
  unfold mAll at hm
  simp only [Bool.and_eq_true, decide_eq_true_eq, List.all_eq_true] at hm
  intro k
  induction k with
  | zero =>
    intro x hx
    obtain ⟨d, hd, rfl⟩ := List.mem_map.mp hx
    obtain ⟨g, fd, dvs, h1, h2, h3, h4⟩ := hs d hd
    exact ⟨g, h1, h2, ⟨fun T A outer s H φ h us us2 vs vs2 ws ws2 ks Q E _ _ _ _ _ _ _ _ _ p => p.elim⟩⟩
  | succ k ih =>
    intro x hx
    obtain ⟨d, hd, rfl⟩ := List.mem_map.mp hx
    obtain ⟨g, fd, dvs, h1, h2, h3, h4⟩ := hs d hd
    refine ⟨g, h1, h2, fnY_ok (C := { call := runF (prgOf tb con) fuel k, glob := fun x => (prgOf tb con).con.lookup x, fuel := fuel }) h3 (hm.2 d hd) h4 ih hbl hcon fun xs kw h => ?_⟩
    show runF (prgOf tb con) fuel (k + 1) d.x xs kw h = _
    unfold runF
    rw [prg_lookup hm.1 d hd]
    rfl

/-! ### the law's end -/
/-- the script's heap -/
def scriptH (K : PySem.W.Frag) (a : Addr) (o : Obj) (ns : List Int) : Hp := fun b => if b = a ∧ K.lookup a = none then some (.frz o (.lst (ns.map V.int))) else none
theorem scriptH_some {K : PySem.W.Frag} {a : Addr} {o : Obj} {ns : List Int} {b : Addr} {u : HO} (h : scriptH K a o ns b = some u) : b = a ∧ K.lookup a = none ∧ u = .frz o (.lst (ns.map V.int)) := by
  unfold scriptH at h
  split at h
  · rename_i c; cases h; exact ⟨c.1, c.2, rfl⟩
  · cases h
theorem enterY {P : Program} {w : World} {K : PySem.W.Frag} {mg mb : Str → Option Value} {k : Nat} {fa a : Addr} {x : Str} {s₁ : Shared} {vs : List Value} {ns : List Int} {ca : Str → Addr} {call : Str → List W → List (Str × W) → Hb → R W}
    (KX : K.In s₁.heap) (G1 : s₁.heap.Ns mainGlobals mg) (G2 : s₁.heap.Ns builtinsNs mb) (G3 : ∀ x : Str, x ≠ "__name__" → mb x = bootBuiltins x) (G4 : s₁.heap.NoLimit) (G5 : s₁.gens = #[])
    (ha : s₁.heap.get? a = some { cls := .type "list", data := .seq vs.toArray }) (hi : IntsAre vs ns) (hl : ns.length ≤ sizeLine) (hr : Room k callerA)
    (F : ∀ base : Heap, K.In base → base.Ns mainGlobals mg → FnY P w K mg base ca call k x fa) (hp : ∃ h', call x [.rol (ns.map W.int)] [] [] = .ok (.bl true) h') :
    codeAny (model P w) callerA (.call (.ref fa) ⟨[.ref a], []⟩) (fun r s' => r = .ok (.ret (.bool true)) ∧ OldK s₁.heap s'.heap ∧ s'.os = s₁.os ∧ AllBare s'.gens) s₁ := by
  have rv := vals_ints hi
  obtain ⟨o, ho⟩ : ∃ o : Obj, o = { cls := .type "list", data := .seq vs.toArray } := ⟨_, rfl⟩
  rw [← ho] at ha
  obtain ⟨H, hH⟩ : ∃ H, H = scriptH K a o ns := ⟨_, rfl⟩
  have some_ : ∀ {b u}, H b = some u → b = a ∧ K.lookup a = none ∧ u = .frz o (.lst (ns.map V.int)) := fun h => scriptH_some (by rw [← hH]; exact h)
  have okH : HOk P w H s₁.heap := fun b u h => by
    obtain ⟨rfl, _, rfl⟩ := some_ h
    have ha' := ha
    rw [ho] at ha'
    exact ⟨ha, by rw [List.length_map]; exact hl, vs, _, rv, ha'⟩
  -- what is no list is not the script
  have noD : ∀ {b : Addr} {ob : Obj} {es : Array DictEntry} {ep : Nat}, s₁.heap.get? b = some ob → ob.data = .dict es ep → H b = none := fun {b ob es ep} e d => by
    cases q : H b with
    | none => rfl
    | some u =>
      obtain ⟨rfl, _, _⟩ := some_ q
      rw [ha] at e
      cases e
      rw [ho] at d
      cases d
  have ns' : ∀ {b : Addr} {m : Str → Option Value}, s₁.heap.Ns b m → (hidT s₁.heap H).Ns b m := fun ⟨ob, es, ep, e, d, r⟩ => ⟨ob, es, ep, hidT_get e (noD e d), d, r⟩
  have kin : K.In (hidT s₁.heap H) := fun b ob e => hidT_get (KX b ob e) (by
    cases q : H b with
    | none => rfl
    | some u =>
      obtain ⟨rfl, n, _⟩ := some_ q
      rw [n] at e
      cases e)
  obtain ⟨mc, c1, c2⟩ := G4
  have e0 : Env0 P w K mg (hidT s₁.heap H) callerA [] s₁ H :=
    { frames := rfl, mod := ⟨kin, ns' G1, ⟨mb, ns' G2, G3⟩, ⟨mc, ns' c1, c2⟩⟩, bs := fun b ob e => of_hidT e, bsz := Nat.le_of_eq (hidT_size _ _), funs := trivial, frf := fun b hb => (by cases hb), hok := okH, bare := .of_eq G5 }
  -- the script as a value
  have script : ∀ T : Tab, (∀ b, ¬ T.hid b) → RV K T [] H (.rol (ns.map W.int)) (.ref a) := fun T hT => by
    simp only [RV]
    refine ⟨a, ns.map V.int, rfl, ?_, RVs.mk_ints ns⟩
    cases hk : K.lookup a with
    | none => exact .inl ⟨⟨by simp, hT a⟩, .inr ⟨o, by rw [hH]; exact if_pos ⟨rfl, hk⟩⟩⟩
    | some ob =>
      have e := KX a ob hk
      rw [ha] at e
      cases e
      refine .inr ⟨o, vs.toArray, _, hk, by rw [ho], by rw [ho], by rw [ho], ?_, by simpa using rv⟩
      rw [List.size_toArray, hi.length]
      exact hl
  obtain ⟨h', hp⟩ := hp
  have T0 : Tab := { ca := ca }
  refine codeAny_mono ((F _ kin (ns' G1)).run { ca := ca } callerA [] s₁ H [] [] [.ref a] [] [.ref a] [] [.rol (ns.map W.int)] [] [] (fun v _ => v = .bl true) (fun _ _ _ => False) rfl hr rfl e0 (.cons rfl .nil) .nil (.cons (script _ fun _ h => h) .nil) .nil ?_ ?_) fun r s' h => ?_
  · exact ⟨List.nodup_nil, rfl, fun a h => h.elim, fun n o a h => by simp at h⟩
  · show Post K _ _ [] H (call x [.rol (ns.map W.int)] [] []) _
    rw [hp]
    exact fun φ' v H' _ _ r => r.bl_inv
  · cases r with
    | error e =>
      obtain ⟨_, _, _, _, _, _, _, _, _, _, _, _, z⟩ := h
      exact z.elim
    | ok fl =>
      cases fl with
      | next => exact False.elim h
      | brk => exact False.elim h
      | cont => exact False.elim h
      | ret u =>
        obtain ⟨v, H', os, bare, un, ok', r', q⟩ := h
        have q' : v = .bl true := q
        subst q'
        cases (show u = Value.bool true from r')
        refine ⟨rfl, OldK.of_keep fun b ob e => ?_, os, bare⟩
        cases q : H b with
        | none => exact un.keep b ob e q (by intro z; cases z) (by simp)
        | some u =>
          obtain ⟨rfl, _, rfl⟩ := some_ q
          rw [ha] at e
          cases e
          exact (ok' b _ (un.frzs b _ _ q)).1
/-- a law, from its program's functions and from what they come to -/
theorem endY {l : PySem.W.OpenLaw} {n k : Nat} {q : Program} {loose : List Str} {XP : (Str → Option Value) → Heap → Prop} {YP : World → Heap → Prop} {d : DefRec} {x : Str} {call : Str → List W → List (Str × W) → Hb → R W}
    (hn : l.most = some n) (hn2 : n ≤ sizeLine) (hdf : d.params.defaults = []) (hr : Room k callerA)
    (F : ∀ (w : World) (mg : Str → Option Value) (fa : Addr) (h : Heap), YP w h → h.Ns mainGlobals mg → mg d.name = some (.ref fa) → ∃ (K : PySem.W.Frag) (ca : Str → Addr), K.In h ∧ ∀ base : Heap, K.In base → base.Ns mainGlobals mg → FnY l.prog w K mg base ca call k x fa)
    (hp : ∀ ns : List Int, ns.length ≤ n → ∃ h', call x [.rol (ns.map W.int)] [] [] = .ok (.bl true) h') :
    PySem.W.WalkO q loose XP YP l.row.toRowW d [] (fun f vs => PySem.call f vs) := by
  refine Att.attach_call hn hdf fun w s₀ s₁ mg mb fa o pm cd doc a vs ns G Y ho hd hcd hmg hobj hints hlen hg => ?_
  obtain ⟨K, ca, KX, hF⟩ := F w mg fa _ Y G.T.g hmg
  exact enterY KX G.T.g G.T.b G.T.builtins G.T.nolimit hg hobj hints (Nat.le_trans hlen hn2) hr hF (hp ns hlen)
end Y
/-! Y16: what the head tells of the defs; the law by its program in Y. -/
namespace Y
open PySem PySem.Spec PyProof.Rows L2

def dvOf : W → He.Dv
  | .bl b => .bl b
  | .int i => .int i
  | .str s => .str s
  | _ => .non
def simpleW : W → Bool
  | .non => true
  | .bl _ => true
  | .int _ => true
  | .str _ => true
  | _ => false
theorem dv_ok {K : PySem.W.Frag} {T : Tab} {φ : List Addr} {H : Hp} : ∀ {ws : List W}, ws.all simpleW = true → RVs K T φ H ws ((ws.map dvOf).map (He.Dv.v K))
  | [], _ => .nil
  | w :: ws, h => by
    simp only [List.all_cons, Bool.and_eq_true] at h
    refine .cons ?_ (dv_ok h.2)
    cases w with
    | non => exact .mk_non
    | bl b => exact .mk_bl b
    | int b => exact .mk_int b
    | str b => exact .mk_str b
    | _ => exact (Bool.false_ne_true h.1).elim
def dfd (d : Df) : He.DefD := ⟨(d.x, none), d.x, d.x, defArgs d.st, defBody d.st, defScope d.st, d.D.ds.map dvOf, []⟩
def faOf (tb : List Df) (bl : List Str) : List He.Fa := tb.map (fun d => .glo d.x) ++ bl.map .free
theorem stands_of {K : PySem.W.Frag} {h : Heap} {mg : Str → Option Value} {tb : List Df} {bl : List Str} (X : K.In h) (G : h.Ns mainGlobals mg) (c : He.SaysD (faOf tb bl) (tb.map dfd) K) (hd : (tb.all fun d => d.D.ds.all simpleW) = true) :
    (∀ d ∈ tb, Stands K mg d) ∧ ∀ x ∈ bl, mg x = none := by
  have fact : ∀ f ∈ faOf tb bl, f.ok K = true := fun f hf => by
    obtain ⟨i, hi⟩ := List.mem_iff_getElem?.mp hf
    exact c.fact i hi
  refine ⟨fun d hd' => ?_, fun x hx => He.free_ok X G (fact _ (List.mem_append_right _ (List.mem_map_of_mem hx)))⟩
  obtain ⟨i, hi⟩ := List.mem_iff_getElem?.mp hd'
  obtain ⟨fd, F⟩ := c.def_ i (d := dfd d) (by rw [List.getElem?_map, hi]; rfl)
  refine ⟨He.ga K d.x, fd, (d.D.ds.map dvOf).map (He.Dv.v K), He.glo_ok X G (fact _ (List.mem_append_left _ (List.mem_map_of_mem (f := fun d : Df => He.Fa.glo d.x) hd'))), F.kp, F, fun T φ H => dv_ok (List.all_eq_true.mp hd d hd')⟩
theorem top_end {l : PySem.W.OpenLaw} {n k m fuel : Nat} {q : Program} {loose : List Str} {XP : (Str → Option Value) → Heap → Prop} {d : DefRec} {tb : List Df} {bl : List Str} {x : Str}
    (hn : l.most = some n) (hn2 : n ≤ sizeLine) (hdf : d.params.defaults = []) (hr : Room k callerA) (hx : d.name = x) (hm : mAll bl tb = true) (hd : (tb.all fun d => d.D.ds.all simpleW) = true) (hl : x ∈ names tb)
    (hp : ∀ ns : List Int, ns.length ≤ n → ∃ h', runF (prgOf tb []) fuel k x [.rol (ns.map W.int)] [] [] = .ok (.bl true) h') :
    PySem.W.WalkO q loose XP (He.hookD m (faOf tb bl) (tb.map dfd)).says l.row.toRowW d [] (fun f vs => PySem.call f vs) := by
  refine endY hn hn2 hdf hr (x := x) (call := runF (prgOf tb []) fuel k) (fun w mg fa h Y G hmg => ?_) hp
  obtain ⟨K, KX, c⟩ := Y
  obtain ⟨s1, s2⟩ := stands_of KX G c hd
  refine ⟨K, fun _ => 0, KX, fun base _ _ => ?_⟩
  obtain ⟨g, h1, h2, h3⟩ := allY (P := l.prog) (w := w) (base := base) (ca := fun _ => 0) (con := []) (fuel := fuel) hm s1 s2 (fun _ _ e => by cases e) k x hl
  rw [hx] at hmg
  rw [hmg] at h1
  cases h1
  exact h3
end Y
/-! Z0: how a program in Y is run by rewriting: what is left to do is named, nothing stands under a binder. -/
namespace Y
open PySem

/-! ### expressions -/
def kSlot : Option (Option W) → Hb → R W
  | some (some w), h => .ok w h
  | _, _ => .no
def kBin2 (op : Op) (x : W) (r : R W) : R W := r.bind fun y h2 => binop op x y h2
def kBin (C : Ctx) (op : Op) (b : E) (σ : Sb) (r : R W) : R W := r.bind fun x h1 => kBin2 op x (evalE C b σ h1)
def kNeg (r : R W) : R W := r.bind fun x h1 => (match x with | .int i => .ok (.int (-i)) h1 | _ => .no)
def kCmp2 (op : Cm) (x : W) (r : R W) : R W := r.bind fun y h2 => R.ofB (cmpop op x y h2) h2
def kCmp (C : Ctx) (op : Cm) (b : E) (σ : Sb) (r : R W) : R W := r.bind fun x h1 => kCmp2 op x (evalE C b σ h1)
def kChn3 (o2 : Cm) (y : W) (r : R W) : R W := r.bind fun z h3 => R.ofB (cmpop o2 y z h3) h3
def kChnB (C : Ctx) (o2 : Cm) (c : E) (σ : Sb) (y : W) (h2 : Hb) : Option Bool → R W
  | some true => kChn3 o2 y (evalE C c σ h2)
  | some false => .ok (.bl false) h2
  | none => .no
def kChn2 (C : Ctx) (o1 o2 : Cm) (c : E) (σ : Sb) (x : W) (r : R W) : R W := r.bind fun y h2 => kChnB C o2 c σ y h2 (cmpop o1 x y h2)
def kChn (C : Ctx) (o1 o2 : Cm) (b c : E) (σ : Sb) (r : R W) : R W := r.bind fun x h1 => kChn2 C o1 o2 c σ x (evalE C b σ h1)
def kAnd2 (C : Ctx) (b : E) (σ : Sb) (x : W) (h : Hb) : Option Bool → R W
  | some true => evalE C b σ h
  | some false => .ok x h
  | none => .no
def kAnd (C : Ctx) (b : E) (σ : Sb) (r : R W) : R W := r.bind fun x h1 => kAnd2 C b σ x h1 (truth h1 x)
def kOr2 (C : Ctx) (b : E) (σ : Sb) (x : W) (h : Hb) : Option Bool → R W
  | some true => .ok x h
  | some false => evalE C b σ h
  | none => .no
def kOr (C : Ctx) (b : E) (σ : Sb) (r : R W) : R W := r.bind fun x h1 => kOr2 C b σ x h1 (truth h1 x)
def kTand (C : Ctx) (b : E) (σ : Sb) (r : R W) : R W := r.bind fun x h1 => (match x with | .bl true => evalE C b σ h1 | .bl false => .ok (.bl false) h1 | _ => .no)
def kTor (C : Ctx) (b : E) (σ : Sb) (r : R W) : R W := r.bind fun x h1 => (match x with | .bl true => .ok (.bl true) h1 | .bl false => evalE C b σ h1 | _ => .no)
def kTnot (r : R W) : R W := r.bind fun x h1 => (match x with | .bl b => .ok (.bl (!b)) h1 | _ => .no)
def kTru (r : R W) : R W := r.bind fun x h1 => R.ofB (truth h1 x) h1
def kIte (C : Ctx) (a b : E) (σ : Sb) (r : R W) : R W := r.bind fun x h1 => (match x with | .bl true => evalE C a σ h1 | .bl false => evalE C b σ h1 | _ => .no)
def kCons2 (x : W) (r : R W) : R W := r.bind fun y h2 => (match y with | .tup ys => .ok (.tup (x :: ys)) h2 | _ => .no)
def kCons (C : Ctx) (e : E) (σ : Sb) (r : R W) : R W := r.bind fun x h1 => kCons2 x (evalE C e σ h1)
def kStar2 (xs : List W) (r : R W) : R W := r.bind fun y h2 => (match y with | .tup ys => if small (xs.length + ys.length) then .ok (.tup (xs ++ ys)) h2 else .no | _ => .no)
def kStarB (C : Ctx) (e : E) (σ : Sb) (h : Hb) : Option (List W) → R W
  | some xs => kStar2 xs (evalE C e σ h)
  | none => .no
def kStar (C : Ctx) (e : E) (σ : Sb) (r : R W) : R W := r.bind fun x h1 => kStarB C e σ h1 (items h1 x)
def kTup (r : R W) : R W := r.bind fun x h1 => (match x with | .tup xs => if small xs.length then .ok (.tup xs) h1 else .no | _ => .no)
def kLst (r : R W) : R W := r.bind fun x h1 => (match x with | .tup xs => if small xs.length then .ok (.lit xs) h1 else .no | _ => .no)
def kIx2 (x : W) (r : R W) : R W := r.bind fun y h2 => R.ofO (getIx h2 x y) h2
def kIx (C : Ctx) (e : E) (σ : Sb) (r : R W) : R W := r.bind fun x h1 => kIx2 x (evalE C e σ h1)
def kCut4 (x : W) (l u : Option Int) (h : Hb) : R W := R.ofO (getCut h x l u) h
def kCutU (x : W) (l : Option Int) (h : Hb) : Option (Option Int) → R W
  | some u => kCut4 x l u h
  | none => .no
def kCut3 (hi : E) (x : W) (l : Option Int) (r : R W) : R W := r.bind fun z h3 => kCutU x l h3 (optP hi z)
def kCutL (C : Ctx) (hi : E) (σ : Sb) (x : W) (h : Hb) : Option (Option Int) → R W
  | some l => kCut3 hi x l (evalE C hi σ h)
  | none => .no
def kCut2 (C : Ctx) (lo hi : E) (σ : Sb) (x : W) (r : R W) : R W := r.bind fun y h2 => kCutL C hi σ x h2 (optP lo y)
def kCut (C : Ctx) (lo hi : E) (σ : Sb) (r : R W) : R W := r.bind fun x h1 => kCut2 C lo hi σ x (evalE C lo σ h1)
def kBi (f : Bi) (r : R W) : R W := r.bind fun x h1 => (match x with | .tup xs => R.ofO (builtin f xs h1) h1 | _ => .no)
def kMt2 (m : Mt) (o : W) (r : R W) : R W := r.bind fun x h2 => (match x with | .tup xs => method m o xs h2 | _ => .no)
def kMtB (C : Ctx) (m : Mt) (es : E) (σ : Sb) (o : W) (h : Hb) : Bool → R W
  | true => kMt2 m o (evalE C es σ h)
  | false => .no
def kMt (C : Ctx) (m : Mt) (es : E) (σ : Sb) (r : R W) : R W := r.bind fun o h1 => kMtB C m es σ o h1 (recv m h1 o)
def kCall2 (C : Ctx) (f : Str) (xs : List W) (ks : List Str) (r : R W) : R W := r.bind fun k h2 => (match k with | .tup vs => C.call f xs (ks.zip vs) h2 | _ => .no)
def kCall (C : Ctx) (f : Str) (ks : List Str) (kes : E) (σ : Sb) (r : R W) : R W := r.bind fun x h1 => (match x with | .tup xs => kCall2 C f xs ks (evalE C kes σ h1) | _ => (evalE C kes σ h1).bind fun _ _ => .no)
def kLit (r : R (List W)) : R W := r.bind fun vs h5 => .ok (.lit vs) h5
def kCmB (C : Ctx) (elt : E) (t : Tg) (c : E) (own : List Nat) (σ : Sb) (w : W) (h1 : Hb) : Option (List W) → R W
  | some ws => kLit (forC (turnC C elt t c own σ) (fun h' => stays h1 h' w) ws [] h1)
  | none => .no
def kCm (C : Ctx) (elt : E) (t : Tg) (c : E) (own : List Nat) (σ : Sb) (r : R W) : R W := r.bind fun w h1 => kCmB C elt t c own σ w h1 (items h1 w)
def rngW (i : Int) (n : Nat) : W := .tup ((List.range n).map fun (k : Nat) => W.int (i + (k : Int)))
def kRng (r : R W) : R W := r.bind fun x h1 => (match x with
    | .int j => if decide (-(2 ^ 61) ≤ j) && decide (j < 2 ^ 61) then .ok (rngW 0 j.toNat) h1 else .no
    | _ => .no)
def kRng2b (x : W) (r : R W) : R W := r.bind fun y h2 => (match x, y with
    | .int i, .int j => if (decide (-(2 ^ 61) ≤ i) && decide (i < 2 ^ 61)) && (decide (-(2 ^ 61) ≤ j) && decide (j < 2 ^ 61)) then .ok (rngW i (j - i).toNat) h2 else .no
    | _, _ => .no)
def kRng2 (C : Ctx) (b : E) (σ : Sb) (r : R W) : R W := r.bind fun x h1 => kRng2b x (evalE C b σ h1)
def enumW (xs : List W) : W := .tup (xs.zipIdx.map fun p => .tup [.int p.2, p.1])
def kEnum (r : R W) : R W := r.bind fun x h1 => (match x with
    | .tup xs => .ok (enumW xs) h1
    | .lit xs => .ok (enumW xs) h1
    | .rol xs => .ok (enumW xs) h1
    | _ => .no)
def zipW (xs ys : List W) : W := .tup ((xs.zip ys).map fun p => .tup [p.1, p.2])
def kZip2 (x : W) (r : R W) : R W := r.bind fun y h2 => (match x, y with
    | .tup xs, .tup ys => .ok (zipW xs ys) h2
    | .lit xs, .lit ys => .ok (zipW xs ys) h2
    | _, _ => .no)
def kZip (C : Ctx) (b : E) (σ : Sb) (r : R W) : R W := r.bind fun x h1 => kZip2 x (evalE C b σ h1)
section
variable (C : Ctx) (σ : Sb) (h : Hb)
@[simp] theorem eSlot (i : Nat) : evalE C (.slot i) σ h = kSlot σ[i]? h := by
  rw [evalE]
  cases q : σ[i]? with
  | none => rfl
  | some o => cases o <;> rfl
@[simp] theorem eNon : evalE C .non σ h = .ok .non h := by rw [evalE]
@[simp] theorem eBl (b : Bool) : evalE C (.bl b) σ h = .ok (.bl b) h := by rw [evalE]
@[simp] theorem eInt (i : Int) : evalE C (.int i) σ h = .ok (.int i) h := by rw [evalE]
@[simp] theorem eStr (s : Str) : evalE C (.str s) σ h = .ok (.str s) h := by rw [evalE]
@[simp] theorem eGlob (x : Str) : evalE C (.glob x) σ h = R.ofO (C.glob x) h := by rw [evalE]
@[simp] theorem eBin (op : Op) (a b : E) : evalE C (.bin op a b) σ h = kBin C op b σ (evalE C a σ h) := by rw [evalE]; rfl
@[simp] theorem eNeg (a : E) : evalE C (.neg a) σ h = kNeg (evalE C a σ h) := by rw [evalE]; rfl
@[simp] theorem eCmp (op : Cm) (a b : E) : evalE C (.cmp op a b) σ h = kCmp C op b σ (evalE C a σ h) := by rw [evalE]; rfl
@[simp] theorem eChn (o1 o2 : Cm) (a b c : E) : evalE C (.chn o1 o2 a b c) σ h = kChn C o1 o2 b c σ (evalE C a σ h) := by rw [evalE]; rfl
@[simp] theorem eAnd (a b : E) : evalE C (.and a b) σ h = kAnd C b σ (evalE C a σ h) := by rw [evalE]; rfl
@[simp] theorem eOr (a b : E) : evalE C (.or a b) σ h = kOr C b σ (evalE C a σ h) := by rw [evalE]; rfl
@[simp] theorem eTand (a b : E) : evalE C (.tand a b) σ h = kTand C b σ (evalE C a σ h) := by rw [evalE]; rfl
@[simp] theorem eTor (a b : E) : evalE C (.tor a b) σ h = kTor C b σ (evalE C a σ h) := by rw [evalE]; rfl
@[simp] theorem eTnot (a : E) : evalE C (.tnot a) σ h = kTnot (evalE C a σ h) := by rw [evalE]; rfl
@[simp] theorem eTru (a : E) : evalE C (.tru a) σ h = kTru (evalE C a σ h) := by rw [evalE]; rfl
@[simp] theorem eIte (c a b : E) : evalE C (.ite c a b) σ h = kIte C a b σ (evalE C c σ h) := by rw [evalE]; rfl
@[simp] theorem eNil : evalE C .nil σ h = .ok (.tup []) h := by rw [evalE]
@[simp] theorem eCons (a r : E) : evalE C (.cons a r) σ h = kCons C r σ (evalE C a σ h) := by rw [evalE]; rfl
@[simp] theorem eStar (a r : E) : evalE C (.star a r) σ h = kStar C r σ (evalE C a σ h) := by rw [evalE]; rfl
@[simp] theorem eTup (es : E) : evalE C (.tup es) σ h = kTup (evalE C es σ h) := by rw [evalE]; rfl
@[simp] theorem eLst (es : E) : evalE C (.lst es) σ h = kLst (evalE C es σ h) := by rw [evalE]; rfl
@[simp] theorem eNew (e : E) : evalE C (.new e) σ h = asNew (evalE C e σ h) := evalE_new C e σ h
@[simp] theorem eIx (a i : E) : evalE C (.ix a i) σ h = kIx C i σ (evalE C a σ h) := by rw [evalE]; rfl
@[simp] theorem eCut (a lo hi : E) : evalE C (.cut a lo hi) σ h = kCut C lo hi σ (evalE C a σ h) := by rw [evalE]; rfl
@[simp] theorem eBi (f : Bi) (es : E) : evalE C (.bi f es) σ h = kBi f (evalE C es σ h) := by rw [evalE]; rfl
@[simp] theorem eMt (m : Mt) (a es : E) : evalE C (.mt m a es) σ h = kMt C m es σ (evalE C a σ h) := by
  rw [evalE]; unfold kMt; congr 1; funext x h1; cases recv m h1 x <;> rfl
@[simp] theorem eCall (f : Str) (es : E) (ks : List Str) (kes : E) : evalE C (.call f es ks kes) σ h = kCall C f ks kes σ (evalE C es σ h) := by
  rw [evalE]; unfold kCall kCall2; congr 1; funext x h1
  cases x <;> first | rfl | (congr 1)
  all_goals (try (funext k h2; cases k <;> rfl))
@[simp] theorem eCm (elt : E) (t : Tg) (it c : E) (own : List Nat) : evalE C (.cm elt t it c own) σ h = kCm C elt t c own σ (evalE C it σ h) := by rw [evalE_cm]; rfl
@[simp] theorem eRng (a : E) : evalE C (.rng a) σ h = kRng (evalE C a σ h) := by rw [evalE]; rfl
@[simp] theorem eRng2 (a b : E) : evalE C (.rng2 a b) σ h = kRng2 C b σ (evalE C a σ h) := by rw [evalE]; rfl
@[simp] theorem eEnum (a : E) : evalE C (.enum a) σ h = kEnum (evalE C a σ h) := by rw [evalE]; rfl
@[simp] theorem eZip (a b : E) : evalE C (.zip a b) σ h = kZip C b σ (evalE C a σ h) := by rw [evalE]; rfl
end

/-! ### statements -/
def thenS (C : Ctx) (b : S) (g : G) : G := g.bind fun fl h1 => (match fl with | .nx σ1 => evalS C b σ1 h1 | fl => .ok fl h1)
def kExpr (σ : Sb) (r : R W) : G := r.go σ fun _ h1 => .ok (.nx σ) h1
def kNx (h : Hb) : Option Sb → G
  | some σ1 => .ok (.nx σ1) h
  | none => .no
def kAsg (t : Tg) (σ : Sb) (r : R W) : G := r.go σ fun w h1 => kNx h1 (setT t w σ)
def kPar (is : List Nat) (σ : Sb) (r : R W) : G := r.go σ fun w h1 => (match w with | .tup ws => kNx h1 (setL is ws σ) | _ => .no)
def kAug3 (i : Nat) (σ : Sb) (r : R W) : G := r.go σ fun z h2 => .ok (.nx (σ.set i (some z))) h2
def kAug2 (i : Nat) (op : Op) (x : W) (σ : Sb) (r : R W) : G := r.go σ fun y h1 => kAug3 i σ (inplace op x y h1)
def kAug (C : Ctx) (i : Nat) (op : Op) (e : E) (σ : Sb) (h : Hb) : Option (Option W) → G
  | some (some x) => kAug2 i op x σ (evalE C e σ h)
  | _ => .no
def kSix4 (σ : Sb) (r : R Unit) : G := r.go σ fun _ h4 => .ok (.nx σ) h4
def kSix3 (σ : Sb) (v x : W) (r : R W) : G := r.go σ fun y h3 => kSix4 σ (setIx h3 x y v)
def kSix2 (C : Ctx) (i : E) (σ : Sb) (v : W) (r : R W) : G := r.go σ fun x h2 => kSix3 σ v x (evalE C i σ h2)
def kSix (C : Ctx) (o i : E) (σ : Sb) (r : R W) : G := r.go σ fun v h1 => kSix2 C i σ v (evalE C o σ h1)
def kSa4 (σ : Sb) (x y : W) (r : R W) : G := r.go σ fun u h4 => kSix4 σ (setIx h4 x y u)
def kSa3 (op : Op) (σ : Sb) (x y z : W) (r : R W) : G := r.go σ fun v h3 => kSa4 σ x y (inplace op z v h3)
def kSaB (C : Ctx) (op : Op) (e : E) (σ : Sb) (x y : W) (h : Hb) : Option W → G
  | some z => kSa3 op σ x y z (evalE C e σ h)
  | none => .no
def kSa2 (C : Ctx) (op : Op) (e : E) (σ : Sb) (x : W) (r : R W) : G := r.go σ fun y h2 => kSaB C op e σ x y h2 (getIxL h2 x y)
def kSa (C : Ctx) (i : E) (op : Op) (e : E) (σ : Sb) (r : R W) : G := r.go σ fun x h1 => kSa2 C op e σ x (evalE C i σ h1)
def kIf (C : Ctx) (a b : S) (σ : Sb) (r : R W) : G := r.go σ fun x h1 => (match x with | .bl true => evalS C a σ h1 | .bl false => evalS C b σ h1 | _ => .no)
def kForB (C : Ctx) (t : Tg) (b : S) (σ : Sb) (w : W) (h1 : Hb) : Option (List W) → G
  | some ws => forL (turnF C t b) (fun h' => stays h1 h' w) ws σ h1
  | none => .no
def kFor (C : Ctx) (t : Tg) (b : S) (σ : Sb) (r : R W) : G := r.go σ fun w h1 => kForB C t b σ w h1 (items h1 w)
def kRet (σ : Sb) (r : R W) : G := r.go σ fun w h1 => .ok (.rt w) h1
section
variable (C : Ctx) (σ : Sb) (h : Hb)
@[simp] theorem sSkip : evalS C .skip σ h = .ok (.nx σ) h := by rw [evalS]
@[simp] theorem sSeq (a b : S) : evalS C (.seq a b) σ h = thenS C b (evalS C a σ h) := by rw [evalS]; rfl
@[simp] theorem sExpr (e : E) : evalS C (.expr e) σ h = kExpr σ (evalE C e σ h) := by rw [evalS]; rfl
@[simp] theorem sAsg (t : Tg) (e : E) : evalS C (.asg t e) σ h = kAsg t σ (evalE C e σ h) := by rw [evalS]; rfl
@[simp] theorem sPar (is : List Nat) (e : E) : evalS C (.par is e) σ h = kPar is σ (evalE C e σ h) := by rw [evalS]; rfl
@[simp] theorem sAug (i : Nat) (op : Op) (e : E) : evalS C (.aug i op e) σ h = kAug C i op e σ h σ[i]? := by
  rw [evalS]; cases σ[i]? with
  | none => rfl
  | some o => cases o <;> rfl
@[simp] theorem sSix (o i e : E) : evalS C (.six o i e) σ h = kSix C o i σ (evalE C e σ h) := by rw [evalS]; rfl
@[simp] theorem sSixaug (o i : E) (op : Op) (e : E) : evalS C (.sixaug o i op e) σ h = kSa C i op e σ (evalE C o σ h) := by rw [evalS]; rfl
@[simp] theorem sIte (c : E) (a b : S) : evalS C (.ite c a b) σ h = kIf C a b σ (evalE C c σ h) := by rw [evalS]; rfl
@[simp] theorem sFor (t : Tg) (it : E) (b : S) : evalS C (.for t it b) σ h = kFor C t b σ (evalE C it σ h) := by rw [evalS_for]; rfl
theorem sWhile (c : E) (b : S) : evalS C (.while c b) σ h = whileL (fun σ1 h1 => evalE C c σ1 h1) (fun σ1 h1 => evalS C b σ1 h1) C.fuel σ h := by rw [evalS]
@[simp] theorem sRet (e : E) : evalS C (.ret e) σ h = kRet σ (evalE C e σ h) := by rw [evalS]; rfl
@[simp] theorem sBrk : evalS C .brk σ h = .ok (.bk σ) h := by rw [evalS]
@[simp] theorem sCont : evalS C .cont σ h = .ok (.ct σ) h := by rw [evalS]
end

/-! ### steps -/
section
variable {C : Ctx} {σ : Sb} {h : Hb} {a b c e lo hi es kes elt : E} {x y z w : W} {xs ys ws vs : List W} {op : Op} {o1 o2 : Cm} {t : Tg} {own is : List Nat}
@[simp] theorem small_eq (n : Nat) : small n = decide (n ≤ 16777216) := rfl
@[simp] theorem kSlot_some : kSlot (some (some w)) h = .ok w h := rfl
@[simp] theorem ofB_some {k : Bool} : R.ofB (some k) h = .ok (.bl k) h := rfl
@[simp] theorem ofO_some {α : Type} {k : α} : R.ofO (some k) h = .ok k h := rfl
@[simp] theorem kBin_ok : kBin C op b σ (.ok x h) = kBin2 op x (evalE C b σ h) := rfl
@[simp] theorem kBin2_ok : kBin2 op x (.ok y h) = binop op x y h := rfl
@[simp] theorem kNeg_ok {i : Int} : kNeg (.ok (.int i) h) = .ok (.int (-i)) h := rfl
@[simp] theorem kCmp_ok : kCmp C o1 b σ (.ok x h) = kCmp2 o1 x (evalE C b σ h) := rfl
@[simp] theorem kCmp2_ok : kCmp2 o1 x (.ok y h) = R.ofB (cmpop o1 x y h) h := rfl
@[simp] theorem kChn_ok : kChn C o1 o2 b c σ (.ok x h) = kChn2 C o1 o2 c σ x (evalE C b σ h) := rfl
@[simp] theorem kChn2_ok : kChn2 C o1 o2 c σ x (.ok y h) = kChnB C o2 c σ y h (cmpop o1 x y h) := rfl
@[simp] theorem kChnB_t : kChnB C o2 c σ y h (some true) = kChn3 o2 y (evalE C c σ h) := rfl
@[simp] theorem kChnB_f : kChnB C o2 c σ y h (some false) = .ok (.bl false) h := rfl
@[simp] theorem kChn3_ok : kChn3 o2 y (.ok z h) = R.ofB (cmpop o2 y z h) h := rfl
@[simp] theorem kAnd_ok : kAnd C b σ (.ok x h) = kAnd2 C b σ x h (truth h x) := rfl
@[simp] theorem kAnd2_t : kAnd2 C b σ x h (some true) = evalE C b σ h := rfl
@[simp] theorem kAnd2_f : kAnd2 C b σ x h (some false) = .ok x h := rfl
@[simp] theorem kOr_ok : kOr C b σ (.ok x h) = kOr2 C b σ x h (truth h x) := rfl
@[simp] theorem kOr2_t : kOr2 C b σ x h (some true) = .ok x h := rfl
@[simp] theorem kOr2_f : kOr2 C b σ x h (some false) = evalE C b σ h := rfl
@[simp] theorem kTand_t : kTand C b σ (.ok (.bl true) h) = evalE C b σ h := rfl
@[simp] theorem kTand_f : kTand C b σ (.ok (.bl false) h) = .ok (.bl false) h := rfl
@[simp] theorem kTor_t : kTor C b σ (.ok (.bl true) h) = .ok (.bl true) h := rfl
@[simp] theorem kTor_f : kTor C b σ (.ok (.bl false) h) = evalE C b σ h := rfl
@[simp] theorem kTnot_ok {k : Bool} : kTnot (.ok (.bl k) h) = .ok (.bl (!k)) h := rfl
@[simp] theorem kTru_ok : kTru (.ok x h) = R.ofB (truth h x) h := rfl
@[simp] theorem kIte_t : kIte C a b σ (.ok (.bl true) h) = evalE C a σ h := rfl
@[simp] theorem kIte_f : kIte C a b σ (.ok (.bl false) h) = evalE C b σ h := rfl
@[simp] theorem kCons_ok : kCons C e σ (.ok x h) = kCons2 x (evalE C e σ h) := rfl
@[simp] theorem kCons2_ok : kCons2 x (.ok (.tup ys) h) = .ok (.tup (x :: ys)) h := rfl
@[simp] theorem kStar_ok : kStar C e σ (.ok x h) = kStarB C e σ h (items h x) := rfl
@[simp] theorem kStarB_some : kStarB C e σ h (some xs) = kStar2 xs (evalE C e σ h) := rfl
@[simp] theorem kStar2_ok : kStar2 xs (.ok (.tup ys) h) = if small (xs.length + ys.length) then .ok (.tup (xs ++ ys)) h else .no := rfl
@[simp] theorem kTup_ok : kTup (.ok (.tup xs) h) = if small xs.length then .ok (.tup xs) h else .no := rfl
@[simp] theorem kLst_ok : kLst (.ok (.tup xs) h) = if small xs.length then .ok (.lit xs) h else .no := rfl
@[simp] theorem asNew_ok : asNew (.ok (.lit xs) h) = .ok (.ref h.length) (h ++ [.lst xs]) := rfl
@[simp] theorem kIx_ok : kIx C e σ (.ok x h) = kIx2 x (evalE C e σ h) := rfl
@[simp] theorem kIx2_ok : kIx2 x (.ok y h) = R.ofO (getIx h x y) h := rfl
@[simp] theorem kCut_ok : kCut C lo hi σ (.ok x h) = kCut2 C lo hi σ x (evalE C lo σ h) := rfl
@[simp] theorem kCut2_ok : kCut2 C lo hi σ x (.ok y h) = kCutL C hi σ x h (optP lo y) := rfl
@[simp] theorem kCutL_some {l : Option Int} : kCutL C hi σ x h (some l) = kCut3 hi x l (evalE C hi σ h) := rfl
@[simp] theorem kCut3_ok {l : Option Int} : kCut3 hi x l (.ok z h) = kCutU x l h (optP hi z) := rfl
@[simp] theorem kCutU_some {l u : Option Int} : kCutU x l h (some u) = R.ofO (getCut h x l u) h := rfl
@[simp] theorem optP_non : optP .non x = some none := rfl
@[simp] theorem optP_int {i j : Int} : optP (.int i) (.int j) = some (some j) := rfl
@[simp] theorem optP_neg {j : Int} : optP (.neg a) (.int j) = some (some j) := rfl
@[simp] theorem optP_slot {i : Nat} {j : Int} : optP (.slot i) (.int j) = some (some j) := rfl
@[simp] theorem optP_bin {j : Int} : optP (.bin op a b) (.int j) = some (some j) := rfl
@[simp] theorem optP_ix {j : Int} : optP (.ix a b) (.int j) = some (some j) := rfl
@[simp] theorem optP_bi {f : Bi} {j : Int} : optP (.bi f a) (.int j) = some (some j) := rfl
@[simp] theorem optP_call {f : Str} {ks : List Str} {j : Int} : optP (.call f a ks b) (.int j) = some (some j) := rfl
@[simp] theorem kBi_ok {f : Bi} : kBi f (.ok (.tup xs) h) = R.ofO (builtin f xs h) h := rfl
@[simp] theorem kMt_ok {m : Mt} : kMt C m es σ (.ok x h) = kMtB C m es σ x h (recv m h x) := rfl
@[simp] theorem kMtB_t {m : Mt} : kMtB C m es σ x h true = kMt2 m x (evalE C es σ h) := rfl
@[simp] theorem kMt2_ok {m : Mt} : kMt2 m x (.ok (.tup xs) h) = method m x xs h := rfl
@[simp] theorem kCall_ok {f : Str} {ks : List Str} : kCall C f ks kes σ (.ok (.tup xs) h) = kCall2 C f xs ks (evalE C kes σ h) := rfl
@[simp] theorem kCall2_ok {f : Str} {ks : List Str} : kCall2 C f xs ks (.ok (.tup vs) h) = C.call f xs (ks.zip vs) h := rfl
@[simp] theorem kCm_ok : kCm C elt t c own σ (.ok w h) = kCmB C elt t c own σ w h (items h w) := rfl
@[simp] theorem kCmB_some : kCmB C elt t c own σ w h (some ws) = kLit (forC (turnC C elt t c own σ) (fun h' => stays h h' w) ws [] h) := rfl
@[simp] theorem kLit_ok : kLit (.ok vs h) = .ok (.lit vs) h := rfl
theorem kRng_ok {j : Int} : kRng (.ok (.int j) h) = if decide (-(2 ^ 61) ≤ j) && decide (j < 2 ^ 61) then .ok (rngW 0 j.toNat) h else .no := rfl
@[simp] theorem kRng2_ok : kRng2 C b σ (.ok x h) = kRng2b x (evalE C b σ h) := rfl
theorem kRng2b_ok {i j : Int} : kRng2b (.int i) (.ok (.int j) h) = if (decide (-(2 ^ 61) ≤ i) && decide (i < 2 ^ 61)) && (decide (-(2 ^ 61) ≤ j) && decide (j < 2 ^ 61)) then .ok (rngW i (j - i).toNat) h else .no := rfl
@[simp] theorem kEnum_tup : kEnum (.ok (.tup xs) h) = .ok (enumW xs) h := rfl
@[simp] theorem kEnum_lit : kEnum (.ok (.lit xs) h) = .ok (enumW xs) h := rfl
@[simp] theorem kEnum_rol : kEnum (.ok (.rol xs) h) = .ok (enumW xs) h := rfl
@[simp] theorem kZip_ok : kZip C b σ (.ok x h) = kZip2 x (evalE C b σ h) := rfl
def kLz2 (x : W) (r : R W) : R W := r.bind fun y h2 => (match x, y with
    | .tup xs, .tup ys => .ok (.lit ((xs.zip ys).map fun p => .tup [p.1, p.2])) h2
    | _, _ => .no)
def kLz (C : Ctx) (b : E) (σ : Sb) (r : R W) : R W := r.bind fun x h1 => kLz2 x (evalE C b σ h1)
@[simp] theorem eLz {C : Ctx} {σ : Sb} {h : Hb} (a b : E) : evalE C (.lzip a b) σ h = kLz C b σ (evalE C a σ h) := by rw [evalE]; rfl
@[simp] theorem kLz_ok {C : Ctx} {b : E} {σ : Sb} {x : W} {h : Hb} : kLz C b σ (.ok x h) = kLz2 x (evalE C b σ h) := rfl
@[simp] theorem kLz2_tup {xs ys : List W} {h : Hb} : kLz2 (.tup xs) (.ok (.tup ys) h) = .ok (.lit ((xs.zip ys).map fun p => .tup [p.1, p.2])) h := rfl
@[simp] theorem kZip2_tup : kZip2 (.tup xs) (.ok (.tup ys) h) = .ok (zipW xs ys) h := rfl
@[simp] theorem kZip2_lit : kZip2 (.lit xs) (.ok (.lit ys) h) = .ok (zipW xs ys) h := rfl
@[simp] theorem thenS_nx {k : S} : thenS C k (.ok (.nx σ) h) = evalS C k σ h := rfl
@[simp] theorem thenS_rt {k : S} : thenS C k (.ok (.rt w) h) = .ok (.rt w) h := rfl
@[simp] theorem thenS_bk {k : S} : thenS C k (.ok (.bk σ) h) = .ok (.bk σ) h := rfl
@[simp] theorem thenS_ct {k : S} : thenS C k (.ok (.ct σ) h) = .ok (.ct σ) h := rfl
@[simp] theorem kExpr_ok : kExpr σ (.ok x h) = .ok (.nx σ) h := rfl
@[simp] theorem kNx_some : kNx h (some σ) = .ok (.nx σ) h := rfl
@[simp] theorem kAsg_ok : kAsg t σ (.ok w h) = kNx h (setT t w σ) := rfl
@[simp] theorem kPar_ok : kPar is σ (.ok (.tup ws) h) = kNx h (setL is ws σ) := rfl
@[simp] theorem kAug_some {i : Nat} : kAug C i op e σ h (some (some x)) = kAug2 i op x σ (evalE C e σ h) := rfl
@[simp] theorem kAug2_ok {i : Nat} : kAug2 i op x σ (.ok y h) = kAug3 i σ (inplace op x y h) := rfl
@[simp] theorem kAug3_ok {i : Nat} : kAug3 i σ (.ok z h) = .ok (.nx (σ.set i (some z))) h := rfl
@[simp] theorem kSix_ok : kSix C a b σ (.ok w h) = kSix2 C b σ w (evalE C a σ h) := rfl
@[simp] theorem kSix2_ok : kSix2 C b σ w (.ok x h) = kSix3 σ w x (evalE C b σ h) := rfl
@[simp] theorem kSix3_ok : kSix3 σ w x (.ok y h) = kSix4 σ (setIx h x y w) := rfl
@[simp] theorem kSix4_ok {u : Unit} : kSix4 σ (.ok u h) = .ok (.nx σ) h := rfl
@[simp] theorem kSa_ok : kSa C b op e σ (.ok x h) = kSa2 C op e σ x (evalE C b σ h) := rfl
@[simp] theorem kSa2_ok : kSa2 C op e σ x (.ok y h) = kSaB C op e σ x y h (getIxL h x y) := rfl
@[simp] theorem kSaB_some : kSaB C op e σ x y h (some z) = kSa3 op σ x y z (evalE C e σ h) := rfl
@[simp] theorem kSa3_ok : kSa3 op σ x y z (.ok w h) = kSa4 σ x y (inplace op z w h) := rfl
@[simp] theorem kSa4_ok : kSa4 σ x y (.ok w h) = kSix4 σ (setIx h x y w) := rfl
@[simp] theorem kIf_t {k l : S} : kIf C k l σ (.ok (.bl true) h) = evalS C k σ h := rfl
@[simp] theorem kIf_f {k l : S} : kIf C k l σ (.ok (.bl false) h) = evalS C l σ h := rfl
@[simp] theorem kFor_ok {k : S} : kFor C t k σ (.ok w h) = kForB C t k σ w h (items h w) := rfl
@[simp] theorem kForB_some {k : S} : kForB C t k σ w h (some ws) = forL (turnF C t k) (fun h' => stays h h' w) ws σ h := rfl
@[simp] theorem kRet_ok : kRet σ (.ok w h) = .ok (.rt w) h := rfl
end
/-- what a function answers -/
def kFin : G → R W
  | .ok (.rt w) h1 => .ok w h1
  | .ok (.nx _) h1 => .ok .non h1
  | .ex x _ h1 => .ex x h1
  | _ => .no
@[simp] theorem kFin_rt {w : W} {h : Hb} : kFin (.ok (.rt w) h) = .ok w h := rfl
@[simp] theorem kFin_nx {σ : Sb} {h : Hb} : kFin (.ok (.nx σ) h) = .ok .non h := rfl
theorem stepF_of {C : Ctx} {D : FD} {xs : List W} {kw : List (Str × W)} {h : Hb} {σ : Sb} (e : bindA D xs kw = some σ) : stepF C D xs kw h = kFin (evalS C D.body σ h) := by
  unfold stepF; rw [e]; rfl
theorem runF_step {tb : List Df} {con : List (Str × W)} {fuel k : Nat} {x : Str} {D : FD} (e : (prgOf tb con).fns.lookup x = some D) (xs : List W) (kw : List (Str × W)) (h : Hb) :
    runF (prgOf tb con) fuel (k + 1) x xs kw h = stepF { call := runF (prgOf tb con) fuel k, glob := fun y => (prgOf tb con).con.lookup y, fuel := fuel } D xs kw h := by
  rw [runF, e]; rfl
/-! ### values -/
section
variable {h : Hb} {i j : Int} {s t : Str} {p q : Bool} {xs ys : List W}
@[simp] theorem add_ii : binop .add (.int i) (.int j) h = .ok (.int (i + j)) h := rfl
@[simp] theorem sub_ii : binop .sub (.int i) (.int j) h = .ok (.int (i - j)) h := rfl
theorem mul_l (c : -(2 ^ 64) < i ∧ i < 2 ^ 64) : binop .mul (.int i) (.int j) h = .ok (.int (i * j)) h := by
  exact if_pos (by simp only [Bool.or_eq_true, Bool.and_eq_true, decide_eq_true_eq]; exact .inl c)
theorem mul_r (c : -(2 ^ 64) < j ∧ j < 2 ^ 64) : binop .mul (.int i) (.int j) h = .ok (.int (i * j)) h := by
  exact if_pos (by simp only [Bool.or_eq_true, Bool.and_eq_true, decide_eq_true_eq]; exact .inr c)
theorem fdv_ii (c : 0 < j ∧ j < 1073741824) : binop .fdv (.int i) (.int j) h = .ok (.int (i / j)) h := by simp [binop, c.1, c.2]
theorem mod_ii (c : 0 < j) : binop .mod (.int i) (.int j) h = .ok (.int (i % j)) h := by simp [binop, c]
theorem pow_ii (c : 0 ≤ j ∧ j ≤ 1000000 ∧ i.natAbs < 2 ^ 64) : binop .pow (.int i) (.int j) h = .ok (.int (i ^ j.toNat)) h := by simp only [binop, c.1, c.2.1, c.2.2]; simp
theorem add_ss (c : s.length + t.length ≤ 16777216) : binop .add (.str s) (.str t) h = .ok (.str (s ++ t)) h := by simp [binop, small, c]
theorem add_tt (c : xs.length + ys.length ≤ 16777216) : binop .add (.tup xs) (.tup ys) h = .ok (.tup (xs ++ ys)) h := by simp [binop, small, c]
theorem add_ll (c : xs.length + ys.length ≤ 16777216) : binop .add (.lit xs) (.lit ys) h = .ok (.lit (xs ++ ys)) h := by simp [binop, small, c]
@[simp] theorem lt_ii : cmpop .lt (.int i) (.int j) h = some (decide (i < j)) := rfl
@[simp] theorem le_ii : cmpop .le (.int i) (.int j) h = some (decide (i ≤ j)) := rfl
@[simp] theorem gt_ii : cmpop .gt (.int i) (.int j) h = some (decide (j < i)) := rfl
@[simp] theorem ge_ii : cmpop .ge (.int i) (.int j) h = some (decide (j ≤ i)) := rfl
@[simp] theorem le_bb : cmpop .le (.bl p) (.bl q) h = some (!p || q) := rfl
@[simp] theorem is_n {a : W} : cmpop .is a .non h = some a.isN := by cases a <;> rfl
@[simp] theorem isn_n {a : W} : cmpop .isn a .non h = some (!a.isN) := by cases a <;> rfl
@[simp] theorem is_bb : cmpop .is (.bl p) (.bl q) h = some (decide (p = q)) := rfl
@[simp] theorem isn_bb : cmpop .isn (.bl p) (.bl q) h = some (!decide (p = q)) := rfl
@[simp] theorem eq_v {a b : W} : cmpop .eq a b h = eqD h a b := by cases a <;> cases b <;> rfl
@[simp] theorem ne_v {a b : W} : cmpop .ne a b h = (eqD h a b).map (!·) := by cases a <;> cases b <;> rfl
@[simp] theorem in_v {a b : W} : cmpop .inn a b h = isIn h a b := by cases a <;> cases b <;> rfl
@[simp] theorem nin_v {a b : W} : cmpop .nin a b h = (isIn h a b).map (!·) := by cases a <;> cases b <;> rfl
@[simp] theorem truth_b : truth h (.bl p) = some p := rfl
@[simp] theorem truth_i : truth h (.int i) = some (i != 0) := rfl
@[simp] theorem truth_n : truth h .non = some false := rfl
@[simp] theorem truth_t : truth h (.tup xs) = some (!xs.isEmpty) := rfl
@[simp] theorem truth_l : truth h (.lit xs) = some (!xs.isEmpty) := rfl
@[simp] theorem items_t : items h (.tup xs) = some xs := rfl
@[simp] theorem items_l : items h (.lit xs) = some xs := rfl
@[simp] theorem items_r : items h (.rol xs) = some xs := rfl
@[simp] theorem itemsL_l : itemsL h (.lit xs) = some xs := rfl
@[simp] theorem itemsL_r : itemsL h (.rol xs) = some xs := rfl
@[simp] theorem getIx_t : getIx h (.tup xs) (.int i) = (L2.ixN xs.length i).bind fun j => xs[j]? := rfl
@[simp] theorem getIx_l : getIx h (.lit xs) (.int i) = (L2.ixN xs.length i).bind fun j => xs[j]? := rfl
@[simp] theorem getIx_r : getIx h (.rol xs) (.int i) = (L2.ixN xs.length i).bind fun j => xs[j]? := rfl
theorem getIx_ref {n : Nat} (e : h[n]? = some (.lst xs)) : getIx h (.ref n) (.int i) = (L2.ixN xs.length i).bind fun j => xs[j]? := by simp only [getIx, e]
@[simp] theorem len_t : builtin .len [.tup xs] h = some (.int xs.length) := rfl
@[simp] theorem len_l : builtin .len [.lit xs] h = some (.int xs.length) := rfl
@[simp] theorem int_i : builtin .int [.int i] h = some (.int i) := rfl
@[simp] theorem int_b : builtin .int [.bl p] h = some (.int (if p then 1 else 0)) := rfl
@[simp] theorem abs_i : builtin .abs [.int i] h = some (.int (if i < 0 then -i else i)) := rfl
@[simp] theorem tuple_t : builtin .tuple [.tup xs] h = some (.tup xs) := rfl
@[simp] theorem tuple_l : builtin .tuple [.lit xs] h = some (.tup xs) := rfl
@[simp] theorem list_t : builtin .list [.tup xs] h = some (.lit xs) := rfl
@[simp] theorem list_l : builtin .list [.lit xs] h = some (.lit xs) := rfl
@[simp] theorem list_r : builtin .list [.rol xs] h = some (.lit xs) := rfl
@[simp] theorem bool_b : builtin .bool [.bl p] h = some (.bl p) := rfl
@[simp] theorem max_ii : builtin .max [.int i, .int j] h = some (.int (if j > i then j else i)) := rfl
@[simp] theorem min_ii : builtin .min [.int i, .int j] h = some (.int (if j < i then j else i)) := rfl
@[simp] theorem snap_b : snap h (.bl p) = .bl p := rfl
@[simp] theorem snap_i : snap h (.int i) = .int i := rfl
@[simp] theorem snap_s : snap h (.str s) = .str s := rfl
@[simp] theorem snap_n : snap h .non = .non := rfl
@[simp] theorem snap_t : snap h (.tup xs) = .tup xs := rfl
@[simp] theorem snap_l : snap h (.lit xs) = .lit xs := rfl
@[simp] theorem eq_ss : eqD h (.str s) (.str t) = some (decide (s = t)) := rfl
@[simp] theorem eq_ii : eqD h (.int i) (.int j) = some (decide (i = j)) := rfl
@[simp] theorem eq_bb : eqD h (.bl p) (.bl q) = some (decide (p = q)) := rfl
end
end Y
/-! Z1: the pen of the laws: draws. -/
namespace Y
open PySem

/-- the pen: the cells, the place, what is left of a great cell -/
structure Pn where
  cs : List Int
  at_ : Int
  gr : Int
def Pn.o (P : Pn) : O := .lst [.lit (P.cs.map .int), .int P.at_, .int P.gr]
/-- at most n draws behind it -/
def Pn.ok (P : Pn) (n : Nat) : Prop := P.cs.length ≤ 63 ∧ 0 ≤ P.at_ ∧ P.at_ ≤ n ∧ 0 ≤ P.gr
theorem Pn.ok.mono {P : Pn} {m n : Nat} (h : P.ok m) (l : m ≤ n) : P.ok n := ⟨h.1, h.2.1, by have := h.2.2.1; omega, h.2.2.2⟩
theorem ixN_nat {n k : Nat} (h : k < n) : L2.ixN n (k : Int) = some k := by
  unfold L2.ixN
  rw [if_pos (by omega), if_pos (by omega)]
  simp
theorem ixN_int {n : Nat} {i : Int} (h0 : 0 ≤ i) (h : i < n) : L2.ixN n i = some i.toNat := by
  unfold L2.ixN
  rw [if_pos h0, if_pos h]
theorem pds_ints : ∀ cs : List Int, W.pds (cs.map .int) = some (cs.map .int)
  | [] => rfl
  | c :: cs => by simp [W.pds, W.pd, pds_ints cs]
theorem lay_ints : ∀ cs : List Int, PyData.canLayAll0 (cs.map .int) = true
  | [] => by simp [PyData.canLayAll0]
  | c :: cs => by simp [PyData.canLayAll0, PyData.canLay0, lay_ints cs]
theorem depth_ints : ∀ cs : List Int, PyData.depthAll (cs.map .int) ≤ 1
  | [] => by simp [PyData.depthAll]
  | c :: cs => by
    have := depth_ints cs
    simp [PyData.depthAll, PyData.depth]
    omega
theorem shaped_ints (cs : List Int) : SeqAt.shaped (.list (cs.map .int)) = true := by
  have h1 := lay_ints cs
  have h2 := depth_ints cs
  simp only [SeqAt.shaped, PyData.canLay0, h1, PyData.depth, Bool.true_and, decide_eq_true_eq]
  exact decide_eq_true (by omega)
theorem ne_nil_ints (h : Hb) (cs : List Int) : eqD h (.lit (cs.map .int)) (.lit []) = some cs.isEmpty := by
  show eqG h _ _ = _
  have h0 : SeqAt.shaped (.list ([] : List PyData)) = true := shaped_ints []
  simp only [eqG, snap, W.pd, pds_ints, W.pds, shaped_ints, h0, Bool.and_self, if_true]
  cases cs <;> simp [PyData.eqv, PyData.eqvAll]

/-! ### the laws' draw -/
structure Dc where
  A : Int
  B : Int
  M0 : Int
  B1 : Int
  C1 : Int
  M1 : Int
  D : Int
  E1 : Int
  F : Int
  M2 : Int
def Dc.mix (c : Dc) : S :=
    .seq (.asg (.nm 6) (.bin .mod (.bi .int (.cons (.bin .pow (.bin .add (.bin .add (.bin .mod (.bi .int (.cons (.slot 4) .nil)) (.int c.M0)) (.bin .mul (.int c.B1) (.slot 3))) (.int c.C1)) (.int 5)) .nil)) (.int c.M1)))
    (.seq (.asg (.nm 6) (.bin .mod (.bi .int (.cons (.bin .pow (.bin .add (.bin .add (.bin .mul (.slot 6) (.bin .add (.bin .mul (.int 2) (.slot 3)) (.int c.D))) (.bin .mul (.bin .mul (.int c.E1) (.slot 3)) (.slot 3))) (.int c.F)) (.int 3)) .nil)) (.int c.M2)))
    (.seq (.ret (.bin .mod (.bi .int (.cons (.bin .fdv (.slot 6) (.int 32)) .nil)) (.slot 1)))
    .skip))
def Dc.great (c : Dc) : S :=
    .seq (.ite (.tand (.cmp .lt (.slot 3) (.bi .len (.cons (.ix (.slot 0) (.int 0)) .nil))) (.cmp .ge (.bi .abs (.cons (.slot 4) .nil)) (.bin .pow (.int 10) (.int 18))))
    (.seq (.asg (.nm 5) (.bin .add (.bin .mul (.int 2) (.bin .sub (.bi .abs (.cons (.slot 4) .nil)) (.bin .pow (.int 10) (.int 18)))) (.bi .int (.cons (.cmp .lt (.slot 4) (.int 0)) .nil))))
    (.seq (.six (.slot 0) (.int 2) (.bin .fdv (.bi .int (.cons (.slot 5) .nil)) (.slot 1)))
    (.seq (.ret (.bin .mod (.bi .int (.cons (.slot 5) .nil)) (.slot 1)))
    .skip)))
    .skip)
    c.mix
def Dc.fd (c : Dc) (ps : List Str) : FD := { ps := ps, n := 7, body :=
    (.seq (.ite (.cmp .gt (.ix (.slot 0) (.int 2)) (.int 0))
    (.seq (.asg (.nm 2) (.bin .mod (.bi .int (.cons (.ix (.slot 0) (.int 2)) .nil)) (.slot 1)))
    (.seq (.six (.slot 0) (.int 2) (.bin .fdv (.bi .int (.cons (.ix (.slot 0) (.int 2)) .nil)) (.slot 1)))
    (.seq (.ret (.slot 2))
    .skip)))
    .skip)
    (.seq (.asg (.nm 3) (.ix (.slot 0) (.int 1)))
    (.seq (.six (.slot 0) (.int 1) (.bin .add (.slot 3) (.int 1)))
    (.seq (.asg (.nm 4) (.bin .add (.bin .mul (.int c.A) (.slot 3)) (.int c.B)))
    (.seq (.ite (.cmp .ne (.ix (.slot 0) (.int 0)) (.lst .nil))
    (.seq (.asg (.nm 4) (.ix (.ix (.slot 0) (.int 0)) (.bin .mod (.bi .int (.cons (.slot 3) .nil)) (.bi .len (.cons (.ix (.slot 0) (.int 0)) .nil)))))
    .skip)
    .skip)
    c.great))))) }
/-- the constants' size -/
structure Dc.ok (c : Dc) : Prop where
  A : -(2 ^ 64) < c.A ∧ c.A < 2 ^ 64
  M0 : 0 < c.M0 ∧ c.M0 < 2 ^ 31
  B1 : 0 ≤ c.B1 ∧ c.B1 < 2 ^ 20
  C1 : 0 ≤ c.C1 ∧ c.C1 < 2 ^ 20
  M1 : 0 < c.M1 ∧ c.M1 < 2 ^ 31
  D : 0 ≤ c.D ∧ c.D < 2 ^ 20
  E1 : 0 ≤ c.E1 ∧ c.E1 < 2 ^ 20
  F : 0 ≤ c.F ∧ c.F < 2 ^ 20
  M2 : 0 < c.M2 ∧ c.M2 < 2 ^ 31
theorem mulb {a b A B : Int} (h1 : 0 ≤ a) (h2 : a < A) (h3 : 0 ≤ b) (h4 : b ≤ B) : 0 ≤ a * b ∧ a * b ≤ A * B := ⟨Int.mul_nonneg h1 h3, Int.mul_le_mul (by omega) h4 h3 (by omega)⟩
theorem Dc.mix_ok (C : Ctx) (c : Dc) (hc : c.ok) {cs : List Int} {at_ cell m : Int} {n : Nat} {r : Hb} {s2 s5 s6 : Option W} (h1 : cs.length ≤ 63) (h2 : 0 ≤ at_) (h3 : at_ ≤ n) (hn : n ≤ 100000) (hm : 0 < m) :
    ∃ k P', 0 ≤ k ∧ k < m ∧ Pn.ok P' (n + 1) ∧ kFin (evalS C c.mix [some (.ref 0), some (.int m), s2, some (.int at_), some (.int cell), s5, s6] (Pn.o ⟨cs, at_ + 1, 0⟩ :: r)) = .ok (.int k) (P'.o :: r) := by
  obtain ⟨A, M0, B1, C1, M1, D, E1, F, M2⟩ := hc
  obtain ⟨m1, hm1⟩ : ∃ m1, m1 = (cell % c.M0 + c.B1 * at_ + c.C1) ^ 5 % c.M1 := ⟨_, rfl⟩
  have b0 : 0 ≤ cell % c.M0 := Int.emod_nonneg _ (by omega)
  have b0' : cell % c.M0 < c.M0 := Int.emod_lt_of_pos _ M0.1
  have b1 : 0 ≤ m1 := by rw [hm1]; exact Int.emod_nonneg _ (by omega)
  have b2 : m1 < c.M1 := by rw [hm1]; exact Int.emod_lt_of_pos _ M1.1
  obtain ⟨m2, hm2⟩ : ∃ m2, m2 = (m1 * (2 * at_ + c.D) + c.E1 * at_ * at_ + c.F) ^ 3 % c.M2 := ⟨_, rfl⟩
  have u1 := mulb B1.1 B1.2 h2 (show at_ ≤ 100000 by omega)
  have u2 := mulb b1 (show m1 < 2 ^ 31 by omega) (show 0 ≤ 2 * at_ + c.D by omega) (show 2 * at_ + c.D ≤ 2000000 by omega)
  have u3 := mulb E1.1 E1.2 h2 (show at_ ≤ 100000 by omega)
  have u4 := mulb u3.1 (show c.E1 * at_ < 2 ^ 37 by omega) h2 (show at_ ≤ 100000 by omega)
  have w1 : (cell % c.M0 + c.B1 * at_ + c.C1).natAbs < 2 ^ 64 := by omega
  have w2 : (m1 * (2 * at_ + c.D) + c.E1 * at_ * at_ + c.F).natAbs < 2 ^ 64 := by omega
  refine ⟨m2 / 32 % m, ⟨cs, at_ + 1, 0⟩, Int.emod_nonneg _ (by omega), Int.emod_lt_of_pos _ hm, ⟨h1, by simp only; omega, by simp only; omega, by simp only; omega⟩, ?_⟩
  unfold Dc.mix
  simp [L2.ixN, setT, mod_ii M0.1, mod_ii M1.1, mod_ii M2.1, fdv_ii, mul_l, mul_l (i := c.B1) ⟨by omega, by omega⟩, pow_ii (j := 5) ⟨by decide, by decide, w1⟩, ← hm1, mul_l (i := m1) ⟨by omega, by omega⟩, mul_l (i := c.E1) ⟨by omega, by omega⟩, mul_l (i := c.E1 * at_) ⟨by omega, by omega⟩, pow_ii (j := 3) ⟨by decide, by decide, w2⟩, ← hm2, mod_ii hm]
theorem Dc.great_ok (C : Ctx) (c : Dc) (hc : c.ok) {cs : List Int} {at_ cell m : Int} {n : Nat} {r : Hb} {s2 s5 s6 : Option W} (h1 : cs.length ≤ 63) (h2 : 0 ≤ at_) (h3 : at_ ≤ n) (hn : n ≤ 100000) (hm : 0 < m) (hm2 : m < 1073741824) :
    ∃ k P', 0 ≤ k ∧ k < m ∧ Pn.ok P' (n + 1) ∧ kFin (evalS C c.great [some (.ref 0), some (.int m), s2, some (.int at_), some (.int cell), s5, s6] (Pn.o ⟨cs, at_ + 1, 0⟩ :: r)) = .ok (.int k) (P'.o :: r) := by
  by_cases q1 : at_ < (cs.length : Int)
  · obtain ⟨ab, hab⟩ : ∃ ab, ab = (if cell < 0 then -cell else cell) := ⟨_, rfl⟩
    by_cases q2 : (10 : Int) ^ 18 ≤ ab
    · obtain ⟨g, hg⟩ : ∃ g, g = 2 * (ab - 10 ^ 18) + (if cell < 0 then 1 else 0) := ⟨_, rfl⟩
      have g0 : 0 ≤ g := by rw [hg]; split <;> omega
      refine ⟨g % m, ⟨cs, at_ + 1, g / m⟩, Int.emod_nonneg _ (by omega), Int.emod_lt_of_pos _ hm, ⟨h1, by simp only; omega, by simp only; omega, Int.ediv_nonneg g0 (by omega)⟩, ?_⟩
      have hg' : 2 * (ab - 1000000000000000000) + (if cell < 0 then 1 else 0) = g := by rw [hg]; rfl
      have q2' : (1000000000000000000 : Int) ≤ ab := q2
      unfold Dc.great
      simp [Pn.o, getIx, L2.ixN, setT, setIx, q1, mul_l, pow_ii, ← hab, q2', hg', fdv_ii ⟨hm, hm2⟩, mod_ii hm]
    · have q2' : ¬ (1000000000000000000 : Int) ≤ ab := q2
      obtain ⟨k, P', a1, a2, a3, a4⟩ := Dc.mix_ok C c hc (cs := cs) (at_ := at_) (cell := cell) (m := m) (n := n) (r := r) (s2 := s2) (s5 := s5) (s6 := s6) h1 h2 h3 hn hm
      refine ⟨k, P', a1, a2, a3, ?_⟩
      rw [← a4]
      unfold Dc.great
      have e : ∀ x : S, (.seq x c.mix : S) = .seq x c.mix := fun _ => rfl
      obtain ⟨mx, hmx⟩ : ∃ mx, mx = c.mix := ⟨_, rfl⟩
      rw [← hmx]
      simp [Pn.o, getIx, L2.ixN, setT, setIx, q1, mul_l, pow_ii, ← hab, q2']
  · obtain ⟨k, P', a1, a2, a3, a4⟩ := Dc.mix_ok C c hc (cs := cs) (at_ := at_) (cell := cell) (m := m) (n := n) (r := r) (s2 := s2) (s5 := s5) (s6 := s6) h1 h2 h3 hn hm
    refine ⟨k, P', a1, a2, a3, ?_⟩
    rw [← a4]
    unfold Dc.great
    obtain ⟨mx, hmx⟩ : ∃ mx, mx = c.mix := ⟨_, rfl⟩
    rw [← hmx]
    simp [Pn.o, getIx, L2.ixN, setT, setIx, q1]
theorem Dc.draw_ok (C : Ctx) (c : Dc) (hc : c.ok) {a b : Str} (P : Pn) {n : Nat} {m : Int} {r : Hb} (hP : P.ok n) (hn : n ≤ 100000) (hm : 0 < m) (hm2 : m < 1073741824) :
    ∃ k P', 0 ≤ k ∧ k < m ∧ Pn.ok P' (n + 1) ∧ stepF C (c.fd [a, b]) [.ref 0, .int m] [] (P.o :: r) = .ok (.int k) (P'.o :: r) := by
  obtain ⟨cs, at_, gr⟩ := P
  obtain ⟨h1, h2, h3, h4⟩ := hP
  simp only at h1 h2 h3 h4
  rw [stepF_of (σ := [some (.ref 0), some (.int m), none, none, none, none, none]) rfl]
  by_cases hg : 0 < gr
  · refine ⟨gr % m, ⟨cs, at_, gr / m⟩, Int.emod_nonneg _ (by omega), Int.emod_lt_of_pos _ hm, ⟨h1, h2, by simp only; omega, Int.ediv_nonneg h4 (by omega)⟩, ?_⟩
    unfold Dc.fd
    simp [Pn.o, getIx, L2.ixN, hg, setT, mod_ii hm, fdv_ii ⟨hm, hm2⟩, setIx]
  · have hg0 : gr = 0 := by omega
    subst hg0
    have go := fun cell => Dc.great_ok C c hc (cs := cs) (at_ := at_) (cell := cell) (m := m) (n := n) (r := r) (s2 := none) (s5 := none) (s6 := none) h1 h2 h3 hn hm hm2
    obtain ⟨gx, hgx⟩ : ∃ gx, gx = c.great := ⟨_, rfl⟩
    unfold Dc.fd
    rw [← hgx] at go ⊢
    have ne := ne_nil_ints (h := (O.lst [W.lit (cs.map .int), .int (at_ + 1), .int 0]) :: r) cs
    cases cs with
    | nil =>
      obtain ⟨k, P', a1, a2, a3, a4⟩ := go (c.A * at_ + c.B)
      refine ⟨k, P', a1, a2, a3, ?_⟩
      rw [← a4]
      simp only [List.map_nil] at ne
      simp [Pn.o, getIx, L2.ixN, setT, setIx, mul_l hc.A, ne]
    | cons x cs =>
      obtain ⟨j, hj⟩ : ∃ j : Nat, at_ % ((cs.length + 1 : Nat) : Int) = (j : Int) := ⟨(at_ % ((cs.length + 1 : Nat) : Int)).toNat, by
        have := Int.emod_nonneg at_ (show ((cs.length + 1 : Nat) : Int) ≠ 0 by omega); omega⟩
      have hj2 : j < cs.length + 1 := by
        have := Int.emod_lt_of_pos at_ (show (0 : Int) < ((cs.length + 1 : Nat) : Int) by omega); omega
      obtain ⟨cell, hcell⟩ : ∃ cell, ((x :: cs).map W.int)[j]? = some (.int cell) := by
        rw [List.getElem?_map]
        exact ⟨(x :: cs)[j], by rw [List.getElem?_eq_getElem (by simpa using hj2)]; rfl⟩
      obtain ⟨k, P', a1, a2, a3, a4⟩ := go cell
      refine ⟨k, P', a1, a2, a3, ?_⟩
      rw [← a4]
      have hj' : at_ % ((cs.length : Int) + 1) = (j : Int) := by rw [← hj]; congr 1
      simp only [List.map_cons] at ne hcell
      have hj3 : (j : Int) < (cs.length : Int) + 1 := by omega
      simp [Pn.o, getIx, L2.ixN, setT, setIx, mul_l hc.A, ne, mod_ii (i := at_) (j := (cs.length : Int) + 1) (by omega), hj', hcell, hj3]
end Y
/-! Z2: the pen made, a pick; loops by invariants. -/
namespace Y
open PySem

def pickFD (ps : List Str) : FD := { ps := ps, n := 2, body :=
    (.seq (.ret (.ix (.slot 1) (.call "_law_draw" (.cons (.slot 0) (.cons (.bi .len (.cons (.slot 1) .nil)) .nil)) [] .nil)))
    .skip) }
def penFD (ps : List Str) : FD := { ps := ps, n := 1, body :=
    (.seq (.ret (.new (.lst (.cons (.bi .list (.cons (.cut (.slot 0) .non (.int 63)) .nil)) (.cons (.int 0) (.cons (.int 0) .nil))))))
    .skip) }
/-- draws, as the callee's promise -/
def Draws (C : Ctx) : Prop := ∀ (P : Pn) (n : Nat) (m : Int) (r : Hb), P.ok n → n ≤ 100000 → 0 < m → m < 1073741824 → ∃ k P', 0 ≤ k ∧ k < m ∧ Pn.ok P' (n + 1) ∧ C.call "_law_draw" [.ref 0, .int m] [] (P.o :: r) = .ok (.int k) (P'.o :: r)
/-- one of a list -/
def Picks (C : Ctx) : Prop := ∀ (P : Pn) (n : Nat) (ws : List W) (r : Hb), P.ok n → n ≤ 100000 → ws ≠ [] → ws.length < 1073741824 → ∃ w P', w ∈ ws ∧ Pn.ok P' (n + 1) ∧ C.call "_law_pick" [.ref 0, .lit ws] [] (P.o :: r) = .ok w (P'.o :: r)
theorem pick_ok {C : Ctx} (hd : Draws C) {a b : Str} (P : Pn) {n : Nat} {ws : List W} {r : Hb} (hP : P.ok n) (hn : n ≤ 100000) (h0 : ws ≠ []) (h1 : ws.length < 1073741824) :
    ∃ w P', w ∈ ws ∧ Pn.ok P' (n + 1) ∧ stepF C (pickFD [a, b]) [.ref 0, .lit ws] [] (P.o :: r) = .ok w (P'.o :: r) := by
  have l0 : 0 < ws.length := List.length_pos_iff.mpr h0
  obtain ⟨k, P', k0, k1, k2, e⟩ := hd P n ws.length r hP hn (by omega) (by omega)
  have kl : k.toNat < ws.length := by omega
  refine ⟨ws[k.toNat], P', List.getElem_mem kl, k2, ?_⟩
  rw [stepF_of (σ := [some (.ref 0), some (.lit ws)]) rfl]
  unfold pickFD
  have e2 : L2.ixN ws.length k = some k.toNat := ixN_int k0 k1
  simp [e, e2, List.getElem?_eq_getElem kl]
theorem pen_ok (C : Ctx) {a : Str} {ns : List Int} (h : ns.length ≤ 63) : stepF C (penFD [a]) [.rol (ns.map .int)] [] [] = .ok (.ref 0) [Pn.o ⟨ns, 0, 0⟩] := by
  rw [stepF_of (σ := [some (.rol (ns.map .int))]) rfl]
  unfold penFD
  have e : getCut [] (.rol (ns.map .int)) none (some 63) = some (.lit (ns.map .int)) := by
    show some (W.lit (cutW _ _ _)) = _
    congr 2
    refine cutW_all ?_ ?_
    · simp [HT.sIx]
    · simp [HT.sIx]
      omega
  simp [e, Pn.o]
theorem pen_start {ns : List Int} (h : ns.length ≤ 63) : Pn.ok ⟨ns, 0, 0⟩ 0 := ⟨h, Int.le_refl _, Int.le_refl _, Int.le_refl _⟩

/-! ### loops -/
theorem forC_inv {f : W → Hb → R (Option W)} {ok : Hb → Bool} (I : Nat → Hb → Prop) (Val : W → Prop) (hok : ∀ i h, I i h → ok h = true) :
    ∀ (ws acc : List W) (i : Nat) (h : Hb), I i h → (∀ w ∈ ws, ∀ i h, I i h → ∃ v h', f w h = .ok (some v) h' ∧ I (i + 1) h' ∧ Val v) → acc.length + ws.length ≤ 16777216 →
    ∃ vs h', forC f ok ws acc h = .ok (acc ++ vs) h' ∧ vs.length = ws.length ∧ (∀ v ∈ vs, Val v) ∧ I (i + ws.length) h'
  | [], acc, i, h, hi, _, _ => ⟨[], h, by unfold forC; rw [if_pos (hok i h hi), List.append_nil], rfl, by simp, hi⟩
  | w :: ws, acc, i, h, hi, hs, hl => by
    obtain ⟨v, h1, e, i1, hv⟩ := hs w List.mem_cons_self i h hi
    simp only [List.length_cons] at hl
    obtain ⟨vs, h2, e2, l2, a2, i2⟩ := forC_inv I Val hok ws (acc ++ [v]) (i + 1) h1 i1 (fun w hw => hs w (List.mem_cons_of_mem _ hw)) (by simp; omega)
    refine ⟨v :: vs, h2, ?_, by simp [l2], ?_, ?_⟩
    · unfold forC
      rw [if_pos (hok i h hi), e]
      dsimp only
      rw [if_pos (by exact decide_eq_true (by omega)), e2, List.append_assoc]
      rfl
    · intro u hu
      rcases List.mem_cons.mp hu with q | q
      · rw [q]; exact hv
      · exact a2 u q
    · rw [List.length_cons, show i + (ws.length + 1) = i + 1 + ws.length by omega]; exact i2
/-- a map without effect -/
theorem forC_map {f : W → Hb → R (Option W)} {ok : Hb → Bool} {g : W → W} {h : Hb} (hok : ok h = true) : ∀ (ws acc : List W), (∀ w ∈ ws, f w h = .ok (some (g w)) h) → acc.length + ws.length ≤ 16777216 → forC f ok ws acc h = .ok (acc ++ ws.map g) h
  | [], acc, _, _ => by unfold forC; rw [if_pos hok]; simp
  | w :: ws, acc, hs, hl => by
    simp only [List.length_cons] at hl
    unfold forC
    rw [if_pos hok, hs w List.mem_cons_self]
    dsimp only
    rw [if_pos (by exact decide_eq_true (by omega)), forC_map hok ws (acc ++ [g w]) (fun w hw => hs w (List.mem_cons_of_mem _ hw)) (by simp; omega)]
    simp
theorem forL_inv {f : W → Sb → Hb → G} {ok : Hb → Bool} (I : Nat → Sb → Hb → Prop) (hok : ∀ i σ h, I i σ h → ok h = true) :
    ∀ (ws : List W) (i : Nat) (σ : Sb) (h : Hb), I i σ h → (∀ j w, ws[j]? = some w → ∀ σ h, I (i + j) σ h → ∃ σ' h', (f w σ h = .ok (.nx σ') h' ∨ f w σ h = .ok (.ct σ') h') ∧ I (i + j + 1) σ' h') → ∃ σ' h', forL f ok ws σ h = .ok (.nx σ') h' ∧ I (i + ws.length) σ' h'
  | [], i, σ, h, hi, _ => ⟨σ, h, by unfold forL; rw [if_pos (hok i σ h hi)], hi⟩
  | w :: ws, i, σ, h, hi, hs => by
    obtain ⟨σ1, h1, e, i1⟩ := hs 0 w rfl σ h hi
    obtain ⟨σ2, h2, e2, i2⟩ := forL_inv I hok ws (i + 1) σ1 h1 i1 (fun j u hj σ h hI => by
      obtain ⟨σ', h', a, b⟩ := hs (j + 1) u (by simpa using hj) σ h (by rw [show i + (j + 1) = i + 1 + j by omega]; exact hI)
      exact ⟨σ', h', a, by rw [show i + 1 + j + 1 = i + (j + 1) + 1 by omega]; exact b⟩)
    refine ⟨σ2, h2, ?_, by rw [List.length_cons, show i + (ws.length + 1) = i + 1 + ws.length by omega]; exact i2⟩
    unfold forL
    rw [if_pos (hok i σ h hi)]
    rcases e with e | e <;> rw [e] <;> exact e2
theorem whileL_inv {c : Sb → Hb → R W} {f : Sb → Hb → G} (I : Sb → Hb → Prop) (μ : Sb → Hb → Nat) (Post : Sb → Hb → Prop)
    (turn : ∀ σ h, I σ h → (∃ h1, c σ h = .ok (.bl false) h1 ∧ Post σ h1) ∨ ∃ h1 σ' h', c σ h = .ok (.bl true) h1 ∧ (f σ h1 = .ok (.nx σ') h' ∨ f σ h1 = .ok (.ct σ') h') ∧ I σ' h' ∧ μ σ' h' < μ σ h) :
    ∀ (n : Nat) (σ : Sb) (h : Hb), I σ h → μ σ h < n → ∃ σ' h', whileL c f n σ h = .ok (.nx σ') h' ∧ Post σ' h'
  | 0, σ, h, _, hn => absurd hn (Nat.not_lt_zero _)
  | n + 1, σ, h, hi, hn => by
    rcases turn σ h hi with ⟨h1, e, p⟩ | ⟨h1, σ', h', e, e2, i2, lt⟩
    · exact ⟨σ, h1, by unfold whileL; rw [e]; rfl, p⟩
    · obtain ⟨σ2, h2, e3, p⟩ := whileL_inv I μ Post turn n σ' h' i2 (by omega)
      refine ⟨σ2, h2, ?_, p⟩
      unfold whileL
      rw [e]
      rcases e2 with e2 | e2
      · show (f σ h1).bind _ = _
        rw [e2]; exact e3
      · show (f σ h1).bind _ = _
        rw [e2]; exact e3
@[simp] theorem stays_t {h h' : Hb} {xs : List W} : stays h h' (.tup xs) = true := rfl
@[simp] theorem stays_l {h h' : Hb} {xs : List W} : stays h h' (.lit xs) = true := rfl
@[simp] theorem stays_r {h h' : Hb} {xs : List W} : stays h h' (.rol xs) = true := rfl
theorem ints_of {vs : List W} {Pr : Int → Prop} : (∀ v ∈ vs, ∃ i, v = .int i ∧ Pr i) → ∃ is : List Int, vs = is.map .int ∧ ∀ i ∈ is, Pr i := by
  induction vs with
  | nil => exact fun _ => ⟨[], rfl, by simp⟩
  | cons v vs ih =>
    intro h
    obtain ⟨i, rfl, p⟩ := h v List.mem_cons_self
    obtain ⟨is, e, q⟩ := ih fun u hu => h u (List.mem_cons_of_mem _ hu)
    refine ⟨i :: is, by rw [e]; rfl, ?_⟩
    intro j hj
    rcases List.mem_cons.mp hj with z | z
    · rw [z]; exact p
    · exact q j z
@[simp] theorem intsW_ints : ∀ is : List Int, intsW (is.map .int) = some is
  | [] => rfl
  | i :: is => by simp [intsW, intsW_ints is]
theorem insI_mem {i : Int} : ∀ {l : List Int} {j : Int}, j ∈ insI i l → j = i ∨ j ∈ l
  | [], j, h => by simp [insI] at h; exact .inl h
  | k :: l, j, h => by
    unfold insI at h
    split at h
    · rcases List.mem_cons.mp h with q | q
      · exact .inl q
      · exact .inr q
    · rcases List.mem_cons.mp h with q | q
      · exact .inr (by rw [q]; exact List.mem_cons_self)
      · rcases insI_mem q with z | z
        · exact .inl z
        · exact .inr (List.mem_cons_of_mem _ z)
theorem insI_len {i : Int} : ∀ l : List Int, (insI i l).length = l.length + 1
  | [] => rfl
  | k :: l => by unfold insI; split <;> simp [insI_len l]
@[simp] theorem sortI_len : ∀ l : List Int, (sortI l).length = l.length
  | [] => rfl
  | k :: l => by simp [sortI, insI_len, sortI_len l]
theorem sortI_mem : ∀ {l : List Int} {j : Int}, j ∈ sortI l → j ∈ l
  | [], _, h => h
  | k :: l, j, h => by
    rcases insI_mem (show j ∈ insI k (sortI l) from h) with z | z
    · rw [z]; exact List.mem_cons_self
    · exact List.mem_cons_of_mem _ (sortI_mem z)
@[simp] theorem sorted_ints {h : Hb} {is : List Int} : builtin .sorted [.lit (is.map .int)] h = some (.lit ((sortI is).map .int)) := by
  simp [builtin]
/-! ### what stands at the heap's end -/
@[simp] theorem hget0 {b r : Hb} {x : O} : (b ++ x :: r)[b.length]? = some x := by simp
@[simp] theorem hget1 {b r : Hb} {x y : O} : (b ++ x :: y :: r)[b.length + 1]? = some y := by
  rw [List.getElem?_append_right (by omega)]; simp
@[simp] theorem hset0 {b r : Hb} {x z : O} : (b ++ x :: r).set b.length z = b ++ z :: r := by
  rw [List.set_append_right _ _ (by omega)]; simp
@[simp] theorem hset1 {b r : Hb} {x y z : O} : (b ++ x :: y :: r).set (b.length + 1) z = b ++ x :: z :: r := by
  rw [List.set_append_right _ _ (by omega)]; simp
section
variable {b r : Hb} {xs ys : List W} {i : Int} {v : W} {y : O}
@[simp] theorem getIx_a0 : getIx (b ++ .lst xs :: r) (.ref b.length) (.int i) = (L2.ixN xs.length i).bind fun j => xs[j]? := getIx_ref hget0
@[simp] theorem getIx_a1 : getIx (b ++ y :: .lst xs :: r) (.ref (b.length + 1)) (.int i) = (L2.ixN xs.length i).bind fun j => xs[j]? := getIx_ref hget1
@[simp] theorem getIx_c0 : getIx (.lst xs :: r) (.ref 0) (.int i) = (L2.ixN xs.length i).bind fun j => xs[j]? := getIx_ref rfl
@[simp] theorem getIxL_ref {h : Hb} {n : Nat} {w : W} : getIxL h (.ref n) w = getIx h (.ref n) w := rfl
theorem setIx_ref {h : Hb} {n : Nat} (e : h[n]? = some (.lst xs)) : setIx h (.ref n) (.int i) v = (match L2.ixN xs.length i with | some j => .ok () (h.set n (.lst (xs.set j v))) | none => .no) := by
  cases q : L2.ixN xs.length i <;> simp only [setIx, e, q]
@[simp] theorem setIx_a0 : setIx (b ++ .lst xs :: r) (.ref b.length) (.int i) v = (match L2.ixN xs.length i with | some j => .ok () (b ++ .lst (xs.set j v) :: r) | none => .no) := by
  rw [setIx_ref hget0]; cases L2.ixN xs.length i <;> simp
@[simp] theorem setIx_a1 : setIx (b ++ y :: .lst xs :: r) (.ref (b.length + 1)) (.int i) v = (match L2.ixN xs.length i with | some j => .ok () (b ++ y :: .lst (xs.set j v) :: r) | none => .no) := by
  rw [setIx_ref hget1]; cases L2.ixN xs.length i <;> simp
@[simp] theorem setIx_c0 : setIx (.lst xs :: r) (.ref 0) (.int i) v = (match L2.ixN xs.length i with | some j => .ok () (.lst (xs.set j v) :: r) | none => .no) := setIx_ref rfl
@[simp] theorem recv_a0 {m : Mt} (hm : m = .append ∨ m = .extend ∨ m = .pop) : recv m (b ++ .lst xs :: r) (.ref b.length) = true := by
  rcases hm with rfl | rfl | rfl <;> simp only [recv, hget0]
@[simp] theorem recv_a1 {m : Mt} (hm : m = .append ∨ m = .extend ∨ m = .pop) : recv m (b ++ y :: .lst xs :: r) (.ref (b.length + 1)) = true := by
  rcases hm with rfl | rfl | rfl <;> simp only [recv, hget1]
theorem append_a0 (c : xs.length < 16777216) : method .append (.ref b.length) [v] (b ++ .lst xs :: r) = .ok .non (b ++ .lst (xs ++ [v]) :: r) := by
  simp only [method, hget0]; rw [if_pos (decide_eq_true c), hset0]
theorem append_a1 (c : xs.length < 16777216) : method .append (.ref (b.length + 1)) [v] (b ++ y :: .lst xs :: r) = .ok .non (b ++ y :: .lst (xs ++ [v]) :: r) := by
  simp only [method, hget1]; rw [if_pos (decide_eq_true c), hset1]
theorem pop_a0 (e : xs[xs.length - 1]? = some v) : method .pop (.ref b.length) [] (b ++ .lst xs :: r) = .ok v (b ++ .lst xs.dropLast :: r) := by
  simp only [method, hget0, e, hset0]
theorem pop_a1 (e : xs[xs.length - 1]? = some v) : method .pop (.ref (b.length + 1)) [] (b ++ y :: .lst xs :: r) = .ok v (b ++ y :: .lst xs.dropLast :: r) := by
  simp only [method, hget1, e, hset1]
end
theorem forL_nx {f : W → Sb → Hb → G} {ok : Hb → Bool} {w : W} {ws : List W} {σ σ1 : Sb} {h h1 : Hb} (e : f w σ h = .ok (.nx σ1) h1) (o : ok h = true) : forL f ok (w :: ws) σ h = forL f ok ws σ1 h1 := by
  conv => lhs; unfold forL
  rw [if_pos o, e]; rfl
theorem forL_nil {f : W → Sb → Hb → G} {ok : Hb → Bool} {σ : Sb} {h : Hb} (o : ok h = true) : forL f ok [] σ h = .ok (.nx σ) h := by
  unfold forL; rw [if_pos o]
theorem forC_some {f : W → Hb → R (Option W)} {ok : Hb → Bool} {w v : W} {ws acc : List W} {h h1 : Hb} (e : f w h = .ok (some v) h1) (o : ok h = true) (l : acc.length < 16777216) : forC f ok (w :: ws) acc h = forC f ok ws (acc ++ [v]) h1 := by
  conv => lhs; unfold forC
  rw [if_pos o, e]
  dsimp only
  rw [if_pos (decide_eq_true l)]
theorem forC_none {f : W → Hb → R (Option W)} {ok : Hb → Bool} {w : W} {ws acc : List W} {h h1 : Hb} (e : f w h = .ok none h1) (o : ok h = true) : forC f ok (w :: ws) acc h = forC f ok ws acc h1 := by
  conv => lhs; unfold forC
  rw [if_pos o, e]
theorem forC_nil {f : W → Hb → R (Option W)} {ok : Hb → Bool} {acc : List W} {h : Hb} (o : ok h = true) : forC f ok [] acc h = .ok acc h := by
  unfold forC; rw [if_pos o]
/-- a while by an index that falls -/
theorem whileL_ix {c : Sb → Hb → R W} {f : Sb → Hb → G} (I : Nat → Sb → Hb → Prop) (Post : Sb → Hb → Prop)
    (turn : ∀ m σ h, I m σ h → (∃ h1, c σ h = .ok (.bl false) h1 ∧ Post σ h1) ∨ ∃ h1 σ' h' m', c σ h = .ok (.bl true) h1 ∧ (f σ h1 = .ok (.nx σ') h' ∨ f σ h1 = .ok (.ct σ') h') ∧ I m' σ' h' ∧ m' < m) :
    ∀ (n m : Nat) (σ : Sb) (h : Hb), I m σ h → m < n → ∃ σ' h', whileL c f n σ h = .ok (.nx σ') h' ∧ Post σ' h'
  | 0, m, σ, h, _, hn => absurd hn (Nat.not_lt_zero _)
  | n + 1, m, σ, h, hi, hn => by
    rcases turn m σ h hi with ⟨h1, e, p⟩ | ⟨h1, σ', h', m', e, e2, i2, lt⟩
    · exact ⟨σ, h1, by unfold whileL; rw [e]; rfl, p⟩
    · obtain ⟨σ2, h2, e3, p⟩ := whileL_ix I Post turn n m' σ' h' i2 (by omega)
      refine ⟨σ2, h2, ?_, p⟩
      unfold whileL
      rw [e]
      rcases e2 with e2 | e2
      · show (f σ h1).bind _ = _
        rw [e2]; exact e3
      · show (f σ h1).bind _ = _
        rw [e2]; exact e3
/-- a turn of a comprehension without a test -/
theorem turnC_t {C : Ctx} {elt : E} {t : Tg} {own : List Nat} {σ σ' : Sb} {x v : W} {h h1 : Hb} (e : setT t x (wipe σ own) = some σ') (e2 : evalE C elt σ' h = .ok v h1) : turnC C elt t (.bl true) own σ x h = .ok (some v) h1 := by
  unfold turnC
  rw [e]
  simp [R.bind, e2]
end Y
/-! Z3: loops over a known list, turn by turn. -/
namespace Y
open PySem
def kLp (f : W → Sb → Hb → G) (ok : Hb → Bool) (ws : List W) (g : G) : G := g.bind fun fl h1 => (match fl with
    | .nx σ1 => forL f ok ws σ1 h1
    | .ct σ1 => forL f ok ws σ1 h1
    | .bk σ1 => .ok (.nx σ1) h1
    | .rt v => .ok (.rt v) h1)
section
variable {f : W → Sb → Hb → G} {ok : Hb → Bool} {w : W} {ws : List W} {σ : Sb} {h : Hb}
theorem lp_cons (o : ok h = true) : forL f ok (w :: ws) σ h = kLp f ok ws (f w σ h) := by
  conv => lhs; unfold forL
  rw [if_pos o]; rfl
@[simp] theorem kLp_nx : kLp f ok ws (.ok (.nx σ) h) = forL f ok ws σ h := rfl
@[simp] theorem kLp_ct : kLp f ok ws (.ok (.ct σ) h) = forL f ok ws σ h := rfl
@[simp] theorem kLp_bk : kLp f ok ws (.ok (.bk σ) h) = .ok (.nx σ) h := rfl
@[simp] theorem kLp_rt : kLp f ok ws (.ok (.rt w) h) = .ok (.rt w) h := rfl
end
/-- a comprehension by an invariant of the turn's place -/
theorem forC_at {f : W → Hb → R (Option W)} {ok : Hb → Bool} (I : Nat → Hb → Prop) (Val : W → Prop) (hok : ∀ i h, I i h → ok h = true) :
    ∀ (ws acc : List W) (i : Nat) (h : Hb), I i h → (∀ j w, ws[j]? = some w → ∀ h, I (i + j) h → ∃ v h', f w h = .ok (some v) h' ∧ I (i + j + 1) h' ∧ Val v) → acc.length + ws.length ≤ 16777216 →
    ∃ vs h', forC f ok ws acc h = .ok (acc ++ vs) h' ∧ vs.length = ws.length ∧ (∀ v ∈ vs, Val v) ∧ I (i + ws.length) h'
  | [], acc, i, h, hi, _, _ => ⟨[], h, by unfold forC; rw [if_pos (hok i h hi), List.append_nil], rfl, by simp, hi⟩
  | w :: ws, acc, i, h, hi, hs, hl => by
    obtain ⟨v, h1, e, i1, hv⟩ := hs 0 w rfl h hi
    simp only [List.length_cons] at hl
    obtain ⟨vs, h2, e2, l2, a2, i2⟩ := forC_at I Val hok ws (acc ++ [v]) (i + 1) h1 i1 (fun j u hj h hI => by
      obtain ⟨v', h', a, b, c⟩ := hs (j + 1) u (by simpa using hj) h (by rw [show i + (j + 1) = i + 1 + j by omega]; exact hI)
      exact ⟨v', h', a, by rw [show i + 1 + j + 1 = i + (j + 1) + 1 by omega]; exact b, c⟩) (by simp; omega)
    refine ⟨v :: vs, h2, ?_, by simp [l2], ?_, ?_⟩
    · rw [forC_some e (hok i h hi) (by omega), e2, List.append_assoc]
      rfl
    · intro u hu
      rcases List.mem_cons.mp hu with q | q
      · rw [q]; exact hv
      · exact a2 u q
    · rw [List.length_cons, show i + (ws.length + 1) = i + 1 + ws.length by omega]; exact i2
theorem rng_small {m : Nat} {h : Hb} (c : m ≤ 1000000) : kRng (.ok (.int (m : Int)) h) = .ok (rngW 0 m) h := by
  have c1 : decide ((-2305843009213693952 : Int) ≤ (m : Int)) = true := decide_eq_true (by omega)
  have c2 : decide ((m : Int) < (2305843009213693952 : Int)) = true := decide_eq_true (by omega)
  rw [kRng_ok, show (-(2 ^ 61) : Int) = -2305843009213693952 by decide +kernel, show (2 ^ 61 : Int) = 2305843009213693952 by decide +kernel, c1, c2]
  rfl
end Y
/-! Z4: what an answer comes to, told by what holds of it. -/
namespace Y
open PySem

def R.Ok {α : Type} (r : R α) (Q : α → Hb → Prop) : Prop := ∃ a h, r = .ok a h ∧ Q a h
def G.Ok (g : G) (Q : Fl → Hb → Prop) : Prop := ∃ fl h, g = .ok fl h ∧ Q fl h
section
variable {α : Type} {a : α} {h : Hb} {Q Q' : α → Hb → Prop} {fl : Fl} {P P' : Fl → Hb → Prop}
@[simp] theorem ok_ok : R.Ok (.ok a h) Q ↔ Q a h := ⟨fun ⟨_, _, e, q⟩ => by cases e; exact q, fun q => ⟨_, _, rfl, q⟩⟩
@[simp] theorem gok_ok : G.Ok (.ok fl h) P ↔ P fl h := ⟨fun ⟨_, _, e, q⟩ => by cases e; exact q, fun q => ⟨_, _, rfl, q⟩⟩
theorem R.Ok.mono {r : R α} (k : r.Ok Q) (m : ∀ a h, Q a h → Q' a h) : r.Ok Q' := let ⟨a, h, e, q⟩ := k; ⟨a, h, e, m a h q⟩
theorem G.Ok.mono {r : G} (k : r.Ok P) (m : ∀ a h, P a h → P' a h) : r.Ok P' := let ⟨a, h, e, q⟩ := k; ⟨a, h, e, m a h q⟩
end
/-- how a def's body ends well -/
def Rets (Q : W → Hb → Prop) : Fl → Hb → Prop
  | .rt w, h => Q w h
  | .nx _, h => Q .non h
  | _, _ => False
theorem ok_fin {g : G} {Q : W → Hb → Prop} (k : g.Ok (Rets Q)) : (kFin g).Ok Q := by
  obtain ⟨fl, h, rfl, q⟩ := k
  cases fl <;> first | exact ⟨_, _, rfl, q⟩ | exact q.elim
/-- what follows a statement -/
def Then (C : Ctx) (b : S) (Q : Fl → Hb → Prop) : Fl → Hb → Prop
  | .nx σ, h => (evalS C b σ h).Ok Q
  | fl, h => Q fl h
theorem ok_then {C : Ctx} {b : S} {g : G} {Q : Fl → Hb → Prop} (k : g.Ok (Then C b Q)) : (thenS C b g).Ok Q := by
  obtain ⟨fl, h, rfl, q⟩ := k
  cases fl <;> first | exact q | exact ⟨_, _, rfl, q⟩
@[simp] theorem then_nx {C : Ctx} {b : S} {Q : Fl → Hb → Prop} {σ : Sb} {h : Hb} : Then C b Q (.nx σ) h ↔ (evalS C b σ h).Ok Q := Iff.rfl
@[simp] theorem rets_rt {Q : W → Hb → Prop} {w : W} {h : Hb} : Rets Q (.rt w) h ↔ Q w h := Iff.rfl
@[simp] theorem rets_nx {Q : W → Hb → Prop} {σ : Sb} {h : Hb} : Rets Q (.nx σ) h ↔ Q .non h := Iff.rfl
/-- what a turn comes to -/
def Turn (I : Nat → Sb → Hb → Prop) (Q : Fl → Hb → Prop) (j : Nat) : Fl → Hb → Prop
  | .nx σ', h' => I (j + 1) σ' h'
  | .ct σ', h' => I (j + 1) σ' h'
  | .bk σ', h' => Q (.nx σ') h'
  | .rt v, h' => Q (.rt v) h'
/-- what is wanted, hidden -/
theorem ok_hide {α : Type} {r : R α} {Q : α → Hb → Prop} (k : ∀ Q' : α → Hb → Prop, (∀ w h, Q w h → Q' w h) → r.Ok Q') : r.Ok Q := k Q fun _ _ q => q
/-- a for by an invariant of the turn's number; a turn may return -/
theorem ok_for {f : W → Sb → Hb → G} {ok : Hb → Bool} {Q : Fl → Hb → Prop} (I : Nat → Sb → Hb → Prop) (hok : ∀ i σ h, I i σ h → ok h = true) :
    ∀ (ws : List W) (i : Nat) (σ : Sb) (h : Hb), I i σ h →
      (∀ j w, ws[j]? = some w → ∀ σ h, I (i + j) σ h → (f w σ h).Ok (Turn I Q (i + j))) → (∀ σ h, I (i + ws.length) σ h → Q (.nx σ) h) → (forL f ok ws σ h).Ok Q
  | [], i, σ, h, hi, _, fin => ⟨_, _, by unfold forL; rw [if_pos (hok i σ h hi)], fin σ h hi⟩
  | w :: ws, i, σ, h, hi, hs, fin => by
    obtain ⟨fl, h1, e, i1⟩ := hs 0 w rfl σ h hi
    have rest : ∀ σ1, I (i + 1) σ1 h1 → (forL f ok ws σ1 h1).Ok Q := fun σ1 q => ok_for I hok ws (i + 1) σ1 h1 q (fun j u hj σ h hI => by
      have := hs (j + 1) u (by simpa using hj) σ h (by rw [show i + (j + 1) = i + 1 + j by omega]; exact hI)
      rw [show i + (j + 1) = i + 1 + j by omega] at this
      exact this) (fun σ h q => fin σ h (by rw [List.length_cons, show i + (ws.length + 1) = i + 1 + ws.length by omega]; exact q))
    rw [lp_cons (hok i σ h hi), e]
    cases fl with
    | nx σ1 => exact rest σ1 i1
    | ct σ1 => exact rest σ1 i1
    | bk σ1 => exact ⟨_, _, rfl, i1⟩
    | rt v => exact ⟨_, _, rfl, i1⟩
/-- a while by an invariant that falls -/
theorem ok_while {c : Sb → Hb → R W} {f : Sb → Hb → G} {Q : Fl → Hb → Prop} (I : Nat → Sb → Hb → Prop)
    (turn : ∀ m σ h, I m σ h → (c σ h).Ok fun b h1 => match b with
      | .bl false => Q (.nx σ) h1
      | .bl true => (f σ h1).Ok fun fl h2 => match fl with
        | .nx σ' => ∃ m', m' < m ∧ I m' σ' h2
        | .ct σ' => ∃ m', m' < m ∧ I m' σ' h2
        | .bk σ' => Q (.nx σ') h2
        | .rt v => Q (.rt v) h2
      | _ => False) : ∀ (n m : Nat) (σ : Sb) (h : Hb), I m σ h → m < n → (whileL c f n σ h).Ok Q
  | 0, m, σ, h, _, hn => absurd hn (Nat.not_lt_zero _)
  | n + 1, m, σ, h, hi, hn => by
    obtain ⟨b, h1, e, q⟩ := turn m σ h hi
    unfold whileL
    rw [e]
    cases b with
    | bl b =>
      cases b with
      | false => exact ⟨_, _, rfl, q⟩
      | true =>
        obtain ⟨fl, h2, e2, q2⟩ := q
        show (G.Ok ((f σ h1).bind _) Q)
        rw [e2]
        cases fl with
        | nx σ' => obtain ⟨m', lt, i'⟩ := q2; exact ok_while I turn n m' σ' h2 i' (by omega)
        | ct σ' => obtain ⟨m', lt, i'⟩ := q2; exact ok_while I turn n m' σ' h2 i' (by omega)
        | bk σ' => exact ⟨_, _, rfl, q2⟩
        | rt v => exact ⟨_, _, rfl, q2⟩
    | _ => exact q.elim
/-- a comprehension by an invariant; each turn gives a value -/
theorem ok_cm {f : W → Hb → R (Option W)} {ok : Hb → Bool} {Q : List W → Hb → Prop} (I : Nat → Hb → List W → Prop) (hok : ∀ i h acc, I i h acc → ok h = true) :
    ∀ (ws acc : List W) (i : Nat) (h : Hb), I i h acc → acc.length + ws.length ≤ 16777216 →
      (∀ j w, ws[j]? = some w → ∀ h acc, I (i + j) h acc → (f w h).Ok fun v h' => I (i + j + 1) h' (acc ++ v.toList)) → (∀ h acc, I (i + ws.length) h acc → Q acc h) → (forC f ok ws acc h).Ok Q
  | [], acc, i, h, hi, _, _, fin => ⟨_, _, by unfold forC; rw [if_pos (hok i h acc hi)], fin h acc hi⟩
  | w :: ws, acc, i, h, hi, hl, hs, fin => by
    obtain ⟨v, h1, e, i1⟩ := hs 0 w rfl h acc hi
    simp only [List.length_cons] at hl
    have rest : ∀ acc1 : List W, I (i + 1) h1 acc1 → acc1.length ≤ acc.length + 1 → (forC f ok ws acc1 h1).Ok Q := fun acc1 q lq => ok_cm I hok ws acc1 (i + 1) h1 q (by omega) (fun j u hj h acc hI => by
      have := hs (j + 1) u (by simpa using hj) h acc (by rw [show i + (j + 1) = i + 1 + j by omega]; exact hI)
      rw [show i + (j + 1) = i + 1 + j by omega] at this
      exact this) (fun h acc q => fin h acc (by rw [List.length_cons, show i + (ws.length + 1) = i + 1 + ws.length by omega]; exact q))
    cases v with
    | none =>
      rw [forC_none e (hok i h acc hi)]
      exact rest acc (by simpa using i1) (by omega)
    | some v =>
      rw [forC_some e (hok i h acc hi) (by omega)]
      exact rest (acc ++ [v]) (by simpa using i1) (by simp)
/-- a comprehension without effect, with its test -/
theorem forC_fm {f : W → Hb → R (Option W)} {ok : Hb → Bool} {g : W → Option W} {h : Hb} (hok : ok h = true) : ∀ (ws acc : List W), (∀ w ∈ ws, f w h = .ok (g w) h) → acc.length + ws.length ≤ 16777216 → forC f ok ws acc h = .ok (acc ++ ws.filterMap g) h
  | [], acc, _, _ => by rw [forC_nil hok]; simp
  | w :: ws, acc, hs, hl => by
    simp only [List.length_cons] at hl
    have e := hs w List.mem_cons_self
    cases q : g w with
    | none =>
      rw [q] at e
      rw [forC_none e hok, forC_fm hok ws acc (fun w hw => hs w (List.mem_cons_of_mem _ hw)) (by omega)]
      simp [q]
    | some v =>
      rw [q] at e
      rw [forC_some e hok (by omega), forC_fm hok ws (acc ++ [v]) (fun w hw => hs w (List.mem_cons_of_mem _ hw)) (by simp; omega)]
      simp [q]
/-- a turn with a test -/
theorem turnC_b {C : Ctx} {elt c : E} {t : Tg} {own : List Nat} {σ σ' : Sb} {x v : W} {h h1 h2 : Hb} {b : Bool} (e : setT t x (wipe σ own) = some σ') (e1 : evalE C c σ' h = .ok (.bl b) h1) (e2 : b = true → evalE C elt σ' h1 = .ok v h2) (e3 : b = false → h2 = h1) :
    turnC C elt t c own σ x h = .ok (if b = true then some v else none) h2 := by
  unfold turnC
  rw [e]
  dsimp only
  rw [e1]
  cases b with
  | true => simp [R.bind, e2 rfl]
  | false => simp [R.bind, e3 rfl]
/-- b and draw(m) == 0 -/
theorem and_draw {C : Ctx} (hd : Draws C) {P : Pn} {n : Nat} (b : Bool) (m : Int) (r : Hb) (hP : P.ok n) (hn : n ≤ 100000) (h0 : 0 < m) (h1 : m < 1073741824) :
    ∃ (e : Bool) (P' : Pn), (b = false → e = false) ∧ Pn.ok P' (n + 1) ∧ ∀ σ : Sb, σ[0]? = some (some (.ref 0)) → kAnd2 C (.cmp .eq (.call "_law_draw" (.cons (.slot 0) (.cons (.int m) .nil)) [] .nil) (.int 0)) σ (.bl b) (P.o :: r) (some b) = .ok (.bl e) (P'.o :: r) := by
  cases b with
  | false => exact ⟨false, P, fun _ => rfl, hP.mono (by omega), fun σ _ => rfl⟩
  | true =>
    obtain ⟨k, P', _, _, o, e⟩ := hd P n m r hP hn h0 h1
    exact ⟨decide (k = 0), P', (fun z => by cases z), o, fun σ s0 => by simp [s0, e]⟩
/-- the ints of a range -/
def rngL (i : Int) (n : Nat) : List W := (List.range n).map fun (k : Nat) => W.int (i + (k : Int))
@[simp] theorem items_rng {h : Hb} {i : Int} {n : Nat} : items h (rngW i n) = some (rngL i n) := rfl
@[simp] theorem stays_rng {h h' : Hb} {i : Int} {n : Nat} : stays h h' (rngW i n) = true := rfl
@[simp] theorem len_rng {i : Int} {n : Nat} : (rngL i n).length = n := by simp [rngL]
theorem rng_at {i : Int} {n j : Nat} {w : W} (e : (rngL i n)[j]? = some w) : j < n ∧ w = .int (i + j) := by
  have hj : j < n := by have := (List.getElem?_eq_some_iff.mp e).1; simpa using this
  refine ⟨hj, ?_⟩
  unfold rngL at e
  rw [List.getElem?_map, List.getElem?_range hj] at e
  exact (Option.some.inj e).symm
end Y
namespace Y
open PySem PySem.Spec PyProof.Rows L2
/-! the functions of law_k38_reports_that_cover in Y -/
abbrev rw0 : PySem.W.OpenLaw := PySem.Challenge.rw_endspassed_k38_reports_that_cover
def topS (i : Nat) : Stmt := PySem.Challenge.pw_endspassed_k38_reports_that_cover.main.body.getD i (.Pass ⟨0, 0, 0, 0⟩)
def fface_of : FD := { ps := ["report"], n := 9, body :=
    (.seq (.asg (.tp (.cons (.nm 1) (.cons (.nm 2) (.cons (.nm 3) (.cons (.nm 4) (.cons (.nm 5) (.cons (.nm 6) (.cons (.nm 7) (.cons (.nm 8) .nil))))))))) (.slot 0))
    (.seq (.ret (.tup (.cons (.slot 1) (.cons (.slot 2) (.cons (.slot 3) (.cons (.bi .len (.cons (.slot 4) .nil)) (.cons (.slot 5) (.cons (.bi .len (.cons (.slot 6) .nil)) (.cons (.slot 7) (.cons (.slot 8) .nil))))))))))
    .skip)) }
def fneeds_of : FD := { ps := ["report"], n := 1, body :=
    (.seq (.ret (.tup (.star (.ix (.slot 0) (.int 3)) (.star (.ix (.slot 0) (.int 5)) .nil))))
    .skip) }
def fcovers : FD := { ps := ["report", "other"], n := 4, body :=
    (.seq (.ite (.cmp .ne (.call "face_of" (.cons (.slot 0) .nil) [] .nil) (.call "face_of" (.cons (.slot 1) .nil) [] .nil))
    (.seq (.ret (.bl false))
    .skip)
    .skip)
    (.seq (.ret (.bi .all (.cons (.cm (.cmp .le (.slot 2) (.slot 3)) (.tp (.cons (.nm 2) (.cons (.nm 3) .nil))) (.zip (.call "needs_of" (.cons (.slot 0) .nil) [] .nil) (.call "needs_of" (.cons (.slot 1) .nil) [] .nil)) (.bl true) [2, 3]) .nil)))
    .skip)) }
def g_pen : FD := { ps := ["_law_script"], n := 1, body :=
    (.seq (.ret (.new (.lst (.cons (.bi .list (.cons (.cut (.slot 0) .non (.int 63)) .nil)) (.cons (.int 0) (.cons (.int 0) .nil))))))
    .skip) }
def g_draw : FD := { ps := ["_law_pen_here", "_law_many"], n := 7, body :=
    (.seq (.ite (.cmp .gt (.ix (.slot 0) (.int 2)) (.int 0))
    (.seq (.asg (.nm 2) (.bin .mod (.bi .int (.cons (.ix (.slot 0) (.int 2)) .nil)) (.slot 1)))
    (.seq (.six (.slot 0) (.int 2) (.bin .fdv (.bi .int (.cons (.ix (.slot 0) (.int 2)) .nil)) (.slot 1)))
    (.seq (.ret (.slot 2))
    .skip)))
    .skip)
    (.seq (.asg (.nm 3) (.ix (.slot 0) (.int 1)))
    (.seq (.six (.slot 0) (.int 1) (.bin .add (.slot 3) (.int 1)))
    (.seq (.asg (.nm 4) (.bin .add (.bin .mul (.int 71999) (.slot 3)) (.int 821)))
    (.seq (.ite (.cmp .ne (.ix (.slot 0) (.int 0)) (.lst .nil))
    (.seq (.asg (.nm 4) (.ix (.ix (.slot 0) (.int 0)) (.bin .mod (.bi .int (.cons (.slot 3) .nil)) (.bi .len (.cons (.ix (.slot 0) (.int 0)) .nil)))))
    .skip)
    .skip)
    (.seq (.ite (.tand (.cmp .lt (.slot 3) (.bi .len (.cons (.ix (.slot 0) (.int 0)) .nil))) (.cmp .ge (.bi .abs (.cons (.slot 4) .nil)) (.bin .pow (.int 10) (.int 18))))
    (.seq (.asg (.nm 5) (.bin .add (.bin .mul (.int 2) (.bin .sub (.bi .abs (.cons (.slot 4) .nil)) (.bin .pow (.int 10) (.int 18)))) (.bi .int (.cons (.cmp .lt (.slot 4) (.int 0)) .nil))))
    (.seq (.six (.slot 0) (.int 2) (.bin .fdv (.bi .int (.cons (.slot 5) .nil)) (.slot 1)))
    (.seq (.ret (.bin .mod (.bi .int (.cons (.slot 5) .nil)) (.slot 1)))
    .skip)))
    .skip)
    (.seq (.asg (.nm 6) (.bin .mod (.bi .int (.cons (.bin .pow (.bin .add (.bin .add (.bin .mod (.bi .int (.cons (.slot 4) .nil)) (.int 2147483549)) (.bin .mul (.int 50227) (.slot 3))) (.int 139)) (.int 5)) .nil)) (.int 2147483629)))
    (.seq (.asg (.nm 6) (.bin .mod (.bi .int (.cons (.bin .pow (.bin .add (.bin .add (.bin .mul (.slot 6) (.bin .add (.bin .mul (.int 2) (.slot 3)) (.int 107))) (.bin .mul (.bin .mul (.int 60161) (.slot 3)) (.slot 3))) (.int 59)) (.int 3)) .nil)) (.int 2147483587)))
    (.seq (.ret (.bin .mod (.bi .int (.cons (.bin .fdv (.slot 6) (.int 32)) .nil)) (.slot 1)))
    .skip))))))))) }
def g_pick : FD := { ps := ["_law_pen_here", "_law_some"], n := 2, body :=
    (.seq (.ret (.ix (.slot 1) (.call "_law_draw" (.cons (.slot 0) (.cons (.bi .len (.cons (.slot 1) .nil)) .nil)) [] .nil)))
    .skip) }
def g_report : FD := { ps := ["_law_pen_here", "_law_limit"], n := 12, body :=
    (.seq (.par [2, 3] (.cons (.call "_law_draw" (.cons (.slot 0) (.cons (.bin .add (.slot 1) (.int 1)) .nil)) [] .nil) (.cons (.call "_law_pick" (.cons (.slot 0) (.cons (.lst (.cons (.str "reading") (.cons (.str "finished") (.cons (.str "left") .nil)))) .nil)) [] .nil) .nil)))
    (.seq (.asg (.nm 4) (.cmp .eq (.call "_law_draw" (.cons (.slot 0) (.cons (.int 2) .nil)) [] .nil) (.int 0)))
    (.seq (.asg (.nm 5) (.and (.tnot (.tru (.slot 4))) (.cmp .eq (.call "_law_draw" (.cons (.slot 0) (.cons (.int 2) .nil)) [] .nil) (.int 0))))
    (.seq (.par [6, 7, 8] (.cons (.bin .add (.slot 2) (.bi .int (.cons (.cmp .eq (.slot 3) (.str "finished")) .nil))) (.cons (.new (.lst .nil)) (.cons (.int 0) .nil))))
    (.seq (.for (.nm 9) (.rng (.bin .add (.call "_law_draw" (.cons (.slot 0) (.cons (.int 3) .nil)) [] .nil) (.bi .int (.cons (.slot 5) .nil))))
    (.seq (.asg (.nm 8) (.bin .add (.slot 8) (.call "_law_draw" (.cons (.slot 0) (.cons (.bin .add (.bin .sub (.slot 6) (.slot 8)) (.int 1)) .nil)) [] .nil)))
    (.seq (.expr (.mt .append (.slot 7) (.cons (.slot 8) .nil)))
    .skip)))
    (.seq (.asg (.nm 10) (.ite (.cmp .eq (.slot 3) (.str "left")) (.tup (.cons (.and (.slot 4) (.cmp .eq (.call "_law_draw" (.cons (.slot 0) (.cons (.int 2) .nil)) [] .nil) (.int 0))) .nil)) (.tup .nil)))
    (.seq (.asg (.nm 11) (.call "_law_pick" (.cons (.slot 0) (.cons (.lst (.cons (.str "done") (.cons (.str "failed") (.cons (.str "stuck") .nil)))) .nil)) [] .nil))
    (.seq (.ret (.lst (.cons (.slot 2) (.cons (.slot 3) (.cons (.slot 4) (.cons (.bi .tuple (.cons (.slot 7) .nil)) (.cons (.slot 5) (.cons (.slot 10) (.cons (.slot 11) (.cons (.cmp .eq (.call "_law_draw" (.cons (.slot 0) (.cons (.int 2) .nil)) [] .nil) (.int 0)) .nil))))))))))
    .skip)))))))) }
def g_moved : FD := { ps := ["_law_pen_here", "_law_row"], n := 7, body :=
    (.seq (.par [2, 3, 4] (.cons (.bin .add (.ix (.slot 1) (.int 0)) (.bi .int (.cons (.cmp .eq (.ix (.slot 1) (.int 1)) (.str "finished")) .nil))) (.cons (.new (.lst .nil)) (.cons (.int 0) .nil))))
    (.seq (.for (.nm 5) (.ix (.slot 1) (.int 3))
    (.seq (.asg (.nm 4) (.bi .max (.cons (.bi .int (.cons (.slot 4) .nil)) (.cons (.bi .min (.cons (.bi .int (.cons (.slot 2) .nil)) (.cons (.bi .int (.cons (.bin .add (.slot 5) (.call "_law_pick" (.cons (.slot 0) (.cons (.lst (.cons (.int 0) (.cons (.int 0) (.cons (.int 1) (.cons (.neg (.int 1)) .nil))))) .nil)) [] .nil)) .nil)) .nil))) .nil))))
    (.seq (.expr (.mt .append (.slot 3) (.cons (.slot 4) .nil)))
    .skip)))
    (.seq (.asg (.nm 6) (.ix (.slot 1) (.int 5)))
    (.seq (.ite (.tand (.cmp .eq (.ix (.slot 1) (.int 1)) (.str "left")) (.tand (.tru (.ix (.slot 1) (.int 2))) (.cmp .eq (.call "_law_draw" (.cons (.slot 0) (.cons (.int 3) .nil)) [] .nil) (.int 0))))
    (.seq (.asg (.nm 6) (.tup (.cons (.tnot (.tru (.ix (.slot 6) (.int 0)))) .nil)))
    .skip)
    .skip)
    (.seq (.ret (.bin .add (.bin .add (.cut (.slot 1) .non (.int 3)) (.lst (.cons (.bi .tuple (.cons (.slot 3) .nil)) (.cons (.ix (.slot 1) (.int 4)) (.cons (.slot 6) .nil))))) (.cut (.slot 1) (.int 6) .non)))
    .skip))))) }
def g_other : FD := { ps := ["_law_pen_here", "_law_row"], n := 3, body :=
    (.seq (.asg (.nm 2) (.call "_law_draw" (.cons (.slot 0) (.cons (.int 5) .nil)) [] .nil))
    (.seq (.ite (.cmp .eq (.slot 2) (.int 0))
    (.seq (.ret (.bin .add (.cut (.slot 1) .non (.int 7)) (.lst (.cons (.tnot (.tru (.ix (.slot 1) (.int 7)))) .nil))))
    .skip)
    .skip)
    (.seq (.ite (.cmp .eq (.slot 2) (.int 1))
    (.seq (.ret (.bin .add (.bin .add (.cut (.slot 1) .non (.int 6)) (.lst (.cons (.call "_law_pick" (.cons (.slot 0) (.cons (.lst (.cons (.str "done") (.cons (.str "failed") (.cons (.str "stuck") .nil)))) .nil)) [] .nil) .nil))) (.cut (.slot 1) (.int 7) .non)))
    .skip)
    .skip)
    (.seq (.ite (.tand (.cmp .eq (.slot 2) (.int 2)) (.cmp .lt (.bi .len (.cons (.ix (.slot 1) (.int 3)) .nil)) (.bin .add (.int 2) (.bi .int (.cons (.ix (.slot 1) (.int 4)) .nil)))))
    (.seq (.ret (.bin .add (.bin .add (.cut (.slot 1) .non (.int 3)) (.lst (.cons (.bin .add (.ix (.slot 1) (.int 3)) (.cut (.ix (.slot 1) (.int 3)) (.neg (.int 1)) .non)) .nil))) (.cut (.slot 1) (.int 4) .non)))
    .skip)
    .skip)
    (.seq (.ite (.tand (.cmp .eq (.slot 2) (.int 3)) (.tand (.chn .lt .lt (.int 0) (.bi .len (.cons (.ix (.slot 1) (.int 3)) .nil)) (.int 3)) (.tnot (.tru (.ix (.slot 1) (.int 2))))))
    (.seq (.ret (.bin .add (.bin .add (.cut (.slot 1) .non (.int 4)) (.lst (.cons (.tnot (.tru (.ix (.slot 1) (.int 4)))) .nil))) (.cut (.slot 1) (.int 5) .non)))
    .skip)
    .skip)
    (.seq (.ret (.call "_law_report" (.cons (.slot 0) (.cons (.int 2) .nil)) [] .nil))
    .skip)))))) }
def g_due : FD := { ps := ["_law_one", "_law_two"], n := 6, body :=
    (.seq (.ite (.cmp .ne (.cm (.ix (.slot 0) (.slot 3)) (.nm 3) (.tup (.cons (.int 0) (.cons (.int 1) (.cons (.int 2) (.cons (.int 4) (.cons (.int 6) (.cons (.int 7) .nil))))))) (.bl true) [3]) (.cm (.ix (.slot 1) (.slot 3)) (.nm 3) (.tup (.cons (.int 0) (.cons (.int 1) (.cons (.int 2) (.cons (.int 4) (.cons (.int 6) (.cons (.int 7) .nil))))))) (.bl true) [3]))
    (.seq (.ret (.bl false))
    .skip)
    .skip)
    (.seq (.ite (.tor (.cmp .ne (.bi .len (.cons (.ix (.slot 0) (.int 3)) .nil)) (.bi .len (.cons (.ix (.slot 1) (.int 3)) .nil))) (.cmp .ne (.bi .len (.cons (.ix (.slot 0) (.int 5)) .nil)) (.bi .len (.cons (.ix (.slot 1) (.int 5)) .nil))))
    (.seq (.ret (.bl false))
    .skip)
    .skip)
    (.seq (.asg (.nm 2) (.bin .add (.lzip (.ix (.slot 0) (.int 3)) (.ix (.slot 1) (.int 3))) (.cm (.tup (.cons (.bi .int (.cons (.slot 4) .nil)) (.cons (.bi .int (.cons (.slot 5) .nil)) .nil))) (.tp (.cons (.nm 4) (.cons (.nm 5) .nil))) (.zip (.ix (.slot 0) (.int 5)) (.ix (.slot 1) (.int 5))) (.bl true) [4, 5])))
    (.seq (.ret (.cmp .eq (.cm (.int 1) (.tp (.cons (.nm 4) (.cons (.nm 5) .nil))) (.slot 2) (.cmp .gt (.slot 4) (.slot 5)) [4, 5]) (.lst .nil)))
    .skip)))) }
def flaw : FD := { ps := ["_law_script"], n := 10, body :=
    (.seq (.asg (.nm 1) (.call "_law_pen" (.cons (.slot 0) .nil) [] .nil))
    (.seq (.for (.nm 2) (.rng (.int 16))
    (.seq (.asg (.nm 3) (.call "_law_report" (.cons (.slot 1) (.cons (.int 2) .nil)) [] .nil))
    (.seq (.asg (.nm 4) (.lst (.cons (.slot 3) (.cons (.call "_law_moved" (.cons (.slot 1) (.cons (.slot 3) .nil)) [] .nil) (.cons (.call "_law_moved" (.cons (.slot 1) (.cons (.slot 3) .nil)) [] .nil) (.cons (.call "_law_other" (.cons (.slot 1) (.cons (.slot 3) .nil)) [] .nil) (.cons (.call "_law_report" (.cons (.slot 1) (.cons (.int 2) .nil)) [] .nil) .nil)))))))
    (.seq (.asg (.nm 5) (.cm (.bi .tuple (.cons (.slot 6) .nil)) (.nm 6) (.slot 4) (.bl true) [6]))
    (.seq (.for (.nm 6) (.slot 5)
    (.seq (.for (.nm 7) (.slot 5)
    (.seq (.ite (.cmp .ne (.bi .repr (.cons (.call "covers" (.cons (.slot 6) (.cons (.slot 7) .nil)) [] .nil) .nil)) (.bi .repr (.cons (.call "_law_due" (.cons (.slot 6) (.cons (.slot 7) .nil)) [] .nil) .nil)))
    (.seq (.ret (.bl false))
    .skip)
    .skip)
    (.seq (.ite (.tand (.tru (.call "covers" (.cons (.slot 6) (.cons (.slot 7) .nil)) [] .nil)) (.tand (.tru (.call "covers" (.cons (.slot 7) (.cons (.slot 6) .nil)) [] .nil)) (.cmp .ne (.slot 6) (.slot 7))))
    (.seq (.ret (.bl false))
    .skip)
    .skip)
    .skip)))
    (.seq (.ite (.cmp .isn (.call "covers" .nil ["other", "report"] (.cons (.slot 6) (.cons (.slot 6) .nil))) (.bl true))
    (.seq (.ret (.bl false))
    .skip)
    .skip)
    .skip)))
    .skip)))))
    (.seq (.asg (.nm 8) (.tup (.cons (.int 0) (.cons (.str "left") (.cons (.bl true) (.cons (.tup (.cons (.int 0) (.cons (.int 0) .nil))) (.cons (.bl false) (.cons (.tup (.cons (.bl false) .nil)) (.cons (.str "done") (.cons (.bl true) .nil))))))))))
    (.seq (.asg (.nm 9) (.tup (.cons (.int 0) (.cons (.str "left") (.cons (.bl true) (.cons (.tup (.cons (.int 0) (.cons (.int 0) .nil))) (.cons (.bl false) (.cons (.tup (.cons (.bl true) .nil)) (.cons (.str "done") (.cons (.bl true) .nil))))))))))
    (.seq (.ret (.cmp .eq (.bi .repr (.cons (.lst (.cons (.call "covers" (.cons (.slot 8) (.cons (.slot 9) .nil)) [] .nil) (.cons (.call "covers" (.cons (.slot 9) (.cons (.slot 8) .nil)) [] .nil) .nil))) .nil)) (.bi .repr (.cons (.lst (.cons (.bl true) (.cons (.bl false) .nil))) .nil))))
    .skip))))) }
def tb : List Df := [⟨"face_of", ["report", "took", "reader", "told", "sent", "ended", "gone", "state", "lost"], topS 1, fface_of⟩,
  ⟨"needs_of", ["report"], topS 2, fneeds_of⟩,
  ⟨"covers", ["report", "other", "one", "two"], topS 3, fcovers⟩,
  ⟨"_law_pen", ["_law_script"], topS 5, g_pen⟩,
  ⟨"_law_draw", ["_law_pen_here", "_law_many", "_law_digit", "_law_at", "_law_cell", "_law_great", "_law_mixed"], topS 6, g_draw⟩,
  ⟨"_law_pick", ["_law_pen_here", "_law_some"], topS 7, g_pick⟩,
  ⟨"_law_report", ["_law_pen_here", "_law_limit", "_law_took", "_law_reader", "_law_told", "_law_ended", "_law_signs", "_law_sent", "_law_low", "_law_k", "_law_gone", "_law_state"], topS 8, g_report⟩,
  ⟨"_law_moved", ["_law_pen_here", "_law_row", "_law_signs", "_law_sent", "_law_low", "_law_need", "_law_gone"], topS 9, g_moved⟩,
  ⟨"_law_other", ["_law_pen_here", "_law_row", "_law_way"], topS 10, g_other⟩,
  ⟨"_law_due", ["_law_one", "_law_two", "_law_pairs", "_law_k", "_law_low", "_law_high"], topS 11, g_due⟩,
  ⟨"law", ["_law_script", "_law_pen_here", "_law_turn", "_law_row", "_law_rows", "_law_some", "_law_one", "_law_two", "_law_low", "_law_high"], topS 12, flaw⟩]
def bl : List Str := ["len", "int", "abs", "repr", "list", "tuple", "max", "min", "all", "range", "zip"]
def loose : List Str := ["face_of", "needs_of", "covers", "_law_pen", "_law_draw", "_law_pick", "_law_report", "_law_moved", "_law_other", "_law_due"]
-- law at 12; bad 0; constants []
def hk : PySem.W.Hook := He.hookD 4 (faOf tb bl) (tb.map dfd)
def ob (s : PySem.W.SharedT) : He.AlD := He.obsDG 4 (faOf tb bl) (tb.map dfd) (HandSHeadRun.getT s)
theorem ob_eq (s : PySem.W.SharedT) : ob s = hk.obs s.abs := He.obsDG_eq (HandSHeadRun.getT_eq s)
theorem run (w : World) : HandSHeadRun.RunEq (PySem.W.OpenLaw.row rw0) (PySem.W.view (PySem.W.OpenLaw.row rw0).prog [12]) hk ob 2000 loose w := by
  intro os
  kernel_rfl
theorem matches_ : mAll bl tb = true := by kernel_rfl
end Y
namespace Y
open PySem

def Cx (k : Nat) : Ctx := { call := runF (prgOf tb []) 100000 k, glob := fun y => (prgOf tb []).con.lookup y, fuel := 100000 }
theorem call_eq {k : Nat} {x : Str} {D : FD} (e : (prgOf tb []).fns.lookup x = some D) (xs : List W) (kw : List (Str × W)) (h : Hb) : (Cx (k + 1)).call x xs kw h = stepF (Cx k) D xs kw h := runF_step e xs kw h
def dc : Dc := ⟨71999, 821, 2147483549, 50227, 139, 2147483629, 107, 60161, 59, 2147483587⟩
theorem dc_ok : dc.ok := by constructor <;> decide
theorem l_draw : (prgOf tb []).fns.lookup ("_law_draw" : Str) = some (dc.fd ["_law_pen_here", "_law_many"]) := by kernel_rfl
theorem l_pick : (prgOf tb []).fns.lookup ("_law_pick" : Str) = some (pickFD ["_law_pen_here", "_law_some"]) := by kernel_rfl
theorem l_pen : (prgOf tb []).fns.lookup ("_law_pen" : Str) = some (penFD ["_law_script"]) := by kernel_rfl
theorem draws (k : Nat) : Draws (Cx (k + 1)) := fun P n m r h1 h2 h3 h4 => by
  rw [call_eq l_draw]
  exact Dc.draw_ok (Cx k) dc dc_ok P h1 h2 h3 h4
theorem picks (k : Nat) : Picks (Cx (k + 2)) := fun P n ws r h1 h2 h3 h4 => by
  rw [call_eq l_pick]
  exact pick_ok (draws k) P h1 h2 h3 h4

/-! ### reports -/
structure Rp where
  took : Int
  reader : Str
  told : Bool
  sent : List Int
  ended : Bool
  gone : List Bool
  state : Str
  lost : Bool
def bW (l : List Bool) : List W := l.map .bl
def iW (l : List Int) : List W := l.map .int
@[simp] theorem iW_len (l : List Int) : (iW l).length = l.length := by simp [iW]
@[simp] theorem bW_len (l : List Bool) : (bW l).length = l.length := by simp [bW]
def Rp.ws (r : Rp) : List W := [.int r.took, .str r.reader, .bl r.told, .tup (iW r.sent), .bl r.ended, .tup (bW r.gone), .str r.state, .bl r.lost]
structure Rp.good (r : Rp) : Prop where
  l1 : r.sent.length ≤ 20
  l2 : r.gone.length ≤ 20
  s1 : PyData.strOk r.reader = true
  s2 : PyData.strOk r.state = true
  s3 : reprOf [] (.str r.reader) ≠ none
structure Face where
  took : Int
  reader : Str
  told : Bool
  n : Nat
  ended : Bool
  m : Nat
  state : Str
  lost : Bool
  deriving DecidableEq
def Rp.face (r : Rp) : Face := ⟨r.took, r.reader, r.told, r.sent.length, r.ended, r.gone.length, r.state, r.lost⟩
def Face.w (f : Face) : W := .tup [.int f.took, .str f.reader, .bl f.told, .int f.n, .bl f.ended, .int f.m, .str f.state, .bl f.lost]
theorem l_face : (prgOf tb []).fns.lookup ("face_of" : Str) = some fface_of := by kernel_rfl
theorem face_ok (k : Nat) (r : Rp) (h : Hb) : (Cx (k + 1)).call "face_of" [.tup r.ws] [] h = .ok r.face.w h := by
  rw [call_eq l_face, stepF_of (σ := [some (.tup r.ws), none, none, none, none, none, none, none, none]) rfl]
  simp [fface_of, Rp.ws, setT, setTs, Rp.face, Face.w, iW, bW]
theorem l_needs : (prgOf tb []).fns.lookup ("needs_of" : Str) = some fneeds_of := by kernel_rfl
theorem needs_ok (k : Nat) (r : Rp) (g : r.good) (h : Hb) : (Cx (k + 1)).call "needs_of" [.tup r.ws] [] h = .ok (.tup (iW r.sent ++ bW r.gone)) h := by
  rw [call_eq l_needs, stepF_of (σ := [some (.tup r.ws)]) rfl]
  have c1 : r.gone.length ≤ 16777216 := by have := g.l2; omega
  have c2 : r.sent.length + r.gone.length ≤ 16777216 := by have := g.l1; have := g.l2; omega
  simp [fneeds_of, Rp.ws, L2.ixN, iW, bW, c1, c2]
theorem eqv_sym_b (a b : Bool) : (a == b) = decide (a = b) := by cases a <;> cases b <;> rfl
theorem face_eq (h : Hb) (a b : Rp) (ga : a.good) (gb : b.good) : eqD h a.face.w b.face.w = some (decide (a.face = b.face)) := by
  have e : PyData.eqv (.tuple [.int a.took, .str a.reader, .bool a.told, .int a.sent.length, .bool a.ended, .int a.gone.length, .str a.state, .bool a.lost]) (.tuple [.int b.took, .str b.reader, .bool b.told, .int b.sent.length, .bool b.ended, .int b.gone.length, .str b.state, .bool b.lost]) = decide (a.face = b.face) := by
    rw [Bool.eq_iff_iff]
    simp [PyData.eqv, PyData.eqvAll, Rp.face, Int.ofNat_inj]
  simp [Face.w, eqD, eqG, W.pd, W.pds, SeqAt.shaped, PyData.canLay0, PyData.canLayAll0, PyData.depth, PyData.depthAll, ga.s1, ga.s2, gb.s1, gb.s2, Rp.face]
  simpa [Rp.face] using e

/-! ### covers -/
def leW : W → W
  | .tup [.int i, .int j] => .bl (decide (i ≤ j))
  | .tup [.bl p, .bl q] => .bl (!p || q)
  | _ => .non
def pairs (a b : Rp) : List W := (a.sent.zip b.sent).map (fun p => W.tup [.int p.1, .int p.2]) ++ (a.gone.zip b.gone).map (fun p => W.tup [.bl p.1, .bl p.2])
def leBs (a b : Rp) : List Bool := (a.sent.zip b.sent).map (fun p => decide (p.1 ≤ p.2)) ++ (a.gone.zip b.gone).map (fun p => !p.1 || p.2)
def coversB (a b : Rp) : Bool := decide (a.face = b.face) && (leBs a b).all id
theorem zip_two (a b : Rp) (hf : a.face = b.face) : zipW (iW a.sent ++ bW a.gone) (iW b.sent ++ bW b.gone) = .tup (pairs a b) := by
  have l1 : a.sent.length = b.sent.length := congrArg Face.n hf
  unfold zipW pairs iW bW
  rw [List.zip_append (by simpa using l1), List.map_append, List.zip_map, List.zip_map, List.map_map, List.map_map]
  rfl
@[simp] theorem truthsW_bls : ∀ is : List Bool, truthsW (is.map .bl) = some is
  | [] => rfl
  | i :: is => by simp [truthsW, truthsW_bls is]
theorem l_covers : (prgOf tb []).fns.lookup ("covers" : Str) = some fcovers := by kernel_rfl
theorem covers_step (k : Nat) (a b : Rp) (ga : a.good) (gb : b.good) (h : Hb) : kFin (evalS (Cx (k + 1)) fcovers.body [some (.tup a.ws), some (.tup b.ws), none, none] h) = .ok (.bl (coversB a b)) h := by
  have e0 := face_eq h a b ga gb
  unfold coversB
  by_cases hf : a.face = b.face
  · have zz := zip_two a b hf
    have lz : (pairs a b).length ≤ 40 := by
      have := ga.l1; have := ga.l2
      simp only [pairs, List.length_append, List.length_map, List.length_zip]; omega
    have turn : ∀ w ∈ pairs a b, turnC (Cx (k + 1)) (.cmp .le (.slot 2) (.slot 3)) (.tp (.cons (.nm 2) (.cons (.nm 3) .nil))) (.bl true) [2, 3] [some (.tup a.ws), some (.tup b.ws), none, none] w h = .ok (some (leW w)) h := by
      intro w hw
      rcases List.mem_append.mp hw with q | q
      · obtain ⟨p, _, rfl⟩ := List.mem_map.mp q
        refine turnC_t (σ' := [some (.tup a.ws), some (.tup b.ws), some (.int p.1), some (.int p.2)]) rfl ?_
        simp [leW]
      · obtain ⟨p, _, rfl⟩ := List.mem_map.mp q
        refine turnC_t (σ' := [some (.tup a.ws), some (.tup b.ws), some (.bl p.1), some (.bl p.2)]) rfl ?_
        simp [leW]
    have em : (pairs a b).map leW = (leBs a b).map .bl := by
      simp only [pairs, leBs, List.map_append, List.map_map]
      congr 1
    have fm := forC_map (f := turnC (Cx (k + 1)) (.cmp .le (.slot 2) (.slot 3)) (.tp (.cons (.nm 2) (.cons (.nm 3) .nil))) (.bl true) [2, 3] [some (.tup a.ws), some (.tup b.ws), none, none]) (ok := fun _ => true) (g := leW) (h := h) rfl (pairs a b) [] turn (by simp only [List.length_nil]; omega)
    rw [em] at fm
    simp only [List.nil_append] at fm
    have al : builtin .all [.lit ((leBs a b).map .bl)] h = some (.bl ((leBs a b).all id)) := by simp [builtin, itemsL]
    have e1 := face_eq h b b gb gb
    simp [fcovers, face_ok, e1, hf, needs_ok, ga, gb, zz, fm, al]
  · simp [fcovers, face_ok, e0, hf]
theorem covers_ok (k : Nat) (a b : Rp) (ga : a.good) (gb : b.good) (h : Hb) : (Cx (k + 2)).call "covers" [.tup a.ws, .tup b.ws] [] h = .ok (.bl (coversB a b)) h := by
  rw [call_eq l_covers, stepF_of (σ := [some (.tup a.ws), some (.tup b.ws), none, none]) rfl]
  exact covers_step k a b ga gb h
theorem covers_kw (k : Nat) (a b : Rp) (ga : a.good) (gb : b.good) (h : Hb) : (Cx (k + 2)).call "covers" [] [("other", .tup b.ws), ("report", .tup a.ws)] h = .ok (.bl (coversB a b)) h := by
  rw [call_eq l_covers, stepF_of (σ := [some (.tup a.ws), some (.tup b.ws), none, none]) rfl]
  exact covers_step k a b ga gb h

/-! ### the law's own -/
theorem ne_l6 (h : Hb) (a b : Rp) (ga : a.good) (gb : b.good) : eqD h (.lit [.int a.took, .str a.reader, .bl a.told, .bl a.ended, .str a.state, .bl a.lost]) (.lit [.int b.took, .str b.reader, .bl b.told, .bl b.ended, .str b.state, .bl b.lost]) =
    some (decide (a.took = b.took ∧ a.reader = b.reader ∧ a.told = b.told ∧ a.ended = b.ended ∧ a.state = b.state ∧ a.lost = b.lost)) := by
  have e : PyData.eqv (.list [.int a.took, .str a.reader, .bool a.told, .bool a.ended, .str a.state, .bool a.lost]) (.list [.int b.took, .str b.reader, .bool b.told, .bool b.ended, .str b.state, .bool b.lost]) =
      decide (a.took = b.took ∧ a.reader = b.reader ∧ a.told = b.told ∧ a.ended = b.ended ∧ a.state = b.state ∧ a.lost = b.lost) := by
    rw [Bool.eq_iff_iff]
    simp [PyData.eqv, PyData.eqvAll]
  simp [eqD, eqG, W.pd, W.pds, SeqAt.shaped, PyData.canLay0, PyData.canLayAll0, PyData.depth, PyData.depthAll, ga.s1, ga.s2, gb.s1, gb.s2]
  simpa using e
def six (r : Rp) : List W := [.int r.took, .str r.reader, .bl r.told, .bl r.ended, .str r.state, .bl r.lost]
theorem six_cm (k : Nat) (i : Nat) (r : Rp) (σ : Sb) (h : Hb) (h3 : 3 < σ.length) (hi : σ[i]? = some (some (.tup r.ws))) (h0 : i ≠ 3) :
    evalE (Cx k) (.cm (.ix (.slot i) (.slot 3)) (.nm 3) (.tup (.cons (.int 0) (.cons (.int 1) (.cons (.int 2) (.cons (.int 4) (.cons (.int 6) (.cons (.int 7) .nil))))))) (.bl true) [3]) σ h = .ok (.lit (six r)) h := by
  have turn : ∀ (j : Nat) (v : W), r.ws[j]? = some v → turnC (Cx k) (.ix (.slot i) (.slot 3)) (.nm 3) (.bl true) [3] σ (.int j) h = .ok (some v) h := by
    intro j v hv
    have hj : j < 8 := (List.getElem?_eq_some_iff.mp hv).1
    refine turnC_t (σ' := σ.set 3 (some (.int j))) (by simp [setT, wipe, h3]) ?_
    have e1 : (σ.set 3 (some (.int (j : Int))))[i]? = some (some (.tup r.ws)) := by
      rw [List.getElem?_set_ne (by omega), hi]
    have e2 : (σ.set 3 (some (.int (j : Int))))[3]? = some (some (.int j)) := by
      rw [List.getElem?_set_self (by simpa using h3)]
    have e3 : L2.ixN r.ws.length (j : Int) = some j := ixN_nat hj
    simp [e1, e2, e3, hv]
  have t0 : turnC (Cx k) (.ix (.slot i) (.slot 3)) (.nm 3) (.bl true) [3] σ (.int 0) h = _ := turn 0 _ rfl
  have t1 : turnC (Cx k) (.ix (.slot i) (.slot 3)) (.nm 3) (.bl true) [3] σ (.int 1) h = _ := turn 1 _ rfl
  have t2 : turnC (Cx k) (.ix (.slot i) (.slot 3)) (.nm 3) (.bl true) [3] σ (.int 2) h = _ := turn 2 _ rfl
  have t4 : turnC (Cx k) (.ix (.slot i) (.slot 3)) (.nm 3) (.bl true) [3] σ (.int 4) h = _ := turn 4 _ rfl
  have t6 : turnC (Cx k) (.ix (.slot i) (.slot 3)) (.nm 3) (.bl true) [3] σ (.int 6) h = _ := turn 6 _ rfl
  have t7 : turnC (Cx k) (.ix (.slot i) (.slot 3)) (.nm 3) (.bl true) [3] σ (.int 7) h = _ := turn 7 _ rfl
  simp
  rw [forC_some t0 rfl (by simp), forC_some t1 rfl (by simp), forC_some t2 rfl (by simp), forC_some t4 rfl (by simp), forC_some t6 rfl (by simp), forC_some t7 rfl (by simp), forC_nil rfl]
  rfl

def ips (a b : Rp) : List (Int × Int) := a.sent.zip b.sent ++ (a.gone.zip b.gone).map fun p => ((if p.1 = true then 1 else 0), (if p.2 = true then 1 else 0))
def ipW (p : Int × Int) : W := .tup [.int p.1, .int p.2]
def bad (a b : Rp) : List Int := (ips a b).filterMap fun p => if p.2 < p.1 then some 1 else none
theorem le_01 (p q : Bool) : (¬ (if q = true then (1 : Int) else 0) < (if p = true then 1 else 0)) ↔ (!p || q) = true := by cases p <;> cases q <;> decide
theorem bad_nil (a b : Rp) : (bad a b).isEmpty = (leBs a b).all id := by
  rw [Bool.eq_iff_iff]
  simp only [bad, ips, leBs, List.isEmpty_iff, List.filterMap_eq_nil_iff, List.all_eq_true, List.mem_append, List.mem_map, id]
  constructor
  · rintro hh x (⟨p, hp, rfl⟩ | ⟨p, hp, rfl⟩)
    · have := hh p (.inl hp)
      split at this
      · cases this
      · exact decide_eq_true (by omega)
    · have := hh _ (.inr ⟨p, hp, rfl⟩)
      refine (le_01 _ _).mp fun c => ?_
      rw [if_pos c] at this
      cases this
  · rintro hh x (hp | ⟨p, hp, rfl⟩)
    · have := of_decide_eq_true (hh _ (.inl ⟨x, hp, rfl⟩))
      rw [if_neg (by omega)]
    · rw [if_neg ((le_01 _ _).mpr (hh _ (.inr ⟨p, hp, rfl⟩)))]
theorem l_due : (prgOf tb []).fns.lookup ("_law_due" : Str) = some g_due := by kernel_rfl
theorem face_iff (a b : Rp) : a.face = b.face ↔ (a.took = b.took ∧ a.reader = b.reader ∧ a.told = b.told ∧ a.ended = b.ended ∧ a.state = b.state ∧ a.lost = b.lost) ∧ a.sent.length = b.sent.length ∧ a.gone.length = b.gone.length := by
  simp only [Rp.face, Face.mk.injEq]
  constructor
  · rintro ⟨h1, h2, h3, h4, h5, h6, h7, h8⟩; exact ⟨⟨h1, h2, h3, h5, h7, h8⟩, h4, h6⟩
  · rintro ⟨⟨h1, h2, h3, h5, h7, h8⟩, h4, h6⟩; exact ⟨h1, h2, h3, h4, h5, h6, h7, h8⟩
theorem due_ok (k : Nat) (a b : Rp) (ga : a.good) (gb : b.good) (h : Hb) : (Cx (k + 1)).call "_law_due" [.tup a.ws, .tup b.ws] [] h = .ok (.bl (coversB a b)) h := by
  rw [call_eq l_due, stepF_of (σ := [some (.tup a.ws), some (.tup b.ws), none, none, none, none]) rfl]
  have c0 := six_cm k 0 a [some (.tup a.ws), some (.tup b.ws), none, none, none, none] h (by simp) rfl (by decide)
  have c1 := six_cm k 1 b [some (.tup a.ws), some (.tup b.ws), none, none, none, none] h (by simp) rfl (by decide)
  have e6 := ne_l6 h a b ga gb
  have l1 := ga.l1; have l2 := ga.l2; have l3 := gb.l1; have l4 := gb.l2
  have x3 : ∀ r : Rp, getIx h (.tup r.ws) (.int 3) = some (.tup (iW r.sent)) := fun r => rfl
  have x5 : ∀ r : Rp, getIx h (.tup r.ws) (.int 5) = some (.tup (bW r.gone)) := fun r => rfl
  have z1 : zipW (bW a.gone) (bW b.gone) = .tup ((a.gone.zip b.gone).map fun p => .tup [.bl p.1, .bl p.2]) := by
    unfold zipW bW
    rw [List.zip_map, List.map_map]; rfl
  have z2 : (List.map (fun p => W.tup [p.fst, p.snd]) ((iW a.sent).zip (iW b.sent))) = (a.sent.zip b.sent).map ipW := by
    unfold iW
    rw [List.zip_map, List.map_map]; rfl
  have t1 := forC_map (f := turnC (Cx k) (.tup (.cons (.bi .int (.cons (.slot 4) .nil)) (.cons (.bi .int (.cons (.slot 5) .nil)) .nil))) (.tp (.cons (.nm 4) (.cons (.nm 5) .nil))) (.bl true) [4, 5] [some (.tup a.ws), some (.tup b.ws), none, none, none, none]) (ok := fun _ => true)
    (g := fun w => match w with | .tup [.bl p, .bl q] => ipW ((if p = true then 1 else 0), (if q = true then 1 else 0)) | _ => .non) (h := h) rfl ((a.gone.zip b.gone).map fun p => .tup [.bl p.1, .bl p.2]) [] (by
      intro w hw
      obtain ⟨p, _, rfl⟩ := List.mem_map.mp hw
      refine turnC_t (σ' := [some (.tup a.ws), some (.tup b.ws), none, none, some (.bl p.1), some (.bl p.2)]) rfl ?_
      simp [ipW]) (by simp; omega)
  rw [List.map_map] at t1
  have t2 : List.map ((fun w => match w with | .tup [.bl p, .bl q] => ipW ((if p = true then 1 else 0), (if q = true then 1 else 0)) | _ => .non) ∘ fun p => W.tup [W.bl p.1, W.bl p.2]) (a.gone.zip b.gone) = ((a.gone.zip b.gone).map fun p => ((if p.1 = true then (1 : Int) else 0), (if p.2 = true then (1 : Int) else 0))).map ipW := by
    rw [List.map_map]; rfl
  rw [t2] at t1
  simp only [List.nil_append] at t1
  have ad : binop .add (.lit ((a.sent.zip b.sent).map ipW)) (.lit (((a.gone.zip b.gone).map fun p => ((if p.1 = true then (1 : Int) else 0), (if p.2 = true then (1 : Int) else 0))).map ipW)) h = .ok (.lit ((ips a b).map ipW)) h := by
    rw [add_ll (by simp only [List.length_map, List.length_zip]; omega), ← List.map_append]; rfl
  have t3 := forC_fm (f := turnC (Cx k) (.int 1) (.tp (.cons (.nm 4) (.cons (.nm 5) .nil))) (.cmp .gt (.slot 4) (.slot 5)) [4, 5] [some (.tup a.ws), some (.tup b.ws), some (.lit ((ips a b).map ipW)), none, none, none]) (ok := fun _ => true)
    (g := fun w => match w with | .tup [.int i, .int j] => if j < i then some (.int 1) else none | _ => none) (h := h) rfl ((ips a b).map ipW) [] (by
      intro w hw
      obtain ⟨p, _, rfl⟩ := List.mem_map.mp hw
      have := turnC_b (C := Cx k) (elt := .int 1) (c := .cmp .gt (.slot 4) (.slot 5)) (t := .tp (.cons (.nm 4) (.cons (.nm 5) .nil))) (own := [4, 5]) (σ := [some (.tup a.ws), some (.tup b.ws), some (.lit ((ips a b).map ipW)), none, none, none])
        (σ' := [some (.tup a.ws), some (.tup b.ws), some (.lit ((ips a b).map ipW)), none, some (.int p.1), some (.int p.2)]) (x := ipW p) (v := .int 1) (h := h) (h1 := h) (h2 := h) (b := decide (p.2 < p.1)) rfl (by simp) (fun _ => by simp) (fun _ => rfl)
      rw [this]
      simp [ipW]) (by simp [ips]; omega)
  have t4 : ((ips a b).map ipW).filterMap (fun w => match w with | .tup [.int i, .int j] => if j < i then some (W.int 1) else none | _ => none) = (bad a b).map .int := by
    unfold bad
    rw [List.filterMap_map, List.map_filterMap]
    congr 1
    funext p
    simp only [Function.comp, ipW]
    split <;> rfl
  rw [t4] at t3
  simp only [List.nil_append] at t3
  have fin := ne_nil_ints h (bad a b)
  rw [bad_nil] at fin
  unfold coversB
  by_cases q6 : a.took = b.took ∧ a.reader = b.reader ∧ a.told = b.told ∧ a.ended = b.ended ∧ a.state = b.state ∧ a.lost = b.lost
  · have e6' : eqD h (.lit (six a)) (.lit (six b)) = some true := by
      unfold six; rw [e6]; exact congrArg some (decide_eq_true q6)
    by_cases q7 : a.sent.length = b.sent.length
    · by_cases q8 : a.gone.length = b.gone.length
      · have hf : a.face = b.face := (face_iff a b).mpr ⟨q6, q7, q8⟩
        simp [g_due, c0, c1, e6', x3, x5, q7, q8, hf, z1, z2, t1, ad, t3, fin, setT, -List.map_append, -List.map_map]
      · have hf : ¬ a.face = b.face := fun z => q8 ((face_iff a b).mp z).2.2
        simp [g_due, c0, c1, e6', x3, x5, q7, q8, hf, Int.ofNat_inj]
    · have hf : ¬ a.face = b.face := fun z => q7 ((face_iff a b).mp z).2.1
      simp [g_due, c0, c1, e6', x3, x5, q7, hf, Int.ofNat_inj]
  · have e6' : eqD h (.lit (six a)) (.lit (six b)) = some false := by
      unfold six; rw [e6]; exact congrArg some (decide_eq_false q6)
    have hf : ¬ a.face = b.face := fun z => q6 ((face_iff a b).mp z).1
    simp [g_due, c0, c1, e6', hf]
end Y
namespace Y
open PySem
theorem strs_of {w : W} {ss : List Str} (h : w ∈ ss.map W.str) : ∃ s, w = .str s ∧ s ∈ ss := by
  obtain ⟨s, hs, e⟩ := List.mem_map.mp h
  exact ⟨s, e.symm, hs⟩
theorem penl {P : Pn} {r : Hb} {x : O} : (P.o :: (r ++ [x]))[r.length + 1]? = some x := by simp
theorem pen_recv {P : Pn} {r : Hb} {xs : List W} : recv .append (P.o :: (r ++ [.lst xs])) (.ref (r.length + 1)) = true := by simp only [recv, penl]
theorem pen_app {P : Pn} {r : Hb} {xs : List W} {v : W} (c : xs.length < 16777216) : method .append (.ref (r.length + 1)) [v] (P.o :: (r ++ [.lst xs])) = .ok .non (P.o :: (r ++ [.lst (xs ++ [v])])) := by
  simp only [method, penl]
  rw [if_pos (decide_eq_true c)]
  simp
theorem pen_tuple {P : Pn} {r : Hb} {xs : List W} : builtin .tuple [.ref (r.length + 1)] (P.o :: (r ++ [.lst xs])) = some (.tup xs) := by
  simp only [builtin, itemsL, penl]; rfl
/-- a drawn truth -/
def hE2 : E := .cmp .eq (.call "_law_draw" (.cons (.slot 0) (.cons (.int 2) .nil)) [] .nil) (.int 0)
structure Rp.lg (r : Rp) : Prop where
  lg : r.reader = "left" → r.gone.length = 1
theorem l_report : (prgOf tb []).fns.lookup ("_law_report" : Str) = some g_report := by kernel_rfl
theorem readers : ∀ s ∈ (["reading", "finished", "left"] : List Str), PyData.strOk s = true ∧ reprOf [] (.str s) ≠ none := by
  have h : ((["reading", "finished", "left"] : List Str).all fun s => PyData.strOk s && (reprOf [] (.str s)).isSome) = true := by decide +kernel
  intro s hs
  have := List.all_eq_true.mp h s hs
  simp only [Bool.and_eq_true] at this
  exact ⟨this.1, fun e => by rw [e] at this; exact absurd this.2 (by decide)⟩
theorem states : ∀ s ∈ (["done", "failed", "stuck"] : List Str), PyData.strOk s = true := by decide +kernel
def repI (n : Nat) (r : Hb) (took signs : Int) (reader : Str) (told ended : Bool) (j : Nat) (σ : Sb) (h : Hb) : Prop := ∃ (P : Pn) (low : Int) (xs : List Int) (x9 : Option W), σ = [some (.ref 0), some (.int 2), some (.int took), some (.str reader), some (.bl told), some (.bl ended), some (.int signs), some (.ref (r.length + 1)), some (.int low), x9, none, none] ∧
    h = P.o :: (r ++ [.lst (iW xs)]) ∧ Pn.ok P (n + 5 + j) ∧ 0 ≤ low ∧ low ≤ signs ∧ xs.length = j
theorem report_ok (k : Nat) {P : Pn} {n : Nat} (r : Hb) (hP : P.ok n) (hn : n ≤ 90000) : ((Cx (k + 3)).call "_law_report" [.ref 0, .int 2] [] (P.o :: r)).Ok fun w h => ∃ (a : Rp) (P' : Pn) (g : Hb), w = .lit a.ws ∧ a.good ∧ a.lg ∧ Pn.ok P' (n + 20) ∧ h = P'.o :: (r ++ g) := by
  rw [call_eq l_report, stepF_of (σ := [some (.ref 0), some (.int 2), none, none, none, none, none, none, none, none, none, none]) rfl]
  refine ok_hide fun Q hQ => ok_fin ?_
  obtain ⟨took, P1, t0, t1, o1, e1⟩ := draws (k + 1) P n 3 r hP (by omega) (by omega) (by omega)
  obtain ⟨w2, P2, hw2, o2, e2⟩ := picks k P1 (n + 1) [.str "reading", .str "finished", .str "left"] r o1 (by omega) (by simp) (by simp)
  obtain ⟨reader, rfl, hr⟩ := strs_of (ss := ["reading", "finished", "left"]) hw2
  obtain ⟨d3, P3, _, _, o3, e3⟩ := draws (k + 1) P2 (n + 1 + 1) 2 r o2 (by omega) (by omega) (by omega)
  obtain ⟨told, htold⟩ : ∃ told, told = decide (d3 = 0) := ⟨_, rfl⟩
  obtain ⟨ended, P4, _, o4, e4⟩ := and_draw (draws (k + 1)) (!told) 2 r o3 (by omega) (by omega) (by omega)
  obtain ⟨d5, P5, q5, q5', o5, e5⟩ := draws (k + 1) P4 (n + 1 + 1 + 1 + 1) 3 (r ++ [.lst []]) o4 (by omega) (by omega) (by omega)
  have hm : ∃ m : Nat, d5 + (if ended = true then 1 else 0) = (m : Int) ∧ m ≤ 3 := ⟨(d5 + (if ended = true then 1 else 0)).toNat, by split <;> omega, by split <;> omega⟩
  obtain ⟨m, hm, hm3⟩ := hm
  obtain ⟨signs, hs⟩ : ∃ signs, signs = took + (if decide (reader = "finished") = true then 1 else 0) := ⟨_, rfl⟩
  have hs0 : 0 ≤ signs ∧ signs ≤ 3 := by rw [hs]; split <;> omega
  simp [g_report, setL, setT, e1, e2, e3, ← htold, e4]
  simp only [decide_eq_true_eq] at hs
  rw [← hs]
  simp [e5, hm, rng_small (m := m) (by omega)]
  refine ok_then (ok_for (repI n r took signs reader told ended) (fun _ _ _ _ => rfl) _ 0 _ _ ⟨P5, 0, [], none, rfl, rfl, o5, by omega, by omega, rfl⟩ ?_ ?_)
  · rintro j w hw σ h ⟨P, low, xs, x9, rfl, rfl, oP, l0, l1, lx⟩
    have hj := (rng_at hw).1
    obtain ⟨d, P', q0, q1, o', e'⟩ := draws (k + 1) P (n + 5 + (0 + j)) (signs - low + 1) (r ++ [.lst (iW xs)]) oP (by omega) (by omega) (by omega)
    have ap : method .append (.ref (r.length + 1)) [.int (low + d)] (P'.o :: (r ++ [.lst (iW xs)])) = .ok .non (P'.o :: (r ++ [.lst (iW (xs ++ [low + d]))])) := by
      rw [pen_app (by rw [iW_len]; omega)]; simp [iW]
    simp [turnF, setT, e', pen_recv, ap]
    exact ⟨P', low + d, xs ++ [low + d], some w, rfl, rfl, o'.mono (by omega), by omega, by omega, by simp [lx]⟩
  · rintro σ h ⟨P, low, xs, x9, rfl, rfl, oP, l0, l1, lx⟩
    rw [len_rng] at lx oP
    obtain ⟨gone, P6, hl, hl1, o6, e6⟩ : ∃ (gone : List Bool) (P6 : Pn), (reader = "left" → gone.length = 1) ∧ gone.length ≤ 1 ∧ Pn.ok P6 (n + 9) ∧ evalE (Cx (k + 2)) (.ite (.cmp .eq (.slot 3) (.str "left")) (.tup (.cons (.and (.slot 4) (.cmp .eq (.call "_law_draw" (.cons (.slot 0) (.cons (.int 2) .nil)) [] .nil) (.int 0))) .nil)) (.tup .nil)) [some (.ref 0), some (.int 2), some (.int took), some (.str reader), some (.bl told), some (.bl ended), some (.int signs), some (.ref (r.length + 1)), some (.int low), x9, none, none] (P.o :: (r ++ [.lst (iW xs)])) = .ok (.tup (bW gone)) (P6.o :: (r ++ [.lst (iW xs)])) := by
      by_cases c : reader = "left"
      · obtain ⟨g, P6, _, o6, e6⟩ := and_draw (draws (k + 1)) told 2 (r ++ [.lst (iW xs)]) oP (by omega) (by omega) (by omega)
        exact ⟨[g], P6, fun _ => rfl, by simp, o6.mono (by omega), by simp [c, e6, bW]⟩
      · exact ⟨[], P, fun z => absurd z c, by simp, oP.mono (by omega), by simp [c, bW]⟩
    simp only [then_nx, sSeq, sAsg, e6]
    obtain ⟨w7, P7, hw7, o7, e7⟩ := picks k P6 (n + 9) [.str "done", .str "failed", .str "stuck"] (r ++ [.lst (iW xs)]) o6 (by omega) (by simp) (by simp)
    obtain ⟨state, rfl, hst⟩ := strs_of (ss := ["done", "failed", "stuck"]) hw7
    obtain ⟨d8, P8, _, _, o8, e8⟩ := draws (k + 1) P7 (n + 9 + 1) 2 (r ++ [.lst (iW xs)]) o7 (by omega) (by omega) (by omega)
    simp [setT, e7, e8, pen_tuple]
    refine hQ _ _ ⟨⟨took, reader, told, xs, ended, gone, state, decide (d8 = 0)⟩, P8, _, rfl, ⟨by simp only; omega, by simp only; omega, (readers _ hr).1, states _ hst, (readers _ hr).2⟩, ⟨hl⟩, o8.mono (by omega), rfl⟩
end Y
namespace Y
open PySem
def movI (n : Nat) (r : Hb) (a : Rp) (signs : Int) (j : Nat) (σ : Sb) (h : Hb) : Prop := ∃ (P : Pn) (low : Int) (xs : List Int) (x5 : Option W), σ = [some (.ref 0), some (.lit a.ws), some (.int signs), some (.ref (r.length + 1)), some (.int low), x5, none] ∧
    h = P.o :: (r ++ [.lst (iW xs)]) ∧ Pn.ok P (n + j) ∧ xs.length = j
theorem l_moved : (prgOf tb []).fns.lookup ("_law_moved" : Str) = some g_moved := by kernel_rfl
theorem cut_03 {h : Hb} (a : Rp) : getCut h (.lit a.ws) none (some 3) = some (.lit [.int a.took, .str a.reader, .bl a.told]) := rfl
theorem cut_6n {h : Hb} (a : Rp) : getCut h (.lit a.ws) (some 6) none = some (.lit [.str a.state, .bl a.lost]) := rfl
theorem moved_ok (k : Nat) {P : Pn} {n : Nat} (r : Hb) (a : Rp) (ga : a.good) (la : a.lg) (hP : P.ok n) (hn : n ≤ 90000) : ((Cx (k + 3)).call "_law_moved" [.ref 0, .lit a.ws] [] (P.o :: r)).Ok fun w h => ∃ (b : Rp) (P' : Pn) (g : Hb), w = .lit b.ws ∧ b.good ∧ Pn.ok P' (n + 30) ∧ h = P'.o :: (r ++ g) := by
  rw [call_eq l_moved, stepF_of (σ := [some (.ref 0), some (.lit a.ws), none, none, none, none, none]) rfl]
  refine ok_hide fun Q hQ => ok_fin ?_
  have x0 : ∀ h, getIx h (.lit a.ws) (.int 0) = some (.int a.took) := fun _ => rfl
  have x1 : ∀ h, getIx h (.lit a.ws) (.int 1) = some (.str a.reader) := fun _ => rfl
  have x2 : ∀ h, getIx h (.lit a.ws) (.int 2) = some (.bl a.told) := fun _ => rfl
  have x3 : ∀ h, getIx h (.lit a.ws) (.int 3) = some (.tup (iW a.sent)) := fun _ => rfl
  have x4 : ∀ h, getIx h (.lit a.ws) (.int 4) = some (.bl a.ended) := fun _ => rfl
  have x5 : ∀ h, getIx h (.lit a.ws) (.int 5) = some (.tup (bW a.gone)) := fun _ => rfl
  simp [g_moved, setL, setT, x0, x1, x3, -getIx_l]
  refine ok_then (ok_for (movI n r a (a.took + if a.reader = "finished" then 1 else 0)) (fun _ _ _ _ => rfl) _ 0 _ _ ⟨P, 0, [], none, rfl, rfl, hP, rfl⟩ ?_ ?_)
  · rintro j w hw σ h ⟨P, low, xs, x5, rfl, rfl, oP, lx⟩
    have hj : j < a.sent.length := by have := (List.getElem?_eq_some_iff.mp hw).1; simpa using this
    have := ga.l1
    obtain ⟨i, hi, rfl⟩ : ∃ i, i ∈ a.sent ∧ w = .int i := by
      obtain ⟨i, h1, h2⟩ := List.mem_map.mp (List.mem_of_getElem? hw)
      exact ⟨i, h1, h2.symm⟩
    obtain ⟨w2, P', hw2, o', e'⟩ := picks (k) P (n + (0 + j)) [.int 0, .int 0, .int 1, .int (-1)] (r ++ [.lst (iW xs)]) oP (by omega) (by simp) (by simp)
    obtain ⟨d, rfl⟩ : ∃ d, w2 = .int d := by
      simp only [List.mem_cons, List.not_mem_nil, or_false] at hw2
      rcases hw2 with rfl | rfl | rfl | rfl <;> exact ⟨_, rfl⟩
    have ap : ∀ v : Int, method .append (.ref (r.length + 1)) [.int v] (P'.o :: (r ++ [.lst (iW xs)])) = .ok .non (P'.o :: (r ++ [.lst (iW (xs ++ [v]))])) := by
      intro v
      rw [pen_app (by rw [iW_len]; omega)]; simp [iW]
    simp [turnF, setT, e', pen_recv, ap]
    exact ⟨P', _, _, _, rfl, rfl, o'.mono (by omega), by simp [lx]⟩
  · rintro σ h ⟨P, low, xs, x5', rfl, rfl, oP, lx⟩
    rw [iW_len] at lx oP
    have := ga.l1
    have fin : ∀ (gone : List Bool) (P6 : Pn), gone.length ≤ 20 → Pn.ok P6 (n + 29) → Q (.lit [.int a.took, .str a.reader, .bl a.told, .tup (iW xs), .bl a.ended, .tup (bW gone), .str a.state, .bl a.lost]) (P6.o :: (r ++ [.lst (iW xs)])) := fun gone P6 hg o6 =>
      hQ _ _ ⟨⟨a.took, a.reader, a.told, xs, a.ended, gone, a.state, a.lost⟩, P6, _, rfl, ⟨by simp only; omega, hg, ga.s1, ga.s2, ga.s3⟩, o6.mono (by omega), rfl⟩
    have ad : ∀ (u v : List W) h, u.length + v.length ≤ 100 → binop .add (.lit u) (.lit v) h = .ok (.lit (u ++ v)) h := fun u v h c => add_ll (by omega)
    by_cases c : a.reader = "left"
    · cases q : a.told with
      | false => simp [setT, x1, x2, x5, x4, -getIx_l, c, q, cut_03, cut_6n, pen_tuple, ad]; rw [← c, ← q]; exact fin a.gone P ga.l2 (oP.mono (by omega))
      | true =>
        obtain ⟨d, P6, _, _, o6, e6⟩ := draws (k + 1) P (n + (0 + a.sent.length)) 3 (r ++ [.lst (iW xs)]) oP (by omega) (by omega) (by omega)
        by_cases z : d = 0
        · obtain ⟨g, hg⟩ : ∃ g, a.gone = [g] := by
            have := la.lg c
            match e : a.gone, this with
            | [g], _ => exact ⟨g, rfl⟩
          have x6 : ∀ h, getIx h (.tup (bW a.gone)) (.int 0) = some (.bl g) := fun h => by rw [hg]; rfl
          simp [setT, x1, x2, x5, x4, x6, -getIx_l, -getIx_t, c, q, cut_03, cut_6n, pen_tuple, ad, e6, z]; rw [← c, ← q]; exact fin [!g] P6 (by simp) (o6.mono (by omega))
        · simp [setT, x1, x2, x5, x4, -getIx_l, c, q, cut_03, cut_6n, pen_tuple, ad, e6, z]; rw [← c, ← q]; exact fin a.gone P6 ga.l2 (o6.mono (by omega))
    · simp [setT, x1, x2, x5, x4, -getIx_l, c, cut_03, cut_6n, pen_tuple, ad]; exact fin a.gone P ga.l2 (oP.mono (by omega))
end Y
namespace Y
open PySem
theorem cut_iW (l : List Int) (lo hi : Option Int) : ∃ l' : List Int, cutW (iW l) lo hi = iW l' ∧ l'.length ≤ l.length := by
  refine ⟨(l.drop (HT.sIx l.length 0 lo)).take (HT.sIx l.length l.length hi - HT.sIx l.length 0 lo), ?_, ?_⟩
  · unfold cutW iW
    rw [List.length_map, List.map_take, List.map_drop]
  · simp only [List.length_take, List.length_drop]; omega
theorem l_other : (prgOf tb []).fns.lookup ("_law_other" : Str) = some g_other := by kernel_rfl
theorem other_ok (k : Nat) {P : Pn} {n : Nat} (r : Hb) (a : Rp) (ga : a.good) (hP : P.ok n) (hn : n ≤ 80000) : ((Cx (k + 4)).call "_law_other" [.ref 0, .lit a.ws] [] (P.o :: r)).Ok fun w h => ∃ (b : Rp) (P' : Pn) (g : Hb), w = .lit b.ws ∧ b.good ∧ Pn.ok P' (n + 30) ∧ h = P'.o :: (r ++ g) := by
  rw [call_eq l_other, stepF_of (σ := [some (.ref 0), some (.lit a.ws), none]) rfl]
  refine ok_hide fun Q hQ => ok_fin ?_
  have x2 : ∀ h, getIx h (.lit a.ws) (.int 2) = some (.bl a.told) := fun _ => rfl
  have x3 : ∀ h, getIx h (.lit a.ws) (.int 3) = some (.tup (iW a.sent)) := fun _ => rfl
  have x4 : ∀ h, getIx h (.lit a.ws) (.int 4) = some (.bl a.ended) := fun _ => rfl
  have x7 : ∀ h, getIx h (.lit a.ws) (.int 7) = some (.bl a.lost) := fun _ => rfl
  have c7 : ∀ h, getCut h (.lit a.ws) none (some 7) = some (.lit [.int a.took, .str a.reader, .bl a.told, .tup (iW a.sent), .bl a.ended, .tup (bW a.gone), .str a.state]) := fun _ => rfl
  have c6 : ∀ h, getCut h (.lit a.ws) none (some 6) = some (.lit [.int a.took, .str a.reader, .bl a.told, .tup (iW a.sent), .bl a.ended, .tup (bW a.gone)]) := fun _ => rfl
  have c7n : ∀ h, getCut h (.lit a.ws) (some 7) none = some (.lit [.bl a.lost]) := fun _ => rfl
  have c4 : ∀ h, getCut h (.lit a.ws) none (some 4) = some (.lit [.int a.took, .str a.reader, .bl a.told, .tup (iW a.sent)]) := fun _ => rfl
  have c4n : ∀ h, getCut h (.lit a.ws) (some 4) none = some (.lit [.bl a.ended, .tup (bW a.gone), .str a.state, .bl a.lost]) := fun _ => rfl
  have c5n : ∀ h, getCut h (.lit a.ws) (some 5) none = some (.lit [.tup (bW a.gone), .str a.state, .bl a.lost]) := fun _ => rfl
  obtain ⟨l', hl', ll⟩ := cut_iW a.sent (some (-1)) none
  have cm : ∀ h, getCut h (.tup (iW a.sent)) (some (-1)) none = some (.tup (iW l')) := fun _ => by
    show some (W.tup (cutW _ _ _)) = _
    rw [hl']
  have ad : ∀ (u v : List W) h, u.length + v.length ≤ 100 → binop .add (.lit u) (.lit v) h = .ok (.lit (u ++ v)) h := fun u v h c => add_ll (by omega)
  have al := ga.l1
  have at_ : ∀ h, binop .add (.tup (iW a.sent)) (.tup (iW l')) h = .ok (.tup (iW (a.sent ++ l'))) h := fun h => by
    rw [add_tt (by simp only [iW_len]; omega)]; simp [iW]
  obtain ⟨way, P1, w0, w1, o1, e1⟩ := draws (k + 2) P n 5 r hP (by omega) (by omega) (by omega)
  have last : (evalS (Cx (k + 3)) (.seq (.ret (.call "_law_report" (.cons (.slot 0) (.cons (.int 2) .nil)) [] .nil)) .skip) [some (.ref 0), some (.lit a.ws), some (.int way)] (P1.o :: r)).Ok (Rets Q) := by
    obtain ⟨w, h, e, b, P', g, rfl, gb, _, o', rfl⟩ := report_ok k r o1 (by omega)
    simp [e]
    exact hQ _ _ ⟨b, P', g, rfl, gb, o'.mono (by omega), rfl⟩
  have fin : ∀ b : Rp, b.good → Q (.lit b.ws) (P1.o :: r) := fun b gb => hQ _ _ ⟨b, P1, [], rfl, gb, o1.mono (by omega), by simp⟩
  unfold g_other
  revert last
  generalize (S.seq (S.ret (E.call "_law_report" (.cons (.slot 0) (.cons (.int 2) .nil)) [] .nil)) S.skip) = last
  intro hlast
  by_cases q0 : way = 0
  · simp [e1, setT, q0, c7, x7, ad]
    exact fin ⟨a.took, a.reader, a.told, a.sent, a.ended, a.gone, a.state, !a.lost⟩ ⟨al, ga.l2, ga.s1, ga.s2, ga.s3⟩
  by_cases q1 : way = 1
  · subst q1
    obtain ⟨w7, P7, hw7, o7, e7⟩ := picks (k + 1) P1 (n + 1) [.str "done", .str "failed", .str "stuck"] r o1 (by omega) (by simp) (by simp)
    obtain ⟨state, rfl, hst⟩ := strs_of (ss := ["done", "failed", "stuck"]) hw7
    simp [e1, setT, c6, c7n, e7, ad]
    exact hQ _ _ ⟨⟨a.took, a.reader, a.told, a.sent, a.ended, a.gone, state, a.lost⟩, P7, [], rfl, ⟨al, ga.l2, ga.s1, states _ hst, ga.s3⟩, o7.mono (by omega), by simp⟩
  by_cases q2 : way = 2
  · subst q2
    by_cases z : (a.sent.length : Int) < 2 + (if a.ended = true then 1 else 0)
    · have lz : (a.sent ++ l').length ≤ 20 := by
        have : (if a.ended = true then (1 : Int) else 0) ≤ 1 := by split <;> omega
        simp only [List.length_append]; omega
      simp [e1, setT, x3, x4, z, -getIx_l, cut_03, c4n, cm, at_, ad]
      exact fin ⟨a.took, a.reader, a.told, a.sent ++ l', a.ended, a.gone, a.state, a.lost⟩ ⟨lz, ga.l2, ga.s1, ga.s2, ga.s3⟩
    · simp [e1, setT, x3, x4, z, -getIx_l]
      exact hlast
  by_cases q3 : way = 3
  · subst q3
    by_cases z1 : 0 < a.sent.length
    · by_cases z2 : (a.sent.length : Int) < 3
      · cases z3 : a.told with
        | false =>
          simp [e1, setT, x2, x3, x4, z1, z2, z3, -getIx_l, c4, c5n, ad]
          rw [← z3]
          exact fin ⟨a.took, a.reader, a.told, a.sent, !a.ended, a.gone, a.state, a.lost⟩ ⟨al, ga.l2, ga.s1, ga.s2, ga.s3⟩
        | true =>
          simp [e1, setT, x2, x3, x4, z1, z2, z3, -getIx_l]
          exact hlast
      · simp [e1, setT, x2, x3, x4, z1, z2, -getIx_l]
        exact hlast
    · simp [e1, setT, x2, x3, x4, z1, -getIx_l]
      exact hlast
  simp [e1, setT, q0, q1, q2, q3]
  exact hlast
end Y
namespace Y
open PySem
theorem zip_anti : ∀ {l m : List Int}, l.length = m.length → (∀ p ∈ l.zip m, p.1 ≤ p.2) → (∀ p ∈ m.zip l, p.1 ≤ p.2) → l = m
  | [], [], _, _, _ => rfl
  | [], _ :: _, h, _, _ => by simp at h
  | _ :: _, [], h, _, _ => by simp at h
  | x :: l, y :: m, h, h1, h2 => by
    have a1 := h1 (x, y) (by simp)
    have a2 := h2 (y, x) (by simp)
    simp only at a1 a2
    rw [zip_anti (l := l) (m := m) (by simpa using h) (fun p hp => h1 p (by simp [hp])) (fun p hp => h2 p (by simp [hp])), show x = y by omega]
theorem zip_antiB : ∀ {l m : List Bool}, l.length = m.length → (∀ p ∈ l.zip m, (!p.1 || p.2) = true) → (∀ p ∈ m.zip l, (!p.1 || p.2) = true) → l = m
  | [], [], _, _, _ => rfl
  | [], _ :: _, h, _, _ => by simp at h
  | _ :: _, [], h, _, _ => by simp at h
  | x :: l, y :: m, h, h1, h2 => by
    have a1 := h1 (x, y) (by simp)
    have a2 := h2 (y, x) (by simp)
    rw [zip_antiB (l := l) (m := m) (by simpa using h) (fun p hp => h1 p (by simp [hp])) (fun p hp => h2 p (by simp [hp]))]
    cases x <;> cases y <;> simp_all
theorem covers_iff (a b : Rp) : coversB a b = true ↔ a.face = b.face ∧ (∀ p ∈ a.sent.zip b.sent, p.1 ≤ p.2) ∧ ∀ p ∈ a.gone.zip b.gone, (!p.1 || p.2) = true := by
  unfold coversB leBs
  simp only [Bool.and_eq_true, decide_eq_true_eq, List.all_append, List.all_map, List.all_eq_true, Function.comp, id]
theorem covers_anti {a b : Rp} (h1 : coversB a b = true) (h2 : coversB b a = true) : a = b := by
  obtain ⟨f1, s1, g1⟩ := (covers_iff a b).mp h1
  obtain ⟨f2, s2, g2⟩ := (covers_iff b a).mp h2
  obtain ⟨⟨e1, e2, e3, e4, e5, e6⟩, l1, l2⟩ := (face_iff a b).mp f1
  have x1 := zip_anti l1 s1 s2
  have x2 := zip_antiB l2 g1 g2
  cases a; cases b
  simp only at e1 e2 e3 e4 e5 e6 x1 x2
  rw [e1, e2, e3, e4, e5, e6, x1, x2]
theorem zip_self_mem {α : Type} : ∀ {l : List α} {p : α × α}, p ∈ l.zip l → p.1 = p.2
  | [], p, h => by simp at h
  | x :: l, p, h => by
    rcases List.mem_cons.mp (by simpa using h : p ∈ (x, x) :: l.zip l) with e | e
    · rw [e]
    · exact zip_self_mem e
theorem covers_refl (a : Rp) : coversB a a = true := (covers_iff a a).mpr ⟨rfl, fun p hp => by rw [zip_self_mem hp]; exact Int.le_refl _, fun p hp => by rw [zip_self_mem hp]; cases p.2 <;> rfl⟩
theorem eqvs_int : ∀ l : List Int, PyData.eqvAll (l.map .int) (l.map .int) = true
  | [] => by simp [PyData.eqvAll]
  | x :: l => by simp [PyData.eqvAll, PyData.eqv, eqvs_int l]
theorem eqvs_bool : ∀ l : List Bool, PyData.eqvAll (l.map .bool) (l.map .bool) = true
  | [] => by simp [PyData.eqvAll]
  | x :: l => by simp [PyData.eqvAll, PyData.eqv, eqvs_bool l]
theorem pds_bools : ∀ cs : List Bool, W.pds (bW cs) = some (cs.map .bool)
  | [] => rfl
  | c :: cs => by
    have := pds_bools cs
    simp only [bW] at this
    simp [W.pds, W.pd, bW, this]
theorem lay_bools : ∀ cs : List Bool, PyData.canLayAll0 (cs.map .bool) = true
  | [] => by simp [PyData.canLayAll0]
  | c :: cs => by simp [PyData.canLayAll0, PyData.canLay0, lay_bools cs]
theorem depth_bools : ∀ cs : List Bool, PyData.depthAll (cs.map .bool) ≤ 1
  | [] => by simp [PyData.depthAll]
  | c :: cs => by
    have := depth_bools cs
    simp [PyData.depthAll, PyData.depth]; omega
theorem eq_self (a : Rp) (ga : a.good) (h : Hb) : eqD h (.tup a.ws) (.tup a.ws) = some true := by
  have d1 := depth_ints a.sent
  have d2 := depth_bools a.gone
  have hd : (PyData.tuple [.int a.took, .str a.reader, .bool a.told, .tuple (a.sent.map .int), .bool a.ended, .tuple (a.gone.map .bool), .str a.state, .bool a.lost]).depth ≤ 64 := by
    simp only [PyData.depth, PyData.depthAll]; omega
  have e0 : (W.tup a.ws).pd = some (PyData.tuple [.int a.took, .str a.reader, .bool a.told, .tuple (a.sent.map .int), .bool a.ended, .tuple (a.gone.map .bool), .str a.state, .bool a.lost]) := by
    have p1 : W.pds (iW a.sent) = _ := pds_ints a.sent
    have p2 := pds_bools a.gone
    simp [Rp.ws, W.pd, W.pds, p1, p2]
  have sh : SeqAt.shaped (PyData.tuple [.int a.took, .str a.reader, .bool a.told, .tuple (a.sent.map .int), .bool a.ended, .tuple (a.gone.map .bool), .str a.state, .bool a.lost]) = true := by
    unfold SeqAt.shaped
    rw [decide_eq_true hd]
    simp [PyData.canLay0, PyData.canLayAll0, ga.s1, ga.s2, lay_ints, lay_bools]
  show eqG h _ _ = _
  simp only [eqG, snap_t, e0, sh, Bool.and_self, if_true]
  simp [PyData.eqv, PyData.eqvAll, eqvs_int, eqvs_bool]
theorem repr_b (x : Bool) (h : Hb) : builtin .repr [.bl x] h = some (.str (if x then "True" else "False")) := by cases x <;> rfl
end Y
namespace Y
open PySem
def rtW (a : Rp) : W := .tup a.ws
theorem covT (k : Nat) (a b : Rp) (ga : a.good) (gb : b.good) (h : Hb) : (Cx (k + 2)).call "covers" [rtW a, rtW b] [] h = .ok (.bl (coversB a b)) h := covers_ok k a b ga gb h
theorem covTk (k : Nat) (a b : Rp) (ga : a.good) (gb : b.good) (h : Hb) : (Cx (k + 2)).call "covers" [] [("other", rtW b), ("report", rtW a)] h = .ok (.bl (coversB a b)) h := covers_kw k a b ga gb h
theorem dueT (k : Nat) (a b : Rp) (ga : a.good) (gb : b.good) (h : Hb) : (Cx (k + 2)).call "_law_due" [rtW a, rtW b] [] h = .ok (.bl (coversB a b)) h := due_ok (k + 1) a b ga gb h
def b7 : S := .seq (.ite (.cmp .ne (.bi .repr (.cons (.call "covers" (.cons (.slot 6) (.cons (.slot 7) .nil)) [] .nil) .nil)) (.bi .repr (.cons (.call "_law_due" (.cons (.slot 6) (.cons (.slot 7) .nil)) [] .nil) .nil)))
    (.seq (.ret (.bl false))
    .skip)
    .skip)
    (.seq (.ite (.tand (.tru (.call "covers" (.cons (.slot 6) (.cons (.slot 7) .nil)) [] .nil)) (.tand (.tru (.call "covers" (.cons (.slot 7) (.cons (.slot 6) .nil)) [] .nil)) (.cmp .ne (.slot 6) (.slot 7))))
    (.seq (.ret (.bl false))
    .skip)
    .skip)
    .skip)
def b6 : S := .seq (.for (.nm 7) (.slot 5) b7)
    (.seq (.ite (.cmp .isn (.call "covers" .nil ["other", "report"] (.cons (.slot 6) (.cons (.slot 6) .nil))) (.bl true))
    (.seq (.ret (.bl false))
    .skip)
    .skip)
    .skip)
theorem b7_ok (k : Nat) (a b : Rp) (ga : a.good) (gb : b.good) (h : Hb) (x0 x1 x2 x3 x4 x5 x7 x8 x9 : Option W) : turnF (Cx (k + 2)) (.nm 7) b7 (rtW b) [x0, x1, x2, x3, x4, x5, some (rtW a), x7, x8, x9] h = .ok (.nx [x0, x1, x2, x3, x4, x5, some (rtW a), some (rtW b), x8, x9]) h := by
  have c1 := covT k a b ga gb h
  have c2 := covT k b a gb ga h
  have c3 := dueT k a b ga gb h
  cases q1 : coversB a b with
  | false => simp [turnF, setT, b7, c1, c3, q1, repr_b]
  | true =>
    cases q2 : coversB b a with
    | false => simp [turnF, setT, b7, c1, c2, c3, q1, q2, repr_b]
    | true =>
      have e := covers_anti q1 q2
      subst e
      have es : eqD h (rtW a) (rtW a) = some true := eq_self a ga h
      simp [turnF, setT, b7, c1, c2, c3, q1, q2, repr_b, es]
def iI (h0 : Hb) (x0 x1 x2 x3 x4 x5 : Option W) (a : Option W) (x8 x9 : Option W) (j : Nat) (σ : Sb) (h : Hb) : Prop := ∃ x7, σ = [x0, x1, x2, x3, x4, x5, a, x7, x8, x9] ∧ h = h0
theorem b6_ok (k : Nat) (as : List Rp) (a : Rp) (hg : ∀ a ∈ as, a.good) (ga : a.good) (h : Hb) (x0 x1 x2 x3 x4 x6 x7 x8 x9 : Option W) :
    (turnF (Cx (k + 2)) (.nm 6) b6 (rtW a) [x0, x1, x2, x3, x4, some (.lit (as.map rtW)), x6, x7, x8, x9] h).Ok fun fl h' => ∃ y6 y7, fl = .nx [x0, x1, x2, x3, x4, some (.lit (as.map rtW)), y6, y7, x8, x9] ∧ h' = h := by
  have go : (forL (turnF (Cx (k + 2)) (.nm 7) b7) (fun _ => true) (as.map rtW) [x0, x1, x2, x3, x4, some (.lit (as.map rtW)), some (rtW a), x7, x8, x9] h).Ok fun fl h' => ∃ y7, fl = .nx [x0, x1, x2, x3, x4, some (.lit (as.map rtW)), some (rtW a), y7, x8, x9] ∧ h' = h := by
    refine ok_for (iI h x0 x1 x2 x3 x4 (some (.lit (as.map rtW))) (some (rtW a)) x8 x9) (fun _ _ _ _ => rfl) _ 0 _ _ ⟨x7, rfl, rfl⟩ ?_ ?_
    · rintro j w hw σ h' ⟨y7, rfl, rfl⟩
      obtain ⟨b, hb, rfl⟩ := List.mem_map.mp (List.mem_of_getElem? hw)
      rw [b7_ok k a b ga (hg b hb)]
      exact ⟨_, _, rfl, _, rfl, rfl⟩
    · rintro σ h' ⟨y7, rfl, rfl⟩
      exact ⟨_, rfl, rfl⟩
  obtain ⟨fl, h', e, y7, rfl, rfl⟩ := go
  have c := covTk k a a ga ga h'
  rw [covers_refl] at c
  refine ⟨_, _, ?_, some (rtW a), y7, rfl, rfl⟩
  simp [turnF, setT, b6, e, c]
def lb38 : S := .seq (.asg (.nm 3) (.call "_law_report" (.cons (.slot 1) (.cons (.int 2) .nil)) [] .nil))
    (.seq (.asg (.nm 4) (.lst (.cons (.slot 3) (.cons (.call "_law_moved" (.cons (.slot 1) (.cons (.slot 3) .nil)) [] .nil) (.cons (.call "_law_moved" (.cons (.slot 1) (.cons (.slot 3) .nil)) [] .nil) (.cons (.call "_law_other" (.cons (.slot 1) (.cons (.slot 3) .nil)) [] .nil) (.cons (.call "_law_report" (.cons (.slot 1) (.cons (.int 2) .nil)) [] .nil) .nil)))))))
    (.seq (.asg (.nm 5) (.cm (.bi .tuple (.cons (.slot 6) .nil)) (.nm 6) (.slot 4) (.bl true) [6]))
    (.seq (.for (.nm 6) (.slot 5) b6)
    .skip)))
def lI (s0 : Option W) (j : Nat) (σ : Sb) (h : Hb) : Prop := ∃ (P : Pn) (r : Hb) (x2 x3 x4 x5 x6 x7 : Option W), σ = [s0, some (.ref 0), x2, x3, x4, x5, x6, x7, none, none] ∧ h = P.o :: r ∧ Pn.ok P (200 * j)
def jI (h0 : Hb) (x0 x1 x2 x3 x4 x5 : Option W) (j : Nat) (σ : Sb) (h : Hb) : Prop := ∃ x6 x7, σ = [x0, x1, x2, x3, x4, x5, x6, x7, none, none] ∧ h = h0
theorem lb38_ok (k : Nat) {P : Pn} {n : Nat} (r : Hb) (hP : P.ok n) (hn : n ≤ 50000) (w : W) (s0 x2 x3 x4 x5 x6 x7 : Option W) : (turnF (Cx (k + 4)) (.nm 2) lb38 w [s0, some (.ref 0), x2, x3, x4, x5, x6, x7, none, none] (P.o :: r)).Ok fun fl h => ∃ (P' : Pn) (r' : Hb) (y3 y4 y5 y6 y7 : Option W), fl = .nx [s0, some (.ref 0), some w, y3, y4, y5, y6, y7, none, none] ∧ h = P'.o :: r' ∧ Pn.ok P' (n + 200) := by
  obtain ⟨_, _, e1, a1, P1, r1, rfl, g1, lg1, o1, rfl⟩ := report_ok (k + 1) r hP (by omega)
  obtain ⟨_, _, e2, a2, P2, r2, rfl, g2, o2, rfl⟩ := moved_ok (k + 1) (r ++ r1) a1 g1 lg1 o1 (by omega)
  obtain ⟨_, _, e3, a3, P3, r3, rfl, g3, o3, rfl⟩ := moved_ok (k + 1) (r ++ r1 ++ r2) a1 g1 lg1 o2 (by omega)
  obtain ⟨_, _, e4, a4, P4, r4, rfl, g4, o4, rfl⟩ := other_ok k (r ++ r1 ++ r2 ++ r3) a1 g1 o3 (by omega)
  obtain ⟨_, _, e5, a5, P5, r5, rfl, g5, _, o5, rfl⟩ := report_ok (k + 1) (r ++ r1 ++ r2 ++ r3 ++ r4) o4 (by omega)
  have hg : ∀ a ∈ [a1, a2, a3, a4, a5], a.good := by
    intro a ha
    simp only [List.mem_cons, List.not_mem_nil, or_false] at ha
    rcases ha with rfl | rfl | rfl | rfl | rfl <;> assumption
  obtain ⟨as, has⟩ : ∃ as, as = [a1, a2, a3, a4, a5] := ⟨_, rfl⟩
  rw [← has] at hg
  obtain ⟨R5, hR⟩ : ∃ R5, R5 = P5.o :: (r ++ r1 ++ r2 ++ r3 ++ r4 ++ r5) := ⟨_, rfl⟩
  have el : (List.map (fun a : Rp => W.lit a.ws) as) = [W.lit a1.ws, W.lit a2.ws, W.lit a3.ws, W.lit a4.ws, W.lit a5.ws] := by rw [has]; rfl
  have cm : ∀ s5 : Option W, forC (turnC (Cx (k + 4)) (.bi .tuple (.cons (.slot 6) .nil)) (.nm 6) (.bl true) [6] [s0, some (.ref 0), some w, some (.lit a1.ws), some (.lit [W.lit a1.ws, W.lit a2.ws, W.lit a3.ws, W.lit a4.ws, W.lit a5.ws]), s5, x6, x7, none, none]) (fun _ => true) [W.lit a1.ws, W.lit a2.ws, W.lit a3.ws, W.lit a4.ws, W.lit a5.ws] [] R5 = .ok (as.map rtW) R5 := by
    intro s5
    have fm := forC_map (f := turnC (Cx (k + 4)) (.bi .tuple (.cons (.slot 6) .nil)) (.nm 6) (.bl true) [6] [s0, some (.ref 0), some w, some (.lit a1.ws), some (.lit [W.lit a1.ws, W.lit a2.ws, W.lit a3.ws, W.lit a4.ws, W.lit a5.ws]), s5, x6, x7, none, none]) (ok := fun _ => true) (g := fun w => match w with | .lit xs => .tup xs | _ => .non) (h := R5) rfl (as.map fun a : Rp => W.lit a.ws) [] (by
      intro w' hw
      obtain ⟨a, _, rfl⟩ := List.mem_map.mp hw
      refine turnC_t (σ' := [s0, some (.ref 0), some w, some (.lit a1.ws), some (.lit [W.lit a1.ws, W.lit a2.ws, W.lit a3.ws, W.lit a4.ws, W.lit a5.ws]), s5, some (.lit a.ws), x7, none, none]) rfl ?_
      simp) (by rw [has]; simp)
    rw [List.map_map, el] at fm
    exact fm
  have lp : (forL (turnF (Cx (k + 4)) (.nm 6) b6) (fun _ => true) (as.map rtW) [s0, some (.ref 0), some w, some (.lit a1.ws), some (.lit [W.lit a1.ws, W.lit a2.ws, W.lit a3.ws, W.lit a4.ws, W.lit a5.ws]), some (.lit (as.map rtW)), x6, x7, none, none] R5).Ok fun fl h' => ∃ y6 y7, fl = .nx [s0, some (.ref 0), some w, some (.lit a1.ws), some (.lit [W.lit a1.ws, W.lit a2.ws, W.lit a3.ws, W.lit a4.ws, W.lit a5.ws]), some (.lit (as.map rtW)), y6, y7, none, none] ∧ h' = R5 := by
    refine ok_for (jI R5 s0 (some (.ref 0)) (some w) (some (.lit a1.ws)) (some (.lit [W.lit a1.ws, W.lit a2.ws, W.lit a3.ws, W.lit a4.ws, W.lit a5.ws])) (some (.lit (as.map rtW)))) (fun _ _ _ _ => rfl) _ 0 _ _ ⟨x6, x7, rfl, rfl⟩ ?_ ?_
    · rintro j w' hw σ h' ⟨y6, y7, rfl, rfl⟩
      obtain ⟨b, hb, rfl⟩ := List.mem_map.mp (List.mem_of_getElem? hw)
      obtain ⟨_, _, e, z6, z7, rfl, rfl⟩ := b6_ok (k + 2) as b hg (hg b hb) h' s0 (some (.ref 0)) (some w) (some (.lit a1.ws)) (some (.lit [W.lit a1.ws, W.lit a2.ws, W.lit a3.ws, W.lit a4.ws, W.lit a5.ws])) y6 y7 none none
      exact ⟨_, _, e, z6, z7, rfl, rfl⟩
    · rintro σ h' ⟨y6, y7, rfl, rfl⟩
      exact ⟨_, _, rfl, rfl⟩
  obtain ⟨_, _, e6, y6, y7, rfl, rfl⟩ := lp
  refine ⟨_, _, ?_, P5, _, some (.lit a1.ws), some (.lit [W.lit a1.ws, W.lit a2.ws, W.lit a3.ws, W.lit a4.ws, W.lit a5.ws]), some (.lit (as.map rtW)), y6, y7, rfl, hR, o5.mono (by omega)⟩
  simp only [turnF, setT, List.length_cons, List.length_nil, Nat.reduceAdd, Nat.reduceLT, if_true, lb38]
  simp [setT, e1, e2, e3, e4, e5, ← hR, cm, e6, -List.cons_append, -List.append_assoc]
end Y
namespace Y
open PySem
theorem l_law : (prgOf tb []).fns.lookup ("law" : Str) = some flaw := by kernel_rfl
def lowR : Rp := ⟨0, "left", true, [0, 0], false, [false], "done", true⟩
def highR : Rp := ⟨0, "left", true, [0, 0], false, [true], "done", true⟩
theorem lowG : lowR.good := ⟨by decide, by decide, by decide +kernel, by decide +kernel, by decide +kernel⟩
theorem highG : highR.good := ⟨by decide, by decide, by decide +kernel, by decide +kernel, by decide +kernel⟩
theorem pure_law (ns : List Int) (hl : ns.length ≤ 63) : ∃ h', runF (prgOf tb []) 100000 8 "law" [.rol (ns.map W.int)] [] [] = .ok (.bl true) h' := by
  show ∃ h', (Cx (7 + 1)).call "law" [.rol (ns.map W.int)] [] [] = .ok (.bl true) h'
  have go : ((Cx (7 + 1)).call "law" [.rol (ns.map W.int)] [] []).Ok fun w _ => w = .bl true := by
    rw [call_eq l_law, stepF_of (σ := [some (.rol (ns.map W.int)), none, none, none, none, none, none, none, none, none]) rfl]
    refine ok_hide fun Q hQ => ok_fin ?_
    have ep : (Cx 7).call "_law_pen" [.rol (ns.map W.int)] [] [] = .ok (.ref 0) [Pn.o ⟨ns, 0, 0⟩] := by
      show (Cx (6 + 1)).call "_law_pen" _ _ _ = _
      rw [call_eq l_pen]
      exact pen_ok _ hl
    have eb : flaw.body = .seq (.asg (.nm 1) (.call "_law_pen" (.cons (.slot 0) .nil) [] .nil)) (.seq (.for (.nm 2) (.rng (.int 16)) lb38) (.seq (.asg (.nm 8) (.tup (.cons (.int 0) (.cons (.str "left") (.cons (.bl true) (.cons (.tup (.cons (.int 0) (.cons (.int 0) .nil))) (.cons (.bl false) (.cons (.tup (.cons (.bl false) .nil)) (.cons (.str "done") (.cons (.bl true) .nil))))))))))
    (.seq (.asg (.nm 9) (.tup (.cons (.int 0) (.cons (.str "left") (.cons (.bl true) (.cons (.tup (.cons (.int 0) (.cons (.int 0) .nil))) (.cons (.bl false) (.cons (.tup (.cons (.bl true) .nil)) (.cons (.str "done") (.cons (.bl true) .nil))))))))))
    (.seq (.ret (.cmp .eq (.bi .repr (.cons (.lst (.cons (.call "covers" (.cons (.slot 8) (.cons (.slot 9) .nil)) [] .nil) (.cons (.call "covers" (.cons (.slot 9) (.cons (.slot 8) .nil)) [] .nil) .nil))) .nil)) (.bi .repr (.cons (.lst (.cons (.bl true) (.cons (.bl false) .nil))) .nil))))
    .skip)))) := rfl
    rw [eb]
    obtain ⟨B, hB⟩ : ∃ B, B = lb38 := ⟨_, rfl⟩
    rw [← hB]
    have k16 : ∀ h, kRng (.ok (.int 16) h) = .ok (rngW 0 16) h := fun h => rng_small (m := 16) (by omega)
    simp [ep, setT, k16]
    rw [hB]
    refine ok_then (ok_for (lI (some (.rol (ns.map W.int)))) (fun _ _ _ _ => rfl) _ 0 _ _ ⟨⟨ns, 0, 0⟩, [], none, none, none, none, none, none, rfl, rfl, pen_start hl⟩ ?_ ?_)
    · rintro j w hw σ h ⟨P, r, x2, x3, x4, x5, x6, x7, rfl, rfl, o⟩
      have hj := (rng_at hw).1
      obtain ⟨_, _, e, P', r', y3, y4, y5, y6, y7, rfl, rfl, o'⟩ := lb38_ok 3 r o (by omega) w (some (.rol (ns.map W.int))) x2 x3 x4 x5 x6 x7
      exact ⟨_, _, e, P', r', _, _, _, _, _, _, rfl, rfl, by rw [show 200 * (0 + j + 1) = 200 * (0 + j) + 200 by omega]; exact o'⟩
    · rintro σ h ⟨P, r, x2, x3, x4, x5, x6, x7, rfl, rfl, o⟩
      have c1 : ∀ h, (Cx 7).call "covers" [.tup [.int 0, .str "left", .bl true, .tup [.int 0, .int 0], .bl false, .tup [.bl false], .str "done", .bl true], .tup [.int 0, .str "left", .bl true, .tup [.int 0, .int 0], .bl false, .tup [.bl true], .str "done", .bl true]] [] h = .ok (.bl true) h := fun h => covers_ok 5 lowR highR lowG highG h
      have c2 : ∀ h, (Cx 7).call "covers" [.tup [.int 0, .str "left", .bl true, .tup [.int 0, .int 0], .bl false, .tup [.bl true], .str "done", .bl true], .tup [.int 0, .str "left", .bl true, .tup [.int 0, .int 0], .bl false, .tup [.bl false], .str "done", .bl true]] [] h = .ok (.bl false) h := fun h => covers_ok 5 highR lowR highG lowG h
      have rp : ∀ h, builtin .repr [.lit [.bl true, .bl false]] h = some (.str "[True, False]") := fun h => rfl
      simp [setT, c1, c2, rp]
      exact hQ _ _ rfl
  obtain ⟨w, h', e, rfl⟩ := go
  exact ⟨h', e⟩
end Y
open PySem PySem.W PySem.Calls PyProof.Rows
theorem PySem.Challenge.cw_endspassed_k38_reports_that_cover_holds : PySem.Challenge.rw_endspassed_k38_reports_that_cover.Holds := by
  w_on; o_law
  refine HandSHeadRun.head_any (r := OpenLaw.row PySem.Challenge.rw_endspassed_k38_reports_that_cover) (q := view (OpenLaw.row PySem.Challenge.rw_endspassed_k38_reports_that_cover).prog [12]) (H := Y.hk) (ob := Y.ob) (M := 2000) (loose := Y.loose) (d := HandSHeadRun.topDef (OpenLaw.row PySem.Challenge.rw_endspassed_k38_reports_that_cover).prog 12) (kwd := []) Y.ob_eq
    (by kernel_rfl) (fun s => by kernel_rfl) Y.run (by kernel_rfl) (by kernel_rfl) (by kernel_rfl) (by rfl) (by first | assumption | decide +kernel) (by decide +kernel) ⟨rfl, rfl, rfl, rfl, rfl, by decide +kernel⟩ ?hw ?hc
  case hw => w_witness2
  case hc =>
    exact Y.top_end (n := 63) (k := 8) (fuel := 100000) (x := "law") rfl (by decide) (by kernel_rfl) ⟨rfl, by decide, by decide⟩ (by kernel_rfl) Y.matches_ (by kernel_rfl) (by decide +kernel) Y.pure_law
