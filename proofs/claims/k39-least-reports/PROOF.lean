import PyProof.Rows.All
import Wide.All
import OpenK.AllK
import Wide.FinOn
import KE.KStateDown
import HandS.ForMost
import HandS.Head0
import HandS.Head1
import HandS.Head2
import HandS.HeadEnd
import HandS.HeadHook1
import HandS.HeadHook2
import HandS.Text
import HandS.Deep
import KE.KeyNested
import HandS.TupAny
import HandS.Star
import HandS.Exc
import HandS.Dict
import HandS.List
import KE.KDictKeyed
import KE.KDictWalk
import PyProof.DictWalks
import HandS.TupLe
import HandS.Flow
import HandS.FStr
import HandS.Codes
import HandS.SortInts
import HandS.RaiseMore
import PyProof.ReprRoads
import HandS.Zip
import KE.GoesMore
import PyProof.ListNew
import KE.KDictZip
import HandS.Keys
import HandS.Comp
import HandS.DictComp
import HandS.Style
import HandS.ExcOwn
import HandS.Property
import HandS.IsInst
import HandS.Lambda
import HandS.Defaults
import HandS.Words
import PySem.Challenge.RW_endspassed_k39_least_reports
set_option Elab.async false
set_option linter.all false
set_option maxRecDepth 100000
set_option maxHeartbeats 0
/-! Y0: a small executable language Y for the linked programs: values that are trees (W), a heap for what changes, expressions E, statements S, and how they run. No PySem machine in it. -/
namespace Y
open PySem

/-! ### values -/
/-- lit: a fresh list that nobody changes; rol: a list from outside, read only; obj: an instance (or an exception) that nobody changes any more: its class, its attributes' names and values; ref: what may change, by its place in the heap -/
inductive W where
  | non
  | bl (b : Bool)
  | int (i : Int)
  | str (s : Str)
  | tup (xs : List W)
  | lit (xs : List W)
  | rol (xs : List W)
  | obj (c : Str) (ns : List Str) (xs : List W)
  | dic (ks vs : List W)
  | cls (c : Str)
  | ref (n : Nat)

mutual
def W.eqb : W → W → Bool
  | .non, .non => true
  | .bl a, .bl b => a == b
  | .int a, .int b => a == b
  | .str a, .str b => a == b
  | .tup a, .tup b => W.eqbs a b
  | .lit a, .lit b => W.eqbs a b
  | .rol a, .rol b => W.eqbs a b
  | .obj c ns a, .obj d ms b => c == d && ns == ms && W.eqbs a b
  | .dic a b, .dic c d => W.eqbs a c && W.eqbs b d
  | .cls a, .cls b => a == b
  | .ref a, .ref b => a == b
  | _, _ => false
def W.eqbs : List W → List W → Bool
  | [], [] => true
  | x :: xs, y :: ys => W.eqb x y && W.eqbs xs ys
  | _, _ => false
end
mutual
theorem W.eqb_refl : ∀ w : W, W.eqb w w = true
  | .non => rfl
  | .bl b => by simp [W.eqb]
  | .int i => by simp [W.eqb]
  | .str s => by simp [W.eqb]
  | .tup xs => by simp only [W.eqb]; exact W.eqbs_refl xs
  | .lit xs => by simp only [W.eqb]; exact W.eqbs_refl xs
  | .rol xs => by simp only [W.eqb]; exact W.eqbs_refl xs
  | .obj c ns xs => by simp [W.eqb, W.eqbs_refl xs]
  | .dic ks vs => by simp [W.eqb, W.eqbs_refl ks, W.eqbs_refl vs]
  | .cls c => by simp [W.eqb]
  | .ref n => by simp [W.eqb]
theorem W.eqbs_refl : ∀ ws : List W, W.eqbs ws ws = true
  | [] => rfl
  | w :: ws => by simp [W.eqbs, W.eqb_refl w, W.eqbs_refl ws]
end
mutual
theorem W.eqb_eq : ∀ a b : W, W.eqb a b = true → a = b
  | .non, b, h => by cases b <;> simp [W.eqb] at h ⊢
  | .bl a, b, h => by cases b <;> simp [W.eqb] at h ⊢; exact h
  | .int a, b, h => by cases b <;> simp [W.eqb] at h ⊢; exact h
  | .str a, b, h => by cases b <;> simp [W.eqb] at h ⊢; exact h
  | .tup a, b, h => by cases b <;> simp [W.eqb] at h ⊢; exact W.eqbs_eq _ _ h
  | .lit a, b, h => by cases b <;> simp [W.eqb] at h ⊢; exact W.eqbs_eq _ _ h
  | .rol a, b, h => by cases b <;> simp [W.eqb] at h ⊢; exact W.eqbs_eq _ _ h
  | .obj c ns a, b, h => by
    cases b <;> simp [W.eqb] at h ⊢
    exact ⟨h.1.1, h.1.2, W.eqbs_eq _ _ h.2⟩
  | .dic a b, c, h => by
    cases c <;> simp [W.eqb] at h ⊢
    exact ⟨W.eqbs_eq _ _ h.1, W.eqbs_eq _ _ h.2⟩
  | .cls a, b, h => by cases b <;> simp [W.eqb] at h ⊢; exact h
  | .ref a, b, h => by cases b <;> simp [W.eqb] at h ⊢; exact h
theorem W.eqbs_eq : ∀ a b : List W, W.eqbs a b = true → a = b
  | [], b, h => by cases b <;> simp [W.eqbs] at h ⊢
  | x :: xs, b, h => by
    cases b <;> simp [W.eqbs] at h ⊢
    exact ⟨W.eqb_eq _ _ h.1, W.eqbs_eq _ _ h.2⟩
end

def W.isN : W → Bool
  | .non => true
  | _ => false
/-- what changes: a list, an instance, a dict -/
inductive O where
  | lst (xs : List W)
  | ins (c : Str) (ns : List Str) (xs : List W)
  | dct (ks : List W) (vs : List W)
  /-- what was turned into a value: nobody changes it any more -/
  | dead
def O.eqb : O → O → Bool
  | .lst a, .lst b => W.eqbs a b
  | .ins c ns a, .ins d ms b => c == d && ns == ms && W.eqbs a b
  | .dct a b, .dct c d => W.eqbs a c && W.eqbs b d
  | .dead, .dead => true
  | _, _ => false
abbrev Hb := List O
abbrev Sb := List (Option W)

/-! ### data -/
mutual
def W.pd : W → Option PyData
  | .non => some .none
  | .bl b => some (.bool b)
  | .int i => some (.int i)
  | .str s => some (.str s)
  | .tup xs => match W.pds xs with | some ds => some (.tuple ds) | none => none
  | .lit xs => match W.pds xs with | some ds => some (.list ds) | none => none
  | .rol _ => none
  | .obj _ _ _ => none
  | .dic _ _ => none
  | .cls _ => none
  | .ref _ => none
def W.pds : List W → Option (List PyData)
  | [] => some []
  | x :: xs => match W.pd x, W.pds xs with | some d, some ds => some (d :: ds) | _, _ => none
end
/-! ### keys of dicts: texts and ints; tuples of data -/
mutual
def W.nk : W → Option NestedKey
  | .non => some .none
  | .bl b => some (.num (if b = true then 1 else 0))
  | .int i => some (.num i)
  | .str s => some (.text s)
  | .tup xs => match W.nks xs with | some ks => some (.tup ks) | none => none
  | _ => none
def W.nks : List W → Option (List NestedKey)
  | [] => some []
  | x :: xs => match W.nk x, W.nks xs with | some k, some ks => some (k :: ks) | _, _ => none
end
def W.isAtom : W → Bool
  | .int _ => true
  | .str _ => true
  | _ => false
def W.isTupK : W → Bool
  | .tup xs => (match W.nk (.tup xs) with | some k => decide (k.depth ≤ 8) | none => false)
  | _ => false
/-- keys of one dict are of one kind -/
def keyOk (k : W) (ks : List W) : Bool := (k.isAtom && ks.all W.isAtom) || (k.isTupK && ks.all W.isTupK)
def keyEq (a b : W) : Bool := match a.nk, b.nk with | some x, some y => NestedKey.beq x y | _, _ => false
/-- what a dict's keys are -/
def KeysOk (ks : List W) : Prop := (ks.all W.isAtom = true ∨ ks.all W.isTupK = true) ∧ (ks.map W.nk).Nodup
def findK (ks : List W) (k : W) : Option Nat := ks.findIdx? (keyEq k)
/-- none: nothing is said; some none: it is not there -/
def dGet (ks ws : List W) (k : W) : Option (Option W) := if keyOk k ks then some (match findK ks k with | some j => ws[j]? | none => none) else none
def dPut (ks ws : List W) (k v : W) : Option (List W × List W) := if keyOk k ks && decide (ks.length < 16777216) then some (match findK ks k with | some j => (ks, ws.set j v) | none => (ks ++ [k], ws ++ [v])) else none
/-- a dict: its keys, its values -/
def dOf (h : Hb) : W → Option (List W × List W)
  | .dic ks ws => some (ks, ws)
  | .ref n => (match h[n]? with | some (.dct ks ws) => some (ks, ws) | _ => none)
  | _ => none
/-- a list that may change, as it stands -/
def snap (h : Hb) : W → W
  | .ref n => match h[n]? with | some (.lst xs) => .lit xs | _ => .ref n
  | w => w

/-! ### answers -/
inductive R (α : Type) where
  | ok (a : α) (h : Hb)
  | ex (x : W) (h : Hb)
  | no
def R.bind {α β : Type} : R α → (α → Hb → R β) → R β
  | .ok a h, f => f a h
  | .ex x h, _ => .ex x h
  | .no, _ => .no
/-- how a statement ends -/
inductive Fl where
  | nx (σ : Sb) | rt (w : W) | bk (σ : Sb) | ct (σ : Sb)

/-- a statement's answer: an exception comes with the slots as they stood -/
inductive G where
  | ok (fl : Fl) (h : Hb)
  | ex (x : W) (σ : Sb) (h : Hb)
  | no
/-- a part that is an expression, then the rest -/
def R.go {α : Type} : R α → Sb → (α → Hb → G) → G
  | .ok a h, _, f => f a h
  | .ex x h, σ, _ => .ex x σ h
  | .no, _, _ => .no
def G.bind : G → (Fl → Hb → G) → G
  | .ok a h, f => f a h
  | .ex x σ h, _ => .ex x σ h
  | .no, _ => .no

/-! ### the language -/
inductive Op where
  | add | sub | mul | fdv | mod | pow
inductive Cm where
  | eq | ne | lt | le | gt | ge | is | isn | inn | nin
/-- built-in functions and types, called -/
inductive Bi where
  | len | int | abs | str | repr | list | tuple | sorted | max | min | sum | all | any | bool
/-- methods of built-in types -/
inductive Mt where
  | append | extend | pop | join | index | split | get
/-- a target of a comprehension or a for: a name, a tuple of targets -/
inductive Tg where
  | nm (i : Nat) | tp (ts : Tg) | nil | cons (a r : Tg)
/-- of one value: an attribute; what is changed no more, turned into a value -/
inductive U where
  | att (f : Str) | frz
/-- a method's call, an instance made, an instance called -/
inductive Ca where
  | meth (m : Str) | mk (c : Str) | obj
inductive E where
  /-- nothing is said of it -/
  | stop
  | un (o : U) (a : E)
  | mc (o : Ca) (a es : E) (ks : List Str) (kes : E)
  | slot (i : Nat)
  | non | bl (b : Bool) | int (i : Int) | str (s : Str)
  | glob (x : Str)
  | bin (op : Op) (a b : E)
  | neg (a : E)
  | cmp (op : Cm) (a b : E)
  | chn (o1 o2 : Cm) (a b c : E)
  | and (a b : E) | or (a b : E)
  /-- tests: the answers are truths -/
  | tand (a b : E) | tor (a b : E) | tnot (a : E) | tru (a : E)
  | ite (c a b : E)
  /-- lists of expressions; they run to a tuple -/
  | nil | cons (a r : E) | star (a r : E)
  | tup (es : E) | lst (es : E)
  /-- a fresh list, to be changed later -/
  | new (e : E)
  | newd (e : E)
  | ix (a i : E) | cut (a lo hi : E)
  | bi (f : Bi) (es : E)
  | mt (m : Mt) (a es : E)
  | call (f : Str) (es : E) (ks : List Str) (kes : E)
  | cm (elt : E) (t : Tg) (it : E) (c : E) (own : List Nat)
  /-- two clauses -/
  | cm2 (elt : E) (t : Tg) (it : E) (c : E) (t1 : Tg) (it1 : E) (c1 : E) (own own1 : List Nat)
  /-- dicts made: {}, comprehensions of one and of two clauses -/
  | dct0
  | cmd (kx vx : E) (t : Tg) (it : E) (c : E) (own : List Nat)
  | cmd2 (kx vx : E) (t : Tg) (it : E) (c : E) (t1 : Tg) (it1 : E) (c1 : E) (own own1 : List Nat)
  | rng (a : E) | rng2 (a b : E) | enum (a : E) | zip (a b : E) | lzip (a b : E)
  | fmt (a : E) | fstr (es : E)
  | isi (a : E) (ts : List Str)
inductive S where
  | skip
  | stop
  /-- no statement of the text: what a slot holds is changed no more -/
  | fz (i : Nat)
  | satt (o : E) (f : Str) (e : E)
  | sattaug (o : E) (f : Str) (op : Op) (e : E)
  | seq (a b : S)
  | expr (e : E)
  | asg (t : Tg) (e : E)
  /-- a, b = x, y: names from a display of as many -/
  | par (is : List Nat) (es : E)
  | aug (i : Nat) (op : Op) (e : E)
  | six (o i : E) (e : E)
  | sixaug (o i : E) (op : Op) (e : E)
  | ite (c : E) (a b : S)
  | for (t : Tg) (it : E) (b : S)
  | while (c : E) (b : S)
  | ret (e : E)
  | brk | cont

/-! ### operations on values -/
def truth (h : Hb) : W → Option Bool
  | .non => some false
  | .bl b => some b
  | .int i => some (i != 0)
  | .str s => if decide (s.length ≤ 16777216) then some ((s.length : Int) != 0) else none
  | .tup xs => some (!xs.isEmpty)
  | .lit xs => some (!xs.isEmpty)
  | .ref n => match h[n]? with | some (.lst xs) => some (!xs.isEmpty) | _ => none
  | _ => none
def small (n : Nat) : Bool := decide (n ≤ 16777216)
def binop : Op → W → W → Hb → R W
  | .add, .int i, .int j, h => .ok (.int (i + j)) h
  | .sub, .int i, .int j, h => .ok (.int (i - j)) h
  | .mul, .int i, .int j, h => if (decide (-(2 ^ 64) < i) && decide (i < 2 ^ 64)) || (decide (-(2 ^ 64) < j) && decide (j < 2 ^ 64)) then .ok (.int (i * j)) h else .no
  | .fdv, .int i, .int j, h => if decide (0 < j) && decide (j < 1073741824) then .ok (.int (i / j)) h else .no
  | .mod, .int i, .int j, h => if decide (0 < j) then .ok (.int (i % j)) h else .no
  | .pow, .int i, .int j, h => if decide (0 ≤ j) && (decide (j ≤ 1000000) && decide (i.natAbs < 2 ^ 64)) then .ok (.int (i ^ j.toNat)) h else .no
  | .add, .str a, .str b, h => if small (a.length + b.length) then .ok (.str (a ++ b)) h else .no
  | .add, .tup a, .tup b, h => if small (a.length + b.length) then .ok (.tup (a ++ b)) h else .no
  | .add, .lit a, .lit b, h => if small (a.length + b.length) then .ok (.lit (a ++ b)) h else .no
  | .mul, .lit a, .int k, h => if (decide (0 ≤ k) && decide (k < 2 ^ 62)) && small (a.length * k.toNat) then .ok (.lit (List.replicate k.toNat a).flatten) h else .no
  | _, _, _, _ => .no
/-- == of data -/
def eqG (h : Hb) (a b : W) : Option Bool :=
  match (snap h a).pd, (snap h b).pd with
  | some d, some e => if SeqAt.shaped d && SeqAt.shaped e then some (PyData.eqv d e) else none
  | _, _ => none
def eqD (h : Hb) (a b : W) : Option Bool :=
  match a, b with
  | .str s, .str t => some (decide (s = t))
  | .int i, .int j => some (decide (i = j))
  | .bl p, .bl q => some (decide (p = q))
  | a, b => eqG h a b
/-- x in a list or tuple of data -/
def inD (h : Hb) (a : W) (xs : List W) : Option Bool :=
  match a.pd, W.pds xs with
  | some d, some es => if SeqAt.shaped d && SeqAt.shaped (.list es) then some (es.any fun z => PyData.eqv z d) else none
  | _, _ => none
def isIn (h : Hb) (a b : W) : Option Bool :=
  match a, b with
  | a, .tup xs => inD h a xs
  | a, .lit xs => inD h a xs
  | a, .ref n => match h[n]? with
    | some (.lst xs) => inD h a xs
    | _ => none
  | .str x, .str y => some (!(Builtin.Str.occurrences y x 0 y.length 1).isEmpty)
  | _, _ => none
/-- a in b, of dicts too -/
def isInD (h : Hb) (a b : W) : Option Bool := match dOf h b with
  | some (ks, _) => if keyOk a ks then some (findK ks a).isSome else none
  | none => isIn h a b
/-- the order of tuples, place by place; every pair must be comparable -/
def ltsW (f : W → W → Option Bool) : List W → List W → Option Bool
  | [], [] => some false
  | [], _ :: _ => some true
  | _ :: _, [] => some false
  | x :: xs, y :: ys => match ltsW f xs ys, f x y, x.pd, y.pd with
    | some b, some c, some d, some e => if SeqAt.shaped d && SeqAt.shaped e then some (if PyData.eqv d e then b else c) else none
    | _, _, _, _ => none
def ltN : Nat → W → W → Option Bool
  | 0, _, _ => none
  | n + 1, x, y => match x, y with
    | .int i, .int j => some (decide (i < j))
    | .str s, .str t => some (decide (s.cps.toList < t.cps.toList))
    | .bl a, .bl b => some (!a && b)
    | .tup xs, .tup ys => ltsW (ltN n) xs ys
    | _, _ => none
def cmpop : Cm → W → W → Hb → Option Bool
  | .lt, .int i, .int j, _ => some (decide (i < j))
  | .le, .int i, .int j, _ => some (decide (i ≤ j))
  | .gt, .int i, .int j, _ => some (decide (j < i))
  | .ge, .int i, .int j, _ => some (decide (j ≤ i))
  | .lt, .str i, .str j, _ => some (decide (i.cps.toList < j.cps.toList))
  | .le, .str i, .str j, _ => some (!decide (j.cps.toList < i.cps.toList))
  | .gt, .str i, .str j, _ => some (decide (j.cps.toList < i.cps.toList))
  | .ge, .str i, .str j, _ => some (!decide (i.cps.toList < j.cps.toList))
  | .le, .bl a, .bl b, _ => some (!a || b)
  | .lt, .tup xs, .tup ys, _ => ltN 4 (.tup xs) (.tup ys)
  | .eq, a, b, h => eqD h a b
  | .ne, a, b, h => (eqD h a b).map (!·)
  | .is, a, .non, _ => some a.isN
  | .isn, a, .non, _ => some (!a.isN)
  | .is, .bl a, .bl b, _ => some (decide (a = b))
  | .isn, .bl a, .bl b, _ => some (!decide (a = b))
  | .inn, a, b, h => isInD h a b
  | .nin, a, b, h => (isInD h a b).map (!·)
  | _, _, _, _ => none
def R.ofB (o : Option Bool) (h : Hb) : R W := match o with | some b => .ok (.bl b) h | none => .no
def R.ofO {α : Type} (o : Option α) (h : Hb) : R α := match o with | some b => .ok b h | none => .no

/-- the items of what is walked, as it stands -/
def items (h : Hb) : W → Option (List W)
  | .tup xs => some xs
  | .lit xs => some xs
  | .rol xs => some xs
  | .ref n => match h[n]? with | some (.lst xs) => some xs | _ => none
  | _ => none
/-- what a loop walks: a dict's keys too, if nobody changes it any more -/
def itemsI (h : Hb) : W → Option (List W)
  | .dic ks _ => some ks
  | w => items h w
/-- of a list -/
def itemsL (h : Hb) : W → Option (List W)
  | .lit xs => some xs
  | .rol xs => some xs
  | .ref n => match h[n]? with | some (.lst xs) => some xs | _ => none
  | _ => none
/-- what is walked stands as it stood -/
def stays (h h' : Hb) : W → Bool
  | .ref n => match h[n]?, h'[n]? with | some a, some b => O.eqb a b | _, _ => false
  | _ => true
def getIx (h : Hb) : W → W → Option W
  | .tup xs, .int i => (L2.ixN xs.length i).bind fun j => xs[j]?
  | .lit xs, .int i => (L2.ixN xs.length i).bind fun j => xs[j]?
  | .rol xs, .int i => (L2.ixN xs.length i).bind fun j => xs[j]?
  | .ref n, .int i => match h[n]? with
    | some (.lst xs) => (L2.ixN xs.length i).bind fun j => xs[j]?
    | _ => none
  | .str s, .int i => if small s.length then ((L2.ixN s.cps.toList.length i).bind fun j => s.cps.toList[j]?).map fun c => .str ⟨#[c]⟩ else none
  | _, _ => none
/-- not of a string -/
def getIxL (h : Hb) (a b : W) : Option W := match a with
  | .str _ => none
  | a => getIx h a b
/-- a[i], of dicts too -/
def getIxD (h : Hb) (a b : W) : Option W := match dOf h a with
  | some (ks, ws) => (match dGet ks ws b with | some o => o | none => none)
  | none => getIx h a b
/-- a bound of a slice: left out, or an int -/
def optP : E → W → Option (Option Int)
  | .non, _ => some none
  | _, .int i => some (some i)
  | _, _ => none
def cutW (xs : List W) (lo hi : Option Int) : List W := (xs.drop (HT.sIx xs.length 0 lo)).take (HT.sIx xs.length xs.length hi - HT.sIx xs.length 0 lo)
def getCut (h : Hb) (a : W) (l u : Option Int) : Option W :=
  match a with
  | .tup xs => some (.tup (cutW xs l u))
  | .lit xs => some (.lit (cutW xs l u))
  | .rol xs => some (.lit (cutW xs l u))
  | .ref n => (match h[n]? with | some (.lst xs) => some (.lit (cutW xs l u)) | _ => none)
  | .str s => if small s.length then some (.str (Txt.slice s l u)) else none
  | _ => none
def intsW : List W → Option (List Int)
  | [] => some []
  | .int i :: r => (intsW r).map (i :: ·)
  | _ :: _ => none
def strsW : List W → Option (List Str)
  | [] => some []
  | .str i :: r => (strsW r).map (i :: ·)
  | _ :: _ => none
def truthsW : List W → Option (List Bool)
  | [] => some []
  | .bl i :: r => (truthsW r).map (i :: ·)
  | _ :: _ => none
def insI (i : Int) : List Int → List Int
  | [] => [i]
  | j :: r => if i ≤ j then i :: j :: r else j :: insI i r
def sortI : List Int → List Int
  | [] => []
  | i :: r => insI i (sortI r)
def leS (a b : Str) : Bool := !decide (b.cps.toList < a.cps.toList)
def insS (i : Str) : List Str → List Str
  | [] => [i]
  | j :: r => if leS i j then i :: j :: r else j :: insS i r
def sortS : List Str → List Str
  | [] => []
  | i :: r => insS i (sortS r)
def strOf : W → Option Str
  | .str s => some s
  | .int i => if decide (i.natAbs.log2 < 1920) then some (toString i : String) else none
  | _ => none
def reprOf (h : Hb) (w : W) : Option Str :=
  match (snap h w).pd with
  | some d => if (d.showable && SeqAt.shaped d) && small d.shown.length then some d.shown else none
  | none => none
def builtin : Bi → List W → Hb → Option W
  | .len, [.tup xs], _ => some (.int xs.length)
  | .len, [.lit xs], _ => some (.int xs.length)
  | .len, [.str s], _ => if small s.length then some (.int s.length) else none
  | .len, [.ref n], h => (match h[n]? with | some (.lst xs) => some (.int xs.length) | _ => none)
  | .int, [.int i], _ => some (.int i)
  | .int, [.bl b], _ => some (.int (if b then 1 else 0))
  | .abs, [.int i], _ => some (.int (if i < 0 then -i else i))
  | .str, [w], _ => (strOf w).map .str
  | .repr, [w], h => (reprOf h w).map .str
  | .list, [w], h => (items h w).map .lit
  | .tuple, [.tup xs], _ => some (.tup xs)
  | .tuple, [w], h => (itemsL h w).map .tup
  | .sorted, [w], h => (match itemsL h w with
    | some xs => (match intsW xs with | some is => some (.lit ((sortI is).map .int)) | none => (match strsW xs with | some ss => if decide (ss.length < 64) then some (.lit ((sortS ss).map .str)) else none | none => none))
    | none => none)
  | .max, [.int i, .int j], _ => some (.int (if j > i then j else i))
  | .min, [.int i, .int j], _ => some (.int (if j < i then j else i))
  | .sum, [w], h => ((itemsL h w).bind intsW).map fun is => .int is.sum
  | .all, [w], h => ((itemsL h w).bind truthsW).map fun bs => .bl (bs.all id)
  | .any, [w], h => ((itemsL h w).bind truthsW).map fun bs => .bl (bs.any id)
  | .bool, [.bl b], _ => some (.bl b)
  | .bool, [.int i], _ => some (.bl (i != 0))
  | _, _, _ => none
def total (ss : List Str) : Nat := (ss.map (·.length)).sum
def method : Mt → W → List W → Hb → R W
  | .append, .ref n, [w], h => (match h[n]? with
    | some (.lst xs) => if decide (xs.length < 16777216) then .ok .non (h.set n (.lst (xs ++ [w]))) else .no
    | _ => .no)
  | .pop, .ref n, [.int i], h => (match h[n]? with
    | some (.lst xs) => if decide (-(2 ^ 62) ≤ i) && decide (i < 2 ^ 62) then (match seqIndex? i xs.length with
      | some k => (match xs[k]? with | some w => .ok w (h.set n (.lst (xs.eraseIdx k))) | none => .no)
      | none => .no) else .no
    | _ => .no)
  | .pop, .ref n, [], h => (match h[n]? with
    | some (.lst xs) => (match xs[xs.length - 1]? with | some w => .ok w (h.set n (.lst xs.dropLast)) | none => .no)
    | _ => .no)
  | .join, .str s, [w], h => (match (items h w).bind strsW with
    | some ss => if small (total ss + ss.length * s.length) then .ok (.str (Txt.join s ss)) h else .no
    | none => .no)
  | .get, x, [k], h => (match dOf h x with
    | some (ks, ws) => (match dGet ks ws k with
      | some o => .ok (o.getD .non) h
      | none => .no)
    | none => .no)
  | .get, x, [k, d], h => (match dOf h x with
    | some (ks, ws) => (match dGet ks ws k with
      | some o => .ok (o.getD d) h
      | none => .no)
    | none => .no)
  | _, _, _, _ => .no
/-- what a method is asked of -/
def recv : Mt → Hb → W → Bool
  | .append, h, .ref n => (match h[n]? with | some (.lst _) => true | _ => false)
  | .extend, h, .ref n => (match h[n]? with | some (.lst _) => true | _ => false)
  | .pop, h, .ref n => (match h[n]? with | some (.lst _) => true | _ => false)
  | .join, _, .str _ => true
  | .split, _, .str _ => true
  | .get, h, x => (dOf h x).isSome
  | _, _, _ => false
/-- isinstance -/
def isOf (h : Hb) (w : W) (t : Str) : Option Bool :=
  match w with
  | .non => some false
  | .bl _ => some (t == ("bool" : Str) || t == ("int" : Str))
  | .int _ => some (t == ("int" : Str))
  | .str _ => some (t == ("str" : Str))
  | .tup _ => some (t == ("tuple" : Str))
  | .lit _ => some (t == ("list" : Str))
  | .ref n => (match h[n]? with | some (.lst _) => some (t == ("list" : Str)) | _ => none)
  | _ => none
def isAny (h : Hb) (w : W) : List Str → Option Bool
  | [] => some false
  | t :: ts => match isOf h w t, isAny h w ts with | some a, some b => some (a || b) | _, _ => none

/-! ### targets -/
mutual
def setT : Tg → W → Sb → Option Sb
  | .nm i, w, σ => if i < σ.length then some (σ.set i (some w)) else none
  | .tp ts, w, σ => match w with
    | .tup xs => setTs ts xs σ
    | _ => none
  | .nil, _, _ => none
  | .cons _ _, _, _ => none
def setTs : Tg → List W → Sb → Option Sb
  | .nil, [], σ => some σ
  | .cons t r, x :: xs, σ => match setT t x σ with | some σ' => setTs r xs σ' | none => none
  | _, _, _ => none
end

/-- slots forgotten -/
def wipe (σ : Sb) : List Nat → Sb
  | [] => σ
  | v :: vs => (wipe σ vs).set v none
/-! ### how it runs -/
/-- what is known of a class: its attributes' names, its methods and properties with their functions -/
structure CD where
  fld : List Str := []
  mth : List (Str × Str) := []
  prp : List (Str × Str) := []
structure Ctx where
  call : Str → List W → List (Str × W) → Hb → R W
  glob : Str → Option W
  fuel : Nat
  cd : Str → CD := fun _ => {}

/-! ### instances -/
def insOf (h : Hb) : W → Option (Str × List Str × List W)
  | .obj c ns xs => some (c, ns, xs)
  | .ref n => (match h[n]? with | some (.ins c ns xs) => some (c, ns, xs) | _ => none)
  | _ => none
def attL (ns : List Str) (xs : List W) (f : Str) : Option W := (ns.zip xs).lookup f
def fldB (d : CD) (f : Str) : Bool := decide (f ∈ d.fld)
/-- an attribute stored -/
def putL (f : Str) (v : W) : List Str → List W → List Str × List W
  | n :: ns, x :: xs => if n = f then (n :: ns, v :: xs) else let p := putL f v ns xs; (n :: p.1, x :: p.2)
  | _, _ => ([f], [v])
/-- what is not to raise -/
def noEx : R W → R W
  | .ok w h => .ok w h
  | _ => .no
def attO (C : Ctx) (x : W) (f : Str) (h : Hb) : Option (Str × List Str × List W) → R W
  | some (c, ns, xs) => (match (C.cd c).prp.lookup f with
    | some g => noEx (C.call g [x] [] h)
    | none => if fldB (C.cd c) f then R.ofO (attL ns xs f) h else .no)
  | none => .no
/-- it lives no more -/
def frzO (n : Nat) (h : Hb) : Option O → R W
  | some (.lst xs) => .ok (.lit xs) (h.set n .dead)
  | some (.ins c ns xs) => .ok (.obj c ns xs) (h.set n .dead)
  | some (.dct ks vs) => .ok (.dic ks vs) (h.set n .dead)
  | _ => .no
def frzW (h : Hb) : W → R W
  | .ref n => frzO n h h[n]?
  | w => .ok w h
def unop (C : Ctx) : U → W → Hb → R W
  | .att f, x, h => attO C x f h (insOf h x)
  | .frz, x, h => frzW h x
/-- the function that a call runs, and the arguments ahead -/
def methOf (C : Ctx) (m : Str) : Option (Str × List Str × List W) → Option Str
  | some (c, ns, xs) => if (attL ns xs m).isNone then (C.cd c).mth.lookup m else none
  | none => none
/-- an instance's __init__ has run -/
def made (n : Nat) : R W → R W
  | .ok .non h => .ok (.ref n) h
  | .ex x h => .ex x h
  | _ => .no
def mkO (C : Ctx) (c : Str) (xs : List W) (kw : List (Str × W)) (h : Hb) (g : Str) : R W := made h.length (C.call g (.ref h.length :: xs) kw (h ++ [.ins c [] []]))

/-- names stored from the left -/
def setL : List Nat → List W → Sb → Option Sb
  | [], [], σ => some σ
  | i :: is, w :: ws, σ => if i < σ.length then setL is ws (σ.set i (some w)) else none
  | _, _, _ => none
/-- a comprehension's turns; an exception within is not told -/
def forC (f : W → Hb → R (Option W)) (ok : Hb → Bool) : List W → List W → Hb → R (List W)
  | [], acc, h => if ok h then .ok acc h else .no
  | w :: ws, acc, h => if ok h then (match f w h with
    | .ok (some v) h1 => if decide (acc.length < 16777216) then forC f ok ws (acc ++ [v]) h1 else .no
    | .ok none h1 => forC f ok ws acc h1
    | _ => .no) else .no
/-- turns that carry what is made; an exception within is not told -/
def forA {α : Type} (f : W → α → Hb → R α) (ok : Hb → Bool) : List W → α → Hb → R α
  | [], acc, h => if ok h then .ok acc h else .no
  | w :: ws, acc, h => if ok h then (match f w acc h with
    | .ok acc1 h1 => forA f ok ws acc1 h1
    | _ => .no) else .no
def asB : W → Hb → (Bool → Hb → R W) → R W
  | .bl b, h, f => f b h
  | _, _, _ => .no
def asTup : W → Option (List W)
  | .tup xs => some xs
  | _ => none

def callO (C : Ctx) (x : W) (xs : List W) (kw : List (Str × W)) (h : Hb) : Option Str → R W
  | some g => C.call g (x :: xs) kw h
  | none => .no
def evalE (C : Ctx) : E → Sb → Hb → R W
  | .stop, _, _ => .no
  | .un o a, σ, h => (evalE C a σ h).bind fun x h1 => unop C o x h1
  | .mc (.meth m) a es ks kes, σ, h => (evalE C a σ h).bind fun o h1 => (match methOf C m (insOf h1 o) with
    | some g => (evalE C es σ h1).bind fun x h2 => (evalE C kes σ h2).bind fun k h3 => (match x, k with
      | .tup xs, .tup vs => C.call g (o :: xs) (ks.zip vs) h3
      | _, _ => .no)
    | none => .no)
  | .mc (.mk c) _ es ks kes, σ, h => (match (C.cd c).mth.lookup ("__init__" : Str) with
    | some g => (evalE C es σ h).bind fun x h1 => (evalE C kes σ h1).bind fun k h2 => (match x, k with
      | .tup xs, .tup vs => mkO C c xs (ks.zip vs) h2 g
      | _, _ => .no)
    | none => .no)
  | .mc .obj a es ks kes, σ, h => (evalE C a σ h).bind fun o h1 => (evalE C es σ h1).bind fun x h2 => (evalE C kes σ h2).bind fun k h3 => (match x, k with
    | .tup xs, .tup vs => callO C o xs (ks.zip vs) h3 (methOf C ("__call__" : Str) (insOf h3 o))
    | _, _ => .no)
  | .slot i, σ, h => (match σ[i]? with | some (some w) => .ok w h | _ => .no)
  | .non, _, h => .ok .non h
  | .bl b, _, h => .ok (.bl b) h
  | .int i, _, h => .ok (.int i) h
  | .str s, _, h => .ok (.str s) h
  | .glob x, _, h => R.ofO (C.glob x) h
  | .bin op a b, σ, h => (evalE C a σ h).bind fun x h1 => (evalE C b σ h1).bind fun y h2 => binop op x y h2
  | .neg a, σ, h => (evalE C a σ h).bind fun x h1 => (match x with | .int i => .ok (.int (-i)) h1 | _ => .no)
  | .cmp op a b, σ, h => (evalE C a σ h).bind fun x h1 => (evalE C b σ h1).bind fun y h2 => R.ofB (cmpop op x y h2) h2
  | .chn o1 o2 a b c, σ, h => (evalE C a σ h).bind fun x h1 => (evalE C b σ h1).bind fun y h2 => (match cmpop o1 x y h2 with
    | some true => (evalE C c σ h2).bind fun z h3 => R.ofB (cmpop o2 y z h3) h3
    | some false => .ok (.bl false) h2
    | none => .no)
  | .and a b, σ, h => (evalE C a σ h).bind fun x h1 => (match truth h1 x with | some true => evalE C b σ h1 | some false => .ok x h1 | none => .no)
  | .or a b, σ, h => (evalE C a σ h).bind fun x h1 => (match truth h1 x with | some true => .ok x h1 | some false => evalE C b σ h1 | none => .no)
  | .tand a b, σ, h => (evalE C a σ h).bind fun x h1 => (match x with | .bl true => evalE C b σ h1 | .bl false => .ok (.bl false) h1 | _ => .no)
  | .tor a b, σ, h => (evalE C a σ h).bind fun x h1 => (match x with | .bl true => .ok (.bl true) h1 | .bl false => evalE C b σ h1 | _ => .no)
  | .tnot a, σ, h => (evalE C a σ h).bind fun x h1 => (match x with | .bl b => .ok (.bl (!b)) h1 | _ => .no)
  | .tru a, σ, h => (evalE C a σ h).bind fun x h1 => R.ofB (truth h1 x) h1
  | .ite c a b, σ, h => (evalE C c σ h).bind fun x h1 => (match x with | .bl true => evalE C a σ h1 | .bl false => evalE C b σ h1 | _ => .no)
  | .nil, _, h => .ok (.tup []) h
  | .cons a r, σ, h => (evalE C a σ h).bind fun x h1 => (evalE C r σ h1).bind fun y h2 => (match y with | .tup ys => .ok (.tup (x :: ys)) h2 | _ => .no)
  | .star a r, σ, h => (evalE C a σ h).bind fun x h1 => (match items h1 x with
    | some xs => (evalE C r σ h1).bind fun y h2 => (match y with | .tup ys => if small (xs.length + ys.length) then .ok (.tup (xs ++ ys)) h2 else .no | _ => .no)
    | none => .no)
  | .tup es, σ, h => (evalE C es σ h).bind fun x h1 => (match x with | .tup xs => if small xs.length then .ok (.tup xs) h1 else .no | _ => .no)
  | .lst es, σ, h => (evalE C es σ h).bind fun x h1 => (match x with | .tup xs => if small xs.length then .ok (.lit xs) h1 else .no | _ => .no)
  | .new e, σ, h => (evalE C e σ h).bind fun x h1 => (match x with | .lit xs => .ok (.ref h1.length) (h1 ++ [.lst xs]) | _ => .no)
  | .newd e, σ, h => (evalE C e σ h).bind fun x h1 => (match x with | .dic ks ws => .ok (.ref h1.length) (h1 ++ [.dct ks ws]) | _ => .no)
  | .ix a i, σ, h => (evalE C a σ h).bind fun x h1 => (evalE C i σ h1).bind fun y h2 => R.ofO (getIxD h2 x y) h2
  | .cut a lo hi, σ, h => (evalE C a σ h).bind fun x h1 => (evalE C lo σ h1).bind fun y h2 => (match optP lo y with
    | some l => (evalE C hi σ h2).bind fun z h3 => (match optP hi z with | some u => R.ofO (getCut h3 x l u) h3 | none => .no)
    | none => .no)
  | .bi f es, σ, h => (evalE C es σ h).bind fun x h1 => (match x with | .tup xs => R.ofO (builtin f xs h1) h1 | _ => .no)
  | .mt m a es, σ, h => (evalE C a σ h).bind fun o h1 => if recv m h1 o then (evalE C es σ h1).bind fun x h2 => (match x with | .tup xs => method m o xs h2 | _ => .no) else .no
  | .call f es ks kes, σ, h => (evalE C es σ h).bind fun x h1 => (evalE C kes σ h1).bind fun k h2 => (match x, k with
    | .tup xs, .tup vs => C.call f xs (ks.zip vs) h2
    | _, _ => .no)
  | .cm elt t it c own, σ, h => (evalE C it σ h).bind fun w h1 => (match itemsI h1 w with
    | some ws => (forC (fun x h2 => match setT t x (wipe σ own) with
        | some σ' => (evalE C c σ' h2).bind fun b h3 => (match b with
          | .bl true => (evalE C elt σ' h3).bind fun v h4 => .ok (some v) h4
          | .bl false => .ok none h3
          | _ => .no)
        | none => .no) (fun h' => stays h1 h' w) ws [] h1).bind fun vs h5 => .ok (.lit vs) h5
    | none => .no)
  | .cm2 elt t it c t1 it1 c1 own own1, σ, h => (evalE C it σ h).bind fun w h1 => (match itemsI h1 w with
    | some ws => (forA (fun x acc h2 => match setT t x (wipe σ own) with
        | some σ' => (evalE C c σ' h2).bind fun b h3 => (match b with
          | .bl true => (evalE C it1 σ' h3).bind fun w1 h4 => (match itemsI h4 w1 with
            | some ws1 => forA (fun y acc h5 => match setT t1 y (wipe σ' own1) with
                | some σ'' => (evalE C c1 σ'' h5).bind fun b1 h6 => (match b1 with
                  | .bl true => (evalE C elt σ'' h6).bind fun v h7 => if decide (acc.length < 16777216) then .ok (acc ++ [v]) h7 else .no
                  | .bl false => .ok acc h6
                  | _ => .no)
                | none => .no) (fun h' => stays h4 h' w1) ws1 acc h4
            | none => .no)
          | .bl false => .ok acc h3
          | _ => .no)
        | none => .no) (fun h' => stays h1 h' w) ws [] h1).bind fun vs h5 => .ok (.lit vs) h5
    | none => .no)
  | .dct0, _, h => .ok (.dic [] []) h
  | .cmd kx vx t it c own, σ, h => (evalE C it σ h).bind fun w h1 => (match itemsI h1 w with
    | some ws => (forA (fun x (acc : List W × List W) h2 => match setT t x (wipe σ own) with
        | some σ' => (evalE C c σ' h2).bind fun b h3 => (match b with
          | .bl true => (evalE C kx σ' h3).bind fun k h4 => (evalE C vx σ' h4).bind fun v h5 => R.ofO (dPut acc.1 acc.2 k v) h5
          | .bl false => .ok acc h3
          | _ => .no)
        | none => .no) (fun h' => stays h1 h' w) ws ([], []) h1).bind fun vs h5 => .ok (.dic vs.1 vs.2) h5
    | none => .no)
  | .cmd2 kx vx t it c t1 it1 c1 own own1, σ, h => (evalE C it σ h).bind fun w h1 => (match itemsI h1 w with
    | some ws => (forA (fun x (acc : List W × List W) h2 => match setT t x (wipe σ own) with
        | some σ' => (evalE C c σ' h2).bind fun b h3 => (match b with
          | .bl true => (evalE C it1 σ' h3).bind fun w1 h4 => (match itemsI h4 w1 with
            | some ws1 => forA (fun y (acc : List W × List W) h5 => match setT t1 y (wipe σ' own1) with
                | some σ'' => (evalE C c1 σ'' h5).bind fun b1 h6 => (match b1 with
                  | .bl true => (evalE C kx σ'' h6).bind fun k h7 => (evalE C vx σ'' h7).bind fun v h8 => R.ofO (dPut acc.1 acc.2 k v) h8
                  | .bl false => .ok acc h6
                  | _ => .no)
                | none => .no) (fun h' => stays h4 h' w1) ws1 acc h4
            | none => .no)
          | .bl false => .ok acc h3
          | _ => .no)
        | none => .no) (fun h' => stays h1 h' w) ws ([], []) h1).bind fun vs h5 => .ok (.dic vs.1 vs.2) h5
    | none => .no)
  | .rng a, σ, h => (evalE C a σ h).bind fun x h1 => (match x with
    | .int j => if decide (-(2 ^ 61) ≤ j) && decide (j < 2 ^ 61) then .ok (.tup ((List.range j.toNat).map fun (k : Nat) => W.int (0 + (k : Int)))) h1 else .no
    | _ => .no)
  | .rng2 a b, σ, h => (evalE C a σ h).bind fun x h1 => (evalE C b σ h1).bind fun y h2 => (match x, y with
    | .int i, .int j => if (decide (-(2 ^ 61) ≤ i) && decide (i < 2 ^ 61)) && (decide (-(2 ^ 61) ≤ j) && decide (j < 2 ^ 61)) then .ok (.tup ((List.range (j - i).toNat).map fun (k : Nat) => W.int (i + (k : Int)))) h2 else .no
    | _, _ => .no)
  | .enum a, σ, h => (evalE C a σ h).bind fun x h1 => (match x with
    | .tup xs => .ok (.tup (xs.zipIdx.map fun p => .tup [.int p.2, p.1])) h1
    | .lit xs => .ok (.tup (xs.zipIdx.map fun p => .tup [.int p.2, p.1])) h1
    | .rol xs => .ok (.tup (xs.zipIdx.map fun p => .tup [.int p.2, p.1])) h1
    | _ => .no)
  | .zip a b, σ, h => (evalE C a σ h).bind fun x h1 => (evalE C b σ h1).bind fun y h2 => (match x, y with
    | .tup xs, .tup ys => .ok (.tup ((xs.zip ys).map fun p => .tup [p.1, p.2])) h2
    | .lit xs, .lit ys => .ok (.tup ((xs.zip ys).map fun p => .tup [p.1, p.2])) h2
    | _, _ => .no)
  | .lzip a b, σ, h => (evalE C a σ h).bind fun x h1 => (evalE C b σ h1).bind fun y h2 => (match x, y with
    | .tup xs, .tup ys => .ok (.lit ((xs.zip ys).map fun p => .tup [p.1, p.2])) h2
    | _, _ => .no)
  | .fmt a, σ, h => (evalE C a σ h).bind fun x h1 => (match strOf x with | some t => if small t.length then .ok (.str t) h1 else .no | none => .no)
  | .fstr es, σ, h => (noEx (evalE C es σ h)).bind fun x h1 => (match x with
    | .tup xs => (match strsW xs with | some ss => if small (total ss) then .ok (.str (ss.foldl (· ++ ·) Str.empty)) h1 else .no | none => .no)
    | _ => .no)
  | .isi a ts, σ, h => (evalE C a σ h).bind fun x h1 => R.ofB (isAny h1 x ts) h1

def setIx (h : Hb) (o i v : W) : R Unit :=
  match o, i with
  | .ref n, .int k => (match h[n]? with
    | some (.lst xs) => (match L2.ixN xs.length k with
      | some j => .ok () (h.set n (.lst (xs.set j v)))
      | none => .no)
    | _ => .no)
  | _, _ => .no
/-- o[i] = v, of dicts too -/
def setIxD (h : Hb) (o i v : W) : R Unit :=
  match o with
  | .ref n => (match h[n]? with
    | some (.dct ks ws) => (match dPut ks ws i v with
      | some p => .ok () (h.set n (.dct p.1 p.2))
      | none => .no)
    | _ => setIx h o i v)
  | o => setIx h o i v
/-- o.f = v -/
def setAt (C : Ctx) (h : Hb) (f : Str) (v : W) : W → R Unit
  | .ref n => (match h[n]? with
    | some (.ins c ns xs) => if fldB (C.cd c) f && decide (ns.length < 1000) then .ok () (h.set n (.ins c (putL f v ns xs).1 (putL f v ns xs).2)) else .no
    | _ => .no)
  | _ => .no
/-- the class stays -/
def sameC (h h' : Hb) (x : W) : Bool := match insOf h x, insOf h' x with
  | some (c, _, _), some (d, _, _) => decide (c = d)
  | _, _ => false
def setAtC (C : Ctx) (h0 h : Hb) (f : Str) (v x : W) : R Unit := if sameC h0 h x then setAt C h f v x else .no
def getAt (C : Ctx) (h : Hb) (f : Str) : W → Option W
  | .ref n => (match h[n]? with
    | some (.ins c ns xs) => if fldB (C.cd c) f then attL ns xs f else none
    | _ => none)
  | _ => none
def inplace : Op → W → W → Hb → R W
  | .add, .int i, .int j, h => .ok (.int (i + j)) h
  | .sub, .int i, .int j, h => .ok (.int (i - j)) h
  | _, _, _, _ => .no

def forL (f : W → Sb → Hb → G) (ok : Hb → Bool) : List W → Sb → Hb → G
  | [], σ, h => if ok h then .ok (.nx σ) h else .no
  | w :: ws, σ, h => if ok h then (f w σ h).bind fun fl h1 => (match fl with
    | .nx σ1 => forL f ok ws σ1 h1
    | .ct σ1 => forL f ok ws σ1 h1
    | .bk σ1 => .ok (.nx σ1) h1
    | .rt v => .ok (.rt v) h1) else .no
def whileL (c : Sb → Hb → R W) (f : Sb → Hb → G) : Nat → Sb → Hb → G
  | 0, _, _ => .no
  | n + 1, σ, h => (c σ h).go σ fun b h1 => (match b with
    | .bl true => (f σ h1).bind fun fl h2 => (match fl with
      | .nx σ1 => whileL c f n σ1 h2
      | .ct σ1 => whileL c f n σ1 h2
      | .bk σ1 => .ok (.nx σ1) h2
      | .rt v => .ok (.rt v) h2)
    | .bl false => .ok (.nx σ) h1
    | _ => .no)

def evalS (C : Ctx) : S → Sb → Hb → G
  | .skip, σ, h => .ok (.nx σ) h
  | .stop, _, _ => .no
  | .fz i, σ, h => (match σ[i]? with
    | some (some w) => (frzW h w).go σ fun v h1 => .ok (.nx (σ.set i (some v))) h1
    | _ => .no)
  | .satt o f e, σ, h => (evalE C e σ h).go σ fun v h1 => (evalE C o σ h1).go σ fun x h2 => (setAt C h2 f v x).go σ fun _ h3 => .ok (.nx σ) h3
  | .sattaug o f op e, σ, h => (evalE C o σ h).go σ fun x h1 => (match getAt C h1 f x with
    | some z => (evalE C e σ h1).go σ fun v h2 => (inplace op z v h2).go σ fun u h3 => (setAtC C h1 h3 f u x).go σ fun _ h4 => .ok (.nx σ) h4
    | none => .no)
  | .seq a b, σ, h => (evalS C a σ h).bind fun fl h1 => (match fl with
    | .nx σ1 => evalS C b σ1 h1
    | fl => .ok fl h1)
  | .expr e, σ, h => (evalE C e σ h).go σ fun _ h1 => .ok (.nx σ) h1
  | .asg t e, σ, h => (evalE C e σ h).go σ fun w h1 => (match setT t w σ with | some σ1 => .ok (.nx σ1) h1 | none => .no)
  | .par is es, σ, h => (evalE C es σ h).go σ fun w h1 => (match w with | .tup ws => (match setL is ws σ with | some σ1 => .ok (.nx σ1) h1 | none => .no) | _ => .no)
  | .aug i op e, σ, h => (match σ[i]? with
    | some (some x) => (evalE C e σ h).go σ fun y h1 => (inplace op x y h1).go σ fun z h2 => .ok (.nx (σ.set i (some z))) h2
    | _ => .no)
  | .six o i e, σ, h => (evalE C e σ h).go σ fun v h1 => (evalE C o σ h1).go σ fun x h2 => (evalE C i σ h2).go σ fun y h3 => (setIxD h3 x y v).go σ fun _ h4 => .ok (.nx σ) h4
  | .sixaug o i op e, σ, h => (evalE C o σ h).go σ fun x h1 => (evalE C i σ h1).go σ fun y h2 => (match getIxL h2 x y with
    | some z => (evalE C e σ h2).go σ fun v h3 => (inplace op z v h3).go σ fun u h4 => (setIxD h4 x y u).go σ fun _ h5 => .ok (.nx σ) h5
    | none => .no)
  | .ite c a b, σ, h => (evalE C c σ h).go σ fun x h1 => (match x with | .bl true => evalS C a σ h1 | .bl false => evalS C b σ h1 | _ => .no)
  | .for t it b, σ, h => (evalE C it σ h).go σ fun w h1 => (match itemsI h1 w with
    | some ws => forL (fun x σ1 h2 => match setT t x σ1 with | some σ2 => evalS C b σ2 h2 | none => .no) (fun h' => stays h1 h' w) ws σ h1
    | none => .no)
  | .while c b, σ, h => whileL (fun σ1 h1 => evalE C c σ1 h1) (fun σ1 h1 => evalS C b σ1 h1) C.fuel σ h
  | .ret e, σ, h => (evalE C e σ h).go σ fun w h1 => .ok (.rt w) h1
  | .brk, σ, h => .ok (.bk σ) h
  | .cont, σ, h => .ok (.ct σ) h

/-! ### programs -/
structure FD where
  ps : List Str
  ds : List W := []
  n : Nat
  body : S
structure Prg where
  fns : List (Str × FD)
  con : List (Str × W)
  cls : List (Str × CD) := []
def Prg.cd (P : Prg) (c : Str) : CD := (P.cls.lookup c).getD {}
/-- the slots at the entry -/
def bindW (f : FD) (xs : List W) (kw : List (Str × W)) : List (Option W) :=
  if kw.isEmpty && decide (xs.length = f.ps.length) then xs.map some else f.ps.map fun p => (f.ps.zip xs ++ (kw ++ (f.ps.drop (f.ps.length - f.ds.length)).zip f.ds)).lookup p
def bindA (f : FD) (xs : List W) (kw : List (Str × W)) : Option Sb :=
  if (decide (xs.length ≤ f.ps.length) && (kw.all fun p => decide (p.1 ∈ f.ps.drop xs.length)) && decide ((kw.map (·.1)).Nodup) && (bindW f xs kw).all (·.isSome) && decide (f.ds.length ≤ f.ps.length)) = true
    then some (bindW f xs kw ++ List.replicate (f.n - f.ps.length) none) else none
def runF (P : Prg) (fuel : Nat) : Nat → Str → List W → List (Str × W) → Hb → R W
  | 0, _, _, _, _ => .no
  | d + 1, f, xs, kw, h => match P.fns.lookup f with
    | some fd => (match bindA fd xs kw with
      | some σ => (match evalS { call := runF P fuel d, glob := fun x => P.con.lookup x, fuel := fuel, cd := P.cd } fd.body σ h with
        | .ok (.rt w) h1 => .ok w h1
        | .ok (.nx _) h1 => .ok .non h1
        | .ex x _ h1 => .ex x h1
        | _ => .no)
      | none => .no)
    | none => .no
end Y
/-! Y1: what Y's values and heaps mean over HandS's abstract heap; the judgement «this Python runs as that Y». -/
namespace Y
open PySem PySem.Spec PyProof.Rows L2

/-- the module's classes by name -/
structure Kn where
  ca : Str → Addr := fun _ => 0
  /-- the hash of a key -/
  hk : W → Int := fun _ => 0
structure Tab where
  ca : Kn
  /-- lists that a comprehension is making: no value is one of them -/
  hid : Addr → Prop := fun _ => False
/-- where the heap's things stand; none: a thing that was turned into a value -/
abbrev Pl := List (Option Addr)
/-- not tracked, not hidden -/
def Fr (T : Tab) (φ : Pl) (a : Addr) : Prop := some a ∉ φ ∧ ¬ T.hid a

def KL (K : PySem.W.Frag) (a : Addr) (xs : List V) : Prop :=
  ∃ (o : Obj) (its : Array Value) (n : Nat), K.lookup a = some o ∧ o.cls = .type "list" ∧ o.dict = none ∧ o.data = .seq its n ∧ its.size ≤ sizeLine ∧ Vals xs its.toList
def KT (K : PySem.W.Frag) (a : Addr) (xs : List V) : Prop :=
  ∃ (o : Obj) (its : Array Value) (n : Nat), K.lookup a = some o ∧ o.cls = .type "tuple" ∧ o.data = .seq its n ∧ its.size ≤ sizeLine ∧ Vals xs its.toList

/-- a dict's object -/
def DObj (es : Array DictEntry) (ep : Nat) (o : Obj) : Prop := o.cls = .type "dict" ∧ o.dict = none ∧ o.slots = #[] ∧ o.data = .dict es ep
def IsD (a : Addr) (es : Array DictEntry) (ep : Nat) (h : Heap) : Prop := ∃ o, h.get? a = some o ∧ DObj es ep o
def DicH (a : Addr) (es : Array DictEntry) (h : Heap) : Prop := ∃ ep, IsD a es ep h
/-- what stands at a is a dict with these entries, nobody else's -/
def DicAt (H : Hp) (a : Addr) (es : Array DictEntry) : Prop := (∃ ep, H a = some (.ext (IsD a es ep))) ∧ (a == sysModules) = false
def KDic (K : PySem.W.Frag) (a : Addr) (es : Array DictEntry) : Prop := (∃ ep o, K.lookup a = some o ∧ DObj es ep o) ∧ (a == sysModules) = false
/-- an instance (or an exception) with its attributes -/
def InsAt (H : Hp) (a C : Addr) (fs : List (Str × V)) : Prop := ∃ dx, H a = some (.ins C dx fs)
section
variable (K : PySem.W.Frag) (T : Tab) (φ : Pl) (H : Hp)
mutual
def RV : W → V → Prop
  | .non, v => v = .non
  | .bl b, v => v = .bl b
  | .int i, v => v = .int i
  | .str s, v => v = .str s
  | .tup xs, v => ∃ a vs, v = .ref a ∧ ((Fr T φ a ∧ Rd H a (.tup vs)) ∨ KT K a vs) ∧ RVs xs vs
  | .lit xs, v => ∃ a vs, v = .ref a ∧ Fr T φ a ∧ H a = some (.lst vs) ∧ RVs xs vs
  | .rol xs, v => ∃ a vs, v = .ref a ∧ ((Fr T φ a ∧ Rd H a (.lst vs)) ∨ KL K a vs) ∧ RVs xs vs
  | .obj c ns xs, v => ∃ a fs, v = .ref a ∧ Fr T φ a ∧ InsAt H a (T.ca.ca c) fs ∧ fs.map (·.1) = ns ∧ RVs xs (fs.map (·.2))
  | .dic ks ws, v => ∃ a es kv vv, v = .ref a ∧ ((Fr T φ a ∧ DicAt H a es) ∨ KDic K a es) ∧ (es.size ≤ sizeLine ∧ KeysOk ks) ∧ es.toList.map (·.hash) = ks.map T.ca.hk ∧ Vals kv (es.toList.map (·.key)) ∧ Vals vv (es.toList.map (·.val)) ∧ RVs ks kv ∧ RVs ws vv
  | .cls c, v => v = .ref (T.ca.ca c)
  | .ref n, v => ∃ a, v = .ref a ∧ (φ[n]? = some (some a) ∨ φ[n]? = some none)
def RVs : List W → List V → Prop
  | [], vs => vs = []
  | x :: xs, vs => ∃ v r, vs = v :: r ∧ RV x v ∧ RVs xs r
end
def RO (a : Addr) : O → Prop
  | .lst xs => ∃ vs, H a = some (.lst vs) ∧ RVs K T φ H xs vs
  | .ins c ns xs => ∃ dx fs, H a = some (.ins (T.ca.ca c) dx fs) ∧ fs.map (·.1) = ns ∧ RVs K T φ H xs (fs.map (·.2))
  | .dct ks ws => ∃ es kv vv, DicAt H a es ∧ (es.size ≤ sizeLine ∧ KeysOk ks) ∧ es.toList.map (·.hash) = ks.map T.ca.hk ∧ Vals kv (es.toList.map (·.key)) ∧ Vals vv (es.toList.map (·.val)) ∧ RVs K T φ H ks kv ∧ RVs K T φ H ws vv
  | .dead => False
structure Rel (h : Hb) : Prop where
  nd : ∀ (i j : Nat) (a : Addr), φ[i]? = some (some a) → φ[j]? = some (some a) → i = j
  len : φ.length = h.length
  hd : ∀ a, T.hid a → ∃ o, H a = some o
  hf : ∀ a, T.hid a → some a ∉ φ
  at_ : ∀ (n : Nat) (o : O) (a : Addr), h[n]? = some o → φ[n]? = some (some a) → RO K T φ H a o
  dd : ∀ (n : Nat), φ[n]? = some none → h[n]? = some .dead
/-- the slots -/
structure RS (σb : Sb) (σ : L2.St) : Prop where
  len : σb.length = σ.length
  at_ : ∀ (i : Nat) (w : W), σb[i]? = some (some w) → ∃ v, σ[i]? = some (some v) ∧ RV K T φ H w v
end

/-- from one heap to a later one -/
structure Ex (K : PySem.W.Frag) (φ φ' : Pl) (H H' : Hp) : Prop where
  pre : ∀ (n : Nat) (x : Option Addr), φ[n]? = some x → φ'[n]? = some x ∨ φ'[n]? = some none
  new : ∀ b, some b ∈ φ' → some b ∉ φ → H b = none
  keep : ∀ b o, H b = some o → some b ∉ φ → H' b = some o

section
variable {K : PySem.W.Frag} {T : Tab} {φ φ1 φ2 φ' : Pl} {H H1 H2 H' : Hp}
theorem Ex.refl : Ex K φ φ H H := ⟨fun n x e => .inl e, fun b h n => absurd h n, fun _ _ e _ => e⟩
theorem Ex.notin (x : Ex K φ φ' H H') {b : Addr} {o : HO} (e : H b = some o) (n : some b ∉ φ) : some b ∉ φ' := fun h => by
  rw [x.new b h n] at e; cases e
theorem Ex.trans (x : Ex K φ φ1 H H1) (y : Ex K φ1 φ2 H1 H2) : Ex K φ φ2 H H2 :=
  ⟨fun n v e => by
    rcases x.pre n v e with z | z
    · exact y.pre n v z
    · rcases y.pre n none z with u | u <;> exact .inr u, fun b h n => (by
    by_cases h1 : some b ∈ φ1
    · exact x.new b h1 n
    · have e := y.new b h h1
      cases q : H b with
      | none => rfl
      | some o =>
        rw [x.keep b o q n] at e
        cases e), fun b o e n => y.keep b o (x.keep b o e n) (x.notin e n)⟩
theorem Ex.gets (x : Ex K φ φ' H H') {n : Nat} {a : Addr} (e : φ[n]? = some (some a) ∨ φ[n]? = some none) : φ'[n]? = some (some a) ∨ φ'[n]? = some none := by
  rcases e with e | e
  · exact x.pre n _ e
  · rcases x.pre n _ e with z | z <;> exact .inr z
theorem Ex.fr (x : Ex K φ φ' H H') {b : Addr} {o : HO} (e : H b = some o) (n : Fr T φ b) : Fr T φ' b := ⟨x.notin e n.1, n.2⟩
theorem Ex.insFr (x : Ex K φ φ' H H') {b C : Addr} {fs : List (Str × V)} (e : InsAt H b C fs) (n : Fr T φ b) : Fr T φ' b := let ⟨_, h⟩ := e; x.fr h n
theorem Ex.ins (x : Ex K φ φ' H H') {b C : Addr} {fs : List (Str × V)} (e : InsAt H b C fs) (n : some b ∉ φ) : InsAt H' b C fs := let ⟨dx, h⟩ := e; ⟨dx, x.keep b _ h n⟩
theorem Ex.dicFr (x : Ex K φ φ' H H') {b : Addr} {es : Array DictEntry} (e : DicAt H b es) (n : Fr T φ b) : Fr T φ' b := let ⟨⟨_, h⟩, _⟩ := e; x.fr h n
theorem Ex.dic (x : Ex K φ φ' H H') {b : Addr} {es : Array DictEntry} (e : DicAt H b es) (n : some b ∉ φ) : DicAt H' b es := let ⟨⟨ep, h⟩, l⟩ := e; ⟨⟨ep, x.keep b _ h n⟩, l⟩
theorem Ex.rd (x : Ex K φ φ' H H') {a : Addr} {u : HO} (n : Fr T φ a) (r : Rd H a u) : Fr T φ' a ∧ Rd H' a u := by
  rcases r with e | ⟨o, e⟩
  · exact ⟨x.fr e n, .inl (x.keep a _ e n.1)⟩
  · exact ⟨x.fr e n, .inr ⟨o, x.keep a _ e n.1⟩⟩
theorem Ex.hd (x : Ex K φ φ' H H') (m : ∀ a, some a ∈ φ → ∃ o, H' a = some o) (d : ∀ a, T.hid a → ∃ o, H a = some o) : ∀ a, T.hid a → ∃ o, H' a = some o := fun a q => by
  by_cases z : some a ∈ φ
  · exact m a z
  · obtain ⟨o, e⟩ := d a q
    exact ⟨o, x.keep a o e z⟩
/-- as Ex, but what is hidden may change -/
structure ExU (K : PySem.W.Frag) (T : Tab) (φ φ' : Pl) (H H' : Hp) : Prop where
  pre : ∀ (n : Nat) (x : Option Addr), φ[n]? = some x → φ'[n]? = some x ∨ φ'[n]? = some none
  new : ∀ b, some b ∈ φ' → some b ∉ φ → H b = none
  keep : ∀ b o, H b = some o → some b ∉ φ → ¬ T.hid b → H' b = some o
theorem Ex.u (x : Ex K φ φ' H H') (T : Tab) : ExU K T φ φ' H H' := ⟨x.pre, x.new, fun b o e n _ => x.keep b o e n⟩
theorem ExU.gets (x : ExU K T φ φ' H H') {n : Nat} {a : Addr} (e : φ[n]? = some (some a) ∨ φ[n]? = some none) : φ'[n]? = some (some a) ∨ φ'[n]? = some none := by
  rcases e with e | e
  · exact x.pre n _ e
  · rcases x.pre n _ e with z | z <;> exact .inr z
theorem ExU.fr (x : ExU K T φ φ' H H') {b : Addr} {o : HO} (e : H b = some o) (n : Fr T φ b) : Fr T φ' b := ⟨fun h => (by rw [x.new b h n.1] at e; cases e), n.2⟩
theorem ExU.insFr (x : ExU K T φ φ' H H') {b C : Addr} {fs : List (Str × V)} (e : InsAt H b C fs) (n : Fr T φ b) : Fr T φ' b := let ⟨_, h⟩ := e; x.fr h n
theorem ExU.ins (x : ExU K T φ φ' H H') {b C : Addr} {fs : List (Str × V)} (e : InsAt H b C fs) (n : Fr T φ b) : InsAt H' b C fs := let ⟨dx, h⟩ := e; ⟨dx, x.keep b _ h n.1 n.2⟩
theorem ExU.dicFr (x : ExU K T φ φ' H H') {b : Addr} {es : Array DictEntry} (e : DicAt H b es) (n : Fr T φ b) : Fr T φ' b := let ⟨⟨_, h⟩, _⟩ := e; x.fr h n
theorem ExU.dic (x : ExU K T φ φ' H H') {b : Addr} {es : Array DictEntry} (e : DicAt H b es) (n : Fr T φ b) : DicAt H' b es := let ⟨⟨ep, h⟩, l⟩ := e; ⟨⟨ep, x.keep b _ h n.1 n.2⟩, l⟩
theorem ExU.rd (x : ExU K T φ φ' H H') {a : Addr} {u : HO} (n : Fr T φ a) (r : Rd H a u) : Fr T φ' a ∧ Rd H' a u := by
  rcases r with e | ⟨o, e⟩
  · exact ⟨x.fr e n, .inl (x.keep a _ e n.1 n.2)⟩
  · exact ⟨x.fr e n, .inr ⟨o, x.keep a _ e n.1 n.2⟩⟩
theorem ExU.refl : ExU K T φ φ H H := ⟨fun n x e => .inl e, fun b h n => absurd h n, fun _ _ e _ _ => e⟩
theorem ExU.trans (x : ExU K T φ φ1 H H1) (y : ExU K T φ1 φ2 H1 H2) (hf : ∀ a, T.hid a → some a ∉ φ2) : ExU K T φ φ2 H H2 := by
  refine ⟨fun n v e => ?_, fun b h n => ?_, fun b o e n k => ?_⟩
  · rcases x.pre n v e with z | z
    · exact y.pre n v z
    · rcases y.pre n none z with u | u <;> exact .inr u
  · by_cases h1 : some b ∈ φ1
    · exact x.new b h1 n
    · have e := y.new b h h1
      cases q : H b with
      | none => rfl
      | some o =>
        rw [x.keep b o q n fun k => hf b k h] at e
        cases e
  · exact y.keep b o (x.keep b o e n k) (x.fr e ⟨n, k⟩).1 k
mutual
theorem RV.monoU (x : ExU K T φ φ' H H') : ∀ (w : W) (v : V), RV K T φ H w v → RV K T φ' H' w v
  | .non, v, h => by simpa only [RV] using h
  | .bl b, v, h => by simpa only [RV] using h
  | .int i, v, h => by simpa only [RV] using h
  | .str s, v, h => by simpa only [RV] using h
  | .tup xs, v, h => by
    simp only [RV] at h ⊢
    obtain ⟨a, vs, e, h1, h2⟩ := h
    refine ⟨a, vs, e, ?_, RVs.monoU x xs vs h2⟩
    rcases h1 with ⟨n, r⟩ | k
    · exact .inl (x.rd n r)
    · exact .inr k
  | .lit xs, v, h => by
    simp only [RV] at h ⊢
    obtain ⟨a, vs, e, n, h1, h2⟩ := h
    exact ⟨a, vs, e, x.fr h1 n, x.keep a _ h1 n.1 n.2, RVs.monoU x xs vs h2⟩
  | .rol xs, v, h => by
    simp only [RV] at h ⊢
    obtain ⟨a, vs, e, h1, h2⟩ := h
    refine ⟨a, vs, e, ?_, RVs.monoU x xs vs h2⟩
    rcases h1 with ⟨n, r⟩ | k
    · exact .inl (x.rd n r)
    · exact .inr k
  | .obj c ns xs, v, h => by
    simp only [RV] at h ⊢
    obtain ⟨a, fs, e, n, h1, h2, h3⟩ := h
    exact ⟨a, fs, e, x.insFr h1 n, x.ins h1 n, h2, RVs.monoU x xs _ h3⟩
  | .dic ks ws, v, h => by
    simp only [RV] at h ⊢
    obtain ⟨a, es, kv, vv, e, h1, h2, h3, h4, h5, h6, h7⟩ := h
    exact ⟨a, es, kv, vv, e, h1.imp_left fun z => ⟨x.dicFr z.2 z.1, x.dic z.2 z.1⟩, h2, h3, h4, h5, RVs.monoU x ks kv h6, RVs.monoU x ws vv h7⟩
  | .cls c, v, h => by simpa only [RV] using h
  | .ref n, v, h => by
    simp only [RV] at h ⊢
    obtain ⟨a, e, h1⟩ := h
    exact ⟨a, e, x.gets h1⟩
theorem RVs.monoU (x : ExU K T φ φ' H H') : ∀ (ws : List W) (vs : List V), RVs K T φ H ws vs → RVs K T φ' H' ws vs
  | [], vs, h => by simpa only [RVs] using h
  | w :: ws, vs, h => by
    simp only [RVs] at h ⊢
    obtain ⟨v, r, e, h1, h2⟩ := h
    exact ⟨v, r, e, RV.monoU x w v h1, RVs.monoU x ws r h2⟩
end
theorem RV.mono (x : Ex K φ φ' H H') (w : W) (v : V) (h : RV K T φ H w v) : RV K T φ' H' w v := RV.monoU (x.u T) w v h
theorem RVs.mono (x : Ex K φ φ' H H') (ws : List W) (vs : List V) (h : RVs K T φ H ws vs) : RVs K T φ' H' ws vs := RVs.monoU (x.u T) ws vs h
theorem RS.mono {σb : Sb} {σ : L2.St} (x : Ex K φ φ' H H') (s : RS K T φ H σb σ) : RS K T φ' H' σb σ :=
  ⟨s.len, fun i w e => let ⟨v, e1, r⟩ := s.at_ i w e; ⟨v, e1, RV.mono x w v r⟩⟩
theorem RVs.length : ∀ {ws : List W} {vs : List V}, RVs K T φ H ws vs → ws.length = vs.length
  | [], vs, h => by simp only [RVs] at h; rw [h]; rfl
  | w :: ws, vs, h => by
    simp only [RVs] at h
    obtain ⟨v, r, e, _, h2⟩ := h
    rw [e, List.length_cons, List.length_cons, RVs.length h2]
theorem RVs.get : ∀ {ws : List W} {vs : List V} {i : Nat} {w : W}, RVs K T φ H ws vs → ws[i]? = some w → ∃ v, vs[i]? = some v ∧ RV K T φ H w v
  | [], _, _, _, _, e => by simp at e
  | w :: ws, vs, 0, x, h, e => by
    simp only [RVs] at h
    obtain ⟨v, r, e1, h1, _⟩ := h
    simp at e; subst e; subst e1
    exact ⟨v, rfl, h1⟩
  | w :: ws, vs, i + 1, x, h, e => by
    simp only [RVs] at h
    obtain ⟨v, r, e1, _, h2⟩ := h
    subst e1
    obtain ⟨u, e2, r2⟩ := RVs.get (i := i) h2 (by simpa using e)
    exact ⟨u, by simpa using e2, r2⟩
theorem RVs.append : ∀ {ws us : List W} {vs ts : List V}, RVs K T φ H ws vs → RVs K T φ H us ts → RVs K T φ H (ws ++ us) (vs ++ ts)
  | [], _, vs, _, h, k => by simp only [RVs] at h; subst h; exact k
  | w :: ws, us, vs, ts, h, k => by
    simp only [RVs] at h
    obtain ⟨v, r, e, h1, h2⟩ := h
    subst e
    simp only [List.cons_append, RVs]
    exact ⟨v, r ++ ts, rfl, h1, RVs.append h2 k⟩
theorem RVs.nil : RVs K T φ H [] [] := by simp only [RVs]
theorem RVs.cons {w : W} {ws : List W} {v : V} {vs : List V} (h : RV K T φ H w v) (k : RVs K T φ H ws vs) : RVs K T φ H (w :: ws) (v :: vs) := by
  simp only [RVs]; exact ⟨v, vs, rfl, h, k⟩
theorem RVs.take : ∀ (n : Nat) {ws : List W} {vs : List V}, RVs K T φ H ws vs → RVs K T φ H (ws.take n) (vs.take n)
  | 0, _, _, _ => by simp only [List.take_zero]; exact .nil
  | n + 1, [], vs, h => by simp only [RVs] at h; subst h; exact .nil
  | n + 1, w :: ws, vs, h => by
    simp only [RVs] at h
    obtain ⟨v, r, e, h1, h2⟩ := h
    subst e
    simp only [List.take_succ_cons]
    exact .cons h1 (RVs.take n h2)
theorem RVs.drop : ∀ (n : Nat) {ws : List W} {vs : List V}, RVs K T φ H ws vs → RVs K T φ H (ws.drop n) (vs.drop n)
  | 0, _, _, h => h
  | n + 1, [], vs, h => by simp only [RVs] at h; subst h; exact .nil
  | n + 1, w :: ws, vs, h => by
    simp only [RVs] at h
    obtain ⟨v, r, e, h1, h2⟩ := h
    subst e
    exact RVs.drop n h2
theorem RVs.set {w : W} {v : V} (r : RV K T φ H w v) : ∀ (i : Nat) {ws : List W} {vs : List V}, RVs K T φ H ws vs → RVs K T φ H (ws.set i w) (vs.set i v)
  | _, [], vs, h => by simp only [RVs] at h; subst h; exact .nil
  | 0, x :: ws, vs, h => by
    simp only [RVs] at h
    obtain ⟨u, t, e, _, h2⟩ := h
    subst e
    exact .cons r h2
  | i + 1, x :: ws, vs, h => by
    simp only [RVs] at h
    obtain ⟨u, t, e, h1, h2⟩ := h
    subst e
    exact .cons h1 (RVs.set r i h2)
theorem RVs.eraseIdx : ∀ (i : Nat) {ws : List W} {vs : List V}, RVs K T φ H ws vs → RVs K T φ H (ws.eraseIdx i) (vs.eraseIdx i)
  | _, [], vs, h => by simp only [RVs] at h; subst h; exact .nil
  | 0, x :: ws, vs, h => by
    simp only [RVs] at h
    obtain ⟨u, t, e, _, h2⟩ := h
    subst e
    exact h2
  | i + 1, x :: ws, vs, h => by
    simp only [RVs] at h
    obtain ⟨u, t, e, h1, h2⟩ := h
    subst e
    exact .cons h1 (RVs.eraseIdx i h2)
theorem RVs.dropLast {ws : List W} {vs : List V} (h : RVs K T φ H ws vs) : RVs K T φ H ws.dropLast vs.dropLast := by
  rw [List.dropLast_eq_take, List.dropLast_eq_take, ← h.length]; exact RVs.take _ h
theorem RVs.rep {ws : List W} {vs : List V} (h : RVs K T φ H ws vs) : ∀ n : Nat, RVs K T φ H (List.replicate n ws).flatten (List.replicate n vs).flatten
  | 0 => .nil
  | n + 1 => by simp only [List.replicate_succ, List.flatten_cons]; exact h.append (RVs.rep h n)

/-! ### the heap changes -/
theorem Rel.obj {h : Hb} (r : Rel K T φ H h) {n : Nat} {a : Addr} (e : φ[n]? = some (some a)) : ∃ o, h[n]? = some o ∧ RO K T φ H a o := by
  have hl : n < h.length := by rw [← r.len]; exact (List.getElem?_eq_some_iff.mp e).1
  exact ⟨_, List.getElem?_eq_getElem hl, r.at_ n _ a (List.getElem?_eq_getElem hl) e⟩
theorem RO.thing {a : Addr} {o : O} (q : RO K T φ H a o) : ∃ u, H a = some u := by
  cases o with
  | lst xs => obtain ⟨vs, e1, _⟩ := q; exact ⟨_, e1⟩
  | ins c ns xs => obtain ⟨dx, fs, e1, _⟩ := q; exact ⟨_, e1⟩
  | dct ks vs => obtain ⟨es, kv, vv, ⟨⟨_, e1⟩, _⟩, _⟩ := q; exact ⟨_, e1⟩
  | dead => exact q.elim
theorem Rel.mem {h : Hb} (r : Rel K T φ H h) {a : Addr} (m : some a ∈ φ) : ∃ o, H a = some o := by
  obtain ⟨n, hn⟩ := List.mem_iff_getElem?.mp m
  obtain ⟨o, _, q⟩ := r.obj hn
  exact q.thing
theorem Rel.fresh {h : Hb} (r : Rel K T φ H h) {p : Addr} (e : H p = none) : some p ∉ φ := fun m => by
  obtain ⟨o, q⟩ := r.mem m
  rw [e] at q; cases q
theorem Rel.fr {h : Hb} (r : Rel K T φ H h) {p : Addr} (e : H p = none) : Fr T φ p := ⟨r.fresh e, fun q => by
  obtain ⟨o, z⟩ := r.hd p q
  rw [e] at z; cases z⟩
theorem RO.mono {a : Addr} {o : O} (x : Ex K φ φ' H H') (hk : H' a = H a) (r : RO K T φ H a o) : RO K T φ' H' a o := by
  cases o with
  | lst xs => obtain ⟨vs, e, k⟩ := r; exact ⟨vs, hk.trans e, RVs.mono x _ _ k⟩
  | ins c ns xs => obtain ⟨dx, fs, e, e2, k⟩ := r; exact ⟨dx, fs, hk.trans e, e2, RVs.mono x _ _ k⟩
  | dct ks vs => obtain ⟨es, kv, vv, e1, e2, e3, e4, e5, e6, e7⟩ := r; exact ⟨es, kv, vv, ⟨(let ⟨ep, z⟩ := e1.1; ⟨ep, hk.trans z⟩), e1.2⟩, e2, e3, e4, e5, RVs.mono x _ _ e6, RVs.mono x _ _ e7⟩
  | dead => exact r
/-- nothing is moved -/
theorem Ex.stay (new : ∀ b o, H b = some o → some b ∉ φ → H' b = some o) : Ex K φ φ H H' := ⟨fun n x e => .inl e, fun b h n => absurd h n, new⟩
/-- something new beside the tracked -/
theorem Ex.side {h : Hb} (r : Rel K T φ H h) {p : Addr} {o : HO} (e : H p = none) : Ex K φ φ H (upd H p o) :=
  .stay fun b u q _ => by rw [upd_ne (ne_of_none q e)]; exact q
/-- anything that keeps the tracked -/
theorem Rel.keep {h : Hb} (r : Rel K T φ H h) (k : ∀ b o, H b = some o → H' b = some o) : Rel K T φ H' h ∧ Ex K φ φ H H' :=
  have x : Ex K φ φ H H' := .stay fun b u q _ => k b u q
  ⟨⟨r.nd, r.len, fun a q => let ⟨o, z⟩ := r.hd a q; ⟨o, k a o z⟩, r.hf, fun n u a h1 h2 => by
    obtain ⟨o, q⟩ := r.mem (List.mem_of_getElem? h2)
    exact RO.mono x ((k a o q).trans q.symm) (r.at_ n u a h1 h2), r.dd⟩, x⟩
theorem Rel.side {h : Hb} (r : Rel K T φ H h) {p : Addr} {o : HO} (e : H p = none) : Rel K T φ (upd H p o) h :=
  (r.keep fun b u q => by rw [upd_ne (ne_of_none q e)]; exact q).1
/-- a new tracked thing -/
theorem Ex.grow {h : Hb} (r : Rel K T φ H h) {p : Addr} {o : HO} (e : H p = none) : Ex K φ (φ ++ [some p]) H (upd H p o) :=
  ⟨fun n x z => .inl (by rw [List.getElem?_append_left (List.getElem?_eq_some_iff.mp z).1]; exact z), fun b h n => by
    rcases List.mem_append.mp h with z | z
    · exact absurd z n
    · rw [Option.some.inj (List.mem_singleton.mp z)]
      exact e, fun b u q _ => by rw [upd_ne (ne_of_none q e)]; exact q⟩
theorem grow_at {p : Addr} {n : Nat} {x : Option Addr} (e : (φ ++ [some p])[n]? = some x) : φ[n]? = some x ∨ (n = φ.length ∧ x = some p) := by
  by_cases hn : n < φ.length
  · rw [List.getElem?_append_left hn] at e; exact .inl e
  · rw [List.getElem?_append_right (Nat.le_of_not_lt hn)] at e
    cases hk : n - φ.length with
    | zero => rw [hk] at e; cases e; exact .inr ⟨by omega, rfl⟩
    | succ k => rw [hk] at e; simp at e
theorem Rel.grow {h : Hb} (r : Rel K T φ H h) {p : Addr} {o : HO} {ob : O} (e : H p = none) (ro : RO K T (φ ++ [some p]) (upd H p o) p ob) : Rel K T (φ ++ [some p]) (upd H p o) (h ++ [ob]) := by
  have np := r.fresh e
  refine ⟨fun i j a h1 h2 => ?_, by simp [r.len], fun a q => (let ⟨o, z⟩ := r.hd a q; ⟨o, by rw [upd_ne (ne_of_none z e)]; exact z⟩), fun a q m => ?_, fun n u a h1 h2 => ?_, fun n h1 => ?_⟩
  · rcases grow_at h1 with z1 | ⟨z1, y1⟩ <;> rcases grow_at h2 with z2 | ⟨z2, y2⟩
    · exact r.nd i j a z1 z2
    · exact absurd (List.mem_of_getElem? (y2 ▸ z1)) np
    · exact absurd (List.mem_of_getElem? (y1 ▸ z2)) np
    · rw [z1, z2]
  · rcases List.mem_append.mp m with z | z
    · exact r.hf a q z
    · obtain ⟨o, y⟩ := r.hd a q
      rw [Option.some.inj (List.mem_singleton.mp z), e] at y
      cases y
  · rcases grow_at h2 with z | ⟨z, y⟩
    · have hn : n < h.length := by rw [← r.len]; exact (List.getElem?_eq_some_iff.mp z).1
      rw [List.getElem?_append_left hn] at h1
      exact RO.mono (Ex.grow r e) (upd_ne (fun z' => np (z' ▸ List.mem_of_getElem? z))) (r.at_ n u a h1 z)
    · cases y
      rw [z, r.len, List.getElem?_append_right (Nat.le_refl _)] at h1
      simp at h1
      rw [← h1]
      exact ro
  · rcases grow_at h1 with z | ⟨_, y⟩
    · have hn : n < h.length := by rw [← r.len]; exact (List.getElem?_eq_some_iff.mp z).1
      rw [List.getElem?_append_left hn]
      exact r.dd n z
    · cases y
/-- a tracked one written -/
theorem Ex.write {h : Hb} {a : Addr} {o : HO} (r : Rel K T φ H h) (m : some a ∈ φ) : Ex K φ φ H (upd H a o) :=
  .stay fun b u q n => by rw [upd_ne (fun z : b = a => n (by rw [z]; exact m))]; exact q
theorem Rel.write {h : Hb} {n : Nat} {a : Addr} {o : HO} {ob : O} (r : Rel K T φ H h) (e : φ[n]? = some (some a)) (ro : RO K T φ (upd H a o) a ob) : Rel K T φ (upd H a o) (h.set n ob) := by
  have x := Ex.write (o := o) r (List.mem_of_getElem? e)
  have hl : n < h.length := by rw [← r.len]; exact (List.getElem?_eq_some_iff.mp e).1
  refine ⟨r.nd, by rw [List.length_set]; exact r.len, fun b q => ?_, r.hf, fun m u b h1 h2 => ?_, fun m h1 => ?_⟩
  · by_cases z : b = a
    · exact ⟨o, by rw [z]; exact upd_same⟩
    · obtain ⟨u, e⟩ := r.hd b q
      exact ⟨u, by rw [upd_ne z]; exact e⟩
  · by_cases hm : n = m
    · subst hm
      rw [e] at h2; cases h2
      rw [List.getElem?_set_self hl] at h1; cases h1
      exact ro
    · rw [List.getElem?_set_ne hm] at h1
      exact RO.mono x (upd_ne fun z => hm (r.nd n m a e (z ▸ h2))) (r.at_ m u b h1 h2)
  · have hm : n ≠ m := fun z => by rw [← z, e] at h1; cases h1
    rw [List.getElem?_set_ne hm]
    exact r.dd m h1
/-- a tracked one is changed no more -/
theorem Ex.kill {n : Nat} {a : Addr} (e : φ[n]? = some (some a)) : Ex K φ (φ.set n none) H H :=
  ⟨fun m x z => by
    by_cases hm : n = m
    · subst hm
      exact .inr (by rw [List.getElem?_set_self (List.getElem?_eq_some_iff.mp e).1])
    · exact .inl (by rw [List.getElem?_set_ne hm]; exact z), (fun b h n' => by
    rcases List.mem_or_eq_of_mem_set h with z | z
    · exact absurd z n'
    · cases z), fun b o q _ => q⟩
theorem kill_at {n m : Nat} {b : Addr} (h : (φ.set n none)[m]? = some (some b)) : n ≠ m ∧ φ[m]? = some (some b) := by
  by_cases hm : n = m
  · subst hm
    have l := (List.getElem?_eq_some_iff.mp h).1
    rw [List.length_set] at l
    rw [List.getElem?_set_self l] at h
    cases h
  · exact ⟨hm, by rw [List.getElem?_set_ne hm] at h; exact h⟩
theorem Rel.kill {h : Hb} {n : Nat} {a : Addr} (r : Rel K T φ H h) (e : φ[n]? = some (some a)) : Rel K T (φ.set n none) H (h.set n .dead) ∧ Fr T (φ.set n none) a := by
  have hl : n < h.length := by rw [← r.len]; exact (List.getElem?_eq_some_iff.mp e).1
  refine ⟨⟨fun i j b h1 h2 => r.nd i j b (kill_at h1).2 (kill_at h2).2, by simp [r.len], r.hd, fun b q m => ?_, fun m u b h1 h2 => ?_, fun m h1 => ?_⟩, fun m => ?_, fun q => r.hf a q (List.mem_of_getElem? e)⟩
  · rcases List.mem_or_eq_of_mem_set m with z | z
    · exact r.hf b q z
    · cases z
  · obtain ⟨hm, z⟩ := kill_at h2
    rw [List.getElem?_set_ne hm] at h1
    exact RO.mono (Ex.kill e) rfl (r.at_ m u b h1 z)
  · by_cases hm : n = m
    · subst hm
      rw [List.getElem?_set_self hl]
    · rw [List.getElem?_set_ne hm] at h1 ⊢
      exact r.dd m h1
  · obtain ⟨k, hk⟩ := List.mem_iff_getElem?.mp m
    obtain ⟨hm, z⟩ := kill_at hk
    exact hm (r.nd n k a e z)
/-- what a ref to a thing that lives says -/
theorem Rel.live {h : Hb} {n : Nat} {o : O} {v : V} (r : Rel K T φ H h) (e : h[n]? = some o) (hd : o ≠ .dead) (k : RV K T φ H (.ref n) v) : ∃ a, v = .ref a ∧ φ[n]? = some (some a) ∧ RO K T φ H a o := by
  simp only [RV] at k
  obtain ⟨a, e1, e2⟩ := k
  rcases e2 with e2 | e2
  · exact ⟨a, e1, e2, r.at_ n o a e e2⟩
  · have := r.dd n e2
    rw [e] at this
    exact absurd (Option.some.inj this) hd
end

/-! ### lists in the making -/
/-- T' hides what T hides, and perhaps what is not there yet -/
structure Hid (T T' : Tab) (H : Hp) : Prop where
  ca : T'.ca = T.ca
  up : ∀ a, T.hid a → T'.hid a
  new : ∀ a, T'.hid a → T.hid a ∨ H a = none
section
variable {K : PySem.W.Frag} {T T' : Tab} {φ φ' : Pl} {H H' : Hp}
theorem Hid.refl : Hid T T H := ⟨rfl, fun _ h => h, fun _ h => .inl h⟩
theorem Hid.fr (g : Hid T T' H) {a : Addr} {o : HO} (n : Fr T φ a) (e : H a = some o) : Fr T' φ a := ⟨n.1, fun q => by
  rcases g.new a q with z | z
  · exact n.2 z
  · rw [e] at z; cases z⟩
theorem Hid.rd (g : Hid T T' H) {a : Addr} {u : HO} (n : Fr T φ a) (r : Rd H a u) : Fr T' φ a := by
  rcases r with e | ⟨o, e⟩
  · exact g.fr n e
  · exact g.fr n e
theorem Hid.bare (g : Hid T T' H) {a : Addr} (n : Fr T' φ a) : Fr T φ a := ⟨n.1, fun q => n.2 (g.up a q)⟩
theorem Hid.at (g : Hid T T' H) (k : ∀ b o, H' b = some o → ∃ u, H b = some u) : Hid T T' H' := ⟨g.ca, g.up, fun a q => by
  rcases g.new a q with z | z
  · exact .inl z
  · refine .inr ?_
    cases e : H' a with
    | none => rfl
    | some o => obtain ⟨u, e2⟩ := k a o e; rw [z] at e2; cases e2⟩
mutual
theorem RV.hide (g : Hid T T' H) : ∀ (w : W) (v : V), RV K T φ H w v → RV K T' φ H w v
  | .non, v, h => by simpa only [RV] using h
  | .bl b, v, h => by simpa only [RV] using h
  | .int i, v, h => by simpa only [RV] using h
  | .str s, v, h => by simpa only [RV] using h
  | .tup xs, v, h => by
    simp only [RV] at h ⊢
    obtain ⟨a, vs, e, h1, h2⟩ := h
    exact ⟨a, vs, e, h1.imp_left fun z => ⟨g.rd z.1 z.2, z.2⟩, RVs.hide g xs vs h2⟩
  | .lit xs, v, h => by
    simp only [RV] at h ⊢
    obtain ⟨a, vs, e, n, h1, h2⟩ := h
    exact ⟨a, vs, e, g.fr n h1, h1, RVs.hide g xs vs h2⟩
  | .rol xs, v, h => by
    simp only [RV] at h ⊢
    obtain ⟨a, vs, e, h1, h2⟩ := h
    exact ⟨a, vs, e, h1.imp_left fun z => ⟨g.rd z.1 z.2, z.2⟩, RVs.hide g xs vs h2⟩
  | .obj c ns xs, v, h => by
    simp only [RV] at h ⊢
    obtain ⟨a, fs, e, n, h1, h2, h3⟩ := h
    exact ⟨a, fs, e, (let ⟨_, z⟩ := h1; g.fr n z), by rw [g.ca]; exact h1, h2, RVs.hide g xs _ h3⟩
  | .dic ks ws, v, h => by
    simp only [RV] at h ⊢
    obtain ⟨a, es, kv, vv, e, h1, h2, h3, h4, h5, h6, h7⟩ := h
    exact ⟨a, es, kv, vv, e, h1.imp_left fun z => ⟨(let ⟨⟨_, y⟩, _⟩ := z.2; g.fr z.1 y), z.2⟩, h2, by rw [g.ca]; exact h3, h4, h5, RVs.hide g ks kv h6, RVs.hide g ws vv h7⟩
  | .cls c, v, h => by simp only [RV] at h ⊢; rw [g.ca]; exact h
  | .ref n, v, h => by simpa only [RV] using h
theorem RVs.hide (g : Hid T T' H) : ∀ (ws : List W) (vs : List V), RVs K T φ H ws vs → RVs K T' φ H ws vs
  | [], vs, h => by simpa only [RVs] using h
  | w :: ws, vs, h => by
    simp only [RVs] at h ⊢
    obtain ⟨v, r, e, h1, h2⟩ := h
    exact ⟨v, r, e, RV.hide g w v h1, RVs.hide g ws r h2⟩
end
mutual
theorem RV.bare {H0 : Hp} (g : Hid T T' H0) : ∀ (w : W) (v : V), RV K T' φ H w v → RV K T φ H w v
  | .non, v, h => by simpa only [RV] using h
  | .bl b, v, h => by simpa only [RV] using h
  | .int i, v, h => by simpa only [RV] using h
  | .str s, v, h => by simpa only [RV] using h
  | .tup xs, v, h => by
    simp only [RV] at h ⊢
    obtain ⟨a, vs, e, h1, h2⟩ := h
    exact ⟨a, vs, e, h1.imp_left fun z => ⟨g.bare z.1, z.2⟩, RVs.bare g xs vs h2⟩
  | .lit xs, v, h => by
    simp only [RV] at h ⊢
    obtain ⟨a, vs, e, n, h1, h2⟩ := h
    exact ⟨a, vs, e, g.bare n, h1, RVs.bare g xs vs h2⟩
  | .rol xs, v, h => by
    simp only [RV] at h ⊢
    obtain ⟨a, vs, e, h1, h2⟩ := h
    exact ⟨a, vs, e, h1.imp_left fun z => ⟨g.bare z.1, z.2⟩, RVs.bare g xs vs h2⟩
  | .obj c ns xs, v, h => by
    simp only [RV] at h ⊢
    obtain ⟨a, fs, e, n, h1, h2, h3⟩ := h
    exact ⟨a, fs, e, g.bare n, by rw [← g.ca]; exact h1, h2, RVs.bare g xs _ h3⟩
  | .dic ks ws, v, h => by
    simp only [RV] at h ⊢
    obtain ⟨a, es, kv, vv, e, h1, h2, h3, h4, h5, h6, h7⟩ := h
    exact ⟨a, es, kv, vv, e, h1.imp_left fun z => ⟨g.bare z.1, z.2⟩, h2, by rw [← g.ca]; exact h3, h4, h5, RVs.bare g ks kv h6, RVs.bare g ws vv h7⟩
  | .cls c, v, h => by simp only [RV] at h ⊢; rw [← g.ca]; exact h
  | .ref n, v, h => by simpa only [RV] using h
theorem RVs.bare {H0 : Hp} (g : Hid T T' H0) : ∀ (ws : List W) (vs : List V), RVs K T' φ H ws vs → RVs K T φ H ws vs
  | [], vs, h => by simpa only [RVs] using h
  | w :: ws, vs, h => by
    simp only [RVs] at h ⊢
    obtain ⟨v, r, e, h1, h2⟩ := h
    exact ⟨v, r, e, RV.bare g w v h1, RVs.bare g ws r h2⟩
end
theorem RO.hide (g : Hid T T' H) {a : Addr} {o : O} (r : RO K T φ H a o) : RO K T' φ H a o := by
  cases o with
  | lst xs => obtain ⟨vs, e, k⟩ := r; exact ⟨vs, e, RVs.hide g _ _ k⟩
  | ins c ns xs => obtain ⟨dx, fs, e, e2, k⟩ := r; exact ⟨dx, fs, by rw [g.ca]; exact e, e2, RVs.hide g _ _ k⟩
  | dct ks vs => obtain ⟨es, kv, vv, e1, e2, e3, e4, e5, e6, e7⟩ := r; exact ⟨es, kv, vv, e1, e2, by rw [g.ca]; exact e3, e4, e5, RVs.hide g _ _ e6, RVs.hide g _ _ e7⟩
  | dead => exact r
theorem RO.bare {H0 : Hp} (g : Hid T T' H0) {a : Addr} {o : O} (r : RO K T' φ H a o) : RO K T φ H a o := by
  cases o with
  | lst xs => obtain ⟨vs, e, k⟩ := r; exact ⟨vs, e, RVs.bare g _ _ k⟩
  | ins c ns xs => obtain ⟨dx, fs, e, e2, k⟩ := r; exact ⟨dx, fs, by rw [← g.ca]; exact e, e2, RVs.bare g _ _ k⟩
  | dct ks vs => obtain ⟨es, kv, vv, e1, e2, e3, e4, e5, e6, e7⟩ := r; exact ⟨es, kv, vv, e1, e2, by rw [← g.ca]; exact e3, e4, e5, RVs.bare g _ _ e6, RVs.bare g _ _ e7⟩
  | dead => exact r
theorem Rel.into {h : Hb} (g : Hid T T' H) (k : ∀ b o, H b = some o → H' b = some o) (d : ∀ a, T'.hid a → ∃ o, H' a = some o) (r : Rel K T φ H h) : Rel K T' φ H' h :=
  have x : Ex K φ φ H H' := .stay fun b u q _ => k b u q
  ⟨r.nd, r.len, d, fun a q m => by
    rcases g.new a q with z | z
    · exact r.hf a z m
    · exact r.fresh z m, fun n u a h1 h2 => by
    obtain ⟨o, q⟩ := r.mem (List.mem_of_getElem? h2)
    exact RO.mono x ((k a o q).trans q.symm) (RO.hide g (r.at_ n u a h1 h2)), r.dd⟩
theorem Rel.bare {h : Hb} {H0 : Hp} (g : Hid T T' H0) (r : Rel K T' φ H h) : Rel K T φ H h :=
  ⟨r.nd, r.len, fun a q => r.hd a (g.up a q), fun a q => r.hf a (g.up a q), fun n u a h1 h2 => RO.bare g (r.at_ n u a h1 h2), r.dd⟩
end

/-! ### answers -/
/-- an exception, as it flies -/
def RX (K : PySem.W.Frag) (T : Tab) (φ : Pl) (H : Hp) (x : W) (cls : Value) (d : Option Addr) : Prop :=
  ∃ c ns xs, x = .obj c ns xs ∧ cls = .ref (T.ca.ca c) ∧ ∃ dd fs, d = some dd ∧ H dd = some (.xd fs) ∧ fs.map (·.1) = ns ∧ RVs K T φ H xs (fs.map (·.2))
/-- what is wanted behind an answer; Rw: what the answer means -/
def PostR {β : Type} (K : PySem.W.Frag) (T : Tab) (Rw : Pl → Hp → W → β → Prop) (Z : Value → Option Addr → Hp → Prop) (φ : Pl) (H : Hp) (r : R W) (Q : β → Hp → Prop) : Prop :=
  match r with
  | .ok w h' => ∀ φ' v H', Ex K φ φ' H H' → Rel K T φ' H' h' → Rw φ' H' w v → Q v H'
  | .ex x h' => ∀ φ' H' cls d, Ex K φ φ' H H' → Rel K T φ' H' h' → RX K T φ' H' x cls d → Z cls d H'
  | .no => False
abbrev Post (K : PySem.W.Frag) (T : Tab) := PostR K T (fun φ H => RV K T φ H)
/-- arguments, one after another -/
def RA (K : PySem.W.Frag) (T : Tab) (φ : Pl) (H : Hp) (w : W) (vs : List V) : Prop := ∃ ws, w = .tup ws ∧ RVs K T φ H ws vs
abbrev PostA (K : PySem.W.Frag) (T : Tab) := PostR K T (RA K T)
section
variable {β γ : Type} {K : PySem.W.Frag} {T : Tab} {φ φ1 φ2 φ' : Pl} {H H1 H2 H' : Hp} {Z : Value → Option Addr → Hp → Prop} {Q Q' : β → Hp → Prop} {Rw : Pl → Hp → W → β → Prop} {Ru : Pl → Hp → W → γ → Prop}
theorem PostR.ext {r : R W} (x : Ex K φ φ1 H H1) (p : PostR K T Rw Z φ H r Q) : PostR K T Rw Z φ1 H1 r Q := by
  cases r with
  | ok w h' => exact fun φ' v H' y rl rv => p φ' v H' (x.trans y) rl rv
  | ex e h' => exact fun φ' H' cls d y rl rv => p φ' H' cls d (x.trans y) rl rv
  | no => exact p
theorem PostR.mono {r : R W} (p : PostR K T Rw Z φ H r Q) (h : ∀ v H', Q v H' → Q' v H') : PostR K T Rw Z φ H r Q' := by
  cases r with
  | ok w h' => exact fun φ' v H' y rl rv => h _ _ (p φ' v H' y rl rv)
  | ex e h' => exact p
  | no => exact p
/-- one part, then the rest -/
theorem PostR.bind {r : R W} {g : W → Hb → R W} (p : PostR K T Rw Z φ H (r.bind g) Q) :
    PostR K T Ru Z φ H r (fun v H1 => ∃ φ1 w h1, r = .ok w h1 ∧ Ex K φ φ1 H H1 ∧ Rel K T φ1 H1 h1 ∧ Ru φ1 H1 w v ∧ PostR K T Rw Z φ1 H1 (g w h1) Q) := by
  cases r with
  | ok w h' => exact fun φ' v H' y rl rv => ⟨φ', w, h', rfl, y, rl, rv, PostR.ext y p⟩
  | ex e h' => exact p
  | no => exact p
end

abbrev ZX (Wx : WX) (σ : L2.St) : Value → Option Addr → Hp → Prop := fun cls d H => Wx cls d σ H
/-- the reading of a Python expression (arguments: Ru) that runs as f -/
def tR {γ : Type} (K : PySem.W.Frag) (T : Tab) (Ru : Pl → Hp → W → γ → Prop) (Wx : WX) (f : Sb → Hb → R W) : L2.St → Hp → (γ → Hp → Prop) → Prop := fun σ H Q =>
  ∃ φ σb h, RS K T φ H σb σ ∧ Rel K T φ H h ∧ PostR K T Ru (ZX Wx σ) φ H (f σb h) Q
abbrev tI (K : PySem.W.Frag) (T : Tab) (Wx : WX) (f : Sb → Hb → R W) : TE := tR K T (fun φ H => RV K T φ H) Wx f
abbrev tIA (K : PySem.W.Frag) (T : Tab) (Wx : WX) (f : Sb → Hb → R W) : TA := tR K T (RA K T) Wx f
theorem _root_.L2.PE.weak {X : L2.Cx} {e : Expr} {t t' : TE} (h : PE X e t) (hm : ∀ σ H Q, t' σ H Q → t σ H Q) : PE X e t' :=
  ⟨fun pins s σ H Q I q => h.run pins s σ H Q I (hm _ _ _ q)⟩
theorem _root_.L2.PT.weak {X : L2.Cx} {e : Expr} {t t' : TT} (h : PT X e t) (hm : ∀ σ H Q, t' σ H Q → t σ H Q) : PT X e t' :=
  ⟨fun pins s σ H Q I q => h.run pins s σ H Q I (hm _ _ _ q)⟩
theorem _root_.L2.PW.weak {X : L2.Cx} {e : Expr} {t t' : TT} (h : PW X e t) (hm : ∀ σ H Q, t' σ H Q → t σ H Q) : PW X e t' :=
  ⟨fun wh pins s σ H Q I q => h.run wh pins s σ H Q I (hm _ _ _ q)⟩
theorem _root_.L2.PA.weak {X : L2.Cx} {es : List Expr} {t t' : TA} (h : PA X es t) (hm : ∀ σ H Q, t' σ H Q → t σ H Q) : PA X es t' :=
  ⟨fun pos pins s σ H Q I q => h.run pos pins s σ H Q I (hm _ _ _ q)⟩
section
variable {β γ : Type} {K : PySem.W.Frag} {T : Tab} {Wx : WX} {φ φ1 φ2 φ' : Pl} {H H1 H2 H' : Hp} {Q Q' : β → Hp → Prop} {σb : Sb} {σ : L2.St} {h : Hb} {Rw : Pl → Hp → W → β → Prop} {Ru : Pl → Hp → W → γ → Prop}
theorem tR_mono {f : Sb → Hb → R W} (t : tR K T Rw Wx f σ H Q) (m : ∀ v H', Q v H' → Q' v H') : tR K T Rw Wx f σ H Q' := by
  obtain ⟨φ, σb, h, s, r, p⟩ := t
  exact ⟨φ, σb, h, s, r, p.mono m⟩
/-- one part read, then the rest -/
theorem tR_of {f : Sb → Hb → R W} {g : W → Hb → R W} (s : RS K T φ H σb σ) (r : Rel K T φ H h) (p : PostR K T Rw (ZX Wx σ) φ H ((f σb h).bind g) Q) :
    tR K T Ru Wx f σ H (fun v H1 => ∃ φ1 w h1, f σb h = .ok w h1 ∧ Ex K φ φ1 H H1 ∧ RS K T φ1 H1 σb σ ∧ Rel K T φ1 H1 h1 ∧ Ru φ1 H1 w v ∧ PostR K T Rw (ZX Wx σ) φ1 H1 (g w h1) Q) := by
  refine ⟨φ, σb, h, s, r, (p.bind (Ru := Ru)).mono ?_⟩
  rintro v H1 ⟨φ1, w, h1, e, x, rl, rv, q⟩
  exact ⟨φ1, w, h1, e, x, s.mono x, rl, rv, q⟩
end
end Y
/-! Yda: dicts whose keys are texts and ints, or tuples of data: what is looked up, stored. -/
namespace Y
open PySem PySem.Spec PyProof.Rows L2

/-- the value is the key k -/
def KeyIs (h : Heap) (k : W) (u : Value) : Prop :=
  (∃ i t, k = .int i ∧ u = .int i t) ∨ (∃ s t, k = .str s ∧ u = .str s t) ∨ ∃ xs n a, k = .tup xs ∧ W.nk k = some n ∧ n.depth ≤ 8 ∧ u = .ref a ∧ NestedIs h n (.ref a)
/-- the hash of a key -/
def hkW (w : World) (k : W) : Int := match W.nk k with | some n => n.hash w | none => 0
/-- the keys of a dict, its entries -/
structure DE (w : World) (h : Heap) (ks : List W) (es : List DictEntry) : Prop where
  hsh : es.map (·.hash) = ks.map (hkW w)
  key : Paired (KeyIs h) ks (es.map (·.key))
theorem DE.nil {w : World} {h : Heap} : DE w h [] [] := ⟨rfl, .nil⟩
theorem DE.length {w : World} {h : Heap} {ks : List W} {es : List DictEntry} (d : DE w h ks es) : ks.length = es.length := by
  have := d.key.length
  simpa using this
theorem DE.inv {w : World} {h : Heap} {k : W} {ks : List W} {e : DictEntry} {es : List DictEntry} (d : DE w h (k :: ks) (e :: es)) : e.hash = hkW w k ∧ KeyIs h k e.key ∧ DE w h ks es := by
  obtain ⟨d1, d2⟩ := d
  simp only [List.map_cons, List.cons.injEq] at d1
  cases d2 with
  | cons r t => exact ⟨d1.1, r, d1.2, t⟩
theorem DE.cons {w : World} {h : Heap} {k : W} {ks : List W} {e : DictEntry} {es : List DictEntry} (h1 : e.hash = hkW w k) (h2 : KeyIs h k e.key) (d : DE w h ks es) : DE w h (k :: ks) (e :: es) :=
  ⟨by simp only [List.map_cons, h1, d.hsh], .cons h2 d.key⟩

/-! ### texts and ints -/
def keyOf : W → Key
  | .int i => .inl i
  | .str s => .inr s
  | _ => .inl 0
theorem atom_nk {k : W} (h : k.isAtom = true) : W.nk k = some (match keyOf k with | .inl i => NestedKey.num i | .inr s => .text s) := by
  cases k <;> first | rfl | cases h
theorem atom_hash {w : World} {k : W} (h : k.isAtom = true) : hkW w k = keyH w (keyOf k) := by
  unfold hkW
  rw [atom_nk h]
  cases k <;> first | rfl | cases h
theorem atom_is {P : Program} {w : World} {hp : Heap} {k : W} {u : Value} (h : k.isAtom = true) (x : KeyIs hp k u) : (mixKind P w).is (keyOf k) u = true := by
  rcases x with ⟨i, t, rfl, rfl⟩ | ⟨i, t, rfl, rfl⟩ | ⟨xs, n, a, rfl, _⟩
  · exact mixKind_int P w i t
  · exact mixKind_str P w i t
  · cases h
theorem is_atom {P : Program} {w : World} {hp : Heap} {k : W} {u : Value} (h : k.isAtom = true) (x : (mixKind P w).is (keyOf k) u = true) : KeyIs hp k u := by
  cases k with
  | int i =>
    rcases keyIs_shape (k := .inl i) x with ⟨j, t, e, rfl⟩ | ⟨_, _, e, _⟩
    · cases e; exact .inl ⟨i, t, rfl, rfl⟩
    · cases e
  | str i =>
    rcases keyIs_shape (k := .inr i) x with ⟨_, _, e, _⟩ | ⟨j, t, e, rfl⟩
    · cases e
    · cases e; exact .inr (.inl ⟨i, t, rfl, rfl⟩)
  | _ => cases h
theorem atom_inj {a b : W} (ha : a.isAtom = true) (hb : b.isAtom = true) (e : keyOf a = keyOf b) : a = b := by
  cases a <;> cases b <;> first | (cases ha; done) | (cases hb; done) | (cases e; rfl) | cases e
theorem atom_eq {a b : W} (ha : a.isAtom = true) (hb : b.isAtom = true) : keyEq a b = decide (keyOf b = keyOf a) := by
  unfold keyEq
  rw [atom_nk ha, atom_nk hb]
  cases a with
  | int i =>
    cases b with
    | int j => simp [NestedKey.beq, keyOf, eq_comm]
    | str j => simp [NestedKey.beq, keyOf]
    | _ => cases hb
  | str i =>
    cases b with
    | int j => simp [NestedKey.beq, keyOf]
    | str j => simp [NestedKey.beq, keyOf, eq_comm]
    | _ => cases hb
  | _ => cases ha
theorem nodup_un {α β : Type} {f : α → β} {l : List α} (h : (l.map f).Nodup) : l.Nodup := List.Pairwise.of_map f (fun a b n e => n (congrArg f e)) h

section
variable {P : Program} {w : World} {h : Heap}
theorem atoms_pairs : ∀ {ks : List W} {es : List DictEntry}, ks.all W.isAtom = true → DE w h ks es → Pairs (mixKind P w) es ((ks.map keyOf).zip (es.map (·.val))) ∧ ∀ e ∈ es, ∃ k, (mixKind P w).is k e.key = true ∧ e.hash = (mixKind P w).hash k
  | [], [], _, _ => ⟨.nil, fun _ z => by cases z⟩
  | [], _ :: _, _, d => by have := d.length; simp at this
  | _ :: _, [], _, d => by have := d.length; simp at this
  | k :: ks, e :: es, a, d => by
    simp only [List.all_cons, Bool.and_eq_true] at a
    obtain ⟨d1, d2, d3⟩ := d.inv
    obtain ⟨p1, p2⟩ := atoms_pairs a.2 d3
    refine ⟨.cons (atom_is a.1 d2) rfl p1, fun z hz => ?_⟩
    rcases List.mem_cons.mp hz with rfl | hz
    · exact ⟨_, atom_is a.1 d2, by rw [d1]; exact atom_hash a.1⟩
    · exact p2 z hz
theorem nodup_keys {ks : List W} (a : ks.all W.isAtom = true) (nd : (ks.map W.nk).Nodup) : (ks.map keyOf).Nodup := by
  refine nodup_un (f := fun k => some (match k with | .inl i => NestedKey.num i | .inr s => .text s)) ?_
  rw [List.map_map]
  have : ks.map W.nk = ks.map ((fun k => some (match k with | .inl i => NestedKey.num i | .inr s => .text s)) ∘ keyOf) := List.map_congr_left fun k hk => atom_nk (List.all_eq_true.mp a k hk)
  rw [← this]
  exact nd
end

/-! ### lists of pairs, by their keys -/
section
variable {κ β : Type} [DecidableEq κ]
theorem find_fst (k : κ) : ∀ l : List (κ × β), (l.find? fun p => decide (p.1 = k)).map (·.2) = ((l.map (·.1)).findIdx? fun y => decide (y = k)).bind fun j => (l.map (·.2))[j]?
  | [] => rfl
  | p :: l => by
    by_cases e : p.1 = k
    · simp [List.find?_cons, List.findIdx?_cons, e]
    · have ih := find_fst k l
      simp only [List.find?_cons, List.map_cons, List.findIdx?_cons, e, decide_false, Bool.false_eq_true, if_false]
      rw [ih]
      cases (l.map (·.1)).findIdx? fun y => decide (y = k) <;> simp
theorem map_put (k : κ) (v : β) : ∀ l : List (κ × β), (l.map (·.1)).Nodup → ∀ j, ((l.map (·.1)).findIdx? fun y => decide (y = k)) = some j → (l.map fun p => if p.1 = k then (p.1, v) else p).map (·.2) = (l.map (·.2)).set j v
  | [], _, j, h => by simp at h
  | p :: l, nd, j, h => by
    rw [List.map_cons, List.nodup_cons] at nd
    by_cases e : p.1 = k
    · simp only [List.map_cons, List.findIdx?_cons, e, decide_true, if_true, Option.some.injEq] at h
      subst h
      have : ∀ q ∈ l, ¬ q.1 = k := fun q hq z => nd.1 (List.mem_map.mpr ⟨q, hq, z.trans e.symm⟩)
      have e2 : (l.map fun p => if p.1 = k then (p.1, v) else p) = l := by
        conv => rhs; rw [← List.map_id l]
        exact List.map_congr_left fun q hq => by rw [if_neg (this q hq)]; rfl
      rw [List.map_cons, if_pos e, List.map_cons, e2]
      rfl
    · simp only [List.map_cons, List.findIdx?_cons, e, decide_false, Bool.false_eq_true, if_false] at h
      obtain ⟨i, hi, rfl⟩ := Option.map_eq_some_iff.mp h
      rw [List.map_cons, if_neg e, List.map_cons, map_put k v l nd.2 i hi]
      rfl
theorem map_fst (k : κ) (v : β) (l : List (κ × β)) : (l.map fun p => if p.1 = k then (p.1, v) else p).map (·.1) = l.map (·.1) := by
  rw [List.map_map]
  exact List.map_congr_left fun q _ => by
    show (if q.1 = k then (q.1, v) else q).1 = q.1
    split <;> rfl
theorem any_fst (k : κ) : ∀ l : List (κ × β), (l.any fun p => decide (p.1 = k)) = ((l.map (·.1)).findIdx? fun y => decide (y = k)).isSome
  | [] => rfl
  | p :: l => by
    by_cases e : p.1 = k
    · simp [List.findIdx?_cons, e]
    · have ih := any_fst k l
      simp only [List.any_cons, List.map_cons, List.findIdx?_cons, e, decide_false, Bool.false_or, Bool.false_eq_true, if_false, ih]
      cases (l.map (·.1)).findIdx? fun y => decide (y = k) <;> rfl
end
theorem find_by {κ : Type} [DecidableEq κ] (f : W → κ) {k : W} : ∀ {ks : List W}, (∀ x ∈ ks, keyEq k x = decide (f x = f k)) → findK ks k = (ks.map f).findIdx? fun y => decide (y = f k)
  | [], _ => rfl
  | x :: ks, h => by
    have ih := find_by f (k := k) (ks := ks) fun y hy => h y (List.mem_cons_of_mem _ hy)
    unfold findK at ih ⊢
    rw [List.map_cons, List.findIdx?_cons, List.findIdx?_cons, h x List.mem_cons_self, ih]

/-! ### atoms: found, stored -/
section
variable {P : Program} {w : World} {h : Heap} {ks : List W} {k : W}
theorem find_atoms (hk : k.isAtom = true) (a : ks.all W.isAtom = true) : findK ks k = (ks.map keyOf).findIdx? fun y => decide (y = keyOf k) :=
  find_by keyOf fun x hx => atom_eq hk (List.all_eq_true.mp a x hx)
theorem zip_fst {α β : Type} : ∀ {l : List α} {m : List β}, l.length = m.length → (l.zip m).map (·.1) = l
  | [], [], _ => rfl
  | x :: l, y :: m, e => by
    rw [List.zip_cons_cons, List.map_cons, zip_fst (by simpa using e)]
theorem zip_snd {α β : Type} : ∀ {l : List α} {m : List β}, l.length = m.length → (l.zip m).map (·.2) = m
  | [], [], _ => rfl
  | x :: l, y :: m, e => by
    rw [List.zip_cons_cons, List.map_cons, zip_snd (by simpa using e)]
theorem at_gen {κ : Type} [DecidableEq κ] {f : W → κ} {kvs : List (κ × Value)} (q : findK ks k = (ks.map f).findIdx? fun y => decide (y = f k)) (e : kvs.map (·.1) = ks.map f) : valueAt kvs (f k) = (findK ks k).bind fun j => (kvs.map (·.2))[j]? := by
  unfold valueAt
  rw [find_fst, e, q]
/-- the keys and values after a store -/
def putKs (ks : List W) (k : W) : List W := match findK ks k with | some _ => ks | none => ks ++ [k]
def putUs {α : Type} (ks : List W) (k : W) (us : List α) (u : α) : List α := match findK ks k with | some j => us.set j u | none => us ++ [u]
theorem put_gen {κ : Type} [DecidableEq κ] {f : W → κ} {kvs : List (κ × Value)} {u : Value} (q : findK ks k = (ks.map f).findIdx? fun y => decide (y = f k)) (e : kvs.map (·.1) = ks.map f) (nd : (ks.map f).Nodup) :
    (stored kvs (f k) u).map (·.1) = (putKs ks k).map f ∧ (stored kvs (f k) u).map (·.2) = putUs ks k (kvs.map (·.2)) u := by
  unfold stored putKs putUs
  have e1 := any_fst (f k) kvs
  rw [e, ← q] at e1
  rw [e1]
  cases z : findK ks k with
  | some j =>
    simp only [Option.isSome_some, if_true]
    exact ⟨by rw [map_fst, e], map_put (f k) u _ (by rw [e]; exact nd) j (by rw [e, ← q]; exact z)⟩
  | none =>
    simp only [Option.isSome_none, Bool.false_eq_true, if_false]
    exact ⟨by rw [List.map_append, e, List.map_append]; rfl, by rw [List.map_append]; rfl⟩
theorem atoms_back : ∀ {ks : List W} {es : List DictEntry} {kvs : List (Key × Value)}, ks.all W.isAtom = true → Pairs (mixKind P w) es kvs → (∀ e ∈ es, ∃ k, (mixKind P w).is k e.key = true ∧ e.hash = (mixKind P w).hash k) → kvs.map (·.1) = ks.map keyOf →
    DE w h ks es ∧ es.map (·.val) = kvs.map (·.2)
  | [], _, _, _, .nil, _, _ => ⟨.nil, rfl⟩
  | [], _, _, _, .cons _ _ _, _, e => by simp at e
  | _ :: _, _, _, _, .nil, _, e => by simp at e
  | k :: ks, e :: es, kv :: kvs, a, .cons p1 p2 p3, hh, eq => by
    simp only [List.all_cons, Bool.and_eq_true] at a
    simp only [List.map_cons, List.cons.injEq] at eq
    obtain ⟨d1, d2⟩ := atoms_back a.2 p3 (fun z hz => hh z (List.mem_cons_of_mem _ hz)) eq.2
    have i1 : (mixKind P w).is (keyOf k) e.key = true := by rw [← eq.1]; exact p1
    obtain ⟨k', i2, i3⟩ := hh e List.mem_cons_self
    refine ⟨.cons ?_ (is_atom a.1 i1) d1, by rw [List.map_cons, List.map_cons, d2, p2]⟩
    rw [i3, (mixKind P w).inj _ _ _ i2 i1, atom_hash a.1]
    rfl
/-! ### tuples -/
def nkOf (k : W) : NestedKey := (W.nk k).getD .none
theorem tup_nk (hk : k.isTupK = true) : W.nk k = some (nkOf k) ∧ (nkOf k).depth ≤ 8 ∧ ∃ xs, k = .tup xs := by
  cases k with
  | tup xs =>
    simp only [W.isTupK] at hk
    unfold nkOf
    cases q : W.nk (.tup xs) with
    | none => rw [q] at hk; cases hk
    | some n => rw [q] at hk; exact ⟨rfl, of_decide_eq_true hk, xs, rfl⟩
  | _ => cases hk
theorem find_tups (hk : k.isTupK = true) (a : ks.all W.isTupK = true) : findK ks k = (ks.map nkOf).findIdx? fun y => decide (y = nkOf k) :=
  find_by nkOf fun x hx => by
    unfold keyEq
    rw [(tup_nk hk).1, (tup_nk (List.all_eq_true.mp a x hx)).1, NestedKey.decide_eq]
    show NestedKey.beq (nkOf k) (nkOf x) = _
    rw [← NestedKey.decide_eq, ← NestedKey.decide_eq]
    exact decide_eq_decide.mpr eq_comm
theorem nodup_tups (a : ks.all W.isTupK = true) (nd : (ks.map W.nk).Nodup) : (ks.map nkOf).Nodup := by
  refine nodup_un (f := fun n => some n) ?_
  rw [List.map_map]
  rw [← show ks.map W.nk = ks.map ((fun n => some n) ∘ nkOf) from List.map_congr_left fun k hk => (tup_nk (List.all_eq_true.mp a k hk)).1]
  exact nd
theorem tup_is {u : Value} (hk : k.isTupK = true) (x : KeyIs h k u) : ∃ a, u = .ref a ∧ (nestedKind P w).is h (nkOf k) a := by
  rcases x with ⟨i, t, rfl, _⟩ | ⟨i, t, rfl, _⟩ | ⟨xs, n, a, rfl, e, d, rfl, x⟩
  · cases hk
  · cases hk
  · have : nkOf (.tup xs) = n := by unfold nkOf; rw [e]; rfl
    exact ⟨a, rfl, by rw [this]; exact ⟨x, d⟩⟩
theorem is_tup {a : Addr} (hk : k.isTupK = true) (x : (nestedKind P w).is h (nkOf k) a) : KeyIs h k (.ref a) := by
  obtain ⟨e, d, xs, rfl⟩ := tup_nk hk
  exact .inr (.inr ⟨xs, _, a, rfl, e, d, rfl, x.1⟩)
theorem tups_of : ∀ {ks : List W} {es : List DictEntry}, ks.all W.isTupK = true → DE w h ks es →
    ∃ xs : List (NestedKey × Addr × Value), es = xs.map (entryOfKey (nestedKind P w)) ∧ xs.map (·.1) = ks.map nkOf ∧ ∀ x ∈ xs, (nestedKind P w).is h x.1 x.2.1
  | [], [], _, _ => ⟨[], rfl, rfl, fun _ z => by cases z⟩
  | [], _ :: _, _, d => by have := d.length; simp at this
  | _ :: _, [], _, d => by have := d.length; simp at this
  | k :: ks, e :: es, a, d => by
    simp only [List.all_cons, Bool.and_eq_true] at a
    obtain ⟨d1, d2, d3⟩ := d.inv
    obtain ⟨xs, rfl, p2, p3⟩ := tups_of a.2 d3
    obtain ⟨b, e1, e2⟩ := tup_is (P := P) (w := w) a.1 d2
    refine ⟨(nkOf k, b, e.val) :: xs, ?_, by rw [List.map_cons, List.map_cons, p2], fun x hx => ?_⟩
    · rw [List.map_cons]
      congr 1
      obtain ⟨eh, ek, ev⟩ := e
      simp only at d1 e1
      subst d1 e1
      show _ = DictEntry.mk _ _ _
      congr 1
      unfold hkW
      rw [(tup_nk a.1).1]
      rfl
    · rcases List.mem_cons.mp hx with rfl | hx
      · exact e2
      · exact p3 x hx
theorem tups_back : ∀ {ks : List W} {xs : List (NestedKey × Addr × Value)}, ks.all W.isTupK = true → xs.map (·.1) = ks.map nkOf → (∀ x ∈ xs, (nestedKind P w).is h x.1 x.2.1) → DE w h ks (xs.map (entryOfKey (nestedKind P w)))
  | [], [], _, _, _ => .nil
  | [], _ :: _, _, e, _ => by simp at e
  | _ :: _, [], _, e, _ => by simp at e
  | k :: ks, x :: xs, a, e, hx => by
    simp only [List.all_cons, Bool.and_eq_true] at a
    simp only [List.map_cons, List.cons.injEq] at e
    have d := tups_back a.2 e.2 fun z hz => hx z (List.mem_cons_of_mem _ hz)
    refine .cons ?_ (is_tup a.1 (by rw [← e.1]; exact hx x List.mem_cons_self)) d
    show NestedKey.hash w x.1 = hkW w k
    unfold hkW
    rw [(tup_nk a.1).1, ← e.1]
end

/-! ### the model's operations -/
theorem find_lt {ks : List W} {k : W} {j : Nat} (h : findK ks k = some j) : j < ks.length := by
  unfold findK at h
  obtain ⟨h1, _⟩ := List.findIdx?_eq_some_iff_getElem.mp h
  exact h1
theorem at_isSome {α : Type} {ks : List W} {k : W} {us : List α} (hl : ks.length = us.length) : ((findK ks k).bind fun j => us[j]?).isSome = (findK ks k).isSome := by
  cases q : findK ks k with
  | none => rfl
  | some j =>
    have := find_lt q
    rw [hl] at this
    simp [this]
section
variable {P : Program} {w : World} {A : Around} {E : Value → Shared → Prop} {s : Shared} {a : Addr} {es : Array DictEntry} {ks : List W} {k : W} {u : Value}
/-- a dict, its keys, its entries: of one of the two kinds -/
theorem kinds (D : DicH a es s.heap) (d : DE w s.heap ks es.toList) (nd : (ks.map W.nk).Nodup) (ok : keyOk k ks = true) (ku : KeyIs s.heap k u) :
    (k.isAtom = true ∧ ks.all W.isAtom = true ∧ (mixKind P w).is (keyOf k) u = true ∧ ∃ kvs, s.heap.DictOf (mixKind P w) a kvs ∧ kvs.map (·.1) = ks.map keyOf ∧ kvs.map (·.2) = es.toList.map (·.val)) ∨
      (k.isTupK = true ∧ ks.all W.isTupK = true ∧ ∃ b, u = .ref b ∧ (nestedKind P w).is s.heap (nkOf k) b ∧ ∃ xs, s.heap.DictOfH (nestedKind P w) a xs ∧ (pairsH xs).map (·.1) = ks.map nkOf ∧ (pairsH xs).map (·.2) = es.toList.map (·.val)) := by
  obtain ⟨ep, o, ho, o1, o2, o3, o4⟩ := D
  have hl := d.length
  unfold keyOk at ok
  rcases Bool.or_eq_true_iff.mp ok with x | x
  · obtain ⟨x1, x2⟩ := Bool.and_eq_true_iff.mp x
    obtain ⟨p1, p2⟩ := atoms_pairs (P := P) x2 d
    have hl2 : (ks.map keyOf).length = (es.toList.map (·.val)).length := by simpa using hl
    exact .inl ⟨x1, x2, atom_is x1 ku, _, ⟨o, es, ep, ho, ⟨o1, o2, o3⟩, o4, fun e he => p2 e (Array.mem_toList_iff.mpr he), p1, by rw [zip_fst hl2]; exact nodup_keys x2 nd⟩, zip_fst hl2, zip_snd hl2⟩
  · obtain ⟨x1, x2⟩ := Bool.and_eq_true_iff.mp x
    obtain ⟨b, e1, e2⟩ := tup_is (P := P) (w := w) x1 ku
    obtain ⟨xs, q1, q2, q3⟩ := tups_of (P := P) x2 d
    refine .inr ⟨x1, x2, b, e1, e2, xs, ⟨o, es, ep, ho, ⟨o1, o2, o3⟩, o4, q1, q3, by rw [q2]; exact nodup_tups x2 nd⟩, ?_, ?_⟩
    · rw [← q2]; unfold pairsH; rw [List.map_map]; rfl
    · rw [q1]; unfold pairsH; rw [List.map_map, List.map_map]; rfl
theorem in_units (hu : A.units + 9 < cLine) : (nestedKind P w).room A.in1 := hu
theorem dk_get {Q : Value → Shared → Prop} {v : Value} (hu : A.units + 9 < cLine) (D : DicH a es s.heap) (d : DE w s.heap ks es.toList) (nd : (ks.map W.nk).Nodup) (ok : keyOk k ks = true) (ku : KeyIs s.heap k u)
    (hv : ((findK ks k).bind fun j => (es.toList.map (·.val))[j]?) = some v) (h : ∀ t, Q v { s with toks := t }) : wpAny (model P w) A (getItem (.ref a) u) Q E s := by
  rcases kinds (P := P) D d nd ok ku with ⟨x1, x2, x3, kvs, m, e1, e2⟩ | ⟨x1, x2, b, rfl, x3, xs, m, e1, e2⟩
  · refine wpAny_getItem_of x3 m.mapOf ?_ (h _)
    rw [at_gen (find_atoms x1 x2) e1, e2]
    exact hv
  · have q := at_gen (find_tups x1 x2) e1
    rw [valueAt_pairsH, e2, hv] at q
    obtain ⟨p, p1, rfl⟩ := Option.map_eq_some_iff.mp q
    exact wpAny_getItem_heap (in_units hu) x3 m p1 (h _)
theorem dk_in {Q : Value → Shared → Prop} (hu : A.units + 9 < cLine) (lo : (a == sysModules) = false) (D : DicH a es s.heap) (d : DE w s.heap ks es.toList) (nd : (ks.map W.nk).Nodup) (ok : keyOk k ks = true) (ku : KeyIs s.heap k u)
    (h : ∀ t, Q (.bool (findK ks k).isSome) { s with toks := t }) : wpAny (model P w) A (compareOp .In u (.ref a)) Q E s := by
  have hl : ks.length = (es.toList.map (·.val)).length := by rw [List.length_map]; exact d.length
  rcases kinds (P := P) D d nd ok ku with ⟨x1, x2, x3, kvs, m, e1, e2⟩ | ⟨x1, x2, b, rfl, x3, xs, m, e1, e2⟩
  · refine wpAny_in_of x3 lo m.mapOf ?_
    rw [at_gen (find_atoms x1 x2) e1, e2, at_isSome hl]
    exact h _
  · have q := congrArg Option.isSome (at_gen (find_tups x1 x2) e1)
    rw [valueAt_pairsH, e2, at_isSome hl, Option.isSome_map] at q
    refine wpAny_in_heap (in_units hu) x3 lo m ?_
    rw [q]
    exact h _
theorem dk_notIn {Q : Value → Shared → Prop} (hu : A.units + 9 < cLine) (lo : (a == sysModules) = false) (D : DicH a es s.heap) (d : DE w s.heap ks es.toList) (nd : (ks.map W.nk).Nodup) (ok : keyOk k ks = true) (ku : KeyIs s.heap k u)
    (h : ∀ t, Q (.bool (!(findK ks k).isSome)) { s with toks := t }) : wpAny (model P w) A (compareOp .NotIn u (.ref a)) Q E s := by
  have hl : ks.length = (es.toList.map (·.val)).length := by rw [List.length_map]; exact d.length
  rcases kinds (P := P) D d nd ok ku with ⟨x1, x2, x3, kvs, m, e1, e2⟩ | ⟨x1, x2, b, rfl, x3, xs, m, e1, e2⟩
  · refine wpAny_notIn_of x3 lo m.mapOf ?_
    rw [at_gen (find_atoms x1 x2) e1, e2, at_isSome hl]
    exact h _
  · have q := congrArg Option.isSome (at_gen (find_tups x1 x2) e1)
    rw [valueAt_pairsH, e2, at_isSome hl, Option.isSome_map] at q
    refine wpAny_notIn_heap (in_units hu) x3 lo m ?_
    rw [q]
    exact h _
theorem dk_get1 {Q : Value → Shared → Prop} (hu : A.units + 9 < cLine) (lo : (a == sysModules) = false) (D : DicH a es s.heap) (d : DE w s.heap ks es.toList) (nd : (ks.map W.nk).Nodup) (ok : keyOk k ks = true) (ku : KeyIs s.heap k u)
    (h : ∀ t, Q (((findK ks k).bind fun j => (es.toList.map (·.val))[j]?).getD .none) { s with toks := t }) : wpAny (model P w) A (call (.builtin "dict.get") [.ref a, u]) Q E s := by
  rcases kinds (P := P) D d nd ok ku with ⟨x1, x2, x3, kvs, m, e1, e2⟩ | ⟨x1, x2, b, rfl, x3, xs, m, e1, e2⟩
  · refine call_meetsIn PySem.F.slot_dict_get m.typeIs PySem.F.entry_dict_get (PySem.F.args_dict_get_2 _ _) (meets_dict_get (mixKind P w) a x3 lo) ⟨_, m.mapOf, ?_⟩
    rw [at_gen (find_atoms x1 x2) e1, e2]
    exact h _
  · have q := at_gen (find_tups x1 x2) e1
    rw [valueAt_pairsH, e2] at q
    refine call_meetsIn PySem.F.slot_dict_get m.typeIs PySem.F.entry_dict_get (PySem.F.args_dict_get_2 _ _) (meetsH_dict_get (nestedKind P w) a b lo) ⟨in_units hu, nkOf k, xs, x3, m, ?_⟩
    rw [q]
    exact h _
theorem dk_get2 {Q : Value → Shared → Prop} {r : Value} (hu : A.units + 9 < cLine) (lo : (a == sysModules) = false) (D : DicH a es s.heap) (d : DE w s.heap ks es.toList) (nd : (ks.map W.nk).Nodup) (ok : keyOk k ks = true) (ku : KeyIs s.heap k u)
    (h : ∀ t, Q (((findK ks k).bind fun j => (es.toList.map (·.val))[j]?).getD r) { s with toks := t }) : wpAny (model P w) A (call (.builtin "dict.get") [.ref a, u, r]) Q E s := by
  rcases kinds (P := P) D d nd ok ku with ⟨x1, x2, x3, kvs, m, e1, e2⟩ | ⟨x1, x2, b, rfl, x3, xs, m, e1, e2⟩
  · refine call_meetsIn PySem.F.slot_dict_get m.typeIs PySem.F.entry_dict_get (PySem.F.args_dict_get_3 _ _ _) (meets_dict_get_default (mixKind P w) a x3 lo r) ⟨_, m.mapOf, ?_⟩
    rw [at_gen (find_atoms x1 x2) e1, e2]
    exact h _
  · have q := at_gen (find_tups x1 x2) e1
    rw [valueAt_pairsH, e2] at q
    refine call_meetsIn PySem.F.slot_dict_get m.typeIs PySem.F.entry_dict_get (PySem.F.args_dict_get_3 _ _ _) (meetsH_dict_get_default (nestedKind P w) a b lo r) ⟨in_units hu, nkOf k, xs, x3, m, ?_⟩
    rw [q]
    exact h _
theorem put_all {f : W → Bool} (hk : f k = true) (a : ks.all f = true) : (putKs ks k).all f = true := by
  unfold putKs
  cases findK ks k with
  | some j => exact a
  | none => simp [a, hk]
/-- the keys after a store: an old one stays, a new one comes behind -/
def putKv {α : Type} (ks : List W) (k : W) (kv : List α) (x : α) : List α := match findK ks k with | some _ => kv | none => kv ++ [x]
def vOf : W → V
  | .int i => .int i
  | .str s => .str s
  | _ => .non
theorem atom_rel {hp : Heap} {k : W} {x : V} {u : Value} (h : k.isAtom = true) (c : KeyIs hp k u) (r : RelV x u) : x = vOf k := by
  rcases c with ⟨i, t, rfl, rfl⟩ | ⟨i, t, rfl, rfl⟩ | ⟨xs, n, a, rfl, _⟩
  · cases x <;> first | (obtain ⟨_, e⟩ := r; cases e; done) | (cases (show Value.int i t = _ from r); done) | (obtain ⟨_, e⟩ := r; cases e; rfl)
  · cases x <;> first | (obtain ⟨_, e⟩ := r; cases e; done) | (cases (show Value.str i t = _ from r); done) | (obtain ⟨_, e⟩ := r; cases e; rfl)
  · cases h
theorem rel_atom {hp : Heap} {k : W} {u : Value} (h : k.isAtom = true) (c : KeyIs hp k u) : RelV (vOf k) u := by
  rcases c with ⟨i, t, rfl, rfl⟩ | ⟨i, t, rfl, rfl⟩ | ⟨xs, n, a, rfl, _⟩
  · exact ⟨t, rfl⟩
  · exact ⟨t, rfl⟩
  · cases h
theorem atoms_rel {hp : Heap} : ∀ {ks : List W} {kv : List V} {us : List Value}, ks.all W.isAtom = true → Paired (KeyIs hp) ks us → Vals kv us → kv = ks.map vOf
  | [], kv, [], _, _, r => by cases r; rfl
  | [], _, _ :: _, _, c, _ => nomatch c
  | _ :: _, _, [], _, c, _ => nomatch c
  | k :: ks, kv, u :: us, h, c, r => by
    simp only [List.all_cons, Bool.and_eq_true] at h
    cases c with
    | cons c d =>
    cases r with
    | cons r1 r2 => rw [List.map_cons, atom_rel h.1 c r1, atoms_rel h.2 d r2]
theorem rel_atoms {hp : Heap} : ∀ {ks : List W} {us : List Value}, ks.all W.isAtom = true → Paired (KeyIs hp) ks us → Vals (ks.map vOf) us
  | [], [], _, _ => .nil
  | [], _ :: _, _, c => nomatch c
  | _ :: _, [], _, c => nomatch c
  | k :: ks, u :: us, h, c => by
    simp only [List.all_cons, Bool.and_eq_true] at h
    cases c with
    | cons c d =>
    exact .cons (rel_atom h.1 c) (rel_atoms h.2 d)
theorem map_putKs (f : W → V) : (putKs ks k).map f = putKv ks k (ks.map f) (f k) := by
  unfold putKs putKv
  cases findK ks k <;> simp
/-- what is told of a dict after a store -/
def DkPut (w : World) (ks : List W) (k : W) (es : Array DictEntry) (u v : Value) (a : Addr) (h0 h' : Heap) (es' : Array DictEntry) : Prop :=
  DicH a es' h' ∧ DE w h' (putKs ks k) es'.toList ∧ es'.toList.map (·.val) = putUs ks k (es.toList.map (·.val)) v ∧ Heap.SameBut a h0 h' ∧
    ∀ (kv : List V) (x : V), Vals kv (es.toList.map (·.key)) → RelV x u → Vals (putKv ks k kv x) (es'.toList.map (·.key))
theorem put_atoms {h' : Heap} {v : Value} {kvs : List (Key × Value)} (d : DE w s.heap ks es.toList) (nd : (ks.map W.nk).Nodup) (ku : KeyIs s.heap k u) (x1 : k.isAtom = true) (x2 : ks.all W.isAtom = true)
    (e1 : kvs.map (·.1) = ks.map keyOf) (e2 : kvs.map (·.2) = es.toList.map (·.val)) (dd' : h'.DictOf (mixKind P w) a (stored kvs (keyOf k) v)) (hs : Heap.SameBut a s.heap h') : ∃ es', DkPut w ks k es u v a s.heap h' es' := by
  obtain ⟨o', es', ep', ho', ⟨c1, c2, c3⟩, dt, kf, pr, _⟩ := dd'
  obtain ⟨p1, p2⟩ := put_gen (u := v) (find_atoms x1 x2) e1 (nodup_keys x2 nd)
  obtain ⟨d1, d2⟩ := atoms_back (h := h') (put_all x1 x2) pr (fun e he => kf e (Array.mem_toList_iff.mp he)) p1
  refine ⟨es', ⟨ep', o', ho', c1, c2, c3, dt⟩, d1, by rw [d2, p2, e2], hs, fun kv x r rx => ?_⟩
  rw [atoms_rel x2 d.key r, atom_rel x1 ku rx, ← map_putKs]
  exact rel_atoms (put_all x1 x2) d1.key
theorem vals_append {xs ys : List V} {us ws : List Value} (r : Vals xs us) (q : Vals ys ws) : Vals (xs ++ ys) (us ++ ws) := L2.Vals.append r q
theorem put_tups {h' : Heap} {v : Value} {b : Addr} {xs : List (NestedKey × Addr × Value)} (hu : u = .ref b) (nd : (ks.map W.nk).Nodup) (x1 : k.isTupK = true) (x2 : ks.all W.isTupK = true) (m : s.heap.DictOfH (nestedKind P w) a xs) (D : DicH a es s.heap)
    (e1 : (pairsH xs).map (·.1) = ks.map nkOf) (e2 : (pairsH xs).map (·.2) = es.toList.map (·.val)) (dd' : h'.DictOfH (nestedKind P w) a (storedH xs (nkOf k) b v)) (hs : Heap.SameBut a s.heap h') : ∃ es', DkPut w ks k es u v a s.heap h' es' := by
  obtain ⟨o', es', ep', ho', ⟨c1, c2, c3⟩, dt, ee, his, _⟩ := dd'
  obtain ⟨p1, p2⟩ := put_gen (u := v) (find_tups x1 x2) e1 (nodup_tups x2 nd)
  have q := congrArg Option.isSome (at_gen (find_tups x1 x2) e1)
  have hl : ks.length = (es.toList.map (·.val)).length := by
    have := congrArg List.length e1
    have h2 := congrArg List.length e2
    simp only [List.length_map] at this h2 ⊢
    omega
  rw [valueAt_pairsH, e2, at_isSome hl, Option.isSome_map] at q
  rw [← pairsH_storedH _ _ b] at p1 p2
  have f1 : (storedH xs (nkOf k) b v).map (·.1) = (putKs ks k).map nkOf := by rw [← p1]; unfold pairsH; rw [List.map_map]; rfl
  refine ⟨es', ⟨ep', o', ho', c1, c2, c3, dt⟩, by rw [ee]; exact tups_back (put_all x1 x2) f1 his, ?_, hs, fun kv x r rx => ?_⟩
  · rw [ee, ← e2, ← p2]
    unfold pairsH
    rw [List.map_map, List.map_map]
    rfl
  · -- the old entries are those of xs
    obtain ⟨_, o1, g1, _, _, _, g5⟩ := D
    obtain ⟨o2, es2, ep2, g6, _, g7, g8, _, _⟩ := m
    rw [g1] at g6
    cases g6
    rw [g5] at g7
    cases g7
    have ek : es.toList.map (·.key) = xs.map fun z => Value.ref z.2.1 := by rw [g8, List.map_map]; rfl
    rw [ee, List.map_map]
    show Vals _ ((storedH xs (nkOf k) b v).map fun z => Value.ref z.2.1)
    rw [ek] at r
    unfold putKv
    unfold storedH
    cases z : findK ks k with
    | some j =>
      rw [z, Option.isSome_some] at q
      rw [if_pos q]
      rw [List.map_map]
      have : xs.map ((fun z => Value.ref z.2.1) ∘ putAt (nkOf k) v) = xs.map fun z => Value.ref z.2.1 := List.map_congr_left fun y _ => by
        show Value.ref (putAt (nkOf k) v y).2.1 = _
        unfold putAt
        split <;> rfl
      rw [this]
      exact r
    | none =>
      rw [z, Option.isSome_none] at q
      rw [if_neg (by rw [q]; exact Bool.false_ne_true)]
      rw [List.map_append]
      refine vals_append r (.cons ?_ .nil)
      rw [hu] at rx
      exact rx
theorem dk_set {Q : Unit → Shared → Prop} {v : Value} (hu : A.units + 9 < cLine) (D : DicH a es s.heap) (d : DE w s.heap ks es.toList) (nd : (ks.map W.nk).Nodup) (ok : keyOk k ks = true) (ku : KeyIs s.heap k u) (sz : es.size ≤ sizeLine)
    (h : ∀ (h' : Heap) (es' : Array DictEntry) (t : Nat), DkPut w ks k es u v a s.heap h' es' → Q () { s with heap := h', toks := t }) :
    wpAny (model P w) A (setItem (.ref a) u v) Q E s := by
  rcases kinds (P := P) D d nd ok ku with ⟨x1, x2, x3, kvs, m, e1, e2⟩ | ⟨x1, x2, b, eu, x3, xs, m, e1, e2⟩
  · have hz : kvs.length ≤ sizeLine := by
      have := congrArg List.length e2
      simp only [List.length_map, Array.length_toList] at this
      omega
    exact wpAny_setItem_pairs (hsz := hz) x3 m fun h' dd' hs => let ⟨es', z⟩ := put_atoms d nd ku x1 x2 e1 e2 dd' hs; h h' es' _ z
  · have hz : xs.length ≤ sizeLine := by
      have := congrArg List.length e2
      simp only [pairsH, List.length_map, Array.length_toList] at this
      omega
    subst eu
    exact wpAny_setItem_heap (hsz := hz) (in_units hu) x3 m fun h' dd' hs => let ⟨es', z⟩ := put_tups rfl nd x1 x2 m D e1 e2 dd' hs; h h' es' _ z
theorem dk_put {Q : Unit → Shared → Prop} {v : Value} (hu : A.units + 9 < cLine) (D : DicH a es s.heap) (d : DE w s.heap ks es.toList) (nd : (ks.map W.nk).Nodup) (ok : keyOk k ks = true) (ku : KeyIs s.heap k u) (sz : es.size ≤ sizeLine)
    (h : ∀ (h' : Heap) (es' : Array DictEntry) (t : Nat), DkPut w ks k es u v a s.heap h' es' → Q () { s with heap := h', toks := t }) :
    wpAny (model P w) A (dictSet a u v) Q E s := by
  rcases kinds (P := P) D d nd ok ku with ⟨x1, x2, x3, kvs, m, e1, e2⟩ | ⟨x1, x2, b, eu, x3, xs, m, e1, e2⟩
  · have hz : kvs.length ≤ sizeLine := by
      have := congrArg List.length e2
      simp only [List.length_map, Array.length_toList] at this
      omega
    exact wpAny_dictSet_pairs (hsz := hz) x3 m fun h' dd' hs => let ⟨es', z⟩ := put_atoms d nd ku x1 x2 e1 e2 dd' hs; h h' es' _ z
  · have hz : xs.length ≤ sizeLine := by
      have := congrArg List.length e2
      simp only [pairsH, List.length_map, Array.length_toList] at this
      omega
    subst eu
    exact wpAny_dictSet_heap (hsz := hz) (show A.units + 8 < cLine by omega) x3 m fun h' dd' hs => let ⟨es', z⟩ := put_tups rfl nd x1 x2 m D e1 e2 dd' hs; h h' es' _ z
end
end Y
/-! Ydb: Y's dicts are the heap's. -/
namespace Y
open PySem PySem.Spec PyProof.Rows L2
section
variable {X : Cx} {T : Tab} {pins : List (Addr × Obj)} {σ : L2.St} {H : Hp} {s : Shared} {φ : Pl} {h : Hb}
mutual
theorem nested_of (I : L2.Inv X pins σ H s) : ∀ (x : W) (v : V) (u : Value) (n : NestedKey), W.nk x = some n → RV X.K T φ H x v → RelV v u → NestedIs s.heap n u
  | .non, v, u, n, e, r, ru => by
    simp only [RV] at r; subst r
    simp only [W.nk, Option.some.injEq] at e; subst e
    cases (show u = Value.none from ru)
    exact .none
  | .bl b, v, u, n, e, r, ru => by
    simp only [RV] at r; subst r
    simp only [W.nk, Option.some.injEq] at e; subst e
    cases (show u = Value.bool b from ru)
    exact .bool rfl
  | .int i, v, u, n, e, r, ru => by
    simp only [RV] at r; subst r
    simp only [W.nk, Option.some.injEq] at e; subst e
    obtain ⟨t, rfl⟩ := (show ∃ t, u = Value.int i t from ru)
    exact .int i t
  | .str i, v, u, n, e, r, ru => by
    simp only [RV] at r; subst r
    simp only [W.nk, Option.some.injEq] at e; subst e
    obtain ⟨t, rfl⟩ := (show ∃ t, u = Value.str i t from ru)
    exact .text i t
  | .tup xs, v, u, n, e, r, ru => by
    simp only [RV] at r
    obtain ⟨a, vs, rfl, h1, h2⟩ := r
    simp only [W.nk] at e
    split at e
    · rename_i ks q
      cases e
      cases (show u = Value.ref a from ru)
      obtain ⟨its, p1, p2, _⟩ := I.tuple (show SqT X.K H a vs from h1.elim (fun z => .inl z.2) .inr)
      obtain ⟨o, q1, q2, m, q3⟩ := p2
      exact .tup q1 q2 q3 (by simpa using nesteds_of I xs vs its ks q h2 p1)
    · cases e
  | .lit _, _, _, _, e, _, _ => by simp [W.nk] at e
  | .rol _, _, _, _, e, _, _ => by simp [W.nk] at e
  | .obj _ _ _, _, _, _, e, _, _ => by simp [W.nk] at e
  | .dic _ _, _, _, _, e, _, _ => by simp [W.nk] at e
  | .cls _, _, _, _, e, _, _ => by simp [W.nk] at e
  | .ref _, _, _, _, e, _, _ => by simp [W.nk] at e
theorem nesteds_of (I : L2.Inv X pins σ H s) : ∀ (xs : List W) (vs : List V) (us : List Value) (ns : List NestedKey), W.nks xs = some ns → RVs X.K T φ H xs vs → Vals vs us → NestedAll s.heap ns us
  | [], vs, us, ns, e, r, ru => by
    simp only [RVs] at r; subst r
    cases ru
    simp only [W.nks, Option.some.injEq] at e; subst e
    exact .nil
  | x :: xs, vs, us, ns, e, r, ru => by
    simp only [RVs] at r
    obtain ⟨v, r', rfl, r1, r2⟩ := r
    simp only [W.nks] at e
    split at e
    · rename_i k ks q1 q2
      cases e
      cases ru with
      | cons t1 t2 => exact .cons (nested_of I x v _ k q1 r1 t1) (nesteds_of I xs r' _ ks q2 r2 t2)
    · cases e
end
theorem key_is (I : L2.Inv X pins σ H s) {k : W} {v : V} {u : Value} (c : k.isAtom = true ∨ k.isTupK = true) (r : RV X.K T φ H k v) (ru : RelV v u) : KeyIs s.heap k u := by
  cases k with
  | int i =>
    simp only [RV] at r; subst r
    obtain ⟨t, rfl⟩ := (show ∃ t, u = Value.int i t from ru)
    exact .inl ⟨i, t, rfl, rfl⟩
  | str i =>
    simp only [RV] at r; subst r
    obtain ⟨t, rfl⟩ := (show ∃ t, u = Value.str i t from ru)
    exact .inr (.inl ⟨i, t, rfl, rfl⟩)
  | tup xs =>
    rcases c with c | c
    · cases c
    · obtain ⟨c1, c2, _⟩ := tup_nk c
      have r0 := r
      simp only [RV] at r
      obtain ⟨a, vs, rfl, _, _⟩ := r
      cases (show u = Value.ref a from ru)
      exact .inr (.inr ⟨xs, _, a, rfl, c1, c2, rfl, nested_of I _ _ _ _ c1 r0 rfl⟩)
  | _ => rcases c with c | c <;> cases c
theorem keys_are (I : L2.Inv X pins σ H s) : ∀ {ks : List W} {vs : List V} {us : List Value}, (ks.all W.isAtom = true ∨ ks.all W.isTupK = true) → RVs X.K T φ H ks vs → Vals vs us → Paired (KeyIs s.heap) ks us
  | [], vs, us, _, r, ru => by
    simp only [RVs] at r; subst r
    cases ru
    exact .nil
  | k :: ks, vs, us, c, r, ru => by
    simp only [RVs] at r
    obtain ⟨v, r', rfl, r1, r2⟩ := r
    simp only [List.all_cons, Bool.and_eq_true] at c
    cases ru with
    | cons t1 t2 => exact .cons (key_is I (c.imp (·.1) (·.1)) r1 t1) (keys_are I (c.imp (·.2) (·.2)) r2 t2)
/-- what stands where Y has a dict -/
structure DicOf (X : Cx) (T : Tab) (φ : Pl) (H : Hp) (s : Shared) (ks ws : List W) (a : Addr) (es : Array DictEntry) (vv : List V) : Prop where
  lo : (a == sysModules) = false
  obj : DicH a es s.heap
  ent : DE X.w s.heap ks es.toList
  sz : es.size ≤ sizeLine
  dk : KeysOk ks
  rel : Vals vv (es.toList.map (·.val))
  val : RVs X.K T φ H ws vv
theorem dic_of {ks ws : List W} {x : W} {v : V} (I : L2.Inv X pins σ H s) (hk : T.ca.hk = hkW X.w) (rl : Rel X.K T φ H h) (r : RV X.K T φ H x v) (e : dOf h x = some (ks, ws)) : ∃ a es vv, v = .ref a ∧ DicOf X T φ H s ks ws a es vv := by
  have fin : ∀ (a : Addr) (es : Array DictEntry) (kv vv : List V), (DicAt H a es ∨ KDic X.K a es) → es.size ≤ sizeLine → KeysOk ks → es.toList.map (·.hash) = ks.map T.ca.hk → Vals kv (es.toList.map (·.key)) → Vals vv (es.toList.map (·.val)) → RVs X.K T φ H ks kv → RVs X.K T φ H ws vv → DicOf X T φ H s ks ws a es vv := by
    intro a es kv vv c sz dk hh rk rv k1 k2
    have : DicH a es s.heap ∧ (a == sysModules) = false := by
      rcases c with c | c
      · obtain ⟨⟨ep, c1⟩, c2⟩ := c; exact ⟨⟨ep, (I.hok a _ c1).1⟩, c2⟩
      · obtain ⟨⟨ep, o, c1, c2⟩, c3⟩ := c
        exact ⟨⟨ep, o, I.kIn _ _ c1, c2⟩, c3⟩
    exact ⟨this.2, this.1, ⟨by rw [hh, hk], keys_are I dk.1 k1 rk⟩, sz, dk, rv, k2⟩
  cases x with
  | dic ks' ws' =>
    cases e
    simp only [RV] at r
    obtain ⟨a, es, kv, vv, rfl, c, ⟨sz, dk⟩, hh, rk, rv, k1, k2⟩ := r
    exact ⟨a, es, vv, rfl, fin a es kv vv (c.imp_left (·.2)) sz dk hh rk rv k1 k2⟩
  | ref n =>
    simp only [dOf] at e
    split at e
    · rename_i ks' ws' q
      cases e
      simp only [RV] at r
      obtain ⟨a, rfl, ha⟩ := r
      have ha' : φ[n]? = some (some a) := by
        rcases ha with z | z
        · exact z
        · have := rl.dd n z
          rw [q] at this
          cases this
      obtain ⟨es, kv, vv, c, ⟨sz, dk⟩, hh, rk, rv, k1, k2⟩ := rl.at_ n _ a q ha'
      exact ⟨a, es, vv, rfl, fin a es kv vv (.inl c) sz dk hh rk rv k1 k2⟩
    · cases e
  | _ => cases e
theorem keyOk_or {k : W} {ks : List W} (h : keyOk k ks = true) : k.isAtom = true ∨ k.isTupK = true := by
  unfold keyOk at h
  rcases Bool.or_eq_true_iff.mp h with x | x
  · exact .inl (Bool.and_eq_true_iff.mp x).1
  · exact .inr (Bool.and_eq_true_iff.mp x).1
theorem DicH.typeIs {s : Shared} {a : Addr} {es : Array DictEntry} (d : DicH a es s.heap) : s.TypeIs (.ref a) "dict" := let ⟨_, o, e, c, _⟩ := d; ⟨o, e, c⟩
theorem DicOf.get {ks ws : List W} {a : Addr} {es : Array DictEntry} {vv : List V} {k w' : W} (d : DicOf X T φ H s ks ws a es vv) (e : dGet ks ws k = some (some w')) :
    keyOk k ks = true ∧ (findK ks k).isSome = true ∧ ∃ z u, ((findK ks k).bind fun j => (es.toList.map (·.val))[j]?) = some u ∧ RelV z u ∧ RV X.K T φ H w' z := by
  unfold dGet at e
  split at e
  · rename_i c
    refine ⟨c, ?_⟩
    have e' := Option.some.inj e
    split at e'
    · rename_i j q
      obtain ⟨z, hz, rz⟩ := d.val.get e'
      obtain ⟨u, hu, ru⟩ := d.rel.get hz
      exact ⟨by rw [q]; rfl, z, u, by rw [q]; exact hu, ru, rz⟩
    · cases e'
  · cases e
theorem DicOf.len {ks ws : List W} {a : Addr} {es : Array DictEntry} {vv : List V} (d : DicOf X T φ H s ks ws a es vv) : ks.length = ws.length ∧ ks.length = es.size := by
  have h1 := d.ent.length
  have h2 := d.rel.length
  have h3 := d.val.length
  simp only [List.length_map, Array.length_toList] at h1 h2
  omega
theorem DicOf.miss {ks ws : List W} {a : Addr} {es : Array DictEntry} {vv : List V} {k : W} (d : DicOf X T φ H s ks ws a es vv) (e : dGet ks ws k = some none) : keyOk k ks = true ∧ findK ks k = none := by
  unfold dGet at e
  split at e
  · rename_i c
    refine ⟨c, ?_⟩
    have e' := Option.some.inj e
    split at e'
    · rename_i j q
      have := find_lt q
      rw [d.len.1] at this
      rw [List.getElem?_eq_getElem this] at e'
      cases e'
    · rename_i q; exact q
  · cases e
theorem vals_get {xs : List V} {us : List Value} (r : Vals xs us) (j : Nat) {v : V} (e : xs[j]? = some v) : ∃ u, us[j]? = some u ∧ RelV v u := r.get e
end
end Y
/-! Ydc: a dict that nobody changes any more, walked by its keys. -/
namespace Y
open PySem PySem.Spec PyProof.Rows L2
/-- the dict at a, as it was at the start -/
def DAt (K : PySem.W.Frag) (H : Hp) (a : Addr) (es : Array DictEntry) (ep : Nat) : Prop := H a = some (.ext (IsD a es ep)) ∨ ∃ o, K.lookup a = some o ∧ DObj es ep o
theorem DAt.raw {X : Cx} {pins : List (Addr × Obj)} {σ : L2.St} {H : Hp} {s : Shared} {a : Addr} {es : Array DictEntry} {ep : Nat} (I : L2.Inv X pins σ H s) (d : DAt X.K H a es ep) : s.heap.DictRaw a es ep := by
  rcases d with d | ⟨o, d1, d2, d3, d4, d5⟩
  · obtain ⟨o, e, d2, d3, d4, d5⟩ := (I.hok a _ d).1
    exact ⟨o, e, ⟨d2, d3, d4⟩, d5⟩
  · exact ⟨o, I.kIn _ _ d1, ⟨d2, d3, d4⟩, d5⟩
/-- its keys kv, in order -/
def ItD (K : PySem.W.Frag) (a : Addr) (es : Array DictEntry) (ep : Nat) (kv : List V) : It where
  go i H := DAt K H a es ep ∧ i < kv.length
  yld i H x H' := H' = H ∧ kv[i]? = some x
  stop i H := DAt K H a es ep ∧ kv.length ≤ i
theorem turn_dict {P : Program} {w : World} {K : PySem.W.Frag} {tg : Expr} (a it : Addr) {es : Array DictEntry} {ep : Nat} {kv : List V} (hv : Vals kv (es.toList.map (·.key))) : Turn P w K tg (ItD K a es ep kv) [it] it (fun i h => h.IsKeyIter it a i es.size ep) where
  mem := List.mem_singleton.mpr rfl
  obj i h st b hb := by
    cases List.mem_singleton.mp hb
    obtain ⟨o, e, _, d⟩ := st
    exact ⟨o, e, fun v z => by rw [d] at z; cases z⟩
  keep i h h' st k := st.at fun o e => k it (List.mem_singleton.mpr rfl) o e
  item := by
    rintro X rfl rfl rfl hc i pins s σ H E I hf st ⟨d, hi⟩
    have hl : kv.length = es.size := by rw [hv.length, List.length_map, Array.length_toList]
    obtain ⟨f0, f1, f2, f3, f4, f5⟩ := hf it (List.mem_singleton.mpr rfl)
    have hi' : i < es.size := by omega
    obtain ⟨x, hx⟩ : ∃ x, kv[i]? = some x := ⟨_, List.getElem?_eq_getElem hi⟩
    obtain ⟨u, hu, ru⟩ := (show Vals _ _ from hv).get hx
    have eu : es[i].key = u := by
      rw [List.getElem?_map, Array.getElem?_toList, Array.getElem?_eq_getElem hi'] at hu
      exact Option.some.inj hu
    refine wpAny_pyNext_keys_item_raw st (d.raw I) hi' fun h' st' sb => ?_
    have I1 : L2.Inv X pins σ H { s with heap := h' } := I.turned (t' := s.toks) (fun b o hb e => (sb.2 b hb).trans e) f0 f1 f3 f4 f5
    obtain ⟨o, e, c, dd⟩ := id st'
    exact ⟨_, rfl, go_of (s := { s with heap := h' }) e c dd (by decide) ⟨x, H, I1, by rw [eu]; exact ru, ⟨rfl, hx⟩, st', fun b hb => (hf b hb).1⟩⟩
  done := by
    rintro X rfl rfl rfl hc i pins s σ H E I hf st ⟨d, hi⟩
    have hl : kv.length = es.size := by rw [hv.length, List.length_map, Array.length_toList]
    obtain ⟨f0, f1, f2, f3, f4, f5⟩ := hf it (List.mem_singleton.mpr rfl)
    exact wpAny_pyNext_keys_end_raw (I.ok.hd hc) st (d.raw I) (by omega) fun h' eb => ⟨rfl, I.turned (t' := s.toks) (fun b o hb e => eb b o hb e) f0 f1 f3 f4 f5⟩
  self _ _ _ _ _ st h := wpAny_pyIter_keyiter st h
end Y
/-! Y2: operators and comparisons of values run as Y says. -/
namespace Y
open PySem PySem.Spec PyProof.Rows L2

abbrev Z0 : Value → Option Addr → Hp → Prop := fun _ _ _ => False
/-- two values, then Y's answer -/
def rB (K : PySem.W.Frag) (T : Tab) (f : W → W → Hb → R W) : R2 := fun x y H Q =>
  ∃ φ h w1 w2, Rel K T φ H h ∧ RV K T φ H w1 x ∧ RV K T φ H w2 y ∧ Post K T Z0 φ H (f w1 w2 h) Q

def opP : Op → Operator
  | .add => .Add | .sub => .Sub | .mul => .Mult | .fdv => .FloorDiv | .mod => .Mod | .pow => .Pow
def cmP : Cm → CmpOp
  | .eq => .Eq | .ne => .NotEq | .lt => .Lt | .le => .LtE | .gt => .Gt | .ge => .GtE | .is => .Is | .isn => .IsNot | .inn => .In | .nin => .NotIn

section
variable {K : PySem.W.Frag} {T : Tab} {φ : Pl} {H : Hp} {h : Hb} {Q : VK} {Z : Value → Option Addr → Hp → Prop}
theorem RV.int_inv {i : Int} {v : V} (r : RV K T φ H (.int i) v) : v = .int i := by simpa only [RV] using r
theorem RV.bl_inv {i : Bool} {v : V} (r : RV K T φ H (.bl i) v) : v = .bl i := by simpa only [RV] using r
theorem RV.str_inv {i : Str} {v : V} (r : RV K T φ H (.str i) v) : v = .str i := by simpa only [RV] using r
theorem RV.non_inv {v : V} (r : RV K T φ H .non v) : v = .non := by simpa only [RV] using r
theorem RV.tup_inv {xs : List W} {v : V} (r : RV K T φ H (.tup xs) v) : ∃ a vs, v = .ref a ∧ ((Fr T φ a ∧ Rd H a (.tup vs)) ∨ KT K a vs) ∧ RVs K T φ H xs vs := by simpa only [RV] using r
theorem RV.lit_inv {xs : List W} {v : V} (r : RV K T φ H (.lit xs) v) : ∃ a vs, v = .ref a ∧ Fr T φ a ∧ H a = some (.lst vs) ∧ RVs K T φ H xs vs := by simpa only [RV] using r
theorem RV.rol_inv {xs : List W} {v : V} (r : RV K T φ H (.rol xs) v) : ∃ a vs, v = .ref a ∧ ((Fr T φ a ∧ Rd H a (.lst vs)) ∨ KL K a vs) ∧ RVs K T φ H xs vs := by simpa only [RV] using r
theorem RV.ref_inv {n : Nat} {v : V} (r : RV K T φ H (.ref n) v) : ∃ a, v = .ref a ∧ (φ[n]? = some (some a) ∨ φ[n]? = some none) := by simpa only [RV] using r
theorem tup_seq {a : Addr} {vs : List V} (h : (Fr T φ a ∧ Rd H a (.tup vs)) ∨ KT K a vs) : SqT K H a vs := h.elim (fun z => .inl z.2) .inr
theorem lst_seq {a : Addr} {vs : List V} (h : (Fr T φ a ∧ Rd H a (.lst vs)) ∨ KL K a vs) : SqL K H a vs := h.elim (fun z => .inl z.2) .inr
theorem RV.mk_int (i : Int) : RV K T φ H (.int i) (.int i) := by simp only [RV]
theorem RV.mk_bl (i : Bool) : RV K T φ H (.bl i) (.bl i) := by simp only [RV]
theorem RV.mk_str (i : Str) : RV K T φ H (.str i) (.str i) := by simp only [RV]
theorem RV.mk_non : RV K T φ H .non .non := by simp only [RV]
theorem RV.mk_tup {xs : List W} {a : Addr} {vs : List V} (n : Fr T φ a) (r : Rd H a (.tup vs)) (k : RVs K T φ H xs vs) : RV K T φ H (.tup xs) (.ref a) := by
  simp only [RV]; exact ⟨a, vs, rfl, .inl ⟨n, r⟩, k⟩
theorem RV.mk_lit {xs : List W} {a : Addr} {vs : List V} (n : Fr T φ a) (r : H a = some (.lst vs)) (k : RVs K T φ H xs vs) : RV K T φ H (.lit xs) (.ref a) := by
  simp only [RV]; exact ⟨a, vs, rfl, n, r, k⟩
/-- a tracked list -/
theorem Rel.lst {n : Nat} {xs : List W} {a : Addr} (r : Rel K T φ H h) (e : h[n]? = some (.lst xs)) (ha : φ[n]? = some (some a) ∨ φ[n]? = some none) : ∃ vs, H a = some (.lst vs) ∧ RVs K T φ H xs vs := by
  rcases ha with ha | ha
  · exact r.at_ n _ a e ha
  · have := r.dd n ha
    rw [e] at this; cases this
theorem Rel.liv {n : Nat} {o : O} {a : Addr} (r : Rel K T φ H h) (e : h[n]? = some o) (hd : o ≠ .dead) (ha : φ[n]? = some (some a) ∨ φ[n]? = some none) : φ[n]? = some (some a) := by
  rcases ha with ha | ha
  · exact ha
  · have := r.dd n ha
    rw [e] at this; exact absurd (Option.some.inj this) hd

/-! ### data -/
mutual
theorem RV.dp : ∀ (w : W) (v : V) (d : PyData), w.pd = some d → RV K T φ H w v → Dp K H v d
  | .non, v, d, e, r => by cases e; rw [r.non_inv]; exact .non
  | .bl b, v, d, e, r => by cases e; rw [r.bl_inv]; exact .bl b
  | .int i, v, d, e, r => by cases e; rw [r.int_inv]; exact .int i
  | .str s, v, d, e, r => by cases e; rw [r.str_inv]; exact .str s
  | .tup xs, v, d, e, r => by
    obtain ⟨a, vs, rfl, h1, h2⟩ := r.tup_inv
    simp only [W.pd] at e
    cases q : W.pds xs with
    | none => rw [q] at e; cases e
    | some ds => rw [q] at e; cases e; exact .tup (tup_seq h1) (RVs.dp xs vs ds q h2)
  | .lit xs, v, d, e, r => by
    obtain ⟨a, vs, rfl, n, h1, h2⟩ := r.lit_inv
    simp only [W.pd] at e
    cases q : W.pds xs with
    | none => rw [q] at e; cases e
    | some ds => rw [q] at e; cases e; exact .lst (SqL.of h1) (RVs.dp xs vs ds q h2)
  | .rol xs, v, d, e, r => by cases e
  | .obj c ns xs, v, d, e, r => by cases e
  | .ref n, v, d, e, r => by cases e
theorem RVs.dp : ∀ (ws : List W) (vs : List V) (ds : List PyData), W.pds ws = some ds → RVs K T φ H ws vs → DpAll K H vs ds
  | [], vs, ds, e, r => by
    simp only [RVs] at r; subst r
    simp only [W.pds] at e; cases e; exact .nil
  | w :: ws, vs, ds, e, r => by
    simp only [RVs] at r
    obtain ⟨v, t, rfl, h1, h2⟩ := r
    simp only [W.pds] at e
    cases q1 : w.pd with
    | none => rw [q1] at e; cases e
    | some d =>
      cases q2 : W.pds ws with
      | none => rw [q1, q2] at e; cases e
      | some es => rw [q1, q2] at e; cases e; exact .cons (RV.dp w v d q1 h1) (RVs.dp ws t es q2 h2)
end
/-- a list that may change, as data -/
theorem RV.dp_snap {w : W} {v : V} {d : PyData} (rl : Rel K T φ H h) (e : (snap h w).pd = some d) (r : RV K T φ H w v) : Dp K H v d := by
  cases w with
  | ref n =>
    obtain ⟨a, rfl, ha⟩ := r.ref_inv
    simp only [snap] at e
    split at e
    · rename_i xs q
      obtain ⟨vs, e1, k⟩ := rl.lst q ha
      simp only [W.pd] at e
      cases q2 : W.pds xs with
      | none => rw [q2] at e; cases e
      | some ds => rw [q2] at e; cases e; exact .lst (SqL.of e1) (RVs.dp xs vs ds q2 k)
    · cases e
  | _ => exact RV.dp _ _ _ e r
end

theorem decide_eq_true_iff_beq {α : Type} [DecidableEq α] [BEq α] [LawfulBEq α] {a b : α} : decide (a = b) = (a == b) := by
  rw [Bool.eq_iff_iff]; simp
section
variable {X : L2.Cx} {T : Tab}
theorem opB (op : Op) : OpR X (binaryOp (opP op)) (rB X.K T (binop op)) := by
  intro pins s σ H x y v u Q I rx ry ⟨φ, h, w1, w2, rl, r1, r2, p⟩
  unfold binop at p
  split at p
  · have e1 := r1.int_inv; have e2 := r2.int_inv; subst e1 e2
    exact op_add pins s σ H _ _ v u Q I rx ry ⟨_, _, rfl, rfl, p φ _ H .refl rl (.mk_int _)⟩
  · have e1 := r1.int_inv; have e2 := r2.int_inv; subst e1 e2
    exact op_sub pins s σ H _ _ v u Q I rx ry ⟨_, _, rfl, rfl, p φ _ H .refl rl (.mk_int _)⟩
  · have e1 := r1.int_inv; have e2 := r2.int_inv; subst e1 e2
    split at p
    · rename_i c
      refine op_mul pins s σ H _ _ v u Q I rx ry ⟨_, _, rfl, rfl, ?_, p φ _ H .refl rl (.mk_int _)⟩
      simp only [Bool.or_eq_true, Bool.and_eq_true, decide_eq_true_eq] at c
      exact c
    · exact p.elim
  · have e1 := r1.int_inv; have e2 := r2.int_inv; subst e1 e2
    split at p
    · rename_i c
      simp only [Bool.and_eq_true, decide_eq_true_eq] at c
      exact op_fdiv pins s σ H _ _ v u Q I rx ry ⟨_, _, rfl, rfl, c, p φ _ H .refl rl (.mk_int _)⟩
    · exact p.elim
  · have e1 := r1.int_inv; have e2 := r2.int_inv; subst e1 e2
    split at p
    · rename_i c
      exact op_mod pins s σ H _ _ v u Q I rx ry ⟨_, _, rfl, rfl, of_decide_eq_true c, p φ _ H .refl rl (.mk_int _)⟩
    · exact p.elim
  · have e1 := r1.int_inv; have e2 := r2.int_inv; subst e1 e2
    split at p
    · rename_i c
      simp only [Bool.and_eq_true, decide_eq_true_eq] at c
      exact op_pow pins s σ H _ _ v u Q I rx ry ⟨_, _, rfl, rfl, c, p φ _ H .refl rl (.mk_int _)⟩
    · exact p.elim
  · have e1 := r1.str_inv; have e2 := r2.str_inv; subst e1 e2
    split at p
    · rename_i c
      refine op_add_str pins s σ H _ _ v u Q I rx ry ⟨_, _, rfl, rfl, ?_, p φ _ H .refl rl (.mk_str _)⟩
      rw [sizeLine_eq]; exact of_decide_eq_true c
    · exact p.elim
  · obtain ⟨a, vs, rfl, h1, k1⟩ := r1.tup_inv
    obtain ⟨b, us, rfl, h2, k2⟩ := r2.tup_inv
    split at p
    · rename_i c
      have c' : vs.length + us.length ≤ sizeLine := by
        rw [sizeLine_eq, ← k1.length, ← k2.length]; exact of_decide_eq_true c
      refine op_catA pins s σ H _ _ v u Q I rx ry ⟨a, b, vs, us, rfl, rfl, tup_seq h1, tup_seq h2, c', fun e => ?_, fun _ e => ?_, fun _ _ q hq => ?_⟩
      · subst e
        have e3 := List.length_eq_zero_iff.mp k1.length
        subst e3
        exact p φ _ H .refl rl r2
      · subst e
        have e3 := List.length_eq_zero_iff.mp k2.length
        subst e3
        rw [List.append_nil] at p
        exact p φ _ H .refl rl r1
      · have x := Ex.side (o := .tup (vs ++ us)) rl hq
        exact p φ _ _ x (rl.side hq) (.mk_tup (rl.fr hq) (.inl upd_same) ((RVs.mono x _ _ k1).append (RVs.mono x _ _ k2)))
    · exact p.elim
  · obtain ⟨a, vs, rfl, n1, h1, k1⟩ := r1.lit_inv
    obtain ⟨b, us, rfl, n2, h2, k2⟩ := r2.lit_inv
    split at p
    · rename_i c
      have c' : vs.length + us.length ≤ sizeLine := by
        rw [sizeLine_eq, ← k1.length, ← k2.length]; exact of_decide_eq_true c
      refine op_cat pins s σ H _ _ v u Q I rx ry ⟨a, b, vs, us, rfl, rfl, h1, h2, c', fun q hq => ?_⟩
      have x := Ex.side (o := .lst (vs ++ us)) rl hq
      exact p φ _ _ x (rl.side hq) (.mk_lit (rl.fr hq) upd_same ((RVs.mono x _ _ k1).append (RVs.mono x _ _ k2)))
    · exact p.elim
  · obtain ⟨a, vs, rfl, n1, h1, k1⟩ := r1.lit_inv
    have e2 := r2.int_inv; subst e2
    split at p
    · rename_i c
      simp only [Bool.and_eq_true, decide_eq_true_eq, small] at c
      refine op_rep pins s σ H _ _ v u Q I rx ry ⟨a, _, vs, rfl, rfl, h1, by omega, by omega, by rw [sizeLine_eq, ← k1.length]; exact c.2, fun q hq => ?_⟩
      exact p φ _ _ (Ex.side rl hq) (rl.side hq) (.mk_lit (rl.fr hq) upd_same (RVs.rep (RVs.mono (Ex.side rl hq) _ _ k1) _))
    · exact p.elim
  · exact p.elim

/-! ### comparisons -/
/-- x in a list or tuple of data -/
theorem in_data (hu : X.A.units + 70 < cLine) {pins : List (Addr × Obj)} {s : Shared} {σ : L2.St} {H : Hp} {φ : Pl} {w : W} {xs : List W} {x y : V} {v u : Value} {b : Bool} {vs : List V} {a : Addr} (I : L2.Inv X pins σ H s) (rx : RelV x v) (ry : RelV (.ref a) u)
    (r1 : RV X.K T φ H w x) (k : RVs X.K T φ H xs vs) (hs : SqL X.K H a vs ∨ SqT X.K H a vs) (h : Hb) (e : inD h w xs = some b) :
    (∀ Q : Value → Shared → Prop, Q (.bool b) s → wpAny (model X.prog X.w) X.A (compareOp .In v u) Q X.xe s) ∧
    (∀ Q : Value → Shared → Prop, Q (.bool (!b)) s → wpAny (model X.prog X.w) X.A (compareOp .NotIn v u) Q X.xe s) := by
  unfold inD at e
  split at e
  · rename_i d es q1 q2
    split at e
    · rename_i c
      rw [Bool.and_eq_true] at c
      cases e
      have hd : Dp X.K H x d := RV.dp _ _ _ q1 r1
      have he : DpAll X.K H vs es := RVs.dp _ _ _ q2 k
      obtain ⟨as, g1⟩ := Dp.reads I d x v hd rx
      have cl : PyData.canLayAll0 es = true := SeqAt.canLay_of_shaped c.2
      have rm := room_in_shaped (xs := es) c.1 (show X.A.units + 65 < cLine by omega)
      rcases hs with hs | hs
      · obtain ⟨bs, g2⟩ := Dp.reads I (.list es) (.ref a) u (.lst hs he) ry
        exact ⟨fun Q q => SeqAt.in_list_reads g2 g1 cl (SeqAt.canLay_of_shaped c.1) rm q, fun Q q => SeqAt.notIn_list_reads g2 g1 cl (SeqAt.canLay_of_shaped c.1) rm q⟩
      · obtain ⟨bs, g2⟩ := Dp.reads I (.tuple es) (.ref a) u (.tup hs he) ry
        exact ⟨fun Q q => SeqAt.in_tuple_reads g2 g1 cl (SeqAt.canLay_of_shaped c.1) rm q, fun Q q => SeqAt.notIn_tuple_reads g2 g1 cl (SeqAt.canLay_of_shaped c.1) rm q⟩
    · cases e
  · cases e
/-- x in y, both ways -/
theorem in_both (hu : X.A.units + 70 < cLine) {pins : List (Addr × Obj)} {s : Shared} {σ : L2.St} {H : Hp} {φ : Pl} {h : Hb} {w1 w2 : W} {x y : V} {v u : Value} {b : Bool} (I : L2.Inv X pins σ H s) (rx : RelV x v) (ry : RelV y u)
    (rl : Rel X.K T φ H h) (r1 : RV X.K T φ H w1 x) (r2 : RV X.K T φ H w2 y) (e : isIn h w1 w2 = some b) :
    (∀ Q : Value → Shared → Prop, Q (.bool b) s → wpAny (model X.prog X.w) X.A (compareOp .In v u) Q X.xe s) ∧
    (∀ Q : Value → Shared → Prop, Q (.bool (!b)) s → wpAny (model X.prog X.w) X.A (compareOp .NotIn v u) Q X.xe s) := by
  unfold isIn at e
  split at e
  · obtain ⟨a, vs, rfl, h1, k⟩ := r2.tup_inv
    exact in_data (y := .ref a) hu I rx ry r1 k (.inr (tup_seq h1)) h e
  · obtain ⟨a, vs, rfl, n, h1, k⟩ := r2.lit_inv
    exact in_data (y := .ref a) hu I rx ry r1 k (.inl (SqL.of h1)) h e
  · obtain ⟨a, rfl, ha⟩ := r2.ref_inv
    split at e
    · rename_i xs q
      obtain ⟨vs, e1, k⟩ := rl.lst q ha
      exact in_data (y := .ref a) hu I rx ry r1 k (.inl (SqL.of e1)) h e
    · cases e
  · have e1 := r1.str_inv; have e2 := r2.str_inv; subst e1 e2
    cases e
    obtain ⟨t, rfl⟩ := rx
    obtain ⟨t', rfl⟩ := ry
    exact ⟨fun Q q => in_str q, fun Q q => notIn_str q⟩
  · cases e
theorem in_bothD (hu : X.A.units + 70 < cLine) (hk : T.ca.hk = hkW X.w) {pins : List (Addr × Obj)} {s : Shared} {σ : L2.St} {H : Hp} {φ : Pl} {h : Hb} {w1 w2 : W} {x y : V} {v u : Value} {b : Bool} (I : L2.Inv X pins σ H s) (rx : RelV x v) (ry : RelV y u)
    (rl : Rel X.K T φ H h) (r1 : RV X.K T φ H w1 x) (r2 : RV X.K T φ H w2 y) (e : isInD h w1 w2 = some b) :
    (∀ Q : Value → Shared → Prop, (∀ t, Q (.bool b) { s with toks := t }) → wpAny (model X.prog X.w) X.A (compareOp .In v u) Q X.xe s) ∧
    (∀ Q : Value → Shared → Prop, (∀ t, Q (.bool (!b)) { s with toks := t }) → wpAny (model X.prog X.w) X.A (compareOp .NotIn v u) Q X.xe s) := by
  unfold isInD at e
  split at e
  · rename_i ks ws q
    split at e
    · rename_i c
      cases e
      obtain ⟨a, es, vv, rfl, d⟩ := dic_of I hk rl r2 q
      cases (show u = Value.ref a from ry)
      have kk := key_is I (keyOk_or c) r1 rx
      exact ⟨fun Q z => dk_in (by omega) d.lo d.obj d.ent d.dk.2 c kk z, fun Q z => dk_notIn (by omega) d.lo d.obj d.ent d.dk.2 c kk z⟩
    · cases e
  · obtain ⟨p1, p2⟩ := in_both hu I rx ry rl r1 r2 e
    exact ⟨fun Q z => p1 Q (z s.toks), fun Q z => p2 Q (z s.toks)⟩
theorem isN_of (w : W) {φ : Pl} {H : Hp} {x : V} (r : RV X.K T φ H w x) : decide (x = .non) = w.isN := by
  cases w with
  | non => rw [r.non_inv]; rfl
  | bl b => rw [r.bl_inv]; rfl
  | int b => rw [r.int_inv]; rfl
  | str b => rw [r.str_inv]; rfl
  | tup xs => obtain ⟨a, _, rfl, _⟩ := r.tup_inv; rfl
  | lit xs => obtain ⟨a, _, rfl, _⟩ := r.lit_inv; rfl
  | rol xs => obtain ⟨a, _, rfl, _⟩ := r.rol_inv; rfl
  | obj c ns xs => simp only [RV] at r; obtain ⟨a, _, rfl, _⟩ := r; rfl
  | dic ks vs => simp only [RV] at r; obtain ⟨a, _, _, _, rfl, _⟩ := r; rfl
  | cls c => simp only [RV] at r; rw [r]; rfl
  | ref n => obtain ⟨a, rfl, _⟩ := r.ref_inv; rfl
/-- == and !=, as Y has them -/
theorem eq_ok (hu : X.A.units + 70 < cLine) {pins : List (Addr × Obj)} {s : Shared} {σ : L2.St} {H : Hp} {φ : Pl} {h : Hb} {w1 w2 : W} {x y : V} {v u : Value} {b : Bool} {Q : VK} (I : L2.Inv X pins σ H s) (rx : RelV x v) (ry : RelV y u)
    (rl : Rel X.K T φ H h) (r1 : RV X.K T φ H w1 x) (r2 : RV X.K T φ H w2 y) (e : eqD h w1 w2 = some b) (q : Q (.bl b) H) : wpAny (model X.prog X.w) X.A (compareOp .Eq v u) (EP X pins σ Q) X.xe s := by
  unfold eqD at e
  split at e
  · have e1 := r1.str_inv; have e2 := r2.str_inv; subst e1 e2; cases e
    exact op_eq pins s σ H _ _ v u Q I rx ry ⟨rfl, by rw [dec_str, ← decide_eq_true_iff_beq]; exact q⟩
  · have e1 := r1.int_inv; have e2 := r2.int_inv; subst e1 e2; cases e
    exact op_eq pins s σ H _ _ v u Q I rx ry ⟨rfl, by rw [dec_int, ← decide_eq_true_iff_beq]; exact q⟩
  · have e1 := r1.bl_inv; have e2 := r2.bl_inv; subst e1 e2; cases e
    exact op_eq pins s σ H _ _ v u Q I rx ry ⟨rfl, by rw [dec_bl, ← decide_eq_true_iff_beq]; exact q⟩
  · unfold eqG at e
    split at e
    · rename_i d e0 q1 q2
      split at e
      · rename_i c
        rw [Bool.and_eq_true] at c
        cases e
        exact op_eqD (by omega) pins s σ H _ _ v u Q I rx ry ⟨d, e0, RV.dp_snap rl q1 r1, RV.dp_snap rl q2 r2, c.1, c.2, q⟩
      · cases e
    · cases e
theorem ne_ok (hu : X.A.units + 70 < cLine) {pins : List (Addr × Obj)} {s : Shared} {σ : L2.St} {H : Hp} {φ : Pl} {h : Hb} {w1 w2 : W} {x y : V} {v u : Value} {b : Bool} {Q : VK} (I : L2.Inv X pins σ H s) (rx : RelV x v) (ry : RelV y u)
    (rl : Rel X.K T φ H h) (r1 : RV X.K T φ H w1 x) (r2 : RV X.K T φ H w2 y) (e : eqD h w1 w2 = some b) (q : Q (.bl (!b)) H) : wpAny (model X.prog X.w) X.A (compareOp .NotEq v u) (EP X pins σ Q) X.xe s := by
  unfold eqD at e
  split at e
  · have e1 := r1.str_inv; have e2 := r2.str_inv; subst e1 e2; cases e
    exact op_ne pins s σ H _ _ v u Q I rx ry ⟨rfl, by rw [dec_str, ← decide_eq_true_iff_beq]; exact q⟩
  · have e1 := r1.int_inv; have e2 := r2.int_inv; subst e1 e2; cases e
    exact op_ne pins s σ H _ _ v u Q I rx ry ⟨rfl, by rw [dec_int, ← decide_eq_true_iff_beq]; exact q⟩
  · have e1 := r1.bl_inv; have e2 := r2.bl_inv; subst e1 e2; cases e
    exact op_ne pins s σ H _ _ v u Q I rx ry ⟨rfl, by rw [dec_bl, ← decide_eq_true_iff_beq]; exact q⟩
  · unfold eqG at e
    split at e
    · rename_i d e0 q1 q2
      split at e
      · rename_i c
        rw [Bool.and_eq_true] at c
        cases e
        exact op_neD (by omega) pins s σ H _ _ v u Q I rx ry ⟨d, e0, RV.dp_snap rl q1 r1, RV.dp_snap rl q2 r2, c.1, c.2, q⟩
      · cases e
    · cases e
/-! ### the order of tuples -/
def rOf (f : W → W → Option Bool) (xs ys : List W) (j : Nat) : Bool := match xs[j]?, ys[j]? with
  | some x, some y => (f x y).getD false
  | _, _ => false
def eOf (xs ys : List W) (j : Nat) : Bool := match xs[j]?, ys[j]? with
  | some x, some y => (match x.pd, y.pd with | some d, some e => PyData.eqv d e | _, _ => false)
  | _, _ => false
theorem lexAt_shift {e r e' r' : Nat → Bool} {z : Bool} (he : ∀ i, e (i + 1) = e' i) (hr : ∀ i, r (i + 1) = r' i) : ∀ k i, Ob.lexAt e r z (i + 1) k = Ob.lexAt e' r' z i k
  | 0, i => rfl
  | k + 1, i => by rw [Ob.lexAt_succ, Ob.lexAt_succ, he, hr, lexAt_shift he hr k (i + 1)]
theorem ltsW_at {f : W → W → Option Bool} : ∀ {xs ys : List W} {b : Bool}, ltsW f xs ys = some b → b = Ob.lexAt (eOf xs ys) (rOf f xs ys) (decide (xs.length < ys.length)) 0 (min xs.length ys.length) ∧
    ∀ (j : Nat) x y, xs[j]? = some x → ys[j]? = some y → ∃ d e, x.pd = some d ∧ y.pd = some e ∧ SeqAt.shaped d = true ∧ SeqAt.shaped e = true ∧ f x y = some (rOf f xs ys j) ∧ eOf xs ys j = PyData.eqv d e
  | [], [], b, h => by cases h; exact ⟨rfl, fun j x y e => by simp at e⟩
  | [], _ :: _, b, h => by cases h; exact ⟨by simp [Ob.lexAt_zero], fun j x y e => by simp at e⟩
  | _ :: _, [], b, h => by cases h; exact ⟨by simp [Ob.lexAt_zero], fun j x y _ e => by simp at e⟩
  | x :: xs, y :: ys, b, h => by
    simp only [ltsW] at h
    split at h
    · rename_i b1 c d e e1 e2 e3 e4
      split at h
      · rename_i q
        rw [Bool.and_eq_true] at q
        cases h
        obtain ⟨i1, i2⟩ := ltsW_at e1
        refine ⟨?_, fun j x' y' h1 h2 => ?_⟩
        · have hz : decide ((x :: xs).length < (y :: ys).length) = decide (xs.length < ys.length) := by simp
          rw [hz, show min (x :: xs).length (y :: ys).length = min xs.length ys.length + 1 by simp only [List.length_cons]; omega, Ob.lexAt_succ]
          have a1 : eOf (x :: xs) (y :: ys) 0 = PyData.eqv d e := by simp [eOf, e3, e4]
          have a2 : rOf f (x :: xs) (y :: ys) 0 = c := by simp [rOf, e2]
          rw [a1, a2, lexAt_shift (e' := eOf xs ys) (r' := rOf f xs ys) (fun i => by simp [eOf]) (fun i => by simp [rOf]), ← i1]
        · cases j with
          | zero =>
            simp only [List.getElem?_cons_zero, Option.some.injEq] at h1 h2
            subst h1 h2
            exact ⟨d, e, e3, e4, q.1, q.2, by simp [rOf, e2], by simp [eOf, e3, e4]⟩
          | succ j =>
            simp only [List.getElem?_cons_succ] at h1 h2
            obtain ⟨d', e', g1, g2, g3, g4, g5, g6⟩ := i2 j x' y' h1 h2
            exact ⟨d', e', g1, g2, g3, g4, by rw [g5]; simp [rOf], by rw [← g6]; simp [eOf]⟩
      · cases h
    · cases h
theorem rc_lt {pins : List (Addr × Obj)} {s : Shared} {σ : L2.St} {H : Hp} {φ : Pl} (I : L2.Inv X pins σ H s) : ∀ (n : Nat) (A : Around) (w1 w2 : W) (x y : V) (v u : Value) (b : Bool), A.units + n + 66 < cLine → RV X.K T φ H w1 x → RV X.K T φ H w2 y → RelV x v → RelV y u → ltN n w1 w2 = some b → Ob.RcOp .Lt A s v u b
  | 0, _, _, _, _, _, _, _, _, _, _, _, _, _, h => by cases h
  | n + 1, A, w1, w2, x, y, v, u, b, hu, r1, r2, rx, ry, h => by
    simp only [ltN] at h
    split at h
    · have e1 := r1.int_inv; have e2 := r2.int_inv; subst e1 e2; cases h
      obtain ⟨t, rfl⟩ := rx
      obtain ⟨t', rfl⟩ := ry
      exact Ob.RcOp.lt_int _ _ _ _
    · have e1 := r1.str_inv; have e2 := r2.str_inv; subst e1 e2; cases h
      obtain ⟨t, rfl⟩ := rx
      obtain ⟨t', rfl⟩ := ry
      exact fun _ _ _ _ q => PyProof.Rows.lt_str q
    · have e1 := r1.bl_inv; have e2 := r2.bl_inv; subst e1 e2; cases h
      cases rx; cases ry
      rename_i p q
      exact fun _ _ _ _ z => lt_bool (by cases p <;> cases q <;> exact z)
    · rename_i xs ys
      obtain ⟨a, vs, rfl, h1, k1⟩ := r1.tup_inv
      obtain ⟨c, us, rfl, h2, k2⟩ := r2.tup_inv
      cases rx; cases ry
      obtain ⟨its, q1, p1, _⟩ := I.tuple (tup_seq h1)
      obtain ⟨its2, q2, p2, _⟩ := I.tuple (tup_seq h2)
      obtain ⟨eb, at_⟩ := ltsW_at h
      have l1 := k1.length
      have l2 := k2.length
      have m1 := q1.length
      have m2 := q2.length
      have key : ∀ j (g1 : j < its.toArray.size) (g2 : j < its2.toArray.size), ∃ x y vx vy, xs[j]? = some x ∧ ys[j]? = some y ∧ RV X.K T φ H x vx ∧ RV X.K T φ H y vy ∧ RelV vx its.toArray[j] ∧ RelV vy its2.toArray[j] := by
        intro j g1 g2
        have j1 : j < its.length := by simpa using g1
        have j2 : j < its2.length := by simpa using g2
        obtain ⟨vx, ex⟩ : ∃ vx, vs[j]? = some vx := ⟨_, List.getElem?_eq_getElem (by omega)⟩
        obtain ⟨vy, ey⟩ : ∃ vy, us[j]? = some vy := ⟨_, List.getElem?_eq_getElem (by omega)⟩
        obtain ⟨x, hx⟩ : ∃ x, xs[j]? = some x := ⟨_, List.getElem?_eq_getElem (by omega)⟩
        obtain ⟨y, hy⟩ : ∃ y, ys[j]? = some y := ⟨_, List.getElem?_eq_getElem (by omega)⟩
        obtain ⟨vx', e1, rx⟩ := k1.get hx
        obtain ⟨vy', e2, ry⟩ := k2.get hy
        obtain ⟨ux, e3, qx⟩ := q1.get e1
        obtain ⟨uy, e4, qy⟩ := q2.get e2
        refine ⟨x, y, vx', vy', hx, hy, rx, ry, ?_, ?_⟩
        · have : its.toArray[j] = ux := by
            rw [List.getElem?_eq_getElem j1] at e3
            simpa using e3
          rw [this]; exact qx
        · have : its2.toArray[j] = uy := by
            rw [List.getElem?_eq_getElem j2] at e4
            simpa using e4
          rw [this]; exact qy
      have res := Ob.RcOp.tuples_lt (A := A) (s := s) (e := eOf xs ys) (r := rOf (ltN n) xs ys) p1 p2 (by omega) (fun j g1 g2 => ?_) (fun j g1 g2 _ => ?_)
      · rw [eb]
        have z1 : its.toArray.size = xs.length := by rw [List.size_toArray]; omega
        have z2 : its2.toArray.size = ys.length := by rw [List.size_toArray]; omega
        rw [z1, z2] at res
        exact res
      · obtain ⟨x, y, vx, vy, hx, hy, rx, ry, qx, qy⟩ := key j g1 g2
        obtain ⟨d, e, g3, g4, g5, g6, _, g8⟩ := at_ j x y hx hy
        rw [g8]
        obtain ⟨as, ra⟩ := Dp.reads I d vx _ (RV.dp _ _ _ g3 rx) qx
        obtain ⟨bs, rb⟩ := Dp.reads I e vy _ (RV.dp _ _ _ g4 ry) qy
        refine SeqAt.eqAt_reads _ _ _ _ _ _ _ _ ra rb (SeqAt.canLay_of_shaped g5) (SeqAt.canLay_of_shaped g6) ?_
        have := SeqAt.depth_of_shaped g5
        show A.units + 1 + _ < cLine
        omega
      · obtain ⟨x, y, vx, vy, hx, hy, rx, ry, qx, qy⟩ := key j g1 g2
        obtain ⟨d, e, g3, g4, g5, g6, g7, _⟩ := at_ j x y hx hy
        exact rc_lt I n A.in1 x y vx vy _ _ _ (by show A.units + 1 + n + 66 < cLine; omega) rx ry qx qy g7
    · cases h
theorem opC (hu : X.A.units + 70 < cLine) (hk : T.ca.hk = hkW X.w) (op : Cm) : OpR X (compareOp (cmP op)) (rB X.K T fun a b h => R.ofB (cmpop op a b h) h) := by
  intro pins s σ H x y v u Q I rx ry ⟨φ, h, w1, w2, rl, r1, r2, p⟩
  dsimp only at p
  cases hc : cmpop op w1 w2 h with
  | none => rw [hc] at p; exact p.elim
  | some b =>
  rw [hc] at p
  have q : Q (.bl b) H := p φ _ H .refl rl (.mk_bl _)
  unfold cmpop at hc
  split at hc
  · have e1 := r1.int_inv; have e2 := r2.int_inv; subst e1 e2; cases hc
    exact op_lt pins s σ H _ _ v u Q I rx ry ⟨_, _, rfl, rfl, q⟩
  · have e1 := r1.int_inv; have e2 := r2.int_inv; subst e1 e2; cases hc
    exact op_le pins s σ H _ _ v u Q I rx ry ⟨_, _, rfl, rfl, q⟩
  · have e1 := r1.int_inv; have e2 := r2.int_inv; subst e1 e2; cases hc
    exact op_gt pins s σ H _ _ v u Q I rx ry ⟨_, _, rfl, rfl, q⟩
  · have e1 := r1.int_inv; have e2 := r2.int_inv; subst e1 e2; cases hc
    exact op_ge pins s σ H _ _ v u Q I rx ry ⟨_, _, rfl, rfl, q⟩
  · have e1 := r1.str_inv; have e2 := r2.str_inv; subst e1 e2; cases hc
    exact op_lt_str pins s σ H _ _ v u Q I rx ry ⟨_, _, rfl, rfl, q⟩
  · have e1 := r1.str_inv; have e2 := r2.str_inv; subst e1 e2; cases hc
    exact op_le_str pins s σ H _ _ v u Q I rx ry ⟨_, _, rfl, rfl, q⟩
  · have e1 := r1.str_inv; have e2 := r2.str_inv; subst e1 e2; cases hc
    exact op_gt_str pins s σ H _ _ v u Q I rx ry ⟨_, _, rfl, rfl, q⟩
  · have e1 := r1.str_inv; have e2 := r2.str_inv; subst e1 e2; cases hc
    exact op_ge_str pins s σ H _ _ v u Q I rx ry ⟨_, _, rfl, rfl, q⟩
  · have e1 := r1.bl_inv; have e2 := r2.bl_inv; subst e1 e2; cases hc
    cases rx; cases ry
    rename_i a b
    exact le_bool (fin_bl I q (by cases a <;> cases b <;> rfl))
  · exact rc_lt I 4 X.A _ _ _ _ _ _ _ (by omega) r1 r2 rx ry hc _ _ _ _ ⟨.bl b, H, I, rfl, q⟩
  · exact eq_ok hu I rx ry rl r1 r2 hc q
  · obtain ⟨b', e', rfl⟩ := Option.map_eq_some_iff.mp hc
    exact ne_ok hu I rx ry rl r1 r2 e' q
  · have e2 := r2.non_inv; subst e2; cases hc
    exact op_isN pins s σ H _ _ v u Q I rx ry ⟨rfl, by rw [isN_of _ r1]; exact q⟩
  · have e2 := r2.non_inv; subst e2; cases hc
    refine op_notN pins s σ H _ _ v u Q I rx ry ⟨rfl, ?_⟩
    rw [isN_of _ r1]
    exact q
  · have e1 := r1.bl_inv; have e2 := r2.bl_inv; subst e1 e2; cases hc
    exact op_is_bl pins s σ H _ _ v u Q I rx ry ⟨_, _, rfl, rfl, q⟩
  · have e1 := r1.bl_inv; have e2 := r2.bl_inv; subst e1 e2; cases hc
    exact op_isnot_bl pins s σ H _ _ v u Q I rx ry ⟨_, _, rfl, rfl, q⟩
  · exact (in_bothD hu hk I rx ry rl r1 r2 hc).1 _ fun t => ⟨.bl b, H, I.tok t, rfl, q⟩
  · obtain ⟨b', e', rfl⟩ := Option.map_eq_some_iff.mp hc
    exact (in_bothD hu hk I rx ry rl r1 r2 e').2 _ fun t => ⟨.bl _, H, I.tok t, rfl, q⟩
  · cases hc
end
end Y
/-! Yde: a store to a dict. -/
namespace Y
open PySem PySem.Spec PyProof.Rows L2

theorem dPut_inv {ks ws : List W} {k v : W} {p : List W × List W} (e : dPut ks ws k v = some p) : keyOk k ks = true ∧ ks.length < 16777216 ∧ p = (putKs ks k, putUs ks k ws v) := by
  unfold dPut at e
  split at e
  · rename_i c
    simp only [Bool.and_eq_true, decide_eq_true_eq] at c
    refine ⟨c.1, c.2, ?_⟩
    rw [← Option.some.inj e]
    unfold putKs putUs
    cases findK ks k <;> rfl
  · cases e
theorem keyOk_nk {k : W} {ks : List W} (h : keyOk k ks = true) : ∃ n, W.nk k = some n := by
  unfold keyOk at h
  rcases Bool.or_eq_true_iff.mp h with x | x
  · exact ⟨_, atom_nk (Bool.and_eq_true_iff.mp x).1⟩
  · exact ⟨_, (tup_nk (Bool.and_eq_true_iff.mp x).1).1⟩
theorem find_not {k : W} {ks : List W} {n : NestedKey} (e : W.nk k = some n) (h : findK ks k = none) : W.nk k ∉ ks.map W.nk := fun m => by
  obtain ⟨x, hx, ex⟩ := List.mem_map.mp m
  unfold findK at h
  rw [List.findIdx?_eq_none_iff] at h
  have := h x hx
  unfold keyEq at this
  rw [ex, e] at this
  simp only at this
  rw [← NestedKey.decide_eq] at this
  simp at this
theorem keysOk_put {k : W} {ks : List W} (c : keyOk k ks = true) (h : KeysOk ks) : KeysOk (putKs ks k) := by
  have c0 := c
  obtain ⟨h1, h2⟩ := h
  obtain ⟨n, en⟩ := keyOk_nk c
  refine ⟨?_, ?_⟩
  · unfold keyOk at c
    rcases Bool.or_eq_true_iff.mp c with x | x
    · obtain ⟨x1, x2⟩ := Bool.and_eq_true_iff.mp x
      exact .inl (put_all x1 x2)
    · obtain ⟨x1, x2⟩ := Bool.and_eq_true_iff.mp x
      exact .inr (put_all x1 x2)
  · unfold putKs
    cases q : findK ks k with
    | some j => exact h2
    | none =>
      simp only [List.map_append, List.map_cons, List.map_nil]
      rw [List.nodup_append]
      refine ⟨h2, by simp, fun a ha b hb e => ?_⟩
      rw [List.mem_singleton.mp hb] at e
      rw [e] at ha
      exact find_not en q ha
section
variable {X : Cx} {T : Tab} {pins : List (Addr × Obj)} {σ : L2.St} {H : Hp} {s : Shared} {φ : Pl} {h : Hb}
theorem RVs.put {K : PySem.W.Frag} {ks ws : List W} {k v : W} {vv : List V} {y : V} (r : RVs K T φ H ws vv) (ry : RV K T φ H v y) : RVs K T φ H (putUs ks k ws v) (putUs ks k vv y) := by
  unfold putUs
  cases findK ks k with
  | some j => exact RVs.set ry j r
  | none => exact r.append (.cons ry .nil)
theorem RVs.putK {K : PySem.W.Frag} {ks : List W} {k : W} {kv : List V} {x : V} (r : RVs K T φ H ks kv) (rx : RV K T φ H k x) : RVs K T φ H (putKs ks k) (putKv ks k kv x) := by
  unfold putKs putKv
  cases findK ks k with
  | some j => exact r
  | none => exact r.append (.cons rx .nil)
theorem Vals.put {ks : List W} {k : W} {vv : List V} {us : List Value} {y : V} {r : Value} (q : Vals vv us) (ry : RelV y r) : Vals (putUs ks k vv y) (putUs ks k us r) := by
  unfold putUs
  cases findK ks k with
  | some j => exact L2.Vals.set ry j q
  | none => exact L2.Vals.append q (.cons ry .nil)
theorem put_len {ks : List W} {k : W} : (putKs ks k).length ≤ ks.length + 1 := by
  unfold putKs
  cases findK ks k <;> simp
/-- d[k] = v, by a statement or by a comprehension -/
theorem dic_store {a : Addr} {ks ws : List W} {k v : W} {p : List W × List W} {x y : V} {u r : Value} {Q : Unit → Shared → Prop} {E : Value → Shared → Prop} {A : Around} (hu : A.units + 9 < cLine) (hk : T.ca.hk = hkW X.w) (I : L2.Inv X pins σ H s) (ro : RO X.K T φ H a (.dct ks ws)) (e : dPut ks ws k v = some p)
    (rk : RV X.K T φ H k x) (rv : RV X.K T φ H v y) (ru : RelV x u) (rr : RelV y r)
    (hm : ∀ es ep, ∀ ws vs, RVs X.K T φ H ws vs → RVs X.K T φ (upd H a (.ext (IsD a es ep))) ws vs)
    (g : ∀ es ep s', L2.Inv X pins σ (upd H a (.ext (IsD a es ep))) s' → RO X.K T φ (upd H a (.ext (IsD a es ep))) a (.dct p.1 p.2) → Q () s') :
    wpAny (model X.prog X.w) A (setItem (.ref a) u r) Q E s ∧ wpAny (model X.prog X.w) A (dictSet a u r) Q E s := by
  obtain ⟨es, kv, vv, ⟨⟨ep, da⟩, lo⟩, ⟨sz, dk⟩, hh, r1, r2, k1, k2⟩ := ro
  obtain ⟨c, hl, rfl⟩ := dPut_inv e
  have dh : DicH a es s.heap := ⟨ep, (I.hok a _ da).1⟩
  have de : DE X.w s.heap ks es.toList := ⟨by rw [hh, hk], keys_are I dk.1 k1 r1⟩
  have kk := key_is I (keyOk_or c) rk ru
  have fin : ∀ (h' : Heap) (es' : Array DictEntry) (t : Nat), DkPut X.w ks k es u r a s.heap h' es' → Q () { s with heap := h', toks := t } := fun h' es' t z => by
    obtain ⟨⟨ep', o', ho', c1⟩, d', vals, hs, keys⟩ := z
    have I' : L2.Inv X pins σ (upd H a (.ext (IsD a es' ep'))) { s with heap := h', toks := t } := d_write I (by rw [da]; exact True.intro) hs ⟨o', ho'⟩ ⟨⟨o', ho', c1⟩, ⟨o', ho'⟩, fun h1 h2 z k => by
      obtain ⟨o2, e2, c2⟩ := z
      exact ⟨o2, k _ e2, c2⟩⟩
    refine g es' ep' _ I' ⟨es', putKv ks k kv x, putUs ks k vv y, ⟨⟨ep', upd_same⟩, lo⟩, ⟨?_, keysOk_put c dk⟩, by rw [hk]; exact d'.hsh, keys kv x r1 ru, by rw [vals]; exact Vals.put r2 rr, hm _ _ _ _ (RVs.putK k1 rk), hm _ _ _ _ (RVs.put k2 rv)⟩
    have l1 : (putKs ks k).length = es'.size := by rw [← Array.length_toList]; exact d'.length
    have l2 := put_len (ks := ks) (k := k)
    rw [sizeLine_eq, ← l1]
    omega
  exact ⟨dk_set hu dh de dk.2 c kk sz fin, dk_put hu dh de dk.2 c kk sz fin⟩
end
end Y
/-! Y3: Python's expressions run as Y's. -/
namespace Y
open PySem PySem.Spec PyProof.Rows L2

section
variable {X : L2.Cx} {T : Tab} {Wx : WX} {C : Ctx} {σ : L2.St} {φ : Pl} {H : Hp} {h : Hb} {σb : Sb}
/-- the expression e runs as e' -/
abbrev D (X : L2.Cx) (T : Tab) (Wx : WX) (C : Ctx) (e : Expr) (e' : E) : Prop := PE X e (tI X.K T Wx (evalE C e'))
/-- as a test -/
def tT (K : PySem.W.Frag) (T : Tab) (Wx : WX) (f : Sb → Hb → R W) : TT := fun σ H Q => tI K T Wx f σ H fun v H' => ∃ b, v = .bl b ∧ Q b H'
abbrev DT (X : L2.Cx) (T : Tab) (Wx : WX) (C : Ctx) (e : Expr) (e' : E) : Prop := PT X e (tT X.K T Wx (evalE C e'))
abbrev DA (X : L2.Cx) (T : Tab) (Wx : WX) (C : Ctx) (es : List Expr) (e' : E) : Prop := PA X es (tIA X.K T Wx (evalE C e'))

theorem rB_of {f : W → W → Hb → R W} {w1 w2 : W} {x y : V} {Q : VK} {Z : Value → Option Addr → Hp → Prop} (rl : Rel X.K T φ H h) (r1 : RV X.K T φ H w1 x) (r2 : RV X.K T φ H w2 y) (p : Post X.K T Z φ H (f w1 w2 h) Q) (nx : ∀ e h', f w1 w2 h ≠ .ex e h') :
    rB X.K T f x y H Q := ⟨φ, h, w1, w2, rl, r1, r2, by
  cases q : f w1 w2 h with
  | ok w h' => rw [q] at p; exact p
  | ex e h' => exact absurd q (nx e h')
  | no => rw [q] at p; exact p⟩
theorem binop_nx (op : Op) (a b : W) (h : Hb) : ∀ e h', binop op a b h ≠ .ex e h' := by
  intro e h' q
  unfold binop at q
  split at q <;> (try split at q) <;> cases q
theorem ofB_nx (o : Option Bool) (h : Hb) : ∀ e h', R.ofB o h ≠ .ex e h' := by
  intro e h' q
  unfold R.ofB at q
  split at q <;> cases q
theorem ofB_ok {o : Option Bool} {K : PySem.W.Frag} {Z : Value → Option Addr → Hp → Prop} {Q : VK} (rl : Rel K T φ H h) (p : Post K T Z φ H (R.ofB o h) Q) : ∃ b, o = some b ∧ Q (.bl b) H := by
  cases o with
  | none => exact p.elim
  | some b => exact ⟨b, rfl, p φ _ H .refl rl (.mk_bl _)⟩

/-! ### names and constants -/
theorem d_slot {i : Nat} {x : Str} {pos : Pos} (hN : X.N[i]? = some x) (hv : Vis X.env.scope x) (hd : (x == ("__debug__" : Str)) = false) (hcd : (x == ("__classdict__" : Str)) = false) : D X T Wx C (.Name x pos) (.slot i) := by
  refine (pe_var hN hv hd hcd).weak fun σ H Q ⟨φ, σb, h, s, rl, p⟩ => ?_
  simp only [evalE] at p
  split at p
  · rename_i w q
    obtain ⟨v, e, r⟩ := s.at_ i w q
    exact ⟨v, e, p φ v H .refl rl r⟩
  · exact p.elim
theorem d_int {i : Int} {j pos} : D X T Wx C (.Constant (.int i) j pos) (.int i) := pe_int.weak fun σ H Q ⟨φ, σb, h, s, rl, p⟩ => p φ _ H .refl rl (.mk_int _)
theorem d_bl {i : Bool} {j pos} : D X T Wx C (.Constant (.bool i) j pos) (.bl i) := pe_bl.weak fun σ H Q ⟨φ, σb, h, s, rl, p⟩ => p φ _ H .refl rl (.mk_bl _)
theorem d_str {i : Str} {j pos} : D X T Wx C (.Constant (.str i) j pos) (.str i) := pe_str.weak fun σ H Q ⟨φ, σb, h, s, rl, p⟩ => p φ _ H .refl rl (.mk_str _)
theorem d_non {j pos} : D X T Wx C (.Constant .none j pos) .non := pe_non.weak fun σ H Q ⟨φ, σb, h, s, rl, p⟩ => p φ _ H .refl rl .mk_non

/-! ### operators -/
variable {a b c : Expr} {ea eb ec : E} {pos : Pos}
theorem d_bin {op : Op} (ha : D X T Wx C a ea) (hb : D X T Wx C b eb) : D X T Wx C (.BinOp a (opP op) b pos) (.bin op ea eb) := by
  refine (pe_op (opB (T := T) op) ha hb).weak fun σ H Q ⟨φ, σb, h, s, rl, p⟩ => ?_
  simp only [evalE] at p
  refine tR_mono (tR_of s rl p) ?_
  rintro x H1 ⟨φ1, w1, h1, _, x1, s1, rl1, r1, p1⟩
  refine tR_mono (tR_of s1 rl1 p1) ?_
  rintro y H2 ⟨φ2, w2, h2, _, x2, s2, rl2, r2, p2⟩
  exact rB_of rl2 (RV.mono x2 _ _ r1) r2 p2 (binop_nx _ _ _ _)
theorem d_neg (ha : D X T Wx C a ea) : D X T Wx C (.UnaryOp .USub a pos) (.neg ea) := by
  refine (pe_un un_neg ha).weak fun σ H Q ⟨φ, σb, h, s, rl, p⟩ => ?_
  simp only [evalE] at p
  refine tR_mono (tR_of s rl p) ?_
  rintro x H1 ⟨φ1, w1, h1, _, x1, s1, rl1, r1, p1⟩
  split at p1
  · have e := r1.int_inv; subst e
    exact ⟨_, rfl, p1 φ1 _ H1 .refl rl1 (.mk_int _)⟩
  · exact p1.elim
theorem d_cmp_read {op : Cm} {Q : VK} (s : RS X.K T φ H σb σ) (rl : Rel X.K T φ H h) (p : Post X.K T (ZX Wx σ) φ H (evalE C (.cmp op ea eb) σb h) Q) :
    tOp (rB X.K T fun a b h => R.ofB (cmpop op a b h) h) (tI X.K T Wx (evalE C ea)) (tI X.K T Wx (evalE C eb)) σ H Q := by
  simp only [evalE] at p
  refine tR_mono (tR_of s rl p) ?_
  rintro x H1 ⟨φ1, w1, h1, _, x1, s1, rl1, r1, p1⟩
  refine tR_mono (tR_of s1 rl1 p1) ?_
  rintro y H2 ⟨φ2, w2, h2, _, x2, s2, rl2, r2, p2⟩
  exact rB_of (f := fun a b h => R.ofB (cmpop op a b h) h) rl2 (RV.mono x2 _ _ r1) r2 p2 (ofB_nx _ _)
theorem d_cmp (hu : X.A.units + 70 < cLine) (hk : T.ca.hk = hkW X.w) {op : Cm} (ha : D X T Wx C a ea) (hb : D X T Wx C b eb) (hm : behindInMarks (cmP op) b = false) : D X T Wx C (.Compare a [cmP op] [b] pos) (.cmp op ea eb) :=
  (pe_cmpR (opC (T := T) hu hk op) ha hb hm).weak fun σ H Q ⟨φ, σb, h, s, rl, p⟩ => d_cmp_read s rl p
theorem dt_cmp (hu : X.A.units + 70 < cLine) (hk : T.ca.hk = hkW X.w) {op : Cm} (ha : D X T Wx C a ea) (hb : D X T Wx C b eb) (hm : behindInMarks (cmP op) b = false) : DT X T Wx C (.Compare a [cmP op] [b] pos) (.cmp op ea eb) :=
  (pt_cmpR (opC (T := T) hu hk op) ha hb hm).weak fun σ H Q ⟨φ, σb, h, s, rl, p⟩ => d_cmp_read s rl p
theorem d_chn_read {o1 o2 : Cm} {Q : VK} (s : RS X.K T φ H σb σ) (rl : Rel X.K T φ H h) (p : Post X.K T (ZX Wx σ) φ H (evalE C (.chn o1 o2 ea eb ec) σb h) Q) :
    tChain (rB X.K T fun a b h => R.ofB (cmpop o1 a b h) h) (rB X.K T fun a b h => R.ofB (cmpop o2 a b h) h) (tI X.K T Wx (evalE C ea)) (tI X.K T Wx (evalE C eb)) (tI X.K T Wx (evalE C ec)) σ H Q := by
  simp only [evalE] at p
  refine tR_mono (tR_of s rl p) ?_
  rintro x H1 ⟨φ1, w1, h1, _, x1, s1, rl1, r1, p1⟩
  refine tR_mono (tR_of s1 rl1 p1) ?_
  rintro y H2 ⟨φ2, w2, h2, _, x2, s2, rl2, r2, p2⟩
  refine ⟨φ2, h2, w1, w2, rl2, RV.mono x2 _ _ r1, r2, ?_⟩
  split at p2
  · rename_i q
    dsimp only
    rw [q]
    intro φ3 v H3 x3 rl3 rv3
    have e := rv3.bl_inv; subst e
    refine ⟨true, rfl, ?_⟩
    rw [if_pos rfl]
    refine tR_mono (tR_of (s2.mono x3) rl3 (p2.ext x3)) ?_
    rintro z H4 ⟨φ4, w4, h4, _, x4, s4, rl4, r4, p4⟩
    exact rB_of (f := fun a b h => R.ofB (cmpop o2 a b h) h) rl4 (RV.mono (x3.trans x4) _ _ r2) r4 p4 (ofB_nx _ _)
  · rename_i q
    dsimp only
    rw [q]
    intro φ3 v H3 x3 rl3 rv3
    have e := rv3.bl_inv; subst e
    refine ⟨false, rfl, ?_⟩
    rw [if_neg Bool.false_ne_true]
    exact p2 φ3 _ H3 x3 rl3 (.mk_bl _)
  · exact p2.elim
theorem d_chn (hu : X.A.units + 70 < cLine) (hk : T.ca.hk = hkW X.w) {o1 o2 : Cm} (ha : D X T Wx C a ea) (hb : D X T Wx C b eb) (hc : D X T Wx C c ec) (hm : lastMarks [cmP o1, cmP o2] [b, c] = false) : D X T Wx C (.Compare a [cmP o1, cmP o2] [b, c] pos) (.chn o1 o2 ea eb ec) :=
  (pe_chain (opC (T := T) hu hk o1) (opC (T := T) hu hk o2) ha hb hc hm).weak fun σ H Q ⟨φ, σb, h, s, rl, p⟩ => d_chn_read s rl p
theorem dt_chn (hu : X.A.units + 70 < cLine) (hk : T.ca.hk = hkW X.w) {o1 o2 : Cm} (ha : D X T Wx C a ea) (hb : D X T Wx C b eb) (hc : D X T Wx C c ec) (hm : lastMarks [cmP o1, cmP o2] [b, c] = false) : DT X T Wx C (.Compare a [cmP o1, cmP o2] [b, c] pos) (.chn o1 o2 ea eb ec) :=
  (pt_chain (opC (T := T) hu hk o1) (opC (T := T) hu hk o2) ha hb hc hm).weak fun σ H Q ⟨φ, σb, h, s, rl, p⟩ => d_chn_read s rl p

/-! ### truth -/
theorem truth_ok {w : W} {x : V} {k : Bool} (rl : Rel X.K T φ H h) (r : RV X.K T φ H w x) (e : truth h w = some k) : TruV X.K x H k := by
  cases w with
  | non => rw [r.non_inv]; cases e; rfl
  | bl b => rw [r.bl_inv]; cases e; rfl
  | int i => rw [r.int_inv]; cases e; rfl
  | str s =>
    rw [r.str_inv]
    simp only [truth] at e
    split at e
    · rename_i c
      cases e
      exact ⟨by rw [sizeLine_eq]; exact of_decide_eq_true c, rfl⟩
    · cases e
  | tup xs =>
    obtain ⟨a, vs, rfl, h1, k1⟩ := r.tup_inv
    cases e
    exact .inr (.inl ⟨vs, tup_seq h1, by have := k1.length; cases xs <;> cases vs <;> simp_all⟩)
  | lit xs =>
    obtain ⟨a, vs, rfl, n, h1, k1⟩ := r.lit_inv
    cases e
    exact .inl ⟨vs, SqL.of h1, by have := k1.length; cases xs <;> cases vs <;> simp_all⟩
  | rol xs => cases e
  | obj _ _ _ => cases e
  | dic _ _ => cases e
  | cls _ => cases e
  | ref n =>
    obtain ⟨a, rfl, ha⟩ := r.ref_inv
    simp only [truth] at e
    split at e
    · rename_i xs q
      obtain ⟨vs, e1, k1⟩ := rl.lst q ha
      cases e
      exact .inl ⟨vs, SqL.of e1, by have := k1.length; cases xs <;> cases vs <;> simp_all⟩
    · cases e
def plainT : Expr → Bool
  | .UnaryOp .Not _ _ => false
  | .BoolOp _ _ _ => false
  | .IfExp _ _ _ _ => false
  | .Compare _ _ _ _ => false
  | _ => true
theorem plainT_ok {e : Expr} (hp : plainT e = true) (env : Env) (whole : Sem Value) : isTrue e env whole = (do let v ← whole; standAt e.pos; holding [v] (truthy v)) := by
  cases e <;> first
    | rfl
    | (exfalso; exact Bool.false_ne_true hp)
    | (rename_i op x pos; cases op <;> first | rfl | (exfalso; exact Bool.false_ne_true hp))
theorem dt_tru (ha : D X T Wx C a ea) (hp : plainT a = true) : DT X T Wx C a (.tru ea) := by
  refine (pt_truth ha (plainT_ok hp X.env)).weak fun σ H Q ⟨φ, σb, h, s, rl, p⟩ => ?_
  simp only [evalE] at p
  refine tR_mono (tR_of s rl p) ?_
  rintro x H1 ⟨φ1, w1, h1, _, x1, s1, rl1, r1, p1⟩
  obtain ⟨k, e, b, e2, q⟩ := ofB_ok rl1 p1
  cases e2
  exact ⟨_, truth_ok rl1 r1 e, q⟩
/-- a test whose value is a truth already -/
theorem dt_val (ha : D X T Wx C a ea) (hp : plainT a = true) : DT X T Wx C a ea := by
  refine (pt_val ha (plainT_ok hp X.env)).weak fun σ H Q t => t
theorem d_nott (ha : D X T Wx C a ea) : D X T Wx C (.UnaryOp .Not a pos) (.tnot (.tru ea)) := by
  refine (pe_notT ha).weak fun σ H Q ⟨φ, σb, h, s, rl, p⟩ => ?_
  simp only [evalE] at p
  have p' : Post X.K T (ZX Wx σ) φ H ((evalE C ea σb h).bind fun x h1 => (R.ofB (truth h1 x) h1).bind fun x h1 => match x with | .bl b => .ok (.bl (!b)) h1 | _ => .no) Q := by
    cases q : evalE C ea σb h <;> rw [q] at p <;> exact p
  refine tR_mono (tR_of s rl p') ?_
  rintro x H1 ⟨φ1, w1, h1, _, x1, s1, rl1, r1, p1⟩
  cases e : truth h1 w1 with
  | none => rw [e] at p1; exact p1.elim
  | some k => rw [e] at p1; exact ⟨k, truth_ok rl1 r1 e, p1 φ1 _ H1 .refl rl1 (.mk_bl _)⟩
theorem d_or {rest : List Expr} (ha : D X T Wx C a ea) (hb : D X T Wx C (.BoolOp .Or (b :: rest) pos) eb) : D X T Wx C (.BoolOp .Or (a :: b :: rest) pos) (.or ea eb) := by
  refine (pe_orT ha hb).weak fun σ H Q ⟨φ, σb, h, s, rl, p⟩ => ?_
  simp only [evalE] at p
  refine tR_mono (tR_of s rl p) ?_
  rintro x H1 ⟨φ1, w1, h1, _, x1, s1, rl1, r1, p1⟩
  split at p1
  · rename_i e
    exact ⟨true, truth_ok rl1 r1 e, iteT (p1 φ1 _ H1 .refl rl1 r1)⟩
  · rename_i e
    exact ⟨false, truth_ok rl1 r1 e, iteF (⟨φ1, σb, h1, s1, rl1, p1⟩)⟩
  · exact p1.elim
theorem d_and {rest : List Expr} (ha : D X T Wx C a ea) (hb : D X T Wx C (.BoolOp .And (b :: rest) pos) eb) : D X T Wx C (.BoolOp .And (a :: b :: rest) pos) (.and ea eb) := by
  refine (pe_andT ha hb).weak fun σ H Q ⟨φ, σb, h, s, rl, p⟩ => ?_
  simp only [evalE] at p
  refine tR_mono (tR_of s rl p) ?_
  rintro x H1 ⟨φ1, w1, h1, _, x1, s1, rl1, r1, p1⟩
  split at p1
  · rename_i e
    exact ⟨true, truth_ok rl1 r1 e, iteT (⟨φ1, σb, h1, s1, rl1, p1⟩)⟩
  · rename_i e
    exact ⟨false, truth_ok rl1 r1 e, iteF (p1 φ1 _ H1 .refl rl1 r1)⟩
  · exact p1.elim
/-! ### tests -/
theorem dt_not (ha : DT X T Wx C a ea) : DT X T Wx C (.UnaryOp .Not a pos) (.tnot ea) := by
  refine (pt_not ha).weak fun σ H Q ⟨φ, σb, h, s, rl, p⟩ => ?_
  simp only [evalE] at p
  refine tR_mono (tR_of s rl p) ?_
  rintro x H1 ⟨φ1, w1, h1, _, x1, s1, rl1, r1, p1⟩
  split at p1
  · have e := r1.bl_inv; subst e
    obtain ⟨b, e, q⟩ := p1 φ1 _ H1 .refl rl1 (.mk_bl _)
    cases e
    exact ⟨_, rfl, q⟩
  · exact p1.elim
abbrev DW (X : L2.Cx) (T : Tab) (Wx : WX) (C : Ctx) (e : Expr) (e' : E) : Prop := PW X e (tT X.K T Wx (evalE C e'))
theorem dw_and1 (ha : DT X T Wx C a ea) : DW X T Wx C (.BoolOp .And [a] pos) ea := pw_and1 ha
theorem dw_or1 (ha : DT X T Wx C a ea) : DW X T Wx C (.BoolOp .Or [a] pos) ea := pw_or1 ha
theorem dw_and {rest : List Expr} (ha : DT X T Wx C a ea) (hb : DW X T Wx C (.BoolOp .And (b :: rest) pos) eb) : DW X T Wx C (.BoolOp .And (a :: b :: rest) pos) (.tand ea eb) := by
  refine (pw_and ha hb).weak fun σ H Q ⟨φ, σb, h, s, rl, p⟩ => ?_
  simp only [evalE] at p
  refine tR_mono (tR_of s rl p) ?_
  rintro x H1 ⟨φ1, w1, h1, _, x1, s1, rl1, r1, p1⟩
  split at p1
  · have e := r1.bl_inv; subst e
    exact ⟨true, rfl, iteT (⟨φ1, σb, h1, s1, rl1, p1⟩)⟩
  · have e := r1.bl_inv; subst e
    obtain ⟨b, e, q⟩ := p1 φ1 _ H1 .refl rl1 (.mk_bl _)
    cases e
    exact ⟨false, rfl, iteF (q)⟩
  · exact p1.elim
theorem dw_or {rest : List Expr} (ha : DT X T Wx C a ea) (hb : DW X T Wx C (.BoolOp .Or (b :: rest) pos) eb) : DW X T Wx C (.BoolOp .Or (a :: b :: rest) pos) (.tor ea eb) := by
  refine (pw_or ha hb).weak fun σ H Q ⟨φ, σb, h, s, rl, p⟩ => ?_
  simp only [evalE] at p
  refine tR_mono (tR_of s rl p) ?_
  rintro x H1 ⟨φ1, w1, h1, _, x1, s1, rl1, r1, p1⟩
  split at p1
  · have e := r1.bl_inv; subst e
    obtain ⟨b, e, q⟩ := p1 φ1 _ H1 .refl rl1 (.mk_bl _)
    cases e
    exact ⟨true, rfl, iteT (q)⟩
  · have e := r1.bl_inv; subst e
    exact ⟨false, rfl, iteF (⟨φ1, σb, h1, s1, rl1, p1⟩)⟩
  · exact p1.elim
theorem d_ite (hc : DT X T Wx C c ec) (ha : D X T Wx C a ea) (hb : D X T Wx C b eb) : D X T Wx C (.IfExp c a b pos) (.ite ec ea eb) := by
  refine (pe_ifExp hc ha hb).weak fun σ H Q ⟨φ, σb, h, s, rl, p⟩ => ?_
  simp only [evalE] at p
  refine tR_mono (tR_of s rl p) ?_
  rintro x H1 ⟨φ1, w1, h1, _, x1, s1, rl1, r1, p1⟩
  split at p1
  · have e := r1.bl_inv; subst e
    exact ⟨true, rfl, iteT (⟨φ1, σb, h1, s1, rl1, p1⟩)⟩
  · have e := r1.bl_inv; subst e
    exact ⟨false, rfl, iteF (⟨φ1, σb, h1, s1, rl1, p1⟩)⟩
  · exact p1.elim

/-! ### arguments, displays -/
theorem da_nil : DA X T Wx C [] .nil := pa_nil.weak fun σ H Q ⟨φ, σb, h, s, rl, p⟩ => p φ [] H .refl rl ⟨[], rfl, .nil⟩
def notStar : Expr → Bool
  | .Starred _ _ => false
  | _ => true
theorem starEach_of {e : Expr} {es : List Expr} {env : Env} (hs : notStar e = true) : starEach (e :: es) env = (false, eval e env) :: starEach es env := by
  cases e <;> first | rfl | (exfalso; exact Bool.false_ne_true hs)
theorem da_cons {es : List Expr} (ha : D X T Wx C a ea) (hr : DA X T Wx C es eb) (hs : notStar a = true) : DA X T Wx C (a :: es) (.cons ea eb) := by
  refine (pa_cons ha hr (starEach_of hs)).weak fun σ H Q ⟨φ, σb, h, s, rl, p⟩ => ?_
  simp only [evalE] at p
  refine tR_mono (tR_of s rl p) ?_
  rintro x H1 ⟨φ1, w1, h1, _, x1, s1, rl1, r1, p1⟩
  refine tR_mono (tR_of (Ru := RA X.K T) s1 rl1 p1) ?_
  rintro ys H2 ⟨φ2, w2, h2, _, x2, s2, rl2, ⟨ws, rfl, r2⟩, p2⟩
  exact p2 φ2 _ H2 .refl rl2 ⟨_, rfl, .cons (RV.mono x2 _ _ r1) r2⟩
theorem items_ok {w : W} {x : V} {ws : List W} (rl : Rel X.K T φ H h) (r : RV X.K T φ H w x) (e : items h w = some ws) : ∃ a vs, x = .ref a ∧ (SqL X.K H a vs ∨ SqT X.K H a vs) ∧ RVs X.K T φ H ws vs := by
  cases w with
  | tup xs =>
    obtain ⟨a, vs, rfl, h1, k1⟩ := r.tup_inv
    cases e; exact ⟨a, vs, rfl, .inr (tup_seq h1), k1⟩
  | lit xs =>
    obtain ⟨a, vs, rfl, n, h1, k1⟩ := r.lit_inv
    cases e; exact ⟨a, vs, rfl, .inl (SqL.of h1), k1⟩
  | rol xs =>
    obtain ⟨a, vs, rfl, h1, k1⟩ := r.rol_inv
    cases e; exact ⟨a, vs, rfl, .inl (lst_seq h1), k1⟩
  | ref n =>
    obtain ⟨a, rfl, ha⟩ := r.ref_inv
    simp only [items] at e
    split at e
    · rename_i xs q
      obtain ⟨vs, e1, k1⟩ := rl.lst q ha
      cases e; exact ⟨a, vs, rfl, .inl (SqL.of e1), k1⟩
    · cases e
  | non => cases e
  | bl _ => cases e
  | int _ => cases e
  | str _ => cases e
  | obj _ _ _ => cases e
  | dic _ _ => cases e
  | cls _ => cases e
theorem da_star {es : List Expr} {p0 : Pos} (ha : D X T Wx C a ea) (hr : DA X T Wx C es eb) : DA X T Wx C (.Starred a p0 :: es) (.star ea eb) := by
  refine (StX.pa_star ha hr).weak fun σ H Q ⟨φ, σb, h, s, rl, p⟩ => ?_
  simp only [evalE] at p
  refine tR_mono (tR_of s rl p) ?_
  rintro x H1 ⟨φ1, w1, h1, _, x1, s1, rl1, r1, p1⟩
  split at p1
  · rename_i xs q
    obtain ⟨a, vs, rfl, hq, k1⟩ := items_ok rl1 r1 q
    refine ⟨a, vs, rfl, hq.symm, ?_⟩
    refine tR_mono (tR_of (Ru := RA X.K T) s1 rl1 p1) ?_
    rintro ys H2 ⟨φ2, w2, h2, _, x2, s2, rl2, ⟨ws, rfl, r2⟩, p2⟩
    simp only at p2
    split at p2
    · exact p2 φ2 _ H2 .refl rl2 ⟨_, rfl, (RVs.mono x2 _ _ k1).append r2⟩
    · exact p2.elim
  · exact p1.elim
theorem d_tup {es : List Expr} {k : Nat} (ha : DA X T Wx C es ea) : D X T Wx C (.Tuple es k pos) (.tup ea) := by
  refine (pe_tup ha).weak fun σ H Q ⟨φ, σb, h, s, rl, p⟩ => ?_
  simp only [evalE] at p
  refine tR_mono (tR_of (Ru := RA X.K T) s rl p) ?_
  rintro vs H1 ⟨φ1, w1, h1, _, x1, s1, rl1, ⟨ws, rfl, r1⟩, p1⟩
  simp only at p1
  split at p1
  · rename_i c
    refine ⟨by rw [sizeLine_eq, ← r1.length]; exact of_decide_eq_true c, fun q hq => ?_⟩
    exact p1 φ1 _ _ (Ex.side rl1 hq) (rl1.side hq) (.mk_tup (rl1.fr hq) (.inl upd_same) (RVs.mono (Ex.side rl1 hq) _ _ r1))
  · exact p1.elim
theorem d_lst {es : List Expr} (ha : DA X T Wx C es ea) : D X T Wx C (.List es pos) (.lst ea) := by
  refine (pe_lst ha).weak fun σ H Q ⟨φ, σb, h, s, rl, p⟩ => ?_
  simp only [evalE] at p
  refine tR_mono (tR_of (Ru := RA X.K T) s rl p) ?_
  rintro vs H1 ⟨φ1, w1, h1, _, x1, s1, rl1, ⟨ws, rfl, r1⟩, p1⟩
  simp only at p1
  split at p1
  · rename_i c
    refine ⟨by rw [sizeLine_eq, ← r1.length]; exact of_decide_eq_true c, fun q hq => ?_⟩
    exact p1 φ1 _ _ (Ex.side rl1 hq) (rl1.side hq) (.mk_lit (rl1.fr hq) upd_same (RVs.mono (Ex.side rl1 hq) _ _ r1))
  · exact p1.elim
/-- a fresh list that may be changed later -/
theorem d_newlst {es : List Expr} (ha : DA X T Wx C es ea) : D X T Wx C (.List es pos) (.new (.lst ea)) := by
  refine (pe_lst ha).weak fun σ H Q ⟨φ, σb, h, s, rl, p⟩ => ?_
  simp only [evalE] at p
  have p' : Post X.K T (ZX Wx σ) φ H ((evalE C ea σb h).bind fun x h1 => (match x with | .tup xs => (if small xs.length then R.ok (.lit xs) h1 else .no) | _ => .no : R W).bind fun x h1 => match x with | .lit xs => .ok (.ref h1.length) (h1 ++ [.lst xs]) | _ => .no) Q := by
    cases q : evalE C ea σb h <;> rw [q] at p <;> exact p
  refine tR_mono (tR_of (Ru := RA X.K T) s rl p') ?_
  rintro vs H1 ⟨φ1, w1, h1, _, x1, s1, rl1, ⟨ws, rfl, r1⟩, p1⟩
  simp only at p1
  split at p1
  · rename_i c
    refine ⟨by rw [sizeLine_eq, ← r1.length]; exact of_decide_eq_true c, fun q hq => ?_⟩
    have x2 := Ex.grow (o := .lst vs) rl1 hq
    exact p1 _ _ _ x2 (rl1.grow (ob := .lst ws) hq ⟨vs, upd_same, RVs.mono x2 _ _ r1⟩) (by simp only [RV]; exact ⟨q, rfl, by rw [← rl1.len]; simp⟩)
  · exact p1.elim

/-! ### subscripts -/
def plainIx : Expr → Bool
  | .Slice _ _ _ _ => false
  | _ => true
theorem plainIx_ok {b : Expr} (h : plainIx b = true) : PlainIx b := fun o i => by
  cases b <;> first | rfl | (exfalso; exact Bool.false_ne_true h)
/-- an item -/
def rI1 (K : PySem.W.Frag) (T : Tab) : R2 := rB K T fun a b h => R.ofO (getIxD h a b) h
theorem ofO_nx {α : Type} (o : Option α) (h : Hb) : ∀ e h', R.ofO o h ≠ .ex e h' := by
  intro e h' q
  unfold R.ofO at q
  split at q <;> cases q
theorem ixI (hu : X.A.units + 70 < cLine) (hk : T.ca.hk = hkW X.w) : IxR X (rI1 X.K T) := by
  intro value slice pins s σ H x y v u Q I rx ry ⟨φ, h, w1, w2, rl, r1, r2, p⟩ hs
  dsimp only at p
  cases hc : getIxD h w1 w2 with
  | none => rw [hc] at p; exact p.elim
  | some w =>
  rw [hc] at p
  have fin : ∀ z, RV X.K T φ H w z → Q z H := fun z r => p φ z H .refl rl r
  have seqL : ∀ {xs : List W} {i : Int} {a : Addr} {vs : List V}, x = .ref a → y = .int i → SqL X.K H a vs → RVs X.K T φ H xs vs → ((L2.ixN xs.length i).bind fun j => xs[j]?) = some w →
      wpAny (model X.prog X.w) X.A (subscriptTail value slice v u) (EP X pins σ Q) X.xe s := by
    intro xs i a vs e1 e2 hq k e
    obtain ⟨j, hj, hw⟩ := Option.bind_eq_some_iff.mp e
    obtain ⟨z, hz, rz⟩ := k.get hw
    exact ix_list value slice pins s σ H x y v u Q I rx ry ⟨a, vs, i, z, e1, e2, hq, by unfold atI; rw [← k.length, hj]; exact hz, fin z rz⟩ hs
  have seqT : ∀ {xs : List W} {i : Int} {a : Addr} {vs : List V}, x = .ref a → y = .int i → SqT X.K H a vs → RVs X.K T φ H xs vs → ((L2.ixN xs.length i).bind fun j => xs[j]?) = some w →
      wpAny (model X.prog X.w) X.A (subscriptTail value slice v u) (EP X pins σ Q) X.xe s := by
    intro xs i a vs e1 e2 hq k e
    obtain ⟨j, hj, hw⟩ := Option.bind_eq_some_iff.mp e
    obtain ⟨z, hz, rz⟩ := k.get hw
    exact ix_tup value slice pins s σ H x y v u Q I rx ry ⟨a, vs, i, z, e1, e2, hq, by unfold atI; rw [← k.length, hj]; exact hz, fin z rz⟩ hs
  unfold getIxD at hc
  split at hc
  · rename_i ks ws q
    split at hc
    · rename_i o q2
      subst hc
      obtain ⟨a, es, vv, rfl, d⟩ := dic_of I hk rl r1 q
      cases (show v = Value.ref a from rx)
      obtain ⟨c, _, z, u', e1, e2, e3⟩ := d.get q2
      refine subscriptTail_builtinR (x := u') d.obj.typeIs slot_dict_getitem.lookup ?_ hs
      exact dk_get (by omega) d.obj d.ent d.dk.2 c (key_is I (keyOk_or c) r2 ry) e1 fun t => ⟨rfl, z, H, I.tok t, e2, fin z e3⟩
    · cases hc
  unfold getIx at hc
  split at hc
  · obtain ⟨a, vs, e1, h1, k⟩ := r1.tup_inv
    exact seqT e1 r2.int_inv (tup_seq h1) k hc
  · obtain ⟨a, vs, e1, n, h1, k⟩ := r1.lit_inv
    exact seqL e1 r2.int_inv (SqL.of h1) k hc
  · obtain ⟨a, vs, e1, h1, k⟩ := r1.rol_inv
    exact seqL e1 r2.int_inv (lst_seq h1) k hc
  · obtain ⟨a, e1, ha⟩ := r1.ref_inv
    split at hc
    · rename_i xs q
      obtain ⟨vs, e3, k⟩ := rl.lst q ha
      exact seqL e1 r2.int_inv (SqL.of e3) k hc
    · cases hc
  · split at hc
    · rename_i c
      obtain ⟨z, hz, e⟩ := Option.map_eq_some_iff.mp hc
      subst e
      exact ix_str value slice pins s σ H x y v u Q I rx ry ⟨_, _, z, r1.str_inv, r2.int_inv, by rw [sizeLine_eq]; exact of_decide_eq_true c, hz, fin _ (.mk_str _)⟩ hs
    · cases hc
  · cases hc
theorem d_ix (hu : X.A.units + 70 < cLine) (hk : T.ca.hk = hkW X.w) (ha : D X T Wx C a ea) (hb : D X T Wx C b eb) (hs : plainIx b = true) : D X T Wx C (.Subscript a b pos) (.ix ea eb) := by
  refine (pe_ix (ixI (T := T) hu hk) ha hb (plainIx_ok hs)).weak fun σ H Q ⟨φ, σb, h, s, rl, p⟩ => ?_
  simp only [evalE] at p
  refine tR_mono (tR_of s rl p) ?_
  rintro x H1 ⟨φ1, w1, h1, _, x1, s1, rl1, r1, p1⟩
  refine tR_mono (tR_of s1 rl1 p1) ?_
  rintro y H2 ⟨φ2, w2, h2, _, x2, s2, rl2, r2, p2⟩
  exact rB_of (f := fun a b h => R.ofO (getIxD h a b) h) rl2 (RV.mono x2 _ _ r1) r2 p2 (ofO_nx _ _)
/-! slices -/
def rCut (K : PySem.W.Frag) (T : Tab) : V → Option Int → Option Int → Hp → VK → Prop := fun x lo hi H Q =>
  ∃ φ h w, Rel K T φ H h ∧ RV K T φ H w x ∧ Post K T Z0 φ H (R.ofO (getCut h w lo hi) h) Q
theorem RVs.cut {K : PySem.W.Frag} {ws : List W} {vs : List V} {lo hi : Option Int} (k : RVs K T φ H ws vs) : RVs K T φ H (cutW ws lo hi) (L2.cutV vs lo hi) := by
  unfold cutW L2.cutV
  rw [k.length]
  exact RVs.take _ (RVs.drop _ k)
theorem cutW_all {ws : List W} {lo hi : Option Int} (c1 : HT.sIx ws.length 0 lo = 0) (c2 : HT.sIx ws.length ws.length hi = ws.length) : cutW ws lo hi = ws := by
  unfold cutW
  rw [c1, c2, List.drop_zero, Nat.sub_zero, List.take_length]
theorem slI : SlR X (rCut X.K T) := by
  intro pins s σ H x v vl vu lo hi sl Q I rx hs pl pu ⟨φ, h, w, rl, r, p⟩
  cases hc : getCut h w lo hi with
  | none => rw [hc] at p; exact p.elim
  | some w' =>
  rw [hc] at p
  unfold getCut at hc
  split at hc
  · obtain ⟨a, vs, rfl, h1, k⟩ := r.tup_inv
    cases hc
    refine sl_tupA pins s σ H _ v vl vu lo hi sl Q I rx hs pl pu ⟨a, vs, rfl, tup_seq h1, fun ⟨c1, c2⟩ => ?_, fun _ q hq => ?_⟩
    · refine p φ _ H .refl rl ?_
      rw [cutW_all (by rw [k.length]; exact c1) (by rw [k.length]; exact c2)]; exact r
    · exact p φ _ _ (Ex.side rl hq) (rl.side hq) (.mk_tup (rl.fr hq) (.inl upd_same) (RVs.mono (Ex.side rl hq) _ _ k.cut))
  · obtain ⟨a, vs, rfl, n, h1, k⟩ := r.lit_inv
    cases hc
    refine sl_list pins s σ H _ v vl vu lo hi sl Q I rx hs pl pu ⟨a, vs, rfl, SqL.of h1, fun q hq => ?_⟩
    exact p φ _ _ (Ex.side rl hq) (rl.side hq) (.mk_lit (rl.fr hq) upd_same (RVs.mono (Ex.side rl hq) _ _ k.cut))
  · obtain ⟨a, vs, rfl, h1, k⟩ := r.rol_inv
    cases hc
    refine sl_list pins s σ H _ v vl vu lo hi sl Q I rx hs pl pu ⟨a, vs, rfl, lst_seq h1, fun q hq => ?_⟩
    exact p φ _ _ (Ex.side rl hq) (rl.side hq) (.mk_lit (rl.fr hq) upd_same (RVs.mono (Ex.side rl hq) _ _ k.cut))
  · obtain ⟨a, rfl, ha⟩ := r.ref_inv
    split at hc
    · rename_i xs q
      obtain ⟨vs, h1, k⟩ := rl.lst q ha
      cases hc
      refine sl_list pins s σ H _ v vl vu lo hi sl Q I rx hs pl pu ⟨a, vs, rfl, SqL.of h1, fun q hq => ?_⟩
      exact p φ _ _ (Ex.side rl hq) (rl.side hq) (.mk_lit (rl.fr hq) upd_same (RVs.mono (Ex.side rl hq) _ _ k.cut))
    · cases hc
  · have e := r.str_inv; subst e
    split at hc
    · rename_i c
      cases hc
      exact C8.sl_txt pins s σ H _ v vl vu lo hi sl Q I rx hs pl pu ⟨_, rfl, by rw [sizeLine_eq]; exact of_decide_eq_true c, p φ _ H .refl rl (.mk_str _)⟩
    · cases hc
  · cases hc
/-- a part of a slice: left out, or an expression -/
inductive DP (X : L2.Cx) (T : Tab) (Wx : WX) (C : Ctx) : Option Expr → E → Prop where
  | no : DP X T Wx C none .non
  | yes {e : Expr} {e' : E} (h : D X T Wx C e e') (n : ∀ w : W, optP e' w = match w with | .int i => some (some i) | _ => none) : DP X T Wx C (some e) e'
/-- its reading -/
theorem DP.po {e : Option Expr} {e' : E} (d : DP X T Wx C e e') : ∃ t, PO X e t ∧ ∀ {φ : Pl} {H : Hp} {h : Hb} {σb : Sb} {σ : L2.St} {g : W → Hb → R W} {Q : VK} {k : Option Int → Hp → Prop}, RS X.K T φ H σb σ → Rel X.K T φ H h → Post X.K T (ZX Wx σ) φ H ((evalE C e' σb h).bind g) Q →
    (∀ φ1 H1 h1 w o, Ex X.K φ φ1 H H1 → RS X.K T φ1 H1 σb σ → Rel X.K T φ1 H1 h1 → (∀ o', optP e' w = some o' → o' = o) → Post X.K T (ZX Wx σ) φ1 H1 (g w h1) Q → (o = none ∨ ∃ i, o = some i) → k o H1) →
    (∀ φ1 H1 h1 w, Ex X.K φ φ1 H H1 → RS X.K T φ1 H1 σb σ → Rel X.K T φ1 H1 h1 → optP e' w = none → Post X.K T (ZX Wx σ) φ1 H1 (g w h1) Q → False) → t σ H k := by
  cases d with
  | no =>
    refine ⟨_, po_none, fun {φ H h σb σ g Q k} s rl p f nf => ?_⟩
    exact f φ H h .non none .refl s rl (fun o' e => by cases e; rfl) p (.inl rfl)
  | yes hd n =>
    refine ⟨_, po_some hd, fun {φ H h σb σ g Q k} s rl p f nf => ?_⟩
    refine tR_mono (tR_of s rl p) ?_
    rintro x H1 ⟨φ1, w1, h1, _, x1, s1, rl1, r1, p1⟩
    cases w1 with
    | int i =>
      have e := r1.int_inv; subst e
      exact ⟨i, rfl, f φ1 H1 h1 (.int i) (some i) x1 s1 rl1 (fun o' e => by rw [n] at e; cases e; rfl) p1 (.inr ⟨i, rfl⟩)⟩
    | _ => exact (nf φ1 H1 h1 _ x1 s1 rl1 (by rw [n]) p1).elim
theorem d_cut {lo hi : Option Expr} {el eh : E} {p2 : Pos} (ha : D X T Wx C a ea) (hl : DP X T Wx C lo el) (hh : DP X T Wx C hi eh) : D X T Wx C (.Subscript a (.Slice lo hi none p2) pos) (.cut ea el eh) := by
  obtain ⟨tl, pl, rl_⟩ := hl.po
  obtain ⟨th, ph, rh_⟩ := hh.po
  refine (pe_slice (slI (T := T)) ha pl ph).weak fun σ H Q ⟨φ, σb, h, s, rl, p⟩ => ?_
  simp only [evalE] at p
  refine tR_mono (tR_of s rl p) ?_
  rintro x H1 ⟨φ1, w1, h1, _, x1, s1, rl1, r1, p1⟩
  refine rl_ s1 rl1 p1 (fun φ2 H2 h2 w2 o x2 s2 rl2 ho p2 _ => ?_) (fun φ2 H2 h2 w2 x2 s2 rl2 ho p2 => ?_)
  · split at p2
    · rename_i l q1
      have e1 := ho _ q1
      subst e1
      refine rh_ s2 rl2 p2 (fun φ3 H3 h3 w3 o3 x3 s3 rl3 ho3 p3 _ => ?_) (fun φ3 H3 h3 w3 x3 s3 rl3 ho3 p3 => ?_)
      · split at p3
        · rename_i u q2
          have e2 := ho3 _ q2
          subst e2
          refine ⟨φ3, h3, w1, rl3, RV.mono (x2.trans x3) _ _ r1, ?_⟩
          cases q : getCut h3 w1 l u with
          | none => rw [q] at p3; exact p3.elim
          | some w => rw [q] at p3; exact p3
        · exact p3.elim
      · rw [ho3] at p3
        exact p3.elim
    · exact p2.elim
  · rw [ho] at p2
    exact p2.elim
/-! ### fresh lists, to be changed later -/
/-- a list just made, tracked -/
theorem grown {K : PySem.W.Frag} {T : Tab} {φ : Pl} {H : Hp} {h : Hb} {q : Addr} {ws : List W} {vs : List V} {Z : Value → Option Addr → Hp → Prop} {Q : VK} (rl : Rel K T φ H h) (hq : H q = none) (k : RVs K T φ H ws vs) (p : Post K T Z φ H (.ok (.ref h.length) (h ++ [.lst ws])) Q) : Q (.ref q) (upd H q (.lst vs)) := by
  have x2 := Ex.grow (o := .lst vs) rl hq
  exact p _ _ _ x2 (rl.grow (ob := .lst ws) hq ⟨vs, upd_same, RVs.mono x2 _ _ k⟩) (by simp only [RV]; exact ⟨q, rfl, by rw [← rl.len]; simp⟩)
def asNew (r : R W) : R W := match r with
  | .ok (.lit xs) h => .ok (.ref h.length) (h ++ [.lst xs])
  | .ok _ _ => .no
  | .ex x h => .ex x h
  | .no => .no
theorem evalE_new (C : Ctx) (e : E) (σ : Sb) (h : Hb) : evalE C (.new e) σ h = asNew (evalE C e σ h) := by
  rw [evalE]
  cases evalE C e σ h with
  | ok w h' => cases w <;> rfl
  | ex x h' => rfl
  | no => rfl
theorem asNew_bind {r : R W} {g : W → Hb → R W} : asNew (r.bind g) = r.bind fun w h => asNew (g w h) := by cases r <;> rfl
theorem asNew_nx {r : R W} (n : ∀ e h', r ≠ .ex e h') : ∀ e h', asNew r ≠ .ex e h' := fun e h' q => by
  cases r with
  | ok w h => cases w <;> cases q
  | ex x h => exact n x h rfl
  | no => cases q
theorem opBN (op : Op) : OpR X (binaryOp (opP op)) (rB X.K T fun a b h => asNew (binop op a b h)) := by
  intro pins s σ H x y v u Q I rx ry ⟨φ, h, w1, w2, rl, r1, r2, p⟩
  dsimp only at p
  unfold binop at p
  split at p
  case h_9 a b =>
    obtain ⟨p1, vs, rfl, n1, h1, k1⟩ := r1.lit_inv
    obtain ⟨p2, us, rfl, n2, h2, k2⟩ := r2.lit_inv
    split at p
    · rename_i c
      have c' : vs.length + us.length ≤ sizeLine := by
        rw [sizeLine_eq, ← k1.length, ← k2.length]; exact of_decide_eq_true c
      exact op_cat pins s σ H _ _ v u Q I rx ry ⟨p1, p2, vs, us, rfl, rfl, h1, h2, c', fun q hq => grown rl hq (k1.append k2) p⟩
    · exact p.elim
  case h_10 a k =>
    obtain ⟨p1, vs, rfl, n1, h1, k1⟩ := r1.lit_inv
    have e2 := r2.int_inv; subst e2
    split at p
    · rename_i c
      simp only [Bool.and_eq_true, decide_eq_true_eq, small] at c
      exact op_rep pins s σ H _ _ v u Q I rx ry ⟨p1, _, vs, rfl, rfl, h1, by omega, by omega, by rw [sizeLine_eq, ← k1.length]; exact c.2, fun q hq => grown rl hq (RVs.rep k1 _) p⟩
    · exact p.elim
  all_goals first
    | exact p.elim
    | (split at p <;> exact p.elim)
theorem d_newbin {op : Op} (ha : D X T Wx C a ea) (hb : D X T Wx C b eb) : D X T Wx C (.BinOp a (opP op) b pos) (.new (.bin op ea eb)) := by
  refine (pe_op (opBN (T := T) op) ha hb).weak fun σ H Q ⟨φ, σb, h, s, rl, p⟩ => ?_
  rw [evalE_new] at p
  simp only [evalE, asNew_bind] at p
  refine tR_mono (tR_of s rl p) ?_
  rintro x H1 ⟨φ1, w1, h1, _, x1, s1, rl1, r1, p1⟩
  refine tR_mono (tR_of s1 rl1 p1) ?_
  rintro y H2 ⟨φ2, w2, h2, _, x2, s2, rl2, r2, p2⟩
  exact rB_of (f := fun a b h => asNew (binop op a b h)) rl2 (RV.mono x2 _ _ r1) r2 p2 (asNew_nx (binop_nx _ _ _ _))
end
end Y
/-! Y4: built-in functions and methods, called. -/
namespace Y
open PySem PySem.Spec PyProof.Rows L2

/-! ### sorting: the one sorted arrangement -/
theorem insI_perm (i : Int) : ∀ l : List Int, (insI i l).Perm (i :: l)
  | [] => .refl _
  | j :: r => by
    unfold insI
    split
    · exact .refl _
    · exact ((insI_perm i r).cons j).trans (.swap i j r)
theorem sortI_perm : ∀ l : List Int, (sortI l).Perm l
  | [] => .refl _
  | i :: r => (insI_perm i (sortI r)).trans ((sortI_perm r).cons i)
theorem insI_sorted (i : Int) : ∀ l : List Int, l.Pairwise (· ≤ ·) → (insI i l).Pairwise (· ≤ ·)
  | [], _ => by simp [insI]
  | j :: r, h => by
    unfold insI
    rw [List.pairwise_cons] at h
    split
    · rename_i c
      refine List.pairwise_cons.mpr ⟨fun k hk => ?_, List.pairwise_cons.mpr h⟩
      rcases List.mem_cons.mp hk with e | hk
      · rw [e]; exact c
      · exact Int.le_trans c (h.1 k hk)
    · rename_i c
      refine List.pairwise_cons.mpr ⟨fun k hk => ?_, insI_sorted i r h.2⟩
      rcases List.mem_cons.mp ((insI_perm i r).mem_iff.mp hk) with e | hk
      · rw [e]; omega
      · exact h.1 k hk
theorem sortI_sorted : ∀ l : List Int, (sortI l).Pairwise (· ≤ ·)
  | [] => List.Pairwise.nil
  | i :: r => insI_sorted i _ (sortI_sorted r)
/-- two arrangements by one order that tells unlike things apart -/
theorem sorted_unique {α : Type} {R : α → α → Prop} (anti : ∀ a b, R a b → R b a → a = b) : ∀ {l m : List α}, l.Perm m → l.Pairwise R → m.Pairwise R → l = m
  | [], m, p, _, _ => (List.nil_perm.mp p).symm ▸ rfl
  | a :: l, [], p, _, _ => by cases (List.perm_nil.mp p)
  | a :: l, b :: m, p, h1, h2 => by
    rw [List.pairwise_cons] at h1 h2
    have e : a = b := by
      rcases List.mem_cons.mp (p.mem_iff.mp List.mem_cons_self) with e | ha
      · exact e
      · rcases List.mem_cons.mp (p.symm.mem_iff.mp List.mem_cons_self) with e | hb
        · exact e.symm
        · exact anti a b (h1.1 b hb) (h2.1 a ha)
    subst e
    rw [sorted_unique anti p.cons_inv h1.2 h2.2]
theorem sortI_unique {l m : List Int} (p : l.Perm m) (h : l.Pairwise (· ≤ ·)) : l = sortI m :=
  sorted_unique (fun a b => Int.le_antisymm) (p.trans (sortI_perm m).symm) h (sortI_sorted m)
theorem insS_perm (i : Str) : ∀ l : List Str, (insS i l).Perm (i :: l)
  | [] => .refl _
  | j :: r => by
    unfold insS
    split
    · exact .refl _
    · exact ((insS_perm i r).cons j).trans (.swap i j r)
theorem sortS_perm : ∀ l : List Str, (sortS l).Perm l
  | [] => .refl _
  | i :: r => (insS_perm i (sortS r)).trans ((sortS_perm r).cons i)
theorem leS_total {a b : Str} (h : leS a b = false) : leS b a = true := by
  unfold leS at h ⊢
  have h' : b.cps.toList < a.cps.toList := by simpa using h
  simp only [Bool.not_eq_true', decide_eq_false_iff_not]
  exact List.lt_asymm h'
theorem leS_trans {a b c : Str} (h : leS a b = true) (k : leS b c = true) : leS a c = true := by
  unfold leS at h k ⊢
  simp only [Bool.not_eq_true', decide_eq_false_iff_not] at h k ⊢
  have h' : a.cps.toList ≤ b.cps.toList := h
  have k' : b.cps.toList ≤ c.cps.toList := k
  exact List.le_trans h' k'
theorem leS_anti {a b : Str} (h : leS a b = true) (k : leS b a = true) : a = b := by
  unfold leS at h k
  simp only [Bool.not_eq_true', decide_eq_false_iff_not] at h k
  have h' : a.cps.toList ≤ b.cps.toList := h
  have k' : b.cps.toList ≤ a.cps.toList := k
  have e := List.le_antisymm h' k'
  obtain ⟨⟨x⟩⟩ := a
  obtain ⟨⟨y⟩⟩ := b
  cases e
  rfl
theorem insS_sorted (i : Str) : ∀ l : List Str, l.Pairwise (fun a b => leS a b = true) → (insS i l).Pairwise (fun a b => leS a b = true)
  | [], _ => by simp [insS]
  | j :: r, h => by
    unfold insS
    rw [List.pairwise_cons] at h
    split
    · rename_i c
      refine List.pairwise_cons.mpr ⟨fun k hk => ?_, List.pairwise_cons.mpr h⟩
      rcases List.mem_cons.mp hk with e | hk
      · rw [e]; exact c
      · exact leS_trans c (h.1 k hk)
    · rename_i c
      refine List.pairwise_cons.mpr ⟨fun k hk => ?_, insS_sorted i r h.2⟩
      rcases List.mem_cons.mp ((insS_perm i r).mem_iff.mp hk) with e | hk
      · rw [e]; exact leS_total (by simpa using c)
      · exact h.1 k hk
theorem sortS_sorted : ∀ l : List Str, (sortS l).Pairwise (fun a b => leS a b = true)
  | [] => List.Pairwise.nil
  | i :: r => insS_sorted i _ (sortS_sorted r)
theorem ltCps_lt : ∀ l m : List Nat, PySem.Spec.ltCps l m = decide (l < m)
  | [], [] => by simp [PySem.Spec.ltCps]
  | [], _ :: _ => by simp [PySem.Spec.ltCps]
  | _ :: _, [] => by simp [PySem.Spec.ltCps]
  | a :: r, b :: t => by
    rw [PySem.Spec.ltCps, ltCps_lt r t, Bool.eq_iff_iff]
    simp [List.cons_lt_cons_iff]
theorem risingS_pw : ∀ (l : List Str) (p : Str), risingS p l = true → (p :: l).Pairwise (fun a b => leS a b = true)
  | [], p, _ => by simp
  | x :: r, p, h => by
    unfold risingS at h
    rw [Bool.and_eq_true] at h
    have ih := risingS_pw r x h.2
    refine List.pairwise_cons.mpr ⟨fun k hk => ?_, ih⟩
    have c : leS p x = true := by
      unfold leS
      have := h.1
      rw [ltCps_lt] at this
      exact this
    rcases List.mem_cons.mp hk with e | hk
    · rw [e]; exact c
    · exact leS_trans c ((List.pairwise_cons.mp ih).1 k hk)
theorem sortedS_unique {l m : List Str} (p : l.Perm m) (h : PyProof.Rows.sortedS l = true) : l = sortS m := by
  refine sorted_unique (fun a b => leS_anti) (p.trans (sortS_perm m).symm) ?_ (sortS_sorted m)
  cases l with
  | nil => exact List.Pairwise.nil
  | cons x r => exact risingS_pw r x h

/-! ### lists of one kind -/
section
variable {K : PySem.W.Frag} {T : Tab} {φ : Pl} {H : Hp}
theorem intsW_map : ∀ {xs : List W} {is : List Int}, intsW xs = some is → xs = is.map W.int
  | [], is, e => by cases e; rfl
  | .int i :: r, is, e => by
    simp only [intsW] at e
    obtain ⟨js, e1, rfl⟩ := Option.map_eq_some_iff.mp e
    rw [intsW_map e1]; rfl
  | .non :: _, _, e => by cases e
  | .bl _ :: _, _, e => by cases e
  | .str _ :: _, _, e => by cases e
  | .tup _ :: _, _, e => by cases e
  | .lit _ :: _, _, e => by cases e
  | .rol _ :: _, _, e => by cases e
  | .obj _ _ _ :: _, _, e => by cases e
  | .ref _ :: _, _, e => by cases e
theorem strsW_map : ∀ {xs : List W} {is : List Str}, strsW xs = some is → xs = is.map W.str
  | [], is, e => by cases e; rfl
  | .str i :: r, is, e => by
    simp only [strsW] at e
    obtain ⟨js, e1, rfl⟩ := Option.map_eq_some_iff.mp e
    rw [strsW_map e1]; rfl
  | .non :: _, _, e => by cases e
  | .bl _ :: _, _, e => by cases e
  | .int _ :: _, _, e => by cases e
  | .tup _ :: _, _, e => by cases e
  | .lit _ :: _, _, e => by cases e
  | .rol _ :: _, _, e => by cases e
  | .obj _ _ _ :: _, _, e => by cases e
  | .ref _ :: _, _, e => by cases e
theorem truthsW_map : ∀ {xs : List W} {is : List Bool}, truthsW xs = some is → xs = is.map W.bl
  | [], is, e => by cases e; rfl
  | .bl i :: r, is, e => by
    simp only [truthsW] at e
    obtain ⟨js, e1, rfl⟩ := Option.map_eq_some_iff.mp e
    rw [truthsW_map e1]; rfl
  | .non :: _, _, e => by cases e
  | .str _ :: _, _, e => by cases e
  | .int _ :: _, _, e => by cases e
  | .tup _ :: _, _, e => by cases e
  | .lit _ :: _, _, e => by cases e
  | .rol _ :: _, _, e => by cases e
  | .obj _ _ _ :: _, _, e => by cases e
  | .ref _ :: _, _, e => by cases e
theorem RVs.ints : ∀ {is : List Int} {vs : List V}, RVs K T φ H (is.map W.int) vs → vs = is.map V.int
  | [], vs, h => by simpa only [List.map_nil, RVs] using h
  | i :: is, vs, h => by
    simp only [List.map_cons, RVs] at h
    obtain ⟨v, r, rfl, h1, h2⟩ := h
    rw [h1.int_inv, RVs.ints h2]; rfl
theorem RVs.strs_ : ∀ {is : List Str} {vs : List V}, RVs K T φ H (is.map W.str) vs → vs = is.map V.str
  | [], vs, h => by simpa only [List.map_nil, RVs] using h
  | i :: is, vs, h => by
    simp only [List.map_cons, RVs] at h
    obtain ⟨v, r, rfl, h1, h2⟩ := h
    rw [h1.str_inv, RVs.strs_ h2]; rfl
theorem RVs.bls : ∀ {is : List Bool} {vs : List V}, RVs K T φ H (is.map W.bl) vs → vs = is.map V.bl
  | [], vs, h => by simpa only [List.map_nil, RVs] using h
  | i :: is, vs, h => by
    simp only [List.map_cons, RVs] at h
    obtain ⟨v, r, rfl, h1, h2⟩ := h
    rw [h1.bl_inv, RVs.bls h2]; rfl
theorem RVs.mk_ints : ∀ (is : List Int), RVs K T φ H (is.map W.int) (is.map V.int)
  | [] => .nil
  | i :: is => .cons (.mk_int i) (RVs.mk_ints is)
theorem RVs.mk_strs : ∀ (is : List Str), RVs K T φ H (is.map W.str) (is.map V.str)
  | [] => .nil
  | i :: is => .cons (.mk_str i) (RVs.mk_strs is)
theorem RVs.one {w : W} {vs : List V} (h : RVs K T φ H [w] vs) : ∃ v, vs = [v] ∧ RV K T φ H w v := by
  simp only [RVs] at h
  obtain ⟨v, r, rfl, h1, rfl⟩ := h
  exact ⟨v, rfl, h1⟩
theorem RVs.two {w u : W} {vs : List V} (h : RVs K T φ H [w, u] vs) : ∃ v z, vs = [v, z] ∧ RV K T φ H w v ∧ RV K T φ H u z := by
  simp only [RVs] at h
  obtain ⟨v, r, rfl, h1, z, r2, rfl, h2, rfl⟩ := h
  exact ⟨v, z, rfl, h1, h2⟩
end

mutual
theorem noDict : ∀ d : PyData, d.canLay0 = true → d.hasDict = false
  | .none, _ => by simp [PyData.hasDict]
  | .bool _, _ => by simp [PyData.hasDict]
  | .int _, _ => by simp [PyData.hasDict]
  | .str _, _ => by simp [PyData.hasDict]
  | .list xs, h => by simp only [PyData.hasDict]; exact noDicts xs (by simpa [PyData.canLay0] using h)
  | .tuple xs, h => by simp only [PyData.hasDict]; exact noDicts xs (by simpa [PyData.canLay0] using h)
  | .dict _, h => by simp [PyData.canLay0] at h
theorem noDicts : ∀ ds : List PyData, PyData.canLayAll0 ds = true → PyData.hasDictAll ds = false
  | [], _ => by simp [PyData.hasDictAll]
  | d :: ds, h => by
    have h' : d.canLay0 = true ∧ PyData.canLayAll0 ds = true := by simpa [PyData.canLayAll0] using h
    simp [PyData.hasDictAll, noDict d h'.1, noDicts ds h'.2]
end
section
variable {X : L2.Cx} {T : Tab} {φ : Pl} {H : Hp} {h : Hb}
theorem itemsL_ok {w : W} {x : V} {ws : List W} (rl : Rel X.K T φ H h) (r : RV X.K T φ H w x) (e : itemsL h w = some ws) : ∃ a vs, x = .ref a ∧ SqL X.K H a vs ∧ RVs X.K T φ H ws vs := by
  cases w with
  | lit xs =>
    obtain ⟨a, vs, rfl, n, h1, k1⟩ := r.lit_inv
    cases e; exact ⟨a, vs, rfl, SqL.of h1, k1⟩
  | rol xs =>
    obtain ⟨a, vs, rfl, h1, k1⟩ := r.rol_inv
    cases e; exact ⟨a, vs, rfl, lst_seq h1, k1⟩
  | ref n =>
    obtain ⟨a, rfl, ha⟩ := r.ref_inv
    simp only [itemsL] at e
    split at e
    · rename_i xs q
      obtain ⟨vs, e1, k1⟩ := rl.lst q ha
      cases e; exact ⟨a, vs, rfl, SqL.of e1, k1⟩
    · cases e
  | _ => cases e
def biV : Bi → Value
  | .len => .builtin "len" | .int => .type "int" | .abs => .builtin "abs" | .str => .type "str" | .repr => .builtin "repr" | .list => .type "list" | .tuple => .type "tuple" | .sorted => .builtin "sorted"
  | .max => .builtin "max" | .min => .builtin "min" | .sum => .builtin "sum" | .all => .builtin "all" | .any => .builtin "any" | .bool => .type "bool"
def biN : Bi → Str
  | .len => "len" | .int => "int" | .abs => "abs" | .str => "str" | .repr => "repr" | .list => "list" | .tuple => "tuple" | .sorted => "sorted"
  | .max => "max" | .min => "min" | .sum => "sum" | .all => "all" | .any => "any" | .bool => "bool"
def rBi (K : PySem.W.Frag) (T : Tab) (f : Bi) : List V → Hp → VK → Prop := fun vs H Q => ∃ φ h ws, Rel K T φ H h ∧ RVs K T φ H ws vs ∧ Post K T Z0 φ H (R.ofO (builtin f ws h) h) Q
/-- repr of data -/
theorem repr_data (hu : X.A.units + 70 < cLine) (hg : X.A.guards = some []) {pins : List (Addr × Obj)} {s : Shared} {σ : L2.St} {x : V} {v : Value} {d : PyData} {Q : VK} (I : L2.Inv X pins σ H s) (rx : RelV x v) (dp : Dp X.K H x d) (hs : d.showable = true) (hd : SeqAt.shaped d = true) (hz : d.shown.length ≤ sizeLine)
    (q : Q (.str d.shown) H) : wpAny (model X.prog X.w) X.A (call (.builtin "repr") [v]) (EP X pins σ Q) X.xe s := by
  have dd : d.depth ≤ 64 := by
    unfold SeqAt.shaped at hd
    rw [Bool.and_eq_true] at hd
    exact of_decide_eq_true hd.2
  have nd : d.hasDict = false := noDict d (SeqAt.canLay_of_shaped hd)
  have big : ∀ {a : Addr}, v = .ref a → wpAny (model X.prog X.w) X.A (call (.builtin "repr") [v]) (EP X pins σ Q) X.xe s := by
    intro a e
    subst e
    obtain ⟨as, g⟩ := Dp.reads I d x _ dp rx
    refine repr_of_reads' g hs (fun c => absurd c (by rw [nd]; exact Bool.false_ne_true)) hg (by omega) (fun b o e => e) (fun h' u tk hk => ?_) hz
    exact ⟨.str d.shown, H, I.kept hk, ⟨_, rfl⟩, q⟩
  cases dp with
  | non => cases (show v = Value.none from rx); exact PySem.P.repr_of_none ⟨.str _, H, I.tok _, ⟨_, rfl⟩, q⟩
  | bl b => cases (show v = Value.bool b from rx); exact PySem.P.repr_of_bool ⟨.str _, H, I.tok _, ⟨_, by cases b <;> rfl⟩, q⟩
  | int i =>
    obtain ⟨t, rfl⟩ := (show ∃ t, v = Value.int i t from rx)
    exact PySem.P.repr_of_int (of_decide_eq_true hs) ⟨.str _, H, I.tok _, ⟨_, rfl⟩, q⟩
  | str z =>
    obtain ⟨t, rfl⟩ := (show ∃ t, v = Value.str z t from rx)
    exact PySem.P.repr_of_str ⟨.str _, H, I.tok _, ⟨_, rfl⟩, q⟩ hz
  | lst h1 h2 => exact big rx
  | tup h1 h2 => exact big rx
theorem callBi (hu : X.A.units + 70 < cLine) (hg : X.A.guards = some []) (hc : X.calm = true) (f : Bi) : CallR X (biV f) (rBi X.K T f) := by
  intro pins s σ H vs us Q I rv ⟨φ, h, ws, rl, k, p⟩
  cases hb : builtin f ws h with
  | none => rw [hb] at p; exact p.elim
  | some w =>
  rw [hb] at p
  have fin : ∀ z, RV X.K T φ H w z → Q z H := fun z r => p φ z H .refl rl r
  unfold builtin at hb
  split at hb
  · obtain ⟨x, rfl, r⟩ := k.one
    obtain ⟨a, ys, rfl, h1, k1⟩ := r.tup_inv
    cases hb
    exact call_len pins s σ H _ us Q I rv ⟨_, ys.length, rfl, .inr ⟨ys, tup_seq h1, rfl⟩, by rw [← k1.length]; exact fin _ (.mk_int _)⟩
  · obtain ⟨x, rfl, r⟩ := k.one
    obtain ⟨a, ys, rfl, n, h1, k1⟩ := r.lit_inv
    cases hb
    exact call_len pins s σ H _ us Q I rv ⟨_, ys.length, rfl, .inl ⟨ys, SqL.of h1, rfl⟩, by rw [← k1.length]; exact fin _ (.mk_int _)⟩
  · obtain ⟨x, rfl, r⟩ := k.one
    have e := r.str_inv; subst e
    split at hb
    · rename_i c
      cases hb
      exact call_len pins s σ H _ us Q I rv ⟨_, _, rfl, ⟨by rw [sizeLine_eq]; exact of_decide_eq_true c, rfl⟩, fin _ (.mk_int _)⟩
    · cases hb
  · obtain ⟨x, rfl, r⟩ := k.one
    obtain ⟨a, rfl, ha⟩ := r.ref_inv
    split at hb
    · rename_i xs q
      obtain ⟨ys, h1, k1⟩ := rl.lst q ha
      cases hb
      exact call_len pins s σ H _ us Q I rv ⟨_, ys.length, rfl, .inl ⟨ys, SqL.of h1, rfl⟩, by rw [← k1.length]; exact fin _ (.mk_int _)⟩
    · cases hb
  · obtain ⟨x, rfl, r⟩ := k.one
    have e := r.int_inv; subst e; cases hb
    exact call_int1 pins s σ H _ us Q I rv (.inl ⟨_, rfl, fin _ (.mk_int _)⟩)
  · obtain ⟨x, rfl, r⟩ := k.one
    have e := r.bl_inv; subst e; cases hb
    exact call_int1 pins s σ H _ us Q I rv (.inr ⟨_, rfl, fin _ (.mk_int _)⟩)
  · obtain ⟨x, rfl, r⟩ := k.one
    have e := r.int_inv; subst e; cases hb
    exact call_abs pins s σ H _ us Q I rv ⟨_, rfl, fin _ (.mk_int _)⟩
  · obtain ⟨x, rfl, r⟩ := k.one
    obtain ⟨z, hz, e⟩ := Option.map_eq_some_iff.mp hb
    subst e
    unfold strOf at hz
    split at hz
    · have e := r.str_inv; subst e; cases hz
      exact SkE.call_str_str pins s σ H _ us Q I rv ⟨_, rfl, fin _ (.mk_str _)⟩
    · have e := r.int_inv; subst e
      split at hz
      · rename_i c
        cases hz
        exact call_str_int pins s σ H _ us Q I rv ⟨_, rfl, of_decide_eq_true c, fin _ (.mk_str _)⟩
      · cases hz
    · cases hz
  · obtain ⟨x, rfl, r⟩ := k.one
    obtain ⟨z, hz, e⟩ := Option.map_eq_some_iff.mp hb
    subst e
    unfold reprOf at hz
    split at hz
    · rename_i d q
      split at hz
      · rename_i c
        simp only [Bool.and_eq_true] at c
        cases hz
        obtain ⟨u, rfl, rx⟩ := vals1 rv
        exact repr_data hu hg I rx (RV.dp_snap rl q r) c.1.1 c.1.2 (by rw [sizeLine_eq]; exact of_decide_eq_true c.2) (fin _ (.mk_str _))
      · cases hz
    · cases hz
  · obtain ⟨x, rfl, r⟩ := k.one
    obtain ⟨xs, hx, e⟩ := Option.map_eq_some_iff.mp hb
    subst e
    obtain ⟨a, ys, rfl, hq, k1⟩ := items_ok rl r hx
    refine call_list_of pins s σ H _ us Q I rv ⟨a, ys, rfl, hq, fun q hp => ?_⟩
    exact p φ _ _ (Ex.side rl hp) (rl.side hp) (.mk_lit (rl.fr hp) upd_same (RVs.mono (Ex.side rl hp) _ _ k1))
  · obtain ⟨x, rfl, r⟩ := k.one
    obtain ⟨a, ys, rfl, h1, k1⟩ := r.tup_inv
    cases hb
    exact call_tuple_of pins s σ H _ us Q I rv ⟨a, ys, rfl, .inr ⟨tup_seq h1, fin _ r⟩⟩
  · obtain ⟨x, rfl, r⟩ := k.one
    obtain ⟨xs, hx, e⟩ := Option.map_eq_some_iff.mp hb
    subst e
    obtain ⟨a, ys, rfl, hq, k1⟩ := itemsL_ok rl r hx
    refine call_tuple_of pins s σ H _ us Q I rv ⟨a, ys, rfl, .inl ⟨hq, fun q hp => ?_⟩⟩
    exact p φ _ _ (Ex.side rl hp) (rl.side hp) (.mk_tup (rl.fr hp) (.inl upd_same) (RVs.mono (Ex.side rl hp) _ _ k1))
  · obtain ⟨x, rfl, r⟩ := k.one
    split at hb
    · rename_i xs hx
      obtain ⟨a, ys, rfl, hq, k1⟩ := itemsL_ok rl r hx
      split at hb
      · rename_i is hi
        cases hb
        rw [intsW_map hi] at k1
        refine cr_sortedI pins s σ H _ us Q I rv ⟨a, is, rfl, by rw [← k1.ints]; exact hq, fun ns q hp hs hq' => ?_⟩
        rw [sortI_unique hp hs]
        exact p φ _ _ (Ex.side rl hq') (rl.side hq') (.mk_lit (rl.fr hq') upd_same (RVs.mk_ints _))
      · split at hb
        · rename_i ss hi
          split at hb
          · rename_i c
            cases hb
            rw [strsW_map hi] at k1
            refine cr_sortedS pins s σ H _ us Q I rv ⟨a, ss, rfl, by rw [← k1.strs_]; exact hq, of_decide_eq_true c, fun ns q hp hs hq' => ?_⟩
            rw [sortedS_unique hp hs]
            exact p φ _ _ (Ex.side rl hq') (rl.side hq') (.mk_lit (rl.fr hq') upd_same (RVs.mk_strs _))
          · cases hb
        · cases hb
    · cases hb
  · obtain ⟨x, y, rfl, r1, r2⟩ := k.two
    have e1 := r1.int_inv; have e2 := r2.int_inv; subst e1 e2; cases hb
    exact call_max2 hc pins s σ H _ us Q I rv ⟨_, _, rfl, fin _ (.mk_int _)⟩
  · obtain ⟨x, y, rfl, r1, r2⟩ := k.two
    have e1 := r1.int_inv; have e2 := r2.int_inv; subst e1 e2; cases hb
    exact call_min2 hc pins s σ H _ us Q I rv ⟨_, _, rfl, fin _ (.mk_int _)⟩
  · obtain ⟨x, rfl, r⟩ := k.one
    obtain ⟨is, hz, e⟩ := Option.map_eq_some_iff.mp hb
    subst e
    obtain ⟨xs, hx, hi⟩ := Option.bind_eq_some_iff.mp hz
    obtain ⟨a, ys, rfl, hq, k1⟩ := itemsL_ok rl r hx
    rw [intsW_map hi] at k1
    exact cr_sum hc pins s σ H _ us Q I rv ⟨a, is, rfl, by rw [← k1.ints]; exact hq, fin _ (.mk_int _)⟩
  · obtain ⟨x, rfl, r⟩ := k.one
    obtain ⟨is, hz, e⟩ := Option.map_eq_some_iff.mp hb
    subst e
    obtain ⟨xs, hx, hi⟩ := Option.bind_eq_some_iff.mp hz
    obtain ⟨a, ys, rfl, hq, k1⟩ := itemsL_ok rl r hx
    rw [truthsW_map hi] at k1
    exact cr_all hc pins s σ H _ us Q I rv ⟨a, is, rfl, by rw [← k1.bls]; exact hq, fin _ (.mk_bl _)⟩
  · obtain ⟨x, rfl, r⟩ := k.one
    obtain ⟨is, hz, e⟩ := Option.map_eq_some_iff.mp hb
    subst e
    obtain ⟨xs, hx, hi⟩ := Option.bind_eq_some_iff.mp hz
    obtain ⟨a, ys, rfl, hq, k1⟩ := itemsL_ok rl r hx
    rw [truthsW_map hi] at k1
    exact cr_any hc pins s σ H _ us Q I rv ⟨a, is, rfl, by rw [← k1.bls]; exact hq, fin _ (.mk_bl _)⟩
  · obtain ⟨x, rfl, r⟩ := k.one
    have e := r.bl_inv; subst e; cases hb
    exact call_bool1 pins s σ H _ us Q I rv (.inr ⟨_, rfl, fin _ (.mk_bl _)⟩)
  · obtain ⟨x, rfl, r⟩ := k.one
    have e := r.int_inv; subst e; cases hb
    exact call_bool1 pins s σ H _ us Q I rv (.inl ⟨_, rfl, fin _ (.mk_bl _)⟩)
  · cases hb
end
end Y
/-! Y5: calls of built-ins and their methods, f-strings. -/
namespace Y
open PySem PySem.Spec PyProof.Rows L2

section
variable {X : L2.Cx} {T : Tab} {Wx : WX} {C : Ctx} {σ : L2.St} {φ : Pl} {H : Hp} {h : Hb} {σb : Sb}
variable {a b c : Expr} {ea eb ec : E} {pos : Pos} {es : List Expr}

/-! ### no stars among the arguments -/
def noStars (es : List Expr) : Bool := es.all notStar
theorem noStars_each {env : Env} : ∀ {es : List Expr}, noStars es = true → ∀ y ∈ starEach es env, y.1 = false
  | [], _, y, hy => by simp [starEach] at hy
  | e :: es, h, y, hy => by
    have h' : notStar e = true ∧ noStars es = true := by simpa [noStars] using h
    rw [starEach_of h'.1] at hy
    rcases List.mem_cons.mp hy with q | q
    · rw [q]
    · exact noStars_each h'.2 y q
theorem noStars_any {env : Env} {pos : Pos} {es : List Expr} (h : noStars es = true) : (backTo pos (starEach es env)).any (·.1) = false := by
  rw [List.any_eq_false]
  intro y hy
  unfold backTo at hy
  obtain ⟨z, hz, rfl⟩ := List.mem_map.mp hy
  have := noStars_each h z hz
  simp [this]
theorem noStars_all {env : Env} {pos : Pos} {es : List Expr} (h : noStars es = true) : (backTo pos (starEach es env)).all (fun x => !x.1) = true := by
  rw [List.all_eq_true]
  intro y hy
  unfold backTo at hy
  obtain ⟨z, hz, rfl⟩ := List.mem_map.mp hy
  have := noStars_each h z hz
  simp [this]

theorem d_bi_read {f : Bi} {Q : VK} (s : RS X.K T φ H σb σ) (rl : Rel X.K T φ H h) (p : Post X.K T (ZX Wx σ) φ H (evalE C (.bi f ea) σb h) Q) : tCB (rBi X.K T f) (tIA X.K T Wx (evalE C ea)) σ H Q := by
  simp only [evalE] at p
  refine tR_mono (tR_of (Ru := RA X.K T) s rl p) ?_
  rintro vs H1 ⟨φ1, w1, h1, _, x1, s1, rl1, ⟨ws, rfl, r1⟩, p1⟩
  refine ⟨φ1, h1, ws, rl1, r1, ?_⟩
  dsimp only at p1
  cases q : builtin f ws h1 with
  | none => rw [q] at p1; exact p1.elim
  | some w => rw [q] at p1; exact p1
theorem d_bi {e : Expr} {f : Bi} {p : Pos} (hu : X.A.units + 70 < cLine) (hgd : X.A.guards = some []) (hc : X.calm = true) (hg : Gl X (biN f)) (hm : X.mg (biN f) = none) (ha : DA X T Wx C (e :: es) ea) (hs : noStars (e :: es) = true) :
    D X T Wx C (.Call (.Name (biN f) p) (e :: es) [] pos) (.bi f ea) := by
  have h' : notStar e = true ∧ noStars es = true := by simpa [noStars] using hs
  have K := callBi (T := T) hu hgd hc f
  have key : PE X (.Call (.Name (biN f) p) (e :: es) [] pos) (tCB (rBi X.K T f) (tIA X.K T Wx (evalE C ea))) := by
    have st := starEach_of (env := X.env) (es := es) h'.1
    have sp := noStars_any (env := X.env) (pos := pos) h'.2
    cases f <;> first
      | exact pe_callB K hg hm (by decide +kernel) ha (by decide) (by decide) st sp
      | exact pe_callTy K hg hm (by decide +kernel) ha (by decide) (by decide) st sp
  exact key.weak fun σ H Q ⟨φ, σb, h, s, rl, p⟩ => d_bi_read s rl p

/-- a fresh list of a built-in, tracked -/
def rBiN (K : PySem.W.Frag) (T : Tab) (f : Bi) : List V → Hp → VK → Prop := fun vs H Q => ∃ φ h ws, Rel K T φ H h ∧ RVs K T φ H ws vs ∧ Post K T Z0 φ H (asNew (R.ofO (builtin f ws h) h)) Q
def newBi : Bi → Bool
  | .list => true
  | .sorted => true
  | _ => false
theorem callBiN {f : Bi} (hf : newBi f = true) : CallR X (biV f) (rBiN X.K T f) := by
  intro pins s σ H vs us Q I rv ⟨φ, h, ws, rl, k, p⟩
  unfold newBi at hf
  split at hf
  · cases ws with
    | nil => exact p.elim
    | cons w r =>
      cases r with
      | cons _ _ => exact p.elim
      | nil =>
        obtain ⟨x, rfl, r⟩ := k.one
        replace p : Post X.K T Z0 φ H (asNew (R.ofO ((items h w).map .lit) h)) Q := p
        cases hi : items h w with
        | none => rw [hi] at p; exact p.elim
        | some xs =>
          rw [hi] at p
          obtain ⟨a, ys, rfl, hq, k1⟩ := items_ok rl r hi
          exact call_list_of pins s σ H _ us Q I rv ⟨a, ys, rfl, hq, fun q hp => grown rl hp k1 p⟩
  · cases ws with
    | nil => exact p.elim
    | cons w r =>
      cases r with
      | cons _ _ => exact p.elim
      | nil =>
        obtain ⟨x, rfl, r⟩ := k.one
        replace p : Post X.K T Z0 φ H (asNew (R.ofO (match itemsL h w with
          | some xs => (match intsW xs with | some is => some (.lit ((sortI is).map .int)) | none => (match strsW xs with | some ss => if decide (ss.length < 64) then some (.lit ((sortS ss).map .str)) else none | none => none))
          | none => none) h)) Q := p
        cases hi : itemsL h w with
        | none => rw [hi] at p; exact p.elim
        | some xs =>
          rw [hi] at p
          dsimp only at p
          obtain ⟨a, ys, rfl, hq, k1⟩ := itemsL_ok rl r hi
          cases hn : intsW xs with
          | some is =>
            rw [hn] at p
            rw [intsW_map hn] at k1
            refine cr_sortedI pins s σ H _ us Q I rv ⟨a, is, rfl, by rw [← k1.ints]; exact hq, fun ns q hp hs hq' => ?_⟩
            rw [sortI_unique hp hs]
            exact grown rl hq' (RVs.mk_ints _) p
          | none =>
            rw [hn] at p
            dsimp only at p
            cases hn2 : strsW xs with
            | none => rw [hn2] at p; exact p.elim
            | some ss =>
              rw [hn2] at p
              dsimp only at p
              rw [strsW_map hn2] at k1
              split at p
              · rename_i c
                refine cr_sortedS pins s σ H _ us Q I rv ⟨a, ss, rfl, by rw [← k1.strs_]; exact hq, of_decide_eq_true c, fun ns q hp hs hq' => ?_⟩
                rw [sortedS_unique hp hs]
                exact grown rl hq' (RVs.mk_strs _) p
              · exact p.elim
  · cases hf
theorem d_newbi {e : Expr} {f : Bi} {p : Pos} (hf : newBi f = true) (hg : Gl X (biN f)) (hm : X.mg (biN f) = none) (ha : DA X T Wx C (e :: es) ea) (hs : noStars (e :: es) = true) :
    D X T Wx C (.Call (.Name (biN f) p) (e :: es) [] pos) (.new (.bi f ea)) := by
  have h' : notStar e = true ∧ noStars es = true := by simpa [noStars] using hs
  have K := callBiN (X := X) (T := T) hf
  have key : PE X (.Call (.Name (biN f) p) (e :: es) [] pos) (tCB (rBiN X.K T f) (tIA X.K T Wx (evalE C ea))) := by
    have st := starEach_of (env := X.env) (es := es) h'.1
    have sp := noStars_any (env := X.env) (pos := pos) h'.2
    cases f <;> first
      | exact pe_callB K hg hm (by decide +kernel) ha (by decide) (by decide) st sp
      | exact pe_callTy K hg hm (by decide +kernel) ha (by decide) (by decide) st sp
      | cases hf
  refine key.weak fun σ H Q ⟨φ, σb, h, s, rl, p⟩ => ?_
  rw [evalE_new] at p
  simp only [evalE, asNew_bind] at p
  refine tR_mono (tR_of (Ru := RA X.K T) s rl p) ?_
  rintro vs H1 ⟨φ1, w1, h1, _, x1, s1, rl1, ⟨ws, rfl, r1⟩, p1⟩
  refine ⟨φ1, h1, ws, rl1, r1, ?_⟩
  dsimp only at p1
  cases q : asNew (R.ofO (builtin f ws h1) h1) with
  | ok w h' => rw [q] at p1; exact p1
  | ex e h' => exact absurd q (asNew_nx (ofO_nx _ _) _ _)
  | no => rw [q] at p1; exact p1

/-! ### methods -/
def mtN : Mt → Str
  | .append => "append" | .extend => "extend" | .pop => "pop" | .join => "join" | .index => "index" | .split => "split" | .get => "get"
def rMt (K : PySem.W.Frag) (T : Tab) (m : Mt) : V → List V → Hp → VK → Prop := fun x vs H Q => ∃ φ h w ws, Rel K T φ H h ∧ RV K T φ H w x ∧ RVs K T φ H ws vs ∧ Post K T Z0 φ H (method m w ws h) Q
theorem method_nx (m : Mt) (a : W) (b : List W) (h : Hb) : ∀ e h', method m a b h ≠ .ex e h' := by
  intro e h' q
  unfold method at q
  repeat' (first | cases q | (split at q))
theorem R.nx {K : PySem.W.Frag} {Z : Value → Option Addr → Hp → Prop} {r : R W} {Q : VK} (p : Post K T Z φ H r Q) (n : ∀ e h', r ≠ .ex e h') : Post K T Z0 φ H r Q := by
  cases r with
  | ok w h' => exact p
  | ex e h' => exact absurd rfl (n e h')
  | no => exact p
theorem mt_append_ : MtR X "list.append" (rMt X.K T .append) := by
  intro pins s σ H x xs v us Q I rx rv ⟨φ, h, w, ws, rl, r, k, p⟩
  unfold method at p
  split at p
  · rename_i n w1 _
    obtain ⟨a, rfl, ha⟩ := r.ref_inv
    obtain ⟨y, rfl, ry⟩ := k.one
    split at p
    · rename_i zs q
      obtain ⟨ys, h1, k1⟩ := rl.lst q ha
      replace ha := rl.liv q (by intro z; cases z) ha
      split at p
      · rename_i c
        have c' : ys.length < sizeLine := by rw [sizeLine_eq, ← k1.length]; exact of_decide_eq_true c
        refine mt_append pins s σ H _ _ v us Q I rx rv ⟨a, ys, y, rfl, rfl, h1, c', ?_⟩
        have x := Ex.write (o := .lst (ys ++ [y])) rl (List.mem_of_getElem? ha)
        exact p φ _ _ x (rl.write ha ⟨_, upd_same, (RVs.mono x _ _ k1).append (.cons (RV.mono x _ _ ry) .nil)⟩) .mk_non
      · exact p.elim
    · exact p.elim
  all_goals first | exact p.elim | (rename_i z; exact absurd z (by intro z; cases z))
theorem mt_pop_ : MtR X "list.pop" (rMt X.K T .pop) := by
  intro pins s σ H x xs v us Q I rx rv ⟨φ, h, w, ws, rl, r, k, p⟩
  unfold method at p
  split at p
  · rename_i z; exact absurd z (by intro z; cases z)
  · rename_i n i _
    obtain ⟨a, rfl, ha⟩ := r.ref_inv
    obtain ⟨y, rfl, ry⟩ := k.one
    have e := ry.int_inv; subst e
    split at p
    · rename_i zs q
      obtain ⟨ys, h1, k1⟩ := rl.lst q ha
      replace ha := rl.liv q (by intro z; cases z) ha
      split at p
      · rename_i c
        simp only [Bool.and_eq_true, decide_eq_true_eq] at c
        split at p
        · rename_i j hj
          split at p
          · rename_i w hw
            obtain ⟨z, hz, rz⟩ := k1.get hw
            refine mt_popAt pins s σ H _ _ v us Q I rx rv ⟨a, ys, i, j, z, rfl, rfl, h1, by omega, by omega, by rw [← k1.length]; exact hj, hz, ?_⟩
            have x := Ex.write (o := .lst (ys.eraseIdx j)) rl (List.mem_of_getElem? ha)
            exact p φ _ _ x (rl.write ha ⟨_, upd_same, RVs.eraseIdx _ (RVs.mono x _ _ k1)⟩) (RV.mono x _ _ rz)
          · exact p.elim
        · exact p.elim
      · exact p.elim
    · exact p.elim
  · rename_i n _
    obtain ⟨a, rfl, ha⟩ := r.ref_inv
    have e : xs = [] := by simpa only [RVs] using k
    subst e
    split at p
    · rename_i zs q
      obtain ⟨ys, h1, k1⟩ := rl.lst q ha
      replace ha := rl.liv q (by intro z; cases z) ha
      split at p
      · rename_i w hw
        obtain ⟨z, hz, rz⟩ := k1.get hw
        refine mt_pop pins s σ H _ _ v us Q I rx rv ⟨a, ys, z, rfl, rfl, h1, by rw [← k1.length]; exact hz, ?_⟩
        have x := Ex.write (o := .lst ys.dropLast) rl (List.mem_of_getElem? ha)
        exact p φ _ _ x (rl.write ha ⟨_, upd_same, RVs.dropLast (RVs.mono x _ _ k1)⟩) (RV.mono x _ _ rz)
      · exact p.elim
    · exact p.elim
  all_goals first | exact p.elim | (rename_i z; exact absurd z (by intro z; cases z))
theorem mt_join_ : MtR X "str.join" (rMt X.K T .join) := by
  intro pins s σ H x xs v us Q I rx rv ⟨φ, h, w, ws, rl, r, k, p⟩
  unfold method at p
  split at p
  · rename_i z; exact absurd z (by intro z; cases z)
  · rename_i z; exact absurd z (by intro z; cases z)
  · rename_i z; exact absurd z (by intro z; cases z)
  · rename_i s0 w1 _
    have e := r.str_inv; subst e
    obtain ⟨y, rfl, ry⟩ := k.one
    split at p
    · rename_i ss q
      obtain ⟨its, hx, hi⟩ := Option.bind_eq_some_iff.mp q
      obtain ⟨a, ys, rfl, hq, k1⟩ := items_ok rl ry hx
      rw [strsW_map hi] at k1
      split at p
      · rename_i c
        refine mt_join pins s σ H _ _ v us Q I rx rv ⟨s0, a, ss, rfl, rfl, by rw [← k1.strs_]; exact hq, of_decide_eq_true c, p φ _ H .refl rl (.mk_str _)⟩
      · exact p.elim
    · exact p.elim
  all_goals first | exact p.elim | (rename_i z; exact absurd z (by intro z; cases z))
/-- not a call without arguments -/
def noCall0 : Expr → Bool
  | .Call _ [] _ _ => false
  | _ => true
theorem attrBase_of {o : Expr} {n : Str} {env : Env} (hn : noCall0 o = true) : attributeBase o n env (eval o env) = eval o env := by
  cases o with
  | Call f as ks p =>
    cases as with
    | nil => exact (Bool.false_ne_true hn).elim
    | cons x y => cases f <;> rfl
  | _ => rfl
theorem d_mt_read {m : Mt} {ty : String} {Q : VK} (hr : ∀ φ H h w x, Rel X.K T φ H h → RV X.K T φ H w x → recv m h w = true → tyV X.K ty x H) (s : RS X.K T φ H σb σ) (rl : Rel X.K T φ H h) (p : Post X.K T (ZX Wx σ) φ H (evalE C (.mt m ea eb) σb h) Q) :
    tBM X.K ty (rMt X.K T m) (tI X.K T Wx (evalE C ea)) (tIA X.K T Wx (evalE C eb)) σ H Q := by
  simp only [evalE] at p
  refine tR_mono (tR_of s rl p) ?_
  rintro x H1 ⟨φ1, w1, h1, _, x1, s1, rl1, r1, p1⟩
  split at p1
  · rename_i c
    refine ⟨hr _ _ _ _ _ rl1 r1 c, ?_⟩
    refine tR_mono (tR_of (Ru := RA X.K T) s1 rl1 p1) ?_
    rintro vs H2 ⟨φ2, w2, h2, _, x2, s2, rl2, ⟨ws, rfl, r2⟩, p2⟩
    exact ⟨φ2, h2, w1, ws, rl2, RV.mono x2 _ _ r1, r2, R.nx p2 (method_nx _ _ _ _)⟩
  · exact p1.elim
theorem recv_list {m : Mt} (hm : m = .append ∨ m = .extend ∨ m = .pop) (φ : Pl) (H : Hp) (h : Hb) (w : W) (x : V) (rl : Rel X.K T φ H h) (r : RV X.K T φ H w x) (e : recv m h w = true) : tyV X.K "list" x H := by
  have key : ∃ n xs, w = .ref n ∧ h[n]? = some (.lst xs) := by
    rcases hm with rfl | rfl | rfl <;>
    · unfold recv at e
      split at e
      all_goals first
        | (exfalso; exact Bool.false_ne_true e)
        | (split at e
           · exact ⟨_, _, rfl, by assumption⟩
           · exact (Bool.false_ne_true e).elim)
        | (rename_i z; exact absurd z (by intro z; cases z))
  obtain ⟨n, xs, rfl, q⟩ := key
  obtain ⟨a, rfl, ha⟩ := r.ref_inv
  obtain ⟨ys, h1, k1⟩ := rl.lst q ha
  replace ha := rl.liv q (by intro z; cases z) ha
  exact .inl ⟨rfl, ys, SqL.of h1⟩
theorem recv_str {m : Mt} (hm : m = .join ∨ m = .split) (φ : Pl) (H : Hp) (h : Hb) (w : W) (x : V) (rl : Rel X.K T φ H h) (r : RV X.K T φ H w x) (e : recv m h w = true) : tyV X.K "str" x H := by
  have key : ∃ n, w = .str n := by
    rcases hm with rfl | rfl <;>
    · unfold recv at e
      split at e
      all_goals first
        | (exfalso; exact Bool.false_ne_true e)
        | exact ⟨_, rfl⟩
        | (rename_i z; exact absurd z (by intro z; cases z))
  obtain ⟨n, rfl⟩ := key
  have e := r.str_inv; subst e
  exact rfl
theorem few_of {e : Expr} {es : List Expr} {env : Env} {cpos : Pos} (hs : noStars (e :: es) = true) (hf : es.length ≤ 20) : ((backTo cpos (starEach (e :: es) env)).all (fun x => !x.1) && (backToKw cpos (keywordEach [] env)).all (fun x => x.1.isSome)
      && decide ((e :: es).length + ([] : List Keyword).length + (if ([] : List Keyword).isEmpty then 0 else 1) < 30)) = true := by
  rw [noStars_all hs]
  simp [keywordEach, backToKw]
  omega
theorem d_mtL {m : Mt} {e : Expr} {apos cpos : Pos} (hm : m = .append ∨ m = .pop) (ha : D X T Wx C a ea) (hb : DA X T Wx C (e :: es) eb) (hs : noStars (e :: es) = true) (hf : es.length ≤ 20) (hn : noCall0 a = true) (hl : (apos.endLine == cpos.line) = true) :
    D X T Wx C (.Call (.Attribute a (mtN m) apos) (e :: es) [] cpos) (.mt m ea eb) := by
  have h' : notStar e = true ∧ noStars es = true := by simpa [noStars] using hs
  have st := starEach_of (env := X.env) (es := es) h'.1
  have sp := noStars_any (env := X.env) (pos := cpos) h'.2
  rcases hm with rfl | rfl
  · exact (pe_bm PySem.F.plainAttrs_list PySem.F.slot_list_append PySem.F.type_list_append mt_append_ ha hb (attrBase_of hn) (few_of hs hf) hl st sp).weak fun σ H Q ⟨φ, σb, h, s, rl, p⟩ => d_mt_read (recv_list (.inl rfl)) s rl p
  · exact (pe_bm PySem.F.plainAttrs_list PySem.F.slot_list_pop PySem.F.type_list_pop mt_pop_ ha hb (attrBase_of hn) (few_of hs hf) hl st sp).weak fun σ H Q ⟨φ, σb, h, s, rl, p⟩ => d_mt_read (recv_list (.inr (.inr rfl))) s rl p
theorem d_mtS {e : Expr} {apos cpos : Pos} (ha : D X T Wx C a ea) (hb : DA X T Wx C (e :: es) eb) (hs : noStars (e :: es) = true) (hf : es.length ≤ 20) (hn : noCall0 a = true) (hl : (apos.endLine == cpos.line) = true) :
    D X T Wx C (.Call (.Attribute a "join" apos) (e :: es) [] cpos) (.mt .join ea eb) := by
  have h' : notStar e = true ∧ noStars es = true := by simpa [noStars] using hs
  have st := starEach_of (env := X.env) (es := es) h'.1
  have sp := noStars_any (env := X.env) (pos := cpos) h'.2
  exact (pe_bm PySem.F.plainAttrs_str PySem.F.slot_str_join PySem.F.type_str_join mt_join_ ha hb (attrBase_of hn) (few_of hs hf) hl st sp).weak fun σ H Q ⟨φ, σb, h, s, rl, p⟩ => d_mt_read (recv_str (.inl rfl)) s rl p
theorem d_pop0 {apos cpos : Pos} (ha : D X T Wx C a ea) (hn : noCall0 a = true) (hl : (apos.endLine == cpos.line) = true) : D X T Wx C (.Call (.Attribute a "pop" apos) [] [] cpos) (.mt .pop ea .nil) := by
  refine (pe_bm0 PySem.F.plainAttrs_list PySem.F.slot_list_pop PySem.F.type_list_pop (mt_pop_ (T := T)) ha (attrBase_of hn) hl).weak fun σ H Q ⟨φ, σb, h, s, rl, p⟩ => ?_
  obtain t := d_mt_read (ty := "list") (recv_list (.inr (.inr rfl))) s rl p
  refine tR_mono t ?_
  rintro x H1 ⟨ty, φ1, σ1, h1, s1, rl1, p1⟩
  exact ⟨ty, p1 φ1 [] H1 .refl rl1 ⟨[], rfl, .nil⟩⟩
end
end Y
/-! Y6: what is walked: sequences, ranges, enumerate, zip. -/
namespace Y
open PySem PySem.Spec PyProof.Rows L2

/-! ### enumerate of a tuple -/
abbrev tupIt (l : Addr) : Obj := { cls := .type "tuple_iterator", data := .fields #[.ref l, .int 0 0] }
abbrev enumOf (it : Addr) : Obj := { cls := .type "enumerate", data := .fields #[.none, .bool false, .ref it, rawInt 0, .none, .none] }
theorem meets_enumT (l : Addr) (its : Array Value) (n : Nat) (dc : Option Addr) (sl : Array (Option Value)) : Meets (Builtin.«enumerate.__new__» ⟨[.type "enumerate", .ref l], []⟩) (fun _ R s =>
    s.heap.get? l = some { cls := .type "tuple", dict := dc, data := .seq its n, slots := sl } ∧ R (.ok (.ret (.ref (s.heap.push (tupIt l)).objs.size))) { s with heap := (s.heap.push (tupIt l)).push (enumOf s.heap.objs.size) }) := by
  refine .of_wp fun prog w A R s ⟨g1, g2⟩ => ?_
  obtain ⟨hp, gg, dd, tt, oo⟩ := s
  have sb := sub_enumerate
  have tu : Heap.IsTuple (Shared.heap ⟨hp, gg, dd, tt, oo⟩) l its := ⟨_, g1, rfl, n, rfl⟩
  have go : ∀ {Q : Value → Shared → Prop} {E : Value → Shared → Prop} {A' : Around}, Q (.ref hp.objs.size) ⟨hp.push (tupIt l), gg, dd, tt, oo⟩ → wpAny (model prog w) A' (pyIter (.ref l)) Q E ⟨hp, gg, dd, tt, oo⟩ := fun q => wpAny_pyIter_tuple tu q
  wp_walk using AutoSeq1.wpAny_loadPart' g1
  refine wpAny_stack_any (fun st => wpAny_pure ?_)
  split
  · rename_i c _ _ _ _ _
    cases (c == Value.type "enumerate") <;> (wp_walk using AutoSeq1.wpAny_loadPart' g1, go; exact ⟨_, rfl, g2⟩)
  · wp_walk using AutoSeq1.wpAny_loadPart' g1, go
    exact ⟨_, rfl, g2⟩

section
variable {prog : Program} {w : World} {A : Around} {E : Value → Shared → Prop} {s : Shared}
theorem call_enumT {l : Addr} {its : Array Value} {Q : Value → Shared → Prop} (tu : s.heap.IsTuple l its)
    (q : ∀ h', IsEnum h' (s.heap.objs.size + 1) s.heap.objs.size 0 .none → h'.IsTupleIter s.heap.objs.size l 0 → (∀ b o, s.heap.get? b = some o → h'.get? b = some o) → Q (.ref (s.heap.objs.size + 1)) { s with heap := h' }) :
    wpAny (model prog w) A (call (.type "enumerate") [.ref l]) Q E s := by
  obtain ⟨⟨c, dc, dt, sl⟩, g1, g2, n, g3⟩ := tu
  replace g2 : c = .type "tuple" := g2
  replace g3 : dt = .seq its n := g3
  subst g2 g3
  refine callType_new F.called_enumerate (by decide) (F.typeCall_enumerate_1 _) (F.newCall_enumerate_1 _) (fun ob => F.args_object_init_2 ob _) F.entry_enumerate_new (meets_enumT l its n dc sl) ⟨g1, ?_⟩
  have z : (s.heap.push (tupIt l)).objs.size = s.heap.objs.size + 1 := Heap.size_push ..
  show _ ∧ _
  rw [z]
  have e : IsEnum ((s.heap.push (tupIt l)).push (enumOf s.heap.objs.size)) (s.heap.objs.size + 1) s.heap.objs.size 0 .none := by
    have e0 := Heap.get?_push_size (s.heap.push (tupIt l)) (o := enumOf s.heap.objs.size) rfl
    rw [z] at e0
    exact e0
  exact ⟨⟨_, e, rfl⟩, q _ e ⟨_, Heap.get?_push_of_some _ (Heap.get?_push_size _ rfl), rfl, rfl⟩ (fun b o x => Heap.get?_push_of_some _ (Heap.get?_push_of_some _ x))⟩
end

/-- the tuple at a, its items numbered in new pairs -/
def ItE (K : PySem.W.Frag) (a : Addr) : It where
  go := fun i H => ∃ (xs : List V) (x : V), SqT K H a xs ∧ xs[i]? = some x
  yld := fun i H v H' => ∃ (t : Addr) (x : V), v = .ref t ∧ H t = none ∧ H' = upd H t (.tup [.int (i : Nat), x]) ∧ ∀ xs, SqT K H a xs → xs[i]? = some x
  stop := fun i H => ∃ xs : List V, SqT K H a xs ∧ xs.length = i
theorem turn_enumT {P : Program} {w : World} {K : PySem.W.Frag} {elts : List Expr} {kk : Nat} {tpos : Pos} (a e it : Addr) :
    Turn P w K (.Tuple elts kk tpos) (ItE K a) [e, it] e (fun i h => (∃ old, IsEnum h e it ((i : Nat) : Int) old) ∧ h.IsTupleIter it a i ∧ e ≠ it) := by
  refine ⟨by simp, ?_, ?_, ?_, ?_, ?_⟩
  · rintro i h ⟨⟨old, g1⟩, ⟨o, g2, _, g3⟩, _⟩ b hb
    rcases (show b = e ∨ b = it by simpa using hb) with z | z
    · rw [z]; exact ⟨_, g1, fun v q => nomatch q⟩
    · rw [z]; exact ⟨o, g2, fun v q => by rw [g3] at q; cases q⟩
  · rintro i h h' ⟨⟨old, g1⟩, g2, ne⟩ k
    exact ⟨⟨old, k e (by simp) _ g1⟩, g2.at (fun o q => k it (by simp) o q), ne⟩
  · intro X hP hw hK hc i pins s σ H E I hf ⟨⟨old, g1⟩, g2, ne⟩ ⟨xs, x, hq, hx⟩
    subst hP hw hK
    obtain ⟨its, rv, tu, hz⟩ := I.tuple hq
    obtain ⟨u, hu, ru⟩ := rv.get hx
    have le : e < s.heap.objs.size := Heap.lt_size g1
    have li : it < s.heap.objs.size := by obtain ⟨_, q, _⟩ := g2; exact Heap.lt_size q
    have ea : e ≠ a := by
      rintro rfl
      obtain ⟨o, q, c, _⟩ := tu
      rw [g1] at q; cases q
      exact absurd c (by show Value.type "enumerate" ≠ .type "tuple"; decide +kernel)
    have ia : a ≠ it := by
      rintro rfl
      obtain ⟨o, q, c, _⟩ := tu
      obtain ⟨o', q', c', _⟩ := g2
      rw [q'] at q; cases q
      rw [c'] at c
      exact absurd c (by decide +kernel)
    have Dr := PySem.Draws.tuple (prog := X.prog) (w := X.w) (A := X.A.in1) (I.ok.hd hc) it a ia its.toArray
    have hlt : i < its.toArray.size := by
      have := (List.getElem?_eq_some_iff.mp hu).1
      simpa using this
    refine wpAny_pyNext_enum_itemD Dr g1 ⟨g2, tu⟩ hlt ne (by simp [ne, ea]) (fun y h' tk hy ho st hT hsz hk => ?_)
    have yu : y = u := by
      have hy' : its[i]? = some y := by simpa using hy
      rw [hu] at hy'; exact (Option.some.inj hy').symm
    subst yu
    refine ⟨_, rfl, wpAny_letOwnedTupleGo_enum (s := { s with heap := h', toks := tk + 1 }) ho (fun h2 he sb => ?_)⟩
    have g5 : h2.get? s.heap.objs.size = some { cls := .type "tuple", data := .seq #[.int i tk, y] } := (sb.2 _ (Nat.ne_of_gt le)).trans hT
    have nw : ObjOk X.prog X.w (upd H s.heap.objs.size (.tup [.int (i : Nat), x])) h2 s.heap.objs.size (.tup [.int (i : Nat), x]) := ⟨by show 2 ≤ sizeLine; decide, [.int i tk, y], .cons ⟨_, rfl⟩ (.cons ru .nil), ⟨_, g5, rfl, _, rfl⟩⟩
    have I1 : L2.Inv X pins σ (upd H s.heap.objs.size (.tup [.int (i : Nat), x])) { s with heap := h2, toks := tk + 1 } := by
      refine I.turnedNew (ch := [e, it]) (fun b ob hb q => ?_) hf (Nat.le_refl _) nw
      have n1 : b ≠ e := fun z => hb (by simp [z])
      have n2 : b ≠ it := fun z => hb (by simp [z])
      exact (sb.2 b n1).trans (hk b ob n1 n2 q)
    refine ⟨.ref s.heap.objs.size, _, I1, rfl, ⟨_, x, rfl, I.hok.fresh (Nat.le_refl _), rfl, fun ys hy => by rw [I.tuple_inj hy hq]; exact hx⟩, ⟨⟨y, ?_⟩, st.1.at (fun o q => (sb.2 it (Ne.symm ne)).trans q), ne⟩, fun b hb => ?_⟩
    · rw [show ((i + 1 : Nat) : Int) = (i : Int) + 1 by omega]
      exact he
    · have lb : b < s.heap.objs.size := by
        rcases (show b = e ∨ b = it by simpa using hb) with z | z <;> rw [z] <;> assumption
      rw [upd_ne (Nat.ne_of_lt lb)]
      exact (hf b hb).1
  · intro X hP hw hK hc i pins s σ H E I hf ⟨⟨old, g1⟩, g2, ne⟩ ⟨xs, hq, hx⟩
    subst hP hw hK
    obtain ⟨its, rv, tu, hz⟩ := I.tuple hq
    obtain ⟨f0, f1, f2, f3, f4, f5⟩ := hf it (by simp)
    have ia : a ≠ it := by
      rintro rfl
      obtain ⟨o, q, c, _⟩ := tu
      obtain ⟨o', q', c', _⟩ := g2
      rw [q'] at q; cases q
      rw [c'] at c
      exact absurd c (by decide +kernel)
    have Dr := PySem.Draws.tuple (prog := X.prog) (w := X.w) (A := X.A.in1) (I.ok.hd hc) it a ia its.toArray
    have hn : i = its.toArray.size := by rw [List.size_toArray, ← rv.length]; exact hx.symm
    subst hn
    exact wpAny_pyNext_enum_endD Dr g1 ⟨g2, tu⟩ (fun h' eb => ⟨rfl, I.turned (t' := s.toks) (fun b o hb q => eb b o hb q) f0 f1 f3 f4 f5⟩)
  · rintro A i s Q E ⟨⟨_, g1⟩, _⟩ h
    exact wpAny_pyIter_enum g1 h

/-! ### what is walked, as Y walks it -/
/-- J yields what ws says, as long as w stands as it stood -/
def Walks (K : PySem.W.Frag) (T : Tab) (J : It) (φ : Pl) (H : Hp) (h : Hb) (w : W) (ws : List W) : Prop :=
  ∀ (T' : Tab), Hid T T' H → ∀ (i : Nat) φ' h' H', ExU K T' φ φ' H H' → Rel K T' φ' H' h' → stays h h' w = true →
    (∀ u, ws[i]? = some u → J.go i H' ∧ ∀ x H2, J.yld i H' x H2 → Ex K φ' φ' H' H2 ∧ Rel K T' φ' H2 h' ∧ RV K T' φ' H2 u x) ∧ (i = ws.length → J.stop i H')
def tW (K : PySem.W.Frag) (T : Tab) (Wx : WX) (f : Sb → Hb → R W) : TI := fun σ H R => ∃ φ σb h, RS K T φ H σb σ ∧ Rel K T φ H h ∧
  match f σb h with
  | .ok w h' => ∃ ws, itemsI h' w = some ws ∧ ∀ φ' H' J, Ex K φ φ' H H' → Rel K T φ' H' h' → Walks K T J φ' H' h' w ws → R J H'
  | .ex x h' => ∀ φ' H' cls d, Ex K φ φ' H H' → Rel K T φ' H' h' → RX K T φ' H' x cls d → Wx cls d σ H'
  | .no => False
theorem _root_.L2.PI.weak {X : L2.Cx} {tg iter : Expr} {t t' : TI} (h : PI X tg iter t) (hm : ∀ σ H Q, t' σ H Q → t σ H Q) : PI X tg iter t' :=
  ⟨fun pins s σ H Q I q => h.run pins s σ H Q I (hm _ _ _ q)⟩

section
variable {X : L2.Cx} {T : Tab} {Wx : WX} {C : Ctx} {σ : L2.St} {φ : Pl} {H : Hp} {h : Hb} {σb : Sb}
variable {a b c tg : Expr} {ea eb ec : E} {pos : Pos} {es : List Expr}
abbrev DI (X : L2.Cx) (T : Tab) (Wx : WX) (C : Ctx) (tg iter : Expr) (e' : E) : Prop := PI X tg iter (tW X.K T Wx (evalE C e'))
/-- a list or a tuple -/
def iSeq (K : PySem.W.Frag) (tl : TE) : TI := fun σ H R => tl σ H fun x H1 => ∃ a, x = .ref a ∧ (((∃ xs, SqL K H1 a xs) ∧ R (Itl K a) H1) ∨ ((∃ xs, SqT K H1 a xs) ∧ R (Itt K a) H1) ∨ ∃ es ep kv, Vals kv (es.toList.map (·.key)) ∧ DAt K H1 a es ep ∧ (a == sysModules) = false ∧ R (ItD K a es ep kv) H1)
theorem pi_seq {l : Expr} {tl : TE} (hl : PE X l tl) : PI X tg l (iSeq X.K tl) := by
  refine ⟨fun pins s σ H R I q => ?_⟩
  refine thn (hl.run pins s σ H _ I q) fun v s1 ⟨x, H1, I1, r1, a, e, q1⟩ => ?_
  subst e
  rcases q1 with ⟨⟨xs, hq⟩, k⟩ | ⟨⟨xs, hq⟩, k⟩ | ⟨es, ep, kv, hv, da, lo, k⟩
  rotate_left 2
  · cases r1
    refine wpAny_pyIter_dict_raw lo (da.raw I1) ?_
    refine ⟨s1.heap.objs.size, [s1.heap.objs.size], _, _, H1, rfl, I1.kept (t' := s1.toks) (fun b o e => Heap.get?_push_of_some _ e), turn_dict a _ hv, ⟨_, Heap.get?_push_size _ rfl, rfl, rfl⟩, (fun b hb => ?_), k⟩
    obtain rfl : b = s1.heap.objs.size := by simpa using hb
    exact I1.fpOk (Nat.le_refl _) (I1.hok.fresh (Nat.le_refl _))
  · cases r1
    obtain ⟨its, rv, p, hz⟩ := I1.list hq
    refine wpAny_pyIter_list p.isList ?_
    refine ⟨s1.heap.objs.size, [s1.heap.objs.size], _, _, H1, rfl, I1.kept (t' := s1.toks) (fun b o e => Heap.get?_push_of_some _ e), turn_list a _, ⟨_, Heap.get?_push_size _ rfl, rfl, rfl⟩, (fun b hb => ?_), k⟩
    obtain rfl : b = s1.heap.objs.size := by simpa using hb
    exact I1.fpOk (Nat.le_refl _) (I1.hok.fresh (Nat.le_refl _))
  · cases r1
    obtain ⟨its, rv, p, hz⟩ := I1.tuple hq
    refine wpAny_pyIter_tuple (show s1.heap.IsTuple a its.toArray from p) ?_
    refine ⟨s1.heap.objs.size, [s1.heap.objs.size], _, _, H1, rfl, I1.kept (t' := s1.toks) (fun b o e => Heap.get?_push_of_some _ e), turn_tuple a _, ⟨_, Heap.get?_push_size _ rfl, rfl, rfl⟩, (fun b hb => ?_), k⟩
    obtain rfl : b = s1.heap.objs.size := by simpa using hb
    exact I1.fpOk (Nat.le_refl _) (I1.hok.fresh (Nat.le_refl _))
/-- the items of a list or tuple, walked -/
theorem walks_list {w : W} {ws : List W} {a : Addr} {vs : List V} (rl : Rel X.K T φ H h) (rv : RV X.K T φ H w (.ref a)) (hi : items h w = some ws) (hl : itemsL h w = some ws) : Walks X.K T (Itl X.K a) φ H h w ws := by
  intro T' g i φ' h' H' x rl' st
  replace rv := RV.hide g _ _ rv
  -- as it stands later
  have hl' : itemsL h' w = some ws := by
    cases w with
    | ref n =>
      simp only [stays] at st
      simp only [itemsL] at hl ⊢
      split at st
      · rename_i o o' q q'
        rw [q] at hl
        rw [q']
        cases o with
        | lst xs =>
          cases o' with
          | lst ys =>
            have e := W.eqbs_eq _ _ st
            subst e
            exact hl
          | ins c ns xs => cases st
          | dct ks vs => cases st
          | dead => cases st
        | ins c ns xs => cases hl
        | dct ks vs => cases hl
        | dead => cases hl
      · cases st
    | lit xs => exact hl
    | rol xs => exact hl
    | non => cases hl
    | bl _ => cases hl
    | int _ => cases hl
    | str _ => cases hl
    | tup _ => cases hl
    | obj _ _ _ => cases hl
    | dic _ _ => cases hl
    | cls _ => cases hl
  obtain ⟨a', vs, e, hq, k⟩ := itemsL_ok rl' (RV.monoU x _ _ rv) hl'
  cases e
  refine ⟨fun u hu => ?_, fun e => ⟨vs, hq, by rw [← k.length]; omega⟩⟩
  obtain ⟨v, hv, r⟩ := k.get hu
  refine ⟨⟨vs, v, hq, hv⟩, ?_⟩
  rintro y H2 ⟨rfl, hy⟩
  have e := hy vs hq
  rw [hv] at e; cases e
  exact ⟨.refl, rl', r⟩
theorem walks_tup {xs : List W} {a : Addr} (rv : RV X.K T φ H (.tup xs) (.ref a)) : Walks X.K T (Itt X.K a) φ H h (.tup xs) xs := by
  intro T' g i φ' h' H' x rl' st
  obtain ⟨a', vs, e, h1, k⟩ := (RV.monoU x _ _ (RV.hide g _ _ rv)).tup_inv
  cases e
  refine ⟨fun u hu => ?_, fun e => ⟨vs, tup_seq h1, by rw [← k.length]; omega⟩⟩
  obtain ⟨v, hv, r⟩ := k.get hu
  refine ⟨⟨vs, v, tup_seq h1, hv⟩, ?_⟩
  rintro y H2 ⟨rfl, hy⟩
  have e := hy vs (tup_seq h1)
  rw [hv] at e; cases e
  exact ⟨.refl, rl', r⟩
theorem walks_dic {ks ws : List W} {a : Addr} {es : Array DictEntry} {ep : Nat} {kv : List V} (rv : RV X.K T φ H (.dic ks ws) (.ref a)) (da : (Fr T φ a ∧ H a = some (.ext (IsD a es ep))) ∨ ∃ o, X.K.lookup a = some o ∧ DObj es ep o) (rk : RVs X.K T φ H ks kv) :
    Walks X.K T (ItD X.K a es ep kv) φ H h (.dic ks ws) ks := by
  intro T' g i φ' h' H' x rl' st
  have d' : DAt X.K H' a es ep := by
    rcases da with ⟨n, e⟩ | k
    · exact .inl (x.keep a _ e n.1 (g.fr n e).2)
    · exact .inr k
  have k := RVs.monoU x _ _ (RVs.hide g _ _ rk)
  refine ⟨fun u hu => ?_, fun e => ⟨d', by rw [← rk.length]; omega⟩⟩
  obtain ⟨v, hv, r⟩ := k.get hu
  have hi : i < kv.length := by
    have := (List.getElem?_eq_some_iff.mp hv).1
    exact this
  refine ⟨⟨d', hi⟩, ?_⟩
  rintro y H2 ⟨rfl, hy⟩
  rw [hv] at hy; cases hy
  exact ⟨.refl, rl', r⟩
theorem di_seq (ha : D X T Wx C a ea) : DI X T Wx C tg a ea := by
  refine (pi_seq ha).weak fun σ H R ⟨φ, σb, h, s, rl, p⟩ => ⟨φ, σb, h, s, rl, ?_⟩
  cases q : evalE C ea σb h with
  | no => rw [q] at p; exact p
  | ex e h' => rw [q] at p; exact p
  | ok w h' =>
    rw [q] at p
    obtain ⟨ws, hi, f⟩ := p
    intro φ' v H' x rl' rv
    cases w with
    | tup xs =>
      cases hi
      obtain ⟨a, vs, rfl, h1, k⟩ := rv.tup_inv
      exact ⟨a, rfl, .inr (.inl ⟨⟨vs, tup_seq h1⟩, f φ' H' _ x rl' (walks_tup rv)⟩)⟩
    | lit xs =>
      obtain ⟨a, vs, rfl, n, h1, k⟩ := rv.lit_inv
      exact ⟨a, rfl, .inl ⟨⟨vs, SqL.of h1⟩, f φ' H' _ x rl' (walks_list (vs := vs) rl' rv hi hi)⟩⟩
    | rol xs =>
      obtain ⟨a, vs, rfl, h1, k⟩ := rv.rol_inv
      exact ⟨a, rfl, .inl ⟨⟨vs, lst_seq h1⟩, f φ' H' _ x rl' (walks_list (vs := vs) rl' rv hi hi)⟩⟩
    | ref n =>
      obtain ⟨a, rfl, ha⟩ := rv.ref_inv
      have hi' := hi
      simp only [itemsI, items] at hi'
      split at hi'
      · rename_i xs q2
        obtain ⟨vs, h1, k⟩ := rl'.lst q2 ha
        exact ⟨a, rfl, .inl ⟨⟨vs, SqL.of h1⟩, f φ' H' _ x rl' (walks_list (vs := vs) rl' rv hi hi)⟩⟩
      · cases hi'
    | non => cases hi
    | bl _ => cases hi
    | int _ => cases hi
    | str _ => cases hi
    | obj _ _ _ => cases hi
    | dic ks ws =>
      cases hi
      have rv0 := rv
      simp only [RV] at rv
      obtain ⟨a, es, kv, vv, rfl, c, _, _, hv, _, rk, _⟩ := rv
      rcases c with ⟨n, ⟨ep, e⟩, lo⟩ | ⟨⟨ep, o, e⟩, lo⟩
      · exact ⟨a, rfl, .inr (.inr ⟨es, ep, kv, hv, .inl e, lo, f φ' H' _ x rl' (walks_dic rv0 (.inl ⟨n, e⟩) rk)⟩)⟩
      · exact ⟨a, rfl, .inr (.inr ⟨es, ep, kv, hv, .inr ⟨o, e⟩, lo, f φ' H' _ x rl' (walks_dic rv0 (.inr ⟨o, e⟩) rk)⟩)⟩
    | cls _ => cases hi

/-! ### ranges -/
theorem walks_rng (lo : Int) (n : Nat) : Walks X.K T (Itr lo n) φ H h (.tup ((List.range n).map fun (k : Nat) => W.int (lo + (k : Int)))) ((List.range n).map fun (k : Nat) => W.int (lo + (k : Int))) := by
  intro T' g i φ' h' H' x rl' st
  refine ⟨fun u hu => ?_, fun e => ?_⟩
  · obtain ⟨hl, e⟩ := List.getElem?_eq_some_iff.mp hu
    have hi : i < n := by simpa using hl
    refine ⟨hi, ?_⟩
    rintro y H2 ⟨rfl, rfl⟩
    refine ⟨.refl, rl', ?_⟩
    rw [← e, List.getElem_map, List.getElem_range]
    exact .mk_int _
  · have : i = n := by simpa using e
    exact Nat.le_of_eq this.symm
/-- one part of an iterable, then the rest -/
theorem tW_of {f : Sb → Hb → R W} {g : W → Hb → R W} {Rn : It → Hp → Prop} (s : RS X.K T φ H σb σ) (rl : Rel X.K T φ H h) (p : match (f σb h).bind g with
    | .ok w h' => ∃ ws, itemsI h' w = some ws ∧ ∀ φ' H' J, Ex X.K φ φ' H H' → Rel X.K T φ' H' h' → Walks X.K T J φ' H' h' w ws → Rn J H'
    | .ex x h' => ∀ φ' H' cls d, Ex X.K φ φ' H H' → Rel X.K T φ' H' h' → RX X.K T φ' H' x cls d → Wx cls d σ H'
    | .no => False) :
    tI X.K T Wx f σ H (fun v H1 => ∃ φ1 w h1, Ex X.K φ φ1 H H1 ∧ RS X.K T φ1 H1 σb σ ∧ Rel X.K T φ1 H1 h1 ∧ RV X.K T φ1 H1 w v ∧ (match g w h1 with
      | .ok w h' => ∃ ws, itemsI h' w = some ws ∧ ∀ φ' H' J, Ex X.K φ1 φ' H1 H' → Rel X.K T φ' H' h' → Walks X.K T J φ' H' h' w ws → Rn J H'
      | .ex x h' => ∀ φ' H' cls d, Ex X.K φ1 φ' H1 H' → Rel X.K T φ' H' h' → RX X.K T φ' H' x cls d → Wx cls d σ H'
      | .no => False)) := by
  refine ⟨φ, σb, h, s, rl, ?_⟩
  cases q : f σb h with
  | no => rw [q] at p; exact p
  | ex e h' => rw [q] at p; exact p
  | ok w h' =>
    rw [q] at p
    simp only [R.bind] at p
    intro φ' v H' x rl' rv
    refine ⟨φ', w, h', x, s.mono x, rl', rv, ?_⟩
    cases q2 : g w h' with
    | no => rw [q2] at p; exact p
    | ex e h2 => rw [q2] at p; exact fun φ2 H2 cls d y => p φ2 H2 cls d (x.trans y)
    | ok u h2 =>
      rw [q2] at p
      obtain ⟨ws, hi, f⟩ := p
      exact ⟨ws, hi, fun φ2 H2 J y => f φ2 H2 J (x.trans y)⟩
/-- one argument, two -/
def tA1 (t : TE) : TA := fun σ H Q => t σ H fun v H1 => Q [v] H1
def tA2 (t u : TE) : TA := fun σ H Q => t σ H fun v H1 => u σ H1 fun w H2 => Q [v, w] H2
theorem pa_one {t : TE} (ha : PE X a t) (hn : notStar a = true) : PA X [a] (tA1 t) := pa_cons ha pa_nil (starEach_of hn)
theorem pa_two {t u : TE} (ha : PE X a t) (hb : PE X b u) (hn : notStar a = true) (hn2 : notStar b = true) : PA X [a, b] (tA2 t u) := pa_cons ha (pa_cons hb pa_nil (starEach_of hn2)) (starEach_of hn)
theorem di_rng1 {p : Pos} (hg : Gl X "range") (hm : X.mg "range" = none) (hn : notStar a = true) (ha : D X T Wx C a ea) : DI X T Wx C tg (.Call (.Name "range" p) [a] [] pos) (.rng ea) := by
  refine (pi_range1 hg hm (pa_one ha hn) (starEach_of hn)).weak fun σ H R ⟨φ, σb, h, s, rl, p⟩ => ?_
  simp only [evalE] at p
  refine tR_mono (tW_of s rl p) ?_
  rintro v H1 ⟨φ1, w1, h1, x1, s1, rl1, r1, p1⟩
  split at p1
  · rename_i w h' q
    split at q
    · rename_i j
      split at q
      · rename_i c
        cases q
        have e := r1.int_inv; subst e
        simp only [Bool.and_eq_true, decide_eq_true_eq] at c
        obtain ⟨us, hi, f⟩ := p1
        cases hi
        exact ⟨j, rfl, by omega, by omega, f φ1 H1 _ .refl rl1 (walks_rng 0 j.toNat)⟩
      · cases q
    · cases q
  · rename_i x h' q
    split at q <;> (try split at q) <;> cases q
  · exact p1.elim
theorem di_rng2 {p : Pos} (hg : Gl X "range") (hm : X.mg "range" = none) (hn : notStar a = true) (hn2 : notStar b = true) (ha : D X T Wx C a ea) (hb : D X T Wx C b eb) : DI X T Wx C tg (.Call (.Name "range" p) [a, b] [] pos) (.rng2 ea eb) := by
  refine (pi_range2 hg hm (pa_two ha hb hn hn2) (by rw [starEach_of hn, starEach_of hn2]; rfl) (starEach_of hn2)).weak fun σ H R ⟨φ, σb, h, s, rl, p⟩ => ?_
  simp only [evalE] at p
  refine tR_mono (tW_of s rl p) ?_
  rintro v H1 ⟨φ1, w1, h1, x1, s1, rl1, r1, p1⟩
  refine tR_mono (tW_of s1 rl1 p1) ?_
  rintro v2 H2 ⟨φ2, w2, h2, x2, s2, rl2, r2, p2⟩
  split at p2
  · rename_i w h' q
    split at q
    · rename_i i j
      split at q
      · rename_i c
        cases q
        have e := r1.int_inv; subst e
        have e := r2.int_inv; subst e
        simp only [Bool.and_eq_true, decide_eq_true_eq] at c
        obtain ⟨us, hi, f⟩ := p2
        cases hi
        exact ⟨i, j, rfl, by omega, f φ2 H2 _ .refl rl2 (walks_rng i _)⟩
      · cases q
    · cases q
  · rename_i x h' q
    split at q <;> (try split at q) <;> cases q
  · exact p2.elim

/-! ### enumerate -/
def iEnumA (K : PySem.W.Frag) (ta : TA) : TI := fun σ H R => ta σ H fun vs H1 => ∃ a xs, vs = [.ref a] ∧ ((SqL K H1 a xs ∧ R (Ite K a) H1) ∨ (SqT K H1 a xs ∧ R (ItE K a) H1))
theorem pi_enumA {p tpos : Pos} {elts : List Expr} {kk : Nat} {ta : TA} (hg : Gl X "enumerate") (hm : X.mg "enumerate" = none) (ha : PA X [a] ta) (hs : starEach [a] X.env = [(false, eval a X.env)]) :
    PI X (.Tuple elts kk tpos) (.Call (.Name "enumerate" p) [a] [] pos) (iEnumA X.K ta) := by
  refine ⟨fun pins s σ H R I q => ?_⟩
  refine Call_ (ld_blt I hg hm boot_enumerate (PyProof.Rows.callWith_type1 (thn (ha.run pos pins s σ H _ I q) fun us s1 ⟨vs, H1, I1, rv, l, xs, e, q1⟩ => ?_) hs rfl))
  subst e
  obtain ⟨u, rfl, ru⟩ := vals1 rv
  cases ru
  have two : ∀ b, b ∈ [s1.heap.objs.size + 1, s1.heap.objs.size] → FpOk X pins H1 b := fun b hb => by
    have hle : s1.heap.objs.size ≤ b := by
      rcases (show b = s1.heap.objs.size + 1 ∨ b = s1.heap.objs.size by simpa using hb) with z | z <;> omega
    exact I1.fpOk hle (I1.hok.fresh hle)
  rcases q1 with ⟨hq, k⟩ | ⟨hq, k⟩
  · obtain ⟨its, _, p', _⟩ := I1.list hq
    refine call_enumerate_list p'.isList (fun h' he hi _ kp => wpAny_pyIter_enum he ?_)
    exact ⟨s1.heap.objs.size + 1, _, _, _, H1, rfl, I1.kept (t' := s1.toks) kp, turn_enum l (s1.heap.objs.size + 1) s1.heap.objs.size, ⟨⟨.none, he⟩, hi, Nat.succ_ne_self _⟩, two, k⟩
  · obtain ⟨its, _, p', _⟩ := I1.tuple hq
    refine call_enumT p' (fun h' he hi kp => wpAny_pyIter_enum he ?_)
    exact ⟨s1.heap.objs.size + 1, _, _, _, H1, rfl, I1.kept (t' := s1.toks) kp, turn_enumT l (s1.heap.objs.size + 1) s1.heap.objs.size, ⟨⟨.none, he⟩, hi, Nat.succ_ne_self _⟩, two, k⟩
theorem zipIdx_at {xs : List W} {i : Nat} {u : W} (e : (xs.zipIdx.map fun p => W.tup [.int p.2, p.1])[i]? = some u) : ∃ x, xs[i]? = some x ∧ u = .tup [.int (i : Nat), x] := by
  rw [List.getElem?_map, List.getElem?_zipIdx] at e
  cases q : xs[i]? with
  | none => rw [q] at e; cases e
  | some x => rw [q] at e; simp at e; exact ⟨x, rfl, e.symm⟩
/-- a pair just made -/
theorem pair_ok {q : Addr} {x y : W} {v u : V} (rl : Rel X.K T φ H h) (hq : H q = none) (r1 : RV X.K T φ H x v) (r2 : RV X.K T φ H y u) :
    Ex X.K φ φ H (upd H q (.tup [v, u])) ∧ Rel X.K T φ (upd H q (.tup [v, u])) h ∧ RV X.K T φ (upd H q (.tup [v, u])) (.tup [x, y]) (.ref q) := by
  have e := Ex.side (o := .tup [v, u]) rl hq
  exact ⟨e, rl.side hq, .mk_tup (rl.fr hq) (.inl upd_same) (.cons (RV.mono e _ _ r1) (.cons (RV.mono e _ _ r2) .nil))⟩
theorem di_enum {p tpos : Pos} {elts : List Expr} {kk : Nat} (hg : Gl X "enumerate") (hm : X.mg "enumerate" = none) (hn : notStar a = true) (ha : D X T Wx C a ea) : DI X T Wx C (.Tuple elts kk tpos) (.Call (.Name "enumerate" p) [a] [] pos) (.enum ea) := by
  refine (pi_enumA hg hm (pa_one ha hn) (starEach_of hn)).weak fun σ H R ⟨φ, σb, h, s, rl, p⟩ => ?_
  simp only [evalE] at p
  refine tR_mono (tW_of s rl p) ?_
  rintro v H1 ⟨φ1, w1, h1, x1, s1, rl1, r1, p1⟩
  -- a list that nobody changes
  have lst : ∀ {l : Addr} {xs : List W}, (∀ T' φ' H', Hid T T' H1 → ExU X.K T' φ1 φ' H1 H' → ∃ vs, SqL X.K H' l vs ∧ RVs X.K T' φ' H' xs vs) → Walks X.K T (Ite X.K l) φ1 H1 h1 (.tup (xs.zipIdx.map fun p => .tup [.int p.2, p.1])) (xs.zipIdx.map fun p => .tup [.int p.2, p.1]) := by
    intro l xs hl T' g i φ' h' H' x rl' _
    obtain ⟨vs, hq, k⟩ := hl T' φ' H' g x
    refine ⟨fun u hu => ?_, fun e => ⟨vs, hq, by rw [← k.length]; simp at e; omega⟩⟩
    obtain ⟨z, hz, rfl⟩ := zipIdx_at hu
    obtain ⟨y, hy, ry⟩ := k.get hz
    refine ⟨⟨vs, y, hq, hy⟩, ?_⟩
    rintro t H2 ⟨q, y2, rfl, nq, rfl, hy2⟩
    have e := hy2 vs hq
    rw [hy] at e; cases e
    exact pair_ok rl' nq (.mk_int _) ry
  have tup : ∀ {l : Addr} {xs : List W}, (∀ T' φ' H', Hid T T' H1 → ExU X.K T' φ1 φ' H1 H' → ∃ vs, SqT X.K H' l vs ∧ RVs X.K T' φ' H' xs vs) → Walks X.K T (ItE X.K l) φ1 H1 h1 (.tup (xs.zipIdx.map fun p => .tup [.int p.2, p.1])) (xs.zipIdx.map fun p => .tup [.int p.2, p.1]) := by
    intro l xs hl T' g i φ' h' H' x rl' _
    obtain ⟨vs, hq, k⟩ := hl T' φ' H' g x
    refine ⟨fun u hu => ?_, fun e => ⟨vs, hq, by rw [← k.length]; simp at e; omega⟩⟩
    obtain ⟨z, hz, rfl⟩ := zipIdx_at hu
    obtain ⟨y, hy, ry⟩ := k.get hz
    refine ⟨⟨vs, y, hq, hy⟩, ?_⟩
    rintro t H2 ⟨q, y2, rfl, nq, rfl, hy2⟩
    have e := hy2 vs hq
    rw [hy] at e; cases e
    exact pair_ok rl' nq (.mk_int _) ry
  split at p1
  · rename_i w h' q
    split at q
    · cases q
      obtain ⟨us, hi, f⟩ := p1
      cases hi
      obtain ⟨l, vs, rfl, hq, k⟩ := r1.tup_inv
      refine ⟨l, vs, rfl, .inr ⟨tup_seq hq, f φ1 H1 _ .refl rl1 (tup fun T' φ' H' g x => ?_)⟩⟩
      obtain ⟨l', vs', e, hq', k'⟩ := (RV.monoU x _ _ (RV.hide g _ _ r1)).tup_inv
      cases e
      exact ⟨vs', tup_seq hq', k'⟩
    · cases q
      obtain ⟨us, hi, f⟩ := p1
      cases hi
      obtain ⟨l, vs, rfl, n, hq, k⟩ := r1.lit_inv
      refine ⟨l, vs, rfl, .inl ⟨SqL.of hq, f φ1 H1 _ .refl rl1 (lst fun T' φ' H' g x => ?_)⟩⟩
      obtain ⟨l', vs', e, n', hq', k'⟩ := (RV.monoU x _ _ (RV.hide g _ _ r1)).lit_inv
      cases e
      exact ⟨vs', SqL.of hq', k'⟩
    · cases q
      obtain ⟨us, hi, f⟩ := p1
      cases hi
      obtain ⟨l, vs, rfl, hq, k⟩ := r1.rol_inv
      refine ⟨l, vs, rfl, .inl ⟨lst_seq hq, f φ1 H1 _ .refl rl1 (lst fun T' φ' H' g x => ?_)⟩⟩
      obtain ⟨l', vs', e, hq', k'⟩ := (RV.monoU x _ _ (RV.hide g _ _ r1)).rol_inv
      cases e
      exact ⟨vs', lst_seq hq', k'⟩
    · cases q
  · rename_i x h' q
    split at q <;> cases q
  · exact p1.elim

/-! ### zip -/
theorem zip_at {xs ys : List W} {i : Nat} {u : W} (e : ((xs.zip ys).map fun p => W.tup [p.1, p.2])[i]? = some u) : ∃ x y, xs[i]? = some x ∧ ys[i]? = some y ∧ u = .tup [x, y] := by
  rw [List.getElem?_map] at e
  cases q : (xs.zip ys)[i]? with
  | none => rw [q] at e; cases e
  | some p =>
    rw [q] at e
    simp at e
    rw [List.getElem?_zip_eq_some] at q
    exact ⟨p.1, p.2, q.1, q.2, e.symm⟩
theorem di_zip {p tpos : Pos} {elts : List Expr} {kk : Nat} (hg : Gl X "zip") (hm : X.mg "zip" = none) (hn : notStar a = true) (hn2 : notStar b = true) (ha : D X T Wx C a ea) (hb : D X T Wx C b eb) :
    DI X T Wx C (.Tuple elts kk tpos) (.Call (.Name "zip" p) [a, b] [] pos) (.zip ea eb) := by
  refine (RZ.pi_zipA hg hm (pa_two ha hb hn hn2) (starEach_of hn) (noStars_any (by simp [noStars, hn2]))).weak fun σ H R ⟨φ, σb, h, s, rl, p⟩ => ?_
  simp only [evalE] at p
  refine tR_mono (tW_of s rl p) ?_
  rintro v H1 ⟨φ1, w1, h1, x1, s1, rl1, r1, p1⟩
  refine tR_mono (tW_of s1 rl1 p1) ?_
  rintro v2 H2 ⟨φ2, w2, h2, x2, s2, rl2, r2, p2⟩
  replace r1 := RV.mono x2 _ _ r1
  split at p2
  · rename_i w h' q
    split at q
    · rename_i xs ys
      cases q
      obtain ⟨us, hi, f⟩ := p2
      cases hi
      obtain ⟨l, vs, rfl, hq, k⟩ := r1.tup_inv
      obtain ⟨l2, vs2, rfl, hq2, k2⟩ := r2.tup_inv
      refine ⟨l, l2, vs, vs2, rfl, .inr ⟨tup_seq hq, tup_seq hq2, f φ2 H2 _ .refl rl2 ?_⟩⟩
      intro T' g i φ' h' H' x rl' _
      obtain ⟨_, us, e, hq, k⟩ := (RV.monoU x _ _ (RV.hide g _ _ r1)).tup_inv
      cases e
      obtain ⟨_, us2, e, hq2, k2⟩ := (RV.monoU x _ _ (RV.hide g _ _ r2)).tup_inv
      cases e
      refine ⟨fun u hu => ?_, fun e => ⟨us, us2, tup_seq hq, tup_seq hq2, by rw [← k.length, ← k2.length]; simp at e; omega⟩⟩
      obtain ⟨z, z2, hz, hz2, rfl⟩ := zip_at hu
      obtain ⟨y, hy, ry⟩ := k.get hz
      obtain ⟨y2, hy2, ry2⟩ := k2.get hz2
      refine ⟨⟨us, us2, y, y2, tup_seq hq, tup_seq hq2, hy, hy2⟩, ?_⟩
      rintro t H2 ⟨q, c, c2, rfl, nq, rfl, e1, e2⟩
      have e := e1 us (tup_seq hq)
      rw [hy] at e; cases e
      have e := e2 us2 (tup_seq hq2)
      rw [hy2] at e; cases e
      exact pair_ok rl' nq ry ry2
    · rename_i xs ys
      cases q
      obtain ⟨us, hi, f⟩ := p2
      cases hi
      obtain ⟨l, vs, rfl, n, hq, k⟩ := r1.lit_inv
      obtain ⟨l2, vs2, rfl, n2, hq2, k2⟩ := r2.lit_inv
      refine ⟨l, l2, vs, vs2, rfl, .inl ⟨SqL.of hq, SqL.of hq2, f φ2 H2 _ .refl rl2 ?_⟩⟩
      intro T' g i φ' h' H' x rl' _
      obtain ⟨_, us, e, _, hq, k⟩ := (RV.monoU x _ _ (RV.hide g _ _ r1)).lit_inv
      cases e
      obtain ⟨_, us2, e, _, hq2, k2⟩ := (RV.monoU x _ _ (RV.hide g _ _ r2)).lit_inv
      cases e
      refine ⟨fun u hu => ?_, fun e => ⟨us, us2, SqL.of hq, SqL.of hq2, by rw [← k.length, ← k2.length]; simp at e; omega⟩⟩
      obtain ⟨z, z2, hz, hz2, rfl⟩ := zip_at hu
      obtain ⟨y, hy, ry⟩ := k.get hz
      obtain ⟨y2, hy2, ry2⟩ := k2.get hz2
      refine ⟨⟨us, us2, y, y2, SqL.of hq, SqL.of hq2, hy, hy2⟩, ?_⟩
      rintro t H2 ⟨q, c, c2, rfl, nq, rfl, e1, e2⟩
      have e := e1 us (SqL.of hq)
      rw [hy] at e; cases e
      have e := e2 us2 (SqL.of hq2)
      rw [hy2] at e; cases e
      exact pair_ok rl' nq ry ry2
    · cases q
  · rename_i x h' q
    split at q <;> cases q
  · exact p2.elim
end
end Y
/-! Y6b: list(zip(a, b)) of two tuples. -/
namespace Yz
open PySem
open PySem.Sem (wp)
section
variable {prog : Program} {w : World} {A : Around} {E : Value → Shared → Prop} {s : Shared}

/-- one more pair, the one before it being kept by somebody -/
theorem held_item {z TI TO Th p q la lb : Addr} {fl : Bool} {ob : Obj} {m n : Nat} {us vs : Array Value} {u v : Value} {Q : Value → Shared → Prop} (D : ZipApart z TI TO p q la lb) (hz : IsZipHeld s.heap z TI TO Th fl) (hT : s.heap.get? Th = some ob) (hTI : IsPair s.heap TI (.ref p) (.ref q))
    (hp : s.heap.IsTupleIter p la m) (hq : s.heap.IsTupleIter q lb n) (ha : s.heap.IsTuple la us) (hb : s.heap.IsTuple lb vs) (hu : us[m]? = some u) (hv : vs[n]? = some v)
    (post : ∀ g, IsZipHeld g z TI TO Th true → g.IsTupleIter p la (m + 1) → g.IsTupleIter q lb (n + 1) → IsPair g s.heap.objs.size u v → g.objs.size = s.heap.objs.size + 1 → (∀ c o, c ≠ z → c ≠ p → c ≠ q → s.heap.get? c = some o → g.get? c = some o) → Q (.ref s.heap.objs.size) { s with heap := g }) :
    wpAny (model prog w) A (Builtin.«zip.__next__» ⟨[.ref z], []⟩) (fun fin s' => ∃ r, fin = .done (.ret r) ∧ Q r s') E s := by
  show wpAny (model prog w) A (field (.ref z) 2 >>= _) _ E s
  refine wpAny_bind (wpAny_field hz rfl (x := Value.bool false) rfl ?_)
  show wpAny (model prog w) A (field (.ref z) 3 >>= _) _ E s
  refine wpAny_bind (wpAny_field hz rfl (x := Value.ref TI) rfl ?_)
  refine wpAny_bind (m := seqItems? (.ref TI)) (wpAny_seqItems hTI rfl ?_)
  show wpAny (model prog w) A (Builtin.SmallTypes.ownedTupleIsFree (.ref z) >>= _) _ E s
  refine wpAny_bind (wpAny_tupleHeld_zip hz hT fun g1 z1 k1 => ?_)
  simp only [Bool.false_eq_true, if_false]
  refine wpAny_bind ?_
  rw [← Array.forIn_toList]
  simp only [List.forIn_cons, List.forIn_nil]
  refine wpAny_bind (wpAny_bind (wpAny_holding ?_))
  show wpAny (model prog w) A (Builtin.SmallTypes.nextOf (.ref p) >>= _) _ E _
  refine wpAny_bind (RZ.nextOf_tuple_item (s := { s with heap := g1 }) (hp.extBut k1.extBut D.i1z) (ha.extBut k1.extBut D.l1z) hu fun g2 p2 k2 => wpAny_pure (wpAny_pure ?_))
  refine wpAny_bind (wpAny_bind (wpAny_holding ?_))
  show wpAny (model prog w) A (Builtin.SmallTypes.nextOf (.ref q) >>= _) _ E _
  refine wpAny_bind (RZ.nextOf_tuple_item (s := { s with heap := g2 }) ((hq.extBut k1.extBut D.i2z).extBut k2.extBut D.i12.symm) ((hb.extBut k1.extBut D.l2z).extBut k2.extBut D.l2i1) hv fun g3 q3 k3 => wpAny_pure (wpAny_pure (wpAny_pure ?_)))
  show wpAny (model prog w) A (newTuple [u, v] >>= _) _ E _
  refine wpAny_bind (wpAny_newTuple (wpAny_pure ⟨_, rfl, ?_⟩))
  have sz : g3.objs.size = s.heap.objs.size := by rw [k3.1, k2.1, k1.1]
  have z3 : IsZipHeld g3 z TI TO Th true := k3.extBut _ _ D.i2z.symm (k2.extBut _ _ D.i1z.symm z1)
  have p3 : g3.IsTupleIter p la (m + 1) := p2.extBut k3.extBut D.i12
  show Q (.ref g3.objs.size) _
  have hn : IsPair (g3.push { cls := .type "tuple", data := .seq #[u, v] }) g3.objs.size u v := Heap.get?_push_size _ rfl
  have s4 : (g3.push { cls := .type "tuple", data := .seq #[u, v] }).objs.size = g3.objs.size + 1 := Heap.size_push ..
  rw [sz] at hn s4 ⊢
  exact post _ (Heap.get?_push_of_some _ z3) (p3.at fun _ y => Heap.get?_push_of_some _ y) (q3.at fun _ y => Heap.get?_push_of_some _ y) hn s4 fun c o c1 c2 c3 y => Heap.get?_push_of_some _ (k3.extBut _ _ c3 (k2.extBut _ _ c2 (k1.extBut _ _ c1 y)))
theorem held_end {z TI TO Th p q la lb : Addr} {fl : Bool} {ob : Obj} {m n : Nat} {us vs : Array Value} {Q : Fin → Shared → Prop} (hh : A.handled = none) (D : ZipApart z TI TO p q la lb) (hz : IsZipHeld s.heap z TI TO Th fl) (hT : s.heap.get? Th = some ob) (hTI : IsPair s.heap TI (.ref p) (.ref q))
    (hp : s.heap.IsTupleIter p la m) (hq : s.heap.IsTupleIter q lb n) (ha : s.heap.IsTuple la us) (hb : s.heap.IsTuple lb vs) (no : us[m]? = none ∨ vs[n]? = none)
    (post : ∀ g e, (∀ c o, c ≠ z → c ≠ p → c ≠ q → s.heap.get? c = some o → g.get? c = some o) → (∃ o, g.get? e = some o ∧ o.cls = .type "StopIteration") → E (.ref e) { s with heap := g }) :
    wpAny (model prog w) A (Builtin.«zip.__next__» ⟨[.ref z], []⟩) Q E s := by
  show wpAny (model prog w) A (field (.ref z) 2 >>= _) _ E s
  refine wpAny_bind (wpAny_field hz rfl (x := Value.bool false) rfl ?_)
  show wpAny (model prog w) A (field (.ref z) 3 >>= _) _ E s
  refine wpAny_bind (wpAny_field hz rfl (x := Value.ref TI) rfl ?_)
  refine wpAny_bind (m := seqItems? (.ref TI)) (wpAny_seqItems hTI rfl ?_)
  show wpAny (model prog w) A (Builtin.SmallTypes.ownedTupleIsFree (.ref z) >>= _) _ E s
  refine wpAny_bind (wpAny_tupleHeld_zip hz hT fun g1 z1 k1 => ?_)
  simp only [Bool.false_eq_true, if_false]
  refine wpAny_bind ?_
  rw [← Array.forIn_toList]
  simp only [List.forIn_cons, List.forIn_nil]
  refine wpAny_bind (wpAny_bind (wpAny_holding ?_))
  show wpAny (model prog w) A (Builtin.SmallTypes.nextOf (.ref p) >>= _) _ E _
  cases hu : us[m]? with
  | none =>
    refine wpAny_bind (RZ.nextOf_tuple_end (s := { s with heap := g1 }) hh (hp.extBut k1.extBut D.i1z) (ha.extBut k1.extBut D.l1z) hu fun g2 e k2 he => ?_)
    exact post g2 e (fun c o c1 c2 _ y => k2 _ _ c2 (k1.extBut _ _ c1 y)) he
  | some u =>
    have hv : vs[n]? = none := by rcases no with y | y; rw [hu] at y; cases y; exact y
    refine wpAny_bind (RZ.nextOf_tuple_item (s := { s with heap := g1 }) (hp.extBut k1.extBut D.i1z) (ha.extBut k1.extBut D.l1z) hu fun g2 p2 k2 => wpAny_pure (wpAny_pure ?_))
    refine wpAny_bind (wpAny_bind (wpAny_holding ?_))
    show wpAny (model prog w) A (Builtin.SmallTypes.nextOf (.ref q) >>= _) _ E _
    refine wpAny_bind (RZ.nextOf_tuple_end (s := { s with heap := g2 }) hh ((hq.extBut k1.extBut D.i2z).extBut k2.extBut D.i12.symm) ((hb.extBut k1.extBut D.l2z).extBut k2.extBut D.l2i1) hv fun g3 e k3 he => ?_)
    exact post g3 e (fun c o c1 c2 c3 y => k3 _ _ c3 (k2.extBut _ _ c2 (k1.extBut _ _ c1 y))) he
theorem next_held {z TI TO Th p q la lb : Addr} {fl : Bool} {ob : Obj} {m n : Nat} {us vs : Array Value} {u v : Value} {Q : Option Value → Shared → Prop} (D : ZipApart z TI TO p q la lb) (hz : IsZipHeld s.heap z TI TO Th fl) (hT : s.heap.get? Th = some ob) (hTI : IsPair s.heap TI (.ref p) (.ref q))
    (hp : s.heap.IsTupleIter p la m) (hq : s.heap.IsTupleIter q lb n) (ha : s.heap.IsTuple la us) (hb : s.heap.IsTuple lb vs) (hu : us[m]? = some u) (hv : vs[n]? = some v)
    (post : ∀ g, IsZipHeld g z TI TO Th true → g.IsTupleIter p la (m + 1) → g.IsTupleIter q lb (n + 1) → IsPair g s.heap.objs.size u v → g.objs.size = s.heap.objs.size + 1 → (∀ c o, c ≠ z → c ≠ p → c ≠ q → s.heap.get? c = some o → g.get? c = some o) → Q (some (.ref s.heap.objs.size)) { s with heap := g }) :
    wpAny (model prog w) A (pyNext (.ref z)) Q E s := by
  have ty : s.TypeIs (.ref z) "zip" := ⟨_, hz, rfl⟩
  unfold pyNext
  refine wpAny_bind (wpAny_attempt (wpAny_callSpecial?_slot (name := Str.ofString "__next__") ty F.slot_zip_next (wpAny_call_entry F.slot_zip_next ty F.entry_zip_next ?_ (F.args_zip_next_1 _))))
  exact held_item D hz hT hTI hp hq ha hb hu hv fun g a1 a2 a3 a4 a5 a6 => wpAny_pure (post g a1 a2 a3 a4 a5 a6)
theorem next_held_end {z TI TO Th p q la lb : Addr} {fl : Bool} {ob : Obj} {m n : Nat} {us vs : Array Value} {Q : Option Value → Shared → Prop} (hh : A.handled = none) (D : ZipApart z TI TO p q la lb) (hz : IsZipHeld s.heap z TI TO Th fl) (hT : s.heap.get? Th = some ob) (hTI : IsPair s.heap TI (.ref p) (.ref q))
    (hp : s.heap.IsTupleIter p la m) (hq : s.heap.IsTupleIter q lb n) (ha : s.heap.IsTuple la us) (hb : s.heap.IsTuple lb vs) (no : us[m]? = none ∨ vs[n]? = none)
    (post : ∀ g, (∀ c o, c ≠ z → c ≠ p → c ≠ q → s.heap.get? c = some o → g.get? c = some o) → Q none { s with heap := g }) : wpAny (model prog w) A (pyNext (.ref z)) Q E s := by
  have ty : s.TypeIs (.ref z) "zip" := ⟨_, hz, rfl⟩
  unfold pyNext
  refine wpAny_bind (wpAny_attempt (wpAny_callSpecial?_slot (name := Str.ofString "__next__") ty F.slot_zip_next (wpAny_call_entry F.slot_zip_next ty F.entry_zip_next ?_ (F.args_zip_next_1 _))))
  refine held_end hh D hz hT hTI hp hq ha hb no fun g e k he => ?_
  obtain ⟨o, ho, hc⟩ := he
  exact wpAny_bind (wpAny_isInstance (T := "StopIteration") (b := true) ⟨o, ho, hc⟩ isSubtype_stop (wpAny_pure (post _ k)))

/-! ### the list grows -/
abbrev lstO (acc : Array Value) (c : Nat) : Obj := { cls := .type "list", dict := none, data := .seq acc c, slots := #[] }
theorem ext_turns {R : Result → Shared → Prop} {S it : Addr} {res : Value} (I : Nat → Shared → Prop)
    (turn : ∀ n s, I n s → wpAny (model prog w) A.in1 (pyNext (.ref it)) (fun r s1 => match r with
      | none => R (.ok (.ret res)) s1
      | some v => ∃ acc c, s1.heap.get? S = some (lstO acc c) ∧ acc.size < sizeLine ∧ ∃ m, m < n ∧ I m { s1 with heap := s1.heap.update S (Obj.mapSeq (·.push v)) }) (fun e s' => R (.error e) s') s) :
    ∀ (n : Nat) (s : Shared), I n s → codeAny (model prog w) A (.builtin "list.extend.loop" ⟨[.ref S, .ref it, res], []⟩) R s := by
  intro n
  induction n using Nat.strongRecOn with
  | _ n ih =>
    intro s hI
    refine codeAny_builtin F.entry_extend_loop ?_
    rw [Around.under_plainId F.plain_extend_loop _]
    show wpAny (model prog w) A.in1 (pyNext (.ref it) >>= _) _ _ s
    refine wpAny_bind (wpAny_mono (turn n s hI) (fun r s1 h => ?_) fun _ _ h => h)
    cases r with
    | none => exact wpAny_pure h
    | some v =>
      obtain ⟨acc, c, e, l, m, lt, hm⟩ := h
      show wpAny (model prog w) A.in1 (updateSeq S (·.push v) >>= _) _ _ _
      refine wpAny_bind (wpAny_updateSeq e rfl (wpAny_pure ⟨plainId_quiet F.plain_extend_loop _, ih m lt _ hm⟩) (by omega) (by show (acc.push v).size ≤ sizeLine + 1; rw [Array.size_push]; omega))

theorem zip_no_len : typeLookup (.type "zip") "__len__" = pure none := by rw [typeLookup_type, builtinLookup_eq_fast]; kernel_rfl
theorem zip_no_hint : typeLookup (.type "zip") "__length_hint__" = pure none := by rw [typeLookup_type, builtinLookup_eq_fast]; kernel_rfl

/-- list(z): an empty list, then the turns -/
theorem call_list_zip {z TI TO : Addr} {f : Value} {Q : Value → Shared → Prop} (hz : IsZip s.heap z TI TO f)
    (h : ∀ g c, (∀ b o, s.heap.get? b = some o → g.get? b = some o) → g.get? s.heap.objs.size = some (lstO #[] c) → g.objs.size = s.heap.objs.size + 1 →
      codeAny (model prog w) A.in1 (.builtin "list.extend.loop" ⟨[.ref s.heap.objs.size, .ref z, .none], []⟩) (wants (fun r s₂ => r = .none ∧ Q (.ref s.heap.objs.size) s₂) E) { s with heap := g }) :
    wpAny (model prog w) A (call (.type "list") [.ref z]) Q E s := by
  have lt : z < s.heap.objs.size := Heap.lt_size hz
  have ne : s.heap.objs.size ≠ z := Nat.ne_of_gt lt
  refine callType_codes (Q₁ := fun obj s₁ => obj = .ref s.heap.objs.size ∧ s₁ = { s with heap := s.heap.push { cls := .type "list", data := .seq #[] } }) F.called_list (F.typeCall_list_1 _) F.entry_list_init (code_list_new _ ⟨rfl, rfl⟩) fun obj s₁ h₁ => ?_
  obtain ⟨rfl, rfl⟩ := h₁
  have e0 : (s.heap.push { cls := .type "list", data := .seq #[] }).get? s.heap.objs.size = some { cls := .type "list", data := .seq #[] } := Heap.get?_push_size _ rfl
  refine ⟨⟨_, e0, rfl⟩, F.args_list_init_2 _ _, ?_⟩
  show wpAny (model prog w) A.in1.in1 (do let old ← Builtin.List.listItems (.ref s.heap.objs.size); Builtin.List.listUpdate (.ref s.heap.objs.size) (fun _ => #[]); letGo old.toList.reverse; Builtin.List.listExtendWith (.ref s.heap.objs.size) (.ref z) .none) _ _ _
  refine wpAny_bind ?_
  unfold Builtin.List.listItems
  refine wpAny_bind (wpAny_seqItems e0 rfl (wpAny_pure ?_))
  show wpAny (model prog w) A.in1.in1 (updateSeq s.heap.objs.size (fun _ => #[]) >>= fun _ => letGo (#[] : Array Value).toList.reverse >>= fun _ => Builtin.List.listExtendWith (.ref s.heap.objs.size) (.ref z) .none) _ _ _
  refine wpAny_bind (wpAny_updateSeq e0 rfl ?_)
  have e1 := Heap.get?_update_self (Obj.mapSeq (fun _ => (#[] : Array Value))) e0 rfl
  have up1 : ∀ b o, s.heap.get? b = some o → ((s.heap.push { cls := .type "list", data := .seq #[] }).update s.heap.objs.size (Obj.mapSeq (fun _ => (#[] : Array Value)))).get? b = some o :=
    fun b o y => (Heap.get?_update_other _ _ (Nat.ne_of_gt (Heap.lt_size y))).trans (Heap.get?_push_of_some _ y)
  have n1 : ((s.heap.push { cls := .type "list", data := .seq #[] }).update s.heap.objs.size (Obj.mapSeq (fun _ => (#[] : Array Value)))).objs.size = s.heap.objs.size + 1 := by rw [Heap.size_update, Heap.size_push]
  refine wpAny_bind (wpAny_letGo ?_)
  revert e1 up1 n1
  generalize (s.heap.push { cls := .type "list", data := .seq #[] }).update s.heap.objs.size (Obj.mapSeq (fun _ => (#[] : Array Value))) = g1
  intro e1 up1 n1
  have ty : ∀ g : Heap, (∀ b o, s.heap.get? b = some o → g.get? b = some o) → ({ s with heap := g } : Shared).TypeIs (.ref z) "zip" := fun g k => ⟨_, k _ _ hz, rfl⟩
  unfold Builtin.List.listExtendWith
  refine wpAny_bind (wpAny_typeOf (ty g1 up1) ?_)
  have c1 : Builtin.List.listSameRef (.ref s.heap.objs.size) (.ref z) = false := by simp [Builtin.List.listSameRef, ne]
  have c2 : (Value.type "zip" == Value.type "list") = false := by decide
  have c3 : (Value.type "zip" == Value.type "tuple") = false := by decide
  simp only [c1, c2, c3, Bool.or_false, Bool.false_eq_true, if_false]
  refine wpAny_bind (wpAny_pyIter_zip (up1 _ _ hz) (wpAny_bind (wpAny_holding ?_)))
  unfold Builtin.List.listLengthHint
  refine wpAny_bind (wpAny_specialOf (ty g1 up1) zip_no_len ?_)
  show wpAny (model prog w) _ (specialOf (Value.ref z) (Str.ofString "__length_hint__") >>= _) _ _ _
  refine wpAny_bind (wpAny_specialOf (ty g1 up1) zip_no_hint (wpAny_pure ?_))
  show wpAny (model prog w) A.in1.in1 (rule "list.extend.makes-room" >>= fun _ => Builtin.List.listTouch (.ref s.heap.objs.size) >>= fun _ => again (.builtin "list.extend.loop" ⟨[.ref s.heap.objs.size, .ref z, .none], []⟩)) _ _ _
  refine wpAny_bind (wpAny_rule (wpAny_bind ?_))
  show wpAny (model prog w) A.in1.in1 (updateSeq s.heap.objs.size (·.push .none) >>= fun _ => updateSeq s.heap.objs.size (·.pop)) _ _ _
  refine wpAny_bind (wpAny_updateSeq e1 rfl ?_)
  have e2 := Heap.get?_update_self (Obj.mapSeq (·.push Value.none)) e1 rfl
  refine wpAny_updateSeq (hz := by seq_fits) e2 rfl (wpAny_pure ⟨plainId_quiet F.plain_extend_loop _, ?_⟩)
  have e3 := Heap.get?_update_self (Obj.mapSeq (·.pop)) e2 rfl
  refine h _ _ (fun b o y => ?_) e3 (by rw [Heap.size_update, Heap.size_update, n1])
  have nb := Nat.ne_of_gt (Heap.lt_size y)
  exact (Heap.get?_update_other _ _ nb).trans ((Heap.get?_update_other _ _ nb).trans (up1 b o y))
end
end Yz

/-! ### as an expression -/
namespace Y
open PySem PySem.Spec PyProof.Rows L2
theorem nAd {a b : Nat} (h : a ≠ b) : a ≠ b := h
/-- pairs laid one by one -/
inductive Zd (xs ys : List V) (H : Hp) : Nat → List Addr → Hp → Prop
  | nil : Zd xs ys H 0 [] H
  | snoc {i : Nat} {ts : List Addr} {H' : Hp} {T : Addr} {x y : V} (h : Zd xs ys H i ts H') (hx : xs[i]? = some x) (hy : ys[i]? = some y) (n : H' T = none) : Zd xs ys H (i + 1) (ts ++ [T]) (upd H' T (.tup [x, y]))
theorem Zd.len {xs ys : List V} {H H' : Hp} {i : Nat} {ts : List Addr} (h : Zd xs ys H i ts H') : ts.length = i := by
  induction h with
  | nil => rfl
  | snoc _ _ _ _ ih => rw [List.length_append, ih]; rfl
theorem Zd.keep {xs ys : List V} {H H' : Hp} {i : Nat} {ts : List Addr} (h : Zd xs ys H i ts H') {b : Addr} {o : HO} (e : H b = some o) : H' b = some o := by
  induction h with
  | nil => exact e
  | snoc _ _ _ n ih => rw [upd_ne (ne_of_none ih n)]; exact ih
theorem vals_refs : ∀ ts : List Addr, Vals (ts.map V.ref) (ts.map Value.ref)
  | [] => .nil
  | _ :: ts => .cons rfl (vals_refs ts)
def tListZip (K : PySem.W.Frag) (ta : TA) : TE := fun σ H Q => ta σ H fun vs H1 => ∃ a b xs ys, vs = [.ref a, .ref b] ∧ SqT K H1 a xs ∧ SqT K H1 b ys ∧
  ∀ (l : Addr) (ts : List Addr) (H' : Hp), Zd xs ys H1 (min xs.length ys.length) ts H' → H' l = none → Q (.ref l) (upd H' l (.lst (ts.map .ref)))
theorem pe_listzip {X : L2.Cx} {a b : Expr} {ta : TA} {p p2 q pos : Pos} (hg : Gl X "list") (hm : X.mg "list" = none) (hg2 : Gl X "zip") (hm2 : X.mg "zip" = none) (ha : PA X [a, b] ta)
    (hs : starEach [a, b] X.env = (false, eval a X.env) :: starEach [b] X.env) (hpl : (backTo q (starEach [b] X.env)).any (·.1) = false) (hc : X.calm = true) :
    PE X (.Call (.Name "list" p) [.Call (.Name "zip" p2) [a, b] [] q] [] pos) (tListZip X.K ta) := by
  refine ⟨fun pins s σ H Q I h => ?_⟩
  refine Call_ (ld_blt I hg hm PyProof.Rows.boot_list (PyProof.Rows.callWith_type1 (PyProof.Rows.args_cons ?_ rfl) rfl rfl))
  refine Call_ (ld_blt I hg2 hm2 PyProof.Rows.boot_zip (PyProof.Rows.callWith_type1 (thn (ha.run q pins s σ H _ I h) fun us s1 ⟨vs, H1, I1, r1, q1⟩ => ?_) hs hpl))
  obtain ⟨la, lb, xs, ys, ex, hqx, hqy, q1⟩ := q1
  subst ex
  cases r1 with
  | cons r rr =>
  cases rr with
  | cons r' rr =>
  cases rr
  cases r
  cases r'
  obtain ⟨us, ru, pu, lu⟩ := I1.tuple hqx
  obtain ⟨ws, rw_, pw, lw⟩ := I1.tuple hqy
  obtain ⟨o1, ho1, c1⟩ := id pu
  obtain ⟨o2, ho2, c2⟩ := id pw
  have l1 := ru.length
  have l2 := rw_.length
  refine RZ.call_zipT (show s1.heap.IsTuple la us.toArray from pu) (show s1.heap.IsTuple lb ws.toArray from pw) fun g hz hTI hTO hp hq hsz hk => ?_
  refine PyProof.Rows.args_nil ?_
  have I2 : L2.Inv X pins σ H1 { s1 with heap := g } := I1.kept (t' := s1.toks) hk
  generalize hN : s1.heap.objs.size = N at *
  have D := PySem.W.ktu_apart N la lb (hN ▸ Heap.lt_size ho1) (hN ▸ Heap.lt_size ho2)
  refine Yz.call_list_zip (s := { s1 with heap := g }) hz fun g2 c hk2 hS hsz2 => ?_
  have I3 : L2.Inv X pins σ H1 { s1 with heap := g2 } := I2.kept (t' := s1.toks) hk2
  have hSN : g.objs.size = N + 5 := hsz
  rw [hSN] at hS hsz2 ⊢
  have fp : ∀ k : Nat, k < 6 → FpOk X pins H1 (N + k) := fun k _ => I1.fpOk (by omega) (I1.hok.fresh (by omega))
  refine Yz.ext_turns (fun n s => ∃ i ts H' acc c, n = min xs.length ys.length - i ∧ i ≤ min xs.length ys.length ∧ Zd xs ys H1 i ts H' ∧ L2.Inv X pins σ H' s ∧ s.heap.get? (N + 5) = some (Yz.lstO acc c) ∧ acc.toList = ts.map Value.ref ∧
    (∀ k : Nat, k < 6 → H' (N + k) = none) ∧ (∀ b o, s1.heap.get? b = some o → s.heap.get? b = some o) ∧ IsPair s.heap (N + 2) (.ref N) (.ref (N + 1)) ∧ s.heap.IsTupleIter N la i ∧ s.heap.IsTupleIter (N + 1) lb i ∧
    ((IsZip s.heap (N + 4) (N + 2) (N + 3) .none ∧ ∃ x y, IsPair s.heap (N + 3) x y) ∨ ∃ Th fl ob, IsZipHeld s.heap (N + 4) (N + 2) (N + 3) Th fl ∧ s.heap.get? Th = some ob ∧ ∀ k : Nat, k < 6 → Th ≠ N + k)) ?_ _ _
    ⟨0, [], H1, #[], c, rfl, Nat.zero_le _, .nil, I3, hS, rfl, fun k hk => (fp k hk).1, fun b o e => hk2 _ _ (hk b o e), hk2 _ _ hTI, hp.at fun o e => hk2 _ o e, hq.at fun o e => hk2 _ o e, .inl ⟨hk2 _ _ hz, _, _, hk2 _ _ hTO⟩⟩
  rintro n s2 ⟨i, ts, H', acc, c, rfl, hi, zd, I4, hS, hacc, free, old, hTI, hp, hq, st⟩
  have fpk : ∀ k : Nat, k < 6 → FpOk X pins H' (N + k) := fun k hk => by
    obtain ⟨_, f2, f3, f4, f5, f6⟩ := fp k hk
    exact ⟨free k hk, f2, f3, f4, f5, f6⟩
  have tu : s2.heap.IsTuple la us.toArray := ⟨o1, old _ _ ho1, c1⟩
  have tw : s2.heap.IsTuple lb ws.toArray := ⟨o2, old _ _ ho2, c2⟩
  have big : N + 5 < s2.heap.objs.size := Heap.lt_size hS
  have ml : min xs.length ys.length ≤ sizeLine := Nat.le_trans (Nat.min_le_left _ _) lu
  have fourOk : ∀ b ∈ [N, N + 1, N + 3, N + 4], FpOk X pins H' b := fun b hb => by
    have e : b = N + 0 ∨ b = N + 1 ∨ b = N + 3 ∨ b = N + 4 := by simpa using hb
    rcases e with z | z | z | z
    · rw [z]; exact fpk 0 (by omega)
    · rw [z]; exact fpk 1 (by omega)
    · rw [z]; exact fpk 3 (by omega)
    · rw [z]; exact fpk 4 (by omega)
  by_cases hlt : i < min xs.length ys.length
  · have hx : xs[i]? = some xs[i] := List.getElem?_eq_getElem (by omega)
    have hy : ys[i]? = some ys[i] := List.getElem?_eq_getElem (by omega)
    obtain ⟨u, hu, ruv⟩ := ru.get hx
    obtain ⟨v, hv, rwv⟩ := rw_.get hy
    have al : acc.size = i := by rw [← Array.length_toList, hacc, List.length_map, zd.len]
    have go : ∀ g3 : Heap, (∀ c o, c ≠ N + 4 → c ≠ N + 3 → c ≠ N → c ≠ N + 1 → s2.heap.get? c = some o → g3.get? c = some o) → IsZipHeld g3 (N + 4) (N + 2) (N + 3) s2.heap.objs.size false ∨ (∃ Th ob, IsZipHeld g3 (N + 4) (N + 2) (N + 3) Th true ∧ g3.get? Th = some ob ∧ ∀ k : Nat, k < 6 → Th ≠ N + k) →
        g3.IsTupleIter N la (i + 1) → g3.IsTupleIter (N + 1) lb (i + 1) → IsPair g3 s2.heap.objs.size u v → ∃ acc c, g3.get? (N + 5) = some (Yz.lstO acc c) ∧ acc.size < sizeLine ∧ ∃ m, m < min xs.length ys.length - i ∧
        ∃ i ts H' acc c, m = min xs.length ys.length - i ∧ i ≤ min xs.length ys.length ∧ Zd xs ys H1 i ts H' ∧ L2.Inv X pins σ H' { s2 with heap := g3.update (N + 5) (Obj.mapSeq (·.push (.ref s2.heap.objs.size))) } ∧ (g3.update (N + 5) (Obj.mapSeq (·.push (.ref s2.heap.objs.size)))).get? (N + 5) = some (Yz.lstO acc c) ∧ acc.toList = ts.map Value.ref ∧
          (∀ k : Nat, k < 6 → H' (N + k) = none) ∧ (∀ b o, s1.heap.get? b = some o → (g3.update (N + 5) (Obj.mapSeq (·.push (.ref s2.heap.objs.size)))).get? b = some o) ∧ IsPair (g3.update (N + 5) (Obj.mapSeq (·.push (.ref s2.heap.objs.size)))) (N + 2) (.ref N) (.ref (N + 1)) ∧
          (g3.update (N + 5) (Obj.mapSeq (·.push (.ref s2.heap.objs.size)))).IsTupleIter N la i ∧ (g3.update (N + 5) (Obj.mapSeq (·.push (.ref s2.heap.objs.size)))).IsTupleIter (N + 1) lb i ∧
          ((IsZip (g3.update (N + 5) (Obj.mapSeq (·.push (.ref s2.heap.objs.size)))) (N + 4) (N + 2) (N + 3) .none ∧ ∃ x y, IsPair (g3.update (N + 5) (Obj.mapSeq (·.push (.ref s2.heap.objs.size)))) (N + 3) x y) ∨
            ∃ Th fl ob, IsZipHeld (g3.update (N + 5) (Obj.mapSeq (·.push (.ref s2.heap.objs.size)))) (N + 4) (N + 2) (N + 3) Th fl ∧ (g3.update (N + 5) (Obj.mapSeq (·.push (.ref s2.heap.objs.size)))).get? Th = some ob ∧ ∀ k : Nat, k < 6 → Th ≠ N + k) := by
      intro g3 k3 z3 p3 q3 pr
      have hS3 : g3.get? (N + 5) = some (Yz.lstO acc c) := k3 _ _ (nAd (by omega)) (nAd (by omega)) (nAd (by omega)) (nAd (by omega)) hS
      have ko : ∀ b o, b ≠ N + 5 → g3.get? b = some o → (g3.update (N + 5) (Obj.mapSeq (·.push (.ref s2.heap.objs.size)))).get? b = some o := fun b o n e => (Heap.get?_update_other _ _ (Ne.symm n)).trans e
      have new : ObjOk X.prog X.w (upd H' s2.heap.objs.size (.tup [xs[i], ys[i]])) g3 s2.heap.objs.size (.tup [xs[i], ys[i]]) := ⟨by show 2 ≤ sizeLine; decide, [u, v], .cons ruv (.cons rwv .nil), ⟨_, pr, rfl, _, rfl⟩⟩
      have I5 : L2.Inv X pins σ (upd H' s2.heap.objs.size (.tup [xs[i], ys[i]])) { s2 with heap := g3 } :=
        L2.Inv.turnedNew (t' := s2.toks) (ch := [N, N + 1, N + 3, N + 4]) I4 (fun b o hb e => by
          simp only [List.mem_cons, List.not_mem_nil, or_false, not_or] at hb
          exact k3 b o hb.2.2.2 hb.2.2.1 hb.1 hb.2.1 e) fourOk (Nat.le_refl _) new
      have free5 : ∀ k : Nat, k < 6 → upd H' s2.heap.objs.size (.tup [xs[i], ys[i]]) (N + k) = none := fun k hk => by rw [upd_ne (nAd (by omega))]; exact free k hk
      have I6 : L2.Inv X pins σ (upd H' s2.heap.objs.size (.tup [xs[i], ys[i]])) { s2 with heap := g3.update (N + 5) (Obj.mapSeq (·.push (.ref s2.heap.objs.size))) } :=
        L2.Inv.turnedL (s := { s2 with heap := g3 }) (t' := s2.toks) (ch := [N + 5]) I5 (fun b o hb e => ko b o (by simpa using hb) e) fun b hb => by
          have e : b = N + 5 := by simpa using hb
          rw [e]
          obtain ⟨_, f2, f3, f4, f5, f6⟩ := fpk 5 (by omega)
          exact ⟨free5 5 (by omega), f2, f3, f4, f5, f6⟩
      have hS4 := Heap.get?_update_self (Obj.mapSeq (·.push (.ref s2.heap.objs.size))) hS3 rfl
      refine ⟨acc, c, hS3, by omega, _, ?_, i + 1, ts ++ [s2.heap.objs.size], _, _, _, rfl, hlt, .snoc zd hx hy (I4.hok.fresh (Nat.le_refl _)), I6, hS4, by rw [Array.toList_push, hacc]; simp, free5, fun b o e => ?_, ko _ _ (nAd (by omega)) (k3 _ _ (nAd (by omega)) (nAd (by omega)) (nAd (by omega)) (nAd (by omega)) hTI),
        p3.at fun o e => ko _ o (nAd (by omega)) e, q3.at fun o e => ko _ o (nAd (by omega)) e, .inr ?_⟩
      · omega
      · have lb_ : @LT.lt Nat _ b N := by rw [← hN]; exact Heap.lt_size e
        exact ko b o (nAd (by omega)) (k3 b o (nAd (by omega)) (nAd (by omega)) (nAd (by omega)) (nAd (by omega)) (old b o e))
      · rcases z3 with z3 | ⟨Th, ob, z3, hT, nT⟩
        · exact ⟨_, _, _, ko _ _ (nAd (by omega)) z3, ko _ _ (nAd (by omega)) pr, fun k hk => nAd (by omega)⟩
        · exact ⟨_, _, _, ko _ _ (nAd (by omega)) z3, ko _ _ (nT 5 (by omega)) hT, nT⟩
    rcases st with ⟨hz, x0, y0, hTO⟩ | ⟨Th, fl, ob, hz, hT, nT⟩
    · exact RZ.pyNext_zipT_item D hz hTI hTO hp hq tu tw (by simpa using hu) (by simpa using hv) fun g3 a1 a2 a3 a4 a5 a6 a7 => go g3 a7 (.inl a1) a3 a4 a5
    · exact Yz.next_held D hz hT hTI hp hq tu tw (by simpa using hu) (by simpa using hv) fun g3 a1 a2 a3 a4 a5 a6 => go g3 (fun c o c1 _ c3 c4 e => a6 c o c1 c3 c4 e) (.inr ⟨Th, ob, a1, a6 _ _ (nT 4 (by omega)) (nT 0 (by omega)) (nT 1 (by omega)) hT, nT⟩) a2 a3 a4
  · have ei : i = min xs.length ys.length := by omega
    have no : us.toArray[i]? = none ∨ ws.toArray[i]? = none := by
      rcases Nat.le_total xs.length ys.length with z | z
      · left; simp; omega
      · right; simp; omega
    have fin : ∀ g3 : Heap, (∀ c o, c ≠ N + 4 → c ≠ N + 3 → c ≠ N → c ≠ N + 1 → s2.heap.get? c = some o → g3.get? c = some o) → ∃ x H'', L2.Inv X pins σ H'' { s2 with heap := g3 } ∧ RelV x (.ref (N + 5)) ∧ Q x H'' := by
      intro g3 k3
      have I5 : L2.Inv X pins σ H' { s2 with heap := g3 } := L2.Inv.turnedL (t' := s2.toks) (ch := [N, N + 1, N + 3, N + 4]) I4 (fun b o hb e => by
          simp only [List.mem_cons, List.not_mem_nil, or_false, not_or] at hb
          exact k3 b o hb.2.2.2 hb.2.2.1 hb.1 hb.2.1 e) fourOk
      have hS3 : g3.get? (N + 5) = some (Yz.lstO acc c) := k3 _ _ (nAd (by omega)) (nAd (by omega)) (nAd (by omega)) (nAd (by omega)) hS
      have new : ObjOk X.prog X.w (upd H' (N + 5) (.lst (ts.map .ref))) g3 (N + 5) (.lst (ts.map .ref)) := ⟨by rw [List.length_map, zd.len]; omega, acc.toList, c, by rw [hacc]; exact vals_refs ts, hS3⟩
      have I6 := L2.Inv.take (t' := s2.toks) (h' := g3) I5 (fun _ _ _ e => e) (fpk 5 (by omega)) new
      exact ⟨.ref (N + 5), _, I6, rfl, q1 _ _ _ (ei ▸ zd) (free 5 (by omega))⟩
    rcases st with ⟨hz, x0, y0, hTO⟩ | ⟨Th, fl, ob, hz, hT, nT⟩
    · exact RZ.pyNext_zipT_end (I4.ok.hd hc) D hz hTI hTO hp hq tu tw no fun g3 k3 => ⟨rfl, fin g3 k3⟩
    · exact Yz.next_held_end (I4.ok.hd hc) D hz hT hTI hp hq tu tw no fun g3 k3 => ⟨rfl, fin g3 fun c o c1 _ c3 c4 e => k3 c o c1 c3 c4 e⟩

theorem zd_ok {K : PySem.W.Frag} {T : Tab} {φ : Pl} {H H' : Hp} {h : Hb} {ws us : List W} {xs ys : List V} (rl : Rel K T φ H h) (r1 : RVs K T φ H ws xs) (r2 : RVs K T φ H us ys) {i : Nat} {ts : List Addr} (z : Zd xs ys H i ts H') :
    Ex K φ φ H H' ∧ Rel K T φ H' h ∧ RVs K T φ H' (((ws.zip us).take i).map fun p => W.tup [p.1, p.2]) (ts.map V.ref) := by
  induction z with
  | nil => exact ⟨.refl, rl, .nil⟩
  | @snoc i ts H' t x y _ hx hy n ih =>
    obtain ⟨e, rl', rs⟩ := ih
    have lx := (List.getElem?_eq_some_iff.mp hx).1
    have ly := (List.getElem?_eq_some_iff.mp hy).1
    have l1 := r1.length
    have l2 := r2.length
    have gx : ws[i]? = some ws[i] := List.getElem?_eq_getElem (by omega)
    have gy : us[i]? = some us[i] := List.getElem?_eq_getElem (by omega)
    obtain ⟨x', hx', rx⟩ := r1.get gx
    obtain ⟨y', hy', ry⟩ := r2.get gy
    rw [hx] at hx'; cases hx'
    rw [hy] at hy'; cases hy'
    have e1 := Ex.side (o := .tup [x, y]) rl' n
    have hz : (ws.zip us)[i]? = some (ws[i], us[i]) := List.getElem?_zip_eq_some.mpr ⟨gx, gy⟩
    have ht : (ws.zip us).take (i + 1) = (ws.zip us).take i ++ [(ws[i], us[i])] := by rw [List.take_add_one, hz]; rfl
    rw [ht, List.map_append, List.map_append]
    refine ⟨e.trans e1, rl'.side n, (RVs.mono e1 _ _ rs).append (.cons (.mk_tup (rl'.fr n) (.inl upd_same) (.cons (RV.mono (e.trans e1) _ _ rx) (.cons (RV.mono (e.trans e1) _ _ ry) .nil))) .nil)⟩
section
variable {X : L2.Cx} {T : Tab} {Wx : WX} {C : Ctx} {a b : Expr} {ea eb : E} {pos : Pos}
theorem d_listzip {p p2 q : Pos} (hc : X.calm = true) (hg : Gl X "list") (hm : X.mg "list" = none) (hg2 : Gl X "zip") (hm2 : X.mg "zip" = none) (hn : notStar a = true) (hn2 : notStar b = true) (ha : D X T Wx C a ea) (hb : D X T Wx C b eb) :
    D X T Wx C (.Call (.Name "list" p) [.Call (.Name "zip" p2) [a, b] [] q] [] pos) (.lzip ea eb) := by
  refine (pe_listzip hg hm hg2 hm2 (pa_two ha hb hn hn2) (starEach_of hn) (noStars_any (by simp [noStars, hn2])) hc).weak fun σ H Q ⟨φ, σb, h, s, rl, p⟩ => ?_
  simp only [evalE] at p
  refine tR_mono (tR_of s rl p) ?_
  rintro v H1 ⟨φ1, w1, h1, _, x1, s1, rl1, r1, p1⟩
  refine tR_mono (tR_of s1 rl1 p1) ?_
  rintro u H2 ⟨φ2, w2, h2, _, x2, s2, rl2, r2, p2⟩
  replace r1 := RV.mono x2 _ _ r1
  split at p2
  · obtain ⟨l, vs, rfl, hq, k⟩ := r1.tup_inv
    obtain ⟨l2, vs2, rfl, hq2, k2⟩ := r2.tup_inv
    refine ⟨l, l2, vs, vs2, rfl, tup_seq hq, tup_seq hq2, fun m ts H' z n => ?_⟩
    obtain ⟨e, rl', rs⟩ := zd_ok rl2 k k2 z
    rw [List.take_of_length_le (by rw [List.length_zip, k.length, k2.length]; exact Nat.le_refl _)] at rs
    have e1 := Ex.side (o := .lst (ts.map V.ref)) rl' n
    exact p2 φ2 _ _ (e.trans e1) (rl'.side n) (.mk_lit (rl'.fr n) upd_same (RVs.mono e1 _ _ rs))
  · exact p2.elim
end
end Y
/-! Y7: targets and comprehensions. -/
namespace Y
open PySem PySem.Spec PyProof.Rows L2

def Tg.vs : Tg → List Nat
  | .nm i => [i]
  | .tp t => t.vs
  | .nil => []
  | .cons a r => a.vs ++ r.vs
/-- the slots but those at vs are as they were -/
def Same (vs : List Nat) (σ σ' : L2.St) : Prop := σ'.length = σ.length ∧ ∀ i, i ∉ vs → σ'[i]? = σ[i]?
theorem Same.refl {vs : List Nat} {σ : L2.St} : Same vs σ σ := ⟨rfl, fun _ _ => rfl⟩
theorem Same.trans {vs us : List Nat} {σ σ1 σ2 : L2.St} (a : Same vs σ σ1) (b : Same us σ1 σ2) : Same (vs ++ us) σ σ2 :=
  ⟨b.1.trans a.1, fun i h => by
    simp only [List.mem_append, not_or] at h
    exact (b.2 i h.2).trans (a.2 i h.1)⟩
theorem Same.set {i : Nat} {x : Option V} {σ : L2.St} : Same [i] σ (σ.set i x) := ⟨List.length_set, fun j h => by
  rw [List.getElem?_set_ne (fun e => h (by simp [e]))]⟩
theorem wipe_at (σ : L2.St) (i : Nat) : ∀ vs : List Nat, (L2.wipe σ vs)[i]? = if i ∈ vs then (if i < σ.length then some none else none) else σ[i]?
  | [] => by simp [L2.wipe]
  | v :: vs => by
    unfold L2.wipe
    by_cases h : v = i
    · subst h
      rw [List.getElem?_set]
      simp only [if_true, L2.wipe_length, List.mem_cons, true_or]
    · rw [List.getElem?_set_ne h, wipe_at σ i vs]
      have : (i ∈ v :: vs) ↔ i ∈ vs := by simp [Ne.symm h]
      simp only [this]
theorem Same.wipe {vs ws : List Nat} {σ σ' : L2.St} (h : Same vs σ σ') (k : ∀ i ∈ vs, i ∈ ws) : L2.wipe σ' ws = L2.wipe σ ws := by
  refine List.ext_getElem? fun i => ?_
  rw [wipe_at, wipe_at, h.1]
  by_cases q : i ∈ ws
  · rw [if_pos q, if_pos q]
  · rw [if_neg q, if_neg q]
    exact h.2 i (fun z => q (k i z))
theorem wipe_wipe (σ : L2.St) (ws : List Nat) : L2.wipe (L2.wipe σ ws) ws = L2.wipe σ ws := by
  refine List.ext_getElem? fun i => ?_
  rw [wipe_at, L2.wipe_length, wipe_at]
  by_cases q : i ∈ ws
  · rw [if_pos q, if_pos q]
  · rw [if_neg q, if_neg q]

section
variable {K : PySem.W.Frag} {T : Tab} {φ : Pl} {H : Hp} {h : Hb} {σb : Sb} {σ : L2.St}
theorem RS.set {i : Nat} {w : W} {v : V} (s : RS K T φ H σb σ) (r : RV K T φ H w v) : RS K T φ H (σb.set i (some w)) (σ.set i (some v)) := by
  refine ⟨by rw [List.length_set, List.length_set]; exact s.len, fun j u e => ?_⟩
  by_cases h : i = j
  · subst h
    have hl : i < σb.length := by
      have := (List.getElem?_eq_some_iff.mp e).1
      simpa using this
    rw [List.getElem?_set_self hl] at e
    cases e
    exact ⟨v, by rw [List.getElem?_set_self (by rw [← s.len]; exact hl)], r⟩
  · rw [List.getElem?_set_ne h] at e
    rw [List.getElem?_set_ne h]
    exact s.at_ j u e
theorem RS.wipe (s : RS K T φ H σb σ) : ∀ vs : List Nat, RS K T φ H (wipe σb vs) (L2.wipe σ vs)
  | [] => s
  | v :: vs => by
    have ih := RS.wipe s vs
    unfold Y.wipe L2.wipe
    refine ⟨by rw [List.length_set, List.length_set]; exact ih.len, fun j u e => ?_⟩
    by_cases h : v = j
    · subst h
      have hl : v < (Y.wipe σb vs).length := by
        have := (List.getElem?_eq_some_iff.mp e).1
        simpa using this
      rw [List.getElem?_set_self hl] at e
      cases e
    · rw [List.getElem?_set_ne h] at e
      rw [List.getElem?_set_ne h]
      exact ih.at_ j u e
theorem RS.hide {T' : Tab} (g : Hid T T' H) (s : RS K T φ H σb σ) : RS K T' φ H σb σ := ⟨s.len, fun i w e => let ⟨v, h, r⟩ := s.at_ i w e; ⟨v, h, RV.hide g w v r⟩⟩
end

/-- a target stores as t does -/
def tG (K : PySem.W.Frag) (T : Tab) (t : Tg) : TG := fun v σ H Q => ∃ φ σb w σb', RS K T φ H σb σ ∧ RV K T φ H w v ∧ setT t w σb = some σb' ∧ ∀ σ', RS K T φ H σb' σ' → Same t.vs σ σ' → Q σ' H
def tGs (K : PySem.W.Frag) (T : Tab) (t : Tg) : TGs := fun vs σ H Q => ∃ φ σb ws σb', RS K T φ H σb σ ∧ RVs K T φ H ws vs ∧ setTs t ws σb = some σb' ∧ ∀ σ', RS K T φ H σb' σ' → Same t.vs σ σ' → Q σ' H
theorem _root_.L2.PG.weak {X : L2.Cx} {tg : Expr} {t t' : TG} (h : PG X tg t) (hm : ∀ v σ H Q, t' v σ H Q → t v σ H Q) : PG X tg t' :=
  ⟨fun pins s σ H v u Q I r q => h.run pins s σ H v u Q I r (hm _ _ _ _ q)⟩
theorem _root_.L2.PGs.weak {X : L2.Cx} {tg : List Expr} {t t' : TGs} (h : PGs X tg t) (hm : ∀ v σ H Q, t' v σ H Q → t v σ H Q) : PGs X tg t' :=
  ⟨fun pins s σ H v u Q I r q => h.run pins s σ H v u Q I r (hm _ _ _ _ q)⟩
def isName : Expr → Bool
  | .Name _ _ => true
  | _ => false
section
variable {X : L2.Cx} {T : Tab} {Wx : WX} {C : Ctx} {σ : L2.St} {φ : Pl} {H : Hp} {h : Hb} {σb : Sb}
variable {a b c tg : Expr} {ea eb ec : E} {pos : Pos} {es : List Expr}
theorem dg_name {i : Nat} {x : Str} (hN : X.N.Nodup) (hi : X.N[i]? = some x) (hx : Loc X.env.scope x) (hf : X.fn x = true ∨ X.env.scope.names.lookup x = some .local) : PG X (.Name x pos) (tG X.K T (.nm i)) := by
  refine (pg_name hN hi hx hf).weak fun v σ H Q ⟨φ, σb, w, σb', s, r, e, q⟩ => ?_
  simp only [setT] at e
  split at e
  · cases e
    exact q _ (s.set r) Same.set
  · cases e
theorem dgs_nil : PGs X [] (tGs X.K T .nil) := by
  refine pgs_nil.weak fun vs σ H Q ⟨φ, σb, ws, σb', s, r, e, q⟩ => ?_
  cases ws with
  | nil =>
    simp only [RVs] at r
    cases e
    exact ⟨r, q _ s Same.refl⟩
  | cons w ws => simp [setTs] at e
theorem dgs_cons {t u : Tg} (h1 : PG X a (tG X.K T t)) (h2 : PGs X es (tGs X.K T u)) (hs : (assignEach (a :: es) X.env).map (·.2) = assign a X.env :: (assignEach es X.env).map (·.2)) : PGs X (a :: es) (tGs X.K T (.cons t u)) := by
  refine (pgs_cons h1 h2 hs).weak fun vs σ H Q ⟨φ, σb, ws, σb', s, r, e, q⟩ => ?_
  cases ws with
  | nil => simp [setTs] at e
  | cons w ws =>
    simp only [RVs] at r
    obtain ⟨v, vr, rfl, r1, r2⟩ := r
    simp only [setTs] at e
    split at e
    · rename_i σ1 e1
      refine ⟨v, vr, rfl, φ, σb, w, σ1, s, r1, e1, fun σ' s' m => ?_⟩
      exact ⟨φ, σ1, ws, σb', s', r2, e, fun σ2 s2 m2 => q σ2 s2 (m.trans m2)⟩
    · cases e
theorem setTs_len : ∀ {t : Tg} {ws : List W} {σb σb' : Sb} {n : Nat}, setTs t ws σb = some σb' → ∀ us : List W, (∃ σb σb', setTs t us σb = some σb') → us.length = ws.length
  | .nil, [], σb, σb', n, e, us, ⟨s, s', h⟩ => by cases us <;> simp [setTs] at h ⊢
  | .nil, _ :: _, _, _, _, e, _, _ => by simp [setTs] at e
  | .cons t r, [], _, _, _, e, _, _ => by simp [setTs] at e
  | .cons t r, x :: xs, σb, σb', n, e, us, ⟨s, s', h⟩ => by
    cases us with
    | nil => simp [setTs] at h
    | cons u us =>
      simp only [setTs] at e h
      split at e
      · split at h
        · simp only [List.length_cons]
          rw [setTs_len (n := n) e us ⟨_, _, h⟩]
        · cases h
      · cases e
  | .nm _, _, _, _, _, e, _, _ => by simp [setTs] at e
  | .tp _, _, _, _, _, e, _, _ => by simp [setTs] at e
/-- how many a target list takes -/
def Tg.n : Tg → Nat
  | .cons _ r => r.n + 1
  | _ => 0
theorem setTs_n : ∀ {t : Tg} {ws : List W} {σb σb' : Sb}, setTs t ws σb = some σb' → ws.length = t.n
  | .nil, [], _, _, e => rfl
  | .nil, _ :: _, _, _, e => by simp [setTs] at e
  | .cons t r, [], _, _, e => by simp [setTs] at e
  | .cons t r, x :: xs, σb, σb', e => by
    simp only [setTs] at e
    split at e
    · simp only [List.length_cons, Tg.n]; rw [setTs_n e]
    · cases e
  | .nm _, _, _, _, e => by simp [setTs] at e
  | .tp _, _, _, _, e => by simp [setTs] at e
theorem dg_tup {t : Tg} {k : Nat} (hc : X.calm = true) (h1 : PGs X es (tGs X.K T t)) (hn : (assignEach es X.env).length = t.n) (hst : (assignEach es X.env).findIdx? (·.1) = none) : PG X (.Tuple es k pos) (tG X.K T (.tp t)) := by
  refine (pg_tup hc h1 hn hst).weak fun v σ H Q ⟨φ, σb, w, σb', s, r, e, q⟩ => ?_
  simp only [setT] at e
  split at e
  · obtain ⟨a, vs, rfl, hq, k⟩ := r.tup_inv
    exact ⟨a, vs, rfl, tup_seq hq, by rw [← k.length]; exact setTs_n e, φ, σb, _, σb', s, k, e, q⟩
  · cases e

/-! ### comprehensions -/
/-- a comprehension's turn, as evalE has it -/
def turnC (C : Ctx) (elt : E) (t : Tg) (c : E) (own : List Nat) (σ : Sb) : W → Hb → R (Option W) := fun x h2 => match setT t x (wipe σ own) with
  | some σ' => (evalE C c σ' h2).bind fun b h3 => (match b with
    | .bl true => (evalE C elt σ' h3).bind fun v h4 => .ok (some v) h4
    | .bl false => .ok none h3
    | _ => .no)
  | none => .no
theorem evalE_cm (C : Ctx) (elt : E) (t : Tg) (it c : E) (own : List Nat) (σ : Sb) (h : Hb) : evalE C (.cm elt t it c own) σ h = (evalE C it σ h).bind fun w h1 => (match itemsI h1 w with
    | some ws => (forC (turnC C elt t c own σ) (fun h' => stays h1 h' w) ws [] h1).bind fun vs h5 => .ok (.lit vs) h5
    | none => .no) := by rw [evalE]; rfl
theorem stays_refl (h : Hb) (w : W) (ws : List W) (e : itemsI h w = some ws) : stays h h w = true := by
  cases w with
  | ref n =>
    simp only [itemsI, items] at e
    simp only [stays]
    split at e
    · rename_i xs q
      rw [q]
      exact W.eqbs_refl xs
    · cases e
  | _ => rfl
def Wn : WX := fun _ _ _ _ => False
theorem turnC_some {elt c : E} {t : Tg} {own : List Nat} {σ : Sb} {x v : W} {h h' : Hb} (e : turnC C elt t c own σ x h = .ok (some v) h') : ∃ σ' h3, setT t x (wipe σ own) = some σ' ∧ evalE C c σ' h = .ok (.bl true) h3 ∧ evalE C elt σ' h3 = .ok v h' := by
  unfold turnC at e
  split at e
  · rename_i σ' q
    cases ec : evalE C c σ' h with
    | no => rw [ec] at e; cases e
    | ex e2 h2 => rw [ec] at e; cases e
    | ok b h2 =>
      rw [ec] at e
      simp only [R.bind] at e
      split at e
      · cases ee : evalE C elt σ' h2 with
        | no => rw [ee] at e; cases e
        | ex e2 h2 => rw [ee] at e; cases e
        | ok y h4 => rw [ee] at e; cases e; exact ⟨σ', h2, q, ec, ee⟩
      · cases e
      · cases e
  · cases e
theorem turnC_none {elt c : E} {t : Tg} {own : List Nat} {σ : Sb} {x : W} {h h' : Hb} (e : turnC C elt t c own σ x h = .ok none h') : ∃ σ', setT t x (wipe σ own) = some σ' ∧ evalE C c σ' h = .ok (.bl false) h' := by
  unfold turnC at e
  split at e
  · rename_i σ' q
    cases ec : evalE C c σ' h with
    | no => rw [ec] at e; cases e
    | ex e2 h2 => rw [ec] at e; cases e
    | ok b h2 =>
      rw [ec] at e
      simp only [R.bind] at e
      split at e
      · cases ee : evalE C elt σ' h2 with
        | no => rw [ee] at e; cases e
        | ex e2 h2 => rw [ee] at e; cases e
        | ok y h4 => rw [ee] at e; cases e
      · cases e; exact ⟨σ', q, ec⟩
      · cases e
  · cases e
/-! a hidden list grows: nobody sees it -/
section
variable {K : PySem.W.Frag} {T' : Tab} {D : Addr} {o : HO}
mutual
theorem RV.unseen (hd : T'.hid D) : ∀ (w : W) (v : V), RV K T' φ H w v → RV K T' φ (upd H D o) w v
  | .non, v, h => by simpa only [RV] using h
  | .bl b, v, h => by simpa only [RV] using h
  | .int i, v, h => by simpa only [RV] using h
  | .str s, v, h => by simpa only [RV] using h
  | .tup xs, v, h => by
    simp only [RV] at h ⊢
    obtain ⟨a, vs, e, h1, h2⟩ := h
    refine ⟨a, vs, e, h1.imp_left fun z => ⟨z.1, ?_⟩, RVs.unseen hd xs vs h2⟩
    have ne : a ≠ D := fun q => z.1.2 (by rw [q]; exact hd)
    unfold Rd; rw [upd_ne ne]; exact z.2
  | .lit xs, v, h => by
    simp only [RV] at h ⊢
    obtain ⟨a, vs, e, n, h1, h2⟩ := h
    exact ⟨a, vs, e, n, by rw [upd_ne (fun q => n.2 (by rw [q]; exact hd))]; exact h1, RVs.unseen hd xs vs h2⟩
  | .rol xs, v, h => by
    simp only [RV] at h ⊢
    obtain ⟨a, vs, e, h1, h2⟩ := h
    refine ⟨a, vs, e, h1.imp_left fun z => ⟨z.1, ?_⟩, RVs.unseen hd xs vs h2⟩
    have ne : a ≠ D := fun q => z.1.2 (by rw [q]; exact hd)
    unfold Rd; rw [upd_ne ne]; exact z.2
  | .obj c ns xs, v, h => by
    simp only [RV] at h ⊢
    obtain ⟨a, fs, e, n, ⟨dx, h1⟩, h2, h3⟩ := h
    exact ⟨a, fs, e, n, ⟨dx, by rw [upd_ne (fun q => n.2 (by rw [q]; exact hd))]; exact h1⟩, h2, RVs.unseen hd xs _ h3⟩
  | .dic ks ws, v, h => by
    simp only [RV] at h ⊢
    obtain ⟨a, es, kv, vv, e, h1, h2, h3, h4, h5, h6, h7⟩ := h
    refine ⟨a, es, kv, vv, e, h1.imp_left fun z => ⟨z.1, ?_, z.2.2⟩, h2, h3, h4, h5, RVs.unseen hd ks kv h6, RVs.unseen hd ws vv h7⟩
    rw [upd_ne (fun q => z.1.2 (by rw [q]; exact hd))]; exact z.2.1
  | .cls c, v, h => by simpa only [RV] using h
  | .ref n, v, h => by simpa only [RV] using h
theorem RVs.unseen (hd : T'.hid D) : ∀ (ws : List W) (vs : List V), RVs K T' φ H ws vs → RVs K T' φ (upd H D o) ws vs
  | [], vs, h => by simpa only [RVs] using h
  | w :: ws, vs, h => by
    simp only [RVs] at h ⊢
    obtain ⟨v, r, e, h1, h2⟩ := h
    exact ⟨v, r, e, RV.unseen hd w v h1, RVs.unseen hd ws r h2⟩
end
theorem Rel.unseen {h : Hb} (hd : T'.hid D) (n : some D ∉ φ) (r : Rel K T' φ H h) : Rel K T' φ (upd H D o) h := by
  refine ⟨r.nd, r.len, fun a q => ?_, r.hf, fun m u a h1 h2 => ?_, r.dd⟩
  · by_cases z : a = D
    · exact ⟨o, by rw [z]; exact upd_same⟩
    · obtain ⟨u, e⟩ := r.hd a q
      exact ⟨u, by rw [upd_ne z]; exact e⟩
  · have ne : a ≠ D := fun z => n (by rw [← z]; exact List.mem_of_getElem? h2)
    have q := r.at_ m u a h1 h2
    cases u with
    | lst xs => obtain ⟨vs, e, k⟩ := q; exact ⟨vs, by rw [upd_ne ne]; exact e, RVs.unseen hd _ _ k⟩
    | ins c ns xs => obtain ⟨dx, fs, e, e2, k⟩ := q; exact ⟨dx, fs, by rw [upd_ne ne]; exact e, e2, RVs.unseen hd _ _ k⟩
    | dct ks vs => obtain ⟨es, kv, vv, e1, e2, e3, e4, e5, e6, e7⟩ := q; exact ⟨es, kv, vv, ⟨by rw [upd_ne ne]; exact e1.1, e1.2⟩, e2, e3, e4, e5, RVs.unseen hd _ _ e6, RVs.unseen hd _ _ e7⟩
    | dead => exact q
end
/-- what a comprehension's turns are to reach: D is the list made -/
def PostL (K : PySem.W.Frag) (T : Tab) (φ1 : Pl) (H1 : Hp) (Q : VK) : R (List W) → Prop
  | .ok ws h' => ∀ (T' : Tab) φ' D vs H', Hid T T' H1 → T'.hid D → H1 D = none → Ex K φ1 φ' H1 H' → Rel K T' φ' H' h' → H' D = some (.lst vs) → some D ∉ φ' → RVs K T' φ' H' ws vs → Q (.ref D) H'
  | _ => False
/-- the turns of a comprehension, from the walk's start -/
theorem lc_turns {elt c : E} {t : Tg} {own : List Nat} {w : W} {ws : List W} {J : It} {σ : L2.St} {φ1 : Pl} {H1 : Hp} {h1 : Hb} {Q : VK} (K : PySem.W.Frag) (T : Tab) (ht : ∀ i ∈ t.vs, i ∈ own) (s : RS K T φ1 H1 σb σ) (rl : Rel K T φ1 H1 h1) (wk : Walks K T J φ1 H1 h1 w ws)
    (p : PostL K T φ1 H1 Q (forC (turnC C elt t c own σb) (fun h' => stays h1 h' w) ws [] h1))
    (D : Addr) (hD : H1 D = none) (T' : Tab) (hT' : T' = { T with hid := fun a => T.hid a ∨ a = D }) :
    ∃ W : Nat → Nat → Hp → Prop, (∃ m, W 0 m (upd H1 D (.lst []))) ∧ ∀ i m H, W i m H →
      (J.stop i H ∧ Q (.ref D) H) ∨ (J.go i H ∧ ∃ Nx : Hp → Prop, (∀ H', Nx H' → ∃ m', m' < m ∧ W (i + 1) m' H') ∧ ∀ x H', J.yld i H x H' → tG K T' t x (L2.wipe σ own) H' fun σ2 H2 => L2.wipe σ2 own = L2.wipe σ own ∧ tT K T' Wn (evalE C c) σ2 H2 fun b H3 =>
        if b = true then tI K T' Wn (evalE C elt) σ2 H3 fun y H4 => ∃ acc, H4 D = some (.lst acc) ∧ acc.length < sizeLine ∧ Nx (upd H4 D (.lst (acc ++ [y]))) else Nx H3) := by
  have g : Hid T T' H1 := by
    subst hT'
    exact ⟨rfl, fun a h => .inl h, fun a h => h.imp_right fun e => by rw [e]; exact hD⟩
  have hidD : T'.hid D := by subst hT'; exact .inr rfl
  obtain ⟨NX, hNX⟩ : ∃ NX : Nat → Hp → Prop, NX = fun i H => ∃ φ' h' acc vs, Ex K φ1 φ' H1 H ∧ Rel K T' φ' H h' ∧ H D = some (.lst vs) ∧ some D ∉ φ' ∧ RVs K T' φ' H acc vs ∧ PostL K T φ1 H1 Q (forC (turnC C elt t c own σb) (fun h' => stays h1 h' w) (ws.drop i) acc h') := ⟨_, rfl⟩
  refine ⟨fun i m H => m = ws.length - i ∧ i ≤ ws.length ∧ NX i H, ⟨ws.length, by simp, Nat.zero_le _, ?_⟩, ?_⟩
  · rw [hNX]
    refine ⟨φ1, h1, [], [], Ex.side rl hD, ?_, upd_same, rl.fresh hD, .nil, by rw [List.drop_zero]; exact p⟩
    refine rl.into g (fun b o e => by rw [upd_ne (ne_of_none e hD)]; exact e) (fun a q => ?_)
    by_cases z : a = D
    · exact ⟨_, by rw [z]; exact upd_same⟩
    · have q' : T.hid a := by subst hT'; exact q.resolve_right z
      obtain ⟨o, e⟩ := rl.hd a q'
      exact ⟨o, by rw [upd_ne z]; exact e⟩
  · rintro i m H ⟨rfl, hi, nx⟩
    have nx' := nx
    rw [hNX] at nx'
    obtain ⟨φ', h', acc, vs, x, rl', eD, fD, ra, q⟩ := nx'
    cases hw : ws[i]? with
    | none =>
      have hl : i = ws.length := Nat.le_antisymm hi (List.getElem?_eq_none_iff.mp hw)
      refine .inl ?_
      rw [hl, List.drop_length] at q
      simp only [forC] at q
      by_cases st : stays h1 h' w = true
      · rw [if_pos st] at q
        refine ⟨(wk T' g i φ' _ H (x.u T') rl' st).2 hl, ?_⟩
        exact q T' φ' D vs H g hidD hD x rl' eD fD ra
      · rw [if_neg st] at q
        exact q.elim
    | some u =>
      have hlt : i < ws.length := (List.getElem?_eq_some_iff.mp hw).1
      refine .inr ?_
      rw [List.drop_eq_getElem?_toList_append, hw] at q
      simp only [Option.toList_some, List.singleton_append, forC] at q
      by_cases st : stays h1 h' w = true
      case neg => rw [if_neg st] at q; exact q.elim
      rw [if_pos st] at q
      obtain ⟨go, yl⟩ := (wk T' g i φ' h' H (x.u T') rl' st).1 u hw
      refine ⟨go, NX (i + 1), fun H2 r2 => ⟨ws.length - (i + 1), by omega, rfl, hlt, r2⟩, ?_⟩
      intro xv H2 hy
      obtain ⟨x2, rl2, r2⟩ := yl xv H2 hy
      have s2 : RS K T' φ' H2 (wipe σb own) (L2.wipe σ own) := ((s.hide g).mono (x.trans x2)).wipe own
      split at q
      · rename_i v1 h4 et
        obtain ⟨σ', h3, es, ec, ee⟩ := turnC_some et
        split at q
        · rename_i hsz
          refine ⟨φ', _, u, σ', s2, r2, es, fun σ2 s3 sm => ⟨(sm.wipe ht).trans (wipe_wipe σ own), ?_⟩⟩
          refine ⟨φ', σ', h', s3, rl2, ?_⟩
          rw [ec]
          intro φ3 v3 H3 x3 rl3 r3
          refine ⟨true, r3.bl_inv, iteT ?_⟩
          refine ⟨φ3, σ', h3, s3.mono x3, rl3, ?_⟩
          rw [ee]
          intro φ4 v4 H4 x4 rl4 r4
          have xx := x2.trans (x3.trans x4)
          have f4 : some D ∉ φ4 := xx.notin eD fD
          refine ⟨vs, xx.keep D _ eD fD, by rw [sizeLine_eq, ← ra.length]; exact of_decide_eq_true hsz, ?_⟩
          rw [hNX]
          refine ⟨φ4, h4, acc ++ [v1], _, ⟨(x.trans xx).pre, (x.trans xx).new, fun b o e n => ?_⟩, rl4.unseen hidD f4, upd_same, f4, RVs.unseen hidD _ _ ((RVs.mono xx _ _ ra).append (.cons r4 .nil)), q⟩
          rw [upd_ne (ne_of_none e hD)]
          exact (x.trans xx).keep b o e n
        · exact q.elim
      · rename_i h4 et
        obtain ⟨σ', es, ec⟩ := turnC_none et
        refine ⟨φ', _, u, σ', s2, r2, es, fun σ2 s3 sm => ⟨(sm.wipe ht).trans (wipe_wipe σ own), ?_⟩⟩
        refine ⟨φ', σ', h', s3, rl2, ?_⟩
        rw [ec]
        intro φ3 v3 H3 x3 rl3 r3
        refine ⟨false, r3.bl_inv, iteF ?_⟩
        rw [hNX]
        have xx := x2.trans x3
        exact ⟨φ3, h4, acc, vs, x.trans xx, rl3, xx.keep D _ eD fD, xx.notin eD fD, RVs.mono xx _ _ ra, q⟩
      · exact q.elim
theorem forC_nx {f : W → Hb → R (Option W)} {ok : Hb → Bool} : ∀ {ws acc : List W} {h : Hb} (e : W) (h' : Hb), forC f ok ws acc h ≠ .ex e h'
  | [], acc, h, e, h' => by unfold forC; split <;> exact fun q => nomatch q
  | w :: ws, acc, h, e, h' => by
    unfold forC
    split
    · split
      · split
        · exact forC_nx _ _
        · exact fun q => nomatch q
      · exact forC_nx _ _
      · exact fun q => nomatch q
    · exact fun q => nomatch q
/-- the list made, as a value -/
theorem PostL.lit {φ1 : Pl} {H1 : Hp} {h1 : Hb} {Q : VK} {Z : Value → Option Addr → Hp → Prop} {K : PySem.W.Frag} {r : R (List W)} (rl : Rel K T φ1 H1 h1) (nx : ∀ e h', r ≠ .ex e h') (p : Post K T Z φ1 H1 (r.bind fun vs h5 => .ok (.lit vs) h5) Q) : PostL K T φ1 H1 Q r := by
  cases r with
  | no => exact p
  | ex e h' => exact absurd rfl (nx e h')
  | ok ws h' =>
    intro T' φ' D vs H' g hd hD x rl' eD fD ra
    refine p φ' _ H' x (rl'.bare g) (.mk_lit ⟨fD, fun q => ?_⟩ eD (RVs.bare g _ _ ra))
    obtain ⟨o, e⟩ := rl.hd D q
    rw [hD] at e; cases e
section
variable {K : PySem.W.Frag} {T' : Tab} {D : Addr} {H0 : Hp}
theorem promoteFr (g : Hid T T' H0) (hd : T'.hid D) {a : Addr} (n : Fr T' φ a) : Fr T (φ ++ [some D]) a := ⟨fun m => by
  rcases List.mem_append.mp m with z | z
  · exact n.1 z
  · rw [Option.some.inj (List.mem_singleton.mp z)] at n; exact n.2 hd, fun q => n.2 (g.up a q)⟩
mutual
theorem RV.promote (g : Hid T T' H0) (hd : T'.hid D) : ∀ (w : W) (v : V), RV K T' φ H w v → RV K T (φ ++ [some D]) H w v
  | .non, v, h => by simpa only [RV] using h
  | .bl b, v, h => by simpa only [RV] using h
  | .int i, v, h => by simpa only [RV] using h
  | .str s, v, h => by simpa only [RV] using h
  | .tup xs, v, h => by
    simp only [RV] at h ⊢
    obtain ⟨a, vs, e, h1, h2⟩ := h
    exact ⟨a, vs, e, h1.imp_left fun z => ⟨promoteFr g hd z.1, z.2⟩, RVs.promote g hd xs vs h2⟩
  | .lit xs, v, h => by
    simp only [RV] at h ⊢
    obtain ⟨a, vs, e, n, h1, h2⟩ := h
    exact ⟨a, vs, e, promoteFr g hd n, h1, RVs.promote g hd xs vs h2⟩
  | .rol xs, v, h => by
    simp only [RV] at h ⊢
    obtain ⟨a, vs, e, h1, h2⟩ := h
    exact ⟨a, vs, e, h1.imp_left fun z => ⟨promoteFr g hd z.1, z.2⟩, RVs.promote g hd xs vs h2⟩
  | .obj c ns xs, v, h => by
    simp only [RV] at h ⊢
    obtain ⟨a, fs, e, n, h1, h2, h3⟩ := h
    exact ⟨a, fs, e, promoteFr g hd n, by rw [← g.ca]; exact h1, h2, RVs.promote g hd xs _ h3⟩
  | .dic ks ws, v, h => by
    simp only [RV] at h ⊢
    obtain ⟨a, es, kv, vv, e, h1, h2, h3, h4, h5, h6, h7⟩ := h
    exact ⟨a, es, kv, vv, e, h1.imp_left fun z => ⟨promoteFr g hd z.1, z.2⟩, h2, by rw [← g.ca]; exact h3, h4, h5, RVs.promote g hd ks kv h6, RVs.promote g hd ws vv h7⟩
  | .cls c, v, h => by simp only [RV] at h ⊢; rw [← g.ca]; exact h
  | .ref n, v, h => by
    simp only [RV] at h ⊢
    obtain ⟨a, e, h1⟩ := h
    exact ⟨a, e, h1.imp (fun z => by rw [List.getElem?_append_left (List.getElem?_eq_some_iff.mp z).1]; exact z) fun z => by rw [List.getElem?_append_left (List.getElem?_eq_some_iff.mp z).1]; exact z⟩
theorem RVs.promote (g : Hid T T' H0) (hd : T'.hid D) : ∀ (ws : List W) (vs : List V), RVs K T' φ H ws vs → RVs K T (φ ++ [some D]) H ws vs
  | [], vs, h => by simpa only [RVs] using h
  | w :: ws, vs, h => by
    simp only [RVs] at h ⊢
    obtain ⟨v, r, e, h1, h2⟩ := h
    exact ⟨v, r, e, RV.promote g hd w v h1, RVs.promote g hd ws r h2⟩
end
/-- the list made, tracked from now on -/
theorem RO.promote (g : Hid T T' H0) (hd : T'.hid D) {a : Addr} {o : O} (q : RO K T' φ H a o) : RO K T (φ ++ [some D]) H a o := by
  cases o with
  | lst xs => obtain ⟨vs, e, k⟩ := q; exact ⟨vs, e, RVs.promote g hd _ _ k⟩
  | ins c ns xs => obtain ⟨dx, fs, e, e2, k⟩ := q; exact ⟨dx, fs, by rw [← g.ca]; exact e, e2, RVs.promote g hd _ _ k⟩
  | dct ks vs => obtain ⟨es, kv, vv, e1, e2, e3, e4, e5, e6, e7⟩ := q; exact ⟨es, kv, vv, e1, e2, by rw [← g.ca]; exact e3, e4, e5, RVs.promote g hd _ _ e6, RVs.promote g hd _ _ e7⟩
  | dead => exact q
theorem Rel.promote {h : Hb} {ws : List W} {vs : List V} (g : Hid T T' H0) (hd : T'.hid D) (nD : ¬ T.hid D) (eD : H D = some (.lst vs)) (fD : some D ∉ φ) (r : Rel K T' φ H h) (ra : RVs K T' φ H ws vs) : Rel K T (φ ++ [some D]) H (h ++ [.lst ws]) := by
  refine ⟨fun i j a h1 h2 => ?_, by simp [r.len], fun a q => r.hd a (g.up a q), fun a q m => ?_, fun n u a h1 h2 => ?_, fun n h1 => ?_⟩
  · rcases grow_at h1 with z1 | ⟨z1, y1⟩ <;> rcases grow_at h2 with z2 | ⟨z2, y2⟩
    · exact r.nd i j a z1 z2
    · exact absurd (List.mem_of_getElem? (y2 ▸ z1)) fD
    · exact absurd (List.mem_of_getElem? (y1 ▸ z2)) fD
    · rw [z1, z2]
  · rcases List.mem_append.mp m with z | z
    · exact r.hf a (g.up a q) z
    · rw [Option.some.inj (List.mem_singleton.mp z)] at q
      exact nD q
  · rcases grow_at h2 with z | ⟨z, y⟩
    · have hn : n < h.length := by rw [← r.len]; exact (List.getElem?_eq_some_iff.mp z).1
      rw [List.getElem?_append_left hn] at h1
      exact RO.promote g hd (r.at_ n u a h1 z)
    · cases y
      rw [z, r.len, List.getElem?_append_right (Nat.le_refl _)] at h1
      simp at h1
      rw [← h1]
      exact ⟨vs, eD, RVs.promote g hd _ _ ra⟩
  · rcases grow_at h1 with z | ⟨_, y⟩
    · have hn : n < h.length := by rw [← r.len]; exact (List.getElem?_eq_some_iff.mp z).1
      rw [List.getElem?_append_left hn]
      exact r.dd n z
    · cases y
end
/-- the list made, to be changed later -/
theorem PostL.new {φ1 : Pl} {H1 : Hp} {h1 : Hb} {Q : VK} {Z : Value → Option Addr → Hp → Prop} {K : PySem.W.Frag} {r : R (List W)} (rl : Rel K T φ1 H1 h1) (nx : ∀ e h', r ≠ .ex e h') (p : Post K T Z φ1 H1 (r.bind fun vs h5 => .ok (.ref h5.length) (h5 ++ [.lst vs])) Q) : PostL K T φ1 H1 Q r := by
  cases r with
  | no => exact p
  | ex e h' => exact absurd rfl (nx e h')
  | ok ws h' =>
    intro T' φ' D vs H' g hd hD x rl' eD fD ra
    refine p (φ' ++ [some D]) _ H' ⟨fun n y e => ?_, fun b h n => ?_, x.keep⟩ (rl'.promote g hd (fun q => by obtain ⟨o, z⟩ := rl.hd D q; rw [hD] at z; cases z) eD fD ra) (by simp only [RV]; exact ⟨D, rfl, by rw [← rl'.len]; simp⟩)
    · exact (x.pre n y e).imp (fun z => by rw [List.getElem?_append_left (List.getElem?_eq_some_iff.mp z).1]; exact z) fun z => by rw [List.getElem?_append_left (List.getElem?_eq_some_iff.mp z).1]; exact z
    rcases List.mem_append.mp h with z | z
    · exact x.new b z n
    · rw [Option.some.inj (List.mem_singleton.mp z)]; exact hD

/-! the comprehension's reading -/
def tExT (T : Tab) (t : Tab → TT) : TT := fun σ H Q => ∃ T', T'.ca = T.ca ∧ t T' σ H Q
def tExE (T : Tab) (t : Tab → TE) : TE := fun σ H Q => ∃ T', T'.ca = T.ca ∧ t T' σ H Q
def tExG (T : Tab) (t : Tab → TG) : TG := fun v σ H Q => ∃ T', T'.ca = T.ca ∧ t T' v σ H Q
theorem tLc_mono {wi : TI} {g : TG} {tt : TT} {te : TE} {vs : List Nat} {Q Q' : VK} (hw : ∀ {σ H R R'}, (∀ J H1, R J H1 → R' J H1) → wi σ H R → wi σ H R') (h : tLc wi g tt te vs σ H Q) (m : ∀ v H, Q v H → Q' v H) : tLc wi g tt te vs σ H Q' := by
  refine hw (fun J H1 r D hD => ?_) h
  obtain ⟨W, w0, step⟩ := r D hD
  refine ⟨W, w0, fun i k H w => ?_⟩
  rcases step i k H w with ⟨a, b⟩ | b
  · exact .inl ⟨a, m _ _ b⟩
  · exact .inr b
theorem cm_read {elt c it : E} {t : Tg} {own : List Nat} {Q : VK} (ht : ∀ i ∈ t.vs, i ∈ own) (s : RS X.K T φ H σb σ) (rl : Rel X.K T φ H h)
    (p : match (evalE C it σb h) with
      | .ok w h1 => ∃ ws, itemsI h1 w = some ws ∧ ∀ φ1 H1, Ex X.K φ φ1 H H1 → Rel X.K T φ1 H1 h1 → PostL X.K T φ1 H1 Q (forC (turnC C elt t c own σb) (fun h' => stays h1 h' w) ws [] h1)
      | .ex x h' => ∀ φ' H' cls d, Ex X.K φ φ' H H' → Rel X.K T φ' H' h' → RX X.K T φ' H' x cls d → Wx cls d σ H'
      | .no => False) :
    tLc (tW X.K T Wx (evalE C it)) (tExG T fun T' => tG X.K T' t) (tExT T fun T' => tT X.K T' Wn (evalE C c)) (tExE T fun T' => tI X.K T' Wn (evalE C elt)) own σ H Q := by
  refine ⟨φ, σb, h, s, rl, ?_⟩
  cases q : evalE C it σb h with
  | no => rw [q] at p; exact p
  | ex e h' => rw [q] at p; exact p
  | ok w h1 =>
    rw [q] at p
    obtain ⟨ws, hi, f⟩ := p
    refine ⟨ws, hi, fun φ1 H1 J x rl1 wk D hD => ?_⟩
    obtain ⟨T', hT'⟩ : ∃ T' : Tab, T' = { T with hid := fun a => T.hid a ∨ a = D } := ⟨_, rfl⟩
    have hca : T'.ca = T.ca := by rw [hT']
    obtain ⟨W, w0, step⟩ := lc_turns X.K T ht (s.mono x) rl1 wk (f φ1 H1 x rl1) D hD T' hT'
    refine ⟨W, w0, fun i m H2 w2 => ?_⟩
    rcases step i m H2 w2 with z | ⟨go, Nx, hNx, tn⟩
    · exact .inl z
    · refine .inr ⟨go, Nx, hNx, fun xv H3 hy => ⟨T', hca, ?_⟩⟩
      obtain ⟨φ2, σ2, u, σ3, s2, r2, es, k⟩ := tn xv H3 hy
      refine ⟨φ2, σ2, u, σ3, s2, r2, es, fun σ4 s4 sm => ?_⟩
      obtain ⟨e1, k2⟩ := k σ4 s4 sm
      refine ⟨e1, T', hca, ?_⟩
      refine tR_mono k2 ?_
      rintro v H5 ⟨b, e, q5⟩
      refine ⟨b, e, ?_⟩
      cases b with
      | false => exact q5
      | true => exact ⟨T', hca, q5⟩
/-- a block's context, whatever it starts from -/
def Blk (X : L2.Cx) (scope : Scope) (P : L2.Cx → Prop) : Prop := ∀ (s : Shared) (H : Hp) (C : Addr) (cl : List (Str × Addr)) (fp : List Addr), P (X.blk s H scope (compEnvC scope cl C X.env) fp)
variable {elt iter : Expr} {ifs : List Expr} {scope : Scope} {own : List (Str × Nat)} {t : Tg} {it c' elt' : E}
theorem d_cm (hc : X.calm = true) (hN : X.N.Nodup) (hi : DI X T Wx C tg iter it) (ok : BlkOk X.N X.env.scope scope own) (ho : ∀ i ∈ t.vs, i ∈ own.map (·.2))
    (hg : ∀ T' : Tab, T'.ca = T.ca → Blk X scope fun B => PG B tg (tG X.K T' t)) (ht : ∀ T' : Tab, T'.ca = T.ca → Blk X scope fun B => PTs B ifs (tT X.K T' Wn (evalE C c'))) (he : ∀ T' : Tab, T'.ca = T.ca → Blk X scope fun B => D B T' Wn C elt elt')
    (hs : ∀ x, foldedSetIterable iter X.env x = pure x) :
    PE X (.ListComp elt [⟨tg, iter, ifs, 0⟩] scope pos) (tLc (tW X.K T Wx (evalE C it)) (tExG T fun T' => tG X.K T' t) (tExT T fun T' => tT X.K T' Wn (evalE C c')) (tExE T fun T' => tI X.K T' Wn (evalE C elt')) (own.map (·.2))) ∧
    D X T Wx C (.ListComp elt [⟨tg, iter, ifs, 0⟩] scope pos) (.cm elt' t it c' (own.map (·.2))) ∧ D X T Wx C (.ListComp elt [⟨tg, iter, ifs, 0⟩] scope pos) (.new (.cm elt' t it c' (own.map (·.2)))) := by
  have key : PE X (.ListComp elt [⟨tg, iter, ifs, 0⟩] scope pos) (tLc (tW X.K T Wx (evalE C it)) (tExG T fun T' => tG X.K T' t) (tExT T fun T' => tT X.K T' Wn (evalE C c')) (tExE T fun T' => tI X.K T' Wn (evalE C elt')) (own.map (·.2))) := by
    refine pe_lc hc hN hi ok (fun s H D cl fp => ?_) (fun s H D cl fp => ?_) (fun s H D cl fp => ?_) hs
    · exact ⟨fun pins s σ H v u Q I r ⟨T', e, q⟩ => (hg T' e _ _ _ _ _).run pins s σ H v u Q I r q⟩
    · exact ⟨fun pins s σ H Q I ⟨T', e, q⟩ => (ht T' e _ _ _ _ _).run pins s σ H Q I q⟩
    · exact ⟨fun pins s σ H Q I ⟨T', e, q⟩ => (he T' e _ _ _ _ _).run pins s σ H Q I q⟩
  refine ⟨key, key.weak fun σ H Q ⟨φ, σb, h, s, rl, p⟩ => ?_, key.weak fun σ H Q ⟨φ, σb, h, s, rl, p⟩ => ?_⟩
  · refine cm_read ho s rl ?_
    rw [evalE_cm] at p
    cases q : evalE C it σb h with
    | no => rw [q] at p; exact p
    | ex e h' => rw [q] at p; exact p
    | ok w h1 =>
      rw [q] at p
      simp only [R.bind] at p
      cases hi : itemsI h1 w with
      | none => rw [hi] at p; exact p.elim
      | some ws =>
        rw [hi] at p
        exact ⟨ws, hi, fun φ1 H1 x rl1 => PostL.lit (Z := ZX Wx σ) rl1 (fun e h' => forC_nx e h') (PostR.ext x p)⟩
  · refine cm_read ho s rl ?_
    rw [evalE, evalE_cm] at p
    cases q : evalE C it σb h with
    | no => rw [q] at p; exact p
    | ex e h' => rw [q] at p; exact p
    | ok w h1 =>
      rw [q] at p
      simp only [R.bind] at p
      cases hi : itemsI h1 w with
      | none => rw [hi] at p; exact p.elim
      | some ws =>
        rw [hi] at p
        dsimp only at p
        refine ⟨ws, hi, fun φ1 H1 x rl1 => PostL.new (Z := ZX Wx σ) rl1 (fun e h' => forC_nx e h') (PostR.ext x ?_)⟩
        cases q2 : forC (turnC C elt' t c' (own.map (·.2)) σb) (fun h' => stays h1 h' w) ws [] h1 with
        | no => rw [q2] at p; exact p
        | ex e h' => rw [q2] at p; exact p
        | ok vs h' => rw [q2] at p; exact p
end
end Y
/-! Y7b: the loops of comprehensions of one and of two clauses, whatever is made: lists, dicts. -/
namespace Y
open PySem PySem.Spec PyProof.Rows L2

/-- a turn of a comprehension's clause: BODY is what follows the tests -/
def turnOf {β : Type} (ce : Expr) (lv : Nat) (tg : Expr) (ifs : List Expr) (p : Pos) (it acc : Value) (env : Env) (BODY : Sem β) : Sem Fin := do
  standAt p
  match ← pyNext it with
  | none => pure (.done .next)
  | some v =>
    letOwnedTupleGo tg it v
    assign tg env v
    let ok ← forIn ifs true fun c r => if r = true then do let ok ← isTrue c env (eval c env); pure (ForInStep.yield ok) else pure (ForInStep.yield r)
    if ok = true then
      let _ ← BODY
      again (.compLoop ce lv it acc env)
    else again (.compLoop ce lv it acc env)
/-- what a clause's loop asks: tb what the body asks -/
def tLoop (J : It) (g : TG) (tt : TT) (tb : L2.St → Hp → (Hp → Prop) → Prop) (vs : List Nat) (σ : L2.St) (H0 : Hp) (Qd : Hp → Prop) : Prop :=
  ∃ W : Nat → Nat → Hp → Prop, (∃ m, W 0 m H0) ∧ ∀ i m H, W i m H → (J.stop i H ∧ Qd H) ∨
    (J.go i H ∧ ∃ Nx : Hp → Prop, (∀ H', Nx H' → ∃ m', m' < m ∧ W (i + 1) m' H') ∧ ∀ x H', J.yld i H x H' → g x (L2.wipe σ vs) H' fun σ2 H2 => L2.wipe σ2 vs = L2.wipe σ vs ∧ tt σ2 H2 fun b H3 => if b = true then tb σ2 H3 Nx else Nx H3)
/-- a body in the context B; the slots vb are forgotten behind it -/
def PBody {β : Type} (B : L2.Cx) (BODY : Sem β) (tb : L2.St → Hp → (Hp → Prop) → Prop) (vb : List Nat) : Prop :=
  ∀ (pins : List (Addr × Obj)) (s : Shared) (σ : L2.St) (H : Hp) (N : Hp → Prop), L2.Inv B pins σ H s → tb σ H N →
    wpAny (model B.prog B.w) B.A BODY (fun _ s' => ∃ H', L2.Inv B pins (L2.wipe σ vb) H' s' ∧ N H') (fun _ _ => False) s
section
variable {B : L2.Cx} {ce tg : Expr} {lv : Nat} {ifs : List Expr} {p : Pos} {acc : Value} {it : Addr} {fp : List Addr} {tn : Nat → Heap → Prop} {J : It} {β : Type} {BODY : Sem β} {g : TG} {tt : TT} {tb : L2.St → Hp → (Hp → Prop) → Prop} {vb vs : List Nat}
theorem comp_loop {pins : List (Addr × Obj)} {σ : L2.St} {H : Hp} {s : Shared} {R : Result → Shared → Prop} {Qd : Hp → Prop} (eq : compTurn ce lv (.ref it) acc B.env = turnOf ce lv tg ifs p (.ref it) acc B.env BODY)
    (hden : ∀ c : Code, c = .compLoop ce lv (.ref it) acc B.env → c.quiet = true ∧ B.A.under c = B.A ∧ (model B.prog B.w).den c = (compTurn ce lv (.ref it) acc B.env).onRaise (fun x => do noteFrame x B.env; theTreesLotGoes x))
    (tu : Turn B.prog B.w B.K tg J fp it tn) (hc : B.calm = true) (hxe : B.xe = fun _ _ => False) (pg : PG B tg g) (pt : PTs B ifs tt) (pb : PBody B BODY tb vb) (hvb : ∀ i ∈ vb, i ∈ vs)
    (stat : ∀ H', (∀ b ∈ fp, H' b = none) → ∀ b ∈ fp, FpOk B pins H' b) (I : L2.Inv B pins (L2.wipe σ vs) H s) (st : tn 0 s.heap) (n0 : ∀ b ∈ fp, H b = none) (r : tLoop J g tt tb vs σ H Qd)
    (fin : ∀ s' H', L2.Inv B pins (L2.wipe σ vs) H' s' → Qd H' → R (.ok .next) s') : codeAny (model B.prog B.w) B.A (.compLoop ce lv (.ref it) acc B.env) R s := by
  obtain ⟨W, ⟨m0, w0⟩, turn⟩ := r
  obtain ⟨hq, hu, hd⟩ := hden _ rfl
  refine codeAny_loop hq (fun n s' => ∃ i H', L2.Inv B pins (L2.wipe σ vs) H' s' ∧ tn i s'.heap ∧ (∀ b ∈ fp, H' b = none) ∧ W i n H') (fun n s1 ⟨i, H1, I1, st1, n1, w1⟩ => ?_) m0 ⟨0, H, I, st, n0, w0⟩
  rw [hd, hu]
  refine wpAny_noted ?_
  rw [eq]
  refine wpAny_bind (wpAny_standAt (wpAny_bind ?_))
  rcases turn i n H1 w1 with ⟨stop, qd⟩ | ⟨go, Nx, hNx, step⟩
  · refine thnF (tu.done B rfl rfl rfl hc i pins s1 _ H1 (fun _ _ => False) I1 (stat H1 n1) st1 stop) fun o s2 ⟨ho, I2⟩ => ?_
    subst ho
    exact wpAny_pure (fin s2 H1 I2 qd)
  · refine thnF (tu.item B rfl rfl rfl hc i pins s1 _ H1 (fun _ _ => False) I1 (stat H1 n1) st1 go) fun o s2 ⟨u, ho, lets⟩ => ?_
    subst ho
    refine wpAny_bind (thnF lets fun _ s3 ⟨x, H3, I3, rx, yx, st3, n3⟩ => ?_)
    have I3' := I3.pinned (stat H3 n3) (tu.obj _ _ st3)
    have a4 := pg.run _ s3 _ H3 x u _ I3' rx (step x H3 yx)
    rw [hxe] at a4
    refine wpAny_bind (thnF a4 fun _ s4 ⟨σ4, H4, I4, hw, q4⟩ => ?_)
    have a5 := pt.run _ s4 σ4 H4 _ I4 q4
    rw [hxe] at a5
    refine wpAny_bind (thnF a5 fun b s5 ⟨H5, I5, q5⟩ => ?_)
    -- to the next turn, from slots that know what was known
    have next : ∀ (σ' : L2.St) (s' : Shared) (H' : Hp), L2.Inv B (pins ++ pinsAt fp s3.heap) σ' H' s' → (L2.wipe σ vs).length = σ'.length → (∀ (j : Nat) v, (L2.wipe σ vs)[j]? = some (some v) → σ'[j]? = some (some v)) → Nx H' →
        ∃ m, m < n ∧ ∃ i H', L2.Inv B pins (L2.wipe σ vs) H' s' ∧ tn i s'.heap ∧ (∀ b ∈ fp, H' b = none) ∧ W i m H' := by
      intro σ' s' H' I' hl hk nx
      obtain ⟨m', hm, w'⟩ := hNx H' nx
      have held : ∀ b ∈ fp, ∀ o, s3.heap.get? b = some o → s'.heap.get? b = some o ∧ H' b = none := by
        intro b hb o e
        have z := I'.pin (b, o) (List.mem_append_right _ (List.mem_append_right _ (mem_pinsAt hb e)))
        exact ⟨z.1, z.2.1⟩
      refine ⟨m', hm, i + 1, H', I'.unpinned.weak hl hk, tu.keep _ _ _ st3 (fun b hb o e => (held b hb o e).1), fun b hb => ?_, w'⟩
      obtain ⟨o, e, _⟩ := tu.obj _ _ st3 b hb
      exact (held b hb o e).2
    have known : ∀ (j : Nat) v, (L2.wipe σ vs)[j]? = some (some v) → σ4[j]? = some (some v) ∧ j ∉ vs := by
      intro j v e
      rw [← hw] at e
      exact wipe_some e
    have len4 : (L2.wipe σ vs).length = σ4.length := by rw [← hw, wipe_length]
    cases b with
    | false => exact wpAny_pure ⟨rfl, next σ4 s5 H5 I5 len4 (fun j v e => (known j v e).1) q5⟩
    | true =>
      refine wpAny_bind (thnF (pb _ s5 σ4 H5 Nx I5 q5) fun _ s6 ⟨H6, I6, q6⟩ => ?_)
      refine wpAny_pure ⟨rfl, next _ s6 H6 I6 (len4.trans (wipe_length _ _).symm) (fun j v e => ?_) q6⟩
      obtain ⟨e1, e2⟩ := known j v e
      rw [wipe_out fun z => e2 (hvb j z)]
      exact e1
/-- a comprehension entered and left; rd: what its loop asks; o0: what is made -/
theorem comp_enter {X : L2.Cx} {ce tg iter : Expr} {ifs : List Expr} {gs : List Comprehension} {scope : Scope} {own : List (Str × Nat)} {pos' : Pos} {pins : List (Addr × Obj)} {s : Shared} {σ : L2.St} {H : Hp} {Q : VK} {wi : TI} {use : Option (Value → Sem Unit)} {Qf : Value → Shared → Prop}
    {newAcc : Sem Value} {ob0 : Obj} {o0 : Addr → HO} {rd : It → Addr → Hp → (Hp → Prop) → Prop} (hcl : clausesOf ce = ⟨tg, iter, ifs, 0⟩ :: gs) (hs : ∀ x, foldedSetIterable iter X.env x = pure x)
    (hnew : ∀ (s : Shared) (Q : Value → Shared → Prop) (E : Value → Shared → Prop), Q (.ref s.heap.objs.size) { s with heap := s.heap.push ob0 } → wpAny (model X.prog X.w) X.A newAcc Q E s)
    (hob : ∀ (h : Heap) (H : Hp), sysModules < h.objs.size → ObjOk X.prog X.w H (h.push ob0) h.objs.size (o0 h.objs.size)) (hN : X.N.Nodup) (hc : X.calm = true) (I : L2.Inv X pins σ H s) (hi : PI X tg iter wi) (ok : BlkOk X.N X.env.scope scope own)
    (hstart : ∀ (it acc : Value) (env : Env) (R : Result → Shared → Prop) (s : Shared), codeAny (model X.prog X.w) X.A (.compLoop ce 0 it acc env) R s →
      wpAny (model X.prog X.w) X.A (pyIter it) (fun it' s' => codeAny (model X.prog X.w) X.A (.compLoop ce 0 it' acc env) R s') (notedBy (model X.prog X.w) X.A env fun x s' => R (.error x) s') s → codeAny (model X.prog X.w) X.A (.compStart ce 0 it acc env) R s)
    (h : wi σ H fun J H1 => ∀ D, H1 D = none → (D == sysModules) = false → rd J D (upd H1 D (o0 D)) (fun H' => Q (.ref D) H'))
    (hloop : ∀ (s0 : Shared) (H0 : Hp) (C : Addr) (cl : List (Str × Addr)) (fp : List Addr) (it D : Addr) (tn : Nat → Heap → Prop) (J : It) (s1 : Shared) (R : Result → Shared → Prop) (Qd : Hp → Prop), Turn X.prog X.w X.K tg J fp it tn →
      (∀ H', (∀ b ∈ fp, H' b = none) → ∀ b ∈ fp, FpOk (X.blk s0 H0 scope (compEnvC scope cl C X.env) fp) [] H' b) → L2.Inv (X.blk s0 H0 scope (compEnvC scope cl C X.env) fp) [] (L2.wipe σ (own.map (·.2))) H0 s1 → tn 0 s1.heap → (∀ b ∈ fp, H0 b = none) → rd J D H0 Qd →
      (∀ s' H', L2.Inv (X.blk s0 H0 scope (compEnvC scope cl C X.env) fp) [] (L2.wipe σ (own.map (·.2))) H' s' → Qd H' → R (.ok .next) s') → codeAny (model X.prog X.w) X.A (.compLoop ce 0 (.ref it) (.ref D) (compEnvC scope cl C X.env)) R s1)
    (hRR : ∀ D C s' m H', L2.Inv X pins σ H' s' → Q (.ref D) H' → s'.heap.Ns C m → FpOk X pins H' C → compPost (model X.prog X.w) X.A X.xe use Qf (.ref D) C (.ok .next) s') :
    wpAny (model X.prog X.w) X.A (comprehension ce scope X.env pos' newAcc false (eval iter X.env) use) Qf X.xe s := by
  have captured : ∀ y ∈ scope.names, y.2 = .free → ∃ c, X.env.cells.lookup y.1 = some c := by
    intro y hy e
    rcases ok.free y hy e with k | k
    · exact I.ok.has _ (.inl k)
    · exact I.ok.has _ (.inr k)
  refine wpAny_comprehension_free (use := use) hcl hs (closure_ok captured) ok.kind (fun y hy e => by rw [ok.uniq y hy, e]) (thn (hi.run pins s σ H _ I h) fun xv s1 hx => thn hx fun itv s2 entered => ?_)
  obtain ⟨it, fp, tn, J, H2, rfl, I2, tu, st2, f2, q⟩ := entered
  refine hnew _ _ _ (newEnv_comp ?_)
  obtain ⟨D, hD⟩ : ∃ D, D = s2.heap.objs.size := ⟨_, rfl⟩
  rw [← hD]
  have nD : H2 D = none := I2.hok.fresh (Nat.le_of_eq hD.symm)
  have lo : (D == sysModules) = false := beq_eq_false_iff_ne.mpr fun e => Nat.ne_of_lt I2.big (by rw [← e, hD])
  have rd0 := q D nD lo
  -- what is made stands
  obtain ⟨s3, hs3⟩ : ∃ s3 : Shared, s3 = { s2 with heap := s2.heap.push ob0 } := ⟨_, rfl⟩
  have I3 : L2.Inv X pins σ (upd H2 D (o0 D)) s3 := by
    rw [hs3]
    refine I2.laid (t' := s2.toks) (fun b o e => Heap.get?_push_of_some _ e) (Nat.le_of_eq hD.symm) ?_
    rw [hD]
    exact hob s2.heap _ I2.big
  rw [← hs3]
  have e3 : s3.heap = s2.heap.push ob0 := by rw [hs3]
  obtain ⟨H3, hH3⟩ : ∃ H3, H3 = upd H2 D (o0 D) := ⟨_, rfl⟩
  rw [← hH3] at I3 rd0
  have young : ∀ b ∈ fp, FpOk X pins H3 b ∧ b < s3.heap.objs.size := by
    intro b hb
    obtain ⟨o, e, _⟩ := tu.obj _ _ st2 b hb
    have lt := Heap.lt_size e
    refine ⟨⟨?_, (f2 b hb).2⟩, by rw [e3, Heap.size_push]; exact Nat.lt_succ_of_lt lt⟩
    rw [hH3, upd_ne (by rw [hD]; exact Nat.ne_of_lt lt)]
    exact (f2 b hb).1
  have I4 := block_start I3 ok hN young
  obtain ⟨cl, hcl'⟩ : ∃ cl, cl = cellsFrom (s3.heap.objs.size + 1) scope.names (cloFrom X.env.cells scope.names []) := ⟨_, rfl⟩
  obtain ⟨s4, hs4⟩ : ∃ s4 : Shared, s4 = { s3 with heap := pushCells (s3.heap.push { cls := .type "dict", data := .dict #[] }) scope.names } := ⟨_, rfl⟩
  have st4 : tn 0 s4.heap := tu.keep _ _ _ st2 fun b _ o e => by
    rw [hs4]
    exact pushCells_keeps _ _ _ _ (Heap.get?_push_of_some _ (by rw [e3]; exact Heap.get?_push_of_some _ e))
  rw [← hcl', ← hs4] at I4
  show codeAny _ _ (.compStart ce 0 (.ref it) (.ref D) (compEnvC scope (cellsFrom (s3.heap.objs.size + 1) scope.names (cloFrom X.env.cells scope.names [])) s3.heap.objs.size X.env)) (compPost (model X.prog X.w) X.A X.xe use Qf (.ref D) s3.heap.objs.size) { s3 with heap := pushCells (s3.heap.push { cls := .type "dict", data := .dict #[] }) scope.names }
  rw [← hcl', ← hs4]
  obtain ⟨C, hC⟩ : ∃ C, C = s3.heap.objs.size := ⟨_, rfl⟩
  rw [← hC] at I4 ⊢
  have stat : ∀ H', (∀ b ∈ fp, H' b = none) → ∀ b ∈ fp, FpOk (X.blk s3 H3 scope (compEnvC scope cl C X.env) fp) [] H' b := fun H' hn b hb =>
    ⟨hn b hb, (I4.ok.exf b hb).1, I4.ok.exfs b hb, .inl hb, fun x c e => (I4.ok.exf b hb).2 x c e, fun p hp => absurd (show p ∈ ([] : List (Addr × Obj)) ++ [] from hp) (by simp)⟩
  have loop := hloop s3 H3 C cl fp it D tn J s4 (compPost (model X.prog X.w) X.A X.xe use Qf (.ref D) C) (fun H' => Q (.ref D) H') tu stat I4 st4 (fun b hb => (young b hb).1.1) rd0 fun s' H' I' qd => by
    have back : L2.Inv X pins σ H' s' := I3.call' (ch := fp) I'.os I'.base I'.hok I'.bare fun b hb => ⟨(young b hb).1.2.2.2.1, (young b hb).1.2.1, (young b hb).1.2.2.2.2.1, (young b hb).1.2.2.2.2.2⟩
    obtain ⟨m, hn, _⟩ := I'.loc
    exact hRR D C s' m H' back qd hn (I3.fpOk (Nat.le_of_eq hC.symm) I'.free)
  exact hstart _ _ _ _ _ loop (tu.self X.A 0 _ _ _ st4 loop)
end
end Y
/-! Y7c: comprehensions that make dicts, and those of two clauses, run as Y's. -/
namespace Y
open PySem PySem.Spec PyProof.Rows L2

/-- as Ex, but what is made at D may change -/
structure ExD (K : PySem.W.Frag) (D : Addr) (φ φ' : Pl) (H H' : Hp) : Prop where
  pre : ∀ (n : Nat) (x : Option Addr), φ[n]? = some x → φ'[n]? = some x ∨ φ'[n]? = some none
  new : ∀ b, some b ∈ φ' → some b ∉ φ → H b = none
  keep : ∀ b o, H b = some o → some b ∉ φ → b ≠ D → H' b = some o
section
variable {K : PySem.W.Frag} {T T' : Tab} {D : Addr} {φ φ1 φ2 φ' : Pl} {H H1 H2 H' : Hp}
theorem Ex.d (x : Ex K φ φ' H H') (D : Addr) : ExD K D φ φ' H H' := ⟨x.pre, x.new, fun b o e n _ => x.keep b o e n⟩
theorem ExD.refl : ExD K D φ φ H H := (Ex.refl (K := K) (φ := φ) (H := H)).d D
theorem ExD.u (x : ExD K D φ φ' H H') (h : T.hid D) : ExU K T φ φ' H H' := ⟨x.pre, x.new, fun b o e n k => x.keep b o e n fun z => k (by rw [z]; exact h)⟩
theorem ExD.trans (x : ExD K D φ φ1 H H1) (y : ExD K D φ1 φ2 H1 H2) (hf : some D ∉ φ2) : ExD K D φ φ2 H H2 := by
  refine ⟨fun n v e => ?_, fun b h n => ?_, fun b o e n k => ?_⟩
  · rcases x.pre n v e with z | z
    · exact y.pre n v z
    · rcases y.pre n none z with u | u <;> exact .inr u
  · by_cases h1 : some b ∈ φ1
    · exact x.new b h1 n
    · have e := y.new b h h1
      cases q : H b with
      | none => rfl
      | some o =>
        rw [x.keep b o q n fun k => hf (by rw [← k]; exact h)] at e
        cases e
  · refine y.keep b o (x.keep b o e n k) (fun z => ?_) k
    rw [x.new b z n] at e
    cases e
/-- D is written -/
theorem ExD.put {o : HO} (n : some D ∉ φ) : ExD K D φ φ H (upd H D o) := ⟨fun n x e => .inl e, fun b h n => absurd h n, fun b u e _ k => by rw [upd_ne k]; exact e⟩
/-- back to where D was not yet -/
theorem ExD.back {o : HO} (hD : H D = none) (x : ExD K D φ φ' (upd H D o) H') : Ex K φ φ' H H' := by
  refine ⟨x.pre, fun b h n => ?_, fun b u e n => ?_⟩
  · have e := x.new b h n
    by_cases z : b = D
    · rw [z]; exact hD
    · rw [upd_ne z] at e; exact e
  · have z : b ≠ D := fun z => by rw [z, hD] at e; cases e
    exact x.keep b u (by rw [upd_ne z]; exact e) n z
theorem RS.monoU {σb : Sb} {σ : L2.St} (x : ExU K T φ φ' H H') (s : RS K T φ H σb σ) : RS K T φ' H' σb σ := ⟨s.len, fun i w e => let ⟨v, h, r⟩ := s.at_ i w e; ⟨v, h, RV.monoU x w v r⟩⟩
/-- a loop that ends well -/
def okA {α : Type} (P : α → Hb → Prop) : R α → Prop
  | .ok a h => P a h
  | _ => False
/-- the turns of a clause -/
theorem lp_turns {α : Type} {RA : Pl → Hp → α → Prop} {f : W → α → Hb → R α} {w : W} {ws : List W} {J : It} {own : List Nat} {σb : Sb} {σ : L2.St} {φ0 : Pl} {H0 : Hp} {h0 : Hb} {acc0 : α} {g : TG} {tt : TT} {tb : L2.St → Hp → (Hp → Prop) → Prop} {Qd : Hp → Prop}
    (hid : T'.hid D) (ra_n : ∀ φ H acc, RA φ H acc → some D ∉ φ) (ra_ex : ∀ φ φ' H H' acc, Ex K φ φ' H H' → RA φ H acc → RA φ' H' acc) (wk : Walks K T' J φ0 H0 h0 w ws) (s0 : RS K T' φ0 H0 σb σ) (rl0 : Rel K T' φ0 H0 h0) (r0 : RA φ0 H0 acc0)
    (body : ∀ u acc h φ H acc1 h1 xv, ExD K D φ0 φ H0 H → Rel K T' φ H h → RA φ H acc → RS K T' φ H (wipe σb own) (L2.wipe σ own) → RV K T' φ H u xv → f u acc h = .ok acc1 h1 → ∀ Nx : Hp → Prop, (∀ φ3 H3, ExD K D φ φ3 H H3 → Rel K T' φ3 H3 h1 → RA φ3 H3 acc1 → Nx H3) →
      g xv (L2.wipe σ own) H fun σ2 H2 => L2.wipe σ2 own = L2.wipe σ own ∧ tt σ2 H2 fun b H3 => if b = true then tb σ2 H3 Nx else Nx H3)
    (p : okA (fun acc h' => ∀ φ' H', ExD K D φ0 φ' H0 H' → Rel K T' φ' H' h' → RA φ' H' acc → Qd H') (forA f (fun h' => stays h0 h' w) ws acc0 h0)) : tLoop J g tt tb own σ H0 Qd := by
  obtain ⟨P, hP⟩ : ∃ P : α → Hb → Prop, P = fun acc h' => ∀ φ' H', ExD K D φ0 φ' H0 H' → Rel K T' φ' H' h' → RA φ' H' acc → Qd H' := ⟨_, rfl⟩
  rw [← hP] at p
  obtain ⟨NX, hNX⟩ : ∃ NX : Nat → Hp → Prop, NX = fun i H => ∃ φ h acc, ExD K D φ0 φ H0 H ∧ Rel K T' φ H h ∧ RA φ H acc ∧ okA P (forA f (fun h' => stays h0 h' w) (ws.drop i) acc h) := ⟨_, rfl⟩
  refine ⟨fun i m H => m = ws.length - i ∧ i ≤ ws.length ∧ NX i H, ⟨ws.length, by simp, Nat.zero_le _, ?_⟩, ?_⟩
  · rw [hNX]
    exact ⟨φ0, h0, acc0, .refl, rl0, r0, by rw [List.drop_zero]; exact p⟩
  · rintro i m H ⟨rfl, hi, nx⟩
    rw [hNX] at nx
    obtain ⟨φ, h, acc, x, rl, ra, q⟩ := nx
    have nD := ra_n _ _ _ ra
    cases hw : ws[i]? with
    | none =>
      have hl : i = ws.length := Nat.le_antisymm hi (List.getElem?_eq_none_iff.mp hw)
      rw [hl, List.drop_length] at q
      unfold forA at q
      split at q
      · rename_i st
        refine .inl ⟨(wk T' .refl i φ h H (x.u hid) rl st).2 hl, ?_⟩
        have q' : P acc h := q
        rw [hP] at q'
        exact q' φ H x rl ra
      · exact q.elim
    | some u =>
      have hlt : i < ws.length := (List.getElem?_eq_some_iff.mp hw).1
      rw [List.drop_eq_getElem?_toList_append, hw] at q
      simp only [Option.toList_some, List.singleton_append] at q
      unfold forA at q
      split at q
      · rename_i st
        obtain ⟨go, yl⟩ := (wk T' .refl i φ h H (x.u hid) rl st).1 u hw
        split at q
        · rename_i acc1 h1 e
          refine .inr ⟨go, NX (i + 1), fun H' r => ⟨ws.length - (i + 1), by omega, rfl, hlt, r⟩, fun xv H2 hy => ?_⟩
          obtain ⟨x2, rl2, rx⟩ := yl xv H2 hy
          have xx := x.trans (x2.d D) nD
          refine body u acc h φ H2 acc1 h1 xv xx rl2 (ra_ex _ _ _ _ _ x2 ra) ((s0.monoU (xx.u hid)).wipe own) rx e _ fun φ3 H3 x3 rl3 ra3 => ?_
          rw [hNX]
          exact ⟨φ3, h1, acc1, xx.trans x3 (ra_n _ _ _ ra3), rl3, ra3, q⟩
        · exact q.elim
      · exact q.elim
end
/-! ### a turn, as Y has it: F what follows the test -/
def turnA {α : Type} (C : Ctx) (t : Tg) (c : E) (own : List Nat) (σ : Sb) (F : Sb → α → Hb → R α) : W → α → Hb → R α := fun x acc h2 => match setT t x (wipe σ own) with
  | some σ' => (evalE C c σ' h2).bind fun b h3 => (match b with
    | .bl true => F σ' acc h3
    | .bl false => .ok acc h3
    | _ => .no)
  | none => .no
def fsD (C : Ctx) (kx vx : E) : Sb → List W × List W → Hb → R (List W × List W) := fun σ acc h => (evalE C kx σ h).bind fun k h4 => (evalE C vx σ h4).bind fun v h5 => R.ofO (dPut acc.1 acc.2 k v) h5
def fsL (C : Ctx) (elt : E) : Sb → List W → Hb → R (List W) := fun σ acc h => (evalE C elt σ h).bind fun v h7 => if decide (acc.length < 16777216) then .ok (acc ++ [v]) h7 else .no
def fs2 {α : Type} (C : Ctx) (t1 : Tg) (it1 c1 : E) (own1 : List Nat) (F : Sb → α → Hb → R α) : Sb → α → Hb → R α := fun σ acc h => (evalE C it1 σ h).bind fun w1 h4 => (match itemsI h4 w1 with
  | some ws1 => forA (turnA C t1 c1 own1 σ F) (fun h' => stays h4 h' w1) ws1 acc h4
  | none => .no)
theorem evalE_cmd (C : Ctx) (kx vx : E) (t : Tg) (it c : E) (own : List Nat) (σ : Sb) (h : Hb) : evalE C (.cmd kx vx t it c own) σ h = (evalE C it σ h).bind fun w h1 => (match itemsI h1 w with
    | some ws => (forA (turnA C t c own σ (fsD C kx vx)) (fun h' => stays h1 h' w) ws ([], []) h1).bind fun vs h5 => .ok (.dic vs.1 vs.2) h5
    | none => .no) := by rw [evalE]; rfl
theorem evalE_cmd2 (C : Ctx) (kx vx : E) (t : Tg) (it c : E) (t1 : Tg) (it1 c1 : E) (own own1 : List Nat) (σ : Sb) (h : Hb) : evalE C (.cmd2 kx vx t it c t1 it1 c1 own own1) σ h = (evalE C it σ h).bind fun w h1 => (match itemsI h1 w with
    | some ws => (forA (turnA C t c own σ (fs2 C t1 it1 c1 own1 (fsD C kx vx))) (fun h' => stays h1 h' w) ws ([], []) h1).bind fun vs h5 => .ok (.dic vs.1 vs.2) h5
    | none => .no) := by rw [evalE]; rfl
theorem evalE_cm2 (C : Ctx) (elt : E) (t : Tg) (it c : E) (t1 : Tg) (it1 c1 : E) (own own1 : List Nat) (σ : Sb) (h : Hb) : evalE C (.cm2 elt t it c t1 it1 c1 own own1) σ h = (evalE C it σ h).bind fun w h1 => (match itemsI h1 w with
    | some ws => (forA (turnA C t c own σ (fs2 C t1 it1 c1 own1 (fsL C elt))) (fun h' => stays h1 h' w) ws [] h1).bind fun vs h5 => .ok (.lit vs) h5
    | none => .no) := by rw [evalE]; rfl
def Nexts {α : Type} (K : PySem.W.Frag) (T' : Tab) (D : Addr) (RA : Pl → Hp → α → Prop) (φ : Pl) (H : Hp) (h1 : Hb) (acc1 : α) (Nx : Hp → Prop) : Prop := ∀ φ3 H3, ExD K D φ φ3 H H3 → Rel K T' φ3 H3 h1 → RA φ3 H3 acc1 → Nx H3
/-- what follows a test is read by tb -/
def Reads {α : Type} (K : PySem.W.Frag) (T' : Tab) (D : Addr) (RA : Pl → Hp → α → Prop) (F : Sb → α → Hb → R α) (tb : L2.St → Hp → (Hp → Prop) → Prop) : Prop :=
  ∀ σ' σ2 φ H h acc acc1 h1 Nx, RS K T' φ H σ' σ2 → Rel K T' φ H h → RA φ H acc → F σ' acc h = .ok acc1 h1 → Nexts K T' D RA φ H h1 acc1 Nx → tb σ2 H Nx
section
variable {K : PySem.W.Frag} {T' : Tab} {D : Addr} {C : Ctx} {α : Type} {RA : Pl → Hp → α → Prop}
theorem turnA_body {t : Tg} {c : E} {own : List Nat} {σb : Sb} {σ : L2.St} {F : Sb → α → Hb → R α} {tb : L2.St → Hp → (Hp → Prop) → Prop} (ht : ∀ i ∈ t.vs, i ∈ own) (ra_n : ∀ φ H acc, RA φ H acc → some D ∉ φ) (ra_ex : ∀ φ φ' H H' acc, Ex K φ φ' H H' → RA φ H acc → RA φ' H' acc) (rd : Reads K T' D RA F tb)
    {u : W} {acc acc1 : α} {h h1 : Hb} {φ : Pl} {H : Hp} {xv : V} (rl : Rel K T' φ H h) (ra : RA φ H acc) (s : RS K T' φ H (wipe σb own) (L2.wipe σ own)) (rx : RV K T' φ H u xv) (e : turnA C t c own σb F u acc h = .ok acc1 h1) (Nx : Hp → Prop) (nx : Nexts K T' D RA φ H h1 acc1 Nx) :
    tG K T' t xv (L2.wipe σ own) H fun σ2 H2 => L2.wipe σ2 own = L2.wipe σ own ∧ tT K T' Wn (evalE C c) σ2 H2 fun b H3 => if b = true then tb σ2 H3 Nx else Nx H3 := by
  unfold turnA at e
  split at e
  · rename_i σ' et
    refine ⟨φ, _, u, σ', s, rx, et, fun σ2 s2 sm => ⟨(sm.wipe ht).trans (wipe_wipe σ own), φ, σ', h, s2, rl, ?_⟩⟩
    cases ec : evalE C c σ' h with
    | no => rw [ec] at e; cases e
    | ex x h' => rw [ec] at e; cases e
    | ok b h3 =>
      rw [ec] at e
      have e' : (match b with | .bl true => F σ' acc h3 | .bl false => .ok acc h3 | _ => .no) = .ok acc1 h1 := e
      intro φ3 v3 H3 x3 rl3 r3
      split at e'
      · refine ⟨true, r3.bl_inv, iteT ?_⟩
        exact rd σ' σ2 φ3 H3 h3 acc acc1 h1 Nx (s2.mono x3) rl3 (ra_ex _ _ _ _ _ x3 ra) e' fun φ4 H4 x4 rl4 ra4 => nx φ4 H4 ((x3.d D).trans x4 (ra_n _ _ _ ra4)) rl4 ra4
      · cases e'
        exact ⟨false, r3.bl_inv, iteF (nx φ3 H3 (x3.d D) rl3 (ra_ex _ _ _ _ _ x3 ra))⟩
      · cases e'
  · cases e
/-- a second clause -/
def tb2 (K : PySem.W.Frag) (T' : Tab) (C : Ctx) (t1 : Tg) (it1 c1 : E) (own1 : List Nat) (tb : L2.St → Hp → (Hp → Prop) → Prop) : L2.St → Hp → (Hp → Prop) → Prop := fun σ2 H N =>
  tW K T' Wn (evalE C it1) σ2 H fun J1 H4 => tLoop J1 (tG K T' t1) (tT K T' Wn (evalE C c1)) tb own1 σ2 H4 N
theorem reads2 {t1 : Tg} {it1 c1 : E} {own1 : List Nat} {F : Sb → α → Hb → R α} {tb : L2.St → Hp → (Hp → Prop) → Prop} (hid : T'.hid D) (ht : ∀ i ∈ t1.vs, i ∈ own1) (ra_n : ∀ φ H acc, RA φ H acc → some D ∉ φ) (ra_ex : ∀ φ φ' H H' acc, Ex K φ φ' H H' → RA φ H acc → RA φ' H' acc)
    (rd : Reads K T' D RA F tb) : Reads K T' D RA (fs2 C t1 it1 c1 own1 F) (tb2 K T' C t1 it1 c1 own1 tb) := by
  intro σ' σ2 φ H h acc acc1 h1 Nx s rl ra e nx
  unfold fs2 at e
  refine ⟨φ, σ', h, s, rl, ?_⟩
  cases ei : evalE C it1 σ' h with
  | no => rw [ei] at e; cases e
  | ex x h' => rw [ei] at e; cases e
  | ok w1 h4 =>
    rw [ei] at e
    have e' : (match itemsI h4 w1 with | some ws1 => forA (turnA C t1 c1 own1 σ' F) (fun h' => stays h4 h' w1) ws1 acc h4 | none => .no) = .ok acc1 h1 := e
    split at e'
    · rename_i ws1 hi
      refine ⟨ws1, hi, fun φ4 H4 J x4 rl4 wk => ?_⟩
      refine lp_turns (RA := RA) hid ra_n ra_ex wk (s.mono x4) rl4 (ra_ex _ _ _ _ _ x4 ra) (fun u acc h φ H acc1 h1 xv _ rl ra s rx e Nx nx => turnA_body ht ra_n ra_ex rd rl ra s rx e Nx nx) ?_
      rw [e']
      exact fun φ' H' x' rl' ra' => nx φ' H' ((x4.d D).trans x' (ra_n _ _ _ ra')) rl' ra'
    · cases e'
/-! ### what is made: a dict, a list -/
def RAd (K : PySem.W.Frag) (T' : Tab) (D : Addr) (φ : Pl) (H : Hp) (acc : List W × List W) : Prop := RO K T' φ H D (.dct acc.1 acc.2) ∧ some D ∉ φ
def RAl (K : PySem.W.Frag) (T' : Tab) (D : Addr) (φ : Pl) (H : Hp) (acc : List W) : Prop := (∃ vs, H D = some (.lst vs) ∧ RVs K T' φ H acc vs) ∧ some D ∉ φ
theorem RAd.ex {φ φ' : Pl} {H H' : Hp} {acc : List W × List W} (x : Ex K φ φ' H H') (r : RAd K T' D φ H acc) : RAd K T' D φ' H' acc := by
  obtain ⟨ro, n⟩ := r
  have ro' := ro
  obtain ⟨es, kv, vv, ⟨⟨ep, e⟩, _⟩, _⟩ := ro'
  exact ⟨RO.mono x ((x.keep D _ e n).trans e.symm) ro, x.notin e n⟩
theorem RAl.ex {φ φ' : Pl} {H H' : Hp} {acc : List W} (x : Ex K φ φ' H H') (r : RAl K T' D φ H acc) : RAl K T' D φ' H' acc := by
  obtain ⟨⟨vs, e, k⟩, n⟩ := r
  exact ⟨⟨vs, x.keep D _ e n, RVs.mono x _ _ k⟩, x.notin e n⟩
def PutD (K : PySem.W.Frag) (T' : Tab) (D : Addr) (y z : V) (H : Hp) (N : Hp → Prop) : Prop := ∃ φ k v acc acc1, RAd K T' D φ H acc ∧ RV K T' φ H k y ∧ RV K T' φ H v z ∧ dPut acc.1 acc.2 k v = some acc1 ∧
  ∀ es ep, RO K T' φ (upd H D (.ext (IsD D es ep))) D (.dct acc1.1 acc1.2) → N (upd H D (.ext (IsD D es ep)))
def sinkD (K : PySem.W.Frag) (T' : Tab) (D : Addr) (fk fv : Sb → Hb → R W) : L2.St → Hp → (Hp → Prop) → Prop := fun σ H N => tI K T' Wn fk σ H fun y H4 => tI K T' Wn fv σ H4 fun z H5 => PutD K T' D y z H5 N
def sinkL (K : PySem.W.Frag) (T' : Tab) (D : Addr) (f : Sb → Hb → R W) : L2.St → Hp → (Hp → Prop) → Prop := fun σ H N => tI K T' Wn f σ H fun y H4 => ∃ acc, H4 D = some (.lst acc) ∧ acc.length < sizeLine ∧ N (upd H4 D (.lst (acc ++ [y])))
theorem readsD {kx vx : E} (hid : T'.hid D) : Reads K T' D (RAd K T' D) (fsD C kx vx) (sinkD K T' D (evalE C kx) (evalE C vx)) := by
  intro σ' σ2 φ H h acc acc1 h1 Nx s rl ra e nx
  unfold fsD at e
  refine ⟨φ, σ', h, s, rl, ?_⟩
  cases ek : evalE C kx σ' h with
  | no => rw [ek] at e; cases e
  | ex x h' => rw [ek] at e; cases e
  | ok k h4 =>
    rw [ek] at e
    intro φ4 y H4 x4 rl4 ry
    refine ⟨φ4, σ', h4, s.mono x4, rl4, ?_⟩
    have e' : ((evalE C vx σ' h4).bind fun v h5 => R.ofO (dPut acc.1 acc.2 k v) h5) = .ok acc1 h1 := e
    cases ev : evalE C vx σ' h4 with
    | no => rw [ev] at e'; cases e'
    | ex x h' => rw [ev] at e'; cases e'
    | ok v h5 =>
      rw [ev] at e'
      intro φ5 z H5 x5 rl5 rz
      have e2 : R.ofO (dPut acc.1 acc.2 k v) h5 = .ok acc1 h1 := e'
      have xx := x4.trans x5
      cases ep : dPut acc.1 acc.2 k v with
      | none => rw [ep] at e2; cases e2
      | some p =>
        rw [ep] at e2
        cases e2
        have ra5 := ra.ex xx
        refine ⟨φ5, k, v, acc, acc1, ra5, RV.mono x5 _ _ ry, rz, ep, fun es q ro => ?_⟩
        exact nx φ5 _ ((xx.d D).trans (.put ra5.2) ra5.2) (rl5.unseen hid ra5.2) ⟨ro, ra5.2⟩
theorem readsL {elt : E} (hid : T'.hid D) : Reads K T' D (RAl K T' D) (fsL C elt) (sinkL K T' D (evalE C elt)) := by
  intro σ' σ2 φ H h acc acc1 h1 Nx s rl ra e nx
  unfold fsL at e
  refine ⟨φ, σ', h, s, rl, ?_⟩
  cases ek : evalE C elt σ' h with
  | no => rw [ek] at e; cases e
  | ex x h' => rw [ek] at e; cases e
  | ok k h4 =>
    rw [ek] at e
    intro φ4 y H4 x4 rl4 ry
    have e2 : (if decide (acc.length < 16777216) = true then R.ok (acc ++ [k]) h4 else .no) = .ok acc1 h1 := e
    split at e2
    · rename_i c
      cases e2
      obtain ⟨⟨vs, eD, kk⟩, n⟩ := ra.ex x4
      refine ⟨vs, eD, by rw [sizeLine_eq, ← kk.length]; exact of_decide_eq_true c, ?_⟩
      exact nx φ4 _ ((x4.d D).trans (.put n) n) (rl4.unseen hid n) ⟨⟨_, upd_same, RVs.unseen hid _ _ (kk.append (.cons ry .nil))⟩, n⟩
    · cases e2
end
end Y
/-! Y7d: the same, as expressions. -/
namespace Y
open PySem PySem.Spec PyProof.Rows L2

def bodyD (kx vx : Expr) (p : Pos) (D : Addr) (env : Env) : Sem Unit := do
  let kv ← eval kx env
  let vv ← holding [kv] (eval vx env)
  standAt p
  holding [kv, vv] (dictSet D kv vv)
def bodyL (elt : Expr) (acc : Value) (env : Env) : Sem Unit := do
  let x ← eval elt env
  let _ ← call (.builtin "list.append") [acc, x]
def body2 (ce i1 : Expr) (acc : Value) (env : Env) : Sem Flow := do
  let x ← eval i1 env
  standAt i1.pos
  let x ← foldedSetIterable i1 env x
  let it ← holding [x] (pyIter x)
  runOwn (.compStart ce 1 it acc env) env
def kpos (kx vx : Expr) : Pos := { kx.pos with endLine := vx.pos.endLine, endCol := vx.pos.endCol }
theorem turn_d1 {kx vx tg i0 : Expr} {ifs : List Expr} {scope : Scope} {pos : Pos} {it : Value} {D : Addr} {env : Env} :
    compTurn (.DictComp kx vx [⟨tg, i0, ifs, 0⟩] scope pos) 0 it (.ref D) env = turnOf (.DictComp kx vx [⟨tg, i0, ifs, 0⟩] scope pos) 0 tg ifs i0.pos it (.ref D) env (bodyD kx vx (kpos kx vx) D env) := by rfl
theorem turn_d2o {kx vx tg i0 t1 i1 : Expr} {ifs ifs1 : List Expr} {scope : Scope} {pos : Pos} {it : Value} {D : Addr} {env : Env} :
    compTurn (.DictComp kx vx [⟨tg, i0, ifs, 0⟩, ⟨t1, i1, ifs1, 0⟩] scope pos) 0 it (.ref D) env = turnOf (.DictComp kx vx [⟨tg, i0, ifs, 0⟩, ⟨t1, i1, ifs1, 0⟩] scope pos) 0 tg ifs i0.pos it (.ref D) env (body2 (.DictComp kx vx [⟨tg, i0, ifs, 0⟩, ⟨t1, i1, ifs1, 0⟩] scope pos) i1 (.ref D) env) := by
  simp only [turnOf, body2, bind_assoc]
  rfl
theorem turn_d2i {kx vx tg i0 t1 i1 : Expr} {ifs ifs1 : List Expr} {scope : Scope} {pos : Pos} {it : Value} {D : Addr} {env : Env} :
    compTurn (.DictComp kx vx [⟨tg, i0, ifs, 0⟩, ⟨t1, i1, ifs1, 0⟩] scope pos) 1 it (.ref D) env = turnOf (.DictComp kx vx [⟨tg, i0, ifs, 0⟩, ⟨t1, i1, ifs1, 0⟩] scope pos) 1 t1 ifs1 i1.pos it (.ref D) env (bodyD kx vx (kpos kx vx) D env) := by rfl
theorem turn_l2o {elt tg i0 t1 i1 : Expr} {ifs ifs1 : List Expr} {scope : Scope} {pos : Pos} {it acc : Value} {env : Env} :
    compTurn (.ListComp elt [⟨tg, i0, ifs, 0⟩, ⟨t1, i1, ifs1, 0⟩] scope pos) 0 it acc env = turnOf (.ListComp elt [⟨tg, i0, ifs, 0⟩, ⟨t1, i1, ifs1, 0⟩] scope pos) 0 tg ifs i0.pos it acc env (body2 (.ListComp elt [⟨tg, i0, ifs, 0⟩, ⟨t1, i1, ifs1, 0⟩] scope pos) i1 acc env) := by
  simp only [turnOf, body2, bind_assoc]
  rfl
theorem turn_l2i {elt tg i0 t1 i1 : Expr} {ifs ifs1 : List Expr} {scope : Scope} {pos : Pos} {it acc : Value} {env : Env} :
    compTurn (.ListComp elt [⟨tg, i0, ifs, 0⟩, ⟨t1, i1, ifs1, 0⟩] scope pos) 1 it acc env = turnOf (.ListComp elt [⟨tg, i0, ifs, 0⟩, ⟨t1, i1, ifs1, 0⟩] scope pos) 1 t1 ifs1 i1.pos it acc env (bodyL elt acc env) := by rfl
/-- a clause starts -/
def starts (ce : Expr) (lv : Nat) : Prop := ∀ (prog : Program) (w : World) (A : Around) (it acc : Value) (env : Env) (R : Result → Shared → Prop) (s : Shared), codeAny (model prog w) A (.compLoop ce lv it acc env) R s →
  wpAny (model prog w) A (pyIter it) (fun it' s' => codeAny (model prog w) A (.compLoop ce lv it' acc env) R s') (notedBy (model prog w) A env fun x s' => R (.error x) s') s → codeAny (model prog w) A (.compStart ce lv it acc env) R s
theorem start_d1 {kx vx t0 i0 t1 i1 : Expr} {ifs0 ifs1 : List Expr} {scope : Scope} {pos : Pos} : starts (.DictComp kx vx [⟨t0, i0, ifs0, 0⟩, ⟨t1, i1, ifs1, 0⟩] scope pos) 1 := by
  intro prog w A it acc env R s h0 h
  refine codeAny_of_tree ?_
  show wpAny _ A ((compStart (.DictComp kx vx [⟨t0, i0, ifs0, 0⟩, ⟨t1, i1, ifs1, 0⟩] scope pos) 1 it acc env).onRaise (fun x => do noteFrame x env; standAt theWindowsPlace)) _ _ s
  refine wpAny_notedAt ?_
  unfold compStart
  show wpAny _ A (ask >>= _) _ _ s
  refine wpAny_bind (wpAny_askSetting (wpAny_ite ?_))
  split
  · first
      | exact wpAny_bind (wpAny_pure (wpAny_pure ⟨rfl, h0⟩))
      | exact wpAny_pure ⟨rfl, h0⟩
  · refine wpAny_bind (wpAny_rule ?_)
    first
      | exact wpAny_bind (wpAny_standAt (wpAny_bind (wpAny_mono h (fun it' s' h' => wpAny_pure ⟨rfl, h'⟩) fun _ _ x => x)))
      | (show wpAny _ _ (standAt i1.pos >>= _) _ _ s; exact wpAny_bind (wpAny_standAt (wpAny_bind (wpAny_mono h (fun it' s' h' => wpAny_pure ⟨rfl, h'⟩) fun _ _ x => x))))
theorem start_l1 {elt t0 i0 t1 i1 : Expr} {ifs0 ifs1 : List Expr} {scope : Scope} {pos : Pos} : starts (.ListComp elt [⟨t0, i0, ifs0, 0⟩, ⟨t1, i1, ifs1, 0⟩] scope pos) 1 := fun _ _ _ _ _ _ _ _ h0 h => compStart1_ok h0 h
theorem start_d0 {kx vx t0 i0 : Expr} {ifs0 : List Expr} {rest : List Comprehension} {scope : Scope} {pos : Pos} : starts (.DictComp kx vx (⟨t0, i0, ifs0, 0⟩ :: rest) scope pos) 0 := fun _ _ _ _ _ _ _ _ h0 h => codeAny_compStart_dict h0 h
theorem start_l0 {elt t0 i0 : Expr} {ifs0 : List Expr} {rest : List Comprehension} {scope : Scope} {pos : Pos} : starts (.ListComp elt (⟨t0, i0, ifs0, 0⟩ :: rest) scope pos) 0 := fun _ _ _ _ _ _ _ _ h0 h => codeAny_compStart_list h0 h
section
variable {B : L2.Cx} {T' : Tab} {C : Ctx} {D : Addr}
theorem pb_sinkD {kx vx : Expr} {ek ev : E} {p : Pos} (hxe : B.xe = fun _ _ => False) (hu : B.A.units + 70 < cLine) (hk : T'.ca.hk = hkW B.w) (hid : T'.hid D) (pk : Y.D B T' Wn C kx ek) (pv : Y.D B T' Wn C vx ev) :
    PBody B (bodyD kx vx p D B.env) (sinkD B.K T' D (evalE C ek) (evalE C ev)) [] := by
  intro pins s σ H N I q
  have a1 := pk.run pins s σ H _ I q
  rw [hxe] at a1
  refine wpAny_bind (thnF a1 fun u s1 ⟨y, H1, I1, r1, q1⟩ => ?_)
  have a2 := pv.run pins s1 σ H1 _ I1 q1
  rw [hxe] at a2
  refine wpAny_bind (wpAny_holding (thnF a2 fun r s2 ⟨z, H2, I2, r2, φ, k, v, acc, acc1, ra, rk, rv, e, n⟩ => ?_))
  refine wpAny_bind (wpAny_standAt (wpAny_holding ?_))
  exact (dic_store (A := B.A) (by omega) hk I2 ra.1 e rk rv r1 r2 (fun es ep ws vs r => RVs.unseen hid _ _ r) fun es ep s' I' ro => ⟨_, I', n es ep ro⟩).2
theorem pb_sinkL {elt : Expr} {ee : E} (hxe : B.xe = fun _ _ => False) (pe : Y.D B T' Wn C elt ee) : PBody B (bodyL elt (.ref D) B.env) (sinkL B.K T' D (evalE C ee)) [] := by
  intro pins s σ H N I q
  have a1 := pe.run pins s σ H _ I q
  rw [hxe] at a1
  refine wpAny_bind (thnF a1 fun u s1 ⟨y, H1, I1, r1, acc, eD, hz, n⟩ => ?_)
  exact wpAny_bind (app_ok (X := B) I1 eD hz r1 fun s2 I2 => wpAny_pure ⟨_, I2, n⟩)
theorem pb_two {ce t1 i1 : Expr} {ifs1 : List Expr} {tg1 : Tg} {it1 c1 : E} {own1 : List Nat} {β : Type} {BODY : Sem β} {tb : L2.St → Hp → (Hp → Prop) → Prop} {p : Pos} (hxe : B.xe = fun _ _ => False) (hc : B.calm = true) (hs : ∀ x, foldedSetIterable i1 B.env x = pure x) (pi : DI B T' Wn C t1 i1 it1)
    (pg : PG B t1 (tG B.K T' tg1)) (pt : PTs B ifs1 (tT B.K T' Wn (evalE C c1))) (pb : PBody B BODY tb []) (hst : starts ce 1) (eq : ∀ it, compTurn ce 1 (.ref it) (.ref D) B.env = turnOf ce 1 t1 ifs1 p (.ref it) (.ref D) B.env BODY)
    (hden : ∀ it, ∀ c : Code, c = .compLoop ce 1 (.ref it) (.ref D) B.env → c.quiet = true ∧ B.A.under c = B.A ∧ (model B.prog B.w).den c = (compTurn ce 1 (.ref it) (.ref D) B.env).onRaise (fun x => do noteFrame x B.env; theTreesLotGoes x)) :
    PBody B (body2 ce i1 (.ref D) B.env) (tb2 B.K T' C tg1 it1 c1 own1 tb) own1 := by
  intro pins s σ H N I q
  have a1 := pi.run pins s σ H _ I q
  rw [hxe] at a1
  refine wpAny_bind (thnF a1 fun xv s1 a2 => ?_)
  refine wpAny_bind (wpAny_standAt (wpAny_bind (wpAny_of_eq (hs xv) ?_)))
  refine wpAny_bind (wpAny_holding (thnF a2 fun itv s2 entered => ?_))
  obtain ⟨it, fp, tn, J, H2, rfl, I2, tu, st2, f2, r⟩ := entered
  refine wpAny_runOwn ?_
  rw [Around.mark_none]
  have loop : codeAny (model B.prog B.w) B.A (.compLoop ce 1 (.ref it) (.ref D) B.env) (fun r s' => match r with
      | .ok _ => ∃ H', L2.Inv B pins (L2.wipe σ own1) H' s' ∧ N H'
      | .error _ => False) s2 :=
    comp_loop (vb := []) (eq it) (hden it) tu hc hxe pg pt pb (fun i h => by cases h) (fun H' hn b hb => ⟨hn b hb, (f2 b hb).2⟩) (I2.weak (wipe_length _ _) fun j v e => (wipe_some e).1) st2 (fun b hb => (f2 b hb).1) r fun s' H' I' n => ⟨H', I', n⟩
  refine codeAny_mono (hst _ _ _ _ _ _ _ _ loop (tu.self B.A 0 _ _ _ st2 loop)) fun r s' hr => ?_
  cases r with
  | ok f => exact hr
  | error e => exact hr.elim
end
theorem forA_nx {α : Type} {f : W → α → Hb → R α} {ok : Hb → Bool} : ∀ {ws : List W} {acc : α} {h : Hb} (e : W) (h' : Hb), forA f ok ws acc h ≠ .ex e h'
  | [], acc, h, e, h' => by unfold forA; split <;> exact fun q => nomatch q
  | w :: ws, acc, h, e, h' => by
    unfold forA
    split
    · split
      · exact forA_nx _ _
      · exact fun q => nomatch q
    · exact fun q => nomatch q
section
variable {K : PySem.W.Frag} {T T' : Tab} {φ : Pl} {H H0 : Hp} {D : Addr}
/-- the table that hides D, too -/
abbrev Tab.hide (T : Tab) (D : Addr) : Tab := { T with hid := fun a => T.hid a ∨ a = D }
theorem hide_Hid {H1 : Hp} (hD : H1 D = none) : Hid T (T.hide D) H1 := ⟨rfl, fun a h => .inl h, fun a h => h.imp_right fun e => by rw [e]; exact hD⟩
theorem Walks.hide {J : It} {H1 : Hp} {h1 : Hb} {w : W} {ws : List W} {o : HO} (hD : H1 D = none) (wk : Walks K T J φ H1 h1 w ws) : Walks K (T.hide D) J φ (upd H1 D o) h1 w ws := by
  intro T'' g i φ' h' H' x rl st
  refine wk T'' ⟨g.ca, fun a q => g.up a (.inl q), fun a q => ?_⟩ i φ' h' H' ⟨x.pre, fun b q n => ?_, fun b u e n k => ?_⟩ rl st
  · rcases g.new a q with (z | z) | z
    · exact .inl z
    · exact .inr (by rw [z]; exact hD)
    · by_cases y : a = D
      · exact .inr (by rw [y]; exact hD)
      · rw [upd_ne y] at z; exact .inr z
  · have z := x.new b q n
    by_cases y : b = D
    · rw [y]; exact hD
    · rw [upd_ne y] at z; exact z
  · have y : b ≠ D := fun y => by rw [y, hD] at e; cases e
    exact x.keep b u (by rw [upd_ne y]; exact e) n k
theorem Rel.hide {h : Hb} {o : HO} (hD : H D = none) (r : Rel K T φ H h) : Rel K (T.hide D) φ (upd H D o) h := by
  refine r.into (hide_Hid hD) (fun b u e => by rw [upd_ne (ne_of_none e hD)]; exact e) fun a q => ?_
  by_cases z : a = D
  · exact ⟨_, by rw [z]; exact upd_same⟩
  · obtain ⟨u, e⟩ := r.hd a (q.resolve_right z)
    exact ⟨u, by rw [upd_ne z]; exact e⟩
/-- what is made is tracked from now on -/
theorem Rel.promoteO {h : Hb} {ob : O} (g : Hid T T' H0) (hd : T'.hid D) (nD : ¬ T.hid D) (fD : some D ∉ φ) (r : Rel K T' φ H h) (ro : RO K T' φ H D ob) : Rel K T (φ ++ [some D]) H (h ++ [ob]) := by
  refine ⟨fun i j a h1 h2 => ?_, by simp [r.len], fun a q => r.hd a (g.up a q), fun a q m => ?_, fun n u a h1 h2 => ?_, fun n h1 => ?_⟩
  · rcases grow_at h1 with z1 | ⟨z1, y1⟩ <;> rcases grow_at h2 with z2 | ⟨z2, y2⟩
    · exact r.nd i j a z1 z2
    · exact absurd (List.mem_of_getElem? (y2 ▸ z1)) fD
    · exact absurd (List.mem_of_getElem? (y1 ▸ z2)) fD
    · rw [z1, z2]
  · rcases List.mem_append.mp m with z | z
    · exact r.hf a (g.up a q) z
    · rw [Option.some.inj (List.mem_singleton.mp z)] at q
      exact nD q
  · rcases grow_at h2 with z | ⟨z, y⟩
    · have hn : n < h.length := by rw [← r.len]; exact (List.getElem?_eq_some_iff.mp z).1
      rw [List.getElem?_append_left hn] at h1
      exact RO.promote g hd (r.at_ n u a h1 z)
    · cases y
      rw [z, r.len, List.getElem?_append_right (Nat.le_refl _)] at h1
      simp at h1
      rw [← h1]
      exact RO.promote g hd ro
  · rcases grow_at h1 with z | ⟨_, y⟩
    · have hn : n < h.length := by rw [← r.len]; exact (List.getElem?_eq_some_iff.mp z).1
      rw [List.getElem?_append_left hn]
      exact r.dd n z
    · cases y
theorem Ex.app {φ1 : Pl} {H1 H' : Hp} (hD : H1 D = none) (x : Ex K φ1 φ H1 H') : Ex K φ1 (φ ++ [some D]) H1 H' := ⟨fun n y e => (x.pre n y e).imp (fun z => by rw [List.getElem?_append_left (List.getElem?_eq_some_iff.mp z).1]; exact z) fun z => by rw [List.getElem?_append_left (List.getElem?_eq_some_iff.mp z).1]; exact z, fun b h n => by
  rcases List.mem_append.mp h with z | z
  · exact x.new b z n
  · rw [Option.some.inj (List.mem_singleton.mp z)]; exact hD, x.keep⟩
/-- the value made: frozen, or tracked -/
theorem made_end {H1 : Hp} {h1 h5 : Hb} {φ1 : Pl} {ob : O} {w5 : W} {Z : Value → Option Addr → Hp → Prop} {Q : VK} {o : HO} {H' : Hp} {nw : Bool} (hD : H1 D = none) (rl : Rel K T φ1 H1 h1) (hv : ∀ φ H, RO K T φ H D ob → Fr T φ D → RV K T φ H w5 (.ref D))
    (p : Post K T Z φ1 H1 (if nw = true then .ok (.ref h5.length) (h5 ++ [ob]) else .ok w5 h5) Q) (x : ExD K D φ1 φ (upd H1 D o) H') (rl' : Rel K (T.hide D) φ H' h5) (ro : RO K (T.hide D) φ H' D ob) (n : some D ∉ φ) : Q (.ref D) H' := by
  have xx := x.back hD
  have nT : ¬ T.hid D := fun q => by
    obtain ⟨u, e⟩ := rl.hd D q
    rw [hD] at e; cases e
  cases nw with
  | true =>
    refine p (φ ++ [some D]) _ H' (xx.app hD) (rl'.promoteO (hide_Hid hD) (.inr rfl) nT n ro) ?_
    simp only [RV]
    exact ⟨D, rfl, .inl (by rw [← rl'.len]; simp)⟩
  | false => exact p φ _ H' xx (rl'.bare (hide_Hid hD)) (hv _ _ (RO.bare (hide_Hid hD) ro) ⟨n, nT⟩)
end
end Y
/-! Y8: statements run as Y says. -/
namespace Y
open PySem PySem.Spec PyProof.Rows L2

/-- what is wanted behind a statement -/
def PostS (K : PySem.W.Frag) (T : Tab) (Wx : WX) (φ : Pl) (H : Hp) (g : G) (D : Ends) : Prop :=
  match g with
  | .ok (.nx σb) h' => ∀ φ' σ' H', Ex K φ φ' H H' → Rel K T φ' H' h' → RS K T φ' H' σb σ' → D.nx σ' H'
  | .ok (.bk σb) h' => ∀ φ' σ' H', Ex K φ φ' H H' → Rel K T φ' H' h' → RS K T φ' H' σb σ' → D.bk σ' H'
  | .ok (.ct σb) h' => ∀ φ' σ' H', Ex K φ φ' H H' → Rel K T φ' H' h' → RS K T φ' H' σb σ' → D.ct σ' H'
  | .ok (.rt w) h' => ∀ φ' v H', Ex K φ φ' H H' → Rel K T φ' H' h' → RV K T φ' H' w v → D.rt v H'
  | .ex x σb h' => ∀ φ' σ' H' cls d, Ex K φ φ' H H' → Rel K T φ' H' h' → RS K T φ' H' σb σ' → RX K T φ' H' x cls d → Wx cls d σ' H'
  | .no => False
def tS (K : PySem.W.Frag) (T : Tab) (Wx : WX) (f : Sb → Hb → G) : TS := fun D σ H => ∃ φ σb h, RS K T φ H σb σ ∧ Rel K T φ H h ∧ PostS K T Wx φ H (f σb h) D
theorem _root_.L2.PS.weak {X : L2.Cx} {st : Stmt} {t t' : TS} (h : PS X st t) (hm : ∀ D σ H, t' D σ H → t D σ H) : PS X st t' :=
  ⟨fun pins s σ H D I q => h.run pins s σ H D I (hm _ _ _ q)⟩
theorem _root_.L2.PSs.weak {X : L2.Cx} {st : List Stmt} {t t' : TS} (h : PSs X st t) (hm : ∀ D σ H, t' D σ H → t D σ H) : PSs X st t' :=
  ⟨fun pins s σ H D I q => h.run pins s σ H D I (hm _ _ _ q)⟩
section
variable {K : PySem.W.Frag} {T : Tab} {Wx : WX} {φ φ1 : Pl} {H H1 : Hp} {h : Hb} {σb : Sb} {σ : L2.St} {D D' : Ends}
theorem PostS.ext {g : G} (x : Ex K φ φ1 H H1) (p : PostS K T Wx φ H g D) : PostS K T Wx φ1 H1 g D := by
  cases g with
  | no => exact p
  | ex e s h' => exact fun φ' σ' H' cls d y => p φ' σ' H' cls d (x.trans y)
  | ok fl h' => cases fl with
    | nx s => exact fun φ' σ' H' y => p φ' σ' H' (x.trans y)
    | bk s => exact fun φ' σ' H' y => p φ' σ' H' (x.trans y)
    | ct s => exact fun φ' σ' H' y => p φ' σ' H' (x.trans y)
    | rt w => exact fun φ' σ' H' y => p φ' σ' H' (x.trans y)
/-- an expression's part of a statement -/
theorem tS_of {β : Type} {Ru : Pl → Hp → W → β → Prop} {f : Sb → Hb → R W} {g : W → Hb → G} (s : RS K T φ H σb σ) (rl : Rel K T φ H h) (p : PostS K T Wx φ H ((f σb h).go σb g) D) :
    tR K T Ru Wx f σ H (fun v H1 => ∃ φ1 w h1, Ex K φ φ1 H H1 ∧ RS K T φ1 H1 σb σ ∧ Rel K T φ1 H1 h1 ∧ Ru φ1 H1 w v ∧ PostS K T Wx φ1 H1 (g w h1) D) := by
  refine ⟨φ, σb, h, s, rl, ?_⟩
  cases q : f σb h with
  | no => rw [q] at p; exact p
  | ex e h' => rw [q] at p; exact fun φ' H' cls d x rl' rx => p φ' σ H' cls d x rl' (s.mono x) rx
  | ok w h' => rw [q] at p; exact fun φ' v H' x rl' rv => ⟨φ', w, h', x, s.mono x, rl', rv, PostS.ext x p⟩
/-- a step on values in a statement -/
theorem goB_of {f : R W} {g : W → Hb → G} (s : RS K T φ H σb σ) (rl : Rel K T φ H h) (nx : ∀ e h', f ≠ .ex e h') (p : PostS K T Wx φ H (f.go σb g) D) :
    Post K T Z0 φ H f (fun v H1 => ∃ φ1 w h1, Ex K φ φ1 H H1 ∧ RS K T φ1 H1 σb σ ∧ Rel K T φ1 H1 h1 ∧ RV K T φ1 H1 w v ∧ PostS K T Wx φ1 H1 (g w h1) D) := by
  cases f with
  | no => exact p
  | ex e h' => exact absurd rfl (nx e h')
  | ok w h' => exact fun φ' v H' x rl' rv => ⟨φ', w, h', x, s.mono x, rl', rv, PostS.ext x p⟩
/-- a statement, then the rest -/
theorem PostS.seq {g : G} {k : Sb → Hb → G} (p : PostS K T Wx φ H (g.bind fun fl h1 => (match fl with | .nx σ1 => k σ1 h1 | fl => .ok fl h1)) D) :
    PostS K T Wx φ H g { D with nx := fun σ' H' => tS K T Wx k D σ' H' } := by
  cases g with
  | no => exact p
  | ex e s h' => exact p
  | ok fl h' => cases fl with
    | nx s1 => exact fun φ' σ' H' x rl s => ⟨φ', s1, h', s, rl, PostS.ext x p⟩
    | bk s => exact p
    | ct s => exact p
    | rt w => exact p
end
section
variable {X : L2.Cx} {T : Tab} {Wx : WX} {C : Ctx} {σ : L2.St} {φ : Pl} {H : Hp} {h : Hb} {σb : Sb}
variable {a b c tg : Expr} {ea eb ec : E} {pos : Pos} {es : List Expr}
abbrev DS (X : L2.Cx) (T : Tab) (Wx : WX) (C : Ctx) (st : Stmt) (s : S) : Prop := PS X st (tS X.K T Wx (evalS C s))
abbrev DSs (X : L2.Cx) (T : Tab) (Wx : WX) (C : Ctx) (st : List Stmt) (s : S) : Prop := PSs X st (tS X.K T Wx (evalS C s))
theorem ds_nil : DSs X T Wx C [] .skip := pss_nil.weak fun D σ H ⟨φ, σb, h, s, rl, p⟩ => by
  simp only [evalS] at p; exact p φ σ H .refl rl s
theorem ds_cons {st : Stmt} {rest : List Stmt} {s1 s2 : S} (h1 : DS X T Wx C st s1) (h2 : DSs X T Wx C rest s2) : DSs X T Wx C (st :: rest) (.seq s1 s2) := by
  refine (pss_cons h1 h2).weak fun D σ H ⟨φ, σb, h, s, rl, p⟩ => ?_
  simp only [evalS] at p
  exact ⟨φ, σb, h, s, rl, p.seq⟩
theorem ds_pass : DS X T Wx C (.Pass pos) .skip := ps_pass.weak fun D σ H ⟨φ, σb, h, s, rl, p⟩ => by
  simp only [evalS] at p; exact p φ σ H .refl rl s
theorem ds_doc {x j pos'} : DS X T Wx C (.Expr (.Constant (.str x) j pos) pos') .skip := ps_doc.weak fun D σ H ⟨φ, σb, h, s, rl, p⟩ => by
  simp only [evalS] at p; exact p φ σ H .refl rl s
theorem ds_brk : DS X T Wx C (.Break pos) .brk := ps_break.weak fun D σ H ⟨φ, σb, h, s, rl, p⟩ => by
  simp only [evalS] at p; exact p φ σ H .refl rl s
theorem ds_cont : DS X T Wx C (.Continue pos) .cont := ps_continue.weak fun D σ H ⟨φ, σb, h, s, rl, p⟩ => by
  simp only [evalS] at p; exact p φ σ H .refl rl s
theorem ds_expr (ha : D X T Wx C a ea) (hs : swapsWith a none pos.line X.env = pure false) : DS X T Wx C (.Expr a pos) (.expr ea) := by
  refine (ps_expr ha hs).weak fun D σ H ⟨φ, σb, h, s, rl, p⟩ => ?_
  simp only [evalS] at p
  refine tR_mono (tS_of s rl p) ?_
  rintro x H1 ⟨φ1, w1, h1, x1, s1, rl1, r1, p1⟩
  exact p1 φ1 σ H1 .refl rl1 s1
theorem ds_ret (ha : D X T Wx C a ea) : DS X T Wx C (.Return (some a) pos) (.ret ea) := by
  refine (ps_ret ha).weak fun D σ H ⟨φ, σb, h, s, rl, p⟩ => ?_
  simp only [evalS] at p
  refine tR_mono (tS_of s rl p) ?_
  rintro x H1 ⟨φ1, w1, h1, x1, s1, rl1, r1, p1⟩
  exact p1 φ1 _ H1 .refl rl1 r1
theorem ds_retN : DS X T Wx C (.Return none pos) (.ret .non) := by
  refine ps_retN.weak fun D σ H ⟨φ, σb, h, s, rl, p⟩ => ?_
  simp only [evalS, evalE, R.go] at p
  exact p φ _ H .refl rl .mk_non
theorem ds_if {ss us : List Stmt} {s1 s2 : S} (hc : DT X T Wx C c ec) (h1 : DSs X T Wx C ss s1) (h2 : DSs X T Wx C us s2) : DS X T Wx C (.If c ss us pos) (.ite ec s1 s2) := by
  refine (ps_if hc h1 h2).weak fun D σ H ⟨φ, σb, h, s, rl, p⟩ => ?_
  simp only [evalS] at p
  refine tR_mono (tS_of s rl p) ?_
  rintro x H1 ⟨φ1, w1, h1, x1, s1', rl1, r1, p1⟩
  split at p1
  · exact ⟨true, r1.bl_inv, iteT ⟨φ1, σb, h1, s1', rl1, p1⟩⟩
  · exact ⟨false, r1.bl_inv, iteF ⟨φ1, σb, h1, s1', rl1, p1⟩⟩
  · exact p1.elim
theorem asg_read {t : Tg} {e' : E} {te : TE} {D : Ends} (p : PostS X.K T Wx φ H (evalS C (.asg t e') σb h) D) (s : RS X.K T φ H σb σ) (rl : Rel X.K T φ H h) :
    tI X.K T Wx (evalE C e') σ H fun x H1 => tG X.K T t x σ H1 D.nx := by
  simp only [evalS] at p
  refine tR_mono (tS_of s rl p) ?_
  rintro x H1 ⟨φ1, w1, h1, x1, s1, rl1, r1, p1⟩
  split at p1
  · rename_i σ1 es
    exact ⟨φ1, σb, w1, σ1, s1, r1, es, fun σ' s' _ => p1 φ1 σ' H1 .refl rl1 s'⟩
  · exact p1.elim
theorem ds_asg {t : Tg} (ha : D X T Wx C a ea) (hg : PG X tg (tG X.K T t)) (hs : swapsWithSole [tg] a pos.line X.env = pure false) (hw : swappedStores [tg] a X.env = pure none) (h1 : (assignEach [tg] X.env).map (·.2) = [assign tg X.env]) :
    DS X T Wx C (.Assign [tg] a pos) (.asg t ea) := by
  refine (ps_asg ha hg hs hw h1).weak fun D σ H ⟨φ, σb, h, s, rl, p⟩ => asg_read (te := fun _ _ _ => True) p s rl
theorem ds_ann {t : Tg} {ann : Expr} {simple : Int} (ha : D X T Wx C a ea) (hg : PG X tg (tG X.K T t)) (hs : swapsWith a (some tg) pos.line X.env = pure false) : DS X T Wx C (.AnnAssign tg ann (some a) simple pos) (.asg t ea) := by
  refine (ps_ann ha hg hs).weak fun D σ H ⟨φ, σb, h, s, rl, p⟩ => asg_read (te := fun _ _ _ => True) p s rl
/-- name = [..] on one line -/
theorem ds_setLc {i : Nat} {y : Str} {py spos : Pos} {elt iter : Expr} {ifs : List Expr} {scope : Scope} {own : List (Str × Nat)} {t : Tg} {it c' elt' : E} (hc : X.calm = true) (hN : X.N.Nodup) (hy : X.N[i]? = some y) (hyl : X.env.scope.names.lookup y = some .local)
    (hsw : swapsWith (.ListComp elt [⟨tg, iter, ifs, 0⟩] scope pos) (some (.Name y py)) spos.line X.env = pure true) (hi : DI X T Wx C tg iter it) (ok : BlkOk X.N X.env.scope scope own) (ho : ∀ i ∈ t.vs, i ∈ own.map (·.2))
    (hg : ∀ T' : Tab, T'.ca = T.ca → Blk X scope fun B => PG B tg (tG X.K T' t)) (ht : ∀ T' : Tab, T'.ca = T.ca → Blk X scope fun B => PTs B ifs (tT X.K T' Wn (evalE C c'))) (he : ∀ T' : Tab, T'.ca = T.ca → Blk X scope fun B => D B T' Wn C elt elt')
    (hs : ∀ x, foldedSetIterable iter X.env x = pure x) :
    DS X T Wx C (.Assign [.Name y py] (.ListComp elt [⟨tg, iter, ifs, 0⟩] scope pos) spos) (.asg (.nm i) (.cm elt' t it c' (own.map (·.2)))) ∧
    DS X T Wx C (.Assign [.Name y py] (.ListComp elt [⟨tg, iter, ifs, 0⟩] scope pos) spos) (.asg (.nm i) (.new (.cm elt' t it c' (own.map (·.2))))) := by
  have key : PS X (.Assign [.Name y py] (.ListComp elt [⟨tg, iter, ifs, 0⟩] scope pos) spos) (tAsg (tLc (tW X.K T Wx (evalE C it)) (tExG T fun T' => tG X.K T' t) (tExT T fun T' => tT X.K T' Wn (evalE C c')) (tExE T fun T' => tI X.K T' Wn (evalE C elt')) (own.map (·.2))) (gName i)) := by
    refine ps_setLc hc hN hy hyl hsw hi ok (fun s H D cl fp => ?_) (fun s H D cl fp => ?_) (fun s H D cl fp => ?_) hs
    · exact ⟨fun pins s σ H v u Q I r ⟨T', e, q⟩ => (hg T' e _ _ _ _ _).run pins s σ H v u Q I r q⟩
    · exact ⟨fun pins s σ H Q I ⟨T', e, q⟩ => (ht T' e _ _ _ _ _).run pins s σ H Q I q⟩
    · exact ⟨fun pins s σ H Q I ⟨T', e, q⟩ => (he T' e _ _ _ _ _).run pins s σ H Q I q⟩
  have fin : ∀ {φ1 : Pl} {H1 : Hp} {h1 : Hb} {σ : L2.St} {σb : Sb} {w : W} {D : Ends} (s : RS X.K T φ1 H1 σb σ) (p : PostS X.K T Wx φ1 H1 (match setT (.nm i) w σb with | some σ1 => .ok (.nx σ1) h1 | none => .no) D), ∀ φ' v H', Ex X.K φ1 φ' H1 H' → Rel X.K T φ' H' h1 → RV X.K T φ' H' w v → gName i v σ H' D.nx := by
    intro φ1 H1 h1 σ σb w D s p φ' v H' x rl r
    simp only [setT] at p
    split at p
    · rename_i σ1 es
      split at es
      · cases es
        exact p φ' _ H' x rl ((s.mono x).set r)
      · cases es
    · exact p.elim
  refine ⟨key.weak fun D σ H ⟨φ, σb, h, s, rl, p⟩ => ?_, key.weak fun D σ H ⟨φ, σb, h, s, rl, p⟩ => ?_⟩
  · refine cm_read ho s rl ?_
    rw [evalS, evalE_cm] at p
    cases q : evalE C it σb h with
    | no => rw [q] at p; exact p
    | ex e h' => rw [q] at p; exact fun φ' H' cls d x rl' rx => p φ' σ H' cls d x rl' (s.mono x) rx
    | ok w h1 =>
      rw [q] at p
      simp only [R.bind] at p
      cases hi : itemsI h1 w with
      | none => rw [hi] at p; exact p.elim
      | some ws =>
        rw [hi] at p
        dsimp only at p
        refine ⟨ws, hi, fun φ1 H1 x rl1 => PostL.lit (Z := Z0) rl1 (fun e h' => forC_nx e h') ?_⟩
        cases q2 : forC (turnC C elt' t c' (own.map (·.2)) σb) (fun h' => stays h1 h' w) ws [] h1 with
        | no => rw [q2] at p; exact p
        | ex e h' => exact absurd q2 (forC_nx _ _)
        | ok vs h' =>
          rw [q2] at p
          exact fin (s.mono x) (PostS.ext x p)
  · refine cm_read ho s rl ?_
    rw [evalS, evalE, evalE_cm] at p
    cases q : evalE C it σb h with
    | no => rw [q] at p; exact p
    | ex e h' => rw [q] at p; exact fun φ' H' cls d x rl' rx => p φ' σ H' cls d x rl' (s.mono x) rx
    | ok w h1 =>
      rw [q] at p
      simp only [R.bind] at p
      cases hi : itemsI h1 w with
      | none => rw [hi] at p; exact p.elim
      | some ws =>
        rw [hi] at p
        dsimp only at p
        refine ⟨ws, hi, fun φ1 H1 x rl1 => PostL.new (Z := Z0) rl1 (fun e h' => forC_nx e h') ?_⟩
        cases q2 : forC (turnC C elt' t c' (own.map (·.2)) σb) (fun h' => stays h1 h' w) ws [] h1 with
        | no => rw [q2] at p; exact p
        | ex e h' => exact absurd q2 (forC_nx _ _)
        | ok vs h' =>
          rw [q2] at p
          exact fin (s.mono x) (PostS.ext x p)

/-! ### loops -/
/-- a for's turn, as evalS has it -/
def turnF (C : Ctx) (t : Tg) (b : S) : W → Sb → Hb → G := fun x σ1 h2 => match setT t x σ1 with | some σ2 => evalS C b σ2 h2 | none => .no
theorem evalS_for (C : Ctx) (t : Tg) (it : E) (b : S) (σ : Sb) (h : Hb) : evalS C (.for t it b) σ h = (evalE C it σ h).go σ fun w h1 => (match itemsI h1 w with
    | some ws => forL (turnF C t b) (fun h' => stays h1 h' w) ws σ h1
    | none => .no) := by rw [evalS]; rfl
theorem for_turns {t : Tg} {b : S} {w : W} {ws : List W} {J : It} {φ1 : Pl} {H1 : Hp} {h1 : Hb} {D : Ends} (K : PySem.W.Frag) (s : RS K T φ1 H1 σb σ) (rl : Rel K T φ1 H1 h1) (wk : Walks K T J φ1 H1 h1 w ws)
    (p : PostS K T Wx φ1 H1 (forL (turnF C t b) (fun h' => stays h1 h' w) ws σb h1) D) :
    ∃ W : Nat → Nat → L2.St → Hp → Prop, (∃ m, W 0 m σ H1) ∧ ∀ i m σ H, W i m σ H →
      (J.stop i H ∧ D.nx σ H) ∨ (J.go i H ∧ ∃ N : L2.St → Hp → Prop, (∀ σ' H', N σ' H' → ∃ m', m' < m ∧ W (i + 1) m' σ' H') ∧ ∀ x H', J.yld i H x H' → tG K T t x σ H' fun σ2 H2 => tS K T Wx (evalS C b) { D with nx := N, ct := N, bk := D.nx } σ2 H2) := by
  obtain ⟨NX, hNX⟩ : ∃ NX : Nat → L2.St → Hp → Prop, NX = fun i σ H => ∃ φ' σb' h', Ex K φ1 φ' H1 H ∧ RS K T φ' H σb' σ ∧ Rel K T φ' H h' ∧ PostS K T Wx φ' H (forL (turnF C t b) (fun h' => stays h1 h' w) (ws.drop i) σb' h') D := ⟨_, rfl⟩
  refine ⟨fun i m σ H => m = ws.length - i ∧ i ≤ ws.length ∧ NX i σ H, ⟨ws.length, by simp, Nat.zero_le _, ?_⟩, ?_⟩
  · rw [hNX]
    exact ⟨φ1, σb, h1, .refl, s, rl, by rw [List.drop_zero]; exact p⟩
  · rintro i m σ H ⟨rfl, hi, nx⟩
    rw [hNX] at nx
    obtain ⟨φ', σb', h', x, s', rl', q⟩ := nx
    cases hw : ws[i]? with
    | none =>
      have hl : i = ws.length := Nat.le_antisymm hi (List.getElem?_eq_none_iff.mp hw)
      refine .inl ?_
      rw [hl, List.drop_length] at q
      simp only [forL] at q
      by_cases st : stays h1 h' w = true
      · rw [if_pos st] at q
        exact ⟨(wk T .refl i φ' _ H (x.u T) rl' st).2 hl, q φ' σ H .refl rl' s'⟩
      · rw [if_neg st] at q
        exact q.elim
    | some u =>
      have hlt : i < ws.length := (List.getElem?_eq_some_iff.mp hw).1
      refine .inr ?_
      rw [List.drop_eq_getElem?_toList_append, hw] at q
      simp only [Option.toList_some, List.singleton_append, forL] at q
      by_cases st : stays h1 h' w = true
      case neg => rw [if_neg st] at q; exact q.elim
      rw [if_pos st] at q
      obtain ⟨go, yl⟩ := (wk T .refl i φ' h' H (x.u T) rl' st).1 u hw
      refine ⟨go, NX (i + 1), fun σ2 H2 r2 => ⟨ws.length - (i + 1), by omega, rfl, hlt, r2⟩, ?_⟩
      intro xv H2 hy
      obtain ⟨x2, rl2, r2⟩ := yl xv H2 hy
      unfold turnF at q
      cases es : setT t u σb' with
      | none => rw [es] at q; exact q.elim
      | some σ3 =>
        refine ⟨φ', σb', u, σ3, s'.mono x2, r2, es, fun σ4 s4 _ => ⟨φ', σ3, h', s4, rl2, ?_⟩⟩
        rw [es] at q
        dsimp only at q
        replace q := PostS.ext x2 q
        cases eb : evalS C b σ3 h' with
        | no => rw [eb] at q; exact q
        | ex e s5 h5 => rw [eb] at q; exact q
        | ok fl h5 =>
          rw [eb] at q
          cases fl with
          | nx s5 =>
            intro φ6 σ6 H6 x6 rl6 s6
            rw [hNX]
            exact ⟨φ6, s5, h5, (x.trans x2).trans x6, s6, rl6, PostS.ext x6 q⟩
          | ct s5 =>
            intro φ6 σ6 H6 x6 rl6 s6
            rw [hNX]
            exact ⟨φ6, s5, h5, (x.trans x2).trans x6, s6, rl6, PostS.ext x6 q⟩
          | bk s5 => exact q
          | rt v => exact q
theorem ds_for {iter : Expr} {body : List Stmt} {t : Tg} {it : E} {b : S} (hp : PassesOwn (model X.prog X.w) X.A X.env X.xe) (hc : X.calm = true) (hi : DI X T Wx C tg iter it) (hg : PG X tg (tG X.K T t)) (hb : DSs X T Wx C body b)
    (hs : ∀ x, foldedSetIterable iter X.env x = pure x) : DS X T Wx C (.For tg iter body [] pos) (.for t it b) := by
  refine (ps_for hp hc hi hg hb hs).weak fun D σ H ⟨φ, σb, h, s, rl, p⟩ => ?_
  rw [evalS_for] at p
  refine ⟨φ, σb, h, s, rl, ?_⟩
  cases q : evalE C it σb h with
  | no => rw [q] at p; exact p
  | ex e h' => rw [q] at p; exact fun φ' H' cls d x rl' rx => p φ' σ H' cls d x rl' (s.mono x) rx
  | ok w h1 =>
    rw [q] at p
    simp only [R.go] at p
    cases hi : itemsI h1 w with
    | none => rw [hi] at p; exact p.elim
    | some ws =>
      rw [hi] at p
      exact ⟨ws, hi, fun φ1 H1 J x rl1 wk => for_turns X.K (s.mono x) rl1 wk (PostS.ext x p)⟩
theorem ds_while {body : List Stmt} {b : S} (hp : PassesOwn (model X.prog X.w) X.A X.env X.xe) (hc : DT X T Wx C c ec) (hb : DSs X T Wx C body b) : DS X T Wx C (.While c body [] pos) (.while ec b) := by
  refine (ps_while hp hc hb).weak fun D σ H ⟨φ, σb, h, s, rl, p⟩ => ?_
  simp only [evalS] at p
  refine ⟨fun m σ H => ∃ φ σb h, RS X.K T φ H σb σ ∧ Rel X.K T φ H h ∧ PostS X.K T Wx φ H (whileL (fun σ1 h1 => evalE C ec σ1 h1) (fun σ1 h1 => evalS C b σ1 h1) m σb h) D, ⟨C.fuel, φ, σb, h, s, rl, p⟩, ?_⟩
  rintro m σ H ⟨φ, σb, h, s, rl, p⟩
  cases m with
  | zero => exact p.elim
  | succ m =>
    unfold whileL at p
    refine tR_mono (tS_of s rl p) ?_
    rintro x H1 ⟨φ1, w1, h1, x1, s1, rl1, r1, p1⟩
    split at p1
    · refine ⟨true, r1.bl_inv, iteT ⟨fun σ H => ∃ φ σb h, RS X.K T φ H σb σ ∧ Rel X.K T φ H h ∧ PostS X.K T Wx φ H (whileL (fun σ1 h1 => evalE C ec σ1 h1) (fun σ1 h1 => evalS C b σ1 h1) m σb h) D, fun σ' H' r => ⟨m, Nat.lt_succ_self m, r⟩, φ1, σb, h1, s1, rl1, ?_⟩⟩
      cases eb : evalS C b σb h1 with
      | no => rw [eb] at p1; exact p1
      | ex e s5 h5 => rw [eb] at p1; exact p1
      | ok fl h5 =>
        rw [eb] at p1
        cases fl with
        | nx s5 => exact fun φ6 σ6 H6 x6 rl6 s6 => ⟨φ6, s5, h5, s6, rl6, PostS.ext x6 p1⟩
        | ct s5 => exact fun φ6 σ6 H6 x6 rl6 s6 => ⟨φ6, s5, h5, s6, rl6, PostS.ext x6 p1⟩
        | bk s5 => exact p1
        | rt v => exact p1
    · exact ⟨false, r1.bl_inv, iteF (p1 φ1 σ H1 .refl rl1 s1)⟩
    · exact p1.elim

/-! ### several names at once -/
theorem ds_par2 {i j : Nat} {x y : Str} {px py pt : Pos} {kt k2 pt2} (hc : X.calm = true) (hN : X.N.Nodup) (hi : X.N[i]? = some x) (hj : X.N[j]? = some y) (hij : i ≠ j) (hx : X.env.scope.names.lookup x = some .local) (hy : X.env.scope.names.lookup y = some .local)
    (ha : DA X T Wx C [a, b] ea) (hw : swappedStores [.Tuple [.Name x px, .Name y py] kt pt] (.Tuple [a, b] k2 pt2) X.env = pure (some [x, y])) (hs : swapsWithSole [.Tuple [.Name x px, .Name y py] kt pt] (.Tuple [a, b] k2 pt2) pos.line X.env = pure false) :
    DS X T Wx C (.Assign [.Tuple [.Name x px, .Name y py] kt pt] (.Tuple [a, b] k2 pt2) pos) (.par [i, j] ea) := by
  refine (ps_par hc hN hi hj hij hx hy ha hw hs).weak fun D σ H ⟨φ, σb, h, s, rl, p⟩ => ?_
  simp only [evalS] at p
  refine tR_mono (tS_of (Ru := RA X.K T) s rl p) ?_
  rintro vs H1 ⟨φ1, w1, h1, x1, s1, rl1, ⟨ws, rfl, r1⟩, p1⟩
  dsimp only at p1
  cases e : setL [i, j] ws σb with
  | none => rw [e] at p1; exact p1.elim
  | some σ' =>
    rw [e] at p1
    cases ws with
    | nil => simp [setL] at e
    | cons w1 ws =>
      cases ws with
      | nil => simp [setL] at e
      | cons w2 ws =>
        cases ws with
        | cons w3 ws => simp [setL] at e
        | nil =>
          obtain ⟨v1, v2, rfl, r1, r2⟩ := r1.two
          refine ⟨v1, v2, rfl, ?_⟩
          simp only [setL] at e
          split at e
          · split at e
            · cases e
              exact p1 φ1 _ H1 .refl rl1 ((s1.set r1).set r2)
            · cases e
          · cases e
theorem RVs.three {K : PySem.W.Frag} {w u z : W} {vs : List V} (h : RVs K T φ H [w, u, z] vs) : ∃ v1 v2 v3, vs = [v1, v2, v3] ∧ RV K T φ H w v1 ∧ RV K T φ H u v2 ∧ RV K T φ H z v3 := by
  simp only [RVs] at h
  obtain ⟨v, r, rfl, h1, z, r2, rfl, h2, y, r3, rfl, h3, rfl⟩ := h
  exact ⟨v, z, y, rfl, h1, h2, h3⟩
theorem ds_par3 {i j l : Nat} {x y z : Str} {px py pz pt : Pos} {kt k2 pt2} (hc : X.calm = true) (hN : X.N.Nodup) (hi : X.N[i]? = some x) (hj : X.N[j]? = some y) (hl : X.N[l]? = some z) (hij : i ≠ j) (hil : i ≠ l) (hjl : j ≠ l)
    (hx : X.env.scope.names.lookup x = some .local) (hy : X.env.scope.names.lookup y = some .local) (hz : X.env.scope.names.lookup z = some .local)
    (ha : DA X T Wx C [a, b, c] ea) (hw : swappedStores [.Tuple [.Name x px, .Name y py, .Name z pz] kt pt] (.Tuple [a, b, c] k2 pt2) X.env = pure (some [x, y, z])) (hs : swapsWithSole [.Tuple [.Name x px, .Name y py, .Name z pz] kt pt] (.Tuple [a, b, c] k2 pt2) pos.line X.env = pure false) :
    DS X T Wx C (.Assign [.Tuple [.Name x px, .Name y py, .Name z pz] kt pt] (.Tuple [a, b, c] k2 pt2) pos) (.par [i, j, l] ea) := by
  refine (L2.ps_par3 hc hN hi hj hl hij hil hjl hx hy hz ha hw hs).weak fun D σ H ⟨φ, σb, h, s, rl, p⟩ => ?_
  simp only [evalS] at p
  refine tR_mono (tS_of (Ru := RA X.K T) s rl p) ?_
  rintro vs H1 ⟨φ1, w1, h1, x1, s1, rl1, ⟨ws, rfl, r1⟩, p1⟩
  dsimp only at p1
  cases e : setL [i, j, l] ws σb with
  | none => rw [e] at p1; exact p1.elim
  | some σ' =>
    rw [e] at p1
    cases ws with
    | nil => simp [setL] at e
    | cons w1 ws =>
      cases ws with
      | nil => simp [setL] at e
      | cons w2 ws =>
        cases ws with
        | nil => simp [setL] at e
        | cons w3 ws =>
          cases ws with
          | cons w4 ws => simp [setL] at e
          | nil =>
            obtain ⟨v1, v2, v3, rfl, r1, r2, r3⟩ := r1.three
            refine ⟨v1, v2, v3, rfl, ?_⟩
            simp only [setL] at e
            split at e
            · split at e
              · split at e
                · cases e
                  exact p1 φ1 _ H1 .refl rl1 (((s1.set r1).set r2).set r3)
                · cases e
              · cases e
            · cases e

/-! ### op=, a[i] = -/
theorem inplace_nx (op : Op) (a b : W) (h : Hb) : ∀ e h', inplace op a b h ≠ .ex e h' := by
  intro e h' q
  unfold inplace at q
  split at q <;> cases q
theorem ipI_ok (op : Op) : PIp X (opP op) (rB X.K T (inplace op)) := by
  intro pins s σ H x y v u Q I rx ry ⟨φ, h, w1, w2, rl, r1, r2, p⟩
  unfold inplace at p
  split at p
  · have e1 := r1.int_inv; have e2 := r2.int_inv; subst e1 e2
    exact ip_add pins s σ H _ _ v u Q I rx ry ⟨_, _, rfl, rfl, p φ _ H .refl rl (.mk_int _)⟩
  · have e1 := r1.int_inv; have e2 := r2.int_inv; subst e1 e2
    exact ip_sub pins s σ H _ _ v u Q I rx ry ⟨_, _, rfl, rfl, p φ _ H .refl rl (.mk_int _)⟩
  · exact p.elim
theorem rB_go {op : Op} {w1 w2 : W} {x y : V} {g : W → Hb → G} {D : Ends} (s : RS X.K T φ H σb σ) (rl : Rel X.K T φ H h) (r1 : RV X.K T φ H w1 x) (r2 : RV X.K T φ H w2 y) (p : PostS X.K T Wx φ H ((inplace op w1 w2 h).go σb g) D) :
    rB X.K T (inplace op) x y H (fun v H1 => ∃ φ1 w h1, Ex X.K φ φ1 H H1 ∧ RS X.K T φ1 H1 σb σ ∧ Rel X.K T φ1 H1 h1 ∧ RV X.K T φ1 H1 w v ∧ PostS X.K T Wx φ1 H1 (g w h1) D) :=
  ⟨φ, h, w1, w2, rl, r1, r2, goB_of s rl (inplace_nx _ _ _ _) p⟩
theorem ds_aug {i : Nat} {x : Str} {op : Op} {pos' : Pos} (hN : X.N.Nodup) (hi : X.N[i]? = some x) (hx : Loc X.env.scope x) (hf : X.fn x = true ∨ X.env.scope.names.lookup x = some .local) (ha : D X T Wx C a ea) :
    DS X T Wx C (.AugAssign (.Name x pos') (opP op) a pos) (.aug i op ea) := by
  refine (ps_aug hN hi hx ha (ipI_ok (T := T) op) hf).weak fun D σ H ⟨φ, σb, h, s, rl, p⟩ => ?_
  simp only [evalS] at p
  split at p
  · rename_i w q
    obtain ⟨v, e, r⟩ := s.at_ i w q
    refine ⟨v, e, ?_⟩
    refine tR_mono (tS_of s rl p) ?_
    rintro y H1 ⟨φ1, w1, h1, x1, s1, rl1, r1, p1⟩
    obtain ⟨φ2, h2, u1, u2, rl2, ru1, ru2, q2⟩ := rB_go s1 rl1 (RV.mono x1 _ _ r) r1 p1
    refine ⟨φ2, h2, u1, u2, rl2, ru1, ru2, q2.mono ?_⟩
    rintro z H2 ⟨φ3, w3, h3, x3, s3, rl3, r3, p3⟩
    exact p3 φ3 _ H2 .refl rl3 (s3.set r3)
  · exact p.elim
/-- a[i] = v -/
def rSet (K : PySem.W.Frag) (T : Tab) : TSet := fun o i v H Q => ∃ φ h wo wi wv, Rel K T φ H h ∧ RV K T φ H wo o ∧ RV K T φ H wi i ∧ RV K T φ H wv v ∧
  (match setIxD h wo wi wv with | .ok _ h' => ∀ φ' H', Ex K φ φ' H H' → Rel K T φ' H' h' → Q H' | _ => False)
theorem setL_ok {pins : List (Addr × Obj)} {s : Shared} {σ : L2.St} {H : Hp} {φ : Pl} {h : Hb} {o i v : V} {wo wi wv : W} {ov iv u : Value} {Q : Hp → Prop} (I : L2.Inv X pins σ H s) (ro : RelV o ov) (ri : RelV i iv) (rv : RelV v u) (rl : Rel X.K T φ H h) (r1 : RV X.K T φ H wo o) (r2 : RV X.K T φ H wi i) (r3 : RV X.K T φ H wv v)
    (p : match setIx h wo wi wv with | .ok _ h' => ∀ φ' H', Ex X.K φ φ' H H' → Rel X.K T φ' H' h' → Q H' | _ => False) : wpAny (model X.prog X.w) X.A (setItem ov iv u) (fun _ s' => ∃ H', L2.Inv X pins σ H' s' ∧ Q H') X.xe s := by
  unfold setIx at p
  split at p
  · rename_i h' e
    split at e
    · obtain ⟨a, rfl, ha⟩ := r1.ref_inv
      have e2 := r2.int_inv; subst e2
      split at e
      · rename_i xs q
        obtain ⟨vs, h1, k⟩ := rl.lst q ha
        replace ha := rl.liv q (by intro z; cases z) ha
        split at e
        · rename_i j hj
          cases e
          refine set_list pins s σ H _ _ v ov iv u Q I ro ri rv ⟨a, vs, _, j, rfl, rfl, h1, by rw [← k.length]; exact hj, ?_⟩
          have x := Ex.write (o := .lst (vs.set j v)) rl (List.mem_of_getElem? ha)
          exact p φ _ x (rl.write ha ⟨_, upd_same, RVs.set (RV.mono x _ _ r3) j (RVs.mono x _ _ k)⟩)
        · cases e
      · cases e
    · cases e
  · exact p.elim
theorem setI_ok (hu : X.A.units + 70 < cLine) (hk : T.ca.hk = hkW X.w) : PSet X (rSet X.K T) := by
  intro pins s σ H o i v ov iv u Q I ro ri rv ⟨φ, h, wo, wi, wv, rl, r1, r2, r3, p⟩
  unfold setIxD at p
  split at p
  · rename_i h' e
    split at e
    · rename_i n
      split at e
      · rename_i ks ws q
        obtain ⟨a, rfl, ha⟩ := r1.ref_inv
        replace ha := rl.liv q (by intro z; cases z) ha
        split at e
        · rename_i p' hp
          cases e
          cases (show ov = Value.ref a from ro)
          refine (dic_store (A := X.A) (by omega) hk I (rl.at_ n _ a q ha) hp r2 r3 ri rv (fun es ep ws vs r => RVs.mono (Ex.write (o := .ext (IsD a es ep)) rl (List.mem_of_getElem? ha)) _ _ r) fun es ep s' I' ro' => ?_).1
          exact ⟨_, I', p φ _ (Ex.write rl (List.mem_of_getElem? ha)) (rl.write ha ro')⟩
        · cases e
      · exact setL_ok I ro ri rv rl r1 r2 r3 (by rw [e]; exact p)
    · exact setL_ok I ro ri rv rl r1 r2 r3 (by rw [e]; exact p)
  · exact p.elim
theorem setIx_nx (h : Hb) (a b c : W) : ∀ e h', setIx h a b c ≠ .ex e h' := by
  intro e h' q
  unfold setIx at q
  repeat' (first | cases q | (split at q))
theorem setIxD_nx (h : Hb) (a b c : W) : ∀ e h', setIxD h a b c ≠ .ex e h' := by
  intro e h' q
  unfold setIxD at q
  split at q
  · split at q
    · split at q <;> cases q
    · exact setIx_nx _ _ _ _ _ _ q
  · exact setIx_nx _ _ _ _ _ _ q
theorem rSet_go {w1 w2 w3 : W} {x y z : V} {g : Unit → Hb → G} {D : Ends} (s : RS X.K T φ H σb σ) (rl : Rel X.K T φ H h) (r1 : RV X.K T φ H w1 x) (r2 : RV X.K T φ H w2 y) (r3 : RV X.K T φ H w3 z) (p : PostS X.K T Wx φ H ((setIxD h w1 w2 w3).go σb g) D) :
    rSet X.K T x y z H (fun H1 => ∃ φ1 h1, Ex X.K φ φ1 H H1 ∧ RS X.K T φ1 H1 σb σ ∧ Rel X.K T φ1 H1 h1 ∧ PostS X.K T Wx φ1 H1 (g () h1) D) := by
  refine ⟨φ, h, w1, w2, w3, rl, r1, r2, r3, ?_⟩
  cases q : setIxD h w1 w2 w3 with
  | no => rw [q] at p; exact p
  | ex e h' => exact absurd q (setIxD_nx _ _ _ _ _ _)
  | ok u h' => rw [q] at p; exact fun φ' H' x rl' => ⟨φ', h', x, s.mono x, rl', PostS.ext x p⟩
theorem ds_six (hu : X.A.units + 70 < cLine) (hk : T.ca.hk = hkW X.w) {o i : Expr} {eo ei : E} {tpos : Pos} (ha : D X T Wx C a ea) (ho : D X T Wx C o eo) (hi : D X T Wx C i ei)
    (hA : ∀ v, assign (.Subscript o i tpos) X.env v = (do
      let ov ← holding [v] (eval o X.env)
      let iv ← holding [v, ov] (eval i X.env)
      standAt tpos
      holding [v, ov, iv] (setItem ov iv v)
      release [v, ov, iv] []))
    (hs : swapsWithSole [.Subscript o i tpos] a pos.line X.env = pure false) (hw : swappedStores [.Subscript o i tpos] a X.env = pure none) (h1 : (assignEach [.Subscript o i tpos] X.env).map (·.2) = [assign (.Subscript o i tpos) X.env]) :
    DS X T Wx C (.Assign [.Subscript o i tpos] a pos) (.six eo ei ea) := by
  refine (ps_asg ha (pg_sub ho hi (setI_ok (T := T) hu hk) hA) hs hw h1).weak fun D σ H ⟨φ, σb, h, s, rl, p⟩ => ?_
  simp only [evalS] at p
  refine tR_mono (tS_of s rl p) ?_
  rintro v H1 ⟨φ1, w1, h1, x1, s1, rl1, r1, p1⟩
  refine tR_mono (tS_of s1 rl1 p1) ?_
  rintro x H2 ⟨φ2, w2, h2, x2, s2, rl2, r2, p2⟩
  refine tR_mono (tS_of s2 rl2 p2) ?_
  rintro y H3 ⟨φ3, w3, h3, x3, s3, rl3, r3, p3⟩
  obtain ⟨φ4, h4, wo, wi, wv, a1, a2, a3, a4, q4⟩ := rSet_go s3 rl3 (RV.mono x3 _ _ r2) r3 (RV.mono (x2.trans x3) _ _ r1) p3
  refine ⟨φ4, h4, wo, wi, wv, a1, a2, a3, a4, ?_⟩
  split at q4
  · intro φ' H' x rl'
    obtain ⟨φ5, h5, _, s5, rl5, p5⟩ := q4 φ' H' x rl'
    exact p5 φ5 σ H' .refl rl5 s5
  · exact q4
/-- a[i], by values -/
theorem getI_ok : PGet X (rB X.K T fun a b h => R.ofO (getIxL h a b) h) := by
  intro pins s σ H o i ov iv Q I ro ri ⟨φ, h, w1, w2, rl, r1, r2, p⟩
  dsimp only at p
  cases hc : getIxL h w1 w2 with
  | none => rw [hc] at p; exact p.elim
  | some w =>
  rw [hc] at p
  have fin : ∀ z, RV X.K T φ H w z → Q z H := fun z r => p φ z H .refl rl r
  have seqL : ∀ {xs : List W} {k : Int} {a : Addr} {vs : List V}, o = .ref a → i = .int k → SqL X.K H a vs → RVs X.K T φ H xs vs → ((L2.ixN xs.length k).bind fun j => xs[j]?) = some w →
      wpAny (model X.prog X.w) X.A (getItem ov iv) (EP X pins σ Q) X.xe s := by
    intro xs k a vs e1 e2 hq kk e
    subst e1 e2
    cases ro
    obtain ⟨t, rfl⟩ := ri
    obtain ⟨j, hj, hw⟩ := Option.bind_eq_some_iff.mp e
    obtain ⟨z, hz, rz⟩ := kk.get hw
    obtain ⟨its, r, pl, hsz⟩ := I.list hq
    obtain ⟨u, ew, ru⟩ := r.get hz
    obtain ⟨g1, g2, g3, g4⟩ := ixN_seq (show ixN vs.length k = some j by rw [← kk.length]; exact hj)
    have hl := r.length
    have hn := line63
    have fin' : EP X pins σ Q u s := ⟨z, H, I, ru, fin z rz⟩
    by_cases h0 : 0 ≤ k
    · have e3 : k.toNat = j := by
        rw [seqIndex_of h0 g4] at g1
        exact Option.some.inj g1
      exact wpAny_getItem_list pl.isList h0 (by omega) (by rw [e3]; simpa using ew) fin'
    · have e3 : (k + (its.toArray.size : Int)).toNat = j := by
        rw [seqIndex_neg (by omega) g3] at g1
        rw [List.size_toArray, ← hl]
        exact Option.some.inj g1
      exact wpAny_getItem_list_neg pl.isList (by omega) (by rw [List.size_toArray] <;> omega) (by omega) (by rw [e3]; simpa using ew) fin'
  have seqT : ∀ {xs : List W} {k : Int} {a : Addr} {vs : List V}, o = .ref a → i = .int k → SqT X.K H a vs → RVs X.K T φ H xs vs → ((L2.ixN xs.length k).bind fun j => xs[j]?) = some w →
      wpAny (model X.prog X.w) X.A (getItem ov iv) (EP X pins σ Q) X.xe s := by
    intro xs k a vs e1 e2 hq kk e
    subst e1 e2
    cases ro
    obtain ⟨t, rfl⟩ := ri
    obtain ⟨j, hj, hw⟩ := Option.bind_eq_some_iff.mp e
    obtain ⟨z, hz, rz⟩ := kk.get hw
    obtain ⟨its, r, pl, hsz⟩ := I.tuple hq
    obtain ⟨u, ew, ru⟩ := r.get hz
    obtain ⟨g1, g2, g3, g4⟩ := ixN_seq (show ixN vs.length k = some j by rw [← kk.length]; exact hj)
    have hl := r.length
    have hn := line63
    have fin' : EP X pins σ Q u s := ⟨z, H, I, ru, fin z rz⟩
    exact getItem_tuple (j := j) pl (by omega) (by omega) (by rw [List.size_toArray, ← hl]; exact g1) (by simpa using ew) fin'
  unfold getIxL at hc
  split at hc
  · cases hc
  rename_i nstr
  unfold getIx at hc
  split at hc
  · obtain ⟨a, vs, e1, h1, k⟩ := r1.tup_inv
    exact seqT e1 r2.int_inv (tup_seq h1) k hc
  · obtain ⟨a, vs, e1, n, h1, k⟩ := r1.lit_inv
    exact seqL e1 r2.int_inv (SqL.of h1) k hc
  · obtain ⟨a, vs, e1, h1, k⟩ := r1.rol_inv
    exact seqL e1 r2.int_inv (lst_seq h1) k hc
  · obtain ⟨a, e1, ha⟩ := r1.ref_inv
    split at hc
    · rename_i xs q
      obtain ⟨vs, e3, k⟩ := rl.lst q ha
      replace ha := rl.liv q (by intro z; cases z) ha
      exact seqL e1 r2.int_inv (SqL.of e3) k hc
    · cases hc
  · exact absurd rfl (nstr _)
  · cases hc
theorem ds_sixaug (hu : X.A.units + 70 < cLine) (hk : T.ca.hk = hkW X.w) {o i : Expr} {eo ei : E} {op : Op} {tpos : Pos} (ho : D X T Wx C o eo) (hi : D X T Wx C i ei) (ha : D X T Wx C a ea)
    (hA : ∀ ov iv new, augStore i ov iv new = (do holding [new, ov, iv] (setItem ov iv new); release [new, ov, iv] []; pure .next)) :
    DS X T Wx C (.AugAssign (.Subscript o i tpos) (opP op) a pos) (.sixaug eo ei op ea) := by
  refine (ps_augS ho hi (getI_ok (T := T)) ha (ipI_ok (T := T) op) (setI_ok (T := T) hu hk) hA).weak fun D σ H ⟨φ, σb, h, s, rl, p⟩ => ?_
  simp only [evalS] at p
  refine tR_mono (tS_of s rl p) ?_
  rintro x H1 ⟨φ1, w1, h1, x1, s1, rl1, r1, p1⟩
  refine tR_mono (tS_of s1 rl1 p1) ?_
  rintro y H2 ⟨φ2, w2, h2, x2, s2, rl2, r2, p2⟩
  replace r1 := RV.mono x2 _ _ r1
  split at p2
  · rename_i z hz
    refine ⟨φ2, h2, w1, w2, rl2, r1, r2, ?_⟩
    dsimp only
    rw [hz]
    intro φ3 v3 H3 x3 rl3 r3
    refine tR_mono (tS_of (s2.mono x3) rl3 (PostS.ext x3 p2)) ?_
    rintro v H4 ⟨φ4, w4, h4, x4, s4, rl4, r4, p4⟩
    refine ⟨φ4, h4, z, w4, rl4, RV.mono x4 _ _ r3, r4, (goB_of s4 rl4 (inplace_nx _ _ _ _) p4).mono ?_⟩
    rintro u H5 ⟨φ5, w5, h5, x5, s5, rl5, r5, p5⟩
    have xx := x3.trans (x4.trans x5)
    obtain ⟨φ6, h6, wo, wi, wv, a1, a2, a3, a4, q6⟩ := rSet_go s5 rl5 (RV.mono xx _ _ r1) (RV.mono xx _ _ r2) r5 p5
    refine ⟨φ6, h6, wo, wi, wv, a1, a2, a3, a4, ?_⟩
    split at q6
    · intro φ' H' x rl'
      obtain ⟨φ7, h7, _, s7, rl7, p7⟩ := q6 φ' H' x rl'
      exact p7 φ7 σ H' .refl rl7 s7
    · exact q6
  · exact p2.elim
end
end Y
/-! Y8b: comprehensions that make dicts, and those of two clauses, as expressions and stored into a name. -/
namespace Y
open PySem PySem.Spec PyProof.Rows L2

/-- a comprehension's way in and out -/
def Core (X : L2.Cx) (ce iter : Expr) (scope : Scope) (newAcc : Sem Value) (t : TE) : Prop :=
  ∀ (pins : List (Addr × Obj)) (s : Shared) (σ : L2.St) (H : Hp) (Q : VK) (use : Option (Value → Sem Unit)) (Qf : Value → Shared → Prop) (pos' : Pos), L2.Inv X pins σ H s → t σ H Q →
    (∀ D C s' m H', L2.Inv X pins σ H' s' → Q (.ref D) H' → s'.heap.Ns C m → FpOk X pins H' C → compPost (model X.prog X.w) X.A X.xe use Qf (.ref D) C (.ok .next) s') →
    wpAny (model X.prog X.w) X.A (comprehension ce scope X.env pos' newAcc false (eval iter X.env) use) Qf X.xe s
section
variable {X : L2.Cx} {ce iter : Expr} {scope : Scope} {newAcc : Sem Value} {t : TE}
theorem Core.pe (c : Core X ce iter scope newAcc t) {p : Pos} (he : eval ce X.env = comprehension ce scope X.env p newAcc false (eval iter X.env)) : PE X ce t := by
  refine ⟨fun pins s σ H Q I h => ?_⟩
  rw [he]
  refine c pins s σ H Q none _ p I h fun D C s' m H' I' q hn f => ⟨m, hn, fun h'' sb => ?_⟩
  obtain ⟨f0, f1, f2, f3, f4, f5⟩ := f
  exact ⟨.ref D, H', I'.turned (t' := s'.toks) (fun b o hb e => (sb.2 b hb).trans e) f0 f1 f3 f4 f5, rfl, q⟩
theorem Core.ps (c : Core X ce iter scope newAcc t) {p py spos : Pos} {i : Nat} {y : Str} (hN : X.N.Nodup) (hy : X.N[i]? = some y) (hyl : X.env.scope.names.lookup y = some .local) (hsw : swapsWith ce (some (.Name y py)) spos.line X.env = pure true)
    (he : ∀ u, evalThenUse ce X.env u = (do let _ ← comprehension ce scope X.env p newAcc false (eval iter X.env) (some u))) : PS X (.Assign [.Name y py] ce spos) (tAsg t (gName i)) := by
  refine ⟨fun pins s σ H D I h => ?_⟩
  rw [exec_Assign_Name_used _ _ _ _ hsw, he]
  have h : t σ H (fun x H1 => gName i x σ H1 D.nx) := h
  refine wpAny_bind (wpAny_standAt (wpAny_bind (wpAny_bind (thn (c pins s σ H _ _ (fun _ s' => SP X pins D .next s') p I h fun L C s' m H' I' q hn f => ?_) fun _ s' hq => wpAny_pure (wpAny_pure hq)))))
  refine wpAny_assign_Name (store_ok2 (v := V.ref L) I' hN hy (.inl hyl) rfl (fun s2 I2 ⟨a, sb, ha⟩ => ?_) (.inr hyl))
  obtain ⟨f0, f1, f2, f3, f4, f5⟩ := f
  have ne : C ≠ a := by
    rcases ha with z | z
    · rw [z]; exact f1
    · exact fun e => f4 y a z e.symm
  refine ⟨m, hn.sameBut sb ne, fun h3 sb3 => ?_⟩
  exact ⟨_, H', I2.turned (t' := s2.toks) (fun b o hb e => (sb3.2 b hb).trans e) f0 f1 f3 f4 f5, q⟩
end
/-! ### what a comprehension makes -/
structure Mk1 (K : PySem.W.Frag) (α : Type) where
  RA : Tab → Addr → Pl → Hp → α → Prop
  acc0 : α
  o0 : Addr → HO
  fin : α → W
  ob : α → O
  ra0 : ∀ T' D φ H, H D = some (o0 D) → some D ∉ φ → (D == sysModules) = false → RA T' D φ H acc0
  ra_n : ∀ T' D φ H acc, RA T' D φ H acc → some D ∉ φ
  ra_ex : ∀ T' D φ φ' H H' acc, Ex K φ φ' H H' → RA T' D φ H acc → RA T' D φ' H' acc
  ra_ro : ∀ T' D φ H acc, RA T' D φ H acc → RO K T' φ H D (ob acc)
  hv : ∀ T D φ H acc, RO K T φ H D (ob acc) → Fr T φ D → RV K T φ H (fin acc) (.ref D)
def mkD (K : PySem.W.Frag) : Mk1 K (List W × List W) where
  RA := fun T' D => RAd K T' D
  acc0 := ([], [])
  o0 := fun D => .ext (IsD D #[] 0)
  fin := fun a => .dic a.1 a.2
  ob := fun a => .dct a.1 a.2
  ra0 := fun T' D φ H e n lo => ⟨⟨#[], [], [], ⟨⟨0, e⟩, lo⟩, ⟨Nat.zero_le _, .inl rfl, List.nodup_nil⟩, rfl, .nil, .nil, .nil, .nil⟩, n⟩
  ra_n := fun T' D φ H acc r => r.2
  ra_ex := fun T' D φ φ' H H' acc x r => r.ex x
  ra_ro := fun T' D φ H acc r => r.1
  hv := fun T D φ H acc ⟨es, kv, vv, e1, e2, e3, e4, e5, e6, e7⟩ n => by simp only [RV]; exact ⟨D, es, kv, vv, rfl, .inl ⟨n, e1⟩, e2, e3, e4, e5, e6, e7⟩
def mkL (K : PySem.W.Frag) : Mk1 K (List W) where
  RA := fun T' D => RAl K T' D
  acc0 := []
  o0 := fun D => .lst []
  fin := fun a => .lit a
  ob := fun a => .lst a
  ra0 := fun T' D φ H e n lo => ⟨⟨[], e, .nil⟩, n⟩
  ra_n := fun T' D φ H acc r => r.2
  ra_ex := fun T' D φ φ' H H' acc x r => r.ex x
  ra_ro := fun T' D φ H acc r => r.1
  hv := fun T D φ H acc ⟨vs, e, k⟩ n => .mk_lit n e k
/-- the reading of a comprehension -/
def rdX {α : Type} (K : PySem.W.Frag) (T : Tab) (C : Ctx) (t : Tg) (c : E) (own : List Nat) (TB : Tab → Addr → L2.St → Hp → (Hp → Prop) → Prop) (σ : L2.St) (J : It) (D : Addr) (H : Hp) (Qd : Hp → Prop) : Prop :=
  ∃ T', T'.ca = T.ca ∧ T'.hid D ∧ tLoop J (tG K T' t) (tT K T' Wn (evalE C c)) (TB T' D) own σ H Qd
section
variable {X : L2.Cx} {T : Tab} {Wx : WX} {C : Ctx} {σ : L2.St} {φ : Pl} {H : Hp} {h : Hb} {σb : Sb}
theorem comp_read {α : Type} (m : Mk1 X.K α) {t : Tg} {it c : E} {own : List Nat} {F : Sb → α → Hb → R α} {TB : Tab → Addr → L2.St → Hp → (Hp → Prop) → Prop} {g : W → Hb → R W} {nw : Bool} {Q : VK} (ht : ∀ i ∈ t.vs, i ∈ own) (reads : ∀ T' D, T'.hid D → Reads X.K T' D (m.RA T' D) F (TB T' D)) (s : RS X.K T φ H σb σ) (rl : Rel X.K T φ H h)
    (p : match evalE C it σb h with
      | .ok w h1 => ∃ ws, itemsI h1 w = some ws ∧ Post X.K T Z0 φ H ((forA (turnA C t c own σb F) (fun h' => stays h1 h' w) ws m.acc0 h1).bind fun vs h5 => if nw = true then .ok (.ref h5.length) (h5 ++ [m.ob vs]) else .ok (m.fin vs) h5) Q
      | .ex x h' => ∀ φ' H' cls d, Ex X.K φ φ' H H' → Rel X.K T φ' H' h' → RX X.K T φ' H' x cls d → Wx cls d σ H'
      | .no => False) :
    tW X.K T Wx (evalE C it) σ H fun J H1 => ∀ D, H1 D = none → (D == sysModules) = false → rdX (α := α) X.K T C t c own TB σ J D (upd H1 D (m.o0 D)) fun H' => Q (.ref D) H' := by
  refine ⟨φ, σb, h, s, rl, ?_⟩
  cases q : evalE C it σb h with
  | no => rw [q] at p; exact p
  | ex e h' => rw [q] at p; exact p
  | ok w h1 =>
    rw [q] at p
    obtain ⟨ws, hi, p⟩ := p
    refine ⟨ws, hi, fun φ1 H1 J x rl1 wk D hD lo => ?_⟩
    have hid : (T.hide D).hid D := Or.inr rfl
    refine ⟨T.hide D, rfl, hid, ?_⟩
    have p1 := PostR.ext x p
    have n1 : some D ∉ φ1 := rl1.fresh hD
    have s1 : RS X.K (T.hide D) φ1 (upd H1 D (m.o0 D)) σb σ := (RS.hide (hide_Hid hD) (s.mono x)).mono (Ex.side rl1 hD)
    · refine lp_turns (RA := m.RA (T.hide D) D) hid (m.ra_n _ _) (m.ra_ex _ _) (wk.hide hD) s1 (rl1.hide hD) (m.ra0 _ _ _ _ upd_same n1 lo) (fun u acc h φ H acc1 h1 xv _ rl ra s rx e Nx nx => turnA_body ht (m.ra_n _ _) (m.ra_ex _ _) (reads _ _ hid) rl ra s rx e Nx nx) ?_
      cases q2 : forA (turnA C t c own σb F) (fun h' => stays h1 h' w) ws m.acc0 h1 with
      | no => rw [q2] at p1; exact p1.elim
      | ex e h' => exact absurd q2 (forA_nx _ _)
      | ok vs h5 =>
        rw [q2] at p1
        exact fun φ' H' x' rl' ra' => made_end (nw := nw) hD rl1 (fun φ H ro n => m.hv _ _ _ _ _ ro n) p1 x' rl' (m.ra_ro _ _ _ _ _ ra') (m.ra_n _ _ _ _ _ ra')
variable {tg iter t1 i1 kx vx elt : Expr} {ifs ifs1 : List Expr} {scope : Scope} {own : List (Str × Nat)} {own1 : List Nat} {t tt1 : Tg} {it c it1 c1 ek ev ee : E} {pos : Pos}
abbrev tComp (X : L2.Cx) (T : Tab) (Wx : WX) (C : Ctx) {α : Type} (m : Mk1 X.K α) (t : Tg) (it c : E) (own : List Nat) (TB : Tab → Addr → L2.St → Hp → (Hp → Prop) → Prop) : TE := fun σ H Q =>
  tW X.K T Wx (evalE C it) σ H fun J H1 => ∀ D, H1 D = none → (D == sysModules) = false → rdX (α := α) X.K T C t c own TB σ J D (upd H1 D (m.o0 D)) fun H' => Q (.ref D) H'
/-- what the parts of a comprehension give -/
structure Parts (X : L2.Cx) (T : Tab) (Wx : WX) (C : Ctx) (tg iter : Expr) (ifs : List Expr) (scope : Scope) (own : List (Str × Nat)) (t : Tg) (it c : E) : Prop where
  hc : X.calm = true
  hN : X.N.Nodup
  hu : X.A.units + 70 < cLine
  hk : T.ca.hk = hkW X.w
  hi : DI X T Wx C tg iter it
  ok : BlkOk X.N X.env.scope scope own
  ho : ∀ i ∈ t.vs, i ∈ own.map (·.2)
  hg : ∀ T' : Tab, T'.ca = T.ca → Blk X scope fun B => PG B tg (tG X.K T' t)
  ht : ∀ T' : Tab, T'.ca = T.ca → Blk X scope fun B => PTs B ifs (tT X.K T' Wn (evalE C c))
  hs : ∀ x, foldedSetIterable iter X.env x = pure x
structure Parts1 (X : L2.Cx) (T : Tab) (C : Ctx) (t1 i1 : Expr) (ifs1 : List Expr) (scope : Scope) (own : List (Str × Nat)) (own1 : List Nat) (tt1 : Tg) (it1 c1 : E) : Prop where
  hi : ∀ T' : Tab, T'.ca = T.ca → Blk X scope fun B => DI B T' Wn C t1 i1 it1
  ho : ∀ i ∈ tt1.vs, i ∈ own1
  hov : ∀ i ∈ own1, i ∈ own.map (·.2)
  hg : ∀ T' : Tab, T'.ca = T.ca → Blk X scope fun B => PG B t1 (tG X.K T' tt1)
  ht : ∀ T' : Tab, T'.ca = T.ca → Blk X scope fun B => PTs B ifs1 (tT X.K T' Wn (evalE C c1))
  hs : ∀ env x, foldedSetIterable i1 env x = pure x
theorem new_dict {M : Model} {A : Around} (s : Shared) (Q E : Value → Shared → Prop) (q : Q (.ref s.heap.objs.size) { s with heap := s.heap.push { cls := .type "dict", data := .dict #[] } }) : wpAny M A newDict Q E s := wpAny_newObj_type q
theorem new_list {M : Model} {A : Around} (s : Shared) (Q E : Value → Shared → Prop) (q : Q (.ref s.heap.objs.size) { s with heap := s.heap.push { cls := .type "list", data := .seq ([] : List Value).toArray } }) : wpAny M A (newList []) Q E s := wpAny_newObj_type q (by show 0 ≤ sizeLine; decide)
theorem ob_dict {P : Program} {w : World} (h : Heap) (H : Hp) (_ : sysModules < h.objs.size) : ObjOk P w H (h.push { cls := .type "dict", data := .dict #[] }) h.objs.size (.ext (IsD h.objs.size #[] 0)) := by
  have e : (h.push ({ cls := .type "dict", data := .dict #[] } : Obj)).get? h.objs.size = some { cls := .type "dict", data := .dict #[] } := Heap.get?_push_size _ rfl
  exact ⟨⟨_, e, rfl, rfl, rfl, rfl⟩, ⟨_, e⟩, fun h1 h2 z k => let ⟨o, e, c⟩ := z; ⟨o, k _ e, c⟩⟩
theorem ob_list {P : Program} {w : World} (h : Heap) (H : Hp) (_ : sysModules < h.objs.size) : ObjOk P w H (h.push { cls := .type "list", data := .seq ([] : List Value).toArray }) h.objs.size (.lst []) :=
  ⟨Nat.zero_le _, [], 0, .nil, Heap.get?_push_size _ rfl⟩
theorem core_d1 (P : Parts X T Wx C tg iter ifs scope own t it c) (pk : ∀ T' : Tab, T'.ca = T.ca → Blk X scope fun B => Y.D B T' Wn C kx ek) (pv : ∀ T' : Tab, T'.ca = T.ca → Blk X scope fun B => Y.D B T' Wn C vx ev) :
    Core X (.DictComp kx vx [⟨tg, iter, ifs, 0⟩] scope pos) iter scope newDict (tComp X T Wx C (mkD X.K) t it c (own.map (·.2)) fun T' D => sinkD X.K T' D (evalE C ek) (evalE C ev)) := by
  intro pins s σ H Q use Qf pos' I h hRR
  refine comp_enter (ob0 := { cls := .type "dict", data := .dict #[] }) (o0 := fun D => .ext (IsD D #[] 0)) rfl P.hs new_dict ob_dict P.hN P.hc I P.hi P.ok (start_d0 _ _ _) h (fun s0 H0 C' cl fp it D tn J s1 R Qd tu stat I1 st n0 ⟨T', ca, hid, r⟩ fin => ?_) hRR
  exact comp_loop (B := X.blk s0 H0 scope (compEnvC scope cl C' X.env) fp) (vb := []) turn_d1 (fun c e => by subst e; exact ⟨rfl, rfl, rfl⟩) tu P.hc rfl (P.hg T' ca _ _ _ _ _) (P.ht T' ca _ _ _ _ _) (pb_sinkD rfl P.hu (by rw [ca]; exact P.hk) hid (pk T' ca _ _ _ _ _) (pv T' ca _ _ _ _ _)) (fun i h => by cases h) stat I1 st n0 r fin
theorem core_d2 (P : Parts X T Wx C tg iter ifs scope own t it c) (P1 : Parts1 X T C t1 i1 ifs1 scope own own1 tt1 it1 c1) (pk : ∀ T' : Tab, T'.ca = T.ca → Blk X scope fun B => Y.D B T' Wn C kx ek) (pv : ∀ T' : Tab, T'.ca = T.ca → Blk X scope fun B => Y.D B T' Wn C vx ev) :
    Core X (.DictComp kx vx [⟨tg, iter, ifs, 0⟩, ⟨t1, i1, ifs1, 0⟩] scope pos) iter scope newDict (tComp X T Wx C (mkD X.K) t it c (own.map (·.2)) fun T' D => tb2 X.K T' C tt1 it1 c1 own1 (sinkD X.K T' D (evalE C ek) (evalE C ev))) := by
  intro pins s σ H Q use Qf pos' I h hRR
  refine comp_enter (ob0 := { cls := .type "dict", data := .dict #[] }) (o0 := fun D => .ext (IsD D #[] 0)) rfl P.hs new_dict ob_dict P.hN P.hc I P.hi P.ok (start_d0 _ _ _) h (fun s0 H0 C' cl fp it D tn J s1 R Qd tu stat I1 st n0 ⟨T', ca, hid, r⟩ fin => ?_) hRR
  refine comp_loop (B := X.blk s0 H0 scope (compEnvC scope cl C' X.env) fp) (vb := own1) turn_d2o (fun c e => by subst e; exact ⟨rfl, rfl, rfl⟩) tu P.hc rfl (P.hg T' ca _ _ _ _ _) (P.ht T' ca _ _ _ _ _) ?_ P1.hov stat I1 st n0 r fin
  exact pb_two (B := X.blk s0 H0 scope (compEnvC scope cl C' X.env) fp) rfl P.hc (P1.hs _) (P1.hi T' ca _ _ _ _ _) (P1.hg T' ca _ _ _ _ _) (P1.ht T' ca _ _ _ _ _) (pb_sinkD rfl P.hu (by rw [ca]; exact P.hk) hid (pk T' ca _ _ _ _ _) (pv T' ca _ _ _ _ _)) start_d1 (fun it => turn_d2i) (fun it c e => by subst e; exact ⟨rfl, rfl, rfl⟩)
theorem core_l2 (P : Parts X T Wx C tg iter ifs scope own t it c) (P1 : Parts1 X T C t1 i1 ifs1 scope own own1 tt1 it1 c1) (pe : ∀ T' : Tab, T'.ca = T.ca → Blk X scope fun B => Y.D B T' Wn C elt ee) :
    Core X (.ListComp elt [⟨tg, iter, ifs, 0⟩, ⟨t1, i1, ifs1, 0⟩] scope pos) iter scope (newList []) (tComp X T Wx C (mkL X.K) t it c (own.map (·.2)) fun T' D => tb2 X.K T' C tt1 it1 c1 own1 (sinkL X.K T' D (evalE C ee))) := by
  intro pins s σ H Q use Qf pos' I h hRR
  refine comp_enter (ob0 := { cls := .type "list", data := .seq ([] : List Value).toArray }) (o0 := fun D => .lst []) rfl P.hs new_list ob_list P.hN P.hc I P.hi P.ok (start_l0 _ _ _) h (fun s0 H0 C' cl fp it D tn J s1 R Qd tu stat I1 st n0 ⟨T', ca, hid, r⟩ fin => ?_) hRR
  refine comp_loop (B := X.blk s0 H0 scope (compEnvC scope cl C' X.env) fp) (vb := own1) turn_l2o (fun c e => by subst e; exact ⟨rfl, rfl, rfl⟩) tu P.hc rfl (P.hg T' ca _ _ _ _ _) (P.ht T' ca _ _ _ _ _) ?_ P1.hov stat I1 st n0 r fin
  exact pb_two (B := X.blk s0 H0 scope (compEnvC scope cl C' X.env) fp) rfl P.hc (P1.hs _) (P1.hi T' ca _ _ _ _ _) (P1.hg T' ca _ _ _ _ _) (P1.ht T' ca _ _ _ _ _) (pb_sinkL rfl (pe T' ca _ _ _ _ _)) start_l1 (fun it => turn_l2i) (fun it c e => by subst e; exact ⟨rfl, rfl, rfl⟩)
/-! ### as expressions; stored -/
/-- a comprehension that runs as r: what its list or dict is, frozen or tracked -/
theorem comp_pre {α : Type} {m : Mk1 X.K α} {F : Sb → α → Hb → R α} {own : List Nat} {nw : Bool} {Q : VK} {e' : E} (ev : ∀ σb h, evalE C e' σb h = (evalE C it σb h).bind fun w h1 => (match itemsI h1 w with
      | some ws => (forA (turnA C t c own σb F) (fun h' => stays h1 h' w) ws m.acc0 h1).bind fun vs h5 => if nw = true then .ok (.ref h5.length) (h5 ++ [m.ob vs]) else .ok (m.fin vs) h5
      | none => .no)) (p : Post X.K T (ZX Wx σ) φ H (evalE C e' σb h) Q) : match evalE C it σb h with
      | .ok w h1 => ∃ ws, itemsI h1 w = some ws ∧ Post X.K T Z0 φ H ((forA (turnA C t c own σb F) (fun h' => stays h1 h' w) ws m.acc0 h1).bind fun vs h5 => if nw = true then .ok (.ref h5.length) (h5 ++ [m.ob vs]) else .ok (m.fin vs) h5) Q
      | .ex x h' => ∀ φ' H' cls d, Ex X.K φ φ' H H' → Rel X.K T φ' H' h' → RX X.K T φ' H' x cls d → Wx cls d σ H'
      | .no => False := by
  rw [ev] at p
  cases q : evalE C it σb h with
  | no => rw [q] at p; exact p
  | ex e h' => rw [q] at p; exact p
  | ok w h1 =>
    rw [q] at p
    have p' : Post X.K T (ZX Wx σ) φ H (match itemsI h1 w with
      | some ws => (forA (turnA C t c own σb F) (fun h' => stays h1 h' w) ws m.acc0 h1).bind fun vs h5 => if nw = true then .ok (.ref h5.length) (h5 ++ [m.ob vs]) else .ok (m.fin vs) h5
      | none => .no) Q := p
    cases hi : itemsI h1 w with
    | none => rw [hi] at p'; exact p'.elim
    | some ws =>
      rw [hi] at p'
      refine ⟨ws, hi, R.nx p' fun e h' z => ?_⟩
      cases q2 : forA (turnA C t c own σb F) (fun h' => stays h1 h' w) ws m.acc0 h1 with
      | no => rw [q2] at z; cases z
      | ex e h' => exact absurd q2 (forA_nx _ _)
      | ok vs h5 =>
        rw [q2] at z
        have z' : (if nw = true then R.ok (W.ref h5.length) (h5 ++ [m.ob vs]) else R.ok (m.fin vs) h5) = .ex e h' := z
        split at z' <;> cases z'
theorem comp_d {α : Type} {m : Mk1 X.K α} {ce : Expr} {F : Sb → α → Hb → R α} {TB : Tab → Addr → L2.St → Hp → (Hp → Prop) → Prop} {newAcc : Sem Value} {nw : Bool} {e' : E} {p : Pos} (ho : ∀ i ∈ t.vs, i ∈ own.map (·.2)) (core : Core X ce iter scope newAcc (tComp X T Wx C m t it c (own.map (·.2)) TB)) (reads : ∀ T' D, T'.hid D → Reads X.K T' D (m.RA T' D) F (TB T' D))
    (ev : ∀ σb h, evalE C e' σb h = (evalE C it σb h).bind fun w h1 => (match itemsI h1 w with
      | some ws => (forA (turnA C t c (own.map (·.2)) σb F) (fun h' => stays h1 h' w) ws m.acc0 h1).bind fun vs h5 => if nw = true then .ok (.ref h5.length) (h5 ++ [m.ob vs]) else .ok (m.fin vs) h5
      | none => .no)) (he : eval ce X.env = comprehension ce scope X.env p newAcc false (eval iter X.env)) : Y.D X T Wx C ce e' :=
  (core.pe he).weak fun σ H Q ⟨φ, σb, h, s, rl, p⟩ => comp_read (g := fun _ _ => .no) m ho reads s rl (comp_pre ev p)
theorem comp_ds {α : Type} {m : Mk1 X.K α} {ce : Expr} {F : Sb → α → Hb → R α} {TB : Tab → Addr → L2.St → Hp → (Hp → Prop) → Prop} {newAcc : Sem Value} {nw : Bool} {e' : E} {p py spos : Pos} {i : Nat} {y : Str} (ho : ∀ i ∈ t.vs, i ∈ own.map (·.2)) (core : Core X ce iter scope newAcc (tComp X T Wx C m t it c (own.map (·.2)) TB)) (reads : ∀ T' D, T'.hid D → Reads X.K T' D (m.RA T' D) F (TB T' D))
    (ev : ∀ σb h, evalE C e' σb h = (evalE C it σb h).bind fun w h1 => (match itemsI h1 w with
      | some ws => (forA (turnA C t c (own.map (·.2)) σb F) (fun h' => stays h1 h' w) ws m.acc0 h1).bind fun vs h5 => if nw = true then .ok (.ref h5.length) (h5 ++ [m.ob vs]) else .ok (m.fin vs) h5
      | none => .no)) (hN : X.N.Nodup) (hy : X.N[i]? = some y) (hyl : X.env.scope.names.lookup y = some .local) (hsw : swapsWith ce (some (.Name y py)) spos.line X.env = pure true)
    (he : ∀ u, evalThenUse ce X.env u = (do let _ ← comprehension ce scope X.env p newAcc false (eval iter X.env) (some u))) : DS X T Wx C (.Assign [.Name y py] ce spos) (.asg (.nm i) e') := by
  refine (core.ps hN hy hyl hsw he).weak fun D σ H ⟨φ, σb, h, s, rl, p⟩ => ?_
  rw [evalS] at p
  show tComp X T Wx C m t it c (own.map (·.2)) TB σ H fun x H1 => gName i x σ H1 D.nx
  refine comp_read (Q := fun x H1 => gName i x σ H1 D.nx) (nw := nw) (g := fun _ _ => .no) m ho reads s rl ?_
  cases q : evalE C it σb h with
  | no =>
    rw [ev, q] at p
    exact p
  | ex e h' =>
    rw [ev, q] at p
    exact fun φ' H' cls d x rl' rx => p φ' σ H' cls d x rl' (s.mono x) rx
  | ok w h1 =>
    rw [ev, q] at p
    have p' : PostS X.K T Wx φ H (R.go (match itemsI h1 w with
      | some ws => (forA (turnA C t c (own.map (·.2)) σb F) (fun h' => stays h1 h' w) ws m.acc0 h1).bind fun vs h5 => if nw = true then .ok (.ref h5.length) (h5 ++ [m.ob vs]) else .ok (m.fin vs) h5
      | none => .no) σb fun w h1 => (match setT (.nm i) w σb with | some σ1 => .ok (.nx σ1) h1 | none => .no)) D := p
    cases hi : itemsI h1 w with
    | none => rw [hi] at p'; exact p'.elim
    | some ws =>
      rw [hi] at p'
      dsimp only at p'
      refine ⟨ws, hi, ?_⟩
      cases q2 : forA (turnA C t c (own.map (·.2)) σb F) (fun h' => stays h1 h' w) ws m.acc0 h1 with
      | no => rw [q2] at p'; exact p'.elim
      | ex e h' => exact absurd q2 (forA_nx _ _)
      | ok vs h5 =>
        rw [q2] at p'
        obtain ⟨r, hr⟩ : ∃ r : R W, r = if nw = true then .ok (.ref h5.length) (h5 ++ [m.ob vs]) else .ok (m.fin vs) h5 := ⟨_, rfl⟩
        have p2 : PostS X.K T Wx φ H (R.go r σb fun w h1 => (match setT (.nm i) w σb with | some σ1 => .ok (.nx σ1) h1 | none => .no)) D := by rw [hr]; exact p'
        show Post X.K T Z0 φ H (if nw = true then .ok (.ref h5.length) (h5 ++ [m.ob vs]) else .ok (m.fin vs) h5) _
        rw [← hr]
        cases r with
        | no => exact p2
        | ex e h' => split at hr <;> cases hr
        | ok w6 h6 =>
          intro φ' v H' x rl' rv
          have p3 : PostS X.K T Wx φ H (match setT (.nm i) w6 σb with | some σ1 => .ok (.nx σ1) h6 | none => .no) D := p2
          simp only [setT] at p3
          split at p3
          · rename_i σ1 es
            split at es
            · cases es
              exact p3 φ' _ H' x rl' ((s.mono x).set rv)
            · cases es
          · exact p3.elim
end
end Y
/-! Y8c: the empty dict; d.get; the comprehensions of Y8b by name. -/
namespace Y
open PySem PySem.Spec PyProof.Rows L2
section
variable {X : L2.Cx} {T : Tab} {Wx : WX} {C : Ctx} {σ : L2.St} {φ : Pl} {H : Hp} {h : Hb} {σb : Sb}
variable {a : Expr} {ea eb : E} {pos : Pos} {es : List Expr}
def tDN : TE := fun _ H Q => ∀ p, H p = none → (p == sysModules) = false → Q (.ref p) (upd H p (.ext (IsD p #[] 0)))
theorem pe_dn : PE X (.Dict [] [] pos) tDN := ⟨fun pins s σ H Q I h =>
  wpAny_Dict_empty ⟨.ref s.heap.objs.size, _, I.laid (a := s.heap.objs.size) (o := .ext (IsD s.heap.objs.size #[] 0)) (t' := s.toks) (fun _ _ q => Heap.get?_push_of_some _ q) (Nat.le_refl _) (ob_dict s.heap _ I.big), rfl,
    h _ (I.hok.fresh (Nat.le_refl _)) (beq_eq_false_iff_ne.mpr (Ne.symm (Nat.ne_of_lt I.big)))⟩⟩
theorem ro_dn {K : PySem.W.Frag} {p : Addr} (e : H p = some (.ext (IsD p #[] 0))) (lo : (p == sysModules) = false) : RO K T φ H p (.dct [] []) :=
  ⟨#[], [], [], ⟨⟨0, e⟩, lo⟩, ⟨Nat.zero_le _, .inl rfl, List.nodup_nil⟩, rfl, .nil, .nil, .nil, .nil⟩
theorem d_dct0 : D X T Wx C (.Dict [] [] pos) .dct0 := pe_dn.weak fun σ H Q ⟨φ, σb, h, s, rl, p⟩ q hq lo => by
  simp only [evalE] at p
  exact p φ _ _ (Ex.side rl hq) (rl.side hq) ((mkD X.K).hv T q φ _ ([], []) (ro_dn upd_same lo) (rl.fr hq))
theorem d_newdct0 : D X T Wx C (.Dict [] [] pos) (.newd .dct0) := pe_dn.weak fun σ H Q ⟨φ, σb, h, s, rl, p⟩ q hq lo => by
  simp only [evalE, R.bind] at p
  have x := Ex.grow (K := X.K) (o := .ext (IsD q #[] 0)) rl hq
  refine p _ _ _ x (rl.grow (ob := .dct [] []) hq (ro_dn upd_same lo)) ?_
  simp only [RV]
  exact ⟨q, rfl, .inl (by rw [← rl.len]; simp)⟩
/-! ### d.get -/
theorem get_call (hu : X.A.units + 70 < cLine) (hk : T.ca.hk = hkW X.w) {pins : List (Addr × Obj)} {s : Shared} {w : W} {ws : List W} {x : V} {xs : List V} {v : Value} {us : List Value} {Q : VK} (I : L2.Inv X pins σ H s) (rx : RelV x v) (rv : Vals xs us) (rl : Rel X.K T φ H h) (r : RV X.K T φ H w x) (k : RVs X.K T φ H ws xs)
    (p : Post X.K T Z0 φ H (method .get w ws h) Q) : wpAny (model X.prog X.w) X.A (call (.builtin "dict.get") (v :: us)) (EP X pins σ Q) X.xe s := by
  unfold method at p
  split at p
  all_goals try contradiction
  · -- one argument
    rename_i kw
    obtain ⟨y, rfl, ry⟩ := k.one
    cases rv with
    | cons ru r0 =>
    cases r0
    split at p
    · rename_i ks vs q
      obtain ⟨b, es, vv, rfl, d⟩ := dic_of I hk rl r q
      obtain rfl : v = Value.ref b := rx
      split at p
      · rename_i o e
        cases o with
        | some w' =>
          obtain ⟨c, _, z, u', e1, e2, e3⟩ := d.get e
          refine dk_get1 (by omega) d.lo d.obj d.ent d.dk.2 c (key_is I (keyOk_or c) ry ru) fun t => ?_
          rw [e1]
          exact ⟨z, H, I.tok t, e2, p φ z H .refl rl e3⟩
        | none =>
          obtain ⟨c, e1⟩ := d.miss e
          refine dk_get1 (by omega) d.lo d.obj d.ent d.dk.2 c (key_is I (keyOk_or c) ry ru) fun t => ?_
          rw [e1]
          exact ⟨.non, H, I.tok t, rfl, p φ .non H .refl rl .mk_non⟩
      · exact p.elim
    · exact p.elim
  · rename_i kw dw
    obtain ⟨y, y2, rfl, ry, ry2⟩ := k.two
    cases rv with
    | cons ru r0 =>
    cases r0 with
    | cons ru2 r0 =>
    cases r0
    split at p
    · rename_i ks vs q
      obtain ⟨b, es, vv, rfl, d⟩ := dic_of I hk rl r q
      obtain rfl : v = Value.ref b := rx
      split at p
      · rename_i o e
        cases o with
        | some w' =>
          obtain ⟨c, _, z, u', e1, e2, e3⟩ := d.get e
          refine dk_get2 (by omega) d.lo d.obj d.ent d.dk.2 c (key_is I (keyOk_or c) ry ru) fun t => ?_
          rw [e1]
          exact ⟨z, H, I.tok t, e2, p φ z H .refl rl e3⟩
        | none =>
          obtain ⟨c, e1⟩ := d.miss e
          refine dk_get2 (by omega) d.lo d.obj d.ent d.dk.2 c (key_is I (keyOk_or c) ry ru) fun t => ?_
          rw [e1]
          exact ⟨y2, H, I.tok t, ru2, p φ y2 H .refl rl ry2⟩
      · exact p.elim
    · exact p.elim
theorem d_getD (hu : X.A.units + 70 < cLine) (hk : T.ca.hk = hkW X.w) {e : Expr} {apos cpos : Pos} (ha : D X T Wx C a ea) (hb : DA X T Wx C (e :: es) eb) (hs : noStars (e :: es) = true) (hf : es.length ≤ 20) (hn : noCall0 a = true) (hl : (apos.endLine == cpos.line) = true) :
    D X T Wx C (.Call (.Attribute a "get" apos) (e :: es) [] cpos) (.mt .get ea eb) := by
  have h' : notStar e = true ∧ noStars es = true := by simpa [noStars] using hs
  have st := starEach_of (env := X.env) (es := es) h'.1
  have sp := noStars_any (env := X.env) (pos := cpos) h'.2
  refine ⟨fun pins s σ H Q I ⟨φ, σb, h, s', rl, p⟩ => ?_⟩
  simp only [evalE] at p
  refine wpAny_Call_method_late (attrBase_of hn) (few_of hs hf) hl rfl (thn (ha.run pins s σ H _ I (tR_of s' rl p)) fun v s1 ⟨x, H1, I1, r1, φ1, w1, h1, _, x1, sl1, rl1, rw1, p1⟩ => ?_)
  split at p1
  · rename_i c
    obtain ⟨⟨ks, ws⟩, q⟩ := Option.isSome_iff_exists.mp (show (dOf h1 w1).isSome = true from c)
    obtain ⟨b, de, vv, rfl, d⟩ := dic_of I1 hk rl1 rw1 q
    obtain rfl : v = Value.ref b := r1
    obtain ⟨ep, o, e1, e2, e3, _⟩ := d.obj
    refine ⟨"dict", "dict.get", PySem.F.plainAttrs_dict, PySem.F.slot_dict_get, PySem.F.type_dict_get, ⟨o, e1, e2⟩, fun b' eb' => by cases eb'; exact ⟨o, e1, e3⟩, ?_⟩
    have hA := hb.run cpos pins s1 σ H1 _ I1 (tR_of (Ru := RA X.K T) sl1 rl1 p1)
    rw [st] at hA ⊢
    refine Calls.callWith_builtin (by show (false || (backTo cpos (starEach es X.env)).any (·.1)) = false; rw [sp] <;> rfl) (Calls.evalArgs_plain ?_)
    refine thn hA fun us s2 ⟨vs, H2, I2, r2, φ2, w2, h2, _, x2, s2', rl2, ⟨ws2, e4, k2⟩, p2⟩ => ?_
    subst e4
    exact get_call (x := V.ref b) hu hk I2 rfl r2 rl2 (RV.mono x2 _ _ rw1) k2 (R.nx p2 (method_nx _ _ _ _))
  · exact p1.elim
/-! ### the comprehensions -/
variable {tg iter t1 i1 kx vx elt : Expr} {ifs ifs1 : List Expr} {scope : Scope} {own : List (Str × Nat)} {own1 : List Nat} {t tt1 : Tg} {it c it1 c1 ek ev ee : E}
theorem ev_newd {e : E} {σ : Sb} {h : Hb} {w : R W} (q : evalE C e σ h = w) : evalE C (.newd e) σ h = w.bind fun x h1 => (match x with | .dic ks ws => .ok (.ref h1.length) (h1 ++ [.dct ks ws]) | _ => .no) := by rw [evalE, q] <;> rfl
theorem ev_cmd (σ : Sb) (h : Hb) : evalE C (.cmd ek ev t it c (own.map (·.2))) σ h = (evalE C it σ h).bind fun w h1 => (match itemsI h1 w with
      | some ws => (forA (turnA C t c (own.map (·.2)) σ (fsD C ek ev)) (fun h' => stays h1 h' w) ws (mkD X.K).acc0 h1).bind fun vs h5 => if false = true then .ok (.ref h5.length) (h5 ++ [(mkD X.K).ob vs]) else .ok ((mkD X.K).fin vs) h5
      | none => .no) := by rw [evalE_cmd]; rfl
theorem ev_cmd2 (σ : Sb) (h : Hb) : evalE C (.cmd2 ek ev t it c tt1 it1 c1 (own.map (·.2)) own1) σ h = (evalE C it σ h).bind fun w h1 => (match itemsI h1 w with
      | some ws => (forA (turnA C t c (own.map (·.2)) σ (fs2 C tt1 it1 c1 own1 (fsD C ek ev))) (fun h' => stays h1 h' w) ws (mkD X.K).acc0 h1).bind fun vs h5 => if false = true then .ok (.ref h5.length) (h5 ++ [(mkD X.K).ob vs]) else .ok ((mkD X.K).fin vs) h5
      | none => .no) := by rw [evalE_cmd2]; rfl
theorem ev_cm2 (σ : Sb) (h : Hb) : evalE C (.cm2 ee t it c tt1 it1 c1 (own.map (·.2)) own1) σ h = (evalE C it σ h).bind fun w h1 => (match itemsI h1 w with
      | some ws => (forA (turnA C t c (own.map (·.2)) σ (fs2 C tt1 it1 c1 own1 (fsL C ee))) (fun h' => stays h1 h' w) ws (mkL X.K).acc0 h1).bind fun vs h5 => if false = true then .ok (.ref h5.length) (h5 ++ [(mkL X.K).ob vs]) else .ok ((mkL X.K).fin vs) h5
      | none => .no) := by rw [evalE_cm2]; rfl
theorem new_in {α : Type} {f : W → α → Hb → R α} {acc : α} {ok : W → Hb → Hb → Bool} {r : R W} {g : α → W} {ob : α → O} {n : W → Hb → R W} (hn : ∀ a h, n (g a) h = .ok (.ref h.length) (h ++ [ob a])) : (r.bind fun w h1 => (match itemsI h1 w with
      | some ws => (forA f (ok w h1) ws acc h1).bind fun vs h5 => if false = true then .ok (.ref h5.length) (h5 ++ [ob vs]) else .ok (g vs) h5
      | none => .no)).bind n = r.bind fun w h1 => (match itemsI h1 w with
      | some ws => (forA f (ok w h1) ws acc h1).bind fun vs h5 => if true = true then .ok (.ref h5.length) (h5 ++ [ob vs]) else .ok (g vs) h5
      | none => .no) := by
  cases r with
  | no => rfl
  | ex e h => rfl
  | ok w h =>
    simp only [R.bind]
    cases itemsI h w with
    | none => rfl
    | some ws =>
      cases q : forA f (ok w h) ws acc h with
      | no => simp only [q]
      | ex e h' => simp only [q]
      | ok a h' => simp only [q, Bool.false_eq_true, if_false, if_true]; exact hn a h'
end
end Y
/-! Y9: calls of own functions; a function runs as Y says, by its body. -/
namespace Y
open PySem PySem.Spec PyProof.Rows L2

/-- the function at a, called x, runs as Y's -/
structure FnY (P : Program) (w : World) (K : PySem.W.Frag) (mg : Str → Option Value) (base : Heap) (ca : Kn) (call : Str → List W → List (Str × W) → Hb → R W) (k : Nat) (x : Str) (a : Addr) : Prop where
  run : ∀ (T : Tab) (A : Around) (outer : List Env) (s : Shared) (H : Hp) (φ : Pl) (h : Hb) (us us2 : List Value) (vs vs2 : List V) (ws ws2 : List W) (ks : List Str) (Q : VK) (E : XK), T.ca = ca → Room (4 * k) A → A.guards = some [] → Env0 P w K mg base A outer s H →
    Vals vs us → Vals vs2 us2 → RVs K T φ H ws vs → RVs K T φ H ws2 vs2 → Rel K T φ H h → Post K T E φ H (call x ws (ks.zip ws2) h) Q →
    codeAny (model P w) A (.call (.ref a) ⟨us, ks.zip us2⟩) (CR (L2.CX P w) outer P w H s Q E) s

section
variable {X : L2.Cx} {T : Tab} {Wx : WX} {C : Ctx} {σ : L2.St} {φ : Pl} {H : Hp} {h : Hb} {σb : Sb} {ca : Kn} {k : Nat} {x : Str} {f : Addr}
variable {a b c tg : Expr} {ea eb ec : E} {pos p : Pos} {es : List Expr} {kws : List Keyword} {ek : E} {ks : List Str}
theorem run_fnY {pins : List (Addr × Obj)} {s : Shared} {us us2 : List Value} {vs vs2 : List V} {ws ws2 : List W} {Q : VK} (F : FnY X.prog X.w X.K X.mg X.base ca C.call k x f) (hT : T.ca = ca) (hr : Room (4 * k) X.A) (hgd : X.A.guards = some []) (tk : Takes X Wx)
    (I : L2.Inv X pins σ H s) (r : Vals vs us) (r2 : Vals vs2 us2) (k1 : RVs X.K T φ H ws vs) (k2 : RVs X.K T φ H ws2 vs2) (rl : Rel X.K T φ H h) (p : Post X.K T (ZX Wx σ) φ H (C.call x ws (ks.zip ws2) h) Q) :
    wpAny (model X.prog X.w) X.A (call (.ref f) us (ks.zip us2)) (EP X pins σ Q) X.xe s := by
  refine wpAny_call (codeAny_mono (F.run T X.A X.stack s H φ h us us2 vs vs2 ws ws2 ks Q (WE Wx σ) hT hr hgd I.env0 r r2 k1 k2 rl p) fun r s' hq => ?_)
  cases r with
  | error e => exact passAt tk σ pins H s e s' I hq
  | ok fl =>
    cases fl with
    | ret u => exact I.after hq
    | next => exact False.elim hq
    | brk => exact False.elim hq
    | cont => exact False.elim hq
abbrev DK (X : L2.Cx) (T : Tab) (Wx : WX) (C : Ctx) (kws : List Keyword) (e' : E) : Prop := PK X kws (tIA X.K T Wx (evalE C e'))
theorem dk_nil : DK X T Wx C [] .nil := ⟨fun pos pins s σ H Q I ⟨φ, σb, h, s', rl, p⟩ => pk_nil.run pos pins s σ H Q I (p φ [] H .refl rl ⟨[], rfl, .nil⟩)⟩
theorem dk_cons {nm : Option Str} {kp : Pos} (ha : D X T Wx C a ea) (hr : DK X T Wx C kws eb) : DK X T Wx C (⟨nm, a, kp⟩ :: kws) (.cons ea eb) := by
  refine ⟨fun pos pins s σ H Q I ⟨φ, σb, h, s', rl, p⟩ => (pk_cons ha hr).run pos pins s σ H Q I ?_⟩
  simp only [evalE] at p
  refine tR_mono (tR_of s' rl p) ?_
  rintro x H1 ⟨φ1, w1, h1, _, x1, s1, rl1, r1, p1⟩
  refine tR_mono (tR_of (Ru := RA X.K T) s1 rl1 p1) ?_
  rintro ys H2 ⟨φ2, w2, h2, _, x2, s2, rl2, ⟨ws, rfl, r2⟩, p2⟩
  exact p2 φ2 _ H2 .refl rl2 ⟨_, rfl, .cons (RV.mono x2 _ _ r1) r2⟩
/-- what the arguments come to, then the call -/
theorem call_read {Q : VK} (s : RS X.K T φ H σb σ) (rl : Rel X.K T φ H h) (p : Post X.K T (ZX Wx σ) φ H (evalE C (.call x ea ks ek) σb h) Q) :
    tIA X.K T Wx (evalE C ea) σ H fun vs H1 => tIA X.K T Wx (evalE C ek) σ H1 fun vs2 H2 => ∃ φ2 h2 ws ws2, RVs X.K T φ2 H2 ws vs ∧ RVs X.K T φ2 H2 ws2 vs2 ∧ Rel X.K T φ2 H2 h2 ∧ Post X.K T (ZX Wx σ) φ2 H2 (C.call x ws (ks.zip ws2) h2) Q := by
  simp only [evalE] at p
  refine tR_mono (tR_of (Ru := RA X.K T) s rl p) ?_
  rintro vs H1 ⟨φ1, w1, h1, _, x1, s1, rl1, ⟨ws, rfl, r1⟩, p1⟩
  refine tR_mono (tR_of (Ru := RA X.K T) s1 rl1 p1) ?_
  rintro vs2 H2 ⟨φ2, w2, h2, _, x2, s2, rl2, ⟨ws2, rfl, r2⟩, p2⟩
  exact ⟨φ2, h2, ws, ws2, RVs.mono x2 _ _ r1, r2, rl2, p2⟩
/-- no keywords -/
theorem call_read0 {Q : VK} (s : RS X.K T φ H σb σ) (rl : Rel X.K T φ H h) (p : Post X.K T (ZX Wx σ) φ H (evalE C (.call x ea [] .nil) σb h) Q) :
    tIA X.K T Wx (evalE C ea) σ H fun vs H1 => ∃ φ1 h1 ws, RVs X.K T φ1 H1 ws vs ∧ Rel X.K T φ1 H1 h1 ∧ Post X.K T (ZX Wx σ) φ1 H1 (C.call x ws [] h1) Q := by
  simp only [evalE] at p
  refine tR_mono (tR_of (Ru := RA X.K T) s rl p) ?_
  rintro vs H1 ⟨φ1, w1, h1, _, x1, s1, rl1, ⟨ws, rfl, r1⟩, p1⟩
  exact ⟨φ1, h1, ws, r1, rl1, p1⟩
theorem d_call {e : Expr} (F : FnY X.prog X.w X.K X.mg X.base ca C.call k x f) (hT : T.ca = ca) (hr : Room (4 * k) X.A) (hgd : X.A.guards = some []) (tk : Takes X Wx) (hg : Gl X x) (hm : X.mg x = some (.ref f)) (hk : PySem.W.keepIn X.K (.ref f) = true)
    (ha : DA X T Wx C (e :: es) ea) (hs : noStars (e :: es) = true) (hdb : (x == ("__debug__" : Str)) = false) : D X T Wx C (.Call (.Name x p) (e :: es) [] pos) (.call x ea [] .nil) := by
  have h' : notStar e = true ∧ noStars es = true := by simpa [noStars] using hs
  refine ⟨fun pins s σ H Q I ⟨φ, σb, h, s', rl, p⟩ => ?_⟩
  refine wpAny_Call_Name_kw (ld_glob I hg hm ?_ hdb)
  refine PySem.W.callWith_K (h₀ := X.base) I.ok.mod.kin hk (thn (ha.run pos pins s σ H _ I (call_read0 s' rl p)) fun us s1 ⟨vs, H1, I1, r, φ1, h1, ws, r1, rl1, p1⟩ => ⟨I1.kIn, ?_⟩) (starEach_of h'.1) (noStars_any h'.2)
  exact run_fnY (us2 := []) (vs2 := []) (ws2 := []) (ks := []) F hT hr hgd tk I1 r .nil r1 .nil rl1 p1
theorem d_call0 (F : FnY X.prog X.w X.K X.mg X.base ca C.call k x f) (hT : T.ca = ca) (hr : Room (4 * k) X.A) (hgd : X.A.guards = some []) (tk : Takes X Wx) (hg : Gl X x) (hm : X.mg x = some (.ref f)) (hk : PySem.W.keepIn X.K (.ref f) = true)
    (hdb : (x == ("__debug__" : Str)) = false) : D X T Wx C (.Call (.Name x p) [] [] pos) (.call x .nil [] .nil) := by
  refine ⟨fun pins s σ H Q I ⟨φ, σb, h, s', rl, p⟩ => ?_⟩
  refine wpAny_Call_Name_kw (ld_glob I hg hm ?_ hdb)
  simp only [evalE, R.bind] at p
  exact PySem.W.callWith_K0 I.kIn hk (run_fnY (us := []) (us2 := []) (vs := []) (vs2 := []) (ws := []) (ws2 := []) (ks := []) F hT hr hgd tk I .nil .nil .nil .nil rl p)
/-- keywords' names -/
def kwNames (kws : List Keyword) : List (Option Str) := kws.map (·.arg)
theorem kw_all {env : Env} {pos : Pos} : ∀ {kws : List Keyword} {ks : List Str}, kwNames kws = ks.map some → (backToKw pos (keywordEach kws env)).all (·.1.isSome) = true ∧ (backToKw pos (keywordEach kws env)).filterMap (·.1) = ks ∧ (backToKw pos (keywordEach kws env)).any (·.1.isNone) = false
  | [], [], _ => ⟨rfl, rfl, rfl⟩
  | [], _ :: _, h => by simp [kwNames] at h
  | kw :: kws, [], h => by simp [kwNames] at h
  | ⟨nm, e, kp⟩ :: kws, k :: ks, h => by
    simp only [kwNames, List.map_cons, List.cons.injEq] at h
    obtain ⟨rfl, h⟩ := h
    obtain ⟨i1, i2, i3⟩ := kw_all (env := env) (pos := pos) (kws := kws) (ks := ks) h
    simp only [keywordEach, backToKw, List.map_cons, List.all_cons, List.filterMap_cons, List.any_cons, Option.isSome_some, Option.isNone_some, Bool.true_and, Bool.false_or] at i1 i2 i3 ⊢
    exact ⟨i1, by rw [i2], i3⟩
theorem d_callK {e : Expr} (F : FnY X.prog X.w X.K X.mg X.base ca C.call k x f) (hT : T.ca = ca) (hr : Room (4 * k) X.A) (hgd : X.A.guards = some []) (tk : Takes X Wx) (hg : Gl X x) (hm : X.mg x = some (.ref f)) (hk : PySem.W.keepIn X.K (.ref f) = true)
    (ha : DA X T Wx C (e :: es) ea) (hs : noStars (e :: es) = true) (hkw : DK X T Wx C kws ek) (hks : kwNames kws = ks.map some) (hdb : (x == ("__debug__" : Str)) = false) : D X T Wx C (.Call (.Name x p) (e :: es) kws pos) (.call x ea ks ek) := by
  have h' : notStar e = true ∧ noStars es = true := by simpa [noStars] using hs
  obtain ⟨k1, k2, k3⟩ := kw_all (env := X.env) (pos := pos) hks
  refine ⟨fun pins s σ H Q I ⟨φ, σb, h, s', rl, p⟩ => ?_⟩
  refine wpAny_Call_Name_kw (ld_glob I hg hm ?_ hdb)
  refine PySem.W.callWith_KW (h₀ := X.base) I.ok.mod.kin hk k1 (thn (ha.run pos pins s σ H _ I (call_read s' rl p)) fun us s1 ⟨vs, H1, I1, r, q⟩ => ?_) (by rw [k3, noStars_any hs]; rfl) (starEach_of h'.1)
  refine thn (hkw.run pos pins s1 σ H1 _ I1 q) fun us2 s2 ⟨vs2, H2, I2, r2, φ2, h2, ws, ws2, a1, a2, rl2, p2⟩ => ⟨I2.kIn, ?_⟩
  rw [k2]
  exact run_fnY F hT hr hgd tk I2 r r2 a1 a2 rl2 p2
theorem d_callK0 (F : FnY X.prog X.w X.K X.mg X.base ca C.call k x f) (hT : T.ca = ca) (hr : Room (4 * k) X.A) (hgd : X.A.guards = some []) (tk : Takes X Wx) (hg : Gl X x) (hm : X.mg x = some (.ref f)) (hk : PySem.W.keepIn X.K (.ref f) = true)
    (hkw : DK X T Wx C kws ek) (hks : kwNames kws = ks.map some) (hdb : (x == ("__debug__" : Str)) = false) : D X T Wx C (.Call (.Name x p) [] kws pos) (.call x .nil ks ek) := by
  obtain ⟨k1, k2, k3⟩ := kw_all (env := X.env) (pos := pos) hks
  refine ⟨fun pins s σ H Q I ⟨φ, σb, h, s', rl, p⟩ => ?_⟩
  refine wpAny_Call_Name_kw (ld_glob I hg hm ?_ hdb)
  have q := call_read s' rl p
  obtain ⟨φ0, σ0, h0, t0, rl0, p0⟩ := q
  have q0 := p0 φ0 [] H .refl rl0 ⟨[], rfl, .nil⟩
  refine PySem.W.callWith_KW0 (h₀ := X.base) I.ok.mod.kin hk k1 ?_ (by rw [k3]; rfl)
  refine thn (hkw.run pos pins s σ H _ I q0) fun us2 s2 ⟨vs2, H2, I2, r2, φ2, h2, ws, ws2, a1, a2, rl2, p2⟩ => ⟨I2.kIn, ?_⟩
  rw [k2]
  exact run_fnY (us := []) (vs := []) F hT hr hgd tk I2 .nil r2 a1 a2 rl2 p2
/-- with stars behind the first -/
theorem d_callS {e : Expr} (F : FnY X.prog X.w X.K X.mg X.base ca C.call k x f) (hT : T.ca = ca) (hr : Room (4 * k) X.A) (hgd : X.A.guards = some []) (tk : Takes X Wx) (hg : Gl X x) (hm : X.mg x = some (.ref f)) (hk : PySem.W.keepIn X.K (.ref f) = true)
    (ha : DA X T Wx C (e :: es) ea) (hs : notStar e = true) (hst : (backTo pos (starEach es X.env)).any (·.1) = true) (hdb : (x == ("__debug__" : Str)) = false) : D X T Wx C (.Call (.Name x p) (e :: es) [] pos) (.call x ea [] .nil) := by
  refine ⟨fun pins s σ H Q I ⟨φ, σb, h, s', rl, p⟩ => ?_⟩
  refine wpAny_Call_Name_kw (ld_glob I hg hm ?_ hdb)
  refine PySem.W.callWith_S2 (h₀ := X.base) I.ok.mod.kin hk (thn (ha.run pos pins s σ H _ I (call_read0 s' rl p)) fun us s1 ⟨vs, H1, I1, r, φ1, h1, ws, r1, rl1, p1⟩ => ⟨I1.kIn, ?_⟩) (starEach_of hs) hst
  exact run_fnY (us2 := []) (vs2 := []) (ws2 := []) (ks := []) F hT hr hgd tk I1 r .nil r1 .nil rl1 p1
end

/-! ### a def's body -/
/-- the slots at the entry, by the values -/
theorem RS.start {K : PySem.W.Frag} {T : Tab} {φ : Pl} {H : Hp} {N : List Str} {vs : List V} {ws : List W} {n : Nat} (k : RVs K T φ H ws vs) (hn : n = N.length) : RS K T φ H (ws.map some ++ List.replicate (n - ws.length) none) (L2.start N vs) := by
  have hl := k.length
  refine ⟨by unfold L2.start; simp only [List.length_append, List.length_map, List.length_replicate]; rw [hl, hn], fun i w e => ?_⟩
  by_cases hi : i < ws.length
  · rw [List.getElem?_append_left (by simpa using hi), List.getElem?_map] at e
    cases q : ws[i]? with
    | none => rw [q] at e; cases e
    | some u =>
      rw [q] at e
      cases e
      obtain ⟨v, hv, r⟩ := k.get q
      refine ⟨v, ?_, r⟩
      unfold L2.start
      rw [List.getElem?_append_left (by rw [List.length_map, ← hl]; exact hi), List.getElem?_map, hv]
      rfl
  · rw [List.getElem?_append_right (by simpa using Nat.le_of_not_lt hi), List.getElem?_replicate] at e
    split at e <;> cases e
theorem fnY_of {P : Program} {w : World} {K : PySem.W.Frag} {mg : Str → Option Value} {base : Heap} {k : Nat} {f : Addr} {name qual : Str} {params : Arguments} {body : List Stmt} {scope : Scope} {dV kV doc pm cdv ct oc : Value} {an od : Option Addr}
    {osl : Array (Option Value)} {N ps : List Str} {ca : Kn} {call : Str → List W → List (Str × W) → Hb → R W} {x : Str} (lk : K.lookup f = some ⟨oc, od, .func (PySem.W.fnOf name qual params body scope dV kV doc pm an cdv ct), osl⟩) (hcd : PySem.W.codeIn K cdv qual = true) (S : FnScope N ps scope)
    (hbody : ∀ (T : Tab) (A : Around) (outer : List Env) (s : Shared) (H : Hp) (φ : Pl) (h : Hb) (us us2 : List Value) (vs vs2 : List V) (ws ws2 : List W) (ks : List Str) (Q : VK) (E : XK), T.ca = ca → Room (4 * (k + 1)) A → A.guards = some [] → K.In s.heap → Vals vs us → Vals vs2 us2 → RVs K T φ H ws vs → RVs K T φ H ws2 vs2 → Rel K T φ H h → Post K T E φ H (call x ws (ks.zip ws2) h) Q →
      ∃ us3 vs3 t, us3.length = ps.length ∧ Vals vs3 us3 ∧ BindsTo s (PySem.W.fnOf name qual params body scope dV kV doc pm an cdv ct) ⟨us, ks.zip us2⟩ (ps.zip us3) ∧
        PSs (cxOf (L2.CX P w) P w K mg base N qual scope f cdv A outer s H E) body t ∧ t { nx := fun _ H' => Q .non H', rt := Q } (L2.start N vs3) H) :
    FnY P w K mg base ca call (k + 1) x f := by
  refine ⟨fun T A outer s H φ h us us2 vs vs2 ws ws2 ks Q E hT hr hgd e0 r r2 k1 k2 rl p => ?_⟩
  have KX : K.In s.heap := e0.mod.kin.keeps fun b o e => (e0.bs b o e).1
  have lim : s.heap.NoLimit := e0.mod.nolimit.keeps fun b o e => (e0.bs b o e).1
  obtain ⟨us3, vs3, t, hl3, r3, hb, ht, hq⟩ := hbody T A outer s H φ h us us2 vs vs2 ws ws2 ks Q E hT hr hgd KX r r2 k1 k2 rl p
  have hkind : ∀ y ∈ ps.zip us3, scope.names.lookup y.1 = some .local ∨ (scope.names.lookup y.1 = some .cell ∧ ((cellsFrom (s.heap.objs.size + 1) scope.names []).lookup y.1).isSome = true) := fun ⟨n, v⟩ hy => by
    rcases S.par n (List.of_mem_zip hy).1 with q | q
    · exact .inl q
    · exact .inr ⟨q, PySem.W.cellsFrom_some _ _ _ (.inl q)⟩
  refine codeAny_call_function hr.depth (KX _ _ lk) rfl S.co S.gen rfl (PySem.W.codeRec_of KX hcd) (hb _ _ _ _ ?_)
  refine wpAny_newFunctionEnv_cells S.kind hkind fun env he s1 x => ?_
  subst he
  refine ⟨lim.keeps x.toInCall.keep, codeAny_func ?_⟩
  have I : L2.Inv (cxOf (L2.CX P w) P w K mg base N qual scope f cdv A outer s H E) [] (L2.start N vs3) H s1 := inv_start S hr.hd e0 (by rw [r3.length, hl3]) r3 x
  refine wpAny_mono (ht.run [] s1 (L2.start N vs3) H _ I hq) (fun fl s' hs => ?_) fun e s' hs => hs
  have fin : ∀ {σ' : L2.St} {H' : Hp} {v : V} {u : Value}, L2.Inv (cxOf (L2.CX P w) P w K mg base N qual scope f cdv A outer s H E) [] σ' H' s' → RelV v u → Q v H' → CE outer P w H s Q u s' :=
    fun {σ' H' v u} J rv q => ⟨v, H', J.os, J.bare, J.base, J.hok, rv, q⟩
  cases fl with
  | ret u =>
    obtain ⟨v, σ', H', J, rv, q⟩ := hs
    exact fin J rv q
  | next =>
    obtain ⟨σ', H', J, q⟩ := hs
    exact fin (v := V.non) (u := Value.none) J rfl q
  | brk =>
    obtain ⟨_, _, _, q⟩ := hs
    exact False.elim q
  | cont =>
    obtain ⟨_, _, _, q⟩ := hs
    exact False.elim q
end Y
/-! Y9b: instances: attributes, properties, methods, instances made, what is changed no more. -/
namespace Y
open PySem PySem.Spec PyProof.Rows L2

/-! ### what is changed no more -/
section
variable {K : PySem.W.Frag} {T : Tab} {φ : Pl} {H : Hp} {h : Hb}
theorem frz_post {w : W} {v : V} {Q : VK} {Z : Value → Option Addr → Hp → Prop} (rl : Rel K T φ H h) (rv : RV K T φ H w v) (p : Post K T Z φ H (frzW h w) Q) : Q v H := by
  cases w with
  | ref n =>
    simp only [frzW] at p
    cases q : h[n]? with
    | none => rw [q] at p; exact p.elim
    | some o =>
      rw [q] at p
      cases o with
      | lst xs =>
        obtain ⟨a, rfl, e, vs, e1, k⟩ := rl.live q (by intro z; cases z) rv
        exact p (φ.set n none) _ H (.kill e) (rl.kill e).1 (.mk_lit (rl.kill e).2 e1 (RVs.mono (Ex.kill (K := K) (H := H) e) _ _ k))
      | ins c ns xs =>
        obtain ⟨a, rfl, e, dx, fs, e1, e2, k⟩ := rl.live q (by intro z; cases z) rv
        exact p (φ.set n none) _ H (.kill e) (rl.kill e).1 (by simp only [RV]; exact ⟨a, fs, rfl, (rl.kill e).2, ⟨dx, e1⟩, e2, RVs.mono (Ex.kill (K := K) (H := H) e) _ _ k⟩)
      | dct ks vs =>
        obtain ⟨a, rfl, e, es, kv, vv, e1, e2, e3, e4, e5, e6, e7⟩ := rl.live q (by intro z; cases z) rv
        exact p (φ.set n none) _ H (.kill e) (rl.kill e).1 (by simp only [RV]; exact ⟨a, es, kv, vv, rfl, .inl ⟨(rl.kill e).2, e1⟩, e2, e3, e4, e5, RVs.mono (Ex.kill (K := K) (H := H) e) _ _ e6, RVs.mono (Ex.kill (K := K) (H := H) e) _ _ e7⟩)
      | dead => exact p.elim
  | _ => exact p φ v H .refl rl rv

/-! ### instances as they stand -/
theorem ins_ok {w : W} {v : V} {c : Str} {ns : List Str} {xs : List W} (rl : Rel K T φ H h) (rv : RV K T φ H w v) (e : insOf h w = some (c, ns, xs)) :
    ∃ a dx fs, v = .ref a ∧ H a = some (.ins (T.ca.ca c) dx fs) ∧ fs.map (·.1) = ns ∧ RVs K T φ H xs (fs.map (·.2)) := by
  cases w with
  | obj c' ns' xs' =>
    cases e
    simp only [RV] at rv
    obtain ⟨a, fs, rfl, _, ⟨dx, h1⟩, h2, h3⟩ := rv
    exact ⟨a, dx, fs, rfl, h1, h2, h3⟩
  | ref n =>
    simp only [insOf] at e
    split at e
    · rename_i q
      cases e
      obtain ⟨a, rfl, _, dx, fs, e1, e2, k⟩ := rl.live q (by intro z; cases z) rv
      exact ⟨a, dx, fs, rfl, e1, e2, k⟩
    · cases e
  | _ => cases e
theorem att_some {f : Str} {w : W} : ∀ {ns : List Str} {xs : List W} {fs : List (Str × V)}, fs.map (·.1) = ns → RVs K T φ H xs (fs.map (·.2)) → attL ns xs f = some w → ∃ v, fs.lookup f = some v ∧ RV K T φ H w v
  | [], xs, fs, e, k, q => by simp [attL] at q
  | n :: ns, [], fs, e, k, q => by simp [attL] at q
  | n :: ns, x :: xs, [], e, k, q => by cases e
  | n :: ns, x :: xs, (g, y) :: fs, e, k, q => by
    simp only [List.map_cons, List.cons.injEq] at e
    simp only [RVs, List.map_cons, List.cons.injEq] at k
    obtain ⟨v, r, ⟨e1, e2⟩, k1, k2⟩ := k
    subst e1 e2
    obtain ⟨e3, e4⟩ := e
    subst e3
    simp only [attL, List.zip_cons_cons, List.lookup_cons] at q ⊢
    cases z : (f == g) with
    | true => rw [z] at q; cases q; exact ⟨_, rfl, k1⟩
    | false => rw [z] at q; exact att_some e4 k2 q
theorem att_none {f : Str} : ∀ {ns : List Str} {xs : List W} {fs : List (Str × V)}, fs.map (·.1) = ns → RVs K T φ H xs (fs.map (·.2)) → attL ns xs f = none → fs.lookup f = none
  | ns, xs, [], e, k, q => rfl
  | [], xs, (g, y) :: fs, e, k, q => by cases e
  | n :: ns, [], (g, y) :: fs, e, k, q => by simp [RVs] at k
  | n :: ns, x :: xs, (g, y) :: fs, e, k, q => by
    simp only [List.map_cons, List.cons.injEq] at e
    simp only [RVs, List.map_cons, List.cons.injEq] at k
    obtain ⟨v, r, ⟨e1, e2⟩, k1, k2⟩ := k
    subst e1 e2
    obtain ⟨e3, e4⟩ := e
    subst e3
    simp only [attL, List.zip_cons_cons, List.lookup_cons] at q ⊢
    cases z : (f == g) with
    | true => rw [z] at q; cases q
    | false => rw [z] at q; exact att_none e4 k2 q
theorem put_ok {f : Str} {w : W} {v : V} (r : RV K T φ H w v) : ∀ {ns : List Str} {xs : List W} {fs : List (Str × V)}, fs.map (·.1) = ns → RVs K T φ H xs (fs.map (·.2)) → (putF f v fs).map (·.1) = (putL f w ns xs).1 ∧ RVs K T φ H (putL f w ns xs).2 ((putF f v fs).map (·.2))
  | ns, xs, [], e, k => by
    cases e
    simp only [List.map_nil, RVs] at k
    have : xs = [] := by cases xs with
      | nil => rfl
      | cons x xs => simp [RVs] at k
    subst this
    exact ⟨rfl, .cons r .nil⟩
  | [], xs, (g, y) :: fs, e, k => by cases e
  | n :: ns, [], (g, y) :: fs, e, k => by simp [RVs] at k
  | n :: ns, x :: xs, (g, y) :: fs, e, k => by
    simp only [List.map_cons, List.cons.injEq] at e
    simp only [RVs, List.map_cons, List.cons.injEq] at k
    obtain ⟨v', t, ⟨e1, e2⟩, k1, k2⟩ := k
    subst e1 e2
    obtain ⟨e3, e4⟩ := e
    subst e3
    unfold putF putL
    by_cases z : g = f
    · rw [if_pos z, if_pos z]
      exact ⟨by simp [e4], .cons r k2⟩
    · rw [if_neg z, if_neg z]
      obtain ⟨i1, i2⟩ := put_ok r e4 k2
      exact ⟨by simp [i1], .cons k1 i2⟩
/-- what a slot holds is changed no more: no step of the program -/
theorem frzW_nx (h : Hb) (w : W) : ∀ e h', frzW h w ≠ .ex e h' := by
  intro e h' q
  unfold frzW at q
  split at q
  · unfold frzO at q
    split at q <;> cases q
  · cases q
theorem RS.put {K : PySem.W.Frag} {σb : Sb} {σ : L2.St} {i : Nat} {w : W} {v : V} (s : RS K T φ H σb σ) (e : σ[i]? = some (some v)) (r : RV K T φ H w v) : RS K T φ H (σb.set i (some w)) σ := by
  refine ⟨by rw [List.length_set]; exact s.len, fun j u q => ?_⟩
  by_cases z : i = j
  · subst z
    have hl : i < σb.length := by rw [s.len]; exact (List.getElem?_eq_some_iff.mp e).1
    rw [List.getElem?_set_self hl] at q
    cases q
    exact ⟨v, e, r⟩
  · rw [List.getElem?_set_ne z] at q
    exact s.at_ j u q
theorem fz_read {C : Ctx} {Wx : WX} {i : Nat} {b : S} {D : Ends} {σ : L2.St} (t : tS K T Wx (evalS C (.seq (.fz i) b)) D σ H) : tS K T Wx (evalS C b) D σ H := by
  obtain ⟨φ, σb, h, s, rl, p⟩ := t
  simp only [evalS] at p
  split at p
  · rename_i w e
    obtain ⟨v, ev, rv⟩ := s.at_ i w e
    cases q : frzW h w with
    | no => rw [q] at p; exact p.elim
    | ex x h' => exact absurd q (frzW_nx _ _ _ _)
    | ok w' h' =>
      rw [q] at p
      have z := frz_post (Z := fun _ _ _ => False) (Q := fun v1 H1 => ∃ φ', Ex K φ φ' H H1 ∧ Rel K T φ' H1 h' ∧ RV K T φ' H1 w' v1) rl rv (by rw [q]; exact fun φ' v' H' x rl' rv' => ⟨φ', x, rl', rv'⟩)
      obtain ⟨φ', x, rl', rv'⟩ := z
      exact ⟨φ', _, h', (s.mono x).put ev rv', rl', PostS.ext x p⟩
  · exact p.elim
end

section
variable {X : L2.Cx} {T : Tab} {Wx : WX} {C : Ctx} {σ : L2.St} {φ : Pl} {H : Hp} {h : Hb} {σb : Sb} {ca : Kn} {k : Nat}
variable {a : Expr} {ea eb ek : E} {pos apos : Pos} {es : List Expr} {kws : List Keyword} {ks : List Str}
theorem d_frz (ha : D X T Wx C a ea) : D X T Wx C a (.un .frz ea) := by
  refine ha.weak fun σ H Q ⟨φ, σb, h, s, rl, p⟩ => ?_
  simp only [evalE, unop] at p
  refine tR_mono (tR_of s rl p) ?_
  rintro v H1 ⟨φ1, w1, h1, _, x1, s1, rl1, r1, p1⟩
  exact frz_post rl1 r1 p1
/-- a class's attributes may be read and stored -/
def FldK (K : PySem.W.Frag) (ca : Kn) (C : Ctx) : Prop := ∀ c f, fldB (C.cd c) f = true → Cls K (ca.ca c) ∧ NoAttr K (ca.ca c) f
def PrpK (P : Program) (w : World) (K : PySem.W.Frag) (mg : Str → Option Value) (base : Heap) (ca : Kn) (C : Ctx) (k : Nat) : Prop := ∀ c f g, (C.cd c).prp.lookup f = some g → Cls K (ca.ca c) ∧ ∃ p b, PropOf K (ca.ca c) f p b ∧ FnY P w K mg base ca C.call k g b
def MthK (P : Program) (w : World) (K : PySem.W.Frag) (mg : Str → Option Value) (base : Heap) (ca : Kn) (C : Ctx) (k : Nat) : Prop := ∀ c m g, (C.cd c).mth.lookup m = some g → Cls K (ca.ca c) ∧ ∃ b, Meth K (ca.ca c) m b ∧ FnY P w K mg base ca C.call k g b
abbrev FldOk (X : L2.Cx) (ca : Kn) (C : Ctx) : Prop := FldK X.K ca C
abbrev PrpOk (X : L2.Cx) (ca : Kn) (C : Ctx) (k : Nat) : Prop := PrpK X.prog X.w X.K X.mg X.base ca C k
abbrev MthOk (X : L2.Cx) (ca : Kn) (C : Ctx) (k : Nat) : Prop := MthK X.prog X.w X.K X.mg X.base ca C k
/-- the getter runs -/
theorem run_prop {pins : List (Addr × Obj)} {s : Shared} {Q : VK} {b0 : Bool} {E' : Value → Shared → Prop} {c f g : Str} {p b a dx : Addr} {fs : List (Str × V)} {w : W} (hT : T.ca = ca) (hr : Room (4 * k + 1) X.A) (hgd : X.A.guards = some [])
    (I : L2.Inv X pins σ H s) (ea : H a = some (.ins (ca.ca c) dx fs)) (cl : Cls X.K (ca.ca c)) (hp : PropOf X.K (ca.ca c) f p b) (F : FnY X.prog X.w X.K X.mg X.base ca C.call k g b) (rv : RV X.K T φ H w (.ref a)) (rl : Rel X.K T φ H h)
    (q : Post X.K T (fun _ _ _ => False) φ H (C.call g [w] [] h) Q) : wpAny (model X.prog X.w) X.A (getAttr (.ref a) f b0) (EP X pins σ Q) E' s := by
  obtain ⟨mA, O, _, _, _, _⟩ := ins_get I.hok ea
  obtain ⟨od, J, _⟩ := O.look
  obtain ⟨rest, hrec⟩ := hp.rec_
  have I1 := I.tok (s.toks + 1)
  have hc : (PySem.W.clsIn X.K (ca.ca c)).isSome = true := by
    obtain ⟨cd, hc, _⟩ := PySem.W.any_some cl.hd
    rw [hc]
    rfl
  refine PySem.W.get_bind I.kIn J (PySem.W.plainGet_of (cl.get f)).1 (PySem.W.findObj_data hc hp.at_ hp.get hp.tak) (PySem.W.plainGet_of (cl.get f)).2 (wpAny_call (PySem.W.prop_get (s := { s with toks := s.toks + 1 }) I.kIn hrec ?_))
  refine codeAny_mono (F.run T X.A.in1 X.stack { s with toks := s.toks + 1 } H φ h [.ref a] [] [.ref a] [] [w] [] [] Q (fun _ _ _ => False) hT hr.in1 hgd I1.env0.in1 (.cons rfl .nil) .nil (.cons rv .nil) .nil rl q) fun r s' hq => ?_
  cases r with
  | error er =>
    obtain ⟨_, _, _, _, _, _, _, _, _, _, _, _, z⟩ := hq
    exact z.elim
  | ok fl =>
    cases fl with
    | ret u =>
      obtain ⟨v, H', I3, rv, q3⟩ := I1.after hq
      show wpAny _ _ (handedOut u) _ _ _
      rw [PySem.W.handedOut_of (handed_of rv)]
      exact wpAny_pure ⟨v, H', I3, rv, q3⟩
    | next => exact False.elim hq
    | brk => exact False.elim hq
    | cont => exact False.elim hq
theorem post_noEx {r : R W} {Q : VK} {Z Z' : Value → Option Addr → Hp → Prop} {K : PySem.W.Frag} (p : Post K T Z φ H (noEx r) Q) : Post K T Z' φ H r Q := by
  cases r with
  | ok w h => exact p
  | ex x h => exact p.elim
  | no => exact p.elim
theorem d_att {f : Str} (hT : T.ca = ca) (hr : Room (4 * k + 1) X.A) (hgd : X.A.guards = some []) (cf : FldOk X ca C) (cp : PrpOk X ca C k) (ha : D X T Wx C a ea) (hn : noCall0 a = true) : D X T Wx C (.Attribute a f pos) (.un (.att f) ea) := by
  refine ⟨fun pins s σ H Q I ⟨φ, σb, h, s', rl, p⟩ => ?_⟩
  simp only [evalE, unop] at p
  refine attr_of (attrBase_of hn) (thn (ha.run pins s σ H _ I (tR_of s' rl p)) fun u s1 ⟨x, H1, I1, rx, φ1, w1, h1, _, x1, sl1, rl1, r1, p1⟩ => ?_)
  cases q : insOf h1 w1 with
  | none => rw [q] at p1; exact p1.elim
  | some t =>
    obtain ⟨c, ns, xs⟩ := t
    rw [q] at p1
    obtain ⟨b, dx, fs, rfl, e1, e2, e3⟩ := ins_ok rl1 r1 q
    obtain rfl : u = Value.ref b := rx
    rw [hT] at e1
    simp only [attO] at p1
    cases z : (C.cd c).prp.lookup f with
    | some g =>
      rw [z] at p1
      obtain ⟨cl, pp, g', hp, F⟩ := cp c f g z
      exact run_prop hT hr hgd I1 e1 cl hp F r1 rl1 (post_noEx p1)
    | none =>
      rw [z] at p1
      dsimp only at p1
      split at p1
      · rename_i hf
        obtain ⟨cl, na⟩ := cf c f hf
        cases y : attL ns xs f with
        | none => rw [y] at p1; exact p1.elim
        | some w =>
          rw [y] at p1
          obtain ⟨v, l, rv⟩ := att_some e2 e3 y
          exact getattr_ok I1 e1 cl na l fun u' s2 I2 ru => ⟨v, H1, I2, ru, p1 φ1 v H1 .refl rl1 rv⟩
      · exact p1.elim
end
end Y
/-! Y9c: methods called, instances made. -/
namespace Y
open PySem PySem.Spec PyProof.Rows L2

section
variable {X : L2.Cx} {T : Tab} {Wx : WX} {C : Ctx} {σ : L2.St} {φ : Pl} {H : Hp} {h : Hb} {σb : Sb} {ca : Kn} {k : Nat}
variable {a : Expr} {ea eb ek : E} {pos apos : Pos} {es : List Expr} {kws : List Keyword} {ks : List Str}
/-- arguments without stars, then the call -/
theorem call_args {pins : List (Addr × Obj)} {s : Shared} {f : Value} {first : List Value} {Q : VK} {R : List V → List V → Hp → Prop} (hk : PySem.W.keepIn X.K f = true) (hb : DA X T Wx C es eb) (hkw : DK X T Wx C kws ek) (hs : noStars es = true) (hks : kwNames kws = ks.map some)
    (h0 : es = [] → eb = .nil) (h1 : kws = [] → ek = .nil) (I : L2.Inv X pins σ H s) (rd : tIA X.K T Wx (evalE C eb) σ H fun vs H1 => tIA X.K T Wx (evalE C ek) σ H1 fun vs2 H2 => R vs vs2 H2)
    (run : ∀ (s2 : Shared) (H2 : Hp) (us us2 : List Value) (vs vs2 : List V), L2.Inv X pins σ H2 s2 → Vals vs us → Vals vs2 us2 → R vs vs2 H2 → wpAny (model X.prog X.w) X.A (call f (first ++ us) (ks.zip us2)) (EP X pins σ Q) X.xe s2) :
    wpAny (model X.prog X.w) X.A (callWith pos f first (backTo pos (starEach es X.env)) (backToKw pos (keywordEach kws X.env))) (EP X pins σ Q) X.xe s := by
  cases es with
  | nil =>
    cases h0 rfl
    obtain ⟨φ0, σ0, h0', t0, rl0, p0⟩ := rd
    have q0 := p0 φ0 [] H .refl rl0 ⟨[], rfl, .nil⟩
    cases kws with
    | nil =>
      cases h1 rfl
      obtain ⟨φ1, σ1, h1', t1, rl1, p1⟩ := q0
      have q1 := p1 φ1 [] H .refl rl1 ⟨[], rfl, .nil⟩
      cases ks with
      | nil => exact PySem.W.callWith_K0 I.kIn hk (by have := run s H [] [] [] [] I .nil .nil q1; rw [List.append_nil] at this ⊢; exact this)
      | cons _ _ => simp [kwNames] at hks
    | cons kw kws =>
      obtain ⟨k1, k2, k3⟩ := kw_all (env := X.env) (pos := pos) hks
      refine PySem.W.callWith_KW0 (h₀ := X.base) I.ok.mod.kin hk k1 ?_ (by rw [k3]; rfl)
      refine thn (hkw.run pos pins s σ H _ I q0) fun us2 s2 ⟨vs2, H2, I2, r2, q2⟩ => ⟨I2.kIn, ?_⟩
      rw [k2]
      exact run s2 H2 [] us2 [] vs2 I2 .nil r2 q2
  | cons e es =>
    have h' : notStar e = true ∧ noStars es = true := by simpa [noStars] using hs
    cases kws with
    | nil =>
      cases h1 rfl
      cases ks with
      | nil =>
        refine PySem.W.callWith_K (first := first) (h₀ := X.base) I.ok.mod.kin hk (thn (hb.run pos pins s σ H _ I rd) fun us s1 ⟨vs, H1, I1, r, q⟩ => ⟨I1.kIn, ?_⟩) (starEach_of h'.1) (noStars_any h'.2)
        obtain ⟨φ1, σ1, h1', t1, rl1, p1⟩ := q
        exact run s1 H1 us [] vs [] I1 r .nil (p1 φ1 [] H1 .refl rl1 ⟨[], rfl, .nil⟩)
      | cons _ _ => simp [kwNames] at hks
    | cons kw kws =>
      obtain ⟨k1, k2, k3⟩ := kw_all (env := X.env) (pos := pos) hks
      refine PySem.W.callWith_KW (first := first) (h₀ := X.base) I.ok.mod.kin hk k1 (thn (hb.run pos pins s σ H _ I rd) fun us s1 ⟨vs, H1, I1, r, q⟩ => ?_) (by rw [k3, noStars_any hs]; rfl) (starEach_of h'.1)
      refine thn (hkw.run pos pins s1 σ H1 _ I1 q) fun us2 s2 ⟨vs2, H2, I2, r2, q2⟩ => ⟨I2.kIn, ?_⟩
      rw [k2]
      exact run s2 H2 us us2 vs vs2 I2 r r2 q2
/-- the tree of a method's call, without stars -/
def fewB (es : List Expr) (kws : List Keyword) : Bool := decide (es.length + kws.length < 29)
theorem noStars_all' {env : Env} {p : Pos} : ∀ {es : List Expr}, noStars es = true → (backTo p (starEach es env)).all (!·.1) = true
  | [], _ => rfl
  | e :: es, hs => by
    have h' : notStar e = true ∧ noStars es = true := by simpa [noStars] using hs
    rw [starEach_of h'.1]
    have := noStars_all' (env := env) (p := p) h'.2
    simpa [backTo] using this
theorem backToKw_empty {env : Env} {p : Pos} : ∀ {kws : List Keyword}, (backToKw p (keywordEach kws env)).isEmpty = kws.isEmpty
  | [] => rfl
  | ⟨_, _, _⟩ :: _ => rfl
theorem meth_tree {env : Env} {o : Expr} {m : Str} (hn : noCall0 o = true) (hs : noStars es = true) (hks : kwNames kws = ks.map some) (hf : fewB es kws = true) (hl : (apos.endLine == pos.line) = true) :
    ∃ pl : Sem Bool, eval (.Call (.Attribute o m apos) es kws pos) env = (do
      let ov ← eval o env
      standAt apos.atName
      let (f, first) ← holding [ov] (getMethod ov m pl)
      callWith pos f first (backTo pos (starEach es env)) (backToKw pos (keywordEach kws env))) := by
  obtain ⟨k1, _, _⟩ := kw_all (env := env) (pos := pos) hks
  have form : methodCallForm (es.length + kws.length) (backTo pos (starEach es env)) (backToKw pos (keywordEach kws env)) = true := by
    unfold methodCallForm
    rw [noStars_all' hs, k1, backToKw_empty]
    have := of_decide_eq_true hf
    simp only [Bool.true_and, decide_eq_true_eq]
    split <;> omega
  refine ⟨(do return (← importBound o env).getD true), ?_⟩
  have hp : methodCallPos true o env apos pos = pure pos := by unfold methodCallPos; rw [hl]; rfl
  rw [arm_eval_Call, attrBase_of hn]
  unfold methodCall
  rw [form]
  unfold calleeOf
  rw [hp]
  simp only [if_true, pure_bind]
/-- o.m(..) -/
theorem d_meth {m : Str} (hT : T.ca = ca) (hr : Room (4 * k) X.A) (hgd : X.A.guards = some []) (tk : Takes X Wx) (cm : MthOk X ca C k) (ha : D X T Wx C a ea) (hb : DA X T Wx C es eb) (hkw : DK X T Wx C kws ek) (hn : noCall0 a = true) (hs : noStars es = true) (hks : kwNames kws = ks.map some)
    (h0 : es = [] → eb = .nil) (h1 : kws = [] → ek = .nil) (hf : fewB es kws = true) (hl : (apos.endLine == pos.line) = true) : D X T Wx C (.Call (.Attribute a m apos) es kws pos) (.mc (.meth m) ea eb ks ek) := by
  obtain ⟨pl, tree⟩ := meth_tree (env := X.env) (o := a) (m := m) (pos := pos) hn hs hks hf hl
  refine ⟨fun pins s σ H Q I ⟨φ, σb, h, s', rl, p⟩ => ?_⟩
  simp only [evalE] at p
  refine PySem.W.methodCall_KW (pl := pl) (thn (ha.run pins s σ H _ I (tR_of s' rl p)) fun u s1 ⟨x, H1, I1, rx, φ1, w1, h1, _, x1, sl1, rl1, r1, p1⟩ => ?_) tree
  cases q : insOf h1 w1 with
  | none => rw [q] at p1; exact p1.elim
  | some t =>
    obtain ⟨c, ns, xs⟩ := t
    rw [q] at p1
    simp only [methOf] at p1
    split at p1
    · rename_i g hg
      split at hg
      · rename_i hna
        obtain ⟨b, dx, fs, rfl, e1, e2, e3⟩ := ins_ok rl1 r1 q
        obtain rfl : u = Value.ref b := rx
        rw [hT] at e1
        obtain ⟨cl, f, mt, F⟩ := cm c m g hg
        have hl0 : fs.lookup m = none := att_none e2 e3 (Option.isNone_iff_eq_none.mp hna)
        refine getmeth_ok I1 e1 cl mt hl0 ?_
        refine call_args (R := fun vs vs2 H2 => ∃ φ2 h2 w2 ws ws2, Rel X.K T φ2 H2 h2 ∧ RV X.K T φ2 H2 w2 (.ref b) ∧ RVs X.K T φ2 H2 ws vs ∧ RVs X.K T φ2 H2 ws2 vs2 ∧ Post X.K T (ZX Wx σ) φ2 H2 (C.call g (w2 :: ws) (ks.zip ws2) h2) Q) mt.kp hb hkw hs hks h0 (by assumption) I1 ?_ ?_
        · refine tR_mono (tR_of (Ru := RA X.K T) sl1 rl1 p1) ?_
          rintro vs H2 ⟨φ2, w2, h2, _, x2, s2, rl2, ⟨ws, rfl, r2⟩, p2⟩
          refine tR_mono (tR_of (Ru := RA X.K T) s2 rl2 p2) ?_
          rintro vs2 H3 ⟨φ3, w3, h3, _, x3, s3, rl3, ⟨ws2, rfl, r3⟩, p3⟩
          exact ⟨φ3, h3, w1, ws, ws2, rl3, RV.mono x3 _ _ (RV.mono x2 _ _ r1), RVs.mono x3 _ _ r2, r3, p3⟩
        · rintro s2 H2 us us2 vs vs2 I2 rv rv2 ⟨φ2, h2, w2, ws, ws2, rl2, rw2, rws, rws2, p2⟩
          exact run_fnY (us := .ref b :: us) (vs := .ref b :: vs) F hT hr hgd tk I2 (.cons rfl rv) rv2 (.cons rw2 rws) rws2 rl2 p2
      · cases hg
    · exact p1.elim
/-! ### instances made -/
def MkK (P : Program) (w : World) (K : PySem.W.Frag) (mg : Str → Option Value) (base : Heap) (ca : Kn) (C : Ctx) (k : Nat) : Prop := ∀ c g, (C.cd c).mth.lookup ("__init__" : Str) = some g → mg c = some (.ref (ca.ca c)) ∧ ∃ b, Mk K (ca.ca c) b ∧ FnY P w K mg base ca C.call k g b
abbrev MkOk (X : L2.Cx) (ca : Kn) (C : Ctx) (k : Nat) : Prop := MkK X.prog X.w X.K X.mg X.base ca C k
theorem run_mkY {pins : List (Addr × Obj)} {s : Shared} {Q : VK} {us us2 : List Value} {vs vs2 : List V} {ws ws2 : List W} {c g : Str} {b : Addr} (M : Mk X.K (ca.ca c) b) (F : FnY X.prog X.w X.K X.mg X.base ca C.call k g b) (hT : T.ca = ca) (hr : Room (4 * k + 1) X.A) (hgd : X.A.guards = some []) (tk : Takes X Wx)
    (I : L2.Inv X pins σ H s) (r : Vals vs us) (r2 : Vals vs2 us2) (k1 : RVs X.K T φ H ws vs) (k2 : RVs X.K T φ H ws2 vs2) (rl : Rel X.K T φ H h) (p : Post X.K T (ZX Wx σ) φ H (mkO C c ws (ks.zip ws2) h g) Q) :
    wpAny (model X.prog X.w) X.A (call (.ref (ca.ca c)) us (ks.zip us2)) (EP X pins σ Q) X.xe s := by
  have n1 : H s.heap.objs.size = none := I.hok.fresh (Nat.le_refl _)
  have n2 : H (s.heap.objs.size + 1) = none := I.hok.fresh (Nat.le_succ _)
  have ne : s.heap.objs.size ≠ s.heap.objs.size + 1 := Nat.ne_of_lt (Nat.lt_succ_self _)
  have I2 := Inv.made (C := ca.ca c) I
  have n3 : upd H s.heap.objs.size (.own (s.heap.objs.size + 1)) (s.heap.objs.size + 1) = none := by rw [upd_ne (Ne.symm ne)]; exact n2
  have rl1 := rl.side (o := .own (s.heap.objs.size + 1)) n1
  have x1 : Ex X.K φ φ H _ := Ex.side (o := .own (s.heap.objs.size + 1)) rl n1
  have rl2 := rl1.grow (o := .ins (ca.ca c) s.heap.objs.size []) (ob := .ins c [] []) n3 ⟨_, _, by rw [← hT]; exact upd_same, rfl, .nil⟩
  have x2 := x1.trans (Ex.grow (K := X.K) (o := .ins (ca.ca c) s.heap.objs.size []) rl1 n3)
  have lf : φ.length = h.length := rl.len
  have rself : RV X.K T (φ ++ [some (s.heap.objs.size + 1)]) (upd (upd H s.heap.objs.size (.own (s.heap.objs.size + 1))) (s.heap.objs.size + 1) (.ins (ca.ca c) s.heap.objs.size [])) (.ref h.length) (.ref (s.heap.objs.size + 1)) := by
    simp only [RV]
    exact ⟨_, rfl, .inl (by rw [← lf]; simp)⟩
  refine wpAny_call (make_map (f := b) I.kIn M.makes M.init (beq_iff_eq.mp M.fn) (codeAny_mono (F.run T (X.A.under (.builtin "type.__call__" ⟨.ref (ca.ca c) :: us, ks.zip us2⟩)) X.stack _ _ (φ ++ [some (s.heap.objs.size + 1)]) (h ++ [.ins c [] []]) (.ref (s.heap.objs.size + 1) :: us) us2 (.ref (s.heap.objs.size + 1) :: vs) vs2 (.ref h.length :: ws) ws2 ks
    (fun v H2 => v = .non ∧ Q (.ref (s.heap.objs.size + 1)) H2) (WE Wx σ) hT (hr.make (ca.ca c) us (ks.zip us2)) hgd (I2.env0.make (ca.ca c) us (ks.zip us2)) (.cons rfl r) r2 (.cons rself (RVs.mono x2 _ _ k1)) (RVs.mono x2 _ _ k2) rl2 ?_) fun r' s' hq => ?_))
  · have p' : Post X.K T (ZX Wx σ) φ H (made h.length (C.call g (.ref h.length :: ws) (ks.zip ws2) (h ++ [.ins c [] []]))) Q := p
    show Post X.K T (WE Wx σ) _ _ _ _
    cases q : C.call g (.ref h.length :: ws) (ks.zip ws2) (h ++ [.ins c [] []]) with
    | no => rw [q] at p'; exact p'.elim
    | ex e h' =>
      rw [q] at p'
      exact fun φ' H' cls d x rl' rx => p' φ' H' cls d (x2.trans x) rl' rx
    | ok w h' =>
      rw [q] at p'
      cases w with
      | non =>
        intro φ' v H' x rl' rv
        have e := rv.non_inv; subst e
        refine ⟨rfl, p' φ' _ H' (x2.trans x) rl' (RV.mono x _ _ rself)⟩
      | _ => exact p'.elim
  · cases r' with
    | error e => exact passAt tk σ pins _ _ e s' I2 hq
    | ok fl =>
      cases fl with
      | ret u =>
        obtain ⟨v, H', I3, rv, ev, q3⟩ := I2.after hq
        subst ev
        exact ⟨rv, ⟨V.ref (s.heap.objs.size + 1), H', I3, rfl, q3⟩⟩
      | next => exact False.elim hq
      | brk => exact False.elim hq
      | cont => exact False.elim hq
/-- C(..) -/
theorem d_mk {c : Str} {p : Pos} (hT : T.ca = ca) (hr : Room (4 * k + 1) X.A) (hgd : X.A.guards = some []) (tk : Takes X Wx) (cm : MkOk X ca C k) (hg : Gl X c) (hb : DA X T Wx C es eb) (hkw : DK X T Wx C kws ek) (hs : noStars es = true) (hks : kwNames kws = ks.map some)
    (h0 : es = [] → eb = .nil) (h1 : kws = [] → ek = .nil) (hdb : (c == ("__debug__" : Str)) = false) : D X T Wx C (.Call (.Name c p) es kws pos) (.mc (.mk c) ea eb ks ek) := by
  refine ⟨fun pins s σ H Q I ⟨φ, σb, h, s', rl, q⟩ => ?_⟩
  simp only [evalE] at q
  cases z : (C.cd c).mth.lookup ("__init__" : Str) with
  | none =>
    rw [z] at q
    exact q.elim
  | some g =>
    obtain ⟨hm, b, M, F⟩ := cm c g z
    rw [z] at q
    refine wpAny_Call_Name_kw (ld_glob I hg hm ?_ hdb)
    refine call_args (first := []) (R := fun vs vs2 H2 => ∃ φ2 h2 ws ws2, Rel X.K T φ2 H2 h2 ∧ RVs X.K T φ2 H2 ws vs ∧ RVs X.K T φ2 H2 ws2 vs2 ∧ Post X.K T (ZX Wx σ) φ2 H2 (mkO C c ws (ks.zip ws2) h2 g) Q) M.kp hb hkw hs hks h0 h1 I ?_ ?_
    · refine tR_mono (tR_of (Ru := RA X.K T) s' rl q) ?_
      rintro vs H2 ⟨φ2, w2, h2, _, x2, s2, rl2, ⟨ws, rfl, r2⟩, p2⟩
      refine tR_mono (tR_of (Ru := RA X.K T) s2 rl2 p2) ?_
      rintro vs2 H3 ⟨φ3, w3, h3, _, x3, s3, rl3, ⟨ws2, rfl, r3⟩, p3⟩
      exact ⟨φ3, h3, ws, ws2, rl3, RVs.mono x3 _ _ r2, r3, p3⟩
    · rintro s2 H2 us us2 vs vs2 I2 rv rv2 ⟨φ2, h2, ws, ws2, rl2, rws, rws2, p2⟩
      exact run_mkY M F hT hr hgd tk I2 rv rv2 rws rws2 rl2 p2
end
end Y
/-! Y9d: attributes stored; instances called. -/
namespace Y
open PySem PySem.Spec PyProof.Rows L2

section
variable {X : L2.Cx} {T : Tab} {Wx : WX} {C : Ctx} {σ : L2.St} {φ : Pl} {H : Hp} {h : Hb} {σb : Sb} {ca : Kn} {k : Nat}
variable {a o : Expr} {ea eb ek eo : E} {pos apos : Pos} {es : List Expr} {kws : List Keyword} {ks : List Str}
theorem setAt_inv {f : Str} {v x : W} {u : Unit} {h' : Hb} (e : setAt C h f v x = .ok u h') : ∃ n c ns xs, x = .ref n ∧ h[n]? = some (.ins c ns xs) ∧ fldB (C.cd c) f = true ∧ ns.length < 1000 ∧ h' = h.set n (.ins c (putL f v ns xs).1 (putL f v ns xs).2) := by
  unfold setAt at e
  split at e
  · split at e
    · rename_i q
      split at e
      · rename_i z
        simp only [Bool.and_eq_true, decide_eq_true_eq] at z
        cases e
        exact ⟨_, _, _, _, rfl, q, z.1, z.2, rfl⟩
      · cases e
    · cases e
  · cases e
theorem setAt_nx {f : Str} {v x : W} {e : W} {h' : Hb} : setAt C h f v x ≠ .ex e h' := by
  unfold setAt
  intro q
  split at q
  · split at q
    · split at q <;> cases q
    · cases q
  · cases q
/-- what a store says of the object, and what follows -/
theorem setAt_go {f : Str} {wv wo : W} {y x : V} {g : Unit → Hb → G} {D : Ends} (hT : T.ca = ca) (cf : FldOk X ca C) (s : RS X.K T φ H σb σ) (rl : Rel X.K T φ H h) (rv : RV X.K T φ H wv y) (ro : RV X.K T φ H wo x)
    (p : PostS X.K T Wx φ H ((setAt C h f wv wo).go σb g) D) :
    ∃ b c dx fs, x = .ref b ∧ H b = some (.ins (ca.ca c) dx fs) ∧ Cls X.K (ca.ca c) ∧ NoAttr X.K (ca.ca c) f ∧ fs.length < 1000 ∧ ∃ φ1 h1, Ex X.K φ φ1 H (upd H b (.ins (ca.ca c) dx (putF f y fs))) ∧ RS X.K T φ1 (upd H b (.ins (ca.ca c) dx (putF f y fs))) σb σ ∧
      Rel X.K T φ1 (upd H b (.ins (ca.ca c) dx (putF f y fs))) h1 ∧ PostS X.K T Wx φ1 (upd H b (.ins (ca.ca c) dx (putF f y fs))) (g () h1) D := by
  cases q : setAt C h f wv wo with
  | no => rw [q] at p; exact p.elim
  | ex e h' => exact absurd q setAt_nx
  | ok u h' =>
    rw [q] at p
    obtain ⟨n, c, ns, xs, rfl, e1, e2, e3, rfl⟩ := setAt_inv q
    obtain ⟨b, rfl, l, dx, fs, i1, i2, i3⟩ := rl.live e1 (by intro z; cases z) ro
    obtain ⟨cl, na⟩ := cf c f e2
    rw [hT] at i1
    have x1 := Ex.write (K := X.K) (o := .ins (ca.ca c) dx (putF f y fs)) rl (List.mem_of_getElem? l)
    obtain ⟨j1, j2⟩ := put_ok rv i2 i3
    have rl1 := rl.write (o := .ins (ca.ca c) dx (putF f y fs)) (ob := .ins c (putL f wv ns xs).1 (putL f wv ns xs).2) l ⟨dx, putF f y fs, by rw [hT]; exact upd_same, j1, RVs.mono x1 _ _ j2⟩
    exact ⟨b, c, dx, fs, rfl, i1, cl, na, by rw [← i2] at e3; simpa using e3, φ, _, x1, s.mono x1, rl1, PostS.ext x1 p⟩
theorem ds_satt {f : Str} {tpos : Pos} (hT : T.ca = ca) (cf : FldOk X ca C) (ho : D X T Wx C o eo) (ha : D X T Wx C a ea) (hs : swapsWith a (some (.Attribute o f tpos)) pos.line X.env = pure false) :
    DS X T Wx C (.Assign [.Attribute o f tpos] a pos) (.satt eo f ea) := by
  refine (ps_fld ho ha hs).weak fun D σ H ⟨φ, σb, h, s, rl, p⟩ => ?_
  simp only [evalS] at p
  refine tR_mono (tS_of s rl p) ?_
  rintro v H1 ⟨φ1, w1, h1, x1, s1, rl1, r1, p1⟩
  refine tR_mono (tS_of s1 rl1 p1) ?_
  rintro x H2 ⟨φ2, w2, h2, x2, s2, rl2, r2, p2⟩
  obtain ⟨b, c, dx, fs, rfl, i1, cl, na, hl, φ3, h3, x3, s3, rl3, p3⟩ := setAt_go hT cf s2 rl2 (RV.mono x2 _ _ r1) r2 p2
  exact ⟨b, _, dx, fs, rfl, i1, cl, na, hl, p3 φ3 σ _ .refl rl3 s3⟩
theorem getAt_inv {f : Str} {x z : W} (e : getAt C h f x = some z) : ∃ n c ns xs, x = .ref n ∧ h[n]? = some (.ins c ns xs) ∧ fldB (C.cd c) f = true ∧ attL ns xs f = some z := by
  unfold getAt at e
  split at e
  · split at e
    · rename_i q
      split at e
      · rename_i y
        exact ⟨_, _, _, _, rfl, q, y, e⟩
      · cases e
    · cases e
  · cases e
theorem ds_sattaug {f : Str} {op : Op} {tpos : Pos} (hT : T.ca = ca) (cf : FldOk X ca C) (ho : D X T Wx C o eo) (ha : D X T Wx C a ea) :
    DS X T Wx C (.AugAssign (.Attribute o f tpos) (opP op) a pos) (.sattaug eo f op ea) := by
  refine (ps_fldaug ho ha (ipI_ok (T := T) op)).weak fun D σ H ⟨φ, σb, h, s, rl, p⟩ => ?_
  simp only [evalS] at p
  refine tR_mono (tS_of s rl p) ?_
  rintro x H1 ⟨φ1, w1, h1, x1, s1, rl1, r1, p1⟩
  cases q : getAt C h1 f w1 with
  | none => rw [q] at p1; exact p1.elim
  | some z =>
    rw [q] at p1
    obtain ⟨n, c, ns, xs, rfl, e1, e2, e3⟩ := getAt_inv q
    obtain ⟨b, rfl, l, dx, fs, i1, i2, i3⟩ := rl1.live e1 (by intro z; cases z) r1
    obtain ⟨cl, na⟩ := cf c f e2
    rw [hT] at i1
    obtain ⟨v0, l0, rv0⟩ := att_some i2 i3 e3
    refine ⟨b, ca.ca c, dx, fs, v0, rfl, i1, cl, na, l0, ?_⟩
    refine tR_mono (tS_of s1 rl1 p1) ?_
    rintro y H2 ⟨φ2, w2, h2, x2, s2, rl2, r2, p2⟩
    refine ⟨φ2, h2, z, w2, rl2, RV.mono x2 _ _ rv0, r2, (goB_of s2 rl2 (inplace_nx _ _ _ _) p2).mono ?_⟩
    rintro u H3 ⟨φ3, w3, h3, x3, s3, rl3, r3, p3⟩
    cases y : sameC h1 h3 (.ref n) with
    | false => rw [setAtC, y] at p3; exact p3.elim
    | true =>
    rw [setAtC, if_pos y] at p3
    obtain ⟨b', c', dx', fs', e', i1', cl', na', hl', φ4, h4, x4, s4, rl4, p4⟩ := setAt_go hT cf s3 rl3 r3 (RV.mono (x2.trans x3) _ _ r1) p3
    cases e'
    -- the class stays
    have hc : ca.ca c' = ca.ca c := by
      cases q3 : setAt C h3 f w3 (.ref n) with
      | no => rw [q3] at p3; exact p3.elim
      | ex e h' => exact absurd q3 setAt_nx
      | ok u h' =>
        obtain ⟨n', c2, ns2, xs2, e2', e3', _, _, _⟩ := setAt_inv q3
        cases e2'
        obtain ⟨b2, eb2, l2, dx2, fs2, j1, _, _⟩ := rl3.live e3' (by intro z; cases z) (RV.mono (x2.trans x3) _ _ r1)
        cases eb2
        rw [hT, i1'] at j1
        simp only [sameC, insOf, e1, e3', decide_eq_true_eq] at y
        subst y
        injection j1 with j1
        injection j1
    rw [hc] at i1' p4 x4 s4 rl4
    exact ⟨dx', fs', i1', hl', p4 φ4 σ _ .refl rl4 s4⟩
end
end Y
/-! Y9e: f-strings; isinstance of built-in types. -/
namespace Y
open PySem PySem.Spec PyProof.Rows L2

section
variable {X : L2.Cx} {T : Tab} {Wx : WX} {C : Ctx} {σ : L2.St} {φ : Pl} {H : Hp} {h : Hb} {σb : Sb}
variable {a : Expr} {ea eb : E} {pos : Pos} {es : List Expr}
theorem d_fmt (ha : D X T Wx C a ea) : D X T Wx C (.FormattedValue a (-1) none pos) (.fmt ea) := by
  refine (pe_fmt ha).weak fun σ H Q ⟨φ, σb, h, s, rl, p⟩ => ?_
  simp only [evalE] at p
  refine tR_mono (tR_of s rl p) ?_
  rintro x H1 ⟨φ1, w1, h1, _, x1, s1, rl1, r1, p1⟩
  cases w1 with
  | str y =>
    have e := r1.str_inv; subst e
    simp only [strOf] at p1
    split at p1
    · rename_i c
      exact .inl ⟨y, rfl, by rw [sizeLine_eq]; exact of_decide_eq_true c, p1 φ1 _ H1 .refl rl1 (.mk_str _)⟩
    · exact p1.elim
  | int i =>
    have e := r1.int_inv; subst e
    simp only [strOf] at p1
    split at p1
    · rename_i t ht
      split at ht
      · rename_i c
        cases ht
        split at p1
        · exact .inr ⟨i, rfl, of_decide_eq_true c, p1 φ1 _ H1 .refl rl1 (.mk_str _)⟩
        · exact p1.elim
      · cases ht
    · exact p1.elim
  | _ => exact p1.elim
/-- the parts of an f-string -/
def DJ (X : L2.Cx) (T : Tab) (Wx : WX) (C : Ctx) (es : List Expr) (e' : E) : Prop := ∃ ts, PJ X es ts ∧ ∀ (σ : L2.St) (H : Hp) (φ : Pl) (σb : Sb) (h : Hb) (acc : Str) (Q : Str → Hp → Prop), RS X.K T φ H σb σ → Rel X.K T φ H h →
  (match evalE C e' σb h with
    | .ok w h' => ∃ xs ss, w = .tup xs ∧ strsW xs = some ss ∧ acc.length + total ss ≤ 16777216 ∧ ∀ φ' H', Ex X.K φ φ' H H' → Rel X.K T φ' H' h' → Q (ss.foldl (· ++ ·) acc) H'
    | _ => False) → tJs ts acc σ H Q
theorem dj_nil : DJ X T Wx C [] .nil := ⟨[], .nil, fun σ H φ σb h acc Q s rl p => by
  simp only [evalE] at p
  obtain ⟨xs, ss, e1, e2, _, q⟩ := p
  cases e1
  cases e2
  exact q φ H .refl rl⟩
theorem total_cons (y : Str) (ss : List Str) : total (y :: ss) = y.length + total ss := by simp [total]
theorem dj_cons (ha : D X T Wx C a ea) (hr : DJ X T Wx C es eb) : DJ X T Wx C (a :: es) (.cons ea eb) := by
  obtain ⟨ts, hj, hq⟩ := hr
  refine ⟨_ :: ts, .cons ha hj, fun σ H φ σb h acc Q s rl p => ?_⟩
  simp only [evalE] at p
  refine ⟨φ, σb, h, s, rl, ?_⟩
  cases q : evalE C ea σb h with
  | no => rw [q] at p; exact p
  | ex e h' => rw [q] at p; exact p.elim
  | ok w h1 =>
    rw [q] at p
    simp only [R.bind] at p
    intro φ1 x H1 x1 rl1 r1
    cases q2 : evalE C eb σb h1 with
    | no => rw [q2] at p; exact p.elim
    | ex e h' => rw [q2] at p; exact p.elim
    | ok w2 h2 =>
      rw [q2] at p
      cases w2 with
      | tup ys =>
        obtain ⟨xs, ss, e1, e2, e3, k⟩ := p
        cases e1
        cases w with
        | str y =>
          have e := r1.str_inv; subst e
          simp only [strsW] at e2
          obtain ⟨ss', e4, rfl⟩ := Option.map_eq_some_iff.mp e2
          rw [total_cons] at e3
          have hl : (acc ++ y).length = acc.length + y.length := Str.length_append _ _
          refine ⟨y, rfl, by rw [sizeLine_eq, hl]; omega, hq σ H1 φ1 σb h1 (acc ++ y) Q (s.mono x1) rl1 ?_⟩
          rw [q2]
          exact ⟨ys, ss', rfl, e4, by rw [hl]; omega, fun φ' H' x' rl' => k φ' H' (x1.trans x') rl'⟩
        | _ => simp [strsW] at e2
      | _ => exact p.elim
theorem d_fstr {v1 v2 : Expr} (hj : DJ X T Wx C (v1 :: v2 :: es) ea) : D X T Wx C (.JoinedStr (v1 :: v2 :: es) pos) (.fstr ea) := by
  obtain ⟨ts, pj, hq⟩ := hj
  refine (pe_joined pj).weak fun σ H Q ⟨φ, σb, h, s, rl, p⟩ => hq σ H φ σb h Str.empty _ s rl ?_
  simp only [evalE] at p
  cases q : evalE C ea σb h with
  | no => rw [q] at p; exact p
  | ex e h' => rw [q] at p; exact p.elim
  | ok w h1 =>
    rw [q] at p
    simp only [noEx, R.bind] at p
    cases w with
    | tup xs =>
      dsimp only at p
      cases q2 : strsW xs with
      | none => rw [q2] at p; exact p.elim
      | some ss =>
        rw [q2] at p
        dsimp only at p
        split at p
        · rename_i c
          have c' : total ss ≤ 16777216 := of_decide_eq_true c
          refine ⟨xs, ss, rfl, q2, ?_, fun φ' H' x rl' => p φ' _ H' x rl' (.mk_str _)⟩
          show 0 + total ss ≤ _
          omega
        · exact p.elim
    | _ => exact p.elim
/-! ### isinstance of built-in types -/
def tyN (t : Str) : Option String := if t = ("int" : Str) then some "int" else if t = ("bool" : Str) then some "bool" else if t = ("str" : Str) then some "str" else if t = ("tuple" : Str) then some "tuple" else if t = ("list" : Str) then some "list" else if t = ("dict" : Str) then some "dict" else none
theorem tyN_cases {t : Str} {n : String} (h : tyN t = some n) : (t = "int" ∧ n = "int") ∨ (t = "bool" ∧ n = "bool") ∨ (t = "str" ∧ n = "str") ∨ (t = "tuple" ∧ n = "tuple") ∨ (t = "list" ∧ n = "list") ∨ (t = "dict" ∧ n = "dict") := by
  unfold tyN at h
  split at h
  · cases h; exact .inl ⟨by assumption, rfl⟩
  · split at h
    · cases h; exact .inr (.inl ⟨by assumption, rfl⟩)
    · split at h
      · cases h; exact .inr (.inr (.inl ⟨by assumption, rfl⟩))
      · split at h
        · cases h; exact .inr (.inr (.inr (.inl ⟨by assumption, rfl⟩)))
        · split at h
          · cases h; exact .inr (.inr (.inr (.inr (.inl ⟨by assumption, rfl⟩))))
          · split at h
            · cases h; exact .inr (.inr (.inr (.inr (.inr ⟨by assumption, rfl⟩))))
            · cases h
theorem pe_ty {t : Str} {n : String} {p : Pos} (h : tyN t = some n) (hg : Gl X t) (hm : X.mg t = none) : PE X (.Name t p) (tC (.ty n)) := by
  rcases tyN_cases h with ⟨rfl, rfl⟩ | ⟨rfl, rfl⟩ | ⟨rfl, rfl⟩ | ⟨rfl, rfl⟩ | ⟨rfl, rfl⟩ | ⟨rfl, rfl⟩ <;> exact pe_bltn hg hm (by decide +kernel) rfl
/-- a value's type and what isinstance says of it -/
theorem isOf_ok {w : W} {x : V} {t : Str} {b : Bool} (rl : Rel X.K T φ H h) (r : RV X.K T φ H w x) (e : isOf h w t = some b) : ∃ m, TyX X.K H x (.type m) ∧ ∀ t n b, tyN t = some n → isOf h w t = some b → PySem.W.kitOne X.K (.type m) (.type n) = some b := by
  have lst : ∀ {a : Addr}, TyX X.K H (.ref a) (.type "list") → (∀ t, isOf h w t = some (t == ("list" : Str))) → ∃ m, TyX X.K H (.ref a) (.type m) ∧ ∀ t n b, tyN t = some n → isOf h w t = some b → PySem.W.kitOne X.K (.type m) (.type n) = some b := fun {a} k f =>
    ⟨"list", k, fun t n b hn e => by
      rw [f] at e
      cases e
      rcases tyN_cases hn with ⟨rfl, rfl⟩ | ⟨rfl, rfl⟩ | ⟨rfl, rfl⟩ | ⟨rfl, rfl⟩ | ⟨rfl, rfl⟩ | ⟨rfl, rfl⟩ <;> exact kit_ty (by decide +kernel)⟩
  cases w with
  | non =>
    have := r.non_inv; subst this
    exact ⟨"NoneType", .base .non, fun t n b hn e => by
      cases e
      rcases tyN_cases hn with ⟨rfl, rfl⟩ | ⟨rfl, rfl⟩ | ⟨rfl, rfl⟩ | ⟨rfl, rfl⟩ | ⟨rfl, rfl⟩ | ⟨rfl, rfl⟩ <;> exact kit_ty (by decide +kernel)⟩
  | bl y =>
    have := r.bl_inv; subst this
    exact ⟨"bool", .base (.bl y), fun t n b hn e => by
      cases e
      rcases tyN_cases hn with ⟨rfl, rfl⟩ | ⟨rfl, rfl⟩ | ⟨rfl, rfl⟩ | ⟨rfl, rfl⟩ | ⟨rfl, rfl⟩ | ⟨rfl, rfl⟩ <;> exact kit_ty (by decide +kernel)⟩
  | int y =>
    have := r.int_inv; subst this
    exact ⟨"int", .base (.int y), fun t n b hn e => by
      cases e
      rcases tyN_cases hn with ⟨rfl, rfl⟩ | ⟨rfl, rfl⟩ | ⟨rfl, rfl⟩ | ⟨rfl, rfl⟩ | ⟨rfl, rfl⟩ | ⟨rfl, rfl⟩ <;> exact kit_ty (by decide +kernel)⟩
  | str y =>
    have := r.str_inv; subst this
    exact ⟨"str", .base (.str y), fun t n b hn e => by
      cases e
      rcases tyN_cases hn with ⟨rfl, rfl⟩ | ⟨rfl, rfl⟩ | ⟨rfl, rfl⟩ | ⟨rfl, rfl⟩ | ⟨rfl, rfl⟩ | ⟨rfl, rfl⟩ <;> exact kit_ty (by decide +kernel)⟩
  | tup xs =>
    obtain ⟨a, vs, rfl, h1, _⟩ := r.tup_inv
    have ty : TyX X.K H (.ref a) (.type "tuple") := by
      rcases h1 with ⟨_, z | ⟨o, z⟩⟩ | ⟨o, its, m, z, c, _⟩
      · exact .base (.tup z)
      · exact .fTuple z
      · exact .kTuple z c
    exact ⟨"tuple", ty, fun t n b hn e => by
      cases e
      rcases tyN_cases hn with ⟨rfl, rfl⟩ | ⟨rfl, rfl⟩ | ⟨rfl, rfl⟩ | ⟨rfl, rfl⟩ | ⟨rfl, rfl⟩ | ⟨rfl, rfl⟩ <;> exact kit_ty (by decide +kernel)⟩
  | lit xs =>
    obtain ⟨a, vs, rfl, n, h1, _⟩ := r.lit_inv
    exact lst (.base (.lst h1)) fun t => rfl
  | ref m =>
    obtain ⟨a, rfl, ha⟩ := r.ref_inv
    simp only [isOf] at e
    split at e
    · rename_i xs q
      obtain ⟨vs, h1, _⟩ := rl.lst q ha
      exact lst (.base (.lst h1)) fun t => by simp only [isOf, q]
    · cases e
  | _ => cases e
theorem d_isi1 {t : Str} {n : String} {p p2 : Pos} (hn : tyN t = some n) (hg : Gl X "isinstance") (hm : X.mg "isinstance" = none) (hg2 : Gl X t) (hm2 : X.mg t = none) (ha : D X T Wx C a ea) (hs : notStar a = true) : D X T Wx C (.Call (.Name "isinstance" p) [a, .Name t p2] [] pos) (.isi ea [t]) := by
  refine (pe_callB call_isi hg hm boot_isinstance (pa_cons ha (pa_cons (pe_ty hn hg2 hm2) pa_nil rfl) (starEach_of hs)) (by decide) (by decide) (starEach_of hs) (by rfl)).weak fun σ H Q ⟨φ, σb, h, s, rl, p⟩ => ?_
  simp only [evalE] at p
  refine tR_mono (tR_of s rl p) ?_
  rintro x H1 ⟨φ1, w1, h1, _, x1, s1, rl1, r1, p1⟩
  simp only [isAny] at p1
  cases q : isOf h1 w1 t with
  | none => rw [q] at p1; exact p1.elim
  | some b =>
    rw [q] at p1
    obtain ⟨m, ty, k⟩ := isOf_ok rl1 r1 q
    have p2 : Post X.K T (ZX Wx σ) φ1 H1 (R.ofB (some (b || false)) h1) Q := p1
    rw [Bool.or_false] at p2
    exact ⟨x, .ty n, _, _, b, rfl, .ty n, ty, k t n b hn q, p2 φ1 _ H1 .refl rl1 (.mk_bl _)⟩
/-- names of types in a tuple -/
def tyNs : List Str → Option (List String)
  | [] => some []
  | t :: ts => match tyN t, tyNs ts with | some n, some ns => some (n :: ns) | _, _ => none
theorem pa_tys : ∀ {ts : List Str} {ns : List String} {ps : List Pos}, tyNs ts = some ns → (∀ t ∈ ts, Gl X t ∧ X.mg t = none) → ∃ t, PA X ((ts.zip ps).map fun z => .Name z.1 z.2) t ∧ (ps.length = ts.length → ∀ σ H Q, Q (ns.map V.ty) H → t σ H Q)
  | [], ns, ps, h, _ => by
    cases h
    exact ⟨_, pa_nil, fun _ σ H Q q => q⟩
  | t :: ts, ns, [], h, hg => ⟨_, pa_nil, fun z => by simp at z⟩
  | t :: ts, ns, p :: ps, h, hg => by
    simp only [tyNs] at h
    split at h
    · rename_i n ns' e1 e2
      cases h
      obtain ⟨tt, h1, h2⟩ := pa_tys (ps := ps) e2 fun t ht => hg t (List.mem_cons_of_mem _ ht)
      obtain ⟨g1, g2⟩ := hg t List.mem_cons_self
      exact ⟨_, pa_cons (pe_ty e1 g1 g2) h1 (starEach_of rfl), fun hl σ H Q q => h2 (by simpa using hl) σ H _ q⟩
    · cases h
theorem kit_any {h : Hb} {w : W} {x : V} (rl : Rel X.K T φ H h) (r : RV X.K T φ H w x) : ∀ {ts : List Str} {ns : List String} {b : Bool} (m : String), (∀ t n b, tyN t = some n → isOf h w t = some b → PySem.W.kitOne X.K (.type m) (.type n) = some b) → tyNs ts = some ns → isAny h w ts = some b → PySem.W.kitAny X.K (.type m) (ns.map Value.type) = some b
  | [], ns, b, m, _, h1, h2 => by
    cases h1; cases h2
    exact kitAny_nil
  | t :: ts, ns, b, m, hk, h1, h2 => by
    simp only [tyNs] at h1
    split at h1
    · rename_i n ns' e1 e2
      cases h1
      simp only [isAny] at h2
      split at h2
      · rename_i a c e3 e4
        cases h2
        have ih := kit_any rl r m hk e2 e4
        refine kitAny_cons (hk t n a e1 e3) (fun z => ?_) (fun z => by rw [z]; rfl)
        rw [z, Bool.false_or]
        exact ih
      · cases h2
    · cases h1
theorem cls_tys : ∀ ns : List String, Paired ClsV (ns.map V.ty) (ns.map Value.type)
  | [] => .nil
  | n :: ns => .cons (.ty n) (cls_tys ns)
theorem d_isiT {ts : List Str} {ns : List String} {ps : List Pos} {p p2 : Pos} {k : Nat} (hn : tyNs ts = some ns) (hl : ps.length = ts.length) (hne : ts ≠ []) (hs1 : ns.length ≤ sizeLine) (hg : Gl X "isinstance") (hm : X.mg "isinstance" = none) (hg2 : ∀ t ∈ ts, Gl X t ∧ X.mg t = none) (ha : D X T Wx C a ea) (hs : notStar a = true) :
    D X T Wx C (.Call (.Name "isinstance" p) [a, .Tuple ((ts.zip ps).map fun z => .Name z.1 z.2) k p2] [] pos) (.isi ea ts) := by
  obtain ⟨tt, pt, qt⟩ := pa_tys (X := X) (ps := ps) hn hg2
  refine (pe_callB call_isiT hg hm boot_isinstance (pa_cons ha (pa_cons (pe_tup pt) pa_nil rfl) (starEach_of hs)) (by decide) (by decide) (starEach_of hs) (by rfl)).weak fun σ H Q ⟨φ, σb, h, s, rl, p⟩ => ?_
  simp only [evalE] at p
  refine tR_mono (tR_of s rl p) ?_
  rintro x H1 ⟨φ1, w1, h1, _, x1, s1, rl1, r1, p1⟩
  refine qt hl σ H1 _ ⟨by rw [List.length_map]; exact hs1, fun q hq => ?_⟩
  cases z : isAny h1 w1 ts with
  | none => rw [z] at p1; exact p1.elim
  | some b =>
    rw [z] at p1
    have x2 := Ex.side (K := X.K) (o := .tup (ns.map V.ty)) rl1 hq
    have rl2 := rl1.side (o := .tup (ns.map V.ty)) hq
    have r2 := RV.mono x2 _ _ r1
    obtain ⟨t0, ts0, rfl⟩ : ∃ t0 ts0, ts = t0 :: ts0 := by
      cases ts with
      | nil => exact (hne rfl).elim
      | cons a b => exact ⟨a, b, rfl⟩
    obtain ⟨b0, e0⟩ : ∃ b0, isOf h1 w1 t0 = some b0 := by
      simp only [isAny] at z
      split at z
      · exact ⟨_, by assumption⟩
      · cases z
    obtain ⟨m, ty, k⟩ := isOf_ok rl2 r2 e0
    exact ⟨x, q, ns.map V.ty, _, ns.map Value.type, b, rfl, upd_same, cls_tys ns, ty, kit_any rl2 r2 m k hn z, p1 φ1 _ _ x2 rl2 (.mk_bl _)⟩
end
end Y
/-! Y10: does a text match a term of Y? If so, it runs as the term says. -/
namespace Y
open PySem PySem.Spec PyProof.Rows L2

/-- what is known of a block: its slots' names, its written scope, its running scope, the functions, the built-ins that stand -/
structure MC where
  N : List Str
  w : Scope
  sc : Scope
  fs : List Str
  bl : List Str
def MC.blk (M : MC) (scope : Scope) : MC := { M with w := scope, sc := relS scope M.sc }
def visB (sc : Scope) (x : Str) : Bool := match sc.names.lookup x with | some .local => true | some .cell => true | some .free => true | _ => false
def stB (M : MC) (x : Str) : Bool := match M.sc.names.lookup x with
  | some .local => true
  | some .cell => (match M.w.names.lookup x with | some .cell => true | _ => false)
  | _ => false
def glB (sc : Scope) (x : Str) : Bool := match sc.names.lookup x with | some .globalImplicit => true | _ => false
def dbg (x : Str) : Bool := !(x == ("__debug__" : Str))
def ncd (x : Str) : Bool := !(x == ("__classdict__" : Str))
def blB (M : MC) (x : Str) : Bool := glB M.sc x && decide (x ∈ M.bl)
theorem vis_of {sc : Scope} {x : Str} (h : visB sc x = true) : Vis sc x := by
  unfold visB at h
  split at h
  · exact .inl (by assumption)
  · exact .inr (.inl (by assumption))
  · exact .inr (.inr (by assumption))
  · cases h
theorem dbg_of {x : Str} (h : dbg x = true) : (x == ("__debug__" : Str)) = false := by unfold dbg at h; simpa using h
theorem ncd_of {x : Str} (h : ncd x = true) : (x == ("__classdict__" : Str)) = false := by unfold ncd at h; simpa using h

def notSet : Expr → Bool
  | .Set _ _ _ => false
  | _ => true
theorem notSet_ok {e : Expr} {env : Env} (h : notSet e = true) : ∀ x, foldedSetIterable e env x = pure x := fun x => by
  cases e <;> first | rfl | (exact (Bool.false_ne_true h).elim)
def isTup : Expr → Bool
  | .Tuple _ _ _ => true
  | _ => false
/-- a built-in's call with one argument, with two -/
def blt1 (M : MC) (f : Str) : Expr → Option Expr
  | .Call (.Name g _) [x] [] _ => if decide (g = f) && blB M f && notStar x then some x else none
  | _ => none
def blt2 (M : MC) (f : Str) : Expr → Option (Expr × Expr)
  | .Call (.Name g _) [x, y] [] _ => if decide (g = f) && blB M f && notStar x && notStar y then some (x, y) else none
  | _ => none
theorem blt1_ok {M : MC} {f : Str} {e x : Expr} (h : blt1 M f e = some x) : ∃ p pos, e = .Call (.Name f p) [x] [] pos ∧ blB M f = true ∧ notStar x = true := by
  unfold blt1 at h
  split at h
  · split at h
    · rename_i c
      cases h
      simp only [Bool.and_eq_true, decide_eq_true_eq] at c
      obtain ⟨⟨rfl, c2⟩, c3⟩ := c
      exact ⟨_, _, rfl, c2, c3⟩
    · cases h
  · cases h
theorem blt2_ok {M : MC} {f : Str} {e x y : Expr} (h : blt2 M f e = some (x, y)) : ∃ p pos, e = .Call (.Name f p) [x, y] [] pos ∧ blB M f = true ∧ notStar x = true ∧ notStar y = true := by
  unfold blt2 at h
  split at h
  · split at h
    · rename_i c
      cases h
      simp only [Bool.and_eq_true, decide_eq_true_eq] at c
      obtain ⟨⟨⟨rfl, c2⟩, c3⟩, c4⟩ := c
      exact ⟨_, _, rfl, c2, c3, c4⟩
    · cases h
  · cases h

/-! ### targets -/
mutual
def mG : Tg → MC → Expr → Bool
  | .nm i, M, e => (match e with | .Name x _ => decide (M.N[i]? = some x) && stB M x | _ => false)
  | .tp t, M, e => (match e with | .Tuple es _ _ => mGs t M es | _ => false)
  | .nil, _, _ => false
  | .cons _ _, _, _ => false
def mGs : Tg → MC → List Expr → Bool
  | .nil, _, es => (match es with | [] => true | _ => false)
  | .cons t r, M, es => (match es with | x :: xs => notStar x && mG t M x && mGs r M xs | _ => false)
  | .nm _, _, _ => false
  | .tp _, _, _ => false
end
theorem assignEach_of {e : Expr} {es : List Expr} {env : Env} (hs : notStar e = true) : assignEach (e :: es) env = (false, assign e env) :: assignEach es env := by
  cases e <;> first | rfl | (exfalso; exact Bool.false_ne_true hs)

/-! ### expressions -/
def ownN (N : List Str) (own : List Nat) : List (Str × Nat) := own.map fun i => ((N[i]?).getD Str.empty, i)
def isTrueE : E → Bool
  | .bl true => true
  | _ => false
def isNonE : E → Bool
  | .non => true
  | _ => false
def canNew : E → Bool
  | .lst _ => true
  | .cm _ _ _ _ _ => true
  | .cm2 _ _ _ _ _ _ _ _ _ => true
  | .bin _ _ _ => true
  | .bi f _ => newBi f
  | _ => false
def canNewD : E → Bool
  | .dct0 => true
  | .cmd _ _ _ _ _ _ => true
  | .cmd2 _ _ _ _ _ _ _ _ _ _ => true
  | _ => false
/-- the test of a clause: none: left out -/
def tst (z : Option Expr) (c : E) (M : MC) (f : MC → Expr → Bool) : Bool := match z with
  | none => isTrueE c
  | some y => f M y
def ifO : List Expr → Option (Option Expr)
  | [] => some none
  | [y] => some (some y)
  | _ => none
/-- what is no part of the recursion: of one clause, of two -/
structure Cl where
  dct : Bool
  x : Expr
  y : Expr
  iter : Expr
  z : Option Expr
  iter1 : Expr
  z1 : Option Expr
  scope : Scope
def cl1 (M : MC) (own : List Nat) (t : Tg) : Expr → Option Cl
  | .DictComp x y [⟨tg, iter, ifs, k⟩] scope _ => (match ifO ifs with
    | some z => if decide (k = 0) && (blkC M.N M.sc scope (ownN M.N own) && ((t.vs.all fun i => decide (i ∈ own)) && (mG t (M.blk scope) tg && notSet iter))) then some ⟨true, x, y, iter, z, iter, z, scope⟩ else none
    | none => none)
  | _ => none
def cl2 (M : MC) (own own1 : List Nat) (t t1 : Tg) : Expr → Option Cl
  | .DictComp x y [⟨tg, iter, ifs, k⟩, ⟨tg1, iter1, ifs1, k1⟩] scope _ => (match ifO ifs, ifO ifs1 with
    | some z, some z1 => if (decide (k = 0) && (blkC M.N M.sc scope (ownN M.N own) && ((t.vs.all fun i => decide (i ∈ own)) && (mG t (M.blk scope) tg && notSet iter)))) &&
        (decide (k1 = 0) && ((own1.all fun i => decide (i ∈ own)) && ((t1.vs.all fun i => decide (i ∈ own1)) && (mG t1 (M.blk scope) tg1 && notSet iter1)))) then some ⟨true, x, y, iter, z, iter1, z1, scope⟩ else none
    | _, _ => none)
  | .ListComp x [⟨tg, iter, ifs, k⟩, ⟨tg1, iter1, ifs1, k1⟩] scope _ => (match ifO ifs, ifO ifs1 with
    | some z, some z1 => if (decide (k = 0) && (blkC M.N M.sc scope (ownN M.N own) && ((t.vs.all fun i => decide (i ∈ own)) && (mG t (M.blk scope) tg && notSet iter)))) &&
        (decide (k1 = 0) && ((own1.all fun i => decide (i ∈ own)) && ((t1.vs.all fun i => decide (i ∈ own1)) && (mG t1 (M.blk scope) tg1 && notSet iter1)))) then some ⟨false, x, x, iter, z, iter1, z1, scope⟩ else none
    | _, _ => none)
  | _ => none
def nmsP : List Expr → Option (List (Str × Pos))
  | [] => some []
  | .Name t p :: r => (nmsP r).map ((t, p) :: ·)
  | _ => none
theorem nmsP_ok : ∀ {es : List Expr} {l : List (Str × Pos)}, nmsP es = some l → es = ((l.map (·.1)).zip (l.map (·.2))).map fun z => .Name z.1 z.2
  | [], l, h => by cases h; rfl
  | e :: es, l, h => by
    cases e <;> first
      | (simp only [nmsP] at h
         obtain ⟨l', h1, rfl⟩ := Option.map_eq_some_iff.mp h
         rw [nmsP_ok h1]
         simp)
      | cases h
/-- isinstance(x, T), isinstance(x, (T, U)): x -/
def isiP (M : MC) (ts : List Str) : Expr → Option Expr
  | .Call (.Name g _) [x, .Name t _] [] _ => if (decide (g = "isinstance") && blB M "isinstance") && ((decide (ts = [t]) && (blB M t && (tyN t).isSome)) && notStar x) then some x else none
  | .Call (.Name g _) [x, .Tuple es _ _] [] _ => (match nmsP es with
    | some l => if (decide (g = "isinstance") && blB M "isinstance") && ((decide (ts = l.map (·.1)) && ((l.all fun z => blB M z.1) && ((tyNs ts).isSome && (!ts.isEmpty && decide (ts.length ≤ 100))))) && notStar x) then some x else none
    | none => none)
  | _ => none
def canAny (e : E) : Bool := canNew e || canNewD e
/-- made anew, to be changed later -/
def newOf (e : E) : E := if canNewD e = true then .newd e else .new e
mutual
def mE : E → MC → Expr → Bool
  | .stop, _, _ => true
  | .un (.att f) a, M, e => (match e with | .Attribute x g _ => decide (g = f) && (noCall0 x && mE a M x) | _ => false)
  | .un .frz a, M, e => mE a M e
  | .mc (.meth m) a es ks kes, M, e => (match e with
    | .Call (.Attribute o g ap) xs kws cp => (decide (g = m) && ((noCall0 o && (ap.endLine == cp.line)) && (noStars xs && fewB xs kws))) && (decide (kwNames kws = ks.map some) && (mE a M o && (mA es M xs && mK kes M kws)))
    | _ => false)
  | .mc (.mk c) _ es ks kes, M, e => (match e with
    | .Call (.Name g _) xs kws _ => (decide (g = c) && ((glB M.sc c && dbg c) && noStars xs)) && (decide (kwNames kws = ks.map some) && (mA es M xs && mK kes M kws))
    | _ => false)
  | .mc .obj _ _ _ _, _, _ => false
  | .slot i, M, e => (match e with | .Name x _ => decide (M.N[i]? = some x) && (visB M.sc x && (dbg x && ncd x)) | _ => false)
  | .non, _, e => (match e with | .Constant .none _ _ => true | _ => false)
  | .bl b, _, e => (match e with | .Constant (.bool c) _ _ => decide (b = c) | _ => false)
  | .int i, _, e => (match e with | .Constant (.int j) _ _ => decide (i = j) | _ => false)
  | .str s, _, e => (match e with | .Constant (.str t) _ _ => decide (s = t) | _ => false)
  | .glob x, M, e => (match e with | .Name y _ => decide (y = x) && (glB M.sc x && dbg x) | _ => false)
  | .bin op a b, M, e => (match e with | .BinOp x o y _ => decide (o = opP op) && (mE a M x && mE b M y) | _ => false)
  | .neg a, M, e => (match e with | .UnaryOp .USub x _ => mE a M x | _ => false)
  | .cmp op a b, M, e => (match e with | .Compare x [o] [y] _ => decide (o = cmP op) && (!behindInMarks o y && (mE a M x && mE b M y)) | _ => false)
  | .chn o1 o2 a b c, M, e => (match e with | .Compare x [p1, p2] [y, z] _ => (decide (p1 = cmP o1) && decide (p2 = cmP o2)) && (!lastMarks [p1, p2] [y, z] && (mE a M x && (mE b M y && mE c M z))) | _ => false)
  | .and a b, M, e => (match e with | .BoolOp .And (x :: y :: r) p => mE a M x && (match r with | [] => mE b M y | _ :: _ => mE b M (.BoolOp .And (y :: r) p)) | _ => false)
  | .or a b, M, e => (match e with | .BoolOp .Or (x :: y :: r) p => mE a M x && (match r with | [] => mE b M y | _ :: _ => mE b M (.BoolOp .Or (y :: r) p)) | _ => false)
  | .tand _ _, _, _ => false
  | .tor _ _, _, _ => false
  | .tnot a, M, e => (match e with | .UnaryOp .Not x _ => mU a M x | _ => false)
  | .tru _, _, _ => false
  | .ite c a b, M, e => (match e with | .IfExp x y z _ => mT c M x && (mE a M y && mE b M z) | _ => false)
  | .nil, _, _ => false
  | .cons _ _, _, _ => false
  | .star _ _, _, _ => false
  | .tup es, M, e => (match e with | .Tuple xs _ _ => mA es M xs | _ => false)
  | .lst es, M, e => (match e with | .List xs _ => mA es M xs | _ => false)
  | .new a, M, e => canNew a && mE a M e
  | .ix a i, M, e => (match e with | .Subscript x y _ => plainIx y && (mE a M x && mE i M y) | _ => false)
  | .cut a lo hi, M, e => (match e with
    | .Subscript x (.Slice l u none _) _ => mE a M x && ((match l with | none => isNonE lo | some y => !isNonE lo && mE lo M y) && (match u with | none => isNonE hi | some y => !isNonE hi && mE hi M y))
    | _ => false)
  | .bi f es, M, e => (match e with | .Call (.Name g _) (x :: xs) [] _ => decide (g = biN f) && (blB M (biN f) && (noStars (x :: xs) && mA es M (x :: xs))) | _ => false)
  | .mt m a es, M, e => (match e with
    | .Call (.Attribute o g ap) xs [] cp => decide (g = mtN m) && ((noCall0 o && (ap.endLine == cp.line)) && (mE a M o && (noStars xs && (mA es M xs && decide (xs.length ≤ 20) && (match m, xs with
      | .append, _ :: _ => true
      | .pop, _ => true
      | .join, _ :: _ => true
      | .get, _ :: _ => true
      | _, _ => false)))))
    | _ => false)
  | .call f es ks kes, M, e => (match e with
    | .Call (.Name g _) xs kws _ => decide (g = f) && ((glB M.sc f && (dbg f && decide (f ∈ M.fs))) && (decide (kwNames kws = ks.map some) && (mA es M xs && (mK kes M kws && (match kws with
      | [] => (match xs with | [] => true | x :: _ => notStar x)
      | _ :: _ => noStars xs)))))
    | _ => false)
  | .cm elt t it c own, M, e => (match e with
    | .ListComp x [⟨tg, iter, ifs, k⟩] scope _ => decide (k = 0) && (blkC M.N M.sc scope (ownN M.N own) && ((t.vs.all fun i => decide (i ∈ own)) && (mG t (M.blk scope) tg && (notSet iter &&
      ((match ifs with | [] => isTrueE c | [y] => mT c (M.blk scope) y | _ => false) && (mE elt (M.blk scope) x &&
      (match it with
        | .rng a => (match blt1 M "range" iter with | some y => mE a M y | none => false)
        | .rng2 a b => (match blt2 M "range" iter with | some (y, z) => mE a M y && mE b M z | none => false)
        | .enum a => isTup tg && (match blt1 M "enumerate" iter with | some y => mE a M y | none => false)
        | .zip a b => isTup tg && (match blt2 M "zip" iter with | some (y, z) => mE a M y && mE b M z | none => false)
        | it => mE it M iter)))))))
    | _ => false)
  | .dct0, _, e => (match e with | .Dict [] [] _ => true | _ => false)
  | .newd a, M, e => canNewD a && mE a M e
  | .cmd kx vx t it c own, M, e => (match cl1 M own t e with
    | some p => tst p.z c (M.blk p.scope) (mT c) && (mE it M p.iter && (mE kx (M.blk p.scope) p.x && mE vx (M.blk p.scope) p.y))
    | none => false)
  | .cmd2 kx vx t it c t1 it1 c1 own own1, M, e => (match cl2 M own own1 t t1 e with
    | some p => p.dct && (tst p.z c (M.blk p.scope) (mT c) && (mE it M p.iter && (tst p.z1 c1 (M.blk p.scope) (mT c1) && (mE it1 (M.blk p.scope) p.iter1 && (mE kx (M.blk p.scope) p.x && mE vx (M.blk p.scope) p.y)))))
    | none => false)
  | .cm2 elt t it c t1 it1 c1 own own1, M, e => (match cl2 M own own1 t t1 e with
    | some p => !p.dct && (tst p.z c (M.blk p.scope) (mT c) && (mE it M p.iter && (tst p.z1 c1 (M.blk p.scope) (mT c1) && (mE it1 (M.blk p.scope) p.iter1 && mE elt (M.blk p.scope) p.x))))
    | none => false)
  | .rng _, _, _ => false
  | .rng2 _ _, _, _ => false
  | .enum _, _, _ => false
  | .zip _ _, _, _ => false
  | .lzip a b, M, e => (match e with
    | .Call (.Name g _) [.Call (.Name g2 _) [x, y] [] _] [] _ => (decide (g = "list") && decide (g2 = "zip")) && ((blB M "list" && blB M "zip") && ((notStar x && notStar y) && (mE a M x && mE b M y)))
    | _ => false)
  | .fmt a, M, e => (match e with | .FormattedValue x c none _ => decide (c = -1) && mE a M x | _ => false)
  | .fstr es, M, e => (match e with | .JoinedStr (x :: y :: xs) _ => noStars (x :: y :: xs) && mA es M (x :: y :: xs) | _ => false)
  | .isi a ts, M, e => (match isiP M ts e with | some x => mE a M x | none => false)
def mT : E → MC → Expr → Bool
  | .stop, _, _ => true
  | .bl b, _, e => (match e with | .Constant (.bool c) _ _ => decide (b = c) | _ => false)
  | .cmp op a b, M, e => (match e with | .Compare x [o] [y] _ => decide (o = cmP op) && (!behindInMarks o y && (mE a M x && mE b M y)) | _ => false)
  | .chn o1 o2 a b c, M, e => (match e with | .Compare x [p1, p2] [y, z] _ => (decide (p1 = cmP o1) && decide (p2 = cmP o2)) && (!lastMarks [p1, p2] [y, z] && (mE a M x && (mE b M y && mE c M z))) | _ => false)
  | .tand a b, M, e => (match e with | .BoolOp .And (x :: y :: r) p => mT a M x && (match r with | [] => mT b M y | _ :: _ => mT b M (.BoolOp .And (y :: r) p)) | _ => false)
  | .tor a b, M, e => (match e with | .BoolOp .Or (x :: y :: r) p => mT a M x && (match r with | [] => mT b M y | _ :: _ => mT b M (.BoolOp .Or (y :: r) p)) | _ => false)
  | .tnot a, M, e => (match e with | .UnaryOp .Not x _ => mT a M x | _ => false)
  | .tru a, M, e => plainT e && mE a M e
  | _, _, _ => false
/-- by truth -/
def mU : E → MC → Expr → Bool
  | .tru a, M, e => mE a M e
  | _, _, _ => false
def mA : E → MC → List Expr → Bool
  | .nil, _, xs => (match xs with | [] => true | _ => false)
  | .cons a r, M, xs => (match xs with | x :: xs => notStar x && (mE a M x && mA r M xs) | _ => false)
  | .star a r, M, xs => (match xs with | .Starred x _ :: xs => mE a M x && mA r M xs | _ => false)
  | _, _, _ => false
def mK : E → MC → List Keyword → Bool
  | .nil, _, xs => (match xs with | [] => true | _ => false)
  | .cons a r, M, xs => (match xs with | ⟨_, x, _⟩ :: xs => mE a M x && mK r M xs | _ => false)
  | _, _, _ => false
end
/-- what is walked -/
def mI : E → MC → Expr → Expr → Bool
  | .rng a, M, _, iter => (match blt1 M "range" iter with | some y => mE a M y | none => false)
  | .rng2 a b, M, _, iter => (match blt2 M "range" iter with | some (y, z) => mE a M y && mE b M z | none => false)
  | .enum a, M, tg, iter => isTup tg && (match blt1 M "enumerate" iter with | some y => mE a M y | none => false)
  | .zip a b, M, tg, iter => isTup tg && (match blt2 M "zip" iter with | some (y, z) => mE a M y && mE b M z | none => false)
  | it, M, _, iter => mE it M iter
def ifsOk (c : E) (M : MC) : List Expr → Bool
  | [] => isTrueE c
  | [y] => mT c M y
  | _ => false
theorem mE_cm {elt : E} {t : Tg} {it c : E} {own : List Nat} {M : MC} {x tg iter : Expr} {ifs : List Expr} {k : Int} {scope : Scope} {pos : Pos} (h : mE (.cm elt t it c own) M (.ListComp x [⟨tg, iter, ifs, k⟩] scope pos) = true) :
    k = 0 ∧ blkC M.N M.sc scope (ownN M.N own) = true ∧ (∀ i ∈ t.vs, i ∈ own) ∧ mG t (M.blk scope) tg = true ∧ notSet iter = true ∧ ifsOk c (M.blk scope) ifs = true ∧ mE elt (M.blk scope) x = true ∧ mI it M tg iter = true := by
  unfold mE at h
  simp only [Bool.and_eq_true, decide_eq_true_eq, List.all_eq_true] at h
  obtain ⟨h1, h2, h3, h4, h5, h6, h7, h8⟩ := h
  refine ⟨h1, h2, h3, h4, h5, ?_, h7, ?_⟩
  · cases ifs with
    | nil => exact h6
    | cons y r => cases r <;> exact h6
  · cases it <;> exact h8

theorem mI_of_mE {it : E} {M : MC} {tg iter : Expr} (h : mE it M iter = true) : mI it M tg iter = true := by
  cases it with
  | rng a => unfold mE at h; cases h
  | rng2 a b => unfold mE at h; cases h
  | enum a => unfold mE at h; cases h
  | zip a b => unfold mE at h; cases h
  | _ => exact h

/-! ### the context -/
structure Good (X : L2.Cx) (M : MC) (ca : Kn) (C : Ctx) (k : Nat) : Prop where
  hN : X.N = M.N
  nd : X.N.Nodup
  sc : X.env.scope = M.sc
  w : ∀ x, M.w.names.lookup x = some .cell → X.fn x = true
  calm : X.calm = true
  units : X.A.units + 70 < cLine
  guards : X.A.guards = some []
  room : Room (4 * k + 3) X.A
  mgn : ∀ x ∈ M.bl, X.mg x = none
  fns : ∀ x ∈ M.fs, ∃ f, X.mg x = some (.ref f) ∧ PySem.W.keepIn X.K (.ref f) = true ∧ FnY X.prog X.w X.K X.mg X.base ca C.call k x f
  cf : FldOk X ca C
  cp : PrpOk X ca C k
  cm : MthOk X ca C k
  ck : MkOk X ca C k
  con : ∀ x w, C.glob x = some w → ∃ u v, X.mg x = some u ∧ RelV v u ∧ ∀ T φ H, T.ca = ca → RV X.K T φ H w v
  hk : ca.hk = hkW X.w
section
variable {X : L2.Cx} {M : MC} {ca : Kn} {C : Ctx} {k : Nat}
theorem Good.hkT (G : Good X M ca C k) {T : Tab} (hT : T.ca = ca) : T.ca.hk = hkW X.w := by rw [hT]; exact G.hk
theorem Good.blk (G : Good X M ca C k) (scope : Scope) : Blk X scope fun B => Good B (M.blk scope) ca C k := fun s H Ca cl fp =>
  ⟨G.hN, G.nd, by show relS scope X.env.scope = relS scope M.sc; rw [G.sc], fun x h => by
    have h : scope.names.lookup x = some .cell := h
    show (scope.names.lookup x == some NameKind.cell) = true
    rw [h]; rfl, G.calm, G.units, G.guards, G.room, G.mgn, G.fns, G.cf, G.cp, G.cm, G.ck, G.con, G.hk⟩
theorem Good.gl (G : Good X M ca C k) {x : Str} (h : glB M.sc x = true) : Gl X x := by
  unfold glB at h
  split at h
  · show X.env.scope.names.lookup x = _
    rw [G.sc]
    assumption
  · cases h
theorem Good.bl (G : Good X M ca C k) {x : Str} (h : blB M x = true) : Gl X x ∧ X.mg x = none := by
  unfold blB at h
  simp only [Bool.and_eq_true, decide_eq_true_eq] at h
  exact ⟨G.gl h.1, G.mgn x h.2⟩
theorem Good.vis (G : Good X M ca C k) {x : Str} (h : visB M.sc x = true) : Vis X.env.scope x := by rw [G.sc]; exact vis_of h
theorem Good.st (G : Good X M ca C k) {x : Str} (h : stB M x = true) : Loc X.env.scope x ∧ (X.fn x = true ∨ X.env.scope.names.lookup x = some .local) := by
  unfold stB at h
  rw [G.sc]
  split at h
  · exact ⟨.inl (by assumption), .inr (by assumption)⟩
  · split at h
    · exact ⟨.inr (by assumption), .inl (G.w x (by assumption))⟩
    · cases h
  · cases h
mutual
theorem Good.tg (G : Good X M ca C k) (T : Tab) : ∀ (t : Tg) (e : Expr), mG t M e = true → PG X e (tG X.K T t)
  | .nm i, e, h => by
    unfold mG at h
    split at h
    · simp only [Bool.and_eq_true, decide_eq_true_eq] at h
      obtain ⟨s1, s2⟩ := G.st h.2
      exact dg_name G.nd (by rw [G.hN]; exact h.1) s1 s2
    · cases h
  | .tp t, e, h => by
    unfold mG at h
    split at h
    · obtain ⟨h1, h2, h3⟩ := Good.tgs G T t _ h
      exact dg_tup G.calm h1 h2 h3
    · cases h
  | .nil, e, h => by simp [mG] at h
  | .cons _ _, e, h => by simp [mG] at h
theorem Good.tgs (G : Good X M ca C k) (T : Tab) : ∀ (t : Tg) (es : List Expr), mGs t M es = true → PGs X es (tGs X.K T t) ∧ (assignEach es X.env).length = t.n ∧ (assignEach es X.env).findIdx? (·.1) = none
  | .nil, es, h => by
    unfold mGs at h
    split at h
    · exact ⟨dgs_nil, rfl, rfl⟩
    · cases h
  | .cons t r, es, h => by
    unfold mGs at h
    split at h
    · rename_i x xs
      simp only [Bool.and_eq_true] at h
      obtain ⟨i1, i2, i3⟩ := Good.tgs G T r xs h.2
      refine ⟨dgs_cons (Good.tg G T t x h.1.2) i1 (by rw [assignEach_of h.1.1] <;> rfl), ?_, ?_⟩
      · rw [assignEach_of h.1.1, List.length_cons, i2]; rfl
      · rw [assignEach_of h.1.1, List.findIdx?_cons, i3]; rfl
    · cases h
  | .nm _, es, h => by simp [mGs] at h
  | .tp _, es, h => by simp [mGs] at h
end
end
end Y
/-! Y11: what matches runs as Y says. -/
namespace Y
open PySem PySem.Spec PyProof.Rows L2

def isBool : Expr → Bool
  | .BoolOp _ _ _ => true
  | _ => false
def SndJ (C : Ctx) (ca : Kn) (k : Nat) (e' : E) : Prop := ∀ (X : L2.Cx) (M : MC) (T : Tab) (Wx : WX) (es : List Expr), Good X M ca C k → T.ca = ca → Takes X Wx → noStars es = true → mA e' M es = true → DJ X T Wx C es e'
theorem SndJ.none {C : Ctx} {ca : Kn} {k : Nat} {e' : E} (hm : ∀ M es, mA e' M es = false) : SndJ C ca k e' := fun _ M _ _ es _ _ _ _ z => by rw [hm] at z; cases z
structure Snd (C : Ctx) (ca : Kn) (k : Nat) (e' : E) : Prop where
  e : ∀ (X : L2.Cx) (M : MC) (T : Tab) (Wx : WX) (e : Expr), Good X M ca C k → T.ca = ca → Takes X Wx → mE e' M e = true → D X T Wx C e e'
  n : ∀ (X : L2.Cx) (M : MC) (T : Tab) (Wx : WX) (e : Expr), Good X M ca C k → T.ca = ca → Takes X Wx → canAny e' = true → mE e' M e = true → D X T Wx C e (newOf e')
  t : ∀ (X : L2.Cx) (M : MC) (T : Tab) (Wx : WX) (e : Expr), Good X M ca C k → T.ca = ca → Takes X Wx → mT e' M e = true → DT X T Wx C e e' ∧ (isBool e = true → DW X T Wx C e e')
  u : ∀ (X : L2.Cx) (M : MC) (T : Tab) (Wx : WX) (e : Expr) (pos : Pos), Good X M ca C k → T.ca = ca → Takes X Wx → mU e' M e = true → D X T Wx C (.UnaryOp .Not e pos) (.tnot e')
  a : ∀ (X : L2.Cx) (M : MC) (T : Tab) (Wx : WX) (es : List Expr), Good X M ca C k → T.ca = ca → Takes X Wx → mA e' M es = true → DA X T Wx C es e'
  kk : ∀ (X : L2.Cx) (M : MC) (T : Tab) (Wx : WX) (es : List Keyword), Good X M ca C k → T.ca = ca → Takes X Wx → mK e' M es = true → DK X T Wx C es e'
  i : ∀ (X : L2.Cx) (M : MC) (T : Tab) (Wx : WX) (tg e : Expr), Good X M ca C k → T.ca = ca → Takes X Wx → mI e' M tg e = true → DI X T Wx C tg e e'
  j : SndJ C ca k e' := by exact SndJ.none fun _ _ => rfl
section
variable {C : Ctx} {ca : Kn} {k : Nat} {e' : E}
/-- a plain expression -/
theorem Snd.plain (he : ∀ (X : L2.Cx) (M : MC) (T : Tab) (Wx : WX) (e : Expr), Good X M ca C k → T.ca = ca → Takes X Wx → mE e' M e = true → D X T Wx C e e')
    (hn : canAny e' = false) (ht : ∀ M e, mT e' M e = false) (hu : ∀ M e, mU e' M e = false) (ha : ∀ M es, mA e' M es = false) (hk : ∀ M es, mK e' M es = false) (hi : ∀ M tg iter, mI e' M tg iter = mE e' M iter) : Snd C ca k e' :=
  ⟨he, fun _ _ _ _ _ _ _ _ z => (by rw [hn] at z; cases z), fun _ M _ _ e _ _ _ z => (by rw [ht] at z; cases z), fun _ M _ _ e _ _ _ _ z => (by rw [hu] at z; cases z), fun _ M _ _ es _ _ _ z => (by rw [ha] at z; cases z), fun _ M _ _ es _ _ _ z => (by rw [hk] at z; cases z),
    fun X M T Wx tg e G hT tk z => (by rw [hi] at z; exact di_seq (he X M T Wx e G hT tk z)), .none ha⟩
/-- nothing matches, but .. -/
theorem Snd.none_e (hm : ∀ M e, mE e' M e = false) : ∀ (X : L2.Cx) (M : MC) (T : Tab) (Wx : WX) (e : Expr), Good X M ca C k → T.ca = ca → Takes X Wx → mE e' M e = true → D X T Wx C e e' :=
  fun _ M _ _ e _ _ _ z => by rw [hm] at z; cases z
theorem Snd.none_n (hm : canAny e' = false) : ∀ (X : L2.Cx) (M : MC) (T : Tab) (Wx : WX) (e : Expr), Good X M ca C k → T.ca = ca → Takes X Wx → canAny e' = true → mE e' M e = true → D X T Wx C e (newOf e') :=
  fun _ M _ _ e _ _ _ z => by rw [hm] at z; cases z
theorem Snd.none_t (hm : ∀ M e, mT e' M e = false) : ∀ (X : L2.Cx) (M : MC) (T : Tab) (Wx : WX) (e : Expr), Good X M ca C k → T.ca = ca → Takes X Wx → mT e' M e = true → DT X T Wx C e e' ∧ (isBool e = true → DW X T Wx C e e') :=
  fun _ M _ _ e _ _ _ z => by rw [hm] at z; cases z
theorem Snd.none_u (hm : ∀ M e, mU e' M e = false) : ∀ (X : L2.Cx) (M : MC) (T : Tab) (Wx : WX) (e : Expr) (pos : Pos), Good X M ca C k → T.ca = ca → Takes X Wx → mU e' M e = true → D X T Wx C (.UnaryOp .Not e pos) (.tnot e') :=
  fun _ M _ _ e _ _ _ _ z => by rw [hm] at z; cases z
theorem Snd.none_a (hm : ∀ M e, mA e' M e = false) : ∀ (X : L2.Cx) (M : MC) (T : Tab) (Wx : WX) (es : List Expr), Good X M ca C k → T.ca = ca → Takes X Wx → mA e' M es = true → DA X T Wx C es e' :=
  fun _ M _ _ e _ _ _ z => by rw [hm] at z; cases z
theorem Snd.none_k (hm : ∀ M e, mK e' M e = false) : ∀ (X : L2.Cx) (M : MC) (T : Tab) (Wx : WX) (es : List Keyword), Good X M ca C k → T.ca = ca → Takes X Wx → mK e' M es = true → DK X T Wx C es e' :=
  fun _ M _ _ e _ _ _ z => by rw [hm] at z; cases z
theorem Snd.seq (he : ∀ (X : L2.Cx) (M : MC) (T : Tab) (Wx : WX) (e : Expr), Good X M ca C k → T.ca = ca → Takes X Wx → mE e' M e = true → D X T Wx C e e') (hi : ∀ M tg iter, mI e' M tg iter = mE e' M iter) :
    ∀ (X : L2.Cx) (M : MC) (T : Tab) (Wx : WX) (tg e : Expr), Good X M ca C k → T.ca = ca → Takes X Wx → mI e' M tg e = true → DI X T Wx C tg e e' :=
  fun X M T Wx tg e G hT tk z => by rw [hi] at z; exact di_seq (he X M T Wx e G hT tk z)
theorem Good.ix {X : L2.Cx} {M : MC} (G : Good X M ca C k) {i : Nat} {x : Str} (h : M.N[i]? = some x) : X.N[i]? = some x := by rw [G.hN]; exact h
theorem ownN_snd (N : List Str) : ∀ own : List Nat, (ownN N own).map (·.2) = own
  | [] => rfl
  | i :: r => by
    have := ownN_snd N r
    simp only [ownN, List.map_cons, List.cons.injEq, true_and] at this ⊢
    exact this
theorem takesN {X : L2.Cx} : Takes X Wn := fun _ _ x => by
  obtain ⟨_, _, _, _, _, _, _, _, _, _, _, _, _, _, _, _, z⟩ := x
  exact z.elim
theorem isTrueE_ok {c : E} (h : isTrueE c = true) : c = .bl true := by
  unfold isTrueE at h
  split at h
  · rfl
  · cases h
theorem optP_ok {z : E} (h : isNonE z = false) (w : W) : optP z w = (match w with | .int i => some (some i) | _ => none) := by
  cases z with
  | non => cases h
  | _ => cases w <;> rfl
/-- a comprehension's parts -/
theorem Snd.cm {elt it c : E} {t : Tg} {own : List Nat} (se : Snd C ca k elt) (si : Snd C ca k it) (sc : Snd C ca k c) {X : L2.Cx} {M : MC} {T : Tab} {Wx : WX} {e : Expr} (G : Good X M ca C k) (hT : T.ca = ca) (tk : Takes X Wx) (h : mE (.cm elt t it c own) M e = true) :
    ∃ (x tg iter : Expr) (ifs : List Expr) (scope : Scope) (pos : Pos) (ow : List (Str × Nat)), e = .ListComp x [⟨tg, iter, ifs, 0⟩] scope pos ∧ ow.map (·.2) = own ∧ DI X T Wx C tg iter it ∧ BlkOk X.N X.env.scope scope ow ∧ (∀ i ∈ t.vs, i ∈ ow.map (·.2)) ∧
      (∀ T' : Tab, T'.ca = T.ca → Blk X scope fun B => PG B tg (tG X.K T' t)) ∧ (∀ T' : Tab, T'.ca = T.ca → Blk X scope fun B => PTs B ifs (tT X.K T' Wn (evalE C c))) ∧ (∀ T' : Tab, T'.ca = T.ca → Blk X scope fun B => D B T' Wn C x elt) ∧ ∀ x, foldedSetIterable iter X.env x = pure x := by
  have h0 := h
  unfold mE at h0
  split at h0
  · rename_i x tg iter ifs kk scope pos
    obtain ⟨rfl, h2, h3, h4, h5, h6, h7, h8⟩ := mE_cm h
    refine ⟨x, tg, iter, ifs, scope, pos, ownN M.N own, rfl, ownN_snd _ _, si.i X M T Wx tg iter G hT tk h8, ?_, ?_, ?_, ?_, ?_, notSet_ok h5⟩
    · rw [G.hN, G.sc]; exact blkOk_by h2
    · rw [ownN_snd]; exact h3
    · intro T' e s H Ca cl fp
      exact (G.blk scope s H Ca cl fp).tg T' t tg h4
    · intro T' e s H Ca cl fp
      have GB := G.blk scope s H Ca cl fp
      cases ifs with
      | nil =>
        have hc : c = .bl true := isTrueE_ok h6
        subst hc
        refine ⟨fun pins s σ H Q I ⟨φ, σb, h, s', rl, p⟩ => pts_nil.run pins s σ H Q I ?_⟩
        simp only [evalE] at p
        obtain ⟨b, e, q⟩ := p φ _ H .refl rl (.mk_bl true)
        cases e
        exact q
      | cons y r =>
        cases r with
        | nil => exact pts_one ((sc.t _ _ T' Wn y GB (e.trans hT) takesN h6).1)
        | cons _ _ => exact (Bool.false_ne_true h6).elim
    · intro T' e s H Ca cl fp
      exact se.e _ _ T' Wn x (G.blk scope s H Ca cl fp) (e.trans hT) takesN h7
  · cases h0
theorem any_of_not {env : Env} {pos : Pos} : ∀ {es : List Expr}, noStars es = false → (backTo pos (starEach es env)).any (·.1) = true
  | [], h => by simp [noStars] at h
  | e :: es, h => by
    by_cases q : notStar e = true
    · rw [starEach_of q]
      have h' : noStars es = false := by simpa [noStars, q] using h
      have i := any_of_not (env := env) (pos := pos) h'
      simp only [backTo, List.map_cons, List.any_cons, Bool.false_or] at i ⊢
      exact i
    · cases e with
      | Starred x p => rfl
      | _ => exact absurd rfl q
theorem biN_in (f : Bi) : True := trivial

theorem mA_nil {es : E} {M : MC} (h : mA es M [] = true) : es = .nil := by
  cases es <;> first | rfl | (simp [mA] at h)
theorem mK_nil {es : E} {M : MC} (h : mK es M [] = true) : es = .nil := by
  cases es <;> first | rfl | (simp [mK] at h)
theorem mI_rng {a : E} {M : MC} {tg iter : Expr} : mI (.rng a) M tg iter = (match blt1 M "range" iter with | some y => mE a M y | none => false) := rfl
theorem mI_rng2 {a b : E} {M : MC} {tg iter : Expr} : mI (.rng2 a b) M tg iter = (match blt2 M "range" iter with | some (y, z) => mE a M y && mE b M z | none => false) := rfl
theorem mI_enum {a : E} {M : MC} {tg iter : Expr} : mI (.enum a) M tg iter = (isTup tg && (match blt1 M "enumerate" iter with | some y => mE a M y | none => false)) := rfl
theorem mI_zip {a b : E} {M : MC} {tg iter : Expr} : mI (.zip a b) M tg iter = (isTup tg && (match blt2 M "zip" iter with | some (y, z) => mE a M y && mE b M z | none => false)) := rfl
theorem d_stop {X : L2.Cx} {T : Tab} {Wx : WX} {e : Expr} : D X T Wx C e .stop := ⟨fun pins s σ H Q I ⟨φ, σb, h, s', rl, p⟩ => by simp only [evalE] at p; exact p.elim⟩
/-- the parts of a comprehension's clauses -/
theorem ifO_ok {ifs : List Expr} {z : Option Expr} (h : ifO ifs = some z) : ifs = (match z with | none => [] | some y => [y]) := by
  unfold ifO at h
  split at h
  · cases h; rfl
  · cases h; rfl
  · cases h
theorem Snd.tests {c : E} (sc : Snd C ca k c) {X : L2.Cx} {M : MC} {T' : Tab} {ifs : List Expr} {z : Option Expr} (G : Good X M ca C k) (hT : T'.ca = ca) (hz : ifO ifs = some z) (h : tst z c M (mT c) = true) : PTs X ifs (tT X.K T' Wn (evalE C c)) := by
  rw [ifO_ok hz]
  cases z with
  | none =>
    have hc : c = .bl true := isTrueE_ok h
    subst hc
    refine ⟨fun pins s σ H Q I ⟨φ, σb, h, s', rl, p⟩ => pts_nil.run pins s σ H Q I ?_⟩
    simp only [evalE] at p
    obtain ⟨b, e, q⟩ := p φ _ H .refl rl (.mk_bl true)
    cases e
    exact q
  | some y => exact pts_one ((sc.t _ _ T' Wn y G hT takesN h).1)
theorem cl1_inv {M : MC} {own : List Nat} {t : Tg} {e : Expr} {p : Cl} (h : cl1 M own t e = some p) : ∃ tg ifs pos, e = .DictComp p.x p.y [⟨tg, p.iter, ifs, 0⟩] p.scope pos ∧ ifO ifs = some p.z ∧ blkC M.N M.sc p.scope (ownN M.N own) = true ∧ (∀ i ∈ t.vs, i ∈ own) ∧ mG t (M.blk p.scope) tg = true ∧ notSet p.iter = true := by
  unfold cl1 at h
  split at h
  · split at h
    · rename_i hz
      split at h
      · rename_i c
        simp only [Bool.and_eq_true, decide_eq_true_eq, List.all_eq_true] at c
        obtain ⟨rfl, c2, c3, c4, c5⟩ := c
        cases h
        exact ⟨_, _, _, rfl, hz, c2, c3, c4, c5⟩
      · cases h
    · cases h
  · cases h
theorem cl2_inv {M : MC} {own own1 : List Nat} {t t1 : Tg} {e : Expr} {p : Cl} (h : cl2 M own own1 t t1 e = some p) : ∃ tg ifs tg1 ifs1 pos, e = (if p.dct = true then .DictComp p.x p.y [⟨tg, p.iter, ifs, 0⟩, ⟨tg1, p.iter1, ifs1, 0⟩] p.scope pos else .ListComp p.x [⟨tg, p.iter, ifs, 0⟩, ⟨tg1, p.iter1, ifs1, 0⟩] p.scope pos) ∧
    (ifO ifs = some p.z ∧ blkC M.N M.sc p.scope (ownN M.N own) = true ∧ (∀ i ∈ t.vs, i ∈ own) ∧ mG t (M.blk p.scope) tg = true ∧ notSet p.iter = true) ∧ ifO ifs1 = some p.z1 ∧ (∀ i ∈ own1, i ∈ own) ∧ (∀ i ∈ t1.vs, i ∈ own1) ∧ mG t1 (M.blk p.scope) tg1 = true ∧ notSet p.iter1 = true := by
  unfold cl2 at h
  split at h
  · split at h
    · rename_i hz hz1
      split at h
      · rename_i c
        simp only [Bool.and_eq_true, decide_eq_true_eq, List.all_eq_true] at c
        obtain ⟨⟨rfl, c2, c3, c4, c5⟩, rfl, d2, d3, d4, d5⟩ := c
        cases h
        exact ⟨_, _, _, _, _, rfl, ⟨hz, c2, c3, c4, c5⟩, hz1, d2, d3, d4, d5⟩
      · cases h
    · cases h
  · split at h
    · rename_i hz hz1
      split at h
      · rename_i c
        simp only [Bool.and_eq_true, decide_eq_true_eq, List.all_eq_true] at c
        obtain ⟨⟨rfl, c2, c3, c4, c5⟩, rfl, d2, d3, d4, d5⟩ := c
        cases h
        exact ⟨_, _, _, _, _, rfl, ⟨hz, c2, c3, c4, c5⟩, hz1, d2, d3, d4, d5⟩
      · cases h
    · cases h
  · cases h
section
variable {X : L2.Cx} {M : MC} {T : Tab} {Wx : WX}
theorem Snd.parts {it c : E} {t : Tg} {own : List Nat} {tg iter : Expr} {ifs : List Expr} {z : Option Expr} {scope : Scope} (si : Snd C ca k it) (sc : Snd C ca k c) (G : Good X M ca C k) (hT : T.ca = ca) (tk : Takes X Wx) (c1 : ifO ifs = some z) (c2 : blkC M.N M.sc scope (ownN M.N own) = true) (c3 : ∀ i ∈ t.vs, i ∈ own) (c4 : mG t (M.blk scope) tg = true) (c5 : notSet iter = true)
    (h1 : tst z c (M.blk scope) (mT c) = true) (h2 : mE it M iter = true) : Parts X T Wx C tg iter ifs scope (ownN M.N own) t it c where
  hc := G.calm
  hN := G.nd
  hu := G.units
  hk := G.hkT hT
  hi := si.i _ _ _ _ _ _ G hT tk (mI_of_mE h2)
  ok := by rw [G.hN, G.sc]; exact blkOk_by c2
  ho := by rw [ownN_snd]; exact c3
  hg := fun T' e s H Ca cl fp => (G.blk scope s H Ca cl fp).tg T' t tg c4
  ht := fun T' e s H Ca cl fp => sc.tests (G.blk scope s H Ca cl fp) (e.trans hT) c1 h1
  hs := notSet_ok c5
theorem Snd.parts1 {it c : E} {t : Tg} {own own1 : List Nat} {tg iter : Expr} {ifs : List Expr} {z : Option Expr} {scope : Scope} (si : Snd C ca k it) (sc : Snd C ca k c) (G : Good X M ca C k) (hT : T.ca = ca) (c1 : ifO ifs = some z) (c2 : ∀ i ∈ own1, i ∈ own) (c3 : ∀ i ∈ t.vs, i ∈ own1) (c4 : mG t (M.blk scope) tg = true) (c5 : notSet iter = true)
    (h1 : tst z c (M.blk scope) (mT c) = true) (h2 : mE it (M.blk scope) iter = true) : Parts1 X T C tg iter ifs scope (ownN M.N own) own1 t it c where
  hi := fun T' e s H Ca cl fp => si.i _ _ T' Wn tg iter (G.blk scope s H Ca cl fp) (e.trans hT) takesN (mI_of_mE h2)
  ho := c3
  hov := by rw [ownN_snd]; exact c2
  hg := fun T' e s H Ca cl fp => (G.blk scope s H Ca cl fp).tg T' t tg c4
  ht := fun T' e s H Ca cl fp => sc.tests (G.blk scope s H Ca cl fp) (e.trans hT) c1 h1
  hs := fun env x => notSet_ok c5 x
theorem Snd.blkE {e' : E} (se : Snd C ca k e') (G : Good X M ca C k) (hT : T.ca = ca) {scope : Scope} {e : Expr} (h : mE e' (M.blk scope) e = true) : ∀ T' : Tab, T'.ca = T.ca → Blk X scope fun B => D B T' Wn C e e' :=
  fun T' e2 s H Ca cl fp => se.e _ _ T' Wn e (G.blk scope s H Ca cl fp) (e2.trans hT) takesN h
/-- the three kinds -/
theorem Snd.cmd {kx vx it c : E} {t : Tg} {own : List Nat} {e : Expr} (sk : Snd C ca k kx) (sv : Snd C ca k vx) (si : Snd C ca k it) (sc : Snd C ca k c) (G : Good X M ca C k) (hT : T.ca = ca) (tk : Takes X Wx) (h : mE (.cmd kx vx t it c own) M e = true) :
    ∃ (iter : Expr) (scope : Scope) (ow : List (Str × Nat)), ow.map (·.2) = own ∧ (∀ i ∈ t.vs, i ∈ ow.map (·.2)) ∧ Core X e iter scope newDict (tComp X T Wx C (mkD X.K) t it c (ow.map (·.2)) fun T' D => sinkD X.K T' D (evalE C kx) (evalE C vx)) ∧
      (∃ p, eval e X.env = comprehension e scope X.env p newDict false (eval iter X.env)) ∧ (∃ p, ∀ u, evalThenUse e X.env u = (do let _ ← comprehension e scope X.env p newDict false (eval iter X.env) (some u))) := by
  unfold mE at h
  split at h
  · rename_i p hp
    simp only [Bool.and_eq_true] at h
    obtain ⟨h1, h2, h3, h4⟩ := h
    obtain ⟨tg, ifs, pos, rfl, c1, c2, c3, c4, c5⟩ := cl1_inv hp
    have P := Snd.parts (T := T) (Wx := Wx) si sc G hT tk c1 c2 c3 c4 c5 h1 h2
    exact ⟨p.iter, p.scope, ownN M.N own, ownN_snd _ _, P.ho, core_d1 P (sk.blkE G hT h3) (sv.blkE G hT h4), ⟨_, arm_eval_DictComp _ _ _ _ _ _⟩, ⟨_, fun u => rfl⟩⟩
  · cases h
theorem Snd.cmd2 {kx vx it c it1 c1 : E} {t t1 : Tg} {own own1 : List Nat} {e : Expr} (sk : Snd C ca k kx) (sv : Snd C ca k vx) (si : Snd C ca k it) (sc : Snd C ca k c) (si1 : Snd C ca k it1) (sc1 : Snd C ca k c1) (G : Good X M ca C k) (hT : T.ca = ca) (tk : Takes X Wx) (h : mE (.cmd2 kx vx t it c t1 it1 c1 own own1) M e = true) :
    ∃ (iter : Expr) (scope : Scope) (ow : List (Str × Nat)), ow.map (·.2) = own ∧ (∀ i ∈ t.vs, i ∈ ow.map (·.2)) ∧ (∀ i ∈ t1.vs, i ∈ own1) ∧ Core X e iter scope newDict (tComp X T Wx C (mkD X.K) t it c (ow.map (·.2)) fun T' D => tb2 X.K T' C t1 it1 c1 own1 (sinkD X.K T' D (evalE C kx) (evalE C vx))) ∧
      (∃ p, eval e X.env = comprehension e scope X.env p newDict false (eval iter X.env)) ∧ (∃ p, ∀ u, evalThenUse e X.env u = (do let _ ← comprehension e scope X.env p newDict false (eval iter X.env) (some u))) := by
  unfold mE at h
  split at h
  · rename_i p hp
    simp only [Bool.and_eq_true] at h
    obtain ⟨h0, h1, h2, h3, h4, h5, h6⟩ := h
    obtain ⟨tg, ifs, tg1, ifs1, pos, e1, ⟨c1, c2, c3, c4, c5⟩, d1, d2, d3, d4, d5⟩ := cl2_inv hp
    rw [if_pos h0] at e1
    subst e1
    have P := Snd.parts (T := T) (Wx := Wx) si sc G hT tk c1 c2 c3 c4 c5 h1 h2
    have P1 := Snd.parts1 (T := T) si1 sc1 G hT d1 d2 d3 d4 d5 h3 h4
    exact ⟨p.iter, p.scope, ownN M.N own, ownN_snd _ _, P.ho, d3, core_d2 P P1 (sk.blkE G hT h5) (sv.blkE G hT h6), ⟨_, arm_eval_DictComp _ _ _ _ _ _⟩, ⟨_, fun u => rfl⟩⟩
  · cases h
theorem Snd.cm2 {elt it c it1 c1 : E} {t t1 : Tg} {own own1 : List Nat} {e : Expr} (se : Snd C ca k elt) (si : Snd C ca k it) (sc : Snd C ca k c) (si1 : Snd C ca k it1) (sc1 : Snd C ca k c1) (G : Good X M ca C k) (hT : T.ca = ca) (tk : Takes X Wx) (h : mE (.cm2 elt t it c t1 it1 c1 own own1) M e = true) :
    ∃ (iter : Expr) (scope : Scope) (ow : List (Str × Nat)), ow.map (·.2) = own ∧ (∀ i ∈ t.vs, i ∈ ow.map (·.2)) ∧ (∀ i ∈ t1.vs, i ∈ own1) ∧ Core X e iter scope (newList []) (tComp X T Wx C (mkL X.K) t it c (ow.map (·.2)) fun T' D => tb2 X.K T' C t1 it1 c1 own1 (sinkL X.K T' D (evalE C elt))) ∧
      (∃ p, eval e X.env = comprehension e scope X.env p (newList []) false (eval iter X.env)) ∧ (∃ p, ∀ u, evalThenUse e X.env u = (do let _ ← comprehension e scope X.env p (newList []) false (eval iter X.env) (some u))) := by
  unfold mE at h
  split at h
  · rename_i p hp
    simp only [Bool.and_eq_true, Bool.not_eq_true'] at h
    obtain ⟨h0, h1, h2, h3, h4, h5⟩ := h
    obtain ⟨tg, ifs, tg1, ifs1, pos, e1, ⟨c1, c2, c3, c4, c5⟩, d1, d2, d3, d4, d5⟩ := cl2_inv hp
    rw [if_neg (by rw [h0]; exact Bool.false_ne_true)] at e1
    subst e1
    have P := Snd.parts (T := T) (Wx := Wx) si sc G hT tk c1 c2 c3 c4 c5 h1 h2
    have P1 := Snd.parts1 (T := T) si1 sc1 G hT d1 d2 d3 d4 d5 h3 h4
    exact ⟨p.iter, p.scope, ownN M.N own, ownN_snd _ _, P.ho, d3, core_l2 P P1 (se.blkE G hT h5), ⟨_, eval_ListComp _ _ _ _⟩, ⟨_, fun u => rfl⟩⟩
  · cases h
end
theorem tyNs_len : ∀ {ts : List Str} {ns : List String}, tyNs ts = some ns → ns.length = ts.length
  | [], ns, h => by cases h; rfl
  | t :: ts, ns, h => by
    simp only [tyNs] at h
    split at h
    · rename_i n ns' _ e2
      cases h
      simp [tyNs_len e2]
    · cases h
theorem canNew_D {e : E} (h : canNew e = true) : canNewD e = false := by
  cases e <;> first | rfl | cases h
theorem sound (C : Ctx) (ca : Kn) (k : Nat) (e' : E) : Snd C ca k e' := by
  induction e' with
  | stop =>
    refine ⟨fun X M T Wx e G hT tk h => d_stop, Snd.none_n rfl, fun X M T Wx e G hT tk h => ⟨⟨fun pins s σ H Q I ⟨φ, σb, h, s', rl, p⟩ => by simp only [evalE] at p; exact p.elim⟩, fun z => ⟨fun wh pins s σ H Q I ⟨φ, σb, h, s', rl, p⟩ => by simp only [evalE] at p; exact p.elim⟩⟩, Snd.none_u (fun _ _ => rfl), Snd.none_a (fun _ _ => rfl), Snd.none_k (fun _ _ => rfl),
      Snd.seq (fun X M T Wx e G hT tk h => d_stop) (fun _ _ _ => rfl), .none fun _ _ => rfl⟩
  | un o a ia =>
    cases o with
    | att f =>
      refine .plain (fun X M T Wx e G hT tk h => ?_) rfl (fun _ _ => rfl) (fun _ _ => rfl) (fun _ _ => rfl) (fun _ _ => rfl) (fun _ _ _ => rfl)
      unfold mE at h
      split at h
      · simp only [Bool.and_eq_true, decide_eq_true_eq] at h
        obtain ⟨rfl, h1, h2⟩ := h
        exact d_att hT (G.room.mono (by omega)) G.guards G.cf G.cp (ia.e _ _ _ _ _ G hT tk h2) h1
      · cases h
    | frz =>
      refine .plain (fun X M T Wx e G hT tk h => ?_) rfl (fun _ _ => rfl) (fun _ _ => rfl) (fun _ _ => rfl) (fun _ _ => rfl) (fun _ _ _ => rfl)
      unfold mE at h
      exact d_frz (ia.e _ _ _ _ _ G hT tk h)
  | mc o a es ks kes ia ies ikes =>
    cases o with
    | meth m =>
      refine .plain (fun X M T Wx e G hT tk h => ?_) rfl (fun _ _ => rfl) (fun _ _ => rfl) (fun _ _ => rfl) (fun _ _ => rfl) (fun _ _ _ => rfl)
      unfold mE at h
      split at h
      · simp only [Bool.and_eq_true, decide_eq_true_eq] at h
        obtain ⟨⟨rfl, ⟨h1, h2⟩, h3, h4⟩, h5, h6, h7, h8⟩ := h
        exact d_meth hT (G.room.mono (by omega)) G.guards tk G.cm (ia.e _ _ _ _ _ G hT tk h6) (ies.a _ _ _ _ _ G hT tk h7) (ikes.kk _ _ _ _ _ G hT tk h8) h1 h3 h5 (fun z => by subst z; exact mA_nil h7) (fun z => by subst z; exact mK_nil h8) h4 h2
      · cases h
    | mk c =>
      refine .plain (fun X M T Wx e G hT tk h => ?_) rfl (fun _ _ => rfl) (fun _ _ => rfl) (fun _ _ => rfl) (fun _ _ => rfl) (fun _ _ _ => rfl)
      unfold mE at h
      split at h
      · simp only [Bool.and_eq_true, decide_eq_true_eq] at h
        obtain ⟨⟨rfl, ⟨h1, h2⟩, h3⟩, h5, h7, h8⟩ := h
        exact d_mk hT (G.room.mono (by omega)) G.guards tk G.ck (G.gl h1) (ies.a _ _ _ _ _ G hT tk h7) (ikes.kk _ _ _ _ _ G hT tk h8) h3 h5 (fun z => by subst z; exact mA_nil h7) (fun z => by subst z; exact mK_nil h8) (dbg_of h2)
      · cases h
    | obj => exact .plain (fun X M T Wx e G hT tk h => by simp [mE] at h) rfl (fun _ _ => rfl) (fun _ _ => rfl) (fun _ _ => rfl) (fun _ _ => rfl) (fun _ _ _ => rfl)
  | slot i =>
    refine .plain (fun X M T Wx e G hT tk h => ?_) rfl (fun _ _ => rfl) (fun _ _ => rfl) (fun _ _ => rfl) (fun _ _ => rfl) (fun _ _ _ => rfl)
    unfold mE at h
    split at h
    · simp only [Bool.and_eq_true, decide_eq_true_eq] at h
      exact d_slot (G.ix h.1) (G.vis h.2.1) (dbg_of h.2.2.1) (ncd_of h.2.2.2)
    · cases h
  | non =>
    refine .plain (fun X M T Wx e G hT tk h => ?_) rfl (fun _ _ => rfl) (fun _ _ => rfl) (fun _ _ => rfl) (fun _ _ => rfl) (fun _ _ _ => rfl)
    unfold mE at h
    split at h
    · exact d_non
    · cases h
  | bl b =>
    have he : ∀ (X : L2.Cx) (M : MC) (T : Tab) (Wx : WX) (e : Expr), Good X M ca C k → T.ca = ca → Takes X Wx → mE (.bl b) M e = true → D X T Wx C e (.bl b) := fun X M T Wx e G hT tk h => by
      unfold mE at h
      split at h
      · cases of_decide_eq_true h
        exact d_bl
      · cases h
    refine ⟨he, Snd.none_n rfl, fun X M T Wx e G hT tk h => ?_, Snd.none_u (fun _ _ => rfl), Snd.none_a (fun _ _ => rfl), Snd.none_k (fun _ _ => rfl), Snd.seq he (fun _ _ _ => rfl), .none fun _ _ => rfl⟩
    unfold mT at h
    split at h
    · cases of_decide_eq_true h
      exact ⟨dt_val d_bl rfl, fun z => nomatch z⟩
    · cases h
  | int i =>
    refine .plain (fun X M T Wx e G hT tk h => ?_) rfl (fun _ _ => rfl) (fun _ _ => rfl) (fun _ _ => rfl) (fun _ _ => rfl) (fun _ _ _ => rfl)
    unfold mE at h
    split at h
    · cases of_decide_eq_true h
      exact d_int
    · cases h
  | str s =>
    refine .plain (fun X M T Wx e G hT tk h => ?_) rfl (fun _ _ => rfl) (fun _ _ => rfl) (fun _ _ => rfl) (fun _ _ => rfl) (fun _ _ _ => rfl)
    unfold mE at h
    split at h
    · cases of_decide_eq_true h
      exact d_str
    · cases h
  | glob x =>
    refine .plain (fun X M T Wx e G hT tk h => ?_) rfl (fun _ _ => rfl) (fun _ _ => rfl) (fun _ _ => rfl) (fun _ _ => rfl) (fun _ _ _ => rfl)
    unfold mE at h
    split at h
    · rename_i y p
      simp only [Bool.and_eq_true, decide_eq_true_eq] at h
      obtain ⟨rfl, h2, h3⟩ := h
      cases q : C.glob y with
      | none => exact ⟨fun pins s σ H Q I ⟨φ, σb, h, s', rl, p⟩ => by simp only [evalE, q, R.ofO] at p; exact p.elim⟩
      | some w =>
        obtain ⟨u, v, e1, e2, e3⟩ := G.con y w q
        refine (pe_glob (G.gl h2) e1 e2 (dbg_of h3)).weak fun σ H Q ⟨φ, σb, h, s', rl, p⟩ => ?_
        simp only [evalE, q, R.ofO] at p
        exact p φ v H .refl rl (e3 T φ H hT)
    · cases h
  | bin op a b ia ib =>
    have he : ∀ (X : L2.Cx) (M : MC) (T : Tab) (Wx : WX) (e : Expr), Good X M ca C k → T.ca = ca → Takes X Wx → mE (.bin op a b) M e = true → D X T Wx C e (.bin op a b) ∧ D X T Wx C e (.new (.bin op a b)) := fun X M T Wx e G hT tk h => by
      unfold mE at h
      split at h
      · simp only [Bool.and_eq_true, decide_eq_true_eq] at h
        obtain ⟨rfl, h2, h3⟩ := h
        exact ⟨d_bin (ia.e _ _ _ _ _ G hT tk h2) (ib.e _ _ _ _ _ G hT tk h3), d_newbin (ia.e _ _ _ _ _ G hT tk h2) (ib.e _ _ _ _ _ G hT tk h3)⟩
      · cases h
    exact ⟨fun X M T Wx e G hT tk h => (he X M T Wx e G hT tk h).1, fun X M T Wx e G hT tk _ h => (he X M T Wx e G hT tk h).2, Snd.none_t (fun _ _ => rfl), Snd.none_u (fun _ _ => rfl), Snd.none_a (fun _ _ => rfl), Snd.none_k (fun _ _ => rfl), Snd.seq (fun X M T Wx e G hT tk h => (he X M T Wx e G hT tk h).1) (fun _ _ _ => rfl), .none fun _ _ => rfl⟩
  | neg a ia =>
    refine .plain (fun X M T Wx e G hT tk h => ?_) rfl (fun _ _ => rfl) (fun _ _ => rfl) (fun _ _ => rfl) (fun _ _ => rfl) (fun _ _ _ => rfl)
    unfold mE at h
    split at h
    · exact d_neg (ia.e _ _ _ _ _ G hT tk h)
    · cases h
  | cmp op a b ia ib =>
    have he : ∀ (X : L2.Cx) (M : MC) (T : Tab) (Wx : WX) (e : Expr), Good X M ca C k → T.ca = ca → Takes X Wx → mE (.cmp op a b) M e = true → D X T Wx C e (.cmp op a b) ∧ (DT X T Wx C e (.cmp op a b) ∧ (isBool e = true → DW X T Wx C e (.cmp op a b))) := fun X M T Wx e G hT tk h => by
      unfold mE at h
      split at h
      · simp only [Bool.and_eq_true, decide_eq_true_eq, Bool.not_eq_true'] at h
        obtain ⟨rfl, h1, h2, h3⟩ := h
        exact ⟨d_cmp G.units (G.hkT hT) (ia.e _ _ _ _ _ G hT tk h2) (ib.e _ _ _ _ _ G hT tk h3) h1, dt_cmp G.units (G.hkT hT) (ia.e _ _ _ _ _ G hT tk h2) (ib.e _ _ _ _ _ G hT tk h3) h1, fun z => nomatch z⟩
      · cases h
    refine ⟨fun X M T Wx e G hT tk h => (he X M T Wx e G hT tk h).1, Snd.none_n rfl, fun X M T Wx e G hT tk h => (he X M T Wx e G hT tk h).2, Snd.none_u (fun _ _ => rfl), Snd.none_a (fun _ _ => rfl), Snd.none_k (fun _ _ => rfl), Snd.seq (fun X M T Wx e G hT tk h => (he X M T Wx e G hT tk h).1) (fun _ _ _ => rfl), .none fun _ _ => rfl⟩
  | chn o1 o2 a b c ia ib ic =>
    have he : ∀ (X : L2.Cx) (M : MC) (T : Tab) (Wx : WX) (e : Expr), Good X M ca C k → T.ca = ca → Takes X Wx → mE (.chn o1 o2 a b c) M e = true → D X T Wx C e (.chn o1 o2 a b c) ∧ (DT X T Wx C e (.chn o1 o2 a b c) ∧ (isBool e = true → DW X T Wx C e (.chn o1 o2 a b c))) := fun X M T Wx e G hT tk h => by
      unfold mE at h
      split at h
      · simp only [Bool.and_eq_true, decide_eq_true_eq, Bool.not_eq_true'] at h
        obtain ⟨⟨rfl, rfl⟩, h1, h2, h3, h4⟩ := h
        exact ⟨d_chn G.units (G.hkT hT) (ia.e _ _ _ _ _ G hT tk h2) (ib.e _ _ _ _ _ G hT tk h3) (ic.e _ _ _ _ _ G hT tk h4) h1, dt_chn G.units (G.hkT hT) (ia.e _ _ _ _ _ G hT tk h2) (ib.e _ _ _ _ _ G hT tk h3) (ic.e _ _ _ _ _ G hT tk h4) h1, fun z => nomatch z⟩
      · cases h
    refine ⟨fun X M T Wx e G hT tk h => (he X M T Wx e G hT tk h).1, Snd.none_n rfl, fun X M T Wx e G hT tk h => (he X M T Wx e G hT tk h).2, Snd.none_u (fun _ _ => rfl), Snd.none_a (fun _ _ => rfl), Snd.none_k (fun _ _ => rfl), Snd.seq (fun X M T Wx e G hT tk h => (he X M T Wx e G hT tk h).1) (fun _ _ _ => rfl), .none fun _ _ => rfl⟩
  | and a b ia ib =>
    refine .plain (fun X M T Wx e G hT tk h => ?_) rfl (fun _ _ => rfl) (fun _ _ => rfl) (fun _ _ => rfl) (fun _ _ => rfl) (fun _ _ _ => rfl)
    unfold mE at h
    split at h
    · rename_i x y r p
      simp only [Bool.and_eq_true] at h
      refine d_and (ia.e _ _ _ _ _ G hT tk h.1) ?_
      cases r with
      | nil => exact pe_one (ib.e _ _ _ _ _ G hT tk h.2)
      | cons z r => exact ib.e _ _ _ _ _ G hT tk h.2
    · cases h
  | or a b ia ib =>
    refine .plain (fun X M T Wx e G hT tk h => ?_) rfl (fun _ _ => rfl) (fun _ _ => rfl) (fun _ _ => rfl) (fun _ _ => rfl) (fun _ _ _ => rfl)
    unfold mE at h
    split at h
    · rename_i x y r p
      simp only [Bool.and_eq_true] at h
      refine d_or (ia.e _ _ _ _ _ G hT tk h.1) ?_
      cases r with
      | nil => exact pe_one (ib.e _ _ _ _ _ G hT tk h.2)
      | cons z r => exact ib.e _ _ _ _ _ G hT tk h.2
    · cases h
  | tand a b ia ib =>
    refine ⟨Snd.none_e (fun _ _ => rfl), Snd.none_n rfl, fun X M T Wx e G hT tk h => ?_, Snd.none_u (fun _ _ => rfl), Snd.none_a (fun _ _ => rfl), Snd.none_k (fun _ _ => rfl), Snd.seq (Snd.none_e (fun _ _ => rfl)) (fun _ _ _ => rfl), .none fun _ _ => rfl⟩
    unfold mT at h
    split at h
    · rename_i x y r p
      simp only [Bool.and_eq_true] at h
      have z : DW X T Wx C (.BoolOp .And (x :: y :: r) p) (.tand a b) := by
        refine dw_and (ia.t _ _ _ _ _ G hT tk h.1).1 ?_
        cases r with
        | nil => exact dw_and1 (ib.t _ _ _ _ _ G hT tk h.2).1
        | cons z r => exact (ib.t _ _ _ _ _ G hT tk h.2).2 rfl
      exact ⟨z.pt, fun _ => z⟩
    · cases h
  | tor a b ia ib =>
    refine ⟨Snd.none_e (fun _ _ => rfl), Snd.none_n rfl, fun X M T Wx e G hT tk h => ?_, Snd.none_u (fun _ _ => rfl), Snd.none_a (fun _ _ => rfl), Snd.none_k (fun _ _ => rfl), Snd.seq (Snd.none_e (fun _ _ => rfl)) (fun _ _ _ => rfl), .none fun _ _ => rfl⟩
    unfold mT at h
    split at h
    · rename_i x y r p
      simp only [Bool.and_eq_true] at h
      have z : DW X T Wx C (.BoolOp .Or (x :: y :: r) p) (.tor a b) := by
        refine dw_or (ia.t _ _ _ _ _ G hT tk h.1).1 ?_
        cases r with
        | nil => exact dw_or1 (ib.t _ _ _ _ _ G hT tk h.2).1
        | cons z r => exact (ib.t _ _ _ _ _ G hT tk h.2).2 rfl
      exact ⟨z.pt, fun _ => z⟩
    · cases h
  | tnot a ia =>
    have he : ∀ (X : L2.Cx) (M : MC) (T : Tab) (Wx : WX) (e : Expr), Good X M ca C k → T.ca = ca → Takes X Wx → mE (.tnot a) M e = true → D X T Wx C e (.tnot a) := fun X M T Wx e G hT tk h => by
      unfold mE at h
      split at h
      · exact ia.u _ _ _ _ _ _ G hT tk h
      · cases h
    refine ⟨he, Snd.none_n rfl, fun X M T Wx e G hT tk h => ?_, Snd.none_u (fun _ _ => rfl), Snd.none_a (fun _ _ => rfl), Snd.none_k (fun _ _ => rfl), Snd.seq he (fun _ _ _ => rfl), .none fun _ _ => rfl⟩
    unfold mT at h
    split at h
    · exact ⟨dt_not (ia.t _ _ _ _ _ G hT tk h).1, fun z => nomatch z⟩
    · cases h
  | tru a ia =>
    refine ⟨Snd.none_e (fun _ _ => rfl), Snd.none_n rfl, fun X M T Wx e G hT tk h => ?_, fun X M T Wx e pos G hT tk h => d_nott (ia.e _ _ _ _ _ G hT tk h), Snd.none_a (fun _ _ => rfl), Snd.none_k (fun _ _ => rfl), Snd.seq (Snd.none_e (fun _ _ => rfl)) (fun _ _ _ => rfl), .none fun _ _ => rfl⟩
    unfold mT at h
    simp only [Bool.and_eq_true] at h
    refine ⟨dt_tru (ia.e _ _ _ _ _ G hT tk h.2) h.1, fun z => ?_⟩
    cases e with
    | BoolOp _ _ _ => exact (Bool.false_ne_true h.1).elim
    | _ => cases z
  | ite c a b ic ia ib =>
    refine .plain (fun X M T Wx e G hT tk h => ?_) rfl (fun _ _ => rfl) (fun _ _ => rfl) (fun _ _ => rfl) (fun _ _ => rfl) (fun _ _ _ => rfl)
    unfold mE at h
    split at h
    · simp only [Bool.and_eq_true] at h
      exact d_ite (ic.t _ _ _ _ _ G hT tk h.1).1 (ia.e _ _ _ _ _ G hT tk h.2.1) (ib.e _ _ _ _ _ G hT tk h.2.2)
    · cases h
  | nil =>
    refine ⟨Snd.none_e (fun _ _ => rfl), Snd.none_n rfl, Snd.none_t (fun _ _ => rfl), Snd.none_u (fun _ _ => rfl), fun X M T Wx es G hT tk h => ?_, fun X M T Wx es G hT tk h => ?_, Snd.seq (Snd.none_e (fun _ _ => rfl)) (fun _ _ _ => rfl), fun X M T Wx es G hT tk hs h => ?_⟩
    · unfold mA at h
      split at h
      · exact da_nil
      · cases h
    · unfold mK at h
      split at h
      · exact dk_nil
      · cases h
    · unfold mA at h
      split at h
      · exact dj_nil
      · cases h
  | cons a r ia ir =>
    refine ⟨Snd.none_e (fun _ _ => rfl), Snd.none_n rfl, Snd.none_t (fun _ _ => rfl), Snd.none_u (fun _ _ => rfl), fun X M T Wx es G hT tk h => ?_, fun X M T Wx es G hT tk h => ?_, Snd.seq (Snd.none_e (fun _ _ => rfl)) (fun _ _ _ => rfl), fun X M T Wx es G hT tk hs h => ?_⟩
    · unfold mA at h
      split at h
      · simp only [Bool.and_eq_true] at h
        exact da_cons (ia.e _ _ _ _ _ G hT tk h.2.1) (ir.a _ _ _ _ _ G hT tk h.2.2) h.1
      · cases h
    · unfold mK at h
      split at h
      · simp only [Bool.and_eq_true] at h
        exact dk_cons (ia.e _ _ _ _ _ G hT tk h.1) (ir.kk _ _ _ _ _ G hT tk h.2)
      · cases h
    · unfold mA at h
      split at h
      · rename_i x xs
        simp only [Bool.and_eq_true] at h
        have hs' : noStars xs = true := by
          have : notStar x = true ∧ noStars xs = true := by simpa [noStars] using hs
          exact this.2
        exact dj_cons (ia.e _ _ _ _ _ G hT tk h.2.1) (ir.j _ _ _ _ _ G hT tk hs' h.2.2)
      · cases h
  | star a r ia ir =>
    refine ⟨Snd.none_e (fun _ _ => rfl), Snd.none_n rfl, Snd.none_t (fun _ _ => rfl), Snd.none_u (fun _ _ => rfl), fun X M T Wx es G hT tk h => ?_, Snd.none_k (fun _ _ => rfl), Snd.seq (Snd.none_e (fun _ _ => rfl)) (fun _ _ _ => rfl), fun X M T Wx es G hT tk hs h => ?_⟩
    · unfold mA at h
      split at h
      · simp only [Bool.and_eq_true] at h
        exact da_star (ia.e _ _ _ _ _ G hT tk h.1) (ir.a _ _ _ _ _ G hT tk h.2)
      · cases h
    · unfold mA at h
      split at h
      · simp [noStars, notStar] at hs
      · cases h
  | tup es ia =>
    refine .plain (fun X M T Wx e G hT tk h => ?_) rfl (fun _ _ => rfl) (fun _ _ => rfl) (fun _ _ => rfl) (fun _ _ => rfl) (fun _ _ _ => rfl)
    unfold mE at h
    split at h
    · exact d_tup (ia.a _ _ _ _ _ G hT tk h)
    · cases h
  | lst es ia =>
    have he : ∀ (X : L2.Cx) (M : MC) (T : Tab) (Wx : WX) (e : Expr), Good X M ca C k → T.ca = ca → Takes X Wx → mE (.lst es) M e = true → D X T Wx C e (.lst es) ∧ D X T Wx C e (.new (.lst es)) := fun X M T Wx e G hT tk h => by
      unfold mE at h
      split at h
      · exact ⟨d_lst (ia.a _ _ _ _ _ G hT tk h), d_newlst (ia.a _ _ _ _ _ G hT tk h)⟩
      · cases h
    exact ⟨fun X M T Wx e G hT tk h => (he X M T Wx e G hT tk h).1, fun X M T Wx e G hT tk _ h => (he X M T Wx e G hT tk h).2, Snd.none_t (fun _ _ => rfl), Snd.none_u (fun _ _ => rfl), Snd.none_a (fun _ _ => rfl), Snd.none_k (fun _ _ => rfl), Snd.seq (fun X M T Wx e G hT tk h => (he X M T Wx e G hT tk h).1) (fun _ _ _ => rfl), .none fun _ _ => rfl⟩
  | new a ia =>
    refine .plain (fun X M T Wx e G hT tk h => ?_) rfl (fun _ _ => rfl) (fun _ _ => rfl) (fun _ _ => rfl) (fun _ _ => rfl) (fun _ _ _ => rfl)
    unfold mE at h
    simp only [Bool.and_eq_true] at h
    have q := ia.n _ _ _ _ _ G hT tk (show (canNew a || canNewD a) = true by rw [h.1, Bool.true_or]) h.2
    unfold newOf at q
    rw [if_neg (by rw [canNew_D h.1]; exact Bool.false_ne_true)] at q
    exact q
  | ix a i ia ii =>
    refine .plain (fun X M T Wx e G hT tk h => ?_) rfl (fun _ _ => rfl) (fun _ _ => rfl) (fun _ _ => rfl) (fun _ _ => rfl) (fun _ _ _ => rfl)
    unfold mE at h
    split at h
    · simp only [Bool.and_eq_true] at h
      exact d_ix G.units (G.hkT hT) (ia.e _ _ _ _ _ G hT tk h.2.1) (ii.e _ _ _ _ _ G hT tk h.2.2) h.1
    · cases h
  | cut a lo hi ia il ih =>
    refine .plain (fun X M T Wx e G hT tk h => ?_) rfl (fun _ _ => rfl) (fun _ _ => rfl) (fun _ _ => rfl) (fun _ _ => rfl) (fun _ _ _ => rfl)
    unfold mE at h
    split at h
    · rename_i x l u p2 pos
      simp only [Bool.and_eq_true] at h
      obtain ⟨h1, h2, h3⟩ := h
      have part : ∀ {o : Option Expr} {z : E}, Snd C ca k z → (match o with | none => isNonE z | some y => !isNonE z && mE z M y) = true → DP X T Wx C o z := by
        intro o z sz hz
        cases o with
        | none =>
          unfold isNonE at hz
          dsimp only at hz
          split at hz
          · exact .no
          · cases hz
        | some y =>
          simp only [Bool.and_eq_true, Bool.not_eq_true'] at hz
          exact .yes (sz.e _ _ _ _ _ G hT tk hz.2) (optP_ok hz.1)
      exact d_cut (ia.e _ _ _ _ _ G hT tk h1) (part il h2) (part ih h3)
    · cases h
  | bi f es ia =>
    have he : ∀ (X : L2.Cx) (M : MC) (T : Tab) (Wx : WX) (e : Expr), Good X M ca C k → T.ca = ca → Takes X Wx → mE (.bi f es) M e = true → D X T Wx C e (.bi f es) ∧ (newBi f = true → D X T Wx C e (.new (.bi f es))) := fun X M T Wx e G hT tk h => by
      unfold mE at h
      split at h
      · simp only [Bool.and_eq_true, decide_eq_true_eq] at h
        obtain ⟨rfl, h2, h3, h4⟩ := h
        exact ⟨d_bi G.units G.guards G.calm (G.bl h2).1 (G.bl h2).2 (ia.a _ _ _ _ _ G hT tk h4) h3, fun hf => d_newbi hf (G.bl h2).1 (G.bl h2).2 (ia.a _ _ _ _ _ G hT tk h4) h3⟩
      · cases h
    exact ⟨fun X M T Wx e G hT tk h => (he X M T Wx e G hT tk h).1, fun X M T Wx e G hT tk hf h => (he X M T Wx e G hT tk h).2 (by simpa [canAny, canNew, canNewD] using hf), Snd.none_t (fun _ _ => rfl), Snd.none_u (fun _ _ => rfl), Snd.none_a (fun _ _ => rfl), Snd.none_k (fun _ _ => rfl), Snd.seq (fun X M T Wx e G hT tk h => (he X M T Wx e G hT tk h).1) (fun _ _ _ => rfl), .none fun _ _ => rfl⟩
  | mt m a es ia ie =>
    refine .plain (fun X M T Wx e G hT tk h => ?_) rfl (fun _ _ => rfl) (fun _ _ => rfl) (fun _ _ => rfl) (fun _ _ => rfl) (fun _ _ _ => rfl)
    unfold mE at h
    split at h
    · rename_i o g ap xs cp
      simp only [Bool.and_eq_true, decide_eq_true_eq] at h
      obtain ⟨rfl, ⟨h1, h2⟩, h3, h4, ⟨h5, h6⟩, h7⟩ := h
      split at h7
      · exact d_mtL (.inl rfl) (ia.e _ _ _ _ _ G hT tk h3) (ie.a _ _ _ _ _ G hT tk h5) h4 (by simp only [List.length_cons] at h6; omega) h1 h2
      · cases xs with
        | nil =>
          have e0 : es = .nil := mA_nil h5
          subst e0
          exact d_pop0 (ia.e _ _ _ _ _ G hT tk h3) h1 h2
        | cons y ys => exact d_mtL (.inr rfl) (ia.e _ _ _ _ _ G hT tk h3) (ie.a _ _ _ _ _ G hT tk h5) h4 (by simp only [List.length_cons] at h6; omega) h1 h2
      · exact d_mtS (ia.e _ _ _ _ _ G hT tk h3) (ie.a _ _ _ _ _ G hT tk h5) h4 (by simp only [List.length_cons] at h6; omega) h1 h2
      · exact d_getD G.units (G.hkT hT) (ia.e _ _ _ _ _ G hT tk h3) (ie.a _ _ _ _ _ G hT tk h5) h4 (by simp only [List.length_cons] at h6; omega) h1 h2
      · cases h7
    · cases h
  | call f es ks kes ia ik =>
    refine .plain (fun X M T Wx e G hT tk h => ?_) rfl (fun _ _ => rfl) (fun _ _ => rfl) (fun _ _ => rfl) (fun _ _ => rfl) (fun _ _ _ => rfl)
    unfold mE at h
    split at h
    · rename_i g p xs kws pos
      simp only [Bool.and_eq_true, decide_eq_true_eq] at h
      obtain ⟨rfl, ⟨h1, h2, h3⟩, h4, h5, h6, h7⟩ := h
      obtain ⟨fa, e1, e2, F⟩ := G.fns _ h3
      cases kws with
      | cons kw kws =>
        cases xs with
        | nil =>
          have e0 : es = .nil := mA_nil h5
          subst e0
          exact d_callK0 F hT (G.room.mono (by omega)) G.guards tk (G.gl h1) e1 e2 (ik.kk _ _ _ _ _ G hT tk h6) h4 (dbg_of h2)
        | cons y ys => exact d_callK F hT (G.room.mono (by omega)) G.guards tk (G.gl h1) e1 e2 (ia.a _ _ _ _ _ G hT tk h5) h7 (ik.kk _ _ _ _ _ G hT tk h6) h4 (dbg_of h2)
      | nil =>
        have ek : kes = .nil := mK_nil h6
        have eks : ks = [] := by
          cases ks with
          | nil => rfl
          | cons _ _ => simp [kwNames] at h4
        subst ek eks
        cases xs with
        | nil =>
          have e0 : es = .nil := mA_nil h5
          subst e0
          exact d_call0 F hT (G.room.mono (by omega)) G.guards tk (G.gl h1) e1 e2 (dbg_of h2)
        | cons y ys =>
          cases hs : noStars (y :: ys) with
          | true => exact d_call F hT (G.room.mono (by omega)) G.guards tk (G.gl h1) e1 e2 (ia.a _ _ _ _ _ G hT tk h5) hs (dbg_of h2)
          | false => exact d_callS F hT (G.room.mono (by omega)) G.guards tk (G.gl h1) e1 e2 (ia.a _ _ _ _ _ G hT tk h5) h7 (any_of_not (by simpa [noStars, show notStar y = true from h7] using hs)) (dbg_of h2)
    · cases h
  | cm elt t it c own ie ii ic =>
    have he : ∀ (X : L2.Cx) (M : MC) (T : Tab) (Wx : WX) (e : Expr), Good X M ca C k → T.ca = ca → Takes X Wx → mE (.cm elt t it c own) M e = true → D X T Wx C e (.cm elt t it c own) ∧ D X T Wx C e (.new (.cm elt t it c own)) := fun X M T Wx e G hT tk h => by
      obtain ⟨x, tg, iter, ifs, scope, pos, ow, rfl, rfl, a1, a2, a3, a4, a5, a6, a7⟩ := Snd.cm ie ii ic G hT tk h
      exact (d_cm G.calm G.nd a1 a2 a3 a4 a5 a6 a7).2
    exact ⟨fun X M T Wx e G hT tk h => (he X M T Wx e G hT tk h).1, fun X M T Wx e G hT tk _ h => (he X M T Wx e G hT tk h).2, Snd.none_t (fun _ _ => rfl), Snd.none_u (fun _ _ => rfl), Snd.none_a (fun _ _ => rfl), Snd.none_k (fun _ _ => rfl), Snd.seq (fun X M T Wx e G hT tk h => (he X M T Wx e G hT tk h).1) (fun _ _ _ => rfl), .none fun _ _ => rfl⟩
  | dct0 =>
    refine ⟨fun X M T Wx e G hT tk h => ?_, fun X M T Wx e G hT tk _ h => ?_, Snd.none_t (fun _ _ => rfl), Snd.none_u (fun _ _ => rfl), Snd.none_a (fun _ _ => rfl), Snd.none_k (fun _ _ => rfl), Snd.seq (fun X M T Wx e G hT tk h => ?_) (fun _ _ _ => rfl), .none fun _ _ => rfl⟩
    · unfold mE at h
      split at h
      · exact d_dct0
      · cases h
    · unfold mE at h
      split at h
      · exact d_newdct0
      · cases h
    · unfold mE at h
      split at h
      · exact d_dct0
      · cases h
  | newd a ia =>
    refine .plain (fun X M T Wx e G hT tk h => ?_) rfl (fun _ _ => rfl) (fun _ _ => rfl) (fun _ _ => rfl) (fun _ _ => rfl) (fun _ _ _ => rfl)
    unfold mE at h
    simp only [Bool.and_eq_true] at h
    have q := ia.n _ _ _ _ _ G hT tk (show (canNew a || canNewD a) = true by rw [h.1, Bool.or_true]) h.2
    unfold newOf at q
    rw [if_pos h.1] at q
    exact q
  | cmd kx vx t it c own ik iv ii ic =>
    have he : ∀ (X : L2.Cx) (M : MC) (T : Tab) (Wx : WX) (e : Expr), Good X M ca C k → T.ca = ca → Takes X Wx → mE (.cmd kx vx t it c own) M e = true → D X T Wx C e (.cmd kx vx t it c own) ∧ D X T Wx C e (.newd (.cmd kx vx t it c own)) := fun X M T Wx e G hT tk h => by
      obtain ⟨iter, scope, ow, rfl, ho, core, ⟨p, e1⟩, _⟩ := Snd.cmd (T := T) (Wx := Wx) ik iv ii ic G hT tk h
      refine ⟨comp_d (nw := false) ho core (fun T' D hid => readsD hid) ev_cmd e1, comp_d (nw := true) ho core (fun T' D hid => readsD hid) (fun σ h => ?_) e1⟩
      rw [ev_newd (ev_cmd (X := X) σ h)]
      exact new_in fun a h => rfl
    exact ⟨fun X M T Wx e G hT tk h => (he X M T Wx e G hT tk h).1, fun X M T Wx e G hT tk _ h => (he X M T Wx e G hT tk h).2, Snd.none_t (fun _ _ => rfl), Snd.none_u (fun _ _ => rfl), Snd.none_a (fun _ _ => rfl), Snd.none_k (fun _ _ => rfl), Snd.seq (fun X M T Wx e G hT tk h => (he X M T Wx e G hT tk h).1) (fun _ _ _ => rfl), .none fun _ _ => rfl⟩
  | cmd2 kx vx t it c t1 it1 c1 own own1 ik iv ii ic ii1 ic1 =>
    have he : ∀ (X : L2.Cx) (M : MC) (T : Tab) (Wx : WX) (e : Expr), Good X M ca C k → T.ca = ca → Takes X Wx → mE (.cmd2 kx vx t it c t1 it1 c1 own own1) M e = true → D X T Wx C e (.cmd2 kx vx t it c t1 it1 c1 own own1) ∧ D X T Wx C e (.newd (.cmd2 kx vx t it c t1 it1 c1 own own1)) := fun X M T Wx e G hT tk h => by
      obtain ⟨iter, scope, ow, rfl, ho, ho1, core, ⟨p, e1⟩, _⟩ := Snd.cmd2 (T := T) (Wx := Wx) ik iv ii ic ii1 ic1 G hT tk h
      refine ⟨comp_d (nw := false) ho core (fun T' D hid => reads2 hid ho1 (fun _ _ _ r => r.2) (fun _ _ _ _ _ x r => r.ex x) (readsD hid)) ev_cmd2 e1, comp_d (nw := true) ho core (fun T' D hid => reads2 hid ho1 (fun _ _ _ r => r.2) (fun _ _ _ _ _ x r => r.ex x) (readsD hid)) (fun σ h => ?_) e1⟩
      rw [ev_newd (ev_cmd2 (X := X) σ h)]
      exact new_in fun a h => rfl
    exact ⟨fun X M T Wx e G hT tk h => (he X M T Wx e G hT tk h).1, fun X M T Wx e G hT tk _ h => (he X M T Wx e G hT tk h).2, Snd.none_t (fun _ _ => rfl), Snd.none_u (fun _ _ => rfl), Snd.none_a (fun _ _ => rfl), Snd.none_k (fun _ _ => rfl), Snd.seq (fun X M T Wx e G hT tk h => (he X M T Wx e G hT tk h).1) (fun _ _ _ => rfl), .none fun _ _ => rfl⟩
  | cm2 elt t it c t1 it1 c1 own own1 ie ii ic ii1 ic1 =>
    have he : ∀ (X : L2.Cx) (M : MC) (T : Tab) (Wx : WX) (e : Expr), Good X M ca C k → T.ca = ca → Takes X Wx → mE (.cm2 elt t it c t1 it1 c1 own own1) M e = true → D X T Wx C e (.cm2 elt t it c t1 it1 c1 own own1) ∧ D X T Wx C e (.new (.cm2 elt t it c t1 it1 c1 own own1)) := fun X M T Wx e G hT tk h => by
      obtain ⟨iter, scope, ow, rfl, ho, ho1, core, ⟨p, e1⟩, _⟩ := Snd.cm2 (T := T) (Wx := Wx) ie ii ic ii1 ic1 G hT tk h
      refine ⟨comp_d (nw := false) ho core (fun T' D hid => reads2 hid ho1 (fun _ _ _ r => r.2) (fun _ _ _ _ _ x r => r.ex x) (readsL hid)) ev_cm2 e1, comp_d (nw := true) ho core (fun T' D hid => reads2 hid ho1 (fun _ _ _ r => r.2) (fun _ _ _ _ _ x r => r.ex x) (readsL hid)) (fun σ h => ?_) e1⟩
      rw [evalE, ev_cm2 (X := X) σ h]
      exact new_in (n := fun x h1 => (match x with | .lit xs => .ok (.ref h1.length) (h1 ++ [.lst xs]) | _ => .no)) fun a h => rfl
    exact ⟨fun X M T Wx e G hT tk h => (he X M T Wx e G hT tk h).1, fun X M T Wx e G hT tk _ h => (he X M T Wx e G hT tk h).2, Snd.none_t (fun _ _ => rfl), Snd.none_u (fun _ _ => rfl), Snd.none_a (fun _ _ => rfl), Snd.none_k (fun _ _ => rfl), Snd.seq (fun X M T Wx e G hT tk h => (he X M T Wx e G hT tk h).1) (fun _ _ _ => rfl), .none fun _ _ => rfl⟩
  | rng a ia =>
    refine ⟨Snd.none_e (fun _ _ => rfl), Snd.none_n rfl, Snd.none_t (fun _ _ => rfl), Snd.none_u (fun _ _ => rfl), Snd.none_a (fun _ _ => rfl), Snd.none_k (fun _ _ => rfl), fun X M T Wx tg e G hT tk h => ?_, .none fun _ _ => rfl⟩
    rw [mI_rng] at h
    split at h
    · rename_i y q
      obtain ⟨p, pos, rfl, b1, b2⟩ := blt1_ok q
      exact di_rng1 (G.bl b1).1 (G.bl b1).2 b2 (ia.e _ _ _ _ _ G hT tk h)
    · cases h
  | rng2 a b ia ib =>
    refine ⟨Snd.none_e (fun _ _ => rfl), Snd.none_n rfl, Snd.none_t (fun _ _ => rfl), Snd.none_u (fun _ _ => rfl), Snd.none_a (fun _ _ => rfl), Snd.none_k (fun _ _ => rfl), fun X M T Wx tg e G hT tk h => ?_, .none fun _ _ => rfl⟩
    rw [mI_rng2] at h
    split at h
    · rename_i y z q
      obtain ⟨p, pos, rfl, b1, b2, b3⟩ := blt2_ok q
      simp only [Bool.and_eq_true] at h
      exact di_rng2 (G.bl b1).1 (G.bl b1).2 b2 b3 (ia.e _ _ _ _ _ G hT tk h.1) (ib.e _ _ _ _ _ G hT tk h.2)
    · cases h
  | enum a ia =>
    refine ⟨Snd.none_e (fun _ _ => rfl), Snd.none_n rfl, Snd.none_t (fun _ _ => rfl), Snd.none_u (fun _ _ => rfl), Snd.none_a (fun _ _ => rfl), Snd.none_k (fun _ _ => rfl), fun X M T Wx tg e G hT tk h => ?_, .none fun _ _ => rfl⟩
    rw [mI_enum] at h
    simp only [Bool.and_eq_true] at h
    obtain ⟨h0, h⟩ := h
    unfold isTup at h0
    split at h0
    · split at h
      · rename_i y q
        obtain ⟨p, pos, rfl, b1, b2⟩ := blt1_ok q
        exact di_enum (G.bl b1).1 (G.bl b1).2 b2 (ia.e _ _ _ _ _ G hT tk h)
      · cases h
    · cases h0
  | lzip a b ia ib =>
    refine .plain (fun X M T Wx e G hT tk h => ?_) rfl (fun _ _ => rfl) (fun _ _ => rfl) (fun _ _ => rfl) (fun _ _ => rfl) (fun _ _ _ => rfl)
    unfold mE at h
    split at h
    · simp only [Bool.and_eq_true, decide_eq_true_eq] at h
      obtain ⟨⟨rfl, rfl⟩, ⟨h1, h2⟩, ⟨h3, h4⟩, h5, h6⟩ := h
      exact d_listzip G.calm (G.bl h1).1 (G.bl h1).2 (G.bl h2).1 (G.bl h2).2 h3 h4 (ia.e _ _ _ _ _ G hT tk h5) (ib.e _ _ _ _ _ G hT tk h6)
    · cases h
  | zip a b ia ib =>
    refine ⟨Snd.none_e (fun _ _ => rfl), Snd.none_n rfl, Snd.none_t (fun _ _ => rfl), Snd.none_u (fun _ _ => rfl), Snd.none_a (fun _ _ => rfl), Snd.none_k (fun _ _ => rfl), fun X M T Wx tg e G hT tk h => ?_, .none fun _ _ => rfl⟩
    rw [mI_zip] at h
    simp only [Bool.and_eq_true] at h
    obtain ⟨h0, h⟩ := h
    unfold isTup at h0
    split at h0
    · split at h
      · rename_i y z q
        obtain ⟨p, pos, rfl, b1, b2, b3⟩ := blt2_ok q
        simp only [Bool.and_eq_true] at h
        exact di_zip (G.bl b1).1 (G.bl b1).2 b2 b3 (ia.e _ _ _ _ _ G hT tk h.1) (ib.e _ _ _ _ _ G hT tk h.2)
      · cases h
    · cases h0
  | fmt a ia =>
    refine .plain (fun X M T Wx e G hT tk h => ?_) rfl (fun _ _ => rfl) (fun _ _ => rfl) (fun _ _ => rfl) (fun _ _ => rfl) (fun _ _ _ => rfl)
    unfold mE at h
    split at h
    · simp only [Bool.and_eq_true, decide_eq_true_eq] at h
      obtain ⟨rfl, h⟩ := h
      exact d_fmt (ia.e _ _ _ _ _ G hT tk h)
    · cases h
  | fstr es ia =>
    refine .plain (fun X M T Wx e G hT tk h => ?_) rfl (fun _ _ => rfl) (fun _ _ => rfl) (fun _ _ => rfl) (fun _ _ => rfl) (fun _ _ _ => rfl)
    unfold mE at h
    split at h
    · simp only [Bool.and_eq_true] at h
      exact d_fstr (ia.j _ _ _ _ _ G hT tk h.1 h.2)
    · cases h
  | isi a ts ia =>
    refine .plain (fun X M T Wx e G hT tk h => ?_) rfl (fun _ _ => rfl) (fun _ _ => rfl) (fun _ _ => rfl) (fun _ _ => rfl) (fun _ _ _ => rfl)
    unfold mE at h
    split at h
    · rename_i x hp
      have hx := ia.e _ _ _ _ _ G hT tk h
      unfold isiP at hp
      split at hp
      · split at hp
        · rename_i c
          simp only [Bool.and_eq_true, decide_eq_true_eq] at c
          obtain ⟨⟨rfl, c1⟩, ⟨rfl, c2, c3⟩, c4⟩ := c
          cases hp
          obtain ⟨n, hn⟩ := Option.isSome_iff_exists.mp c3
          exact d_isi1 hn (G.bl c1).1 (G.bl c1).2 (G.bl c2).1 (G.bl c2).2 hx c4
        · cases hp
      · split at hp
        · rename_i l hl
          split at hp
          · rename_i c
            simp only [Bool.and_eq_true, decide_eq_true_eq, List.all_eq_true, Bool.not_eq_true', List.isEmpty_eq_false_iff] at c
            obtain ⟨⟨rfl, c1⟩, ⟨rfl, c2, c3, c5, c6⟩, c4⟩ := c
            cases hp
            obtain ⟨ns, hn⟩ := Option.isSome_iff_exists.mp c3
            rw [nmsP_ok hl]
            refine d_isiT hn (by simp) c5 ?_ (G.bl c1).1 (G.bl c1).2 (fun t ht => ?_) hx c4
            · rw [tyNs_len hn, sizeLine_eq]; omega
            · obtain ⟨z, hz, rfl⟩ := List.mem_map.mp ht
              exact G.bl (c2 z hz)
          · cases hp
        · cases hp
      · cases hp
    · cases h
end
end Y
/-! Y12: statements that match run as Y says; functions. -/
namespace Y
open PySem PySem.Spec PyProof.Rows L2

def notComp : Expr → Bool
  | .ListComp _ _ _ _ => false
  | .SetComp _ _ _ _ => false
  | .DictComp _ _ _ _ _ => false
  | _ => true
/-- is the store the comprehension's own -/
def swB (M : MC) (x tg : Expr) : Bool :=
  match (match x with | .ListComp _ _ s _ | .SetComp _ _ s _ | .DictComp _ _ _ s _ => some s | _ => none) with
  | none => false
  | some s => (match tg with
    | .Name y p => M.sc.names.lookup y == some .local && p.line == x.pos.line && !(s.names.any fun (n, k) => n == y && (k == .local || k == .cell))
    | _ => false)
def starE : Expr → Bool
  | .Starred .. => true
  | _ => false
def namesOn (M : MC) (line : Nat) (ts : List Expr) : List Str := ts.filterMap fun
  | .Name id pos => if M.sc.names.lookup id == some .local && pos.line == line then some id else none
  | _ => none
/-- how the stores go: none: not told -/
def swRes (M : MC) (ts vs : List Expr) : Option (Option (List Str)) :=
  if (!(ts.length == 2 || ts.length == 3) || vs.length != ts.length) = true then some none else
  if vs.any starE = true then some none else
  let names := namesOn M ((ts.head?.map (·.pos.line)).getD 0) ts
  if (names.length != ts.length || names.eraseDups.length != names.length) = true then some none else
  if vs.all (foldedForSure 8) = true then some none else
  if vs.all (constantsAlone 8) = true then none else some (some names)
def sts (M : MC) (tg x : Expr) : Option (Option (List Str)) :=
  match tg, x with
  | .Tuple ts _ _, .Tuple vs _ _ => swRes M ts vs
  | .List ts _, .Tuple vs _ _ => swRes M ts vs
  | _, _ => some none
def tgOf : List Nat → Tg
  | [] => .nil
  | i :: is => .cons (.nm i) (tgOf is)
def isFz : S → Bool
  | .fz _ => true
  | _ => false
def isC2 : E → Bool
  | .cmd .. => true
  | .cmd2 .. => true
  | .cm2 .. => true
  | .newd (.cmd ..) => true
  | .newd (.cmd2 ..) => true
  | .new (.cm2 ..) => true
  | _ => false
mutual
def mS : S → MC → Stmt → Bool
  | .stop, _, _ => true
  | .fz _, _, _ => false
  | .satt o f e, M, st => (match st with | .Assign [.Attribute x g p] v _ => (decide (g = f) && !swB M v (.Attribute x g p)) && (mE o M x && mE e M v) | _ => false)
  | .sattaug o f op e, M, st => (match st with | .AugAssign (.Attribute x g _) p v _ => (decide (g = f) && decide (p = opP op)) && (mE o M x && mE e M v) | _ => false)
  | .skip, _, st => (match st with | .Pass _ => true | .Expr (.Constant (.str _) _ _) _ => true | _ => false)
  | .seq _ _, _, _ => false
  | .expr e, M, st => (match st with | .Expr x _ => notComp x && mE e M x | _ => false)
  | .asg t e, M, st => (match st with
    | .Assign [tg] x _ => (match swB M x tg with
      | true => (match t, e, tg with
        | .nm i, .cm .., .Name y _ => decide (M.N[i]? = some y) && mE e M x
        | .nm i, .new (.cm ..), .Name y _ => decide (M.N[i]? = some y) && mE e M x
        | .nm i, e, .Name y _ => isC2 e && (decide (M.N[i]? = some y) && mE e M x)
        | _, _, _ => false)
      | false => (decide (sts M tg x = some none) && notStar tg) && (mG t M tg && mE e M x))
    | .AnnAssign tg _ (some x) _ _ => !swB M x tg && (mG t M tg && mE e M x)
    | _ => false)
  | .par is es, M, st => (match st with
    | .Assign [.Tuple ts _ _] (.Tuple vs _ _) _ => (match swRes M ts vs with
      | some none => decide (is.length ≤ 1000) && (mGs (tgOf is) M ts && mA es M vs)
      | some (some ns) => (match is, ts, vs with
        | [i, j], [.Name x _, .Name y _], [_, _] => (decide (ns = [x, y]) && (decide (M.N[i]? = some x) && decide (M.N[j]? = some y))) && ((decide (M.sc.names.lookup x = some .local) && decide (M.sc.names.lookup y = some .local)) && (decide (i ≠ j) && mA es M vs))
        | [i, j, l], [.Name x _, .Name y _, .Name z _], [_, _, _] => (decide (ns = [x, y, z]) && (decide (M.N[i]? = some x) && (decide (M.N[j]? = some y) && decide (M.N[l]? = some z)))) && ((decide (M.sc.names.lookup x = some .local) && (decide (M.sc.names.lookup y = some .local) && decide (M.sc.names.lookup z = some .local))) && ((decide (i ≠ j) && (decide (i ≠ l) && decide (j ≠ l))) && mA es M vs))
        | _, _, _ => false)
      | none => false)
    | _ => false)
  | .aug i op e, M, st => (match st with | .AugAssign (.Name x _) o y _ => (decide (o = opP op) && decide (M.N[i]? = some x)) && (stB M x && mE e M y) | _ => false)
  | .six o i e, M, st => (match st with | .Assign [.Subscript a b _] x _ => plainIx b && (mE o M a && (mE i M b && mE e M x)) | _ => false)
  | .sixaug o i op e, M, st => (match st with | .AugAssign (.Subscript a b _) p x _ => (decide (p = opP op) && plainIx b) && (mE o M a && (mE i M b && mE e M x)) | _ => false)
  | .ite c a b, M, st => (match st with | .If x ss us _ => mT c M x && (mSs a M ss && mSs b M us) | _ => false)
  | .for t it b, M, st => (match st with | .For tg iter ss [] _ => notSet iter && (mG t M tg && (mI it M tg iter && mSs b M ss)) | _ => false)
  | .while c b, M, st => (match st with | .While x ss [] _ => mT c M x && mSs b M ss | _ => false)
  | .ret e, M, st => (match st with | .Return (some x) _ => mE e M x | .Return none _ => isNonE e | _ => false)
  | .brk, _, st => (match st with | .Break _ => true | _ => false)
  | .cont, _, st => (match st with | .Continue _ => true | _ => false)
def mSs : S → MC → List Stmt → Bool
  | .skip, _, ss => (match ss with | [] => true | _ => false)
  | .seq a b, M, ss => if isFz a = true then mSs b M ss else (match ss with | st :: r => mS a M st && mSs b M r | _ => false)
  | _, _, _ => false
end

structure GoodS (X : L2.Cx) (M : MC) (ca : Kn) (C : Ctx) (k : Nat) : Prop extends Good X M ca C k where
  kind : X.env.scope.kind = .function
  po : PassesOwn (model X.prog X.w) X.A X.env X.xe
section
variable {X : L2.Cx} {M : MC} {ca : Kn} {C : Ctx} {k : Nat} {T : Tab} {Wx : WX}
theorem GoodS.bk (G : GoodS X M ca C k) : X.env.blockKind = .function := by unfold Env.blockKind; rw [G.kind]; rfl
theorem swapsWith_none {x : Expr} {tg : Option Expr} {l : Nat} {env : Env} (h : notComp x = true) : swapsWith x tg l env = pure false := by
  cases x <;> first | rfl | (exfalso; exact Bool.false_ne_true h)
theorem swapsWith_ok (G : GoodS X M ca C k) (x tg : Expr) (l : Nat) : swapsWith x (some tg) l X.env = pure (swB M x tg) := by
  have key : ∀ y, X.env.kindOf y = M.sc.names.lookup y := fun y => by show X.env.scope.names.lookup y = _; rw [G.sc]
  unfold swapsWith swB
  cases x <;> first
    | rfl
    | (cases tg <;> first
        | rfl
        | (simp only [G.bk, key]; rfl))
theorem any_same {f g : Expr → Bool} (h : ∀ x, f x = g x) (vs : List Expr) : vs.any f = vs.any g := by
  have : f = g := funext h
  rw [this]
theorem fm_same {f g : Expr → Option Str} (h : ∀ x, f x = g x) (vs : List Expr) : vs.filterMap f = vs.filterMap g := by
  have : f = g := funext h
  rw [this]
/-- the shape of swappedStores -/
theorem sw_shape {M : MC} {ts vs : List Expr} {r : Option (List Str)} {star : Expr → Bool} {nm : Expr → Option Str} {b : Bool} {un : Sem Unit} (hb : b = false) (hst : ∀ x, star x = starE x)
    (hnm : ∀ x, nm x = (match x with | .Name id pos => if (M.sc.names.lookup id == some .local && pos.line == (ts.head?.map (·.pos.line)).getD 0) = true then some id else none | _ => none)) (h : swRes M ts vs = some r) :
    (if (!(ts.length == 2 || ts.length == 3) || vs.length != ts.length || b) = true then (pure none : Sem (Option (List Str)))
      else if vs.any star = true then pure none
      else if ((ts.filterMap nm).length != ts.length || (ts.filterMap nm).eraseDups.length != (ts.filterMap nm).length) = true then pure none
      else if vs.all (foldedForSure 8) = true then pure none
      else if vs.all (constantsAlone 8) = true then (do let _ ← un; pure (some (ts.filterMap nm))) else pure (some (ts.filterMap nm))) = pure r := by
  have e1 : ts.filterMap nm = namesOn M ((ts.head?.map (·.pos.line)).getD 0) ts := fm_same (fun x => hnm x) ts
  rw [e1, any_same hst vs, hb, Bool.or_false]
  unfold swRes at h
  dsimp only at h
  split at h
  · rename_i c; cases h; rw [if_pos c]
  · rename_i c
    rw [if_neg c]
    split at h
    · rename_i c; cases h; rw [if_pos c]
    · rename_i c
      rw [if_neg c]
      split at h
      · rename_i c; cases h; rw [if_pos c]
      · rename_i c
        rw [if_neg c]
        split at h
        · rename_i c; cases h; rw [if_pos c]
        · rename_i c
          rw [if_neg c]
          split at h
          · cases h
          · rename_i c; cases h; rw [if_neg c]
theorem sts_ok (G : GoodS X M ca C k) {tg x : Expr} {r : Option (List Str)} (h : sts M tg x = some r) : swappedStores [tg] x X.env = pure r := by
  have key : ∀ y, X.env.kindOf y = M.sc.names.lookup y := fun y => by show X.env.scope.names.lookup y = _; rw [G.sc]
  unfold sts at h
  split at h
  · unfold swappedStores
    exact sw_shape (b := X.env.blockKind != .function) (by rw [G.bk]; rfl) (fun x => by cases x <;> rfl) (fun x => by cases x <;> first | rfl | (dsimp only; rw [key])) h
  · unfold swappedStores
    exact sw_shape (b := X.env.blockKind != .function) (by rw [G.bk]; rfl) (fun x => by cases x <;> rfl) (fun x => by cases x <;> first | rfl | (dsimp only; rw [key])) h
  · rename_i n1 n2
    cases h
    cases tg with
    | Tuple ts k1 p1 => cases x with
      | Tuple vs k2 p2 => exact absurd rfl (n1 _ _ _ _ _ _ rfl)
      | _ => rfl
    | List ts p1 => cases x with
      | Tuple vs k2 p2 => exact absurd rfl (n2 _ _ _ _ _ rfl)
      | _ => rfl
    | _ => cases x <;> rfl

/-! ### names at once, the common way -/
theorem setL_tg : ∀ {is : List Nat} {ws : List W} {σ σ' : Sb}, setL is ws σ = some σ' → setTs (tgOf is) ws σ = some σ' ∧ ws.length = is.length
  | [], [], σ, σ', h => ⟨h, rfl⟩
  | [], _ :: _, σ, σ', h => by simp [setL] at h
  | i :: is, [], σ, σ', h => by simp [setL] at h
  | i :: is, w :: ws, σ, σ', h => by
    simp only [setL] at h
    split at h
    · rename_i c
      obtain ⟨h1, h2⟩ := setL_tg h
      refine ⟨?_, by rw [List.length_cons, List.length_cons, h2]⟩
      simp only [tgOf, setTs, setT]
      rw [if_pos c]
      exact h1
    · cases h
theorem par_asg {C : Ctx} {is : List Nat} {ea : E} {σ : Sb} {h : Hb} {φ : Pl} {H : Hp} {D : Ends} (hl : is.length ≤ 1000) (p : PostS X.K T Wx φ H (evalS C (.par is ea) σ h) D) : PostS X.K T Wx φ H (evalS C (.asg (.tp (tgOf is)) (.tup ea)) σ h) D := by
  simp only [evalS, evalE] at p ⊢
  cases q : evalE C ea σ h with
  | no => rw [q] at p; exact p
  | ex e h' => rw [q] at p; exact p
  | ok w h' =>
    rw [q] at p
    simp only [R.go, R.bind] at p ⊢
    cases w with
    | tup ws =>
      dsimp only at p ⊢
      cases e : setL is ws σ with
      | none => rw [e] at p; exact p.elim
      | some σ' =>
        rw [e] at p
        obtain ⟨e1, e2⟩ := setL_tg e
        rw [if_pos (by unfold small; exact decide_eq_true (by omega))]
        simp only [setT]
        rw [e1]
        exact p
    | _ => exact p.elim
theorem ds_parG {C : Ctx} {is : List Nat} {ea : E} {ts vs : List Expr} {k1 k2 : Nat} {p1 p2 pos : Pos} (hl : is.length ≤ 1000) (ha : DA X T Wx C vs ea) (hg : PG X (.Tuple ts k1 p1) (tG X.K T (.tp (tgOf is)))) (hw : swappedStores [.Tuple ts k1 p1] (.Tuple vs k2 p2) X.env = pure none) :
    DS X T Wx C (.Assign [.Tuple ts k1 p1] (.Tuple vs k2 p2) pos) (.par is ea) :=
  (ds_asg (d_tup ha) hg rfl hw rfl).weak fun D σ H ⟨φ, σb, h, s, rl, p⟩ => ⟨φ, σb, h, s, rl, par_asg hl p⟩

structure SndS (C : Ctx) (ca : Kn) (k : Nat) (z : S) : Prop where
  s : ∀ (X : L2.Cx) (M : MC) (T : Tab) (Wx : WX) (st : Stmt), GoodS X M ca C k → T.ca = ca → Takes X Wx → mS z M st = true → DS X T Wx C st z
  ss : ∀ (X : L2.Cx) (M : MC) (T : Tab) (Wx : WX) (st : List Stmt), GoodS X M ca C k → T.ca = ca → Takes X Wx → mSs z M st = true → DSs X T Wx C st z
theorem SndS.one {C : Ctx} {s : S} (h : ∀ (X : L2.Cx) (M : MC) (T : Tab) (Wx : WX) (st : Stmt), GoodS X M ca C k → T.ca = ca → Takes X Wx → mS s M st = true → DS X T Wx C st s) (hn : ∀ M st, mSs s M st = false) : SndS C ca k s :=
  ⟨h, fun _ M _ _ st _ _ _ z => by rw [hn] at z; cases z⟩
theorem notStar_each {e : Expr} {env : Env} (h : notStar e = true) : (assignEach [e] env).map (·.2) = [assign e env] := by rw [assignEach_of h]; rfl
theorem asg_plain {o i : Expr} {tpos : Pos} {env : Env} (h : plainIx i = true) (v : Value) : assign (.Subscript o i tpos) env v = (do
      let ov ← holding [v] (eval o env)
      let iv ← holding [v, ov] (eval i env)
      standAt tpos
      holding [v, ov, iv] (setItem ov iv v)
      release [v, ov, iv] []) := by
  cases i <;> first | rfl | (exact (Bool.false_ne_true h).elim)
theorem aug_plain {i : Expr} (h : plainIx i = true) (ov iv new : Value) : augStore i ov iv new = (do holding [new, ov, iv] (setItem ov iv new); release [new, ov, iv] []; pure .next) := by
  cases i <;> first | rfl | (exact (Bool.false_ne_true h).elim)
theorem mSs_skip {M : MC} {ss : List Stmt} : mSs .skip M ss = (match ss with | [] => true | _ => false) := rfl
theorem mSs_seq {a b : S} {M : MC} {ss : List Stmt} : mSs (.seq a b) M ss = if isFz a = true then mSs b M ss else (match ss with | st :: r => mS a M st && mSs b M r | _ => false) := rfl
theorem comp_store {C : Ctx} {e : E} {x : Expr} {i : Nat} {y : Str} {py pos : Pos} (G : GoodS X M ca C k) (hT : T.ca = ca) (tk : Takes X Wx) (hc : isC2 e = true) (hi : M.N[i]? = some y) (h : mE e M x = true) (hyl : X.env.scope.names.lookup y = some .local)
    (hsw : swapsWith x (some (.Name y py)) pos.line X.env = pure true) : DS X T Wx C (.Assign [.Name y py] x pos) (.asg (.nm i) e) := by
  have sn := sound C ca k
  have unnew : ∀ {a : Y.E}, mE (.newd a) M x = true → mE a M x = true := fun {a} z => by
    unfold mE at z
    exact (Bool.and_eq_true_iff.mp z).2
  have unnewL : ∀ {a : Y.E}, mE (.new a) M x = true → mE a M x = true := fun {a} z => by
    unfold mE at z
    exact (Bool.and_eq_true_iff.mp z).2
  unfold isC2 at hc
  split at hc
  · obtain ⟨iter, scope, ow, rfl, ho, core, _, ⟨p, e1⟩⟩ := Snd.cmd (T := T) (Wx := Wx) (sn _) (sn _) (sn _) (sn _) G.toGood hT tk h
    exact comp_ds (nw := false) ho core (fun T' D hid => readsD hid) ev_cmd G.nd (G.ix hi) hyl hsw e1
  · obtain ⟨iter, scope, ow, rfl, ho, ho1, core, _, ⟨p, e1⟩⟩ := Snd.cmd2 (T := T) (Wx := Wx) (sn _) (sn _) (sn _) (sn _) (sn _) (sn _) G.toGood hT tk h
    exact comp_ds (nw := false) ho core (fun T' D hid => reads2 hid ho1 (fun _ _ _ r => r.2) (fun _ _ _ _ _ x r => r.ex x) (readsD hid)) ev_cmd2 G.nd (G.ix hi) hyl hsw e1
  · obtain ⟨iter, scope, ow, rfl, ho, ho1, core, _, ⟨p, e1⟩⟩ := Snd.cm2 (T := T) (Wx := Wx) (sn _) (sn _) (sn _) (sn _) (sn _) G.toGood hT tk h
    exact comp_ds (nw := false) ho core (fun T' D hid => reads2 hid ho1 (fun _ _ _ r => r.2) (fun _ _ _ _ _ x r => r.ex x) (readsL hid)) ev_cm2 G.nd (G.ix hi) hyl hsw e1
  · obtain ⟨iter, scope, ow, rfl, ho, core, _, ⟨p, e1⟩⟩ := Snd.cmd (T := T) (Wx := Wx) (sn _) (sn _) (sn _) (sn _) G.toGood hT tk (unnew h)
    refine comp_ds (nw := true) ho core (fun T' D hid => readsD hid) (fun σ h => ?_) G.nd (G.ix hi) hyl hsw e1
    rw [ev_newd (ev_cmd (X := X) σ h)]
    exact new_in fun a h => rfl
  · obtain ⟨iter, scope, ow, rfl, ho, ho1, core, _, ⟨p, e1⟩⟩ := Snd.cmd2 (T := T) (Wx := Wx) (sn _) (sn _) (sn _) (sn _) (sn _) (sn _) G.toGood hT tk (unnew h)
    refine comp_ds (nw := true) ho core (fun T' D hid => reads2 hid ho1 (fun _ _ _ r => r.2) (fun _ _ _ _ _ x r => r.ex x) (readsD hid)) (fun σ h => ?_) G.nd (G.ix hi) hyl hsw e1
    rw [ev_newd (ev_cmd2 (X := X) σ h)]
    exact new_in fun a h => rfl
  · obtain ⟨iter, scope, ow, rfl, ho, ho1, core, _, ⟨p, e1⟩⟩ := Snd.cm2 (T := T) (Wx := Wx) (sn _) (sn _) (sn _) (sn _) (sn _) G.toGood hT tk (unnewL h)
    refine comp_ds (nw := true) ho core (fun T' D hid => reads2 hid ho1 (fun _ _ _ r => r.2) (fun _ _ _ _ _ x r => r.ex x) (readsL hid)) (fun σ h => ?_) G.nd (G.ix hi) hyl hsw e1
    rw [evalE, ev_cm2 (X := X) σ h]
    exact new_in (n := fun x h1 => (match x with | .lit xs => .ok (.ref h1.length) (h1 ++ [.lst xs]) | _ => .no)) fun a h => rfl
  · cases hc
theorem soundS (C : Ctx) (ca : Kn) (k : Nat) (s : S) : SndS C ca k s := by
  have E := sound C ca k
  induction s with
  | skip =>
    refine ⟨fun X M T Wx st G hT tk h => ?_, fun X M T Wx st G hT tk h => ?_⟩
    · unfold mS at h
      split at h
      · exact ds_pass
      · exact ds_doc
      · cases h
    · rw [mSs_skip] at h
      split at h
      · exact ds_nil
      · cases h
  | stop => exact .one (fun X M T Wx st G hT tk h => ⟨fun pins s σ H D I ⟨φ, σb, h, s', rl, p⟩ => by simp only [evalS] at p; exact p.elim⟩) (fun _ _ => rfl)
  | satt o f e =>
    refine .one (fun X M T Wx st G hT tk h => ?_) (fun _ _ => rfl)
    unfold mS at h
    split at h
    · rename_i x g p v pos
      simp only [Bool.and_eq_true, decide_eq_true_eq, Bool.not_eq_true'] at h
      obtain ⟨⟨rfl, h1⟩, h2, h3⟩ := h
      have hx := swapsWith_ok G v (.Attribute x g p) pos.line
      rw [h1] at hx
      exact ds_satt hT G.cf ((E o).e _ _ _ _ _ G.toGood hT tk h2) ((E e).e _ _ _ _ _ G.toGood hT tk h3) hx
    · cases h
  | sattaug o f op e =>
    refine .one (fun X M T Wx st G hT tk h => ?_) (fun _ _ => rfl)
    unfold mS at h
    split at h
    · simp only [Bool.and_eq_true, decide_eq_true_eq] at h
      obtain ⟨⟨rfl, rfl⟩, h2, h3⟩ := h
      exact ds_sattaug hT G.cf ((E o).e _ _ _ _ _ G.toGood hT tk h2) ((E e).e _ _ _ _ _ G.toGood hT tk h3)
    · cases h
  | fz i => exact .one (fun X M T Wx st G hT tk h => by unfold mS at h; cases h) (fun _ _ => rfl)
  | seq a b ia ib =>
    refine ⟨fun X M T Wx st G hT tk h => (by unfold mS at h; cases h), fun X M T Wx st G hT tk h => ?_⟩
    rw [mSs_seq] at h
    split at h
    · rename_i hf
      cases a with
      | fz i => exact (ib.ss _ _ _ _ _ G hT tk h).weak fun D σ H t => fz_read t
      | _ => cases hf
    · split at h
      · simp only [Bool.and_eq_true] at h
        exact ds_cons (ia.s _ _ _ _ _ G hT tk h.1) (ib.ss _ _ _ _ _ G hT tk h.2)
      · cases h
  | expr e =>
    refine .one (fun X M T Wx st G hT tk h => ?_) (fun _ _ => rfl)
    unfold mS at h
    split at h
    · simp only [Bool.and_eq_true] at h
      exact ds_expr ((E e).e _ _ _ _ _ G.toGood hT tk h.2) (swapsWith_none h.1)
    · cases h
  | asg t e =>
    refine .one (fun X M T Wx st G hT tk h => ?_) (fun _ _ => rfl)
    unfold mS at h
    split at h
    · rename_i tg x pos
      split at h
      · rename_i hsw
        split at h
        · rename_i i elt tt it c own y py
          simp only [Bool.and_eq_true, decide_eq_true_eq] at h
          have hx := swapsWith_ok G x (.Name y py) pos.line
          rw [hsw] at hx
          obtain ⟨x', tg, iter, ifs, scope, pos', ow, rfl, rfl, a1, a2, a3, a4, a5, a6, a7⟩ := Snd.cm (E elt) (E it) (E c) G.toGood hT tk h.2
          refine (ds_setLc G.calm G.nd (G.ix h.1) ?_ hx a1 a2 a3 a4 a5 a6 a7).1
          unfold swB at hsw
          simp only [Bool.and_eq_true] at hsw
          rw [G.sc]
          simpa using hsw.1.1
        · rename_i i elt tt it c own y py
          simp only [Bool.and_eq_true, decide_eq_true_eq] at h
          have hx := swapsWith_ok G x (.Name y py) pos.line
          rw [hsw] at hx
          have h2 : mE (.cm elt tt it c own) M x = true := by
            have z := h.2
            unfold mE at z
            simp only [Bool.and_eq_true] at z
            exact z.2
          obtain ⟨x', tg, iter, ifs, scope, pos', ow, rfl, rfl, a1, a2, a3, a4, a5, a6, a7⟩ := Snd.cm (E elt) (E it) (E c) G.toGood hT tk h2
          refine (ds_setLc G.calm G.nd (G.ix h.1) ?_ hx a1 a2 a3 a4 a5 a6 a7).2
          unfold swB at hsw
          simp only [Bool.and_eq_true] at hsw
          rw [G.sc]
          simpa using hsw.1.1
        · rename_i i y py _ _
          simp only [Bool.and_eq_true, decide_eq_true_eq] at h
          have hx := swapsWith_ok G x (.Name y py) pos.line
          rw [hsw] at hx
          refine comp_store G hT tk h.1 h.2.1 h.2.2 ?_ hx
          unfold swB at hsw
          simp only [Bool.and_eq_true] at hsw
          rw [G.sc]
          split at hsw
          · exact (Bool.false_ne_true hsw).elim
          · simp only [Bool.and_eq_true] at hsw
            simpa using hsw.1.1
        · cases h
      · rename_i hsw
        simp only [Bool.and_eq_true, decide_eq_true_eq] at h
        have hx := swapsWith_ok G x tg pos.line
        rw [hsw] at hx
        exact ds_asg ((E e).e _ _ _ _ _ G.toGood hT tk h.2.2) (G.toGood.tg T t tg h.2.1) hx (sts_ok G h.1.1) (notStar_each h.1.2)
    · rename_i tg ann x simple pos
      simp only [Bool.and_eq_true, Bool.not_eq_true'] at h
      have hx := swapsWith_ok G x tg pos.line
      rw [h.1] at hx
      exact ds_ann ((E e).e _ _ _ _ _ G.toGood hT tk h.2.2) (G.toGood.tg T t tg h.2.1) hx
    · cases h
  | par is es =>
    refine .one (fun X M T Wx st G hT tk h => ?_) (fun _ _ => rfl)
    unfold mS at h
    split at h
    · rename_i ts k1 p1 vs k2 p2 pos
      split at h
      · rename_i hw
        simp only [Bool.and_eq_true, decide_eq_true_eq] at h
        refine ds_parG h.1 ((E es).a _ _ _ _ _ G.toGood hT tk h.2.2) (G.toGood.tg T (.tp (tgOf is)) _ ?_) (sts_ok (tg := .Tuple ts k1 p1) (x := .Tuple vs k2 p2) G hw)
        unfold mG
        exact h.2.1
      · rename_i ns hw
        split at h
        · rename_i i j x px y py a b _
          simp only [Bool.and_eq_true, decide_eq_true_eq] at h
          obtain ⟨⟨rfl, h1, h2⟩, ⟨h3, h4⟩, h5, h6⟩ := h
          exact ds_par2 G.calm G.nd (G.ix h1) (G.ix h2) h5 (by rw [G.sc]; exact h3) (by rw [G.sc]; exact h4) ((E es).a _ _ _ _ _ G.toGood hT tk h6) (sts_ok (tg := .Tuple _ k1 p1) (x := .Tuple _ k2 p2) G hw) rfl
        · rename_i i j l x px y py z pz a b c _
          simp only [Bool.and_eq_true, decide_eq_true_eq] at h
          obtain ⟨⟨rfl, h1, h2, h7⟩, ⟨h3, h4, h8⟩, ⟨h5, h9, h10⟩, h6⟩ := h
          exact ds_par3 G.calm G.nd (G.ix h1) (G.ix h2) (G.ix h7) h5 h9 h10 (by rw [G.sc]; exact h3) (by rw [G.sc]; exact h4) (by rw [G.sc]; exact h8) ((E es).a _ _ _ _ _ G.toGood hT tk h6) (sts_ok (tg := .Tuple _ k1 p1) (x := .Tuple _ k2 p2) G hw) rfl
        · cases h
      · cases h
    · cases h
  | aug i op e =>
    refine .one (fun X M T Wx st G hT tk h => ?_) (fun _ _ => rfl)
    unfold mS at h
    split at h
    · simp only [Bool.and_eq_true, decide_eq_true_eq] at h
      obtain ⟨⟨rfl, h1⟩, h2, h3⟩ := h
      exact ds_aug G.nd (G.ix h1) (G.st h2).1 (G.st h2).2 ((E e).e _ _ _ _ _ G.toGood hT tk h3)
    · cases h
  | six o i e =>
    refine .one (fun X M T Wx st G hT tk h => ?_) (fun _ _ => rfl)
    unfold mS at h
    split at h
    · rename_i a b tp x pos
      simp only [Bool.and_eq_true] at h
      refine ds_six G.units (G.hkT hT) ((E e).e _ _ _ _ _ G.toGood hT tk h.2.2.2) ((E o).e _ _ _ _ _ G.toGood hT tk h.2.1) ((E i).e _ _ _ _ _ G.toGood hT tk h.2.2.1) (asg_plain h.1) ?_ (sts_ok (M := M) G (by cases x <;> rfl)) rfl
      have hx := swapsWith_ok G x (.Subscript a b tp) pos.line
      have : swB M x (.Subscript a b tp) = false := by cases x <;> rfl
      rw [this] at hx
      exact hx
    · cases h
  | sixaug o i op e =>
    refine .one (fun X M T Wx st G hT tk h => ?_) (fun _ _ => rfl)
    unfold mS at h
    split at h
    · simp only [Bool.and_eq_true, decide_eq_true_eq] at h
      obtain ⟨⟨rfl, h1⟩, h2, h3, h4⟩ := h
      exact ds_sixaug G.units (G.hkT hT) ((E o).e _ _ _ _ _ G.toGood hT tk h2) ((E i).e _ _ _ _ _ G.toGood hT tk h3) ((E e).e _ _ _ _ _ G.toGood hT tk h4) (aug_plain h1)
    · cases h
  | ite c a b ia ib =>
    refine .one (fun X M T Wx st G hT tk h => ?_) (fun _ _ => rfl)
    unfold mS at h
    split at h
    · simp only [Bool.and_eq_true] at h
      exact ds_if ((E c).t _ _ _ _ _ G.toGood hT tk h.1).1 (ia.ss _ _ _ _ _ G hT tk h.2.1) (ib.ss _ _ _ _ _ G hT tk h.2.2)
    · cases h
  | «for» t it b ib =>
    refine .one (fun X M T Wx st G hT tk h => ?_) (fun _ _ => rfl)
    unfold mS at h
    split at h
    · simp only [Bool.and_eq_true] at h
      exact ds_for G.po G.calm ((E it).i _ _ _ _ _ _ G.toGood hT tk h.2.2.1) (G.toGood.tg T t _ h.2.1) (ib.ss _ _ _ _ _ G hT tk h.2.2.2) (notSet_ok h.1)
    · cases h
  | «while» c b ib =>
    refine .one (fun X M T Wx st G hT tk h => ?_) (fun _ _ => rfl)
    unfold mS at h
    split at h
    · simp only [Bool.and_eq_true] at h
      exact ds_while G.po ((E c).t _ _ _ _ _ G.toGood hT tk h.1).1 (ib.ss _ _ _ _ _ G hT tk h.2)
    · cases h
  | ret e =>
    refine .one (fun X M T Wx st G hT tk h => ?_) (fun _ _ => rfl)
    unfold mS at h
    split at h
    · exact ds_ret ((E e).e _ _ _ _ _ G.toGood hT tk h)
    · unfold isNonE at h
      split at h
      · exact ds_retN
      · cases h
    · cases h
  | brk =>
    refine .one (fun X M T Wx st G hT tk h => ?_) (fun _ _ => rfl)
    unfold mS at h
    split at h
    · exact ds_brk
    · cases h
  | cont =>
    refine .one (fun X M T Wx st G hT tk h => ?_) (fun _ _ => rfl)
    unfold mS at h
    split at h
    · exact ds_cont
    · cases h
end
end Y
/-! Y13: how arguments are bound. -/
namespace Y
open PySem PySem.Spec PyProof.Rows L2

/-! ### the binder -/
theorem kw_loop {f : Str × Value → List (Str × Value) × List (Str × Value) → Sem (ForInStep (List (Str × Value) × List (Str × Value)))} {P : List Str} (hf : ∀ x s, P.contains x.1 = true → s.1.lookup x.1 = none → f x s = pure (.yield (s.1 ++ [x], s.2))) :
    ∀ (kw sl ex : List (Str × Value)), (∀ x ∈ kw, P.contains x.1 = true) → (∀ x ∈ kw, sl.lookup x.1 = none) → (kw.map (·.1)).Nodup → forIn kw (sl, ex) f = pure (sl ++ kw, ex)
  | [], sl, ex, _, _, _ => by rw [List.forIn_nil, List.append_nil]
  | x :: kw, sl, ex, h1, h2, h3 => by
    rw [List.forIn_cons, hf x (sl, ex) (h1 x List.mem_cons_self) (h2 x List.mem_cons_self)]
    have nd := List.nodup_cons.mp h3
    have ih := kw_loop hf kw (sl ++ [x]) ex (fun y hy => h1 y (List.mem_cons_of_mem _ hy)) (fun y hy => ?_) nd.2
    · show forIn kw (sl ++ [x], ex) f = _
      rw [ih, List.append_assoc]; rfl
    · rw [List.lookup_append, h2 y (List.mem_cons_of_mem _ hy)]
      have ne : y.1 ≠ x.1 := fun e => nd.1 (by show x.1 ∈ _; rw [← e]; exact List.mem_map_of_mem hy)
      simp [List.lookup_cons, ne]
def addD : List (Str × Value) → List (Str × Value) → List (Str × Value)
  | [], s => s
  | x :: l, s => if (s.lookup x.1).isNone = true then addD l (s ++ [x]) else addD l s
theorem add_loop {f : Str × Value → List (Str × Value) → Sem (ForInStep (List (Str × Value)))} (hf : ∀ x s, f x s = if (s.lookup x.1).isNone = true then pure (.yield (s ++ [x])) else pure (.yield s)) :
    ∀ (l s : List (Str × Value)), forIn l s f = pure (addD l s)
  | [], s => by rw [List.forIn_nil]; rfl
  | x :: l, s => by
    rw [List.forIn_cons, hf]
    unfold addD
    split
    · exact add_loop hf l _
    · exact add_loop hf l _
theorem addD_lookup (n : Str) : ∀ (l s : List (Str × Value)), (addD l s).lookup n = (s ++ l).lookup n
  | [], s => by rw [List.append_nil]; rfl
  | x :: l, s => by
    unfold addD
    split
    · rw [addD_lookup n l, List.append_assoc]; rfl
    · rename_i c
      rw [addD_lookup n l, List.lookup_append, List.lookup_append]
      cases q : s.lookup n with
      | some v => rfl
      | none =>
        have ne : n ≠ x.1 := by
          rintro rfl
          rw [q] at c
          exact c rfl
        have : (n == x.1) = false := by simpa using ne
        obtain ⟨x1, x2⟩ := x
        simp [List.lookup_cons, this]
theorem lookup_zip_none {α : Type} : ∀ {P : List Str} {us : List α} {k : Str}, k ∉ P.take us.length → (P.zip us).lookup k = none
  | [], _, _, _ => by simp
  | p :: P, [], _, _ => by simp
  | p :: P, u :: us, k, h => by
    simp only [List.length_cons, List.take_succ_cons, List.mem_cons, not_or] at h
    rw [List.zip_cons_cons, List.lookup_cons]
    have : (k == p) = false := by simpa using h.1
    rw [this]
    exact lookup_zip_none h.2
theorem filterMap_all {g : Str → Option Value} : ∀ {P : List Str} {us : List Value}, P.map g = us.map some → P.filterMap (fun n => (g n).map fun x => (n, x)) = P.zip us
  | [], us, h => by simp
  | p :: P, [], h => by simp at h
  | p :: P, u :: us, h => by
    simp only [List.map_cons, List.cons.injEq] at h
    rw [List.filterMap_cons, h.1, List.zip_cons_cons, ← filterMap_all h.2]
    rfl
/-- the names' values: given, by keyword, by default -/
def slotsOf {α : Type} (P : List Str) (us : List α) (ks : List Str) (us2 ds : List α) : List (Str × α) := P.zip us ++ (ks.zip us2 ++ (P.drop (P.length - ds.length)).zip ds)
theorem bind_k {fd : FuncData} {P ks : List Str} {us us2 ds us3 : List Value} (p1 : fd.params.posonlyargs = []) (p2 : fd.params.args.map (·.arg) = P) (p3 : fd.params.vararg = none) (p4 : fd.params.kwonlyargs = []) (p5 : fd.params.kwarg = none)
    (nd : P.Nodup) (hl : us.length ≤ P.length) (hk : ∀ k ∈ ks, k ∈ P.drop us.length) (hnd : ks.Nodup) (h2 : ks.length = us2.length) (hd : ds.length ≤ P.length) (hg : P.map (fun p => (slotsOf P us ks us2 ds).lookup p) = us3.map some) :
    ∃ k, bindArgs fd ⟨us, ks.zip us2⟩ = (seqItems? fd.defaults >>= k) ∧ ∀ o : Option (Array Value), (o.getD #[]).toList = ds → k o = pure (P.zip us3) := by
  have keys : (ks.zip us2).map (·.1) = ks := by rw [List.map_fst_zip]; omega
  have memk : ∀ x ∈ ks.zip us2, x.1 ∈ P.drop us.length := fun x hx => hk _ (by rw [← keys]; exact List.mem_map_of_mem hx)
  have disj : ∀ k, k ∈ P.drop us.length → k ∉ P.take us.length := fun k h1 h3 => by
    have := List.nodup_append.mp ((List.take_append_drop us.length P).symm ▸ nd)
    exact this.2.2 k h3 k h1 rfl
  unfold bindArgs
  dsimp only
  rw [p1, p3, p4, p5]
  simp only [List.map_nil, List.nil_append, List.append_nil, Option.isSome_none, Option.isNone_none, Bool.and_true, p2]
  rw [kw_loop (P := P) (fun x s c1 c2 => by rw [if_pos (by rw [c1]; rfl), if_neg (by rw [c2]; exact Bool.false_ne_true)]) (ks.zip us2) _ _ (fun x hx => by simpa using List.mem_of_mem_drop (memk x hx)) (fun x hx => lookup_zip_none (disj _ (memk x hx))) (by rw [keys]; exact hnd)]
  rw [pure_bind]
  refine ⟨_, rfl, fun o ho => ?_⟩
  dsimp only
  rw [ho]
  rw [if_neg (by simpa using Nat.not_lt.mpr hl)]
  have e0 : List.drop (ds.length - P.length) ds = ds := by rw [Nat.sub_eq_zero_of_le hd]; rfl
  rw [e0]
  have full : ∀ p ∈ P, ((slotsOf P us ks us2 ds).lookup p).isSome = true := fun p hp => by
    have : (slotsOf P us ks us2 ds).lookup p ∈ us3.map some := by rw [← hg]; exact List.mem_map_of_mem hp
    obtain ⟨u, _, e⟩ := List.mem_map.mp this
    rw [← e]; rfl
  have miss : List.filter (fun n => (List.lookup n (P.zip us ++ ks.zip us2)).isNone) (List.take (P.length - ds.length) P) = [] := by
    rw [List.filter_eq_nil_iff]
    intro p hp
    have f := full p (List.mem_of_mem_take hp)
    unfold slotsOf at f
    rw [← List.append_assoc, List.lookup_append] at f
    have n2 : ((P.drop (P.length - ds.length)).zip ds).lookup p = none := by
      refine lookup_zip_none fun z => ?_
      have := List.nodup_append.mp ((List.take_append_drop (P.length - ds.length) P).symm ▸ nd)
      exact this.2.2 p hp p (List.mem_of_mem_take z) rfl
    rw [n2, Option.or_none] at f
    cases q : List.lookup p (P.zip us ++ ks.zip us2) with
    | none => rw [q] at f; cases f
    | some u => simp
  rw [miss]
  rw [if_neg (by simp)]
  rw [add_loop (fun x s => rfl), pure_bind, List.forIn_nil, pure_bind]
  rw [if_neg (by simp)]
  congr 1
  refine filterMap_all ?_
  rw [← hg]
  refine List.map_congr_left fun p _ => ?_
  rw [addD_lookup]
  unfold slotsOf
  rw [List.append_assoc]
end Y
/-! Y14: functions run as Y's; the law's end. -/
namespace Y
open PySem PySem.Spec PyProof.Rows L2

/-! ### values bound -/
section
variable {K : PySem.W.Frag} {T : Tab} {φ : Pl} {H : Hp}
/-- three lists of named values that tell the same -/
inductive R3 (K : PySem.W.Frag) (T : Tab) (φ : Pl) (H : Hp) : List (Str × W) → List (Str × V) → List (Str × Value) → Prop where
  | nil : R3 K T φ H [] [] []
  | cons {k : Str} {w : W} {v : V} {u : Value} {a b c} (r : RV K T φ H w v) (q : RelV v u) (h : R3 K T φ H a b c) : R3 K T φ H ((k, w) :: a) ((k, v) :: b) ((k, u) :: c)
theorem R3.append {a b c a' b' c'} (h : R3 K T φ H a b c) (h' : R3 K T φ H a' b' c') : R3 K T φ H (a ++ a') (b ++ b') (c ++ c') := by
  induction h with
  | nil => exact h'
  | cons r q _ ih => exact .cons r q ih
theorem R3.zip : ∀ {P : List Str} {ws : List W} {vs : List V} {us : List Value}, RVs K T φ H ws vs → Vals vs us → R3 K T φ H (P.zip ws) (P.zip vs) (P.zip us)
  | [], _, _, _, _, _ => by simpa using R3.nil
  | p :: P, [], vs, us, h, r => by
    simp only [RVs] at h; subst h
    cases r
    simpa using R3.nil
  | p :: P, w :: ws, vs, us, h, r => by
    simp only [RVs] at h
    obtain ⟨v, t, rfl, h1, h2⟩ := h
    cases r with
    | cons q r => exact .cons h1 q (R3.zip h2 r)
theorem R3.lookup {a b c} (h : R3 K T φ H a b c) {p : Str} {w : W} (e : a.lookup p = some w) : ∃ v u, b.lookup p = some v ∧ c.lookup p = some u ∧ RV K T φ H w v ∧ RelV v u := by
  induction h with
  | nil => cases e
  | @cons k w' v' u' a b c r q _ ih =>
    rw [List.lookup_cons] at e
    cases z : (p == k) with
    | true =>
      rw [z] at e
      cases e
      exact ⟨v', u', by rw [List.lookup_cons, z], by rw [List.lookup_cons, z], r, q⟩
    | false =>
      rw [z] at e
      obtain ⟨v, u, e1, e2, e3⟩ := ih e
      exact ⟨v, u, by rw [List.lookup_cons, z]; exact e1, by rw [List.lookup_cons, z]; exact e2, e3⟩
theorem R3.all {a b c} (h : R3 K T φ H a b c) : ∀ {P : List Str} {ws : List W}, (P.map (fun p => a.lookup p) : List (Option W)) = ws.map some →
    ∃ (vs : List V) (us : List Value), (P.map (fun p => c.lookup p) : List (Option Value)) = us.map some ∧ RVs K T φ H ws vs ∧ Vals vs us ∧ us.length = P.length
  | [], [], _ => ⟨[], [], rfl, .nil, .nil, rfl⟩
  | [], _ :: _, e => by simp at e
  | _ :: _, [], e => by simp at e
  | p :: P, w :: ws, e => by
    simp only [List.map_cons, List.cons.injEq] at e
    obtain ⟨v, u, e1, e2, r, q⟩ := h.lookup e.1
    obtain ⟨vs, us, h1, h2, h3, h4⟩ := R3.all h e.2
    exact ⟨v :: vs, u :: us, by simp only [List.map_cons, e2, h1], .cons r h2, .cons q h3, by simp [h4]⟩
end
theorem all_some {α : Type} : ∀ {l : List (Option α)}, l.all (·.isSome) = true → ∃ ws : List α, l = ws.map some
  | [], _ => ⟨[], rfl⟩
  | none :: l, h => by simp at h
  | some w :: l, h => by
    simp only [List.all_cons, Option.isSome_some, Bool.true_and] at h
    obtain ⟨ws, e⟩ := all_some h
    exact ⟨w :: ws, by rw [e]; rfl⟩
theorem zip_self {α : Type} : ∀ {P : List Str} {us : List α} {l : List (Str × α)}, P.Nodup → us.length = P.length → P.map (fun p => (P.zip us ++ l).lookup p) = us.map some
  | [], [], _, _, _ => rfl
  | [], _ :: _, _, _, h => by simp at h
  | _ :: _, [], _, _, h => by simp at h
  | p :: P, u :: us, l, nd, h => by
    have nd' := List.nodup_cons.mp nd
    have ih := zip_self (P := P) (us := us) (l := l) nd'.2 (by simpa using h)
    simp only [List.map_cons, List.zip_cons_cons, List.cons_append, List.lookup_cons, BEq.rfl, List.cons.injEq, true_and]
    rw [← ih]
    refine List.map_congr_left fun q hq => ?_
    have ne : q ≠ p := fun e => nd'.1 (by rw [← e]; exact hq)
    have : (q == p) = false := by simpa using ne
    rw [this]

theorem vals_take : ∀ {vs : List V} {us : List Value}, Vals vs us → ∀ n, Vals (vs.take n) (us.take n)
  | _, _, .nil, n => by simp only [List.take_nil]; exact .nil
  | _, _, .cons q r, 0 => by simp only [List.take_zero]; exact .nil
  | _, _, .cons q r, n + 1 => by simp only [List.take_succ_cons]; exact .cons q (vals_take r n)
/-! ### a def -/
def scopeB (N ps : List Str) (sc : Scope) : Bool :=
  (decide (sc.kind = .function) && (!sc.isCoroutine && !sc.isGenerator)) && (decide N.Nodup && (decide (N.take ps.length = ps) && ((ps.all fun x => decide (sc.names.lookup x = some .local) || decide (sc.names.lookup x = some .cell)) && (sc.names.all fun y => !decide (y.2 = .free)))))
theorem scopeB_ok {N ps : List Str} {sc : Scope} (h : scopeB N ps sc = true) : FnScope N ps sc := by
  unfold scopeB at h
  simp only [Bool.and_eq_true, decide_eq_true_eq, Bool.not_eq_true', List.all_eq_true, Bool.or_eq_true, decide_eq_false_iff_not] at h
  obtain ⟨⟨h1, h2, h3⟩, h4, h5, h6, h7⟩ := h
  exact ⟨h1, h2, h3, h4, h5, h6, h7⟩
/-- the def st is the function D: N its slots' names -/
def mF (N fs bl : List Str) (st : Stmt) (D : FD) : Bool :=
  ((match (defArgs st).posonlyargs with | [] => true | _ => false) && (match (defArgs st).kwonlyargs with | [] => true | _ => false) && (match (defArgs st).vararg with | none => true | _ => false) && (match (defArgs st).kwarg with | none => true | _ => false)) &&
  (decide ((defArgs st).args.map (·.arg) = D.ps) && (scopeB N D.ps (defScope st) && (decide (D.n = N.length) && mSs D.body ⟨N, defScope st, defScope st, fs, bl⟩ (defBody st))))
/-- one call, the callees being C's -/
def stepF (C : Ctx) (D : FD) (xs : List W) (kw : List (Str × W)) (h : Hb) : R W := match bindA D xs kw with
  | some σ => (match evalS C D.body σ h with
    | .ok (.rt w) h1 => .ok w h1
    | .ok (.nx _) h1 => .ok .non h1
    | .ex x _ h1 => .ex x h1
    | _ => .no)
  | none => .no
theorem dfl_none {v : Value} (h : v = .none) {k : Option (Array Value) → Sem (List (Str × Value))} {r : List (Str × Value)} {fd : FuncData} {args : Args} (e1 : bindArgs fd args = (seqItems? fd.defaults >>= k)) (hd : fd.defaults = v) (e2 : k none = pure r) (s : Shared) : BindsTo s fd args r := by
  refine BindsTo.of_eq ?_
  rw [e1, hd, h]
  show (do notAStandIn Value.none; pure none) >>= k = _
  exact e2
theorem fnY_ok {P : Program} {w : World} {K : PySem.W.Frag} {mg : Str → Option Value} {base : Heap} {k : Nat} {f : Addr} {fd : FuncData} {x qual y : Str} {st : Stmt} {dvs : List V} {N fs bl : List Str} {ca : Kn} {C : Ctx} {call : Str → List W → List (Str × W) → Hb → R W} {D : FD}
    (F : FunD K x qual (defArgs st) (defBody st) (defScope st) dvs [] f fd) (hm : mF N fs bl st D = true) (hds : ∀ T φ H, RVs K T φ H D.ds dvs) (hfs : ∀ x ∈ fs, ∃ g, mg x = some (.ref g) ∧ PySem.W.keepIn K (.ref g) = true ∧ FnY P w K mg base ca C.call k x g)
    (hbl : ∀ x ∈ bl, mg x = none) (hcf : FldK K ca C) (hcp : PrpK P w K mg base ca C k) (hcm : MthK P w K mg base ca C k) (hck : MkK P w K mg base ca C k) (hhk : ca.hk = hkW w) (hcon : ∀ x w, C.glob x = some w → ∃ u v, mg x = some u ∧ RelV v u ∧ ∀ T φ H, T.ca = ca → RV K T φ H w v) (hc : ∀ xs kw h, call y xs kw h = stepF C D xs kw h) : FnY P w K mg base ca call (k + 1) y f := by
  obtain ⟨oc, od, dV, kV, doc, pm, an, cdv, ct, osl, rfl, lk, hcd, hD, _⟩ := F.ex
  unfold mF at hm
  simp only [Bool.and_eq_true, decide_eq_true_eq] at hm
  obtain ⟨⟨⟨⟨p1, p4⟩, p3⟩, p5⟩, p2, hS, hn, hb⟩ := hm
  have S := scopeB_ok hS
  have ndP : D.ps.Nodup := by rw [← S.pre]; exact S.nd.sublist (List.take_sublist _ _)
  have hpl : D.ps.length ≤ N.length := by have := congrArg List.length S.pre; rw [List.length_take] at this; omega
  refine fnY_of (ps := D.ps) lk hcd S fun T A outer s H φ h us us2 vs vs2 ws ws2 ks Q E hT hr hgd KX r r2 k1 k2 rl p => ?_
  rw [hc] at p
  unfold stepF at p
  cases hbind : bindA D ws (ks.zip ws2) with
  | none => rw [hbind] at p; exact p.elim
  | some σ0 =>
  rw [hbind] at p
  dsimp only at p
  unfold bindA at hbind
  split at hbind
  case isFalse => cases hbind
  rename_i cnd
  cases hbind
  simp only [Bool.and_eq_true, decide_eq_true_eq, List.all_eq_true] at cnd
  obtain ⟨⟨⟨⟨c1, c2⟩, c3⟩, c4⟩, c5⟩ := cnd
  obtain ⟨ws3, e3⟩ := all_some (List.all_eq_true.mpr c4)
  have lw := k1.length
  have lw2 := k2.length
  have lv := r.length
  have lv2 := r2.length
  -- keywords and values, as many
  have zm : ∀ {α : Type} (l : List α), l.length = us2.length → ks.zip l = (ks.take (min ks.length us2.length)).zip (l.take (min ks.length us2.length)) := fun l hl => by
    rw [List.zip_eq_zip_take_min, hl]
  obtain ⟨n, hn0⟩ : ∃ n, n = min ks.length us2.length := ⟨_, rfl⟩
  rw [← hn0] at zm
  have keyW : (ks.zip ws2).map (·.1) = ks.take n := by
    rw [zm ws2 (by omega), List.map_fst_zip]
    simp only [List.length_take]
    omega
  have hk : ∀ z ∈ ks.take n, z ∈ D.ps.drop us.length := fun z hz => by
    rw [← keyW] at hz
    obtain ⟨q, hq, rfl⟩ := List.mem_map.mp hz
    have := c2 q hq
    rw [show us.length = ws.length by omega]
    exact this
  -- by name
  have full : D.ps.map (fun p => (slotsOf D.ps ws (ks.take n) (ws2.take n) D.ds).lookup p) = ws3.map some := by
    unfold slotsOf
    rw [← zm ws2 (by omega), ← e3]
    unfold bindW
    split
    · rename_i z
      simp only [Bool.and_eq_true, decide_eq_true_eq] at z
      exact zip_self ndP z.2
    · rfl
  have goD : ∀ its : List Value, Vals dvs its → ∃ us3 vs3, us3.length = D.ps.length ∧ Vals vs3 us3 ∧ RVs K T φ H ws3 vs3 ∧ ∃ kk, bindArgs (PySem.W.fnOf x qual (defArgs st) (defBody st) (defScope st) dV kV doc pm an cdv ct) ⟨us, ks.zip us2⟩ = (seqItems? dV >>= kk) ∧ ∀ o : Option (Array Value), (o.getD #[]).toList = its → kk o = pure (D.ps.zip us3) := by
    intro its rd
    have rds := hds T φ H
    have l1 := rds.length
    have l2 := rd.length
    have r3 : R3 K T φ H (slotsOf D.ps ws (ks.take n) (ws2.take n) D.ds) (slotsOf D.ps vs (ks.take n) (vs2.take n) dvs) (slotsOf D.ps us (ks.take n) (us2.take n) its) := by
      unfold slotsOf
      rw [show its.length = D.ds.length by omega, show dvs.length = D.ds.length by omega]
      exact (R3.zip k1 r).append ((R3.zip (RVs.take n k2) (vals_take r2 n)).append (R3.zip rds rd))
    obtain ⟨vs3, us3, g1, g2, g3, g4⟩ := r3.all full
    refine ⟨us3, vs3, g4, g3, g2, ?_⟩
    have p1' : (defArgs st).posonlyargs = [] := by split at p1; assumption; cases p1
    have p4' : (defArgs st).kwonlyargs = [] := by split at p4; assumption; cases p4
    have p3' : (defArgs st).vararg = none := by split at p3; assumption; cases p3
    have p5' : (defArgs st).kwarg = none := by split at p5; assumption; cases p5
    rw [zm us2 rfl]
    exact bind_k (fd := PySem.W.fnOf x qual (defArgs st) (defBody st) (defScope st) dV kV doc pm an cdv ct) p1' p2 p3' p4' p5' ndP (by omega) hk (by rw [← keyW]; exact c3) (by simp only [List.length_take]; omega) (by omega) g1
  have body : ∀ us3 vs3, Vals vs3 us3 → RVs K T φ H ws3 vs3 → ∃ t, PSs (cxOf (L2.CX P w) P w K mg base N qual (defScope st) f cdv A outer s H E) (defBody st) t ∧ t { nx := fun _ H' => Q .non H', rt := Q } (L2.start N vs3) H := by
    intro us3 vs3 g3 g2
    have l3 : ws3.length = D.ps.length := by
      have := congrArg List.length full
      simp only [List.length_map] at this
      omega
    have G : GoodS (cxOf (L2.CX P w) P w K mg base N qual (defScope st) f cdv A outer s H E) ⟨N, defScope st, defScope st, fs, bl⟩ ca C k :=
      { hN := rfl, nd := S.nd, sc := rfl, w := fun _ _ => rfl, calm := rfl, units := by have := ((hr.mono (show 4 * k + 3 + 1 ≤ 4 * (k + 1) by omega)).deeper (envOfC qual (defScope st) s.heap.objs.size f cdv)).un; show (A.deeper _).units + 70 < _; omega, guards := hgd, room := (hr.mono (show 4 * k + 3 + 1 ≤ 4 * (k + 1) by omega)).deeper _, mgn := hbl, fns := hfs, cf := hcf, cp := hcp, cm := hcm, ck := hck, hk := hhk, con := hcon, kind := S.kind, po := passes_of rfl }
    refine ⟨_, (soundS C ca k D.body).ss _ _ T (fun cls d _ H => E cls d H) _ G hT (takes_of rfl rfl rfl rfl) hb, φ, bindW D ws (ks.zip ws2) ++ List.replicate (D.n - D.ps.length) none, h, ?_, rl, ?_⟩
    · have := RS.start (N := N) g2 hn
      rw [e3, ← l3]
      exact this
    · cases q : evalS C D.body (bindW D ws (ks.zip ws2) ++ List.replicate (D.n - D.ps.length) none) h with
      | no => rw [q] at p; exact p
      | ex e σ1 h1 => rw [q] at p; exact fun φ' σ' H' cls d x rl' s' rx => p φ' H' cls d x rl' rx
      | ok fl h1 =>
        rw [q] at p
        cases fl with
        | nx σ1 => exact fun φ' σ' H' x rl' s' => p φ' _ H' x rl' .mk_non
        | rt v => exact p
        | bk σ1 => exact p.elim
        | ct σ1 => exact p.elim
  rcases hD with ⟨rfl, rfl⟩ | ⟨_, Ta, o, its, m, rfl, lT, oT, rT⟩
  · obtain ⟨us3, vs3, g4, g3, g2, kk, e1, e2⟩ := goD [] .nil
    obtain ⟨t, ht, hq⟩ := body us3 vs3 g3 g2
    exact ⟨us3, vs3, t, g4, g3, dfl_none rfl e1 rfl (e2 none rfl) s, ht, hq⟩
  · obtain ⟨us3, vs3, g4, g3, g2, kk, e1, e2⟩ := goD its rT
    obtain ⟨t, ht, hq⟩ := body us3 vs3 g3 g2
    exact ⟨us3, vs3, t, g4, g3, BindsTo.of_defaults rfl (KX _ _ lT) oT e1 (e2 _ (by simp)), ht, hq⟩
end Y
/-! Y15: all functions of a program; the law's end. -/
namespace Y
open PySem PySem.Spec PyProof.Rows L2

/-- where a def stands: a global name; a class's method; a property's getter -/
inductive Loc where
  | glo | mth (c m : Str) | prp (c f : Str)
def Loc.isGlo : Loc → Bool
  | .glo => true
  | _ => false
/-- a def of the program: its name here, where it stands, its slots' names, its text, the function -/
structure Df where
  x : Str
  N : List Str
  st : Stmt
  D : FD
  at_ : Loc := .glo
  /-- its own name and its qualified name -/
  nm : Str := x
  qn : Str := x
def prgOf (tb : List Df) (con : List (Str × W)) (cs : List (Str × CD) := []) : Prg := { fns := tb.map fun d => (d.x, d.D), con := con, cls := cs }
def names (tb : List Df) : List Str := tb.map (·.x)
def gnames (tb : List Df) : List Str := (tb.filter (·.at_.isGlo)).map (·.x)
def mAll (bl : List Str) (tb : List Df) : Bool := decide (names tb).Nodup && tb.all fun d => mF d.N (gnames tb) bl d.st d.D
theorem prg_lookup : ∀ {tb : List Df} {con : List (Str × W)} {cs : List (Str × CD)}, (names tb).Nodup → ∀ d ∈ tb, (prgOf tb con cs).fns.lookup d.x = some d.D
  | t :: tb, con, cs, nd, d, hd => by
    have nd' := List.nodup_cons.mp (show (t.x :: names tb).Nodup from nd)
    show List.lookup d.x ((t.x, t.D) :: (tb.map fun d => (d.x, d.D))) = _
    rw [List.lookup_cons]
    rcases List.mem_cons.mp hd with e | e
    · rw [e, beq_self_eq_true]
    · have ne : d.x ≠ t.x := fun z => nd'.1 (by rw [← z]; exact List.mem_map_of_mem e)
      have : (d.x == t.x) = false := by simpa using ne
      rw [this]
      exact prg_lookup (con := con) (cs := cs) nd'.2 d e
/-- where each def stands: adr its address -/
structure Stands (K : PySem.W.Frag) (mg : Str → Option Value) (ca : Kn) (adr : Df → Addr) (d : Df) : Prop where
  glo : d.at_ = .glo → mg d.x = some (.ref (adr d)) ∧ PySem.W.keepIn K (.ref (adr d)) = true
  fn : ∃ fd dvs, FunD K d.nm d.qn (defArgs d.st) (defBody d.st) (defScope d.st) dvs [] (adr d) fd ∧ ∀ T φ H, RVs K T φ H d.D.ds dvs
/-- what the classes are, by what is asked of them -/
structure ClsOk (K : PySem.W.Frag) (mg : Str → Option Value) (ca : Kn) (adr : Df → Addr) (tb : List Df) (cd : Str → CD) : Prop where
  fld : ∀ c f, fldB (cd c) f = true → Cls K (ca.ca c) ∧ NoAttr K (ca.ca c) f
  prp : ∀ c f g, (cd c).prp.lookup f = some g → Cls K (ca.ca c) ∧ ∃ p, ∃ d ∈ tb, d.x = g ∧ PropOf K (ca.ca c) f p (adr d)
  mth : ∀ c m g, (cd c).mth.lookup m = some g → Cls K (ca.ca c) ∧ ∃ d ∈ tb, d.x = g ∧ Meth K (ca.ca c) m (adr d)
  mkr : ∀ c g, (cd c).mth.lookup ("__init__" : Str) = some g → mg c = some (.ref (ca.ca c)) ∧ ∃ d ∈ tb, d.x = g ∧ Mk K (ca.ca c) (adr d)
theorem allY {P : Program} {w : World} {K : PySem.W.Frag} {mg : Str → Option Value} {base : Heap} {ca : Kn} {adr : Df → Addr} {bl : List Str} {tb : List Df} {con : List (Str × W)} {cs : List (Str × CD)} {fuel : Nat} (hm : mAll bl tb = true) (hs : ∀ d ∈ tb, Stands K mg ca adr d) (hc : ClsOk K mg ca adr tb (prgOf tb con cs).cd)
    (hbl : ∀ x ∈ bl, mg x = none) (hhk : ca.hk = hkW w) (hcon : ∀ x w, con.lookup x = some w → ∃ u v, mg x = some u ∧ RelV v u ∧ ∀ T φ H, T.ca = ca → RV K T φ H w v) : ∀ (k : Nat), ∀ d ∈ tb, FnY P w K mg base ca (runF (prgOf tb con cs) fuel k) k d.x (adr d) := by
  unfold mAll at hm
  simp only [Bool.and_eq_true, decide_eq_true_eq, List.all_eq_true] at hm
  intro k
  induction k with
  | zero =>
    intro d hd
    exact ⟨fun T A outer s H φ h us us2 vs vs2 ws ws2 ks Q E _ _ _ _ _ _ _ _ _ p => p.elim⟩
  | succ k ih =>
    intro d hd
    obtain ⟨fd, dvs, h3, h4⟩ := (hs d hd).fn
    refine fnY_ok (C := { call := runF (prgOf tb con cs) fuel k, glob := fun x => (prgOf tb con cs).con.lookup x, fuel := fuel, cd := (prgOf tb con cs).cd }) h3 (hm.2 d hd) h4 (fun x hx => ?_) hbl hc.fld (fun c f g e => ?_) (fun c m g e => ?_) (fun c g e => ?_) hhk hcon fun xs kw h => ?_
    · obtain ⟨d', hd', rfl⟩ := List.mem_map.mp hx
      obtain ⟨m1, m2⟩ := List.mem_filter.mp hd'
      have e : d'.at_ = .glo := by
        cases z : d'.at_ with
        | glo => rfl
        | _ => rw [z] at m2; cases m2
      obtain ⟨g1, g2⟩ := (hs d' m1).glo e
      exact ⟨_, g1, g2, ih d' m1⟩
    · obtain ⟨cl, p, d', hd', rfl, po⟩ := hc.prp c f g e
      exact ⟨cl, p, _, po, ih d' hd'⟩
    · obtain ⟨cl, d', hd', rfl, po⟩ := hc.mth c m g e
      exact ⟨cl, _, po, ih d' hd'⟩
    · obtain ⟨cl, d', hd', rfl, po⟩ := hc.mkr c g e
      exact ⟨cl, _, po, ih d' hd'⟩
    · show runF (prgOf tb con cs) fuel (k + 1) d.x xs kw h = _
      unfold runF
      rw [prg_lookup hm.1 d hd]
      rfl

/-! ### the law's end -/
/-- the script's heap -/
def scriptH (K : PySem.W.Frag) (a : Addr) (o : Obj) (ns : List Int) : Hp := fun b => if b = a ∧ K.lookup a = none then some (.frz o (.lst (ns.map V.int))) else none
theorem scriptH_some {K : PySem.W.Frag} {a : Addr} {o : Obj} {ns : List Int} {b : Addr} {u : HO} (h : scriptH K a o ns b = some u) : b = a ∧ K.lookup a = none ∧ u = .frz o (.lst (ns.map V.int)) := by
  unfold scriptH at h
  split at h
  · rename_i c; cases h; exact ⟨c.1, c.2, rfl⟩
  · cases h
theorem enterY {P : Program} {w : World} {K : PySem.W.Frag} {mg mb : Str → Option Value} {k : Nat} {fa a : Addr} {x : Str} {s₁ : Shared} {vs : List Value} {ns : List Int} {ca : Kn} {call : Str → List W → List (Str × W) → Hb → R W}
    (KX : K.In s₁.heap) (G1 : s₁.heap.Ns mainGlobals mg) (G2 : s₁.heap.Ns builtinsNs mb) (G3 : ∀ x : Str, x ≠ "__name__" → mb x = bootBuiltins x) (G4 : s₁.heap.NoLimit) (G5 : s₁.gens = #[])
    (ha : s₁.heap.get? a = some { cls := .type "list", data := .seq vs.toArray }) (hi : IntsAre vs ns) (hl : ns.length ≤ sizeLine) (hr : Room (4 * k) callerA)
    (F : ∀ base : Heap, K.In base → base.Ns mainGlobals mg → FnY P w K mg base ca call k x fa) (hp : ∃ h', call x [.rol (ns.map W.int)] [] [] = .ok (.bl true) h') :
    codeAny (model P w) callerA (.call (.ref fa) ⟨[.ref a], []⟩) (fun r s' => r = .ok (.ret (.bool true)) ∧ OldK s₁.heap s'.heap ∧ s'.os = s₁.os ∧ AllBare s'.gens) s₁ := by
  have rv := vals_ints hi
  obtain ⟨o, ho⟩ : ∃ o : Obj, o = { cls := .type "list", data := .seq vs.toArray } := ⟨_, rfl⟩
  rw [← ho] at ha
  obtain ⟨H, hH⟩ : ∃ H, H = scriptH K a o ns := ⟨_, rfl⟩
  have some_ : ∀ {b u}, H b = some u → b = a ∧ K.lookup a = none ∧ u = .frz o (.lst (ns.map V.int)) := fun h => scriptH_some (by rw [← hH]; exact h)
  have okH : HOk P w H s₁.heap := fun b u h => by
    obtain ⟨rfl, _, rfl⟩ := some_ h
    have ha' := ha
    rw [ho] at ha'
    exact ⟨ha, by rw [List.length_map]; exact hl, vs, _, rv, ha'⟩
  -- what is no list is not the script
  have noD : ∀ {b : Addr} {ob : Obj} {es : Array DictEntry} {ep : Nat}, s₁.heap.get? b = some ob → ob.data = .dict es ep → H b = none := fun {b ob es ep} e d => by
    cases q : H b with
    | none => rfl
    | some u =>
      obtain ⟨rfl, _, _⟩ := some_ q
      rw [ha] at e
      cases e
      rw [ho] at d
      cases d
  have ns' : ∀ {b : Addr} {m : Str → Option Value}, s₁.heap.Ns b m → (hidT s₁.heap H).Ns b m := fun ⟨ob, es, ep, e, d, r⟩ => ⟨ob, es, ep, hidT_get e (noD e d), d, r⟩
  have kin : K.In (hidT s₁.heap H) := fun b ob e => hidT_get (KX b ob e) (by
    cases q : H b with
    | none => rfl
    | some u =>
      obtain ⟨rfl, n, _⟩ := some_ q
      rw [n] at e
      cases e)
  obtain ⟨mc, c1, c2⟩ := G4
  have e0 : Env0 P w K mg (hidT s₁.heap H) callerA [] s₁ H :=
    { frames := rfl, mod := ⟨kin, ns' G1, ⟨mb, ns' G2, G3⟩, ⟨mc, ns' c1, c2⟩⟩, bs := fun b ob e => of_hidT e, bsz := Nat.le_of_eq (hidT_size _ _), funs := trivial, frf := fun b hb => (by cases hb), hok := okH, bare := .of_eq G5 }
  -- the script as a value
  have script : ∀ T : Tab, (∀ b, ¬ T.hid b) → RV K T [] H (.rol (ns.map W.int)) (.ref a) := fun T hT => by
    simp only [RV]
    refine ⟨a, ns.map V.int, rfl, ?_, RVs.mk_ints ns⟩
    cases hk : K.lookup a with
    | none => exact .inl ⟨⟨by simp, hT a⟩, .inr ⟨o, by rw [hH]; exact if_pos ⟨rfl, hk⟩⟩⟩
    | some ob =>
      have e := KX a ob hk
      rw [ha] at e
      cases e
      refine .inr ⟨o, vs.toArray, _, hk, by rw [ho], by rw [ho], by rw [ho], ?_, by simpa using rv⟩
      rw [List.size_toArray, hi.length]
      exact hl
  obtain ⟨h', hp⟩ := hp
  have T0 : Tab := { ca := ca }
  refine codeAny_mono ((F _ kin (ns' G1)).run { ca := ca } callerA [] s₁ H [] [] [.ref a] [] [.ref a] [] [.rol (ns.map W.int)] [] [] (fun v _ => v = .bl true) (fun _ _ _ => False) rfl hr rfl e0 (.cons rfl .nil) .nil (.cons (script _ fun _ h => h) .nil) .nil ?_ ?_) fun r s' h => ?_
  · exact ⟨fun i j a h => by simp at h, rfl, fun a h => h.elim, fun a h => h.elim, fun n o a h => by simp at h, fun n h => by simp at h⟩
  · show Post K _ _ [] H (call x [.rol (ns.map W.int)] [] []) _
    rw [hp]
    exact fun φ' v H' _ _ r => r.bl_inv
  · cases r with
    | error e =>
      obtain ⟨_, _, _, _, _, _, _, _, _, _, _, _, z⟩ := h
      exact z.elim
    | ok fl =>
      cases fl with
      | next => exact False.elim h
      | brk => exact False.elim h
      | cont => exact False.elim h
      | ret u =>
        obtain ⟨v, H', os, bare, un, ok', r', q⟩ := h
        have q' : v = .bl true := q
        subst q'
        cases (show u = Value.bool true from r')
        refine ⟨rfl, OldK.of_keep fun b ob e => ?_, os, bare⟩
        cases q : H b with
        | none => exact un.keep b ob e q (by intro z; cases z) (by simp)
        | some u =>
          obtain ⟨rfl, _, rfl⟩ := some_ q
          rw [ha] at e
          cases e
          exact (ok' b _ (un.frzs b _ _ q)).1
/-- a law, from its program's functions and from what they come to -/
theorem endY {l : PySem.W.OpenLaw} {n k : Nat} {q : Program} {loose : List Str} {XP : (Str → Option Value) → Heap → Prop} {YP : World → Heap → Prop} {d : DefRec} {x : Str} {call : Str → List W → List (Str × W) → Hb → R W}
    (hn : l.most = some n) (hn2 : n ≤ sizeLine) (hdf : d.params.defaults = []) (hr : Room (4 * k) callerA)
    (F : ∀ (w : World) (mg : Str → Option Value) (fa : Addr) (h : Heap), YP w h → h.Ns mainGlobals mg → mg d.name = some (.ref fa) → ∃ (K : PySem.W.Frag) (ca : Kn), K.In h ∧ ∀ base : Heap, K.In base → base.Ns mainGlobals mg → FnY l.prog w K mg base ca call k x fa)
    (hp : ∀ ns : List Int, ns.length ≤ n → ∃ h', call x [.rol (ns.map W.int)] [] [] = .ok (.bl true) h') :
    PySem.W.WalkO q loose XP YP l.row.toRowW d [] (fun f vs => PySem.call f vs) := by
  refine Att.attach_call hn hdf fun w s₀ s₁ mg mb fa o pm cd doc a vs ns G Y ho hd hcd hmg hobj hints hlen hg => ?_
  obtain ⟨K, ca, KX, hF⟩ := F w mg fa _ Y G.T.g hmg
  exact enterY KX G.T.g G.T.b G.T.builtins G.T.nolimit hg hobj hints (Nat.le_trans hlen hn2) hr hF (hp ns hlen)
end Y
/-! Y16: what the head tells of the defs; the law by its program in Y. -/
namespace Y
open PySem PySem.Spec PyProof.Rows L2

theorem lk_mem {α : Type} {x : Str} {y : α} : ∀ {l : List (Str × α)}, l.lookup x = some y → (x, y) ∈ l
  | [], h => by cases h
  | (k, v) :: r, h => by
    rw [List.lookup_cons] at h
    cases q : x == k with
    | true =>
      rw [q] at h
      cases h
      rw [eq_of_beq q]
      exact List.mem_cons_self
    | false =>
      rw [q] at h
      exact List.mem_cons_of_mem _ (lk_mem h)
def simpleW : W → Bool
  | .non => true
  | .bl _ => true
  | .int _ => true
  | .str _ => true
  | _ => false
/-! ### constants of the top, defaults: what is read in the heap's written part -/
mutual
def wB (K : PySem.W.Frag) : W → Value → Bool
  | .non, .none => true
  | .bl b, .bool c => b == c
  | .int i, .int j _ => decide (i = j)
  | .str x, .str y _ => decide (x = y)
  | .cls c, .ref a => decide (a = He.ga K c)
  | .tup xs, .ref a => match K.lookup a with
    | some o => match o.data with
      | .seq its _ => decide (o.cls = .type "tuple") && (decide (its.size ≤ sizeLine) && wsB K xs its.toList)
      | _ => false
    | none => false
  | .rol xs, .ref a => match K.lookup a with
    | some o => match o.data with
      | .seq its _ => decide (o.cls = .type "list") && (o.dict.isNone && (decide (its.size ≤ sizeLine) && wsB K xs its.toList))
      | _ => false
    | none => false
  | _, _ => false
def wsB (K : PySem.W.Frag) : List W → List Value → Bool
  | [], [] => true
  | x :: xs, u :: us => wB K x u && wsB K xs us
  | _, _ => false
end
def knOf (w : World) (K : PySem.W.Frag) : Kn := { ca := He.ga K, hk := hkW w }
section
variable {K : PySem.W.Frag} {w : World}
mutual
theorem wB_ok : ∀ {x : W} {u : Value}, wB K x u = true → ∃ v, RelV v u ∧ ∀ (T : Tab) (φ : Pl) (H : Hp), T.ca = knOf w K → RV K T φ H x v
  | .non, .none, _ => ⟨.non, rfl, fun _ _ _ _ => .mk_non⟩
  | .bl b, .bool c, h => by
    have e : b = c := by simpa [wB] using h
    exact ⟨.bl b, by rw [e]; rfl, fun _ _ _ _ => .mk_bl b⟩
  | .int i, .int j t, h => by
    have e : i = j := by simpa [wB] using h
    exact ⟨.int i, ⟨t, by rw [e]⟩, fun _ _ _ _ => .mk_int i⟩
  | .str x, .str y t, h => by
    have e : x = y := by simpa [wB] using h
    exact ⟨.str x, ⟨t, by rw [e]⟩, fun _ _ _ _ => .mk_str x⟩
  | .cls c, .ref a, h => by
    have e : a = He.ga K c := by simpa [wB] using h
    exact ⟨.ref a, rfl, fun T φ H hT => by simp only [RV]; rw [hT, e]; rfl⟩
  | .tup xs, .ref a, h => by
    unfold wB at h
    cases q : K.lookup a with
    | none => rw [q] at h; cases h
    | some o =>
      rw [q] at h
      simp only at h
      cases d : o.data with
      | seq its n =>
        rw [d] at h
        simp only [Bool.and_eq_true, decide_eq_true_eq] at h
        obtain ⟨h1, h2, h3⟩ := h
        obtain ⟨vs, r1, r2⟩ := wsB_ok h3
        exact ⟨.ref a, rfl, fun T φ H hT => by simp only [RV]; exact ⟨a, vs, rfl, .inr ⟨o, its, n, q, h1, d, h2, r1⟩, r2 T φ H hT⟩⟩
      | _ => rw [d] at h; cases h
  | .rol xs, .ref a, h => by
    unfold wB at h
    cases q : K.lookup a with
    | none => rw [q] at h; cases h
    | some o =>
      rw [q] at h
      simp only at h
      cases d : o.data with
      | seq its n =>
        rw [d] at h
        simp only [Bool.and_eq_true, decide_eq_true_eq, Option.isNone_iff_eq_none] at h
        obtain ⟨h1, h0, h2, h3⟩ := h
        obtain ⟨vs, r1, r2⟩ := wsB_ok h3
        exact ⟨.ref a, rfl, fun T φ H hT => by simp only [RV]; exact ⟨a, vs, rfl, .inr ⟨o, its, n, q, h1, h0, d, h2, r1⟩, r2 T φ H hT⟩⟩
      | _ => rw [d] at h; cases h
  | .lit _, u, h => by cases u <;> simp [wB] at h
  | .obj _ _ _, u, h => by cases u <;> simp [wB] at h
  | .dic _ _, u, h => by cases u <;> simp [wB] at h
  | .ref _, u, h => by cases u <;> simp [wB] at h
theorem wsB_ok : ∀ {xs : List W} {us : List Value}, wsB K xs us = true → ∃ vs, Vals vs us ∧ ∀ (T : Tab) (φ : Pl) (H : Hp), T.ca = knOf w K → RVs K T φ H xs vs
  | [], [], _ => ⟨[], .nil, fun _ _ _ _ => .nil⟩
  | x :: xs, u :: us, h => by
    obtain ⟨h1, h2⟩ := He.ba (show (wB K x u && wsB K xs us) = true from h)
    obtain ⟨v, r, q⟩ := wB_ok h1
    obtain ⟨vs, rs, qs⟩ := wsB_ok h2
    exact ⟨v :: vs, .cons r rs, fun T φ H hT => .cons (q T φ H hT) (qs T φ H hT)⟩
  | [], _ :: _, h => by cases h
  | _ :: _, [], h => by cases h
end
end
def dvOf : W → He.Dv
  | .bl b => .bl b
  | .int i => .int i
  | .str s => .str s
  | _ => .non
theorem dv_ok {K : PySem.W.Frag} {T : Tab} {φ : Pl} {H : Hp} : ∀ {ws : List W}, ws.all simpleW = true → RVs K T φ H ws ((ws.map dvOf).map (He.Dv.v K))
  | [], _ => .nil
  | w :: ws, h => by
    simp only [List.all_cons, Bool.and_eq_true] at h
    refine .cons ?_ (dv_ok h.2)
    cases w with
    | non => exact .mk_non
    | bl b => exact .mk_bl b
    | int b => exact .mk_int b
    | str b => exact .mk_str b
    | _ => exact (Bool.false_ne_true h.1).elim
/-! ### where the defs stand -/
def gtA (K : PySem.W.Frag) (p : Addr) : Addr := match PySem.W.recIn K p "property" with
  | some (.ref g :: _) => g
  | _ => 0
def dAd (K : PySem.W.Frag) (d : Df) : Addr := match d.at_ with
  | .glo => He.ga K d.x
  | .mth c m => He.ma K (He.ga K c) m
  | .prp c f => gtA K (He.ma K (He.ga K c) f)
/-- what a function is made of -/
abbrev Sig : Type := Option ((Str × Str) × (Arguments × FuncBody × Scope) × (Addr × List (Str × Addr) × Addr))
def sgAt (K : PySem.W.Frag) (a : Addr) : Sig := match K.lookup a with
  | some o => match o.data with
    | .func fd => some ((fd.name, fd.qualname), (fd.params, fd.body, fd.scope), (fd.globals, fd.closure, fd.builtins))
    | _ => none
  | none => none
def sgD (d : Df) : Sig := some ((d.nm, d.qn), (defArgs d.st, .stmts (defBody d.st), defScope d.st), (mainGlobals, [], builtinsNs))
def okAt (K : PySem.W.Frag) (a : Addr) (d : Df) : Bool := d.D.ds.all simpleW && (PySem.W.keepIn K (.ref a) && match K.lookup a with
  | some o => match o.data with
    | .func fd => PySem.W.codeIn K fd.code d.qn && He.dflB K fd.defaults ((d.D.ds.map dvOf).map (He.Dv.v K))
    | _ => false
  | none => false)
theorem fun_at {K : PySem.W.Frag} {a : Addr} {d : Df} (e : sgAt K a = sgD d) (c : okAt K a d = true) : PySem.W.keepIn K (.ref a) = true ∧ ∃ fd dvs, FunD K d.nm d.qn (defArgs d.st) (defBody d.st) (defScope d.st) dvs [] a fd ∧ ∀ T φ H, RVs K T φ H d.D.ds dvs := by
  unfold okAt at c
  rw [Bool.and_eq_true, Bool.and_eq_true] at c
  obtain ⟨c1, kp, c2⟩ := c
  refine ⟨kp, ?_⟩
  unfold sgAt sgD at e
  cases o : K.lookup a with
  | none => rw [o] at c2; cases c2
  | some ob =>
    rw [o] at c2 e
    obtain ⟨oc, od, dt, sl⟩ := ob
    cases dt with
    | func fd =>
      obtain ⟨n1, n2, n3, n4, n5, n6, n7, n8, n9, n10, n11, n12, n13, n14, n15⟩ := fd
      simp only [Option.some.injEq, Prod.mk.injEq] at e
      obtain ⟨⟨rfl, rfl⟩, ⟨rfl, rfl, rfl⟩, rfl, rfl, rfl⟩ := e
      obtain ⟨k1, k2⟩ := He.ba c2
      exact ⟨_, _, ⟨⟨oc, od, n8, n9, n10, n11, n12, n13, n14, sl, rfl, o, k1, He.dflB_ok k2, .inl rfl⟩, kp⟩, fun T φ H => dv_ok c1⟩
    | _ => cases c2
/-! ### the classes -/
def isAt (K : PySem.W.Frag) (tb : List Df) (g : Str) (a : Addr) : Bool := tb.any fun d => d.x == g && decide (dAd K d = a)
theorem isAt_ok {K : PySem.W.Frag} {tb : List Df} {g : Str} {a : Addr} (h : isAt K tb g a = true) : ∃ d ∈ tb, d.x = g ∧ dAd K d = a := by
  obtain ⟨d, hd, h⟩ := List.any_eq_true.mp h
  obtain ⟨h1, h2⟩ := He.ba h
  exact ⟨d, hd, eq_of_beq h1, of_decide_eq_true h2⟩
def prpB (K : PySem.W.Frag) (C : Addr) (f : Str) : Bool :=
  decide (PySem.W.findIn K (.ref C) f = some (some (.ref (He.ma K C f)))) && (decide (PySem.W.specialIn K (.ref (He.ma K C f)) "__get__" = some (some (.builtin "property.__get__"))) && (decide (PySem.W.takesIn K (.ref (He.ma K C f)) = some true) && match PySem.W.recIn K (He.ma K C f) "property" with
    | some (.ref _ :: _) => true
    | _ => false))
theorem prpB_ok {K : PySem.W.Frag} {C : Addr} {f : Str} (h : prpB K C f = true) : PropOf K C f (He.ma K C f) (gtA K (He.ma K C f)) := by
  unfold prpB at h
  simp only [Bool.and_eq_true, decide_eq_true_eq] at h
  obtain ⟨h1, h2, h3, h4⟩ := h
  refine ⟨h1, h2, h3, ?_⟩
  unfold gtA
  split at h4
  · rename_i g r e
    rw [e]
    exact ⟨r, rfl⟩
  · cases h4
def clsB (K : PySem.W.Frag) (tb : List Df) (x : Str × CD) : Bool :=
  (He.Fa.cls x.1).ok K && (x.2.fld.all (fun f => (He.Fa.noat x.1 f).ok K) && (x.2.prp.all (fun y => prpB K (He.ga K x.1) y.1 && isAt K tb y.2 (gtA K (He.ma K (He.ga K x.1) y.1))) &&
    x.2.mth.all fun y => (He.Fa.meth x.1 y.1).ok K && (isAt K tb y.2 (He.ma K (He.ga K x.1) y.1) && (!(y.1 == ("__init__" : Str)) || ((He.Fa.glo x.1).ok K && (He.Fa.mkr x.1).ok K)))))
theorem cls_all {w : World} {K : PySem.W.Frag} {h : Heap} {mg : Str → Option Value} {tb : List Df} {con : List (Str × W)} {cs : List (Str × CD)} (X : K.In h) (G : h.Ns mainGlobals mg) (c : cs.all (clsB K tb) = true) : ClsOk K mg (knOf w K) (dAd K) tb (prgOf tb con cs).cd := by
  have key : ∀ c, (prgOf tb con cs).cd c = {} ∨ ∃ d, (prgOf tb con cs).cd c = d ∧ clsB K tb (c, d) = true := fun x => by
    show ((cs.lookup x).getD {} = {}) ∨ _
    cases q : cs.lookup x with
    | none => exact .inl rfl
    | some d => exact .inr ⟨d, by show (cs.lookup x).getD {} = d; rw [q]; rfl, List.all_eq_true.mp c _ (lk_mem q)⟩
  have key2 : ∀ c, (prgOf tb con cs).cd c = {} ∨ ∃ d, (prgOf tb con cs).cd c = d ∧ Cls K (He.ga K c) ∧ (∀ f ∈ d.fld, NoAttr K (He.ga K c) f) ∧ (∀ y ∈ d.prp, prpB K (He.ga K c) y.1 = true ∧ isAt K tb y.2 (gtA K (He.ma K (He.ga K c) y.1)) = true) ∧
      ∀ y ∈ d.mth, Meth K (He.ga K c) y.1 (He.ma K (He.ga K c) y.1) ∧ isAt K tb y.2 (He.ma K (He.ga K c) y.1) = true ∧ (y.1 = ("__init__" : Str) → (He.Fa.glo c).ok K = true ∧ (He.Fa.mkr c).ok K = true) := fun x => by
    rcases key x with e | ⟨d, e, b⟩
    · exact .inl e
    · refine .inr ⟨d, e, ?_⟩
      unfold clsB at b
      rw [Bool.and_eq_true, Bool.and_eq_true, Bool.and_eq_true, List.all_eq_true, List.all_eq_true, List.all_eq_true] at b
      obtain ⟨b1, b2, b3, b4⟩ := b
      refine ⟨He.cls_ok b1, fun f hf => He.noat_ok (b2 f hf), fun y hy => He.ba (b3 y hy), fun y hy => ?_⟩
      obtain ⟨m1, m2⟩ := He.ba (b4 y hy)
      obtain ⟨m2, m3⟩ := He.ba m2
      refine ⟨He.meth_ok m1, m2, fun ey => ?_⟩
      have : (y.1 == ("__init__" : Str)) = true := by rw [ey]; exact beq_self_eq_true _
      rw [this] at m3
      exact He.ba m3
  refine ⟨fun x f hf => ?_, fun x f g hg => ?_, fun x m g hg => ?_, fun x g hg => ?_⟩
  · rcases key2 x with e | ⟨d, e, k1, k2, _⟩
    · rw [e] at hf; cases hf
    · rw [e] at hf
      exact ⟨k1, k2 f (of_decide_eq_true hf)⟩
  · rcases key2 x with e | ⟨d, e, k1, _, k3, _⟩
    · rw [e] at hg; cases hg
    · rw [e] at hg
      obtain ⟨p1, p2⟩ := k3 _ (lk_mem hg)
      obtain ⟨d', hd', ex, ea⟩ := isAt_ok p2
      exact ⟨k1, _, d', hd', ex, by rw [ea]; exact prpB_ok p1⟩
  · rcases key2 x with e | ⟨d, e, k1, _, _, k4⟩
    · rw [e] at hg; cases hg
    · rw [e] at hg
      obtain ⟨p1, p2, _⟩ := k4 _ (lk_mem hg)
      obtain ⟨d', hd', ex, ea⟩ := isAt_ok p2
      exact ⟨k1, d', hd', ex, by rw [ea]; exact p1⟩
  · rcases key2 x with e | ⟨d, e, k1, _, _, k4⟩
    · rw [e] at hg; cases hg
    · rw [e] at hg
      obtain ⟨p1, p2, p3⟩ := k4 _ (lk_mem hg)
      obtain ⟨p4, p5⟩ := p3 rfl
      obtain ⟨d', hd', ex, ea⟩ := isAt_ok p2
      exact ⟨He.glo_ok X G p4, d', hd', ex, by rw [ea]; exact He.mkr_ok p5⟩
/-! ### what is asked of the head -/
def gloB (K : PySem.W.Frag) (d : Df) : Bool := !d.at_.isGlo || (He.Fa.glo d.x).ok K
def conB (K : PySem.W.Frag) (q : Str × W) : Bool := match PySem.W.nsIn K mainGlobals q.1 with
  | some (some u) => wB K q.2 u
  | _ => false
abbrev Obs : Type := Bool × List Sig
def obsY (tb : List Df) (bl : List Str) (con : List (Str × W)) (cs : List (Str × CD)) (K : PySem.W.Frag) : Obs :=
  ((tb.all fun d => gloB K d && okAt K (dAd K d) d) && ((bl.all fun x => (He.Fa.free x).ok K) && (con.all (conB K) && cs.all (clsB K tb))), tb.map fun d => sgAt K (dAd K d))
def valY (tb : List Df) : Obs := (true, tb.map sgD)
/-- where the facts are read: what the named values reach -/
def rfs (g : Addr → Option Obj) (as : List Addr) : List Addr := as.flatMap fun a => match g a with
  | some o => He.refsD o
  | none => []
def isCls (g : Addr → Option Obj) (a : Addr) : Bool := match g a with
  | some o => match o.data with
    | .cls _ => true
    | _ => false
  | none => false
def dnames (tb : List Df) (con : List (Str × W)) (cs : List (Str × CD)) : List Str := gnames tb ++ (con.map (·.1) ++ cs.map (·.1))
def needs (tb : List Df) (con : List (Str × W)) (cs : List (Str × CD)) (g : Addr → Option Obj) : List Addr :=
  let K0 := He.frG g [mainGlobals]
  let l1 := (dnames tb con cs).map (He.ga K0)
  let l2 := rfs g l1
  let l3 := rfs g (l2.filter (isCls g))
  let K1 := He.frG g (mainGlobals :: (l1 ++ (l2 ++ l3)))
  let l4 := (tb.filter fun d => !d.at_.isGlo).map fun d => match d.at_ with
    | .mth c m => He.ma K1 (He.ga K1 c) m
    | .prp c f => He.ma K1 (He.ga K1 c) f
    | .glo => 0
  let l5 := rfs g l4
  let l6 := rfs g l5
  mainGlobals :: (l1 ++ (l2 ++ (l3 ++ (l4 ++ (l5 ++ l6)))))
def obsYG (tb : List Df) (bl : List Str) (con : List (Str × W)) (cs : List (Str × CD)) (g : Addr → Option Obj) : Obs := obsY tb bl con cs (He.frG g (needs tb con cs g))
def hookY (tb : List Df) (bl : List Str) (con : List (Str × W) := []) (cs : List (Str × CD) := []) : PySem.W.Hook where
  α := Obs
  obs s := obsYG tb bl con cs s.heap.get?
  val _ := valY tb
  says _ h := ∃ K : PySem.W.Frag, K.In h ∧ obsY tb bl con cs K = valY tb
  of _ _ e := ⟨_, He.frG_in, e⟩
  keeps _ _ _ z k := z.elim fun K y => ⟨K, PySem.W.Frag.In.keeps y.1 k, y.2⟩
theorem obsYG_eq {tb : List Df} {bl : List Str} {con : List (Str × W)} {cs : List (Str × CD)} {g : Addr → Option Obj} {s : Shared} (h : ∀ a, g a = s.heap.get? a) : obsYG tb bl con cs g = (hookY tb bl con cs).obs s := by
  rw [show g = s.heap.get? from funext h]
  rfl
theorem map_at {α β : Type} {f g : α → β} : ∀ {l : List α}, l.map f = l.map g → ∀ x ∈ l, f x = g x
  | [], _, x, h => by cases h
  | a :: l, e, x, h => by
    simp only [List.map_cons, List.cons.injEq] at e
    rcases List.mem_cons.mp h with rfl | h
    · exact e.1
    · exact map_at e.2 x h
theorem top_end {l : PySem.W.OpenLaw} {n k fuel : Nat} {q : Program} {loose : List Str} {XP : (Str → Option Value) → Heap → Prop} {d : DefRec} {tb : List Df} {bl : List Str} {con : List (Str × W)} {cs : List (Str × CD)} {x : Str}
    (hn : l.most = some n) (hn2 : n ≤ sizeLine) (hdf : d.params.defaults = []) (hr : Room (4 * k) callerA) (hx : d.name = x) (hm : mAll bl tb = true) (hl : x ∈ gnames tb)
    (hp : ∀ ns : List Int, ns.length ≤ n → ∃ h', runF (prgOf tb con cs) fuel k x [.rol (ns.map W.int)] [] [] = .ok (.bl true) h') :
    PySem.W.WalkO q loose XP (hookY tb bl con cs).says l.row.toRowW d [] (fun f vs => PySem.call f vs) := by
  refine endY hn hn2 hdf hr (x := x) (call := runF (prgOf tb con cs) fuel k) (fun w mg fa h Y G hmg => ?_) hp
  obtain ⟨K, KX, c⟩ := Y
  have c1 := congrArg Prod.fst c
  have c2 := congrArg Prod.snd c
  unfold obsY valY at c1
  simp only [Bool.and_eq_true] at c1
  obtain ⟨d1, d2, d3, d4⟩ := c1
  rw [List.all_eq_true] at d1 d2 d3
  refine ⟨K, knOf w K, KX, fun base _ _ => ?_⟩
  obtain ⟨d', hd', rfl⟩ := List.mem_map.mp hl
  obtain ⟨m1, m2⟩ := List.mem_filter.mp hd'
  have glo : ∀ d ∈ tb, d.at_ = .glo → mg d.x = some (.ref (dAd K d)) := fun d hd e => by
    have := (He.ba (d1 d hd)).1
    unfold gloB at this
    rw [e] at this
    unfold dAd
    rw [e]
    exact He.glo_ok KX G this
  have s : ∀ d ∈ tb, Stands K mg (knOf w K) (dAd K) d := fun d hd => by
    obtain ⟨kp, F⟩ := fun_at (map_at c2 d hd) (He.ba (d1 d hd)).2
    exact ⟨fun e => ⟨glo d hd e, kp⟩, F⟩
  have e' : d'.at_ = .glo := by
    cases z : d'.at_ with
    | glo => rfl
    | _ => rw [z] at m2; cases m2
  have ea := glo d' m1 e'
  rw [hx, ea] at hmg
  cases hmg
  refine allY (fuel := fuel) hm s (cls_all KX G d4) (fun x hx => He.free_ok KX G (d2 x hx)) rfl (fun y u hy => ?_) k d' m1
  have z := d3 _ (lk_mem hy)
  unfold conB at z
  split at z
  · rename_i u' e
    obtain ⟨v, r, q⟩ := wB_ok z
    exact ⟨u', v, PySem.W.mg_of KX G e, r, q⟩
  · cases z
end Y
/-! Z0: how a program in Y is run by rewriting: what is left to do is named, nothing stands under a binder. -/
namespace Y
open PySem

/-! ### expressions -/
def kSlot : Option (Option W) → Hb → R W
  | some (some w), h => .ok w h
  | _, _ => .no
def kBin2 (op : Op) (x : W) (r : R W) : R W := r.bind fun y h2 => binop op x y h2
def kBin (C : Ctx) (op : Op) (b : E) (σ : Sb) (r : R W) : R W := r.bind fun x h1 => kBin2 op x (evalE C b σ h1)
def kNeg (r : R W) : R W := r.bind fun x h1 => (match x with | .int i => .ok (.int (-i)) h1 | _ => .no)
def kCmp2 (op : Cm) (x : W) (r : R W) : R W := r.bind fun y h2 => R.ofB (cmpop op x y h2) h2
def kCmp (C : Ctx) (op : Cm) (b : E) (σ : Sb) (r : R W) : R W := r.bind fun x h1 => kCmp2 op x (evalE C b σ h1)
def kChn3 (o2 : Cm) (y : W) (r : R W) : R W := r.bind fun z h3 => R.ofB (cmpop o2 y z h3) h3
def kChnB (C : Ctx) (o2 : Cm) (c : E) (σ : Sb) (y : W) (h2 : Hb) : Option Bool → R W
  | some true => kChn3 o2 y (evalE C c σ h2)
  | some false => .ok (.bl false) h2
  | none => .no
def kChn2 (C : Ctx) (o1 o2 : Cm) (c : E) (σ : Sb) (x : W) (r : R W) : R W := r.bind fun y h2 => kChnB C o2 c σ y h2 (cmpop o1 x y h2)
def kChn (C : Ctx) (o1 o2 : Cm) (b c : E) (σ : Sb) (r : R W) : R W := r.bind fun x h1 => kChn2 C o1 o2 c σ x (evalE C b σ h1)
def kAnd2 (C : Ctx) (b : E) (σ : Sb) (x : W) (h : Hb) : Option Bool → R W
  | some true => evalE C b σ h
  | some false => .ok x h
  | none => .no
def kAnd (C : Ctx) (b : E) (σ : Sb) (r : R W) : R W := r.bind fun x h1 => kAnd2 C b σ x h1 (truth h1 x)
def kOr2 (C : Ctx) (b : E) (σ : Sb) (x : W) (h : Hb) : Option Bool → R W
  | some true => .ok x h
  | some false => evalE C b σ h
  | none => .no
def kOr (C : Ctx) (b : E) (σ : Sb) (r : R W) : R W := r.bind fun x h1 => kOr2 C b σ x h1 (truth h1 x)
def kTand (C : Ctx) (b : E) (σ : Sb) (r : R W) : R W := r.bind fun x h1 => (match x with | .bl true => evalE C b σ h1 | .bl false => .ok (.bl false) h1 | _ => .no)
def kTor (C : Ctx) (b : E) (σ : Sb) (r : R W) : R W := r.bind fun x h1 => (match x with | .bl true => .ok (.bl true) h1 | .bl false => evalE C b σ h1 | _ => .no)
def kTnot (r : R W) : R W := r.bind fun x h1 => (match x with | .bl b => .ok (.bl (!b)) h1 | _ => .no)
def kTru (r : R W) : R W := r.bind fun x h1 => R.ofB (truth h1 x) h1
def kIte (C : Ctx) (a b : E) (σ : Sb) (r : R W) : R W := r.bind fun x h1 => (match x with | .bl true => evalE C a σ h1 | .bl false => evalE C b σ h1 | _ => .no)
def kCons2 (x : W) (r : R W) : R W := r.bind fun y h2 => (match y with | .tup ys => .ok (.tup (x :: ys)) h2 | _ => .no)
def kCons (C : Ctx) (e : E) (σ : Sb) (r : R W) : R W := r.bind fun x h1 => kCons2 x (evalE C e σ h1)
def kStar2 (xs : List W) (r : R W) : R W := r.bind fun y h2 => (match y with | .tup ys => if small (xs.length + ys.length) then .ok (.tup (xs ++ ys)) h2 else .no | _ => .no)
def kStarB (C : Ctx) (e : E) (σ : Sb) (h : Hb) : Option (List W) → R W
  | some xs => kStar2 xs (evalE C e σ h)
  | none => .no
def kStar (C : Ctx) (e : E) (σ : Sb) (r : R W) : R W := r.bind fun x h1 => kStarB C e σ h1 (items h1 x)
def kTup (r : R W) : R W := r.bind fun x h1 => (match x with | .tup xs => if small xs.length then .ok (.tup xs) h1 else .no | _ => .no)
def kLst (r : R W) : R W := r.bind fun x h1 => (match x with | .tup xs => if small xs.length then .ok (.lit xs) h1 else .no | _ => .no)
def kIx2 (x : W) (r : R W) : R W := r.bind fun y h2 => R.ofO (getIxD h2 x y) h2
def kIx (C : Ctx) (e : E) (σ : Sb) (r : R W) : R W := r.bind fun x h1 => kIx2 x (evalE C e σ h1)
def kCut4 (x : W) (l u : Option Int) (h : Hb) : R W := R.ofO (getCut h x l u) h
def kCutU (x : W) (l : Option Int) (h : Hb) : Option (Option Int) → R W
  | some u => kCut4 x l u h
  | none => .no
def kCut3 (hi : E) (x : W) (l : Option Int) (r : R W) : R W := r.bind fun z h3 => kCutU x l h3 (optP hi z)
def kCutL (C : Ctx) (hi : E) (σ : Sb) (x : W) (h : Hb) : Option (Option Int) → R W
  | some l => kCut3 hi x l (evalE C hi σ h)
  | none => .no
def kCut2 (C : Ctx) (lo hi : E) (σ : Sb) (x : W) (r : R W) : R W := r.bind fun y h2 => kCutL C hi σ x h2 (optP lo y)
def kCut (C : Ctx) (lo hi : E) (σ : Sb) (r : R W) : R W := r.bind fun x h1 => kCut2 C lo hi σ x (evalE C lo σ h1)
def kBi (f : Bi) (r : R W) : R W := r.bind fun x h1 => (match x with | .tup xs => R.ofO (builtin f xs h1) h1 | _ => .no)
def kMt2 (m : Mt) (o : W) (r : R W) : R W := r.bind fun x h2 => (match x with | .tup xs => method m o xs h2 | _ => .no)
def kMtB (C : Ctx) (m : Mt) (es : E) (σ : Sb) (o : W) (h : Hb) : Bool → R W
  | true => kMt2 m o (evalE C es σ h)
  | false => .no
def kMt (C : Ctx) (m : Mt) (es : E) (σ : Sb) (r : R W) : R W := r.bind fun o h1 => kMtB C m es σ o h1 (recv m h1 o)
def kCall2 (C : Ctx) (f : Str) (xs : List W) (ks : List Str) (r : R W) : R W := r.bind fun k h2 => (match k with | .tup vs => C.call f xs (ks.zip vs) h2 | _ => .no)
def kCall (C : Ctx) (f : Str) (ks : List Str) (kes : E) (σ : Sb) (r : R W) : R W := r.bind fun x h1 => (match x with | .tup xs => kCall2 C f xs ks (evalE C kes σ h1) | _ => (evalE C kes σ h1).bind fun _ _ => .no)
def kLit (r : R (List W)) : R W := r.bind fun vs h5 => .ok (.lit vs) h5
def kCmB (C : Ctx) (elt : E) (t : Tg) (c : E) (own : List Nat) (σ : Sb) (w : W) (h1 : Hb) : Option (List W) → R W
  | some ws => kLit (forC (turnC C elt t c own σ) (fun h' => stays h1 h' w) ws [] h1)
  | none => .no
def kCm (C : Ctx) (elt : E) (t : Tg) (c : E) (own : List Nat) (σ : Sb) (r : R W) : R W := r.bind fun w h1 => kCmB C elt t c own σ w h1 (itemsI h1 w)
def rngW (i : Int) (n : Nat) : W := .tup ((List.range n).map fun (k : Nat) => W.int (i + (k : Int)))
def kRng (r : R W) : R W := r.bind fun x h1 => (match x with
    | .int j => if decide (-(2 ^ 61) ≤ j) && decide (j < 2 ^ 61) then .ok (rngW 0 j.toNat) h1 else .no
    | _ => .no)
def kRng2b (x : W) (r : R W) : R W := r.bind fun y h2 => (match x, y with
    | .int i, .int j => if (decide (-(2 ^ 61) ≤ i) && decide (i < 2 ^ 61)) && (decide (-(2 ^ 61) ≤ j) && decide (j < 2 ^ 61)) then .ok (rngW i (j - i).toNat) h2 else .no
    | _, _ => .no)
def kRng2 (C : Ctx) (b : E) (σ : Sb) (r : R W) : R W := r.bind fun x h1 => kRng2b x (evalE C b σ h1)
def enumW (xs : List W) : W := .tup (xs.zipIdx.map fun p => .tup [.int p.2, p.1])
def kEnum (r : R W) : R W := r.bind fun x h1 => (match x with
    | .tup xs => .ok (enumW xs) h1
    | .lit xs => .ok (enumW xs) h1
    | .rol xs => .ok (enumW xs) h1
    | _ => .no)
def zipW (xs ys : List W) : W := .tup ((xs.zip ys).map fun p => .tup [p.1, p.2])
def kZip2 (x : W) (r : R W) : R W := r.bind fun y h2 => (match x, y with
    | .tup xs, .tup ys => .ok (zipW xs ys) h2
    | .lit xs, .lit ys => .ok (zipW xs ys) h2
    | _, _ => .no)
def kZip (C : Ctx) (b : E) (σ : Sb) (r : R W) : R W := r.bind fun x h1 => kZip2 x (evalE C b σ h1)
section
variable (C : Ctx) (σ : Sb) (h : Hb)
@[simp] theorem eSlot (i : Nat) : evalE C (.slot i) σ h = kSlot σ[i]? h := by
  rw [evalE]
  cases q : σ[i]? with
  | none => rfl
  | some o => cases o <;> rfl
@[simp] theorem eNon : evalE C .non σ h = .ok .non h := by rw [evalE]
@[simp] theorem eBl (b : Bool) : evalE C (.bl b) σ h = .ok (.bl b) h := by rw [evalE]
@[simp] theorem eInt (i : Int) : evalE C (.int i) σ h = .ok (.int i) h := by rw [evalE]
@[simp] theorem eStr (s : Str) : evalE C (.str s) σ h = .ok (.str s) h := by rw [evalE]
@[simp] theorem eGlob (x : Str) : evalE C (.glob x) σ h = R.ofO (C.glob x) h := by rw [evalE]
@[simp] theorem eBin (op : Op) (a b : E) : evalE C (.bin op a b) σ h = kBin C op b σ (evalE C a σ h) := by rw [evalE]; rfl
@[simp] theorem eNeg (a : E) : evalE C (.neg a) σ h = kNeg (evalE C a σ h) := by rw [evalE]; rfl
@[simp] theorem eCmp (op : Cm) (a b : E) : evalE C (.cmp op a b) σ h = kCmp C op b σ (evalE C a σ h) := by rw [evalE]; rfl
@[simp] theorem eChn (o1 o2 : Cm) (a b c : E) : evalE C (.chn o1 o2 a b c) σ h = kChn C o1 o2 b c σ (evalE C a σ h) := by rw [evalE]; rfl
@[simp] theorem eAnd (a b : E) : evalE C (.and a b) σ h = kAnd C b σ (evalE C a σ h) := by rw [evalE]; rfl
@[simp] theorem eOr (a b : E) : evalE C (.or a b) σ h = kOr C b σ (evalE C a σ h) := by rw [evalE]; rfl
@[simp] theorem eTand (a b : E) : evalE C (.tand a b) σ h = kTand C b σ (evalE C a σ h) := by rw [evalE]; rfl
@[simp] theorem eTor (a b : E) : evalE C (.tor a b) σ h = kTor C b σ (evalE C a σ h) := by rw [evalE]; rfl
@[simp] theorem eTnot (a : E) : evalE C (.tnot a) σ h = kTnot (evalE C a σ h) := by rw [evalE]; rfl
@[simp] theorem eTru (a : E) : evalE C (.tru a) σ h = kTru (evalE C a σ h) := by rw [evalE]; rfl
@[simp] theorem eIte (c a b : E) : evalE C (.ite c a b) σ h = kIte C a b σ (evalE C c σ h) := by rw [evalE]; rfl
@[simp] theorem eNil : evalE C .nil σ h = .ok (.tup []) h := by rw [evalE]
@[simp] theorem eCons (a r : E) : evalE C (.cons a r) σ h = kCons C r σ (evalE C a σ h) := by rw [evalE]; rfl
@[simp] theorem eStar (a r : E) : evalE C (.star a r) σ h = kStar C r σ (evalE C a σ h) := by rw [evalE]; rfl
@[simp] theorem eTup (es : E) : evalE C (.tup es) σ h = kTup (evalE C es σ h) := by rw [evalE]; rfl
@[simp] theorem eLst (es : E) : evalE C (.lst es) σ h = kLst (evalE C es σ h) := by rw [evalE]; rfl
@[simp] theorem eNew (e : E) : evalE C (.new e) σ h = asNew (evalE C e σ h) := evalE_new C e σ h
@[simp] theorem eIx (a i : E) : evalE C (.ix a i) σ h = kIx C i σ (evalE C a σ h) := by rw [evalE]; rfl
@[simp] theorem eCut (a lo hi : E) : evalE C (.cut a lo hi) σ h = kCut C lo hi σ (evalE C a σ h) := by rw [evalE]; rfl
@[simp] theorem eBi (f : Bi) (es : E) : evalE C (.bi f es) σ h = kBi f (evalE C es σ h) := by rw [evalE]; rfl
@[simp] theorem eMt (m : Mt) (a es : E) : evalE C (.mt m a es) σ h = kMt C m es σ (evalE C a σ h) := by
  rw [evalE]; unfold kMt; congr 1; funext x h1; cases recv m h1 x <;> rfl
@[simp] theorem eCall (f : Str) (es : E) (ks : List Str) (kes : E) : evalE C (.call f es ks kes) σ h = kCall C f ks kes σ (evalE C es σ h) := by
  rw [evalE]; unfold kCall kCall2; congr 1; funext x h1
  cases x <;> first | rfl | (congr 1)
  all_goals (try (funext k h2; cases k <;> rfl))
@[simp] theorem eCm (elt : E) (t : Tg) (it c : E) (own : List Nat) : evalE C (.cm elt t it c own) σ h = kCm C elt t c own σ (evalE C it σ h) := by rw [evalE_cm]; rfl
@[simp] theorem eRng (a : E) : evalE C (.rng a) σ h = kRng (evalE C a σ h) := by rw [evalE]; rfl
@[simp] theorem eRng2 (a b : E) : evalE C (.rng2 a b) σ h = kRng2 C b σ (evalE C a σ h) := by rw [evalE]; rfl
@[simp] theorem eEnum (a : E) : evalE C (.enum a) σ h = kEnum (evalE C a σ h) := by rw [evalE]; rfl
@[simp] theorem eZip (a b : E) : evalE C (.zip a b) σ h = kZip C b σ (evalE C a σ h) := by rw [evalE]; rfl
end

/-! ### statements -/
def thenS (C : Ctx) (b : S) (g : G) : G := g.bind fun fl h1 => (match fl with | .nx σ1 => evalS C b σ1 h1 | fl => .ok fl h1)
def kExpr (σ : Sb) (r : R W) : G := r.go σ fun _ h1 => .ok (.nx σ) h1
def kNx (h : Hb) : Option Sb → G
  | some σ1 => .ok (.nx σ1) h
  | none => .no
def kAsg (t : Tg) (σ : Sb) (r : R W) : G := r.go σ fun w h1 => kNx h1 (setT t w σ)
def kPar (is : List Nat) (σ : Sb) (r : R W) : G := r.go σ fun w h1 => (match w with | .tup ws => kNx h1 (setL is ws σ) | _ => .no)
def kAug3 (i : Nat) (σ : Sb) (r : R W) : G := r.go σ fun z h2 => .ok (.nx (σ.set i (some z))) h2
def kAug2 (i : Nat) (op : Op) (x : W) (σ : Sb) (r : R W) : G := r.go σ fun y h1 => kAug3 i σ (inplace op x y h1)
def kAug (C : Ctx) (i : Nat) (op : Op) (e : E) (σ : Sb) (h : Hb) : Option (Option W) → G
  | some (some x) => kAug2 i op x σ (evalE C e σ h)
  | _ => .no
def kSix4 (σ : Sb) (r : R Unit) : G := r.go σ fun _ h4 => .ok (.nx σ) h4
def kSix3 (σ : Sb) (v x : W) (r : R W) : G := r.go σ fun y h3 => kSix4 σ (setIxD h3 x y v)
def kSix2 (C : Ctx) (i : E) (σ : Sb) (v : W) (r : R W) : G := r.go σ fun x h2 => kSix3 σ v x (evalE C i σ h2)
def kSix (C : Ctx) (o i : E) (σ : Sb) (r : R W) : G := r.go σ fun v h1 => kSix2 C i σ v (evalE C o σ h1)
def kSa4 (σ : Sb) (x y : W) (r : R W) : G := r.go σ fun u h4 => kSix4 σ (setIxD h4 x y u)
def kSa3 (op : Op) (σ : Sb) (x y z : W) (r : R W) : G := r.go σ fun v h3 => kSa4 σ x y (inplace op z v h3)
def kSaB (C : Ctx) (op : Op) (e : E) (σ : Sb) (x y : W) (h : Hb) : Option W → G
  | some z => kSa3 op σ x y z (evalE C e σ h)
  | none => .no
def kSa2 (C : Ctx) (op : Op) (e : E) (σ : Sb) (x : W) (r : R W) : G := r.go σ fun y h2 => kSaB C op e σ x y h2 (getIxL h2 x y)
def kSa (C : Ctx) (i : E) (op : Op) (e : E) (σ : Sb) (r : R W) : G := r.go σ fun x h1 => kSa2 C op e σ x (evalE C i σ h1)
def kIf (C : Ctx) (a b : S) (σ : Sb) (r : R W) : G := r.go σ fun x h1 => (match x with | .bl true => evalS C a σ h1 | .bl false => evalS C b σ h1 | _ => .no)
def kForB (C : Ctx) (t : Tg) (b : S) (σ : Sb) (w : W) (h1 : Hb) : Option (List W) → G
  | some ws => forL (turnF C t b) (fun h' => stays h1 h' w) ws σ h1
  | none => .no
def kFor (C : Ctx) (t : Tg) (b : S) (σ : Sb) (r : R W) : G := r.go σ fun w h1 => kForB C t b σ w h1 (itemsI h1 w)
def kRet (σ : Sb) (r : R W) : G := r.go σ fun w h1 => .ok (.rt w) h1
section
variable (C : Ctx) (σ : Sb) (h : Hb)
@[simp] theorem sSkip : evalS C .skip σ h = .ok (.nx σ) h := by rw [evalS]
@[simp] theorem sSeq (a b : S) : evalS C (.seq a b) σ h = thenS C b (evalS C a σ h) := by rw [evalS]; rfl
@[simp] theorem sExpr (e : E) : evalS C (.expr e) σ h = kExpr σ (evalE C e σ h) := by rw [evalS]; rfl
@[simp] theorem sAsg (t : Tg) (e : E) : evalS C (.asg t e) σ h = kAsg t σ (evalE C e σ h) := by rw [evalS]; rfl
@[simp] theorem sPar (is : List Nat) (e : E) : evalS C (.par is e) σ h = kPar is σ (evalE C e σ h) := by rw [evalS]; rfl
@[simp] theorem sAug (i : Nat) (op : Op) (e : E) : evalS C (.aug i op e) σ h = kAug C i op e σ h σ[i]? := by
  rw [evalS]; cases σ[i]? with
  | none => rfl
  | some o => cases o <;> rfl
@[simp] theorem sSix (o i e : E) : evalS C (.six o i e) σ h = kSix C o i σ (evalE C e σ h) := by rw [evalS]; rfl
@[simp] theorem sSixaug (o i : E) (op : Op) (e : E) : evalS C (.sixaug o i op e) σ h = kSa C i op e σ (evalE C o σ h) := by rw [evalS]; rfl
@[simp] theorem sIte (c : E) (a b : S) : evalS C (.ite c a b) σ h = kIf C a b σ (evalE C c σ h) := by rw [evalS]; rfl
@[simp] theorem sFor (t : Tg) (it : E) (b : S) : evalS C (.for t it b) σ h = kFor C t b σ (evalE C it σ h) := by rw [evalS_for]; rfl
theorem sWhile (c : E) (b : S) : evalS C (.while c b) σ h = whileL (fun σ1 h1 => evalE C c σ1 h1) (fun σ1 h1 => evalS C b σ1 h1) C.fuel σ h := by rw [evalS]
@[simp] theorem sRet (e : E) : evalS C (.ret e) σ h = kRet σ (evalE C e σ h) := by rw [evalS]; rfl
@[simp] theorem sBrk : evalS C .brk σ h = .ok (.bk σ) h := by rw [evalS]
@[simp] theorem sCont : evalS C .cont σ h = .ok (.ct σ) h := by rw [evalS]
end

/-! ### steps -/
section
variable {C : Ctx} {σ : Sb} {h : Hb} {a b c e lo hi es kes elt : E} {x y z w : W} {xs ys ws vs : List W} {op : Op} {o1 o2 : Cm} {t : Tg} {own is : List Nat}
@[simp] theorem small_eq (n : Nat) : small n = decide (n ≤ 16777216) := rfl
@[simp] theorem kSlot_some : kSlot (some (some w)) h = .ok w h := rfl
@[simp] theorem ofB_some {k : Bool} : R.ofB (some k) h = .ok (.bl k) h := rfl
@[simp] theorem ofO_some {α : Type} {k : α} : R.ofO (some k) h = .ok k h := rfl
@[simp] theorem kBin_ok : kBin C op b σ (.ok x h) = kBin2 op x (evalE C b σ h) := rfl
@[simp] theorem kBin2_ok : kBin2 op x (.ok y h) = binop op x y h := rfl
@[simp] theorem kNeg_ok {i : Int} : kNeg (.ok (.int i) h) = .ok (.int (-i)) h := rfl
@[simp] theorem kCmp_ok : kCmp C o1 b σ (.ok x h) = kCmp2 o1 x (evalE C b σ h) := rfl
@[simp] theorem kCmp2_ok : kCmp2 o1 x (.ok y h) = R.ofB (cmpop o1 x y h) h := rfl
@[simp] theorem kChn_ok : kChn C o1 o2 b c σ (.ok x h) = kChn2 C o1 o2 c σ x (evalE C b σ h) := rfl
@[simp] theorem kChn2_ok : kChn2 C o1 o2 c σ x (.ok y h) = kChnB C o2 c σ y h (cmpop o1 x y h) := rfl
@[simp] theorem kChnB_t : kChnB C o2 c σ y h (some true) = kChn3 o2 y (evalE C c σ h) := rfl
@[simp] theorem kChnB_f : kChnB C o2 c σ y h (some false) = .ok (.bl false) h := rfl
@[simp] theorem kChn3_ok : kChn3 o2 y (.ok z h) = R.ofB (cmpop o2 y z h) h := rfl
@[simp] theorem kAnd_ok : kAnd C b σ (.ok x h) = kAnd2 C b σ x h (truth h x) := rfl
@[simp] theorem kAnd2_t : kAnd2 C b σ x h (some true) = evalE C b σ h := rfl
@[simp] theorem kAnd2_f : kAnd2 C b σ x h (some false) = .ok x h := rfl
@[simp] theorem kOr_ok : kOr C b σ (.ok x h) = kOr2 C b σ x h (truth h x) := rfl
@[simp] theorem kOr2_t : kOr2 C b σ x h (some true) = .ok x h := rfl
@[simp] theorem kOr2_f : kOr2 C b σ x h (some false) = evalE C b σ h := rfl
@[simp] theorem kTand_t : kTand C b σ (.ok (.bl true) h) = evalE C b σ h := rfl
@[simp] theorem kTand_f : kTand C b σ (.ok (.bl false) h) = .ok (.bl false) h := rfl
@[simp] theorem kTor_t : kTor C b σ (.ok (.bl true) h) = .ok (.bl true) h := rfl
@[simp] theorem kTor_f : kTor C b σ (.ok (.bl false) h) = evalE C b σ h := rfl
@[simp] theorem kTnot_ok {k : Bool} : kTnot (.ok (.bl k) h) = .ok (.bl (!k)) h := rfl
@[simp] theorem kTru_ok : kTru (.ok x h) = R.ofB (truth h x) h := rfl
@[simp] theorem kIte_t : kIte C a b σ (.ok (.bl true) h) = evalE C a σ h := rfl
@[simp] theorem kIte_f : kIte C a b σ (.ok (.bl false) h) = evalE C b σ h := rfl
@[simp] theorem kCons_ok : kCons C e σ (.ok x h) = kCons2 x (evalE C e σ h) := rfl
@[simp] theorem kCons2_ok : kCons2 x (.ok (.tup ys) h) = .ok (.tup (x :: ys)) h := rfl
@[simp] theorem kStar_ok : kStar C e σ (.ok x h) = kStarB C e σ h (items h x) := rfl
@[simp] theorem kStarB_some : kStarB C e σ h (some xs) = kStar2 xs (evalE C e σ h) := rfl
@[simp] theorem kStar2_ok : kStar2 xs (.ok (.tup ys) h) = if small (xs.length + ys.length) then .ok (.tup (xs ++ ys)) h else .no := rfl
@[simp] theorem kTup_ok : kTup (.ok (.tup xs) h) = if small xs.length then .ok (.tup xs) h else .no := rfl
@[simp] theorem kLst_ok : kLst (.ok (.tup xs) h) = if small xs.length then .ok (.lit xs) h else .no := rfl
@[simp] theorem asNew_ok : asNew (.ok (.lit xs) h) = .ok (.ref h.length) (h ++ [.lst xs]) := rfl
@[simp] theorem kIx_ok : kIx C e σ (.ok x h) = kIx2 x (evalE C e σ h) := rfl
@[simp] theorem kIx2_ok : kIx2 x (.ok y h) = R.ofO (getIxD h x y) h := rfl
@[simp] theorem kCut_ok : kCut C lo hi σ (.ok x h) = kCut2 C lo hi σ x (evalE C lo σ h) := rfl
@[simp] theorem kCut2_ok : kCut2 C lo hi σ x (.ok y h) = kCutL C hi σ x h (optP lo y) := rfl
@[simp] theorem kCutL_some {l : Option Int} : kCutL C hi σ x h (some l) = kCut3 hi x l (evalE C hi σ h) := rfl
@[simp] theorem kCut3_ok {l : Option Int} : kCut3 hi x l (.ok z h) = kCutU x l h (optP hi z) := rfl
@[simp] theorem kCutU_some {l u : Option Int} : kCutU x l h (some u) = R.ofO (getCut h x l u) h := rfl
@[simp] theorem optP_non : optP .non x = some none := rfl
@[simp] theorem optP_int {i j : Int} : optP (.int i) (.int j) = some (some j) := rfl
@[simp] theorem optP_neg {j : Int} : optP (.neg a) (.int j) = some (some j) := rfl
@[simp] theorem optP_slot {i : Nat} {j : Int} : optP (.slot i) (.int j) = some (some j) := rfl
@[simp] theorem optP_bin {j : Int} : optP (.bin op a b) (.int j) = some (some j) := rfl
@[simp] theorem optP_ix {j : Int} : optP (.ix a b) (.int j) = some (some j) := rfl
@[simp] theorem optP_bi {f : Bi} {j : Int} : optP (.bi f a) (.int j) = some (some j) := rfl
@[simp] theorem optP_call {f : Str} {ks : List Str} {j : Int} : optP (.call f a ks b) (.int j) = some (some j) := rfl
@[simp] theorem kBi_ok {f : Bi} : kBi f (.ok (.tup xs) h) = R.ofO (builtin f xs h) h := rfl
@[simp] theorem kMt_ok {m : Mt} : kMt C m es σ (.ok x h) = kMtB C m es σ x h (recv m h x) := rfl
@[simp] theorem kMtB_t {m : Mt} : kMtB C m es σ x h true = kMt2 m x (evalE C es σ h) := rfl
@[simp] theorem kMt2_ok {m : Mt} : kMt2 m x (.ok (.tup xs) h) = method m x xs h := rfl
@[simp] theorem kCall_ok {f : Str} {ks : List Str} : kCall C f ks kes σ (.ok (.tup xs) h) = kCall2 C f xs ks (evalE C kes σ h) := rfl
@[simp] theorem kCall2_ok {f : Str} {ks : List Str} : kCall2 C f xs ks (.ok (.tup vs) h) = C.call f xs (ks.zip vs) h := rfl
@[simp] theorem kCm_ok : kCm C elt t c own σ (.ok w h) = kCmB C elt t c own σ w h (itemsI h w) := rfl
@[simp] theorem kCmB_some : kCmB C elt t c own σ w h (some ws) = kLit (forC (turnC C elt t c own σ) (fun h' => stays h h' w) ws [] h) := rfl
@[simp] theorem kLit_ok : kLit (.ok vs h) = .ok (.lit vs) h := rfl
theorem kRng_ok {j : Int} : kRng (.ok (.int j) h) = if decide (-(2 ^ 61) ≤ j) && decide (j < 2 ^ 61) then .ok (rngW 0 j.toNat) h else .no := rfl
@[simp] theorem kRng2_ok : kRng2 C b σ (.ok x h) = kRng2b x (evalE C b σ h) := rfl
theorem kRng2b_ok {i j : Int} : kRng2b (.int i) (.ok (.int j) h) = if (decide (-(2 ^ 61) ≤ i) && decide (i < 2 ^ 61)) && (decide (-(2 ^ 61) ≤ j) && decide (j < 2 ^ 61)) then .ok (rngW i (j - i).toNat) h else .no := rfl
@[simp] theorem kEnum_tup : kEnum (.ok (.tup xs) h) = .ok (enumW xs) h := rfl
@[simp] theorem kEnum_lit : kEnum (.ok (.lit xs) h) = .ok (enumW xs) h := rfl
@[simp] theorem kEnum_rol : kEnum (.ok (.rol xs) h) = .ok (enumW xs) h := rfl
@[simp] theorem kZip_ok : kZip C b σ (.ok x h) = kZip2 x (evalE C b σ h) := rfl
def kLz2 (x : W) (r : R W) : R W := r.bind fun y h2 => (match x, y with
    | .tup xs, .tup ys => .ok (.lit ((xs.zip ys).map fun p => .tup [p.1, p.2])) h2
    | _, _ => .no)
def kLz (C : Ctx) (b : E) (σ : Sb) (r : R W) : R W := r.bind fun x h1 => kLz2 x (evalE C b σ h1)
@[simp] theorem eLz {C : Ctx} {σ : Sb} {h : Hb} (a b : E) : evalE C (.lzip a b) σ h = kLz C b σ (evalE C a σ h) := by rw [evalE]; rfl
@[simp] theorem kLz_ok {C : Ctx} {b : E} {σ : Sb} {x : W} {h : Hb} : kLz C b σ (.ok x h) = kLz2 x (evalE C b σ h) := rfl
@[simp] theorem kLz2_tup {xs ys : List W} {h : Hb} : kLz2 (.tup xs) (.ok (.tup ys) h) = .ok (.lit ((xs.zip ys).map fun p => .tup [p.1, p.2])) h := rfl
@[simp] theorem kZip2_tup : kZip2 (.tup xs) (.ok (.tup ys) h) = .ok (zipW xs ys) h := rfl
@[simp] theorem kZip2_lit : kZip2 (.lit xs) (.ok (.lit ys) h) = .ok (zipW xs ys) h := rfl
@[simp] theorem thenS_nx {k : S} : thenS C k (.ok (.nx σ) h) = evalS C k σ h := rfl
@[simp] theorem thenS_rt {k : S} : thenS C k (.ok (.rt w) h) = .ok (.rt w) h := rfl
@[simp] theorem thenS_bk {k : S} : thenS C k (.ok (.bk σ) h) = .ok (.bk σ) h := rfl
@[simp] theorem thenS_ct {k : S} : thenS C k (.ok (.ct σ) h) = .ok (.ct σ) h := rfl
@[simp] theorem kExpr_ok : kExpr σ (.ok x h) = .ok (.nx σ) h := rfl
@[simp] theorem kNx_some : kNx h (some σ) = .ok (.nx σ) h := rfl
@[simp] theorem kAsg_ok : kAsg t σ (.ok w h) = kNx h (setT t w σ) := rfl
@[simp] theorem kPar_ok : kPar is σ (.ok (.tup ws) h) = kNx h (setL is ws σ) := rfl
@[simp] theorem kAug_some {i : Nat} : kAug C i op e σ h (some (some x)) = kAug2 i op x σ (evalE C e σ h) := rfl
@[simp] theorem kAug2_ok {i : Nat} : kAug2 i op x σ (.ok y h) = kAug3 i σ (inplace op x y h) := rfl
@[simp] theorem kAug3_ok {i : Nat} : kAug3 i σ (.ok z h) = .ok (.nx (σ.set i (some z))) h := rfl
@[simp] theorem kSix_ok : kSix C a b σ (.ok w h) = kSix2 C b σ w (evalE C a σ h) := rfl
@[simp] theorem kSix2_ok : kSix2 C b σ w (.ok x h) = kSix3 σ w x (evalE C b σ h) := rfl
@[simp] theorem kSix3_ok : kSix3 σ w x (.ok y h) = kSix4 σ (setIxD h x y w) := rfl
@[simp] theorem kSix4_ok {u : Unit} : kSix4 σ (.ok u h) = .ok (.nx σ) h := rfl
@[simp] theorem kSa_ok : kSa C b op e σ (.ok x h) = kSa2 C op e σ x (evalE C b σ h) := rfl
@[simp] theorem kSa2_ok : kSa2 C op e σ x (.ok y h) = kSaB C op e σ x y h (getIxL h x y) := rfl
@[simp] theorem kSaB_some : kSaB C op e σ x y h (some z) = kSa3 op σ x y z (evalE C e σ h) := rfl
@[simp] theorem kSa3_ok : kSa3 op σ x y z (.ok w h) = kSa4 σ x y (inplace op z w h) := rfl
@[simp] theorem kSa4_ok : kSa4 σ x y (.ok w h) = kSix4 σ (setIxD h x y w) := rfl
@[simp] theorem kIf_t {k l : S} : kIf C k l σ (.ok (.bl true) h) = evalS C k σ h := rfl
@[simp] theorem kIf_f {k l : S} : kIf C k l σ (.ok (.bl false) h) = evalS C l σ h := rfl
@[simp] theorem kFor_ok {k : S} : kFor C t k σ (.ok w h) = kForB C t k σ w h (itemsI h w) := rfl
@[simp] theorem kForB_some {k : S} : kForB C t k σ w h (some ws) = forL (turnF C t k) (fun h' => stays h h' w) ws σ h := rfl
@[simp] theorem kRet_ok : kRet σ (.ok w h) = .ok (.rt w) h := rfl
end
/-- what a function answers -/
def kFin : G → R W
  | .ok (.rt w) h1 => .ok w h1
  | .ok (.nx _) h1 => .ok .non h1
  | .ex x _ h1 => .ex x h1
  | _ => .no
@[simp] theorem kFin_rt {w : W} {h : Hb} : kFin (.ok (.rt w) h) = .ok w h := rfl
@[simp] theorem kFin_nx {σ : Sb} {h : Hb} : kFin (.ok (.nx σ) h) = .ok .non h := rfl
theorem stepF_of {C : Ctx} {D : FD} {xs : List W} {kw : List (Str × W)} {h : Hb} {σ : Sb} (e : bindA D xs kw = some σ) : stepF C D xs kw h = kFin (evalS C D.body σ h) := by
  unfold stepF; rw [e]; rfl
theorem runF_step {tb : List Df} {con : List (Str × W)} {fuel k : Nat} {x : Str} {D : FD} (e : (prgOf tb con).fns.lookup x = some D) (xs : List W) (kw : List (Str × W)) (h : Hb) :
    runF (prgOf tb con) fuel (k + 1) x xs kw h = stepF { call := runF (prgOf tb con) fuel k, glob := fun y => (prgOf tb con).con.lookup y, fuel := fuel } D xs kw h := by
  rw [runF, e]; rfl
/-! ### values -/
section
variable {h : Hb} {i j : Int} {s t : Str} {p q : Bool} {xs ys : List W}
@[simp] theorem add_ii : binop .add (.int i) (.int j) h = .ok (.int (i + j)) h := rfl
@[simp] theorem sub_ii : binop .sub (.int i) (.int j) h = .ok (.int (i - j)) h := rfl
theorem mul_l (c : -(2 ^ 64) < i ∧ i < 2 ^ 64) : binop .mul (.int i) (.int j) h = .ok (.int (i * j)) h := by
  exact if_pos (by simp only [Bool.or_eq_true, Bool.and_eq_true, decide_eq_true_eq]; exact .inl c)
theorem mul_r (c : -(2 ^ 64) < j ∧ j < 2 ^ 64) : binop .mul (.int i) (.int j) h = .ok (.int (i * j)) h := by
  exact if_pos (by simp only [Bool.or_eq_true, Bool.and_eq_true, decide_eq_true_eq]; exact .inr c)
theorem fdv_ii (c : 0 < j ∧ j < 1073741824) : binop .fdv (.int i) (.int j) h = .ok (.int (i / j)) h := by simp [binop, c.1, c.2]
theorem mod_ii (c : 0 < j) : binop .mod (.int i) (.int j) h = .ok (.int (i % j)) h := by simp [binop, c]
theorem pow_ii (c : 0 ≤ j ∧ j ≤ 1000000 ∧ i.natAbs < 2 ^ 64) : binop .pow (.int i) (.int j) h = .ok (.int (i ^ j.toNat)) h := by simp only [binop, c.1, c.2.1, c.2.2]; simp
theorem add_ss (c : s.length + t.length ≤ 16777216) : binop .add (.str s) (.str t) h = .ok (.str (s ++ t)) h := by simp [binop, small, c]
theorem add_tt (c : xs.length + ys.length ≤ 16777216) : binop .add (.tup xs) (.tup ys) h = .ok (.tup (xs ++ ys)) h := by simp [binop, small, c]
theorem add_ll (c : xs.length + ys.length ≤ 16777216) : binop .add (.lit xs) (.lit ys) h = .ok (.lit (xs ++ ys)) h := by simp [binop, small, c]
@[simp] theorem lt_ii : cmpop .lt (.int i) (.int j) h = some (decide (i < j)) := rfl
@[simp] theorem le_ii : cmpop .le (.int i) (.int j) h = some (decide (i ≤ j)) := rfl
@[simp] theorem gt_ii : cmpop .gt (.int i) (.int j) h = some (decide (j < i)) := rfl
@[simp] theorem ge_ii : cmpop .ge (.int i) (.int j) h = some (decide (j ≤ i)) := rfl
@[simp] theorem le_bb : cmpop .le (.bl p) (.bl q) h = some (!p || q) := rfl
@[simp] theorem is_n {a : W} : cmpop .is a .non h = some a.isN := by cases a <;> rfl
@[simp] theorem isn_n {a : W} : cmpop .isn a .non h = some (!a.isN) := by cases a <;> rfl
@[simp] theorem is_bb : cmpop .is (.bl p) (.bl q) h = some (decide (p = q)) := rfl
@[simp] theorem isn_bb : cmpop .isn (.bl p) (.bl q) h = some (!decide (p = q)) := rfl
@[simp] theorem eq_v {a b : W} : cmpop .eq a b h = eqD h a b := by cases a <;> cases b <;> rfl
@[simp] theorem ne_v {a b : W} : cmpop .ne a b h = (eqD h a b).map (!·) := by cases a <;> cases b <;> rfl
@[simp] theorem in_v {a b : W} : cmpop .inn a b h = isInD h a b := by cases a <;> cases b <;> rfl
@[simp] theorem nin_v {a b : W} : cmpop .nin a b h = (isInD h a b).map (!·) := by cases a <;> cases b <;> rfl
@[simp] theorem truth_b : truth h (.bl p) = some p := rfl
@[simp] theorem truth_i : truth h (.int i) = some (i != 0) := rfl
@[simp] theorem truth_n : truth h .non = some false := rfl
@[simp] theorem truth_t : truth h (.tup xs) = some (!xs.isEmpty) := rfl
@[simp] theorem truth_l : truth h (.lit xs) = some (!xs.isEmpty) := rfl
@[simp] theorem items_t : items h (.tup xs) = some xs := rfl
@[simp] theorem items_l : items h (.lit xs) = some xs := rfl
@[simp] theorem items_r : items h (.rol xs) = some xs := rfl
@[simp] theorem itemsL_l : itemsL h (.lit xs) = some xs := rfl
@[simp] theorem itemsL_r : itemsL h (.rol xs) = some xs := rfl
@[simp] theorem itemsI_t : itemsI h (.tup xs) = some xs := rfl
@[simp] theorem itemsI_l : itemsI h (.lit xs) = some xs := rfl
@[simp] theorem itemsI_r : itemsI h (.rol xs) = some xs := rfl
@[simp] theorem itemsI_d : itemsI h (.dic xs ys) = some xs := rfl
theorem itemsI_ref {n : Nat} (e : h[n]? = some (.lst xs)) : itemsI h (.ref n) = some xs := by simp only [itemsI, items, e]
@[simp] theorem isInD_t {a : W} : isInD h a (.tup xs) = isIn h a (.tup xs) := rfl
@[simp] theorem isInD_l {a : W} : isInD h a (.lit xs) = isIn h a (.lit xs) := rfl
@[simp] theorem isInD_s {a : W} : isInD h a (.str s) = isIn h a (.str s) := rfl
theorem isInD_ref {a : W} {n : Nat} (e : h[n]? = some (.lst xs)) : isInD h a (.ref n) = isIn h a (.ref n) := by simp only [isInD, dOf, e]
@[simp] theorem getIxD_t {a : W} : getIxD h (.tup xs) a = getIx h (.tup xs) a := rfl
@[simp] theorem getIxD_l {a : W} : getIxD h (.lit xs) a = getIx h (.lit xs) a := rfl
@[simp] theorem getIxD_r {a : W} : getIxD h (.rol xs) a = getIx h (.rol xs) a := rfl
@[simp] theorem getIxD_s {a : W} : getIxD h (.str s) a = getIx h (.str s) a := rfl
theorem getIxD_ref {n : Nat} {a : W} (e : h[n]? = some (.lst xs)) : getIxD h (.ref n) a = getIx h (.ref n) a := by simp only [getIxD, dOf, e]
theorem setIxD_ref {n : Nat} {a b : W} (e : h[n]? = some (.lst xs)) : setIxD h (.ref n) a b = setIx h (.ref n) a b := by simp only [setIxD, e]
@[simp] theorem getIx_t : getIx h (.tup xs) (.int i) = (L2.ixN xs.length i).bind fun j => xs[j]? := rfl
@[simp] theorem getIx_l : getIx h (.lit xs) (.int i) = (L2.ixN xs.length i).bind fun j => xs[j]? := rfl
@[simp] theorem getIx_r : getIx h (.rol xs) (.int i) = (L2.ixN xs.length i).bind fun j => xs[j]? := rfl
theorem getIx_ref {n : Nat} (e : h[n]? = some (.lst xs)) : getIx h (.ref n) (.int i) = (L2.ixN xs.length i).bind fun j => xs[j]? := by simp only [getIx, e]
@[simp] theorem len_t : builtin .len [.tup xs] h = some (.int xs.length) := rfl
@[simp] theorem len_l : builtin .len [.lit xs] h = some (.int xs.length) := rfl
@[simp] theorem int_i : builtin .int [.int i] h = some (.int i) := rfl
@[simp] theorem int_b : builtin .int [.bl p] h = some (.int (if p then 1 else 0)) := rfl
@[simp] theorem abs_i : builtin .abs [.int i] h = some (.int (if i < 0 then -i else i)) := rfl
@[simp] theorem tuple_t : builtin .tuple [.tup xs] h = some (.tup xs) := rfl
@[simp] theorem tuple_l : builtin .tuple [.lit xs] h = some (.tup xs) := rfl
@[simp] theorem list_t : builtin .list [.tup xs] h = some (.lit xs) := rfl
@[simp] theorem list_l : builtin .list [.lit xs] h = some (.lit xs) := rfl
@[simp] theorem list_r : builtin .list [.rol xs] h = some (.lit xs) := rfl
@[simp] theorem bool_b : builtin .bool [.bl p] h = some (.bl p) := rfl
@[simp] theorem max_ii : builtin .max [.int i, .int j] h = some (.int (if j > i then j else i)) := rfl
@[simp] theorem min_ii : builtin .min [.int i, .int j] h = some (.int (if j < i then j else i)) := rfl
@[simp] theorem snap_b : snap h (.bl p) = .bl p := rfl
@[simp] theorem snap_i : snap h (.int i) = .int i := rfl
@[simp] theorem snap_s : snap h (.str s) = .str s := rfl
@[simp] theorem snap_n : snap h .non = .non := rfl
@[simp] theorem snap_t : snap h (.tup xs) = .tup xs := rfl
@[simp] theorem snap_l : snap h (.lit xs) = .lit xs := rfl
@[simp] theorem eq_ss : eqD h (.str s) (.str t) = some (decide (s = t)) := rfl
@[simp] theorem eq_ii : eqD h (.int i) (.int j) = some (decide (i = j)) := rfl
@[simp] theorem eq_bb : eqD h (.bl p) (.bl q) = some (decide (p = q)) := rfl
end
end Y
/-! Z1: the pen of the laws: draws. -/
namespace Y
open PySem

/-- the pen: the cells, the place, what is left of a great cell -/
structure Pn where
  cs : List Int
  at_ : Int
  gr : Int
def Pn.o (P : Pn) : O := .lst [.lit (P.cs.map .int), .int P.at_, .int P.gr]
/-- at most n draws behind it -/
def Pn.ok (P : Pn) (n : Nat) : Prop := P.cs.length ≤ 63 ∧ 0 ≤ P.at_ ∧ P.at_ ≤ n ∧ 0 ≤ P.gr
theorem Pn.ok.mono {P : Pn} {m n : Nat} (h : P.ok m) (l : m ≤ n) : P.ok n := ⟨h.1, h.2.1, by have := h.2.2.1; omega, h.2.2.2⟩
theorem ixN_nat {n k : Nat} (h : k < n) : L2.ixN n (k : Int) = some k := by
  unfold L2.ixN
  rw [if_pos (by omega), if_pos (by omega)]
  simp
theorem ixN_int {n : Nat} {i : Int} (h0 : 0 ≤ i) (h : i < n) : L2.ixN n i = some i.toNat := by
  unfold L2.ixN
  rw [if_pos h0, if_pos h]
theorem pds_ints : ∀ cs : List Int, W.pds (cs.map .int) = some (cs.map .int)
  | [] => rfl
  | c :: cs => by simp [W.pds, W.pd, pds_ints cs]
theorem lay_ints : ∀ cs : List Int, PyData.canLayAll0 (cs.map .int) = true
  | [] => by simp [PyData.canLayAll0]
  | c :: cs => by simp [PyData.canLayAll0, PyData.canLay0, lay_ints cs]
theorem depth_ints : ∀ cs : List Int, PyData.depthAll (cs.map .int) ≤ 1
  | [] => by simp [PyData.depthAll]
  | c :: cs => by
    have := depth_ints cs
    simp [PyData.depthAll, PyData.depth]
    omega
theorem shaped_ints (cs : List Int) : SeqAt.shaped (.list (cs.map .int)) = true := by
  have h1 := lay_ints cs
  have h2 := depth_ints cs
  simp only [SeqAt.shaped, PyData.canLay0, h1, PyData.depth, Bool.true_and, decide_eq_true_eq]
  exact decide_eq_true (by omega)
theorem ne_nil_ints (h : Hb) (cs : List Int) : eqD h (.lit (cs.map .int)) (.lit []) = some cs.isEmpty := by
  show eqG h _ _ = _
  have h0 : SeqAt.shaped (.list ([] : List PyData)) = true := shaped_ints []
  simp only [eqG, snap, W.pd, pds_ints, W.pds, shaped_ints, h0, Bool.and_self, if_true]
  cases cs <;> simp [PyData.eqv, PyData.eqvAll]

/-! ### the laws' draw -/
structure Dc where
  A : Int
  B : Int
  M0 : Int
  B1 : Int
  C1 : Int
  M1 : Int
  D : Int
  E1 : Int
  F : Int
  M2 : Int
def Dc.mix (c : Dc) : S :=
    .seq (.asg (.nm 6) (.bin .mod (.bi .int (.cons (.bin .pow (.bin .add (.bin .add (.bin .mod (.bi .int (.cons (.slot 4) .nil)) (.int c.M0)) (.bin .mul (.int c.B1) (.slot 3))) (.int c.C1)) (.int 5)) .nil)) (.int c.M1)))
    (.seq (.asg (.nm 6) (.bin .mod (.bi .int (.cons (.bin .pow (.bin .add (.bin .add (.bin .mul (.slot 6) (.bin .add (.bin .mul (.int 2) (.slot 3)) (.int c.D))) (.bin .mul (.bin .mul (.int c.E1) (.slot 3)) (.slot 3))) (.int c.F)) (.int 3)) .nil)) (.int c.M2)))
    (.seq (.ret (.bin .mod (.bi .int (.cons (.bin .fdv (.slot 6) (.int 32)) .nil)) (.slot 1)))
    .skip))
def Dc.great (c : Dc) : S :=
    .seq (.ite (.tand (.cmp .lt (.slot 3) (.bi .len (.cons (.ix (.slot 0) (.int 0)) .nil))) (.cmp .ge (.bi .abs (.cons (.slot 4) .nil)) (.bin .pow (.int 10) (.int 18))))
    (.seq (.asg (.nm 5) (.bin .add (.bin .mul (.int 2) (.bin .sub (.bi .abs (.cons (.slot 4) .nil)) (.bin .pow (.int 10) (.int 18)))) (.bi .int (.cons (.cmp .lt (.slot 4) (.int 0)) .nil))))
    (.seq (.six (.slot 0) (.int 2) (.bin .fdv (.bi .int (.cons (.slot 5) .nil)) (.slot 1)))
    (.seq (.ret (.bin .mod (.bi .int (.cons (.slot 5) .nil)) (.slot 1)))
    .skip)))
    .skip)
    c.mix
def Dc.fd (c : Dc) (ps : List Str) : FD := { ps := ps, n := 7, body :=
    (.seq (.ite (.cmp .gt (.ix (.slot 0) (.int 2)) (.int 0))
    (.seq (.asg (.nm 2) (.bin .mod (.bi .int (.cons (.ix (.slot 0) (.int 2)) .nil)) (.slot 1)))
    (.seq (.six (.slot 0) (.int 2) (.bin .fdv (.bi .int (.cons (.ix (.slot 0) (.int 2)) .nil)) (.slot 1)))
    (.seq (.ret (.slot 2))
    .skip)))
    .skip)
    (.seq (.asg (.nm 3) (.ix (.slot 0) (.int 1)))
    (.seq (.six (.slot 0) (.int 1) (.bin .add (.slot 3) (.int 1)))
    (.seq (.asg (.nm 4) (.bin .add (.bin .mul (.int c.A) (.slot 3)) (.int c.B)))
    (.seq (.ite (.cmp .ne (.ix (.slot 0) (.int 0)) (.lst .nil))
    (.seq (.asg (.nm 4) (.ix (.ix (.slot 0) (.int 0)) (.bin .mod (.bi .int (.cons (.slot 3) .nil)) (.bi .len (.cons (.ix (.slot 0) (.int 0)) .nil)))))
    .skip)
    .skip)
    c.great))))) }
/-- the constants' size -/
structure Dc.ok (c : Dc) : Prop where
  A : -(2 ^ 64) < c.A ∧ c.A < 2 ^ 64
  M0 : 0 < c.M0 ∧ c.M0 < 2 ^ 31
  B1 : 0 ≤ c.B1 ∧ c.B1 < 2 ^ 20
  C1 : 0 ≤ c.C1 ∧ c.C1 < 2 ^ 20
  M1 : 0 < c.M1 ∧ c.M1 < 2 ^ 31
  D : 0 ≤ c.D ∧ c.D < 2 ^ 20
  E1 : 0 ≤ c.E1 ∧ c.E1 < 2 ^ 20
  F : 0 ≤ c.F ∧ c.F < 2 ^ 20
  M2 : 0 < c.M2 ∧ c.M2 < 2 ^ 31
theorem mulb {a b A B : Int} (h1 : 0 ≤ a) (h2 : a < A) (h3 : 0 ≤ b) (h4 : b ≤ B) : 0 ≤ a * b ∧ a * b ≤ A * B := ⟨Int.mul_nonneg h1 h3, Int.mul_le_mul (by omega) h4 h3 (by omega)⟩
theorem Dc.mix_ok (C : Ctx) (c : Dc) (hc : c.ok) {cs : List Int} {at_ cell m : Int} {n : Nat} {r : Hb} {s2 s5 s6 : Option W} (h1 : cs.length ≤ 63) (h2 : 0 ≤ at_) (h3 : at_ ≤ n) (hn : n ≤ 100000) (hm : 0 < m) :
    ∃ k P', 0 ≤ k ∧ k < m ∧ Pn.ok P' (n + 1) ∧ kFin (evalS C c.mix [some (.ref 0), some (.int m), s2, some (.int at_), some (.int cell), s5, s6] (Pn.o ⟨cs, at_ + 1, 0⟩ :: r)) = .ok (.int k) (P'.o :: r) := by
  obtain ⟨A, M0, B1, C1, M1, D, E1, F, M2⟩ := hc
  obtain ⟨m1, hm1⟩ : ∃ m1, m1 = (cell % c.M0 + c.B1 * at_ + c.C1) ^ 5 % c.M1 := ⟨_, rfl⟩
  have b0 : 0 ≤ cell % c.M0 := Int.emod_nonneg _ (by omega)
  have b0' : cell % c.M0 < c.M0 := Int.emod_lt_of_pos _ M0.1
  have b1 : 0 ≤ m1 := by rw [hm1]; exact Int.emod_nonneg _ (by omega)
  have b2 : m1 < c.M1 := by rw [hm1]; exact Int.emod_lt_of_pos _ M1.1
  obtain ⟨m2, hm2⟩ : ∃ m2, m2 = (m1 * (2 * at_ + c.D) + c.E1 * at_ * at_ + c.F) ^ 3 % c.M2 := ⟨_, rfl⟩
  have u1 := mulb B1.1 B1.2 h2 (show at_ ≤ 100000 by omega)
  have u2 := mulb b1 (show m1 < 2 ^ 31 by omega) (show 0 ≤ 2 * at_ + c.D by omega) (show 2 * at_ + c.D ≤ 2000000 by omega)
  have u3 := mulb E1.1 E1.2 h2 (show at_ ≤ 100000 by omega)
  have u4 := mulb u3.1 (show c.E1 * at_ < 2 ^ 37 by omega) h2 (show at_ ≤ 100000 by omega)
  have w1 : (cell % c.M0 + c.B1 * at_ + c.C1).natAbs < 2 ^ 64 := by omega
  have w2 : (m1 * (2 * at_ + c.D) + c.E1 * at_ * at_ + c.F).natAbs < 2 ^ 64 := by omega
  refine ⟨m2 / 32 % m, ⟨cs, at_ + 1, 0⟩, Int.emod_nonneg _ (by omega), Int.emod_lt_of_pos _ hm, ⟨h1, by simp only; omega, by simp only; omega, by simp only; omega⟩, ?_⟩
  unfold Dc.mix
  simp [L2.ixN, setT, mod_ii M0.1, mod_ii M1.1, mod_ii M2.1, fdv_ii, mul_l, mul_l (i := c.B1) ⟨by omega, by omega⟩, pow_ii (j := 5) ⟨by decide, by decide, w1⟩, ← hm1, mul_l (i := m1) ⟨by omega, by omega⟩, mul_l (i := c.E1) ⟨by omega, by omega⟩, mul_l (i := c.E1 * at_) ⟨by omega, by omega⟩, pow_ii (j := 3) ⟨by decide, by decide, w2⟩, ← hm2, mod_ii hm]
theorem Dc.great_ok (C : Ctx) (c : Dc) (hc : c.ok) {cs : List Int} {at_ cell m : Int} {n : Nat} {r : Hb} {s2 s5 s6 : Option W} (h1 : cs.length ≤ 63) (h2 : 0 ≤ at_) (h3 : at_ ≤ n) (hn : n ≤ 100000) (hm : 0 < m) (hm2 : m < 1073741824) :
    ∃ k P', 0 ≤ k ∧ k < m ∧ Pn.ok P' (n + 1) ∧ kFin (evalS C c.great [some (.ref 0), some (.int m), s2, some (.int at_), some (.int cell), s5, s6] (Pn.o ⟨cs, at_ + 1, 0⟩ :: r)) = .ok (.int k) (P'.o :: r) := by
  by_cases q1 : at_ < (cs.length : Int)
  · obtain ⟨ab, hab⟩ : ∃ ab, ab = (if cell < 0 then -cell else cell) := ⟨_, rfl⟩
    by_cases q2 : (10 : Int) ^ 18 ≤ ab
    · obtain ⟨g, hg⟩ : ∃ g, g = 2 * (ab - 10 ^ 18) + (if cell < 0 then 1 else 0) := ⟨_, rfl⟩
      have g0 : 0 ≤ g := by rw [hg]; split <;> omega
      refine ⟨g % m, ⟨cs, at_ + 1, g / m⟩, Int.emod_nonneg _ (by omega), Int.emod_lt_of_pos _ hm, ⟨h1, by simp only; omega, by simp only; omega, Int.ediv_nonneg g0 (by omega)⟩, ?_⟩
      have hg' : 2 * (ab - 1000000000000000000) + (if cell < 0 then 1 else 0) = g := by rw [hg]; rfl
      have q2' : (1000000000000000000 : Int) ≤ ab := q2
      unfold Dc.great
      simp [Pn.o, getIx, getIxD, dOf, L2.ixN, setT, setIx, setIxD, q1, mul_l, pow_ii, ← hab, q2', hg', fdv_ii ⟨hm, hm2⟩, mod_ii hm]
    · have q2' : ¬ (1000000000000000000 : Int) ≤ ab := q2
      obtain ⟨k, P', a1, a2, a3, a4⟩ := Dc.mix_ok C c hc (cs := cs) (at_ := at_) (cell := cell) (m := m) (n := n) (r := r) (s2 := s2) (s5 := s5) (s6 := s6) h1 h2 h3 hn hm
      refine ⟨k, P', a1, a2, a3, ?_⟩
      rw [← a4]
      unfold Dc.great
      have e : ∀ x : S, (.seq x c.mix : S) = .seq x c.mix := fun _ => rfl
      obtain ⟨mx, hmx⟩ : ∃ mx, mx = c.mix := ⟨_, rfl⟩
      rw [← hmx]
      simp [Pn.o, getIx, getIxD, dOf, L2.ixN, setT, setIx, setIxD, q1, mul_l, pow_ii, ← hab, q2']
  · obtain ⟨k, P', a1, a2, a3, a4⟩ := Dc.mix_ok C c hc (cs := cs) (at_ := at_) (cell := cell) (m := m) (n := n) (r := r) (s2 := s2) (s5 := s5) (s6 := s6) h1 h2 h3 hn hm
    refine ⟨k, P', a1, a2, a3, ?_⟩
    rw [← a4]
    unfold Dc.great
    obtain ⟨mx, hmx⟩ : ∃ mx, mx = c.mix := ⟨_, rfl⟩
    rw [← hmx]
    simp [Pn.o, getIx, getIxD, dOf, L2.ixN, setT, setIx, setIxD, q1]
theorem Dc.draw_ok (C : Ctx) (c : Dc) (hc : c.ok) {a b : Str} (P : Pn) {n : Nat} {m : Int} {r : Hb} (hP : P.ok n) (hn : n ≤ 100000) (hm : 0 < m) (hm2 : m < 1073741824) :
    ∃ k P', 0 ≤ k ∧ k < m ∧ Pn.ok P' (n + 1) ∧ stepF C (c.fd [a, b]) [.ref 0, .int m] [] (P.o :: r) = .ok (.int k) (P'.o :: r) := by
  obtain ⟨cs, at_, gr⟩ := P
  obtain ⟨h1, h2, h3, h4⟩ := hP
  simp only at h1 h2 h3 h4
  rw [stepF_of (σ := [some (.ref 0), some (.int m), none, none, none, none, none]) rfl]
  by_cases hg : 0 < gr
  · refine ⟨gr % m, ⟨cs, at_, gr / m⟩, Int.emod_nonneg _ (by omega), Int.emod_lt_of_pos _ hm, ⟨h1, h2, by simp only; omega, Int.ediv_nonneg h4 (by omega)⟩, ?_⟩
    unfold Dc.fd
    simp [Pn.o, getIx, getIxD, dOf, L2.ixN, hg, setT, mod_ii hm, fdv_ii ⟨hm, hm2⟩, setIx, setIxD]
  · have hg0 : gr = 0 := by omega
    subst hg0
    have go := fun cell => Dc.great_ok C c hc (cs := cs) (at_ := at_) (cell := cell) (m := m) (n := n) (r := r) (s2 := none) (s5 := none) (s6 := none) h1 h2 h3 hn hm hm2
    obtain ⟨gx, hgx⟩ : ∃ gx, gx = c.great := ⟨_, rfl⟩
    unfold Dc.fd
    rw [← hgx] at go ⊢
    have ne := ne_nil_ints (h := (O.lst [W.lit (cs.map .int), .int (at_ + 1), .int 0]) :: r) cs
    cases cs with
    | nil =>
      obtain ⟨k, P', a1, a2, a3, a4⟩ := go (c.A * at_ + c.B)
      refine ⟨k, P', a1, a2, a3, ?_⟩
      rw [← a4]
      simp only [List.map_nil] at ne
      simp [Pn.o, getIx, getIxD, dOf, L2.ixN, setT, setIx, setIxD, mul_l hc.A, ne]
    | cons x cs =>
      obtain ⟨j, hj⟩ : ∃ j : Nat, at_ % ((cs.length + 1 : Nat) : Int) = (j : Int) := ⟨(at_ % ((cs.length + 1 : Nat) : Int)).toNat, by
        have := Int.emod_nonneg at_ (show ((cs.length + 1 : Nat) : Int) ≠ 0 by omega); omega⟩
      have hj2 : j < cs.length + 1 := by
        have := Int.emod_lt_of_pos at_ (show (0 : Int) < ((cs.length + 1 : Nat) : Int) by omega); omega
      obtain ⟨cell, hcell⟩ : ∃ cell, ((x :: cs).map W.int)[j]? = some (.int cell) := by
        rw [List.getElem?_map]
        exact ⟨(x :: cs)[j], by rw [List.getElem?_eq_getElem (by simpa using hj2)]; rfl⟩
      obtain ⟨k, P', a1, a2, a3, a4⟩ := go cell
      refine ⟨k, P', a1, a2, a3, ?_⟩
      rw [← a4]
      have hj' : at_ % ((cs.length : Int) + 1) = (j : Int) := by rw [← hj]; congr 1
      simp only [List.map_cons] at ne hcell
      have hj3 : (j : Int) < (cs.length : Int) + 1 := by omega
      simp [Pn.o, getIx, getIxD, dOf, L2.ixN, setT, setIx, setIxD, mul_l hc.A, ne, mod_ii (i := at_) (j := (cs.length : Int) + 1) (by omega), hj', hcell, hj3]
end Y
/-! Z2: the pen made, a pick; loops by invariants. -/
namespace Y
open PySem

def pickFD (ps : List Str) : FD := { ps := ps, n := 2, body :=
    (.seq (.ret (.ix (.slot 1) (.call "_law_draw" (.cons (.slot 0) (.cons (.bi .len (.cons (.slot 1) .nil)) .nil)) [] .nil)))
    .skip) }
def penFD (ps : List Str) : FD := { ps := ps, n := 1, body :=
    (.seq (.ret (.new (.lst (.cons (.bi .list (.cons (.cut (.slot 0) .non (.int 63)) .nil)) (.cons (.int 0) (.cons (.int 0) .nil))))))
    .skip) }
/-- draws, as the callee's promise -/
def Draws (C : Ctx) : Prop := ∀ (P : Pn) (n : Nat) (m : Int) (r : Hb), P.ok n → n ≤ 100000 → 0 < m → m < 1073741824 → ∃ k P', 0 ≤ k ∧ k < m ∧ Pn.ok P' (n + 1) ∧ C.call "_law_draw" [.ref 0, .int m] [] (P.o :: r) = .ok (.int k) (P'.o :: r)
/-- one of a list -/
def Picks (C : Ctx) : Prop := ∀ (P : Pn) (n : Nat) (ws : List W) (r : Hb), P.ok n → n ≤ 100000 → ws ≠ [] → ws.length < 1073741824 → ∃ w P', w ∈ ws ∧ Pn.ok P' (n + 1) ∧ C.call "_law_pick" [.ref 0, .lit ws] [] (P.o :: r) = .ok w (P'.o :: r)
theorem pick_ok {C : Ctx} (hd : Draws C) {a b : Str} (P : Pn) {n : Nat} {ws : List W} {r : Hb} (hP : P.ok n) (hn : n ≤ 100000) (h0 : ws ≠ []) (h1 : ws.length < 1073741824) :
    ∃ w P', w ∈ ws ∧ Pn.ok P' (n + 1) ∧ stepF C (pickFD [a, b]) [.ref 0, .lit ws] [] (P.o :: r) = .ok w (P'.o :: r) := by
  have l0 : 0 < ws.length := List.length_pos_iff.mpr h0
  obtain ⟨k, P', k0, k1, k2, e⟩ := hd P n ws.length r hP hn (by omega) (by omega)
  have kl : k.toNat < ws.length := by omega
  refine ⟨ws[k.toNat], P', List.getElem_mem kl, k2, ?_⟩
  rw [stepF_of (σ := [some (.ref 0), some (.lit ws)]) rfl]
  unfold pickFD
  have e2 : L2.ixN ws.length k = some k.toNat := ixN_int k0 k1
  simp [e, e2, List.getElem?_eq_getElem kl]
theorem pen_ok (C : Ctx) {a : Str} {ns : List Int} (h : ns.length ≤ 63) : stepF C (penFD [a]) [.rol (ns.map .int)] [] [] = .ok (.ref 0) [Pn.o ⟨ns, 0, 0⟩] := by
  rw [stepF_of (σ := [some (.rol (ns.map .int))]) rfl]
  unfold penFD
  have e : getCut [] (.rol (ns.map .int)) none (some 63) = some (.lit (ns.map .int)) := by
    show some (W.lit (cutW _ _ _)) = _
    congr 2
    refine cutW_all ?_ ?_
    · simp [HT.sIx]
    · simp [HT.sIx]
      omega
  simp [e, Pn.o]
theorem pen_start {ns : List Int} (h : ns.length ≤ 63) : Pn.ok ⟨ns, 0, 0⟩ 0 := ⟨h, Int.le_refl _, Int.le_refl _, Int.le_refl _⟩

/-! ### loops -/
theorem forC_inv {f : W → Hb → R (Option W)} {ok : Hb → Bool} (I : Nat → Hb → Prop) (Val : W → Prop) (hok : ∀ i h, I i h → ok h = true) :
    ∀ (ws acc : List W) (i : Nat) (h : Hb), I i h → (∀ w ∈ ws, ∀ i h, I i h → ∃ v h', f w h = .ok (some v) h' ∧ I (i + 1) h' ∧ Val v) → acc.length + ws.length ≤ 16777216 →
    ∃ vs h', forC f ok ws acc h = .ok (acc ++ vs) h' ∧ vs.length = ws.length ∧ (∀ v ∈ vs, Val v) ∧ I (i + ws.length) h'
  | [], acc, i, h, hi, _, _ => ⟨[], h, by unfold forC; rw [if_pos (hok i h hi), List.append_nil], rfl, by simp, hi⟩
  | w :: ws, acc, i, h, hi, hs, hl => by
    obtain ⟨v, h1, e, i1, hv⟩ := hs w List.mem_cons_self i h hi
    simp only [List.length_cons] at hl
    obtain ⟨vs, h2, e2, l2, a2, i2⟩ := forC_inv I Val hok ws (acc ++ [v]) (i + 1) h1 i1 (fun w hw => hs w (List.mem_cons_of_mem _ hw)) (by simp; omega)
    refine ⟨v :: vs, h2, ?_, by simp [l2], ?_, ?_⟩
    · unfold forC
      rw [if_pos (hok i h hi), e]
      dsimp only
      rw [if_pos (by exact decide_eq_true (by omega)), e2, List.append_assoc]
      rfl
    · intro u hu
      rcases List.mem_cons.mp hu with q | q
      · rw [q]; exact hv
      · exact a2 u q
    · rw [List.length_cons, show i + (ws.length + 1) = i + 1 + ws.length by omega]; exact i2
/-- a map without effect -/
theorem forC_map {f : W → Hb → R (Option W)} {ok : Hb → Bool} {g : W → W} {h : Hb} (hok : ok h = true) : ∀ (ws acc : List W), (∀ w ∈ ws, f w h = .ok (some (g w)) h) → acc.length + ws.length ≤ 16777216 → forC f ok ws acc h = .ok (acc ++ ws.map g) h
  | [], acc, _, _ => by unfold forC; rw [if_pos hok]; simp
  | w :: ws, acc, hs, hl => by
    simp only [List.length_cons] at hl
    unfold forC
    rw [if_pos hok, hs w List.mem_cons_self]
    dsimp only
    rw [if_pos (by exact decide_eq_true (by omega)), forC_map hok ws (acc ++ [g w]) (fun w hw => hs w (List.mem_cons_of_mem _ hw)) (by simp; omega)]
    simp
theorem forL_inv {f : W → Sb → Hb → G} {ok : Hb → Bool} (I : Nat → Sb → Hb → Prop) (hok : ∀ i σ h, I i σ h → ok h = true) :
    ∀ (ws : List W) (i : Nat) (σ : Sb) (h : Hb), I i σ h → (∀ j w, ws[j]? = some w → ∀ σ h, I (i + j) σ h → ∃ σ' h', (f w σ h = .ok (.nx σ') h' ∨ f w σ h = .ok (.ct σ') h') ∧ I (i + j + 1) σ' h') → ∃ σ' h', forL f ok ws σ h = .ok (.nx σ') h' ∧ I (i + ws.length) σ' h'
  | [], i, σ, h, hi, _ => ⟨σ, h, by unfold forL; rw [if_pos (hok i σ h hi)], hi⟩
  | w :: ws, i, σ, h, hi, hs => by
    obtain ⟨σ1, h1, e, i1⟩ := hs 0 w rfl σ h hi
    obtain ⟨σ2, h2, e2, i2⟩ := forL_inv I hok ws (i + 1) σ1 h1 i1 (fun j u hj σ h hI => by
      obtain ⟨σ', h', a, b⟩ := hs (j + 1) u (by simpa using hj) σ h (by rw [show i + (j + 1) = i + 1 + j by omega]; exact hI)
      exact ⟨σ', h', a, by rw [show i + 1 + j + 1 = i + (j + 1) + 1 by omega]; exact b⟩)
    refine ⟨σ2, h2, ?_, by rw [List.length_cons, show i + (ws.length + 1) = i + 1 + ws.length by omega]; exact i2⟩
    unfold forL
    rw [if_pos (hok i σ h hi)]
    rcases e with e | e <;> rw [e] <;> exact e2
theorem whileL_inv {c : Sb → Hb → R W} {f : Sb → Hb → G} (I : Sb → Hb → Prop) (μ : Sb → Hb → Nat) (Post : Sb → Hb → Prop)
    (turn : ∀ σ h, I σ h → (∃ h1, c σ h = .ok (.bl false) h1 ∧ Post σ h1) ∨ ∃ h1 σ' h', c σ h = .ok (.bl true) h1 ∧ (f σ h1 = .ok (.nx σ') h' ∨ f σ h1 = .ok (.ct σ') h') ∧ I σ' h' ∧ μ σ' h' < μ σ h) :
    ∀ (n : Nat) (σ : Sb) (h : Hb), I σ h → μ σ h < n → ∃ σ' h', whileL c f n σ h = .ok (.nx σ') h' ∧ Post σ' h'
  | 0, σ, h, _, hn => absurd hn (Nat.not_lt_zero _)
  | n + 1, σ, h, hi, hn => by
    rcases turn σ h hi with ⟨h1, e, p⟩ | ⟨h1, σ', h', e, e2, i2, lt⟩
    · exact ⟨σ, h1, by unfold whileL; rw [e]; rfl, p⟩
    · obtain ⟨σ2, h2, e3, p⟩ := whileL_inv I μ Post turn n σ' h' i2 (by omega)
      refine ⟨σ2, h2, ?_, p⟩
      unfold whileL
      rw [e]
      rcases e2 with e2 | e2
      · show (f σ h1).bind _ = _
        rw [e2]; exact e3
      · show (f σ h1).bind _ = _
        rw [e2]; exact e3
@[simp] theorem stays_t {h h' : Hb} {xs : List W} : stays h h' (.tup xs) = true := rfl
@[simp] theorem stays_l {h h' : Hb} {xs : List W} : stays h h' (.lit xs) = true := rfl
@[simp] theorem stays_r {h h' : Hb} {xs : List W} : stays h h' (.rol xs) = true := rfl
theorem ints_of {vs : List W} {Pr : Int → Prop} : (∀ v ∈ vs, ∃ i, v = .int i ∧ Pr i) → ∃ is : List Int, vs = is.map .int ∧ ∀ i ∈ is, Pr i := by
  induction vs with
  | nil => exact fun _ => ⟨[], rfl, by simp⟩
  | cons v vs ih =>
    intro h
    obtain ⟨i, rfl, p⟩ := h v List.mem_cons_self
    obtain ⟨is, e, q⟩ := ih fun u hu => h u (List.mem_cons_of_mem _ hu)
    refine ⟨i :: is, by rw [e]; rfl, ?_⟩
    intro j hj
    rcases List.mem_cons.mp hj with z | z
    · rw [z]; exact p
    · exact q j z
@[simp] theorem intsW_ints : ∀ is : List Int, intsW (is.map .int) = some is
  | [] => rfl
  | i :: is => by simp [intsW, intsW_ints is]
theorem insI_mem {i : Int} : ∀ {l : List Int} {j : Int}, j ∈ insI i l → j = i ∨ j ∈ l
  | [], j, h => by simp [insI] at h; exact .inl h
  | k :: l, j, h => by
    unfold insI at h
    split at h
    · rcases List.mem_cons.mp h with q | q
      · exact .inl q
      · exact .inr q
    · rcases List.mem_cons.mp h with q | q
      · exact .inr (by rw [q]; exact List.mem_cons_self)
      · rcases insI_mem q with z | z
        · exact .inl z
        · exact .inr (List.mem_cons_of_mem _ z)
theorem insI_len {i : Int} : ∀ l : List Int, (insI i l).length = l.length + 1
  | [] => rfl
  | k :: l => by unfold insI; split <;> simp [insI_len l]
@[simp] theorem sortI_len : ∀ l : List Int, (sortI l).length = l.length
  | [] => rfl
  | k :: l => by simp [sortI, insI_len, sortI_len l]
theorem sortI_mem : ∀ {l : List Int} {j : Int}, j ∈ sortI l → j ∈ l
  | [], _, h => h
  | k :: l, j, h => by
    rcases insI_mem (show j ∈ insI k (sortI l) from h) with z | z
    · rw [z]; exact List.mem_cons_self
    · exact List.mem_cons_of_mem _ (sortI_mem z)
@[simp] theorem sorted_ints {h : Hb} {is : List Int} : builtin .sorted [.lit (is.map .int)] h = some (.lit ((sortI is).map .int)) := by
  simp [builtin]
/-! ### what stands at the heap's end -/
@[simp] theorem hget0 {b r : Hb} {x : O} : (b ++ x :: r)[b.length]? = some x := by simp
@[simp] theorem hget1 {b r : Hb} {x y : O} : (b ++ x :: y :: r)[b.length + 1]? = some y := by
  rw [List.getElem?_append_right (by omega)]; simp
@[simp] theorem hset0 {b r : Hb} {x z : O} : (b ++ x :: r).set b.length z = b ++ z :: r := by
  rw [List.set_append_right _ _ (by omega)]; simp
@[simp] theorem hset1 {b r : Hb} {x y z : O} : (b ++ x :: y :: r).set (b.length + 1) z = b ++ x :: z :: r := by
  rw [List.set_append_right _ _ (by omega)]; simp
section
variable {b r : Hb} {xs ys : List W} {i : Int} {v : W} {y : O}
@[simp] theorem getIx_a0 : getIx (b ++ .lst xs :: r) (.ref b.length) (.int i) = (L2.ixN xs.length i).bind fun j => xs[j]? := getIx_ref hget0
@[simp] theorem getIx_a1 : getIx (b ++ y :: .lst xs :: r) (.ref (b.length + 1)) (.int i) = (L2.ixN xs.length i).bind fun j => xs[j]? := getIx_ref hget1
@[simp] theorem getIx_c0 : getIx (.lst xs :: r) (.ref 0) (.int i) = (L2.ixN xs.length i).bind fun j => xs[j]? := getIx_ref rfl
@[simp] theorem getIxL_ref {h : Hb} {n : Nat} {w : W} : getIxL h (.ref n) w = getIx h (.ref n) w := rfl
theorem setIx_ref {h : Hb} {n : Nat} (e : h[n]? = some (.lst xs)) : setIx h (.ref n) (.int i) v = (match L2.ixN xs.length i with | some j => .ok () (h.set n (.lst (xs.set j v))) | none => .no) := by
  cases q : L2.ixN xs.length i <;> simp only [setIx, setIxD, e, q]
@[simp] theorem setIx_a0 : setIx (b ++ .lst xs :: r) (.ref b.length) (.int i) v = (match L2.ixN xs.length i with | some j => .ok () (b ++ .lst (xs.set j v) :: r) | none => .no) := by
  rw [setIx_ref hget0]; cases L2.ixN xs.length i <;> simp
@[simp] theorem setIx_a1 : setIx (b ++ y :: .lst xs :: r) (.ref (b.length + 1)) (.int i) v = (match L2.ixN xs.length i with | some j => .ok () (b ++ y :: .lst (xs.set j v) :: r) | none => .no) := by
  rw [setIx_ref hget1]; cases L2.ixN xs.length i <;> simp
@[simp] theorem setIx_c0 : setIx (.lst xs :: r) (.ref 0) (.int i) v = (match L2.ixN xs.length i with | some j => .ok () (.lst (xs.set j v) :: r) | none => .no) := setIx_ref rfl
@[simp] theorem recv_a0 {m : Mt} (hm : m = .append ∨ m = .extend ∨ m = .pop) : recv m (b ++ .lst xs :: r) (.ref b.length) = true := by
  rcases hm with rfl | rfl | rfl <;> simp only [recv, hget0]
@[simp] theorem recv_a1 {m : Mt} (hm : m = .append ∨ m = .extend ∨ m = .pop) : recv m (b ++ y :: .lst xs :: r) (.ref (b.length + 1)) = true := by
  rcases hm with rfl | rfl | rfl <;> simp only [recv, hget1]
theorem append_a0 (c : xs.length < 16777216) : method .append (.ref b.length) [v] (b ++ .lst xs :: r) = .ok .non (b ++ .lst (xs ++ [v]) :: r) := by
  simp only [method, hget0]; rw [if_pos (decide_eq_true c), hset0]
theorem append_a1 (c : xs.length < 16777216) : method .append (.ref (b.length + 1)) [v] (b ++ y :: .lst xs :: r) = .ok .non (b ++ y :: .lst (xs ++ [v]) :: r) := by
  simp only [method, hget1]; rw [if_pos (decide_eq_true c), hset1]
theorem pop_a0 (e : xs[xs.length - 1]? = some v) : method .pop (.ref b.length) [] (b ++ .lst xs :: r) = .ok v (b ++ .lst xs.dropLast :: r) := by
  simp only [method, hget0, e, hset0]
theorem pop_a1 (e : xs[xs.length - 1]? = some v) : method .pop (.ref (b.length + 1)) [] (b ++ y :: .lst xs :: r) = .ok v (b ++ y :: .lst xs.dropLast :: r) := by
  simp only [method, hget1, e, hset1]
end
theorem forL_nx {f : W → Sb → Hb → G} {ok : Hb → Bool} {w : W} {ws : List W} {σ σ1 : Sb} {h h1 : Hb} (e : f w σ h = .ok (.nx σ1) h1) (o : ok h = true) : forL f ok (w :: ws) σ h = forL f ok ws σ1 h1 := by
  conv => lhs; unfold forL
  rw [if_pos o, e]; rfl
theorem forL_nil {f : W → Sb → Hb → G} {ok : Hb → Bool} {σ : Sb} {h : Hb} (o : ok h = true) : forL f ok [] σ h = .ok (.nx σ) h := by
  unfold forL; rw [if_pos o]
theorem forC_some {f : W → Hb → R (Option W)} {ok : Hb → Bool} {w v : W} {ws acc : List W} {h h1 : Hb} (e : f w h = .ok (some v) h1) (o : ok h = true) (l : acc.length < 16777216) : forC f ok (w :: ws) acc h = forC f ok ws (acc ++ [v]) h1 := by
  conv => lhs; unfold forC
  rw [if_pos o, e]
  dsimp only
  rw [if_pos (decide_eq_true l)]
theorem forC_none {f : W → Hb → R (Option W)} {ok : Hb → Bool} {w : W} {ws acc : List W} {h h1 : Hb} (e : f w h = .ok none h1) (o : ok h = true) : forC f ok (w :: ws) acc h = forC f ok ws acc h1 := by
  conv => lhs; unfold forC
  rw [if_pos o, e]
theorem forC_nil {f : W → Hb → R (Option W)} {ok : Hb → Bool} {acc : List W} {h : Hb} (o : ok h = true) : forC f ok [] acc h = .ok acc h := by
  unfold forC; rw [if_pos o]
/-- a while by an index that falls -/
theorem whileL_ix {c : Sb → Hb → R W} {f : Sb → Hb → G} (I : Nat → Sb → Hb → Prop) (Post : Sb → Hb → Prop)
    (turn : ∀ m σ h, I m σ h → (∃ h1, c σ h = .ok (.bl false) h1 ∧ Post σ h1) ∨ ∃ h1 σ' h' m', c σ h = .ok (.bl true) h1 ∧ (f σ h1 = .ok (.nx σ') h' ∨ f σ h1 = .ok (.ct σ') h') ∧ I m' σ' h' ∧ m' < m) :
    ∀ (n m : Nat) (σ : Sb) (h : Hb), I m σ h → m < n → ∃ σ' h', whileL c f n σ h = .ok (.nx σ') h' ∧ Post σ' h'
  | 0, m, σ, h, _, hn => absurd hn (Nat.not_lt_zero _)
  | n + 1, m, σ, h, hi, hn => by
    rcases turn m σ h hi with ⟨h1, e, p⟩ | ⟨h1, σ', h', m', e, e2, i2, lt⟩
    · exact ⟨σ, h1, by unfold whileL; rw [e]; rfl, p⟩
    · obtain ⟨σ2, h2, e3, p⟩ := whileL_ix I Post turn n m' σ' h' i2 (by omega)
      refine ⟨σ2, h2, ?_, p⟩
      unfold whileL
      rw [e]
      rcases e2 with e2 | e2
      · show (f σ h1).bind _ = _
        rw [e2]; exact e3
      · show (f σ h1).bind _ = _
        rw [e2]; exact e3
/-- a turn of a comprehension without a test -/
theorem turnC_t {C : Ctx} {elt : E} {t : Tg} {own : List Nat} {σ σ' : Sb} {x v : W} {h h1 : Hb} (e : setT t x (wipe σ own) = some σ') (e2 : evalE C elt σ' h = .ok v h1) : turnC C elt t (.bl true) own σ x h = .ok (some v) h1 := by
  unfold turnC
  rw [e]
  simp [R.bind, e2]
end Y
/-! Z3: loops over a known list, turn by turn. -/
namespace Y
open PySem
def kLp (f : W → Sb → Hb → G) (ok : Hb → Bool) (ws : List W) (g : G) : G := g.bind fun fl h1 => (match fl with
    | .nx σ1 => forL f ok ws σ1 h1
    | .ct σ1 => forL f ok ws σ1 h1
    | .bk σ1 => .ok (.nx σ1) h1
    | .rt v => .ok (.rt v) h1)
section
variable {f : W → Sb → Hb → G} {ok : Hb → Bool} {w : W} {ws : List W} {σ : Sb} {h : Hb}
theorem lp_cons (o : ok h = true) : forL f ok (w :: ws) σ h = kLp f ok ws (f w σ h) := by
  conv => lhs; unfold forL
  rw [if_pos o]; rfl
@[simp] theorem kLp_nx : kLp f ok ws (.ok (.nx σ) h) = forL f ok ws σ h := rfl
@[simp] theorem kLp_ct : kLp f ok ws (.ok (.ct σ) h) = forL f ok ws σ h := rfl
@[simp] theorem kLp_bk : kLp f ok ws (.ok (.bk σ) h) = .ok (.nx σ) h := rfl
@[simp] theorem kLp_rt : kLp f ok ws (.ok (.rt w) h) = .ok (.rt w) h := rfl
end
/-- a comprehension by an invariant of the turn's place -/
theorem forC_at {f : W → Hb → R (Option W)} {ok : Hb → Bool} (I : Nat → Hb → Prop) (Val : W → Prop) (hok : ∀ i h, I i h → ok h = true) :
    ∀ (ws acc : List W) (i : Nat) (h : Hb), I i h → (∀ j w, ws[j]? = some w → ∀ h, I (i + j) h → ∃ v h', f w h = .ok (some v) h' ∧ I (i + j + 1) h' ∧ Val v) → acc.length + ws.length ≤ 16777216 →
    ∃ vs h', forC f ok ws acc h = .ok (acc ++ vs) h' ∧ vs.length = ws.length ∧ (∀ v ∈ vs, Val v) ∧ I (i + ws.length) h'
  | [], acc, i, h, hi, _, _ => ⟨[], h, by unfold forC; rw [if_pos (hok i h hi), List.append_nil], rfl, by simp, hi⟩
  | w :: ws, acc, i, h, hi, hs, hl => by
    obtain ⟨v, h1, e, i1, hv⟩ := hs 0 w rfl h hi
    simp only [List.length_cons] at hl
    obtain ⟨vs, h2, e2, l2, a2, i2⟩ := forC_at I Val hok ws (acc ++ [v]) (i + 1) h1 i1 (fun j u hj h hI => by
      obtain ⟨v', h', a, b, c⟩ := hs (j + 1) u (by simpa using hj) h (by rw [show i + (j + 1) = i + 1 + j by omega]; exact hI)
      exact ⟨v', h', a, by rw [show i + 1 + j + 1 = i + (j + 1) + 1 by omega]; exact b, c⟩) (by simp; omega)
    refine ⟨v :: vs, h2, ?_, by simp [l2], ?_, ?_⟩
    · rw [forC_some e (hok i h hi) (by omega), e2, List.append_assoc]
      rfl
    · intro u hu
      rcases List.mem_cons.mp hu with q | q
      · rw [q]; exact hv
      · exact a2 u q
    · rw [List.length_cons, show i + (ws.length + 1) = i + 1 + ws.length by omega]; exact i2
theorem rng_small {m : Nat} {h : Hb} (c : m ≤ 1000000) : kRng (.ok (.int (m : Int)) h) = .ok (rngW 0 m) h := by
  have c1 : decide ((-2305843009213693952 : Int) ≤ (m : Int)) = true := decide_eq_true (by omega)
  have c2 : decide ((m : Int) < (2305843009213693952 : Int)) = true := decide_eq_true (by omega)
  rw [kRng_ok, show (-(2 ^ 61) : Int) = -2305843009213693952 by decide +kernel, show (2 ^ 61 : Int) = 2305843009213693952 by decide +kernel, c1, c2]
  rfl
end Y
/-! Z4: what an answer comes to, told by what holds of it. -/
namespace Y
open PySem

def R.Ok {α : Type} (r : R α) (Q : α → Hb → Prop) : Prop := ∃ a h, r = .ok a h ∧ Q a h
def G.Ok (g : G) (Q : Fl → Hb → Prop) : Prop := ∃ fl h, g = .ok fl h ∧ Q fl h
section
variable {α : Type} {a : α} {h : Hb} {Q Q' : α → Hb → Prop} {fl : Fl} {P P' : Fl → Hb → Prop}
@[simp] theorem ok_ok : R.Ok (.ok a h) Q ↔ Q a h := ⟨fun ⟨_, _, e, q⟩ => by cases e; exact q, fun q => ⟨_, _, rfl, q⟩⟩
@[simp] theorem gok_ok : G.Ok (.ok fl h) P ↔ P fl h := ⟨fun ⟨_, _, e, q⟩ => by cases e; exact q, fun q => ⟨_, _, rfl, q⟩⟩
theorem R.Ok.mono {r : R α} (k : r.Ok Q) (m : ∀ a h, Q a h → Q' a h) : r.Ok Q' := let ⟨a, h, e, q⟩ := k; ⟨a, h, e, m a h q⟩
theorem G.Ok.mono {r : G} (k : r.Ok P) (m : ∀ a h, P a h → P' a h) : r.Ok P' := let ⟨a, h, e, q⟩ := k; ⟨a, h, e, m a h q⟩
end
/-- how a def's body ends well -/
def Rets (Q : W → Hb → Prop) : Fl → Hb → Prop
  | .rt w, h => Q w h
  | .nx _, h => Q .non h
  | _, _ => False
theorem ok_fin {g : G} {Q : W → Hb → Prop} (k : g.Ok (Rets Q)) : (kFin g).Ok Q := by
  obtain ⟨fl, h, rfl, q⟩ := k
  cases fl <;> first | exact ⟨_, _, rfl, q⟩ | exact q.elim
/-- what follows a statement -/
def Then (C : Ctx) (b : S) (Q : Fl → Hb → Prop) : Fl → Hb → Prop
  | .nx σ, h => (evalS C b σ h).Ok Q
  | fl, h => Q fl h
theorem ok_then {C : Ctx} {b : S} {g : G} {Q : Fl → Hb → Prop} (k : g.Ok (Then C b Q)) : (thenS C b g).Ok Q := by
  obtain ⟨fl, h, rfl, q⟩ := k
  cases fl <;> first | exact q | exact ⟨_, _, rfl, q⟩
@[simp] theorem then_nx {C : Ctx} {b : S} {Q : Fl → Hb → Prop} {σ : Sb} {h : Hb} : Then C b Q (.nx σ) h ↔ (evalS C b σ h).Ok Q := Iff.rfl
@[simp] theorem rets_rt {Q : W → Hb → Prop} {w : W} {h : Hb} : Rets Q (.rt w) h ↔ Q w h := Iff.rfl
@[simp] theorem rets_nx {Q : W → Hb → Prop} {σ : Sb} {h : Hb} : Rets Q (.nx σ) h ↔ Q .non h := Iff.rfl
/-- what a turn comes to -/
def Turn (I : Nat → Sb → Hb → Prop) (Q : Fl → Hb → Prop) (j : Nat) : Fl → Hb → Prop
  | .nx σ', h' => I (j + 1) σ' h'
  | .ct σ', h' => I (j + 1) σ' h'
  | .bk σ', h' => Q (.nx σ') h'
  | .rt v, h' => Q (.rt v) h'
/-- what is wanted, hidden -/
theorem ok_hide {α : Type} {r : R α} {Q : α → Hb → Prop} (k : ∀ Q' : α → Hb → Prop, (∀ w h, Q w h → Q' w h) → r.Ok Q') : r.Ok Q := k Q fun _ _ q => q
/-- a for by an invariant of the turn's number; a turn may return -/
theorem ok_for {f : W → Sb → Hb → G} {ok : Hb → Bool} {Q : Fl → Hb → Prop} (I : Nat → Sb → Hb → Prop) (hok : ∀ i σ h, I i σ h → ok h = true) :
    ∀ (ws : List W) (i : Nat) (σ : Sb) (h : Hb), I i σ h →
      (∀ j w, ws[j]? = some w → ∀ σ h, I (i + j) σ h → (f w σ h).Ok (Turn I Q (i + j))) → (∀ σ h, I (i + ws.length) σ h → Q (.nx σ) h) → (forL f ok ws σ h).Ok Q
  | [], i, σ, h, hi, _, fin => ⟨_, _, by unfold forL; rw [if_pos (hok i σ h hi)], fin σ h hi⟩
  | w :: ws, i, σ, h, hi, hs, fin => by
    obtain ⟨fl, h1, e, i1⟩ := hs 0 w rfl σ h hi
    have rest : ∀ σ1, I (i + 1) σ1 h1 → (forL f ok ws σ1 h1).Ok Q := fun σ1 q => ok_for I hok ws (i + 1) σ1 h1 q (fun j u hj σ h hI => by
      have := hs (j + 1) u (by simpa using hj) σ h (by rw [show i + (j + 1) = i + 1 + j by omega]; exact hI)
      rw [show i + (j + 1) = i + 1 + j by omega] at this
      exact this) (fun σ h q => fin σ h (by rw [List.length_cons, show i + (ws.length + 1) = i + 1 + ws.length by omega]; exact q))
    rw [lp_cons (hok i σ h hi), e]
    cases fl with
    | nx σ1 => exact rest σ1 i1
    | ct σ1 => exact rest σ1 i1
    | bk σ1 => exact ⟨_, _, rfl, i1⟩
    | rt v => exact ⟨_, _, rfl, i1⟩
/-- a while by an invariant that falls -/
theorem ok_while {c : Sb → Hb → R W} {f : Sb → Hb → G} {Q : Fl → Hb → Prop} (I : Nat → Sb → Hb → Prop)
    (turn : ∀ m σ h, I m σ h → (c σ h).Ok fun b h1 => match b with
      | .bl false => Q (.nx σ) h1
      | .bl true => (f σ h1).Ok fun fl h2 => match fl with
        | .nx σ' => ∃ m', m' < m ∧ I m' σ' h2
        | .ct σ' => ∃ m', m' < m ∧ I m' σ' h2
        | .bk σ' => Q (.nx σ') h2
        | .rt v => Q (.rt v) h2
      | _ => False) : ∀ (n m : Nat) (σ : Sb) (h : Hb), I m σ h → m < n → (whileL c f n σ h).Ok Q
  | 0, m, σ, h, _, hn => absurd hn (Nat.not_lt_zero _)
  | n + 1, m, σ, h, hi, hn => by
    obtain ⟨b, h1, e, q⟩ := turn m σ h hi
    unfold whileL
    rw [e]
    cases b with
    | bl b =>
      cases b with
      | false => exact ⟨_, _, rfl, q⟩
      | true =>
        obtain ⟨fl, h2, e2, q2⟩ := q
        show (G.Ok ((f σ h1).bind _) Q)
        rw [e2]
        cases fl with
        | nx σ' => obtain ⟨m', lt, i'⟩ := q2; exact ok_while I turn n m' σ' h2 i' (by omega)
        | ct σ' => obtain ⟨m', lt, i'⟩ := q2; exact ok_while I turn n m' σ' h2 i' (by omega)
        | bk σ' => exact ⟨_, _, rfl, q2⟩
        | rt v => exact ⟨_, _, rfl, q2⟩
    | _ => exact q.elim
/-- a comprehension by an invariant; each turn gives a value -/
theorem ok_cm {f : W → Hb → R (Option W)} {ok : Hb → Bool} {Q : List W → Hb → Prop} (I : Nat → Hb → List W → Prop) (hok : ∀ i h acc, I i h acc → ok h = true) :
    ∀ (ws acc : List W) (i : Nat) (h : Hb), I i h acc → acc.length + ws.length ≤ 16777216 →
      (∀ j w, ws[j]? = some w → ∀ h acc, I (i + j) h acc → (f w h).Ok fun v h' => I (i + j + 1) h' (acc ++ v.toList)) → (∀ h acc, I (i + ws.length) h acc → Q acc h) → (forC f ok ws acc h).Ok Q
  | [], acc, i, h, hi, _, _, fin => ⟨_, _, by unfold forC; rw [if_pos (hok i h acc hi)], fin h acc hi⟩
  | w :: ws, acc, i, h, hi, hl, hs, fin => by
    obtain ⟨v, h1, e, i1⟩ := hs 0 w rfl h acc hi
    simp only [List.length_cons] at hl
    have rest : ∀ acc1 : List W, I (i + 1) h1 acc1 → acc1.length ≤ acc.length + 1 → (forC f ok ws acc1 h1).Ok Q := fun acc1 q lq => ok_cm I hok ws acc1 (i + 1) h1 q (by omega) (fun j u hj h acc hI => by
      have := hs (j + 1) u (by simpa using hj) h acc (by rw [show i + (j + 1) = i + 1 + j by omega]; exact hI)
      rw [show i + (j + 1) = i + 1 + j by omega] at this
      exact this) (fun h acc q => fin h acc (by rw [List.length_cons, show i + (ws.length + 1) = i + 1 + ws.length by omega]; exact q))
    cases v with
    | none =>
      rw [forC_none e (hok i h acc hi)]
      exact rest acc (by simpa using i1) (by omega)
    | some v =>
      rw [forC_some e (hok i h acc hi) (by omega)]
      exact rest (acc ++ [v]) (by simpa using i1) (by simp)
/-- a comprehension without effect, with its test -/
theorem forC_fm {f : W → Hb → R (Option W)} {ok : Hb → Bool} {g : W → Option W} {h : Hb} (hok : ok h = true) : ∀ (ws acc : List W), (∀ w ∈ ws, f w h = .ok (g w) h) → acc.length + ws.length ≤ 16777216 → forC f ok ws acc h = .ok (acc ++ ws.filterMap g) h
  | [], acc, _, _ => by rw [forC_nil hok]; simp
  | w :: ws, acc, hs, hl => by
    simp only [List.length_cons] at hl
    have e := hs w List.mem_cons_self
    cases q : g w with
    | none =>
      rw [q] at e
      rw [forC_none e hok, forC_fm hok ws acc (fun w hw => hs w (List.mem_cons_of_mem _ hw)) (by omega)]
      simp [q]
    | some v =>
      rw [q] at e
      rw [forC_some e hok (by omega), forC_fm hok ws (acc ++ [v]) (fun w hw => hs w (List.mem_cons_of_mem _ hw)) (by simp; omega)]
      simp [q]
/-- a turn with a test -/
theorem turnC_b {C : Ctx} {elt c : E} {t : Tg} {own : List Nat} {σ σ' : Sb} {x v : W} {h h1 h2 : Hb} {b : Bool} (e : setT t x (wipe σ own) = some σ') (e1 : evalE C c σ' h = .ok (.bl b) h1) (e2 : b = true → evalE C elt σ' h1 = .ok v h2) (e3 : b = false → h2 = h1) :
    turnC C elt t c own σ x h = .ok (if b = true then some v else none) h2 := by
  unfold turnC
  rw [e]
  dsimp only
  rw [e1]
  cases b with
  | true => simp [R.bind, e2 rfl]
  | false => simp [R.bind, e3 rfl]
/-- b and draw(m) == 0 -/
theorem and_draw {C : Ctx} (hd : Draws C) {P : Pn} {n : Nat} (b : Bool) (m : Int) (r : Hb) (hP : P.ok n) (hn : n ≤ 100000) (h0 : 0 < m) (h1 : m < 1073741824) :
    ∃ (e : Bool) (P' : Pn), (b = false → e = false) ∧ Pn.ok P' (n + 1) ∧ ∀ σ : Sb, σ[0]? = some (some (.ref 0)) → kAnd2 C (.cmp .eq (.call "_law_draw" (.cons (.slot 0) (.cons (.int m) .nil)) [] .nil) (.int 0)) σ (.bl b) (P.o :: r) (some b) = .ok (.bl e) (P'.o :: r) := by
  cases b with
  | false => exact ⟨false, P, fun _ => rfl, hP.mono (by omega), fun σ _ => rfl⟩
  | true =>
    obtain ⟨k, P', _, _, o, e⟩ := hd P n m r hP hn h0 h1
    exact ⟨decide (k = 0), P', (fun z => by cases z), o, fun σ s0 => by simp [s0, e]⟩
/-- the ints of a range -/
def rngL (i : Int) (n : Nat) : List W := (List.range n).map fun (k : Nat) => W.int (i + (k : Int))
@[simp] theorem items_rng {h : Hb} {i : Int} {n : Nat} : items h (rngW i n) = some (rngL i n) := rfl
@[simp high] theorem itemsI_rng {h : Hb} {i : Int} {n : Nat} : itemsI h (rngW i n) = some (rngL i n) := rfl
@[simp] theorem stays_rng {h h' : Hb} {i : Int} {n : Nat} : stays h h' (rngW i n) = true := rfl
@[simp] theorem len_rng {i : Int} {n : Nat} : (rngL i n).length = n := by simp [rngL]
theorem rng_at {i : Int} {n j : Nat} {w : W} (e : (rngL i n)[j]? = some w) : j < n ∧ w = .int (i + j) := by
  have hj : j < n := by have := (List.getElem?_eq_some_iff.mp e).1; simpa using this
  refine ⟨hj, ?_⟩
  unfold rngL at e
  rw [List.getElem?_map, List.getElem?_range hj] at e
  exact (Option.some.inj e).symm
end Y
/-! Z5: dicts as lists of pairs; comprehensions that make dicts; f-strings; texts put in order; the order of tuples by the order of texts. -/
namespace Y
open PySem

abbrev Str.cl (s : Str) : List Nat := s.cps.toList
/-! ### a dict's keys and values, from a list of pairs -/
section
variable {κ ν : Type} [DecidableEq κ]
def aput (k : κ) (v : ν) : List (κ × ν) → List (κ × ν)
  | [] => [(k, v)]
  | p :: r => if k = p.1 then (p.1, v) :: r else p :: aput k v r
def aget (k : κ) : List (κ × ν) → Option ν
  | [] => none
  | p :: r => if k = p.1 then some p.2 else aget k r
theorem aget_aput (k k' : κ) (v : ν) : ∀ d : List (κ × ν), aget k' (aput k v d) = if k' = k then some v else aget k' d
  | [] => rfl
  | p :: r => by
    unfold aput
    by_cases c : k = p.1
    · rw [if_pos c]
      subst c
      unfold aget
      by_cases c2 : k' = p.1
      · rw [if_pos c2, if_pos c2]
      · rw [if_neg c2, if_neg c2, if_neg c2]
    · rw [if_neg c]
      unfold aget
      by_cases c2 : k' = p.1
      · rw [if_pos c2, if_neg (fun z => c (by rw [← z, c2])), if_pos c2]
      · rw [if_neg c2, aget_aput k k' v r, if_neg c2]
theorem aput_len (k : κ) (v : ν) : ∀ d : List (κ × ν), (aput k v d).length ≤ d.length + 1
  | [] => by simp [aput]
  | p :: r => by
    have := aput_len k v r
    unfold aput
    split
    · simp
    · simp only [List.length_cons]; omega
theorem aput_keys (k : κ) (v : ν) : ∀ d : List (κ × ν), ∀ k', k' ∈ (aput k v d).map (·.1) ↔ k' = k ∨ k' ∈ d.map (·.1)
  | [], k' => by simp [aput]
  | p :: r, k' => by
    have := aput_keys k v r k'
    unfold aput
    split
    · rename_i c
      simp only [List.map_cons, List.mem_cons]
      rw [c]
      constructor
      · rintro (h | h)
        · exact .inl h
        · exact .inr (.inr h)
      · rintro (h | h | h)
        · exact .inl h
        · exact .inl h
        · exact .inr h
    · simp only [List.map_cons, List.mem_cons, this]
      constructor
      · rintro (h | h | h)
        · exact .inr (.inl h)
        · exact .inl h
        · exact .inr (.inr h)
      · rintro (h | h | h)
        · exact .inr (.inl h)
        · exact .inl h
        · exact .inr (.inr h)
theorem aput_nodup (k : κ) (v : ν) : ∀ d : List (κ × ν), (d.map (·.1)).Nodup → ((aput k v d).map (·.1)).Nodup
  | [], _ => by simp [aput]
  | p :: r, h => by
    simp only [List.map_cons, List.nodup_cons] at h
    unfold aput
    split
    · simp only [List.map_cons, List.nodup_cons]; exact h
    · rename_i c
      simp only [List.map_cons, List.nodup_cons]
      refine ⟨fun z => ?_, aput_nodup k v r h.2⟩
      rcases (aput_keys k v r p.1).mp z with q | q
      · exact c q.symm
      · exact h.1 q
theorem aget_mem {k : κ} {v : ν} : ∀ {d : List (κ × ν)}, aget k d = some v → (k, v) ∈ d
  | p :: r, h => by
    unfold aget at h
    split at h
    · rename_i c
      rw [c, ← Option.some.inj h]
      exact List.mem_cons_self
    · exact List.mem_cons_of_mem _ (aget_mem h)
theorem aget_of_mem {k : κ} {v : ν} : ∀ {d : List (κ × ν)}, (d.map (·.1)).Nodup → (k, v) ∈ d → aget k d = some v
  | p :: r, hn, h => by
    simp only [List.map_cons, List.nodup_cons] at hn
    rcases List.mem_cons.mp h with q | q
    · subst q
      unfold aget
      rw [if_pos rfl]
    · unfold aget
      rw [if_neg]
      · exact aget_of_mem hn.2 q
      · intro z
        exact hn.1 (by rw [← z]; exact List.mem_map.mpr ⟨(k, v), q, rfl⟩)
theorem aput_mem (k : κ) (v : ν) : ∀ {d : List (κ × ν)}, (d.map (·.1)).Nodup → ∀ p, p ∈ aput k v d ↔ p = (k, v) ∨ (p ∈ d ∧ p.1 ≠ k)
  | d, hn, (k', v') => by
    have hn' := aput_nodup k v d hn
    have e := aget_aput k k' v d
    constructor
    · intro h
      rw [aget_of_mem hn' h] at e
      by_cases c : k' = k
      · rw [if_pos c] at e
        exact .inl (by rw [c, Option.some.inj e])
      · rw [if_neg c] at e
        exact .inr ⟨aget_mem e.symm, c⟩
    · rintro (h | ⟨h, c⟩)
      · cases h
        rw [if_pos rfl] at e
        exact aget_mem e
      · rw [if_neg c, aget_of_mem hn h] at e
        exact aget_mem e
/-- how keys are told apart -/
structure KeyW (kw : κ → W) (S : κ → Prop) : Prop where
  eq : ∀ a b, S a → S b → keyEq (kw a) (kw b) = decide (a = b)
  ok : (∀ a, S a → (kw a).isAtom = true) ∨ (∀ a, S a → (kw a).isTupK = true)
theorem KeyW.keyOk {kw : κ → W} {S : κ → Prop} (K : KeyW kw S) {k : κ} (hk : S k) {ks : List κ} (hs : ∀ a ∈ ks, S a) : Y.keyOk (kw k) (ks.map kw) = true := by
  unfold Y.keyOk
  rcases K.ok with h | h
  · have h2 : (ks.map kw).all W.isAtom = true := by
      rw [List.all_eq_true]; rintro w hw
      obtain ⟨a, ha, rfl⟩ := List.mem_map.mp hw
      exact h a (hs a ha)
    rw [h k hk, h2]; rfl
  · have h2 : (ks.map kw).all W.isTupK = true := by
      rw [List.all_eq_true]; rintro w hw
      obtain ⟨a, ha, rfl⟩ := List.mem_map.mp hw
      exact h a (hs a ha)
    rw [h k hk, h2, Bool.or_eq_true]; exact .inr rfl
def dK (kw : κ → W) (d : List (κ × ν)) : List W := (d.map (·.1)).map kw
def dV (vw : ν → W) (d : List (κ × ν)) : List W := (d.map (·.2)).map vw
theorem find_get {kw : κ → W} {S : κ → Prop} (K : KeyW kw S) (vw : ν → W) {k : κ} (hk : S k) : ∀ {d : List (κ × ν)}, (∀ a ∈ d.map (·.1), S a) → (match findK (dK kw d) (kw k) with | some j => (dV vw d)[j]? | none => none) = (aget k d).map vw
  | [], _ => rfl
  | p :: r, hs => by
    have hp : S p.1 := hs _ (by simp)
    have ih := find_get K vw hk (d := r) (fun a ha => hs a (by simp only [List.map_cons, List.mem_cons]; exact .inr ha))
    unfold findK dK dV at *
    simp only [List.map_cons, List.findIdx?_cons, K.eq k p.1 hk hp]
    unfold aget
    by_cases c : k = p.1
    · simp [c]
    · simp only [c, decide_false, if_false, Bool.false_eq_true]
      cases q : List.findIdx? (keyEq (kw k)) (List.map kw (List.map (fun x => x.1) r)) with
      | none => rw [q] at ih; simpa using ih
      | some j => rw [q] at ih; simpa using ih
theorem dGet_map {kw : κ → W} {S : κ → Prop} (K : KeyW kw S) (vw : ν → W) {k : κ} (hk : S k) {d : List (κ × ν)} (hs : ∀ a ∈ d.map (·.1), S a) : dGet (dK kw d) (dV vw d) (kw k) = some ((aget k d).map vw) := by
  unfold dGet
  have e : Y.keyOk (kw k) (dK kw d) = true := K.keyOk hk hs
  rw [if_pos e, ← find_get K vw hk hs]
  all_goals rfl
theorem find_put {kw : κ → W} {S : κ → Prop} (K : KeyW kw S) (vw : ν → W) {k : κ} (hk : S k) (v : ν) : ∀ {d : List (κ × ν)}, (∀ a ∈ d.map (·.1), S a) → (match findK (dK kw d) (kw k) with | some j => (dK kw d, (dV vw d).set j (vw v)) | none => (dK kw d ++ [kw k], dV vw d ++ [vw v])) = (dK kw (aput k v d), dV vw (aput k v d))
  | [], _ => rfl
  | p :: r, hs => by
    have hp : S p.1 := hs _ (by simp)
    have ih := find_put K vw hk v (d := r) (fun a ha => hs a (by simp only [List.map_cons, List.mem_cons]; exact .inr ha))
    unfold findK dK dV at *
    simp only [List.map_cons, List.findIdx?_cons, K.eq k p.1 hk hp]
    unfold aput
    by_cases c : k = p.1
    · simp [c]
    · simp only [c, decide_false, if_false, Bool.false_eq_true]
      cases q : List.findIdx? (keyEq (kw k)) (List.map kw (List.map (fun x => x.1) r)) with
      | none =>
        rw [q] at ih
        simp only [Prod.mk.injEq] at ih
        simp [← ih.1, ← ih.2]
      | some j =>
        rw [q] at ih
        simp only [Prod.mk.injEq] at ih
        simp [← ih.1, ← ih.2]
theorem dPut_map {kw : κ → W} {S : κ → Prop} (K : KeyW kw S) (vw : ν → W) {k : κ} (hk : S k) (v : ν) {d : List (κ × ν)} (hs : ∀ a ∈ d.map (·.1), S a) (hl : d.length < 16777216) : dPut (dK kw d) (dV vw d) (kw k) (vw v) = some (dK kw (aput k v d), dV vw (aput k v d)) := by
  unfold dPut
  have e : Y.keyOk (kw k) (dK kw d) = true := K.keyOk hk hs
  have e2 : decide ((dK kw d).length < 16777216) = true := decide_eq_true (by simpa [dK] using hl)
  rw [if_pos (by rw [e, e2]; rfl), ← find_put K vw hk v hs]
  all_goals rfl
end
/-- texts as keys -/
theorem key_texts : KeyW W.str (fun _ : Str => True) := ⟨fun a b _ _ => by simp only [keyEq, W.nk, NestedKey.beq], .inl fun _ _ => rfl⟩

/-! ### turns that carry something -/
theorem forA_inv {α : Type} {f : W → α → Hb → R α} {ok : Hb → Bool} (I : Nat → α → Hb → Prop) (hok : ∀ i a h, I i a h → ok h = true) :
    ∀ (ws : List W) (i : Nat) (a : α) (h : Hb), I i a h → (∀ j w, ws[j]? = some w → ∀ a h, I (i + j) a h → ∃ a' h', f w a h = .ok a' h' ∧ I (i + j + 1) a' h') → ∃ a' h', forA f ok ws a h = .ok a' h' ∧ I (i + ws.length) a' h'
  | [], i, a, h, hi, _ => ⟨a, h, by unfold forA; rw [if_pos (hok i a h hi)], hi⟩
  | w :: ws, i, a, h, hi, hs => by
    obtain ⟨a1, h1, e, i1⟩ := hs 0 w rfl a h hi
    obtain ⟨a2, h2, e2, i2⟩ := forA_inv I hok ws (i + 1) a1 h1 i1 (fun j u hj a h hI => by
      obtain ⟨a', h', p, q⟩ := hs (j + 1) u (by simpa using hj) a h (by rw [show i + (j + 1) = i + 1 + j by omega]; exact hI)
      exact ⟨a', h', p, by rw [show i + 1 + j + 1 = i + (j + 1) + 1 by omega]; exact q⟩)
    refine ⟨a2, h2, ?_, by rw [List.length_cons, show i + (ws.length + 1) = i + 1 + ws.length by omega]; exact i2⟩
    conv => lhs; unfold forA
    rw [if_pos (hok i a h hi), e]
    exact e2
/-- one turn of the inner clause of a comprehension that makes a dict -/
def turnD (C : Ctx) (kx vx : E) (t : Tg) (c : E) (own : List Nat) (σ : Sb) : W → List W × List W → Hb → R (List W × List W) := fun x acc h2 => match setT t x (wipe σ own) with
  | some σ' => (evalE C c σ' h2).bind fun b h3 => (match b with
    | .bl true => (evalE C kx σ' h3).bind fun k h4 => (evalE C vx σ' h4).bind fun v h5 => R.ofO (dPut acc.1 acc.2 k v) h5
    | .bl false => .ok acc h3
    | _ => .no)
  | none => .no
/-- one of the outer clause -/
def turnD2 (C : Ctx) (kx vx : E) (t : Tg) (c : E) (t1 : Tg) (it1 : E) (c1 : E) (own own1 : List Nat) (σ : Sb) : W → List W × List W → Hb → R (List W × List W) := fun x acc h2 => match setT t x (wipe σ own) with
  | some σ' => (evalE C c σ' h2).bind fun b h3 => (match b with
    | .bl true => (evalE C it1 σ' h3).bind fun w1 h4 => (match itemsI h4 w1 with
      | some ws1 => forA (turnD C kx vx t1 c1 own1 σ') (fun h' => stays h4 h' w1) ws1 acc h4
      | none => .no)
    | .bl false => .ok acc h3
    | _ => .no)
  | none => .no
def kDic (r : R (List W × List W)) : R W := r.bind fun vs h5 => .ok (.dic vs.1 vs.2) h5
@[simp] theorem kDic_ok {a : List W × List W} {h : Hb} : kDic (.ok a h) = .ok (.dic a.1 a.2) h := rfl
def kCmd2 (C : Ctx) (kx vx : E) (t : Tg) (c : E) (t1 : Tg) (it1 : E) (c1 : E) (own own1 : List Nat) (σ : Sb) (r : R W) : R W := r.bind fun w h1 => (match itemsI h1 w with
  | some ws => kDic (forA (turnD2 C kx vx t c t1 it1 c1 own own1 σ) (fun h' => stays h1 h' w) ws ([], []) h1)
  | none => .no)
section
variable (C : Ctx) (σ : Sb) (h : Hb)
@[simp] theorem eCmd2 (kx vx : E) (t : Tg) (it c : E) (t1 : Tg) (it1 c1 : E) (own own1 : List Nat) : evalE C (.cmd2 kx vx t it c t1 it1 c1 own own1) σ h = kCmd2 C kx vx t c t1 it1 c1 own own1 σ (evalE C it σ h) := by rw [evalE]; rfl
def kNewd (r : R W) : R W := r.bind fun x h1 => (match x with | .dic ks ws => .ok (.ref h1.length) (h1 ++ [.dct ks ws]) | _ => .no)
@[simp] theorem eNewd (e : E) : evalE C (.newd e) σ h = kNewd (evalE C e σ h) := by rw [evalE]; rfl
@[simp] theorem kNewd_ok {ks ws : List W} {h : Hb} : kNewd (.ok (.dic ks ws) h) = .ok (.ref h.length) (h ++ [.dct ks ws]) := rfl
@[simp] theorem eDct0 : evalE C .dct0 σ h = .ok (.dic [] []) h := by rw [evalE]
def kFmt (r : R W) : R W := r.bind fun x h1 => (match strOf x with | some t => if small t.length then .ok (.str t) h1 else .no | none => .no)
@[simp] theorem eFmt (e : E) : evalE C (.fmt e) σ h = kFmt (evalE C e σ h) := by rw [evalE]; rfl
theorem kFmt_ok {x : W} {h : Hb} {t : Str} (e : strOf x = some t) (l : t.length ≤ 16777216) : kFmt (.ok x h) = .ok (.str t) h := by
  show (match strOf x with | some t => if small t.length then R.ok (W.str t) h else .no | none => .no) = _
  rw [e]; exact if_pos (decide_eq_true l)
def kFstr (r : R W) : R W := (noEx r).bind fun x h1 => (match x with
    | .tup xs => (match strsW xs with | some ss => if small (total ss) then .ok (.str (ss.foldl (· ++ ·) Str.empty)) h1 else .no | none => .no)
    | _ => .no)
@[simp] theorem eFstr (e : E) : evalE C (.fstr e) σ h = kFstr (evalE C e σ h) := by rw [evalE]; rfl
@[simp] theorem kFstr_ok {xs : List W} {h : Hb} : kFstr (.ok (.tup xs) h) = (match strsW xs with | some ss => if small (total ss) then .ok (.str (ss.foldl (· ++ ·) Str.empty)) h else .no | none => .no) := rfl
def kIsi (ts : List Str) (r : R W) : R W := r.bind fun x h1 => R.ofB (isAny h1 x ts) h1
@[simp] theorem eIsi (e : E) (ts : List Str) : evalE C (.isi e ts) σ h = kIsi ts (evalE C e σ h) := by rw [evalE]; rfl
@[simp] theorem kIsi_ok {x : W} {h : Hb} {ts : List Str} : kIsi ts (.ok x h) = R.ofB (isAny h x ts) h := rfl
def kFz (i : Nat) (σ : Sb) (h : Hb) : Option (Option W) → G
  | some (some w) => (frzW h w).go σ fun v h1 => .ok (.nx (σ.set i (some v))) h1
  | _ => .no
@[simp] theorem sFz (i : Nat) : evalS C (.fz i) σ h = kFz i σ h σ[i]? := by
  rw [evalS]; unfold kFz
  cases σ[i]? with
  | none => rfl
  | some o => cases o <;> rfl
theorem kFz_dct {i n : Nat} {σ : Sb} {h : Hb} {ks ws : List W} (e : h[n]? = some (.dct ks ws)) : kFz i σ h (some (some (.ref n))) = .ok (.nx (σ.set i (some (.dic ks ws)))) (h.set n .dead) := by
  unfold kFz frzW
  simp only [e]; rfl
end
theorem getIxD_dic {h : Hb} {ks ws : List W} {k v : W} (e : dGet ks ws k = some (some v)) : getIxD h (.dic ks ws) k = some v := by
  simp only [getIxD, dOf, e]
theorem get_ref {h : Hb} {n : Nat} {ks ws : List W} {k d : W} {o : Option W} (e : h[n]? = some (.dct ks ws)) (e2 : dGet ks ws k = some o) : method .get (.ref n) [k, d] h = .ok (o.getD d) h := by
  simp only [method, dOf, e, e2]
theorem recv_ref {h : Hb} {n : Nat} {ks ws : List W} (e : h[n]? = some (.dct ks ws)) : recv .get h (.ref n) = true := by
  simp only [recv, dOf, e]; rfl
theorem setIxD_dct {h : Hb} {n : Nat} {ks ws : List W} {k v : W} {p : List W × List W} (e : h[n]? = some (.dct ks ws)) (e2 : dPut ks ws k v = some p) : setIxD h (.ref n) k v = .ok () (h.set n (.dct p.1 p.2)) := by
  simp only [setIxD, e, e2]

/-- a comprehension without effect, over things -/
theorem forC_list {α : Type} {f : W → Hb → R (Option W)} {ok : Hb → Bool} {w : α → W} {g : α → Option W} {h : Hb} (hok : ok h = true) : ∀ (l : List α) (acc : List W), (∀ a ∈ l, f (w a) h = .ok (g a) h) → acc.length + l.length ≤ 16777216 → forC f ok (l.map w) acc h = .ok (acc ++ l.filterMap g) h
  | [], acc, _, _ => by rw [List.map_nil, forC_nil hok]; simp
  | a :: l, acc, hs, hl => by
    simp only [List.length_cons] at hl
    have e := hs a List.mem_cons_self
    rw [List.map_cons]
    cases q : g a with
    | none =>
      rw [q] at e
      rw [forC_none e hok, forC_list hok l acc (fun b hb => hs b (List.mem_cons_of_mem _ hb)) (by omega)]
      simp [q]
    | some v =>
      rw [q] at e
      rw [forC_some e hok (by omega), forC_list hok l (acc ++ [v]) (fun b hb => hs b (List.mem_cons_of_mem _ hb)) (by simp; omega)]
      simp [q]
theorem forC_listT {α : Type} {f : W → Hb → R (Option W)} {ok : Hb → Bool} {w g : α → W} {h : Hb} (hok : ok h = true) (l : List α) (hs : ∀ a ∈ l, f (w a) h = .ok (some (g a)) h) (hl : l.length ≤ 16777216) : forC f ok (l.map w) [] h = .ok (l.map g) h := by
  rw [forC_list (g := fun a => some (g a)) hok l [] hs (by simpa using hl)]
  simp
theorem forC_listB {α : Type} {f : W → Hb → R (Option W)} {ok : Hb → Bool} {w g : α → W} {p : α → Bool} {h : Hb} (hok : ok h = true) (l : List α) (hs : ∀ a ∈ l, f (w a) h = .ok (if p a = true then some (g a) else none) h) (hl : l.length ≤ 16777216) : forC f ok (l.map w) [] h = .ok ((l.filter p).map g) h := by
  rw [forC_list (g := fun a => if p a = true then some (g a) else none) hok l [] hs (by simpa using hl)]
  congr 1
  rw [List.nil_append]
  clear hs hl
  induction l with
  | nil => rfl
  | cons a l ih =>
    simp only [List.filterMap_cons, List.filter_cons]
    cases p a <;> simp [ih]
theorem forA_list {α β : Type} {f : W → β → Hb → R β} {ok : Hb → Bool} {w : α → W} {h : Hb} (I : List α → β → Prop) (hok : ok h = true) : ∀ (l seen : List α) (b : β), I seen b → (∀ seen a b, a ∈ l → I seen b → ∃ b', f (w a) b h = .ok b' h ∧ I (seen ++ [a]) b') → ∃ b', forA f ok (l.map w) b h = .ok b' h ∧ I (seen ++ l) b'
  | [], seen, b, hi, _ => ⟨b, by rw [List.map_nil]; unfold forA; rw [if_pos hok], by simpa using hi⟩
  | a :: l, seen, b, hi, hs => by
    obtain ⟨b1, e1, i1⟩ := hs seen a b List.mem_cons_self hi
    obtain ⟨b2, e2, i2⟩ := forA_list I hok l (seen ++ [a]) b1 i1 fun s c b' hc hI => hs s c b' (List.mem_cons_of_mem _ hc) hI
    refine ⟨b2, ?_, by simpa using i2⟩
    rw [List.map_cons]
    conv => lhs; unfold forA
    rw [if_pos hok, e1]
    exact e2
theorem turnD_t {C : Ctx} {kx vx : E} {t : Tg} {own : List Nat} {σ σ' : Sb} {x k v : W} {acc p : List W × List W} {h : Hb} (e : setT t x (wipe σ own) = some σ') (e1 : evalE C kx σ' h = .ok k h) (e2 : evalE C vx σ' h = .ok v h) (e3 : dPut acc.1 acc.2 k v = some p) : turnD C kx vx t (.bl true) own σ x acc h = .ok p h := by
  unfold turnD
  rw [e]
  simp [R.bind, e1, e2, e3]
theorem turnD2_t {C : Ctx} {kx vx it1 c1 : E} {t t1 : Tg} {own own1 : List Nat} {σ σ' : Sb} {x w1 : W} {ws1 : List W} {acc : List W × List W} {h : Hb} (e : setT t x (wipe σ own) = some σ') (e1 : evalE C it1 σ' h = .ok w1 h) (e2 : itemsI h w1 = some ws1) : turnD2 C kx vx t (.bl true) t1 it1 c1 own own1 σ x acc h = forA (turnD C kx vx t1 c1 own1 σ') (fun h' => stays h h' w1) ws1 acc h := by
  unfold turnD2
  rw [e]
  simp [R.bind, e1, e2]
theorem kCmd2_ok {C : Ctx} {kx vx : E} {t : Tg} {c : E} {t1 : Tg} {it1 c1 : E} {own own1 : List Nat} {σ : Sb} {w : W} {ws : List W} {h : Hb} (e : itemsI h w = some ws) : kCmd2 C kx vx t c t1 it1 c1 own own1 σ (.ok w h) = kDic (forA (turnD2 C kx vx t c t1 it1 c1 own own1 σ) (fun h' => stays h h' w) ws ([], []) h) := by
  show (match itemsI h w with
  | some ws => kDic (forA (turnD2 C kx vx t c t1 it1 c1 own own1 σ) (fun h' => stays h h' w) ws ([], []) h)
  | none => .no) = _
  rw [e]
theorem len_cl (s : Str) : s.length = (Str.cl s).length := by simp [Str.length, Str.cl]

/-! ### texts put in order -/
theorem cl_inj {a b : Str} (h : Str.cl a = Str.cl b) : a = b := by
  cases a; cases b; simp only [Str.cl] at h; rw [Array.toList_inj.mp h]
theorem cl_app (a b : Str) : Str.cl (a ++ b) = Str.cl a ++ Str.cl b := by
  show (a.cps ++ b.cps).toList = _
  simp
theorem insS_mem {i j : Str} : ∀ {l : List Str}, j ∈ insS i l ↔ j = i ∨ j ∈ l
  | [] => by simp [insS]
  | k :: l => by
    unfold insS
    split
    · simp
    · simp only [List.mem_cons, insS_mem (l := l)]
      constructor
      · rintro (h | h | h)
        · exact .inr (.inl h)
        · exact .inl h
        · exact .inr (.inr h)
      · rintro (h | h | h)
        · exact .inr (.inl h)
        · exact .inl h
        · exact .inr (.inr h)
theorem sortS_mem {j : Str} : ∀ {l : List Str}, j ∈ sortS l ↔ j ∈ l
  | [] => Iff.rfl
  | k :: l => by
    show j ∈ insS k (sortS l) ↔ _
    rw [insS_mem, sortS_mem (l := l), List.mem_cons]
theorem insS_len {i : Str} : ∀ l : List Str, (insS i l).length = l.length + 1
  | [] => rfl
  | k :: l => by unfold insS; split <;> simp [insS_len l]
theorem sortS_len : ∀ l : List Str, (sortS l).length = l.length
  | [] => rfl
  | k :: l => by
    show (insS k (sortS l)).length = _
    rw [insS_len, sortS_len l]; rfl
def ltC (a b : Str) : Prop := Str.cl a < Str.cl b
theorem ltC_trans {a b c : Str} (h1 : ltC a b) (h2 : ltC b c) : ltC a c := List.lt_trans h1 h2
theorem ltC_irrefl (a : Str) : ¬ ltC a a := List.lt_irrefl _
theorem ltC_asymm {a b : Str} (h1 : ltC a b) (h2 : ltC b a) : False := ltC_irrefl a (ltC_trans h1 h2)
theorem ltC_total {a b : Str} (h : a ≠ b) : ltC a b ∨ ltC b a := by
  by_cases c : ltC a b
  · exact .inl c
  · by_cases c2 : ltC b a
    · exact .inr c2
    · have := List.le_antisymm (as := Str.cl a) (bs := Str.cl b) (List.not_lt.mp c2) (List.not_lt.mp c)
      exact absurd (cl_inj this) h
theorem insS_asc {i : Str} : ∀ {l : List Str}, l.Pairwise ltC → i ∉ l → (insS i l).Pairwise ltC
  | [], _, _ => by simp [insS]
  | k :: l, h, hn => by
    have hk := List.pairwise_cons.mp h
    simp only [List.mem_cons, not_or] at hn
    unfold insS
    split
    · rename_i c
      have c' : ¬ ltC k i := by
        unfold leS at c
        simp only [Bool.not_eq_true', decide_eq_false_iff_not] at c
        exact c
      have ik : ltC i k := (ltC_total hn.1).resolve_right c'
      refine List.pairwise_cons.mpr ⟨fun u hu => ?_, h⟩
      rcases List.mem_cons.mp hu with q | q
      · rw [q]; exact ik
      · exact ltC_trans ik (hk.1 u q)
    · rename_i c
      have c' : ltC k i := by
        unfold leS at c
        simp only [Bool.not_eq_true', decide_eq_false_iff_not, Classical.not_not] at c
        exact c
      refine List.pairwise_cons.mpr ⟨fun u hu => ?_, insS_asc hk.2 hn.2⟩
      rcases insS_mem.mp hu with q | q
      · rw [q]; exact c'
      · exact hk.1 u q
theorem sortS_asc : ∀ {l : List Str}, l.Nodup → (sortS l).Pairwise ltC
  | [], _ => List.Pairwise.nil
  | k :: l, h => by
    have := List.nodup_cons.mp h
    exact insS_asc (sortS_asc this.2) (fun z => this.1 (sortS_mem.mp z))
@[simp] theorem strsW_strs : ∀ ss : List Str, strsW (ss.map .str) = some ss
  | [] => rfl
  | s :: ss => by simp [strsW, strsW_strs ss]
theorem sorted_strs {h : Hb} {ss : List Str} (l : ss.length < 64) : builtin .sorted [.lit (ss.map .str)] h = some (.lit ((sortS ss).map .str)) := by
  cases ss with
  | nil => rfl
  | cons s r =>
    show (match itemsL h (.lit (W.str s :: r.map .str)) with
      | some xs => (match intsW xs with | some is => some (W.lit ((sortI is).map W.int)) | none => (match strsW xs with | some ss => if decide (ss.length < 64) then some (W.lit ((sortS ss).map W.str)) else none | none => none))
      | none => none) = _
    have e : strsW (W.str s :: r.map .str) = some (s :: r) := strsW_strs (s :: r)
    show (match strsW (W.str s :: r.map .str) with | some ss => if decide (ss.length < 64) then some (W.lit ((sortS ss).map W.str)) else none | none => none) = _
    rw [e]; exact if_pos (decide_eq_true l)
/-- two ascending lists of the same members are one -/
theorem asc_unique {α : Type} {lt : α → α → Prop} (irr : ∀ a b, lt a b → lt b a → False) : ∀ {l m : List α}, l.Pairwise lt → m.Pairwise lt → (∀ a, a ∈ l ↔ a ∈ m) → l = m
  | [], [], _, _, _ => rfl
  | [], b :: m, _, _, h => absurd ((h b).mpr List.mem_cons_self) List.not_mem_nil
  | a :: l, [], _, _, h => absurd ((h a).mp List.mem_cons_self) List.not_mem_nil
  | a :: l, b :: m, h1, h2, h => by
    have p1 := List.pairwise_cons.mp h1
    have p2 := List.pairwise_cons.mp h2
    have e : a = b := by
      rcases List.mem_cons.mp ((h a).mp List.mem_cons_self) with q | q
      · exact q
      · rcases List.mem_cons.mp ((h b).mpr List.mem_cons_self) with z | z
        · exact z.symm
        · exact (irr a b (p1.1 b z) (p2.1 a q)).elim
    subst e
    rw [asc_unique irr p1.2 p2.2 fun c => ?_]
    have := h c
    constructor
    · intro hc
      rcases List.mem_cons.mp (this.mp (List.mem_cons_of_mem _ hc)) with q | q
      · exact (irr c c (q ▸ p1.1 c hc) (q ▸ p1.1 c hc)).elim
      · exact q
    · intro hc
      rcases List.mem_cons.mp (this.mpr (List.mem_cons_of_mem _ hc)) with q | q
      · exact (irr c c (q ▸ p2.1 c hc) (q ▸ p2.1 c hc)).elim
      · exact q
end Y
namespace Y
open PySem PySem.Spec PyProof.Rows L2
/-! the functions of law_k39_least_reports in Y -/
abbrev rw0 : PySem.W.OpenLaw := PySem.Challenge.rw_endspassed_k39_least_reports
def topS (i : Nat) : Stmt := PySem.Challenge.pw_endspassed_k39_least_reports.main.body.getD i (.Pass ⟨0, 0, 0, 0⟩)
def fface_of : FD := { ps := ["report"], n := 9, body :=
    (.seq (.asg (.tp (.cons (.nm 1) (.cons (.nm 2) (.cons (.nm 3) (.cons (.nm 4) (.cons (.nm 5) (.cons (.nm 6) (.cons (.nm 7) (.cons (.nm 8) .nil))))))))) (.slot 0))
    (.seq (.ret (.tup (.cons (.slot 1) (.cons (.slot 2) (.cons (.slot 3) (.cons (.bi .len (.cons (.slot 4) .nil)) (.cons (.slot 5) (.cons (.bi .len (.cons (.slot 6) .nil)) (.cons (.slot 7) (.cons (.slot 8) .nil))))))))))
    .skip)) }
def fneeds_of : FD := { ps := ["report"], n := 1, body :=
    (.seq (.ret (.tup (.star (.ix (.slot 0) (.int 3)) (.star (.ix (.slot 0) (.int 5)) .nil))))
    .skip) }
def fcovers : FD := { ps := ["report", "other"], n := 4, body :=
    (.seq (.ite (.cmp .ne (.call "face_of" (.cons (.slot 0) .nil) [] .nil) (.call "face_of" (.cons (.slot 1) .nil) [] .nil))
    (.seq (.ret (.bl false))
    .skip)
    .skip)
    (.seq (.ret (.bi .all (.cons (.cm (.cmp .le (.slot 2) (.slot 3)) (.tp (.cons (.nm 2) (.cons (.nm 3) .nil))) (.zip (.call "needs_of" (.cons (.slot 0) .nil) [] .nil) (.call "needs_of" (.cons (.slot 1) .nil) [] .nil)) (.bl true) [2, 3]) .nil)))
    .skip)) }
def fsigns_text : FD := { ps := ["numbers"], n := 2, body :=
    (.seq (.ret (.bin .add (.mt .join (.str "") (.cons (.cm (.bi .str (.cons (.bin .add (.bi .int (.cons (.slot 1) .nil)) (.int 1)) .nil)) (.nm 1) (.slot 0) (.bl true) [1]) .nil)) (.str "0")))
    .skip) }
def ftext_of : FD := { ps := ["report"], n := 10, body :=
    (.seq (.asg (.tp (.cons (.nm 1) (.cons (.nm 2) (.cons (.nm 3) (.cons (.nm 4) (.cons (.nm 5) (.cons (.nm 6) (.cons (.nm 7) (.cons (.nm 8) .nil))))))))) (.slot 0))
    (.seq (.asg (.nm 9) (.fstr (.cons (.fmt (.slot 1)) (.cons (.fmt (.slot 2)) (.cons (.fmt (.bi .int (.cons (.slot 3) .nil))) (.cons (.fmt (.call "signs_text" (.cons (.slot 4) .nil) [] .nil)) .nil))))))
    (.seq (.ret (.fstr (.cons (.fmt (.slot 9)) (.cons (.fmt (.bi .int (.cons (.slot 5) .nil))) (.cons (.fmt (.call "signs_text" (.cons (.slot 6) .nil) [] .nil)) (.cons (.fmt (.slot 7)) (.cons (.fmt (.bi .int (.cons (.slot 8) .nil))) .nil)))))))
    .skip))) }
def fleast : FD := { ps := ["reports"], n := 8, body :=
    (.seq (.asg (.nm 1) (.newd .dct0))
    (.seq (.for (.nm 2) (.slot 0)
    (.seq (.asg (.nm 3) (.call "face_of" (.cons (.slot 2) .nil) [] .nil))
    (.seq (.asg (.nm 4) (.mt .get (.slot 1) (.cons (.slot 3) (.cons (.lst .nil) .nil))))
    (.seq (.ite (.tnot (.tru (.bi .any (.cons (.cm (.call "covers" (.cons (.slot 6) (.cons (.slot 2) .nil)) [] .nil) (.nm 6) (.slot 4) (.bl true) [6]) .nil))))
    (.seq (.six (.slot 1) (.slot 3) (.bin .add (.cm (.slot 6) (.nm 6) (.slot 4) (.tnot (.tru (.call "covers" (.cons (.slot 2) (.cons (.slot 6) .nil)) [] .nil))) [6]) (.lst (.cons (.slot 2) .nil))))
    .skip)
    .skip)
    .skip))))
    (.seq (.fz 1)
    (.seq (.asg (.nm 5) (.cmd2 (.call "text_of" (.cons (.slot 2) .nil) [] .nil) (.slot 2) (.nm 3) (.slot 1) (.bl true) (.nm 2) (.ix (.slot 1) (.slot 3)) (.bl true) [3, 2] [2]))
    (.seq (.ret (.new (.cm (.ix (.slot 5) (.slot 7)) (.nm 7) (.bi .sorted (.cons (.cm (.bi .str (.cons (.slot 7) .nil)) (.nm 7) (.slot 5) (.bl true) [7]) .nil)) (.bl true) [7])))
    .skip))))) }
def g_pen : FD := { ps := ["_law_script"], n := 1, body :=
    (.seq (.ret (.new (.lst (.cons (.bi .list (.cons (.cut (.slot 0) .non (.int 63)) .nil)) (.cons (.int 0) (.cons (.int 0) .nil))))))
    .skip) }
def g_draw : FD := { ps := ["_law_pen_here", "_law_many"], n := 7, body :=
    (.seq (.ite (.cmp .gt (.ix (.slot 0) (.int 2)) (.int 0))
    (.seq (.asg (.nm 2) (.bin .mod (.bi .int (.cons (.ix (.slot 0) (.int 2)) .nil)) (.slot 1)))
    (.seq (.six (.slot 0) (.int 2) (.bin .fdv (.bi .int (.cons (.ix (.slot 0) (.int 2)) .nil)) (.slot 1)))
    (.seq (.ret (.slot 2))
    .skip)))
    .skip)
    (.seq (.asg (.nm 3) (.ix (.slot 0) (.int 1)))
    (.seq (.six (.slot 0) (.int 1) (.bin .add (.slot 3) (.int 1)))
    (.seq (.asg (.nm 4) (.bin .add (.bin .mul (.int 72019) (.slot 3)) (.int 823)))
    (.seq (.ite (.cmp .ne (.ix (.slot 0) (.int 0)) (.lst .nil))
    (.seq (.asg (.nm 4) (.ix (.ix (.slot 0) (.int 0)) (.bin .mod (.bi .int (.cons (.slot 3) .nil)) (.bi .len (.cons (.ix (.slot 0) (.int 0)) .nil)))))
    .skip)
    .skip)
    (.seq (.ite (.tand (.cmp .lt (.slot 3) (.bi .len (.cons (.ix (.slot 0) (.int 0)) .nil))) (.cmp .ge (.bi .abs (.cons (.slot 4) .nil)) (.bin .pow (.int 10) (.int 18))))
    (.seq (.asg (.nm 5) (.bin .add (.bin .mul (.int 2) (.bin .sub (.bi .abs (.cons (.slot 4) .nil)) (.bin .pow (.int 10) (.int 18)))) (.bi .int (.cons (.cmp .lt (.slot 4) (.int 0)) .nil))))
    (.seq (.six (.slot 0) (.int 2) (.bin .fdv (.bi .int (.cons (.slot 5) .nil)) (.slot 1)))
    (.seq (.ret (.bin .mod (.bi .int (.cons (.slot 5) .nil)) (.slot 1)))
    .skip)))
    .skip)
    (.seq (.asg (.nm 6) (.bin .mod (.bi .int (.cons (.bin .pow (.bin .add (.bin .add (.bin .mod (.bi .int (.cons (.slot 4) .nil)) (.int 2147483549)) (.bin .mul (.int 50231) (.slot 3))) (.int 149)) (.int 5)) .nil)) (.int 2147483629)))
    (.seq (.asg (.nm 6) (.bin .mod (.bi .int (.cons (.bin .pow (.bin .add (.bin .add (.bin .mul (.slot 6) (.bin .add (.bin .mul (.int 2) (.slot 3)) (.int 109))) (.bin .mul (.bin .mul (.int 60167) (.slot 3)) (.slot 3))) (.int 61)) (.int 3)) .nil)) (.int 2147483587)))
    (.seq (.ret (.bin .mod (.bi .int (.cons (.bin .fdv (.slot 6) (.int 32)) .nil)) (.slot 1)))
    .skip))))))))) }
def g_pick : FD := { ps := ["_law_pen_here", "_law_some"], n := 2, body :=
    (.seq (.ret (.ix (.slot 1) (.call "_law_draw" (.cons (.slot 0) (.cons (.bi .len (.cons (.slot 1) .nil)) .nil)) [] .nil)))
    .skip) }
def g_report : FD := { ps := ["_law_pen_here", "_law_limit"], n := 12, body :=
    (.seq (.par [2, 3] (.cons (.call "_law_draw" (.cons (.slot 0) (.cons (.bin .add (.slot 1) (.int 1)) .nil)) [] .nil) (.cons (.call "_law_pick" (.cons (.slot 0) (.cons (.lst (.cons (.str "reading") (.cons (.str "finished") (.cons (.str "left") .nil)))) .nil)) [] .nil) .nil)))
    (.seq (.asg (.nm 4) (.cmp .eq (.call "_law_draw" (.cons (.slot 0) (.cons (.int 2) .nil)) [] .nil) (.int 0)))
    (.seq (.asg (.nm 5) (.and (.tnot (.tru (.slot 4))) (.cmp .eq (.call "_law_draw" (.cons (.slot 0) (.cons (.int 2) .nil)) [] .nil) (.int 0))))
    (.seq (.par [6, 7, 8] (.cons (.bin .add (.slot 2) (.bi .int (.cons (.cmp .eq (.slot 3) (.str "finished")) .nil))) (.cons (.new (.lst .nil)) (.cons (.int 0) .nil))))
    (.seq (.for (.nm 9) (.rng (.bin .add (.call "_law_draw" (.cons (.slot 0) (.cons (.int 3) .nil)) [] .nil) (.bi .int (.cons (.slot 5) .nil))))
    (.seq (.asg (.nm 8) (.bin .add (.slot 8) (.call "_law_draw" (.cons (.slot 0) (.cons (.bin .add (.bin .sub (.slot 6) (.slot 8)) (.int 1)) .nil)) [] .nil)))
    (.seq (.expr (.mt .append (.slot 7) (.cons (.slot 8) .nil)))
    .skip)))
    (.seq (.asg (.nm 10) (.ite (.cmp .eq (.slot 3) (.str "left")) (.tup (.cons (.and (.slot 4) (.cmp .eq (.call "_law_draw" (.cons (.slot 0) (.cons (.int 2) .nil)) [] .nil) (.int 0))) .nil)) (.tup .nil)))
    (.seq (.asg (.nm 11) (.call "_law_pick" (.cons (.slot 0) (.cons (.lst (.cons (.str "done") (.cons (.str "failed") (.cons (.str "stuck") .nil)))) .nil)) [] .nil))
    (.seq (.ret (.lst (.cons (.slot 2) (.cons (.slot 3) (.cons (.slot 4) (.cons (.bi .tuple (.cons (.slot 7) .nil)) (.cons (.slot 5) (.cons (.slot 10) (.cons (.slot 11) (.cons (.cmp .eq (.call "_law_draw" (.cons (.slot 0) (.cons (.int 2) .nil)) [] .nil) (.int 0)) .nil))))))))))
    .skip)))))))) }
def g_moved : FD := { ps := ["_law_pen_here", "_law_row"], n := 7, body :=
    (.seq (.par [2, 3, 4] (.cons (.bin .add (.ix (.slot 1) (.int 0)) (.bi .int (.cons (.cmp .eq (.ix (.slot 1) (.int 1)) (.str "finished")) .nil))) (.cons (.new (.lst .nil)) (.cons (.int 0) .nil))))
    (.seq (.for (.nm 5) (.ix (.slot 1) (.int 3))
    (.seq (.asg (.nm 4) (.bi .max (.cons (.bi .int (.cons (.slot 4) .nil)) (.cons (.bi .min (.cons (.bi .int (.cons (.slot 2) .nil)) (.cons (.bi .int (.cons (.bin .add (.slot 5) (.call "_law_pick" (.cons (.slot 0) (.cons (.lst (.cons (.int 0) (.cons (.int 0) (.cons (.int 1) (.cons (.neg (.int 1)) .nil))))) .nil)) [] .nil)) .nil)) .nil))) .nil))))
    (.seq (.expr (.mt .append (.slot 3) (.cons (.slot 4) .nil)))
    .skip)))
    (.seq (.asg (.nm 6) (.ix (.slot 1) (.int 5)))
    (.seq (.ite (.tand (.cmp .eq (.ix (.slot 1) (.int 1)) (.str "left")) (.tand (.tru (.ix (.slot 1) (.int 2))) (.cmp .eq (.call "_law_draw" (.cons (.slot 0) (.cons (.int 3) .nil)) [] .nil) (.int 0))))
    (.seq (.asg (.nm 6) (.tup (.cons (.tnot (.tru (.ix (.slot 6) (.int 0)))) .nil)))
    .skip)
    .skip)
    (.seq (.ret (.bin .add (.bin .add (.cut (.slot 1) .non (.int 3)) (.lst (.cons (.bi .tuple (.cons (.slot 3) .nil)) (.cons (.ix (.slot 1) (.int 4)) (.cons (.slot 6) .nil))))) (.cut (.slot 1) (.int 6) .non)))
    .skip))))) }
def g_covers : FD := { ps := ["_law_one", "_law_two"], n := 6, body :=
    (.seq (.ite (.cmp .ne (.cm (.ix (.slot 0) (.slot 3)) (.nm 3) (.tup (.cons (.int 0) (.cons (.int 1) (.cons (.int 2) (.cons (.int 4) (.cons (.int 6) (.cons (.int 7) .nil))))))) (.bl true) [3]) (.cm (.ix (.slot 1) (.slot 3)) (.nm 3) (.tup (.cons (.int 0) (.cons (.int 1) (.cons (.int 2) (.cons (.int 4) (.cons (.int 6) (.cons (.int 7) .nil))))))) (.bl true) [3]))
    (.seq (.ret (.bl false))
    .skip)
    .skip)
    (.seq (.ite (.tor (.cmp .ne (.bi .len (.cons (.ix (.slot 0) (.int 3)) .nil)) (.bi .len (.cons (.ix (.slot 1) (.int 3)) .nil))) (.cmp .ne (.bi .len (.cons (.ix (.slot 0) (.int 5)) .nil)) (.bi .len (.cons (.ix (.slot 1) (.int 5)) .nil))))
    (.seq (.ret (.bl false))
    .skip)
    .skip)
    (.seq (.asg (.nm 2) (.bin .add (.lzip (.ix (.slot 0) (.int 3)) (.ix (.slot 1) (.int 3))) (.cm (.tup (.cons (.bi .int (.cons (.slot 4) .nil)) (.cons (.bi .int (.cons (.slot 5) .nil)) .nil))) (.tp (.cons (.nm 4) (.cons (.nm 5) .nil))) (.zip (.ix (.slot 0) (.int 5)) (.ix (.slot 1) (.int 5))) (.bl true) [4, 5])))
    (.seq (.ret (.cmp .eq (.cm (.int 1) (.tp (.cons (.nm 4) (.cons (.nm 5) .nil))) (.slot 2) (.cmp .gt (.slot 4) (.slot 5)) [4, 5]) (.lst .nil)))
    .skip)))) }
def g_least : FD := { ps := ["_law_rows"], n := 6, body :=
    (.seq (.asg (.nm 1) (.cm (.slot 3) (.tp (.cons (.nm 4) (.cons (.nm 3) .nil))) (.enum (.slot 0)) (.cmp .nin (.slot 3) (.cut (.slot 0) .non (.slot 4))) [4, 3]))
    (.seq (.asg (.nm 2) (.new (.lst .nil)))
    (.seq (.for (.nm 3) (.slot 1)
    (.seq (.ite (.cmp .eq (.cm (.int 1) (.nm 5) (.slot 1) (.tand (.cmp .ne (.slot 5) (.slot 3)) (.tru (.call "_law_covers" (.cons (.slot 5) (.cons (.slot 3) .nil)) [] .nil))) [5]) (.lst .nil))
    (.seq (.expr (.mt .append (.slot 2) (.cons (.slot 3) .nil)))
    .skip)
    .skip)
    .skip))
    (.seq (.ret (.slot 2))
    .skip)))) }
def g_same : FD := { ps := ["_law_told", "_law_due"], n := 5, body :=
    (.seq (.ite (.tor (.tnot (.tru (.isi (.slot 0) ["tuple"]))) (.cmp .ne (.bi .len (.cons (.slot 0) .nil)) (.bi .len (.cons (.slot 1) .nil))))
    (.seq (.ret (.bl false))
    .skip)
    .skip)
    (.seq (.ite (.cmp .ne (.cm (.int 1) (.tp (.cons (.nm 3) (.cons (.nm 4) .nil))) (.zip (.slot 0) (.cut (.slot 0) (.int 1) .non)) (.tnot (.cmp .lt (.slot 3) (.slot 4))) [3, 4]) (.lst .nil))
    (.seq (.ret (.bl false))
    .skip)
    .skip)
    (.seq (.asg (.nm 2) (.cm (.bi .repr (.cons (.slot 3) .nil)) (.nm 3) (.slot 1) (.bl true) [3]))
    (.seq (.ret (.cmp .eq (.cm (.int 1) (.nm 3) (.slot 0) (.cmp .nin (.bi .repr (.cons (.slot 3) .nil)) (.slot 2)) [3]) (.lst .nil)))
    .skip)))) }
def g_turned : FD := { ps := ["_law_pen_here", "_law_some"], n := 5, body :=
    (.seq (.par [2, 3] (.cons (.new (.bi .list (.cons (.slot 1) .nil))) (.cons (.lst .nil) .nil)))
    (.seq (.while (.cmp .ne (.slot 2) (.lst .nil))
    (.seq (.asg (.nm 4) (.mt .pop (.slot 2) (.cons (.call "_law_draw" (.cons (.slot 0) (.cons (.bi .len (.cons (.slot 2) .nil)) .nil)) [] .nil) .nil)))
    (.seq (.asg (.nm 3) (.bin .add (.slot 3) (.bin .mul (.lst (.cons (.slot 4) .nil)) (.bin .add (.int 1) (.bi .int (.cons (.cmp .eq (.call "_law_draw" (.cons (.slot 0) (.cons (.int 3) .nil)) [] .nil) (.int 0)) .nil))))))
    .skip)))
    (.seq (.ret (.slot 3))
    .skip))) }
def flaw : FD := { ps := ["_law_script"], n := 13, body :=
    (.seq (.asg (.nm 1) (.call "_law_pen" (.cons (.slot 0) .nil) [] .nil))
    (.seq (.for (.nm 2) (.rng (.int 8))
    (.seq (.asg (.nm 3) (.lst .nil))
    (.seq (.for (.nm 4) (.rng (.call "_law_draw" (.cons (.slot 1) (.cons (.int 7) .nil)) [] .nil))
    (.seq (.asg (.nm 5) (.ite (.tand (.cmp .ne (.slot 3) (.lst .nil)) (.cmp .gt (.call "_law_draw" (.cons (.slot 1) (.cons (.int 4) .nil)) [] .nil) (.int 0))) (.call "_law_moved" (.cons (.slot 1) (.cons (.ix (.slot 3) (.neg (.int 1))) .nil)) [] .nil) (.call "_law_report" (.cons (.slot 1) (.cons (.int 2) .nil)) [] .nil)))
    (.seq (.asg (.nm 3) (.bin .add (.slot 3) (.bin .mul (.lst (.cons (.slot 5) .nil)) (.bin .add (.int 1) (.bi .int (.cons (.cmp .eq (.call "_law_draw" (.cons (.slot 1) (.cons (.int 6) .nil)) [] .nil) (.int 0)) .nil))))))
    .skip)))
    (.seq (.asg (.nm 6) (.cm (.bi .tuple (.cons (.slot 5) .nil)) (.nm 5) (.slot 3) (.bl true) [5]))
    (.seq (.par [7, 8] (.cons (.bi .repr (.cons (.slot 6) .nil)) (.cons (.call "_law_least" (.cons (.slot 6) .nil) [] .nil) .nil)))
    (.seq (.asg (.nm 9) (.call "least" (.cons (.slot 6) .nil) [] .nil))
    (.seq (.ite (.tor (.tnot (.tru (.isi (.slot 9) ["list"]))) (.tor (.tnot (.tru (.call "_law_same" (.cons (.bi .tuple (.cons (.slot 9) .nil)) (.cons (.slot 8) .nil)) [] .nil))) (.cmp .ne (.bi .repr (.cons (.slot 6) .nil)) (.slot 7))))
    (.seq (.ret (.bl false))
    .skip)
    .skip)
    (.seq (.ite (.cmp .ne (.cm (.int 1) (.nm 11) (.slot 6) (.cmp .eq (.cm (.slot 12) (.nm 12) (.slot 9) (.tru (.call "covers" (.cons (.slot 12) (.cons (.slot 11) .nil)) [] .nil)) [12]) (.lst .nil)) [11]) (.lst .nil))
    (.seq (.ret (.bl false))
    .skip)
    .skip)
    (.seq (.asg (.nm 10) (.call "least" (.cons (.bi .tuple (.cons (.call "_law_turned" (.cons (.slot 1) (.cons (.slot 6) .nil)) [] .nil) .nil)) .nil) [] .nil))
    (.seq (.ite (.tor (.cmp .ne (.bi .repr (.cons (.slot 10) .nil)) (.bi .repr (.cons (.slot 9) .nil))) (.cmp .ne (.bi .repr (.cons (.call "least" .nil ["reports"] (.cons (.slot 9) .nil)) .nil)) (.bi .repr (.cons (.slot 9) .nil))))
    (.seq (.ret (.bl false))
    .skip)
    .skip)
    (.seq (.expr (.mt .append (.slot 9) (.cons (.int 0) .nil)))
    (.seq (.ite (.cmp .ne (.bi .repr (.cons (.call "least" (.cons (.slot 6) .nil) [] .nil) .nil)) (.bi .repr (.cons (.slot 10) .nil)))
    (.seq (.ret (.bl false))
    .skip)
    .skip)
    .skip))))))))))))
    (.seq (.ret (.and (.cmp .eq (.call "least" (.cons (.lst .nil) .nil) [] .nil) (.lst .nil)) (.cmp .eq (.call "least" (.cons (.tup .nil) .nil) [] .nil) (.lst .nil))))
    .skip))) }
def tb : List Df := [{ x := "face_of", N := ["report", "took", "reader", "told", "sent", "ended", "gone", "state", "lost"], st := topS 1, D := fface_of },
  { x := "needs_of", N := ["report"], st := topS 2, D := fneeds_of },
  { x := "covers", N := ["report", "other", "one", "two"], st := topS 3, D := fcovers },
  { x := "signs_text", N := ["numbers", "number"], st := topS 4, D := fsigns_text },
  { x := "text_of", N := ["report", "took", "reader", "told", "sent", "ended", "gone", "state", "lost", "ahead"], st := topS 5, D := ftext_of },
  { x := "least", N := ["reports", "by_face", "report", "face", "some", "by_text", "one", "text"], st := topS 6, D := fleast },
  { x := "_law_pen", N := ["_law_script"], st := topS 8, D := g_pen },
  { x := "_law_draw", N := ["_law_pen_here", "_law_many", "_law_digit", "_law_at", "_law_cell", "_law_great", "_law_mixed"], st := topS 9, D := g_draw },
  { x := "_law_pick", N := ["_law_pen_here", "_law_some"], st := topS 10, D := g_pick },
  { x := "_law_report", N := ["_law_pen_here", "_law_limit", "_law_took", "_law_reader", "_law_told", "_law_ended", "_law_signs", "_law_sent", "_law_low", "_law_k", "_law_gone", "_law_state"], st := topS 11, D := g_report },
  { x := "_law_moved", N := ["_law_pen_here", "_law_row", "_law_signs", "_law_sent", "_law_low", "_law_need", "_law_gone"], st := topS 12, D := g_moved },
  { x := "_law_covers", N := ["_law_one", "_law_two", "_law_pairs", "_law_k", "_law_low", "_law_high"], st := topS 13, D := g_covers },
  { x := "_law_least", N := ["_law_rows", "_law_some", "_law_found", "_law_one", "_law_k", "_law_two"], st := topS 14, D := g_least },
  { x := "_law_same", N := ["_law_told", "_law_due", "_law_texts", "_law_one", "_law_two"], st := topS 15, D := g_same },
  { x := "_law_turned", N := ["_law_pen_here", "_law_some", "_law_left", "_law_found", "_law_one"], st := topS 16, D := g_turned },
  { x := "law", N := ["_law_script", "_law_pen_here", "_law_turn", "_law_some", "_law_k", "_law_row", "_law_rows", "_law_kept", "_law_due", "_law_told", "_law_again", "_law_one", "_law_two"], st := topS 17, D := flaw }]
def bl : List Str := ["isinstance", "len", "int", "abs", "str", "repr", "list", "tuple", "sorted", "max", "min", "all", "any", "range", "enumerate", "zip"]
def loose : List Str := ["face_of", "needs_of", "covers", "signs_text", "text_of", "least", "_law_pen", "_law_draw", "_law_pick", "_law_report", "_law_moved", "_law_covers", "_law_least", "_law_same", "_law_turned"]
-- law at 17; bad 0; constants []
def con : List (Str × W) := []
def cds : List (Str × CD) := []
def hk : PySem.W.Hook := hookY tb bl con cds
def ob (s : PySem.W.SharedT) : Obs := obsYG tb bl con cds (HandSHeadRun.getT s)
theorem ob_eq (s : PySem.W.SharedT) : ob s = hk.obs s.abs := obsYG_eq (HandSHeadRun.getT_eq s)
theorem run (w : World) : HandSHeadRun.RunEq (PySem.W.OpenLaw.row rw0) (PySem.W.view (PySem.W.OpenLaw.row rw0).prog [17]) hk ob 2000 loose w := by
  intro os
  kernel_rfl
theorem matches_ : mAll bl tb = true := by kernel_rfl
end Y
namespace Y
open PySem

def Cx (k : Nat) : Ctx := { call := runF (prgOf tb con) 100000 k, glob := fun y => (prgOf tb con).con.lookup y, fuel := 100000 }
theorem call_eq {k : Nat} {x : Str} {D : FD} (e : (prgOf tb con).fns.lookup x = some D) (xs : List W) (kw : List (Str × W)) (h : Hb) : (Cx (k + 1)).call x xs kw h = stepF (Cx k) D xs kw h := runF_step e xs kw h
def dc : Dc := ⟨72019, 823, 2147483549, 50231, 149, 2147483629, 109, 60167, 61, 2147483587⟩
theorem dc_ok : dc.ok := by constructor <;> decide
theorem l_draw : (prgOf tb con).fns.lookup ("_law_draw" : Str) = some (dc.fd ["_law_pen_here", "_law_many"]) := by kernel_rfl
theorem l_pick : (prgOf tb con).fns.lookup ("_law_pick" : Str) = some (pickFD ["_law_pen_here", "_law_some"]) := by kernel_rfl
theorem l_pen : (prgOf tb con).fns.lookup ("_law_pen" : Str) = some (penFD ["_law_script"]) := by kernel_rfl
theorem draws (k : Nat) : Draws (Cx (k + 1)) := fun P n m r h1 h2 h3 h4 => by
  rw [call_eq l_draw]
  exact Dc.draw_ok (Cx k) dc dc_ok P h1 h2 h3 h4
theorem picks (k : Nat) : Picks (Cx (k + 2)) := fun P n ws r h1 h2 h3 h4 => by
  rw [call_eq l_pick]
  exact pick_ok (draws k) P h1 h2 h3 h4

/-! ### reports -/
structure Rp where
  took : Int
  reader : Str
  told : Bool
  sent : List Int
  ended : Bool
  gone : List Bool
  state : Str
  lost : Bool
  deriving DecidableEq
def bW (l : List Bool) : List W := l.map .bl
def iW (l : List Int) : List W := l.map .int
@[simp] theorem iW_len (l : List Int) : (iW l).length = l.length := by simp [iW]
@[simp] theorem bW_len (l : List Bool) : (bW l).length = l.length := by simp [bW]
def Rp.ws (r : Rp) : List W := [.int r.took, .str r.reader, .bl r.told, .tup (iW r.sent), .bl r.ended, .tup (bW r.gone), .str r.state, .bl r.lost]
structure Rp.good (r : Rp) : Prop where
  l1 : r.sent.length ≤ 20
  l2 : r.gone.length ≤ 20
  s1 : PyData.strOk r.reader = true
  s2 : PyData.strOk r.state = true
  s3 : reprOf [] (.str r.reader) ≠ none
structure Face where
  took : Int
  reader : Str
  told : Bool
  n : Nat
  ended : Bool
  m : Nat
  state : Str
  lost : Bool
  deriving DecidableEq
def Rp.face (r : Rp) : Face := ⟨r.took, r.reader, r.told, r.sent.length, r.ended, r.gone.length, r.state, r.lost⟩
def Face.w (f : Face) : W := .tup [.int f.took, .str f.reader, .bl f.told, .int f.n, .bl f.ended, .int f.m, .str f.state, .bl f.lost]
theorem l_face : (prgOf tb con).fns.lookup ("face_of" : Str) = some fface_of := by kernel_rfl
theorem face_ok (k : Nat) (r : Rp) (h : Hb) : (Cx (k + 1)).call "face_of" [.tup r.ws] [] h = .ok r.face.w h := by
  rw [call_eq l_face, stepF_of (σ := [some (.tup r.ws), none, none, none, none, none, none, none, none]) rfl]
  simp [fface_of, Rp.ws, setT, setTs, Rp.face, Face.w, iW, bW]
theorem l_needs : (prgOf tb con).fns.lookup ("needs_of" : Str) = some fneeds_of := by kernel_rfl
theorem needs_ok (k : Nat) (r : Rp) (g : r.good) (h : Hb) : (Cx (k + 1)).call "needs_of" [.tup r.ws] [] h = .ok (.tup (iW r.sent ++ bW r.gone)) h := by
  rw [call_eq l_needs, stepF_of (σ := [some (.tup r.ws)]) rfl]
  have c1 : r.gone.length ≤ 16777216 := by have := g.l2; omega
  have c2 : r.sent.length + r.gone.length ≤ 16777216 := by have := g.l1; have := g.l2; omega
  simp [fneeds_of, Rp.ws, L2.ixN, iW, bW, c1, c2]
theorem eqv_sym_b (a b : Bool) : (a == b) = decide (a = b) := by cases a <;> cases b <;> rfl
theorem face_eq (h : Hb) (a b : Rp) (ga : a.good) (gb : b.good) : eqD h a.face.w b.face.w = some (decide (a.face = b.face)) := by
  have e : PyData.eqv (.tuple [.int a.took, .str a.reader, .bool a.told, .int a.sent.length, .bool a.ended, .int a.gone.length, .str a.state, .bool a.lost]) (.tuple [.int b.took, .str b.reader, .bool b.told, .int b.sent.length, .bool b.ended, .int b.gone.length, .str b.state, .bool b.lost]) = decide (a.face = b.face) := by
    rw [Bool.eq_iff_iff]
    simp [PyData.eqv, PyData.eqvAll, Rp.face, Int.ofNat_inj]
  simp [Face.w, eqD, eqG, W.pd, W.pds, SeqAt.shaped, PyData.canLay0, PyData.canLayAll0, PyData.depth, PyData.depthAll, ga.s1, ga.s2, gb.s1, gb.s2, Rp.face]
  simpa [Rp.face] using e

/-! ### covers -/
def leW : W → W
  | .tup [.int i, .int j] => .bl (decide (i ≤ j))
  | .tup [.bl p, .bl q] => .bl (!p || q)
  | _ => .non
def pairs (a b : Rp) : List W := (a.sent.zip b.sent).map (fun p => W.tup [.int p.1, .int p.2]) ++ (a.gone.zip b.gone).map (fun p => W.tup [.bl p.1, .bl p.2])
def leBs (a b : Rp) : List Bool := (a.sent.zip b.sent).map (fun p => decide (p.1 ≤ p.2)) ++ (a.gone.zip b.gone).map (fun p => !p.1 || p.2)
def coversB (a b : Rp) : Bool := decide (a.face = b.face) && (leBs a b).all id
theorem zip_two (a b : Rp) (hf : a.face = b.face) : zipW (iW a.sent ++ bW a.gone) (iW b.sent ++ bW b.gone) = .tup (pairs a b) := by
  have l1 : a.sent.length = b.sent.length := congrArg Face.n hf
  unfold zipW pairs iW bW
  rw [List.zip_append (by simpa using l1), List.map_append, List.zip_map, List.zip_map, List.map_map, List.map_map]
  rfl
@[simp] theorem truthsW_bls : ∀ is : List Bool, truthsW (is.map .bl) = some is
  | [] => rfl
  | i :: is => by simp [truthsW, truthsW_bls is]
theorem l_covers : (prgOf tb con).fns.lookup ("covers" : Str) = some fcovers := by kernel_rfl
theorem covers_step (k : Nat) (a b : Rp) (ga : a.good) (gb : b.good) (h : Hb) : kFin (evalS (Cx (k + 1)) fcovers.body [some (.tup a.ws), some (.tup b.ws), none, none] h) = .ok (.bl (coversB a b)) h := by
  have e0 := face_eq h a b ga gb
  unfold coversB
  by_cases hf : a.face = b.face
  · have zz := zip_two a b hf
    have lz : (pairs a b).length ≤ 40 := by
      have := ga.l1; have := ga.l2
      simp only [pairs, List.length_append, List.length_map, List.length_zip]; omega
    have turn : ∀ w ∈ pairs a b, turnC (Cx (k + 1)) (.cmp .le (.slot 2) (.slot 3)) (.tp (.cons (.nm 2) (.cons (.nm 3) .nil))) (.bl true) [2, 3] [some (.tup a.ws), some (.tup b.ws), none, none] w h = .ok (some (leW w)) h := by
      intro w hw
      rcases List.mem_append.mp hw with q | q
      · obtain ⟨p, _, rfl⟩ := List.mem_map.mp q
        refine turnC_t (σ' := [some (.tup a.ws), some (.tup b.ws), some (.int p.1), some (.int p.2)]) rfl ?_
        simp [leW]
      · obtain ⟨p, _, rfl⟩ := List.mem_map.mp q
        refine turnC_t (σ' := [some (.tup a.ws), some (.tup b.ws), some (.bl p.1), some (.bl p.2)]) rfl ?_
        simp [leW]
    have em : (pairs a b).map leW = (leBs a b).map .bl := by
      simp only [pairs, leBs, List.map_append, List.map_map]
      congr 1
    have fm := forC_map (f := turnC (Cx (k + 1)) (.cmp .le (.slot 2) (.slot 3)) (.tp (.cons (.nm 2) (.cons (.nm 3) .nil))) (.bl true) [2, 3] [some (.tup a.ws), some (.tup b.ws), none, none]) (ok := fun _ => true) (g := leW) (h := h) rfl (pairs a b) [] turn (by simp only [List.length_nil]; omega)
    rw [em] at fm
    simp only [List.nil_append] at fm
    have al : builtin .all [.lit ((leBs a b).map .bl)] h = some (.bl ((leBs a b).all id)) := by simp [builtin, itemsL]
    have e1 := face_eq h b b gb gb
    simp [fcovers, face_ok, e1, hf, needs_ok, ga, gb, zz, fm, al]
  · simp [fcovers, face_ok, e0, hf]
theorem covers_ok (k : Nat) (a b : Rp) (ga : a.good) (gb : b.good) (h : Hb) : (Cx (k + 2)).call "covers" [.tup a.ws, .tup b.ws] [] h = .ok (.bl (coversB a b)) h := by
  rw [call_eq l_covers, stepF_of (σ := [some (.tup a.ws), some (.tup b.ws), none, none]) rfl]
  exact covers_step k a b ga gb h
theorem covers_kw (k : Nat) (a b : Rp) (ga : a.good) (gb : b.good) (h : Hb) : (Cx (k + 2)).call "covers" [] [("other", .tup b.ws), ("report", .tup a.ws)] h = .ok (.bl (coversB a b)) h := by
  rw [call_eq l_covers, stepF_of (σ := [some (.tup a.ws), some (.tup b.ws), none, none]) rfl]
  exact covers_step k a b ga gb h

/-! ### the law's own -/
theorem ne_l6 (h : Hb) (a b : Rp) (ga : a.good) (gb : b.good) : eqD h (.lit [.int a.took, .str a.reader, .bl a.told, .bl a.ended, .str a.state, .bl a.lost]) (.lit [.int b.took, .str b.reader, .bl b.told, .bl b.ended, .str b.state, .bl b.lost]) =
    some (decide (a.took = b.took ∧ a.reader = b.reader ∧ a.told = b.told ∧ a.ended = b.ended ∧ a.state = b.state ∧ a.lost = b.lost)) := by
  have e : PyData.eqv (.list [.int a.took, .str a.reader, .bool a.told, .bool a.ended, .str a.state, .bool a.lost]) (.list [.int b.took, .str b.reader, .bool b.told, .bool b.ended, .str b.state, .bool b.lost]) =
      decide (a.took = b.took ∧ a.reader = b.reader ∧ a.told = b.told ∧ a.ended = b.ended ∧ a.state = b.state ∧ a.lost = b.lost) := by
    rw [Bool.eq_iff_iff]
    simp [PyData.eqv, PyData.eqvAll]
  simp [eqD, eqG, W.pd, W.pds, SeqAt.shaped, PyData.canLay0, PyData.canLayAll0, PyData.depth, PyData.depthAll, ga.s1, ga.s2, gb.s1, gb.s2]
  simpa using e
def six (r : Rp) : List W := [.int r.took, .str r.reader, .bl r.told, .bl r.ended, .str r.state, .bl r.lost]
theorem six_cm (k : Nat) (i : Nat) (r : Rp) (σ : Sb) (h : Hb) (h3 : 3 < σ.length) (hi : σ[i]? = some (some (.tup r.ws))) (h0 : i ≠ 3) :
    evalE (Cx k) (.cm (.ix (.slot i) (.slot 3)) (.nm 3) (.tup (.cons (.int 0) (.cons (.int 1) (.cons (.int 2) (.cons (.int 4) (.cons (.int 6) (.cons (.int 7) .nil))))))) (.bl true) [3]) σ h = .ok (.lit (six r)) h := by
  have turn : ∀ (j : Nat) (v : W), r.ws[j]? = some v → turnC (Cx k) (.ix (.slot i) (.slot 3)) (.nm 3) (.bl true) [3] σ (.int j) h = .ok (some v) h := by
    intro j v hv
    have hj : j < 8 := (List.getElem?_eq_some_iff.mp hv).1
    refine turnC_t (σ' := σ.set 3 (some (.int j))) (by simp [setT, wipe, h3]) ?_
    have e1 : (σ.set 3 (some (.int (j : Int))))[i]? = some (some (.tup r.ws)) := by
      rw [List.getElem?_set_ne (by omega), hi]
    have e2 : (σ.set 3 (some (.int (j : Int))))[3]? = some (some (.int j)) := by
      rw [List.getElem?_set_self (by simpa using h3)]
    have e3 : L2.ixN r.ws.length (j : Int) = some j := ixN_nat hj
    simp [e1, e2, e3, hv]
  have t0 : turnC (Cx k) (.ix (.slot i) (.slot 3)) (.nm 3) (.bl true) [3] σ (.int 0) h = _ := turn 0 _ rfl
  have t1 : turnC (Cx k) (.ix (.slot i) (.slot 3)) (.nm 3) (.bl true) [3] σ (.int 1) h = _ := turn 1 _ rfl
  have t2 : turnC (Cx k) (.ix (.slot i) (.slot 3)) (.nm 3) (.bl true) [3] σ (.int 2) h = _ := turn 2 _ rfl
  have t4 : turnC (Cx k) (.ix (.slot i) (.slot 3)) (.nm 3) (.bl true) [3] σ (.int 4) h = _ := turn 4 _ rfl
  have t6 : turnC (Cx k) (.ix (.slot i) (.slot 3)) (.nm 3) (.bl true) [3] σ (.int 6) h = _ := turn 6 _ rfl
  have t7 : turnC (Cx k) (.ix (.slot i) (.slot 3)) (.nm 3) (.bl true) [3] σ (.int 7) h = _ := turn 7 _ rfl
  simp
  rw [forC_some t0 rfl (by simp), forC_some t1 rfl (by simp), forC_some t2 rfl (by simp), forC_some t4 rfl (by simp), forC_some t6 rfl (by simp), forC_some t7 rfl (by simp), forC_nil rfl]
  rfl

def ips (a b : Rp) : List (Int × Int) := a.sent.zip b.sent ++ (a.gone.zip b.gone).map fun p => ((if p.1 = true then 1 else 0), (if p.2 = true then 1 else 0))
def ipW (p : Int × Int) : W := .tup [.int p.1, .int p.2]
def bad (a b : Rp) : List Int := (ips a b).filterMap fun p => if p.2 < p.1 then some 1 else none
theorem le_01 (p q : Bool) : (¬ (if q = true then (1 : Int) else 0) < (if p = true then 1 else 0)) ↔ (!p || q) = true := by cases p <;> cases q <;> decide
theorem bad_nil (a b : Rp) : (bad a b).isEmpty = (leBs a b).all id := by
  rw [Bool.eq_iff_iff]
  simp only [bad, ips, leBs, List.isEmpty_iff, List.filterMap_eq_nil_iff, List.all_eq_true, List.mem_append, List.mem_map, id]
  constructor
  · rintro hh x (⟨p, hp, rfl⟩ | ⟨p, hp, rfl⟩)
    · have := hh p (.inl hp)
      split at this
      · cases this
      · exact decide_eq_true (by omega)
    · have := hh _ (.inr ⟨p, hp, rfl⟩)
      refine (le_01 _ _).mp fun c => ?_
      rw [if_pos c] at this
      cases this
  · rintro hh x (hp | ⟨p, hp, rfl⟩)
    · have := of_decide_eq_true (hh _ (.inl ⟨x, hp, rfl⟩))
      rw [if_neg (by omega)]
    · rw [if_neg ((le_01 _ _).mpr (hh _ (.inr ⟨p, hp, rfl⟩)))]
theorem l_due : (prgOf tb con).fns.lookup ("_law_covers" : Str) = some g_covers := by kernel_rfl
theorem face_iff (a b : Rp) : a.face = b.face ↔ (a.took = b.took ∧ a.reader = b.reader ∧ a.told = b.told ∧ a.ended = b.ended ∧ a.state = b.state ∧ a.lost = b.lost) ∧ a.sent.length = b.sent.length ∧ a.gone.length = b.gone.length := by
  simp only [Rp.face, Face.mk.injEq]
  constructor
  · rintro ⟨h1, h2, h3, h4, h5, h6, h7, h8⟩; exact ⟨⟨h1, h2, h3, h5, h7, h8⟩, h4, h6⟩
  · rintro ⟨⟨h1, h2, h3, h5, h7, h8⟩, h4, h6⟩; exact ⟨h1, h2, h3, h4, h5, h6, h7, h8⟩
theorem due_ok (k : Nat) (a b : Rp) (ga : a.good) (gb : b.good) (h : Hb) : (Cx (k + 1)).call "_law_covers" [.tup a.ws, .tup b.ws] [] h = .ok (.bl (coversB a b)) h := by
  rw [call_eq l_due, stepF_of (σ := [some (.tup a.ws), some (.tup b.ws), none, none, none, none]) rfl]
  have c0 := six_cm k 0 a [some (.tup a.ws), some (.tup b.ws), none, none, none, none] h (by simp) rfl (by decide)
  have c1 := six_cm k 1 b [some (.tup a.ws), some (.tup b.ws), none, none, none, none] h (by simp) rfl (by decide)
  have e6 := ne_l6 h a b ga gb
  have l1 := ga.l1; have l2 := ga.l2; have l3 := gb.l1; have l4 := gb.l2
  have x3 : ∀ r : Rp, getIx h (.tup r.ws) (.int 3) = some (.tup (iW r.sent)) := fun r => rfl
  have x5 : ∀ r : Rp, getIx h (.tup r.ws) (.int 5) = some (.tup (bW r.gone)) := fun r => rfl
  have z1 : zipW (bW a.gone) (bW b.gone) = .tup ((a.gone.zip b.gone).map fun p => .tup [.bl p.1, .bl p.2]) := by
    unfold zipW bW
    rw [List.zip_map, List.map_map]; rfl
  have z2 : (List.map (fun p => W.tup [p.fst, p.snd]) ((iW a.sent).zip (iW b.sent))) = (a.sent.zip b.sent).map ipW := by
    unfold iW
    rw [List.zip_map, List.map_map]; rfl
  have t1 := forC_map (f := turnC (Cx k) (.tup (.cons (.bi .int (.cons (.slot 4) .nil)) (.cons (.bi .int (.cons (.slot 5) .nil)) .nil))) (.tp (.cons (.nm 4) (.cons (.nm 5) .nil))) (.bl true) [4, 5] [some (.tup a.ws), some (.tup b.ws), none, none, none, none]) (ok := fun _ => true)
    (g := fun w => match w with | .tup [.bl p, .bl q] => ipW ((if p = true then 1 else 0), (if q = true then 1 else 0)) | _ => .non) (h := h) rfl ((a.gone.zip b.gone).map fun p => .tup [.bl p.1, .bl p.2]) [] (by
      intro w hw
      obtain ⟨p, _, rfl⟩ := List.mem_map.mp hw
      refine turnC_t (σ' := [some (.tup a.ws), some (.tup b.ws), none, none, some (.bl p.1), some (.bl p.2)]) rfl ?_
      simp [ipW]) (by simp; omega)
  rw [List.map_map] at t1
  have t2 : List.map ((fun w => match w with | .tup [.bl p, .bl q] => ipW ((if p = true then 1 else 0), (if q = true then 1 else 0)) | _ => .non) ∘ fun p => W.tup [W.bl p.1, W.bl p.2]) (a.gone.zip b.gone) = ((a.gone.zip b.gone).map fun p => ((if p.1 = true then (1 : Int) else 0), (if p.2 = true then (1 : Int) else 0))).map ipW := by
    rw [List.map_map]; rfl
  rw [t2] at t1
  simp only [List.nil_append] at t1
  have ad : binop .add (.lit ((a.sent.zip b.sent).map ipW)) (.lit (((a.gone.zip b.gone).map fun p => ((if p.1 = true then (1 : Int) else 0), (if p.2 = true then (1 : Int) else 0))).map ipW)) h = .ok (.lit ((ips a b).map ipW)) h := by
    rw [add_ll (by simp only [List.length_map, List.length_zip]; omega), ← List.map_append]; rfl
  have t3 := forC_fm (f := turnC (Cx k) (.int 1) (.tp (.cons (.nm 4) (.cons (.nm 5) .nil))) (.cmp .gt (.slot 4) (.slot 5)) [4, 5] [some (.tup a.ws), some (.tup b.ws), some (.lit ((ips a b).map ipW)), none, none, none]) (ok := fun _ => true)
    (g := fun w => match w with | .tup [.int i, .int j] => if j < i then some (.int 1) else none | _ => none) (h := h) rfl ((ips a b).map ipW) [] (by
      intro w hw
      obtain ⟨p, _, rfl⟩ := List.mem_map.mp hw
      have := turnC_b (C := Cx k) (elt := .int 1) (c := .cmp .gt (.slot 4) (.slot 5)) (t := .tp (.cons (.nm 4) (.cons (.nm 5) .nil))) (own := [4, 5]) (σ := [some (.tup a.ws), some (.tup b.ws), some (.lit ((ips a b).map ipW)), none, none, none])
        (σ' := [some (.tup a.ws), some (.tup b.ws), some (.lit ((ips a b).map ipW)), none, some (.int p.1), some (.int p.2)]) (x := ipW p) (v := .int 1) (h := h) (h1 := h) (h2 := h) (b := decide (p.2 < p.1)) rfl (by simp) (fun _ => by simp) (fun _ => rfl)
      rw [this]
      simp [ipW]) (by simp [ips]; omega)
  have t4 : ((ips a b).map ipW).filterMap (fun w => match w with | .tup [.int i, .int j] => if j < i then some (W.int 1) else none | _ => none) = (bad a b).map .int := by
    unfold bad
    rw [List.filterMap_map, List.map_filterMap]
    congr 1
    funext p
    simp only [Function.comp, ipW]
    split <;> rfl
  rw [t4] at t3
  simp only [List.nil_append] at t3
  have fin := ne_nil_ints h (bad a b)
  rw [bad_nil] at fin
  unfold coversB
  by_cases q6 : a.took = b.took ∧ a.reader = b.reader ∧ a.told = b.told ∧ a.ended = b.ended ∧ a.state = b.state ∧ a.lost = b.lost
  · have e6' : eqD h (.lit (six a)) (.lit (six b)) = some true := by
      unfold six; rw [e6]; exact congrArg some (decide_eq_true q6)
    by_cases q7 : a.sent.length = b.sent.length
    · by_cases q8 : a.gone.length = b.gone.length
      · have hf : a.face = b.face := (face_iff a b).mpr ⟨q6, q7, q8⟩
        simp [g_covers, c0, c1, e6', x3, x5, q7, q8, hf, z1, z2, t1, ad, t3, fin, setT, -List.map_append, -List.map_map]
      · have hf : ¬ a.face = b.face := fun z => q8 ((face_iff a b).mp z).2.2
        simp [g_covers, c0, c1, e6', x3, x5, q7, q8, hf, Int.ofNat_inj]
    · have hf : ¬ a.face = b.face := fun z => q7 ((face_iff a b).mp z).2.1
      simp [g_covers, c0, c1, e6', x3, x5, q7, hf, Int.ofNat_inj]
  · have e6' : eqD h (.lit (six a)) (.lit (six b)) = some false := by
      unfold six; rw [e6]; exact congrArg some (decide_eq_false q6)
    have hf : ¬ a.face = b.face := fun z => q6 ((face_iff a b).mp z).1
    simp [g_covers, c0, c1, e6', hf]
end Y
namespace Y
open PySem
theorem strs_of {w : W} {ss : List Str} (h : w ∈ ss.map W.str) : ∃ s, w = .str s ∧ s ∈ ss := by
  obtain ⟨s, hs, e⟩ := List.mem_map.mp h
  exact ⟨s, e.symm, hs⟩
theorem penl {P : Pn} {r : Hb} {x : O} : (P.o :: (r ++ [x]))[r.length + 1]? = some x := by simp
theorem pen_recv {P : Pn} {r : Hb} {xs : List W} : recv .append (P.o :: (r ++ [.lst xs])) (.ref (r.length + 1)) = true := by simp only [recv, penl]
theorem pen_app {P : Pn} {r : Hb} {xs : List W} {v : W} (c : xs.length < 16777216) : method .append (.ref (r.length + 1)) [v] (P.o :: (r ++ [.lst xs])) = .ok .non (P.o :: (r ++ [.lst (xs ++ [v])])) := by
  simp only [method, penl]
  rw [if_pos (decide_eq_true c)]
  simp
theorem pen_tuple {P : Pn} {r : Hb} {xs : List W} : builtin .tuple [.ref (r.length + 1)] (P.o :: (r ++ [.lst xs])) = some (.tup xs) := by
  simp only [builtin, itemsL, penl]; rfl
/-- a drawn truth -/
def hE2 : E := .cmp .eq (.call "_law_draw" (.cons (.slot 0) (.cons (.int 2) .nil)) [] .nil) (.int 0)
/-- a report that is drawn -/
structure Rp.fine (r : Rp) : Prop where
  t0 : 0 ≤ r.took
  t1 : r.took ≤ 2
  rd : r.reader ∈ (["reading", "finished", "left"] : List Str)
  st : r.state ∈ (["done", "failed", "stuck"] : List Str)
  sl : r.sent.length ≤ 3
  s0 : ∀ i ∈ r.sent, 0 ≤ i ∧ i ≤ 3
  gl : r.gone.length ≤ 1
  lg : r.reader = "left" → r.gone.length = 1
theorem l_report : (prgOf tb con).fns.lookup ("_law_report" : Str) = some g_report := by kernel_rfl
theorem readers : ∀ s ∈ (["reading", "finished", "left"] : List Str), PyData.strOk s = true ∧ reprOf [] (.str s) ≠ none := by
  have h : ((["reading", "finished", "left"] : List Str).all fun s => PyData.strOk s && (reprOf [] (.str s)).isSome) = true := by decide +kernel
  intro s hs
  have := List.all_eq_true.mp h s hs
  simp only [Bool.and_eq_true] at this
  exact ⟨this.1, fun e => by rw [e] at this; exact absurd this.2 (by decide)⟩
theorem states : ∀ s ∈ (["done", "failed", "stuck"] : List Str), PyData.strOk s = true := by decide +kernel
theorem Rp.fine.good {r : Rp} (f : r.fine) : r.good := ⟨by have := f.sl; omega, by have := f.gl; omega, (readers _ f.rd).1, states _ f.st, (readers _ f.rd).2⟩
def repI (n : Nat) (r : Hb) (took signs : Int) (reader : Str) (told ended : Bool) (j : Nat) (σ : Sb) (h : Hb) : Prop := ∃ (P : Pn) (low : Int) (xs : List Int) (x9 : Option W), σ = [some (.ref 0), some (.int 2), some (.int took), some (.str reader), some (.bl told), some (.bl ended), some (.int signs), some (.ref (r.length + 1)), some (.int low), x9, none, none] ∧
    h = P.o :: (r ++ [.lst (iW xs)]) ∧ Pn.ok P (n + 5 + j) ∧ 0 ≤ low ∧ low ≤ signs ∧ xs.length = j ∧ ∀ i ∈ xs, 0 ≤ i ∧ i ≤ 3
theorem report_ok (k : Nat) {P : Pn} {n : Nat} (r : Hb) (hP : P.ok n) (hn : n ≤ 90000) : ((Cx (k + 3)).call "_law_report" [.ref 0, .int 2] [] (P.o :: r)).Ok fun w h => ∃ (a : Rp) (P' : Pn) (g : Hb), w = .lit a.ws ∧ a.fine ∧ Pn.ok P' (n + 20) ∧ h = P'.o :: (r ++ g) := by
  rw [call_eq l_report, stepF_of (σ := [some (.ref 0), some (.int 2), none, none, none, none, none, none, none, none, none, none]) rfl]
  refine ok_hide fun Q hQ => ok_fin ?_
  obtain ⟨took, P1, t0, t1, o1, e1⟩ := draws (k + 1) P n 3 r hP (by omega) (by omega) (by omega)
  obtain ⟨w2, P2, hw2, o2, e2⟩ := picks k P1 (n + 1) [.str "reading", .str "finished", .str "left"] r o1 (by omega) (by simp) (by simp)
  obtain ⟨reader, rfl, hr⟩ := strs_of (ss := ["reading", "finished", "left"]) hw2
  obtain ⟨d3, P3, _, _, o3, e3⟩ := draws (k + 1) P2 (n + 1 + 1) 2 r o2 (by omega) (by omega) (by omega)
  obtain ⟨told, htold⟩ : ∃ told, told = decide (d3 = 0) := ⟨_, rfl⟩
  obtain ⟨ended, P4, _, o4, e4⟩ := and_draw (draws (k + 1)) (!told) 2 r o3 (by omega) (by omega) (by omega)
  obtain ⟨d5, P5, q5, q5', o5, e5⟩ := draws (k + 1) P4 (n + 1 + 1 + 1 + 1) 3 (r ++ [.lst []]) o4 (by omega) (by omega) (by omega)
  have hm : ∃ m : Nat, d5 + (if ended = true then 1 else 0) = (m : Int) ∧ m ≤ 3 := ⟨(d5 + (if ended = true then 1 else 0)).toNat, by split <;> omega, by split <;> omega⟩
  obtain ⟨m, hm, hm3⟩ := hm
  obtain ⟨signs, hs⟩ : ∃ signs, signs = took + (if decide (reader = "finished") = true then 1 else 0) := ⟨_, rfl⟩
  have hs0 : 0 ≤ signs ∧ signs ≤ 3 := by rw [hs]; split <;> omega
  simp [g_report, setL, setT, e1, e2, e3, ← htold, e4]
  simp only [decide_eq_true_eq] at hs
  rw [← hs]
  simp [e5, hm, rng_small (m := m) (by omega)]
  refine ok_then (ok_for (repI n r took signs reader told ended) (fun _ _ _ _ => rfl) _ 0 _ _ ⟨P5, 0, [], none, rfl, rfl, o5, by omega, by omega, rfl, by simp⟩ ?_ ?_)
  · rintro j w hw σ h ⟨P, low, xs, x9, rfl, rfl, oP, l0, l1, lx, hx⟩
    have hj := (rng_at hw).1
    obtain ⟨d, P', q0, q1, o', e'⟩ := draws (k + 1) P (n + 5 + (0 + j)) (signs - low + 1) (r ++ [.lst (iW xs)]) oP (by omega) (by omega) (by omega)
    have ap : method .append (.ref (r.length + 1)) [.int (low + d)] (P'.o :: (r ++ [.lst (iW xs)])) = .ok .non (P'.o :: (r ++ [.lst (iW (xs ++ [low + d]))])) := by
      rw [pen_app (by rw [iW_len]; omega)]; simp [iW]
    simp [turnF, setT, e', pen_recv, ap]
    refine ⟨P', low + d, xs ++ [low + d], some w, rfl, rfl, o'.mono (by omega), by omega, by omega, by simp [lx], ?_⟩
    intro i hi
    rcases List.mem_append.mp hi with q | q
    · exact hx i q
    · rw [List.mem_singleton.mp q]; omega
  · rintro σ h ⟨P, low, xs, x9, rfl, rfl, oP, l0, l1, lx, hx⟩
    rw [len_rng] at lx oP
    obtain ⟨gone, P6, hl, hl1, o6, e6⟩ : ∃ (gone : List Bool) (P6 : Pn), (reader = "left" → gone.length = 1) ∧ gone.length ≤ 1 ∧ Pn.ok P6 (n + 9) ∧ evalE (Cx (k + 2)) (.ite (.cmp .eq (.slot 3) (.str "left")) (.tup (.cons (.and (.slot 4) (.cmp .eq (.call "_law_draw" (.cons (.slot 0) (.cons (.int 2) .nil)) [] .nil) (.int 0))) .nil)) (.tup .nil)) [some (.ref 0), some (.int 2), some (.int took), some (.str reader), some (.bl told), some (.bl ended), some (.int signs), some (.ref (r.length + 1)), some (.int low), x9, none, none] (P.o :: (r ++ [.lst (iW xs)])) = .ok (.tup (bW gone)) (P6.o :: (r ++ [.lst (iW xs)])) := by
      by_cases c : reader = "left"
      · obtain ⟨g, P6, _, o6, e6⟩ := and_draw (draws (k + 1)) told 2 (r ++ [.lst (iW xs)]) oP (by omega) (by omega) (by omega)
        exact ⟨[g], P6, fun _ => rfl, by simp, o6.mono (by omega), by simp [c, e6, bW]⟩
      · exact ⟨[], P, fun z => absurd z c, by simp, oP.mono (by omega), by simp [c, bW]⟩
    simp only [then_nx, sSeq, sAsg, e6]
    obtain ⟨w7, P7, hw7, o7, e7⟩ := picks k P6 (n + 9) [.str "done", .str "failed", .str "stuck"] (r ++ [.lst (iW xs)]) o6 (by omega) (by simp) (by simp)
    obtain ⟨state, rfl, hst⟩ := strs_of (ss := ["done", "failed", "stuck"]) hw7
    obtain ⟨d8, P8, _, _, o8, e8⟩ := draws (k + 1) P7 (n + 9 + 1) 2 (r ++ [.lst (iW xs)]) o7 (by omega) (by omega) (by omega)
    simp [setT, e7, e8, pen_tuple]
    refine hQ _ _ ⟨⟨took, reader, told, xs, ended, gone, state, decide (d8 = 0)⟩, P8, _, rfl, ⟨t0, by simp only; omega, hr, hst, by simp only; omega, hx, hl1, hl⟩, o8.mono (by omega), rfl⟩
end Y
namespace Y
open PySem
def movI (n : Nat) (r : Hb) (a : Rp) (signs : Int) (j : Nat) (σ : Sb) (h : Hb) : Prop := ∃ (P : Pn) (low : Int) (xs : List Int) (x5 : Option W), σ = [some (.ref 0), some (.lit a.ws), some (.int signs), some (.ref (r.length + 1)), some (.int low), x5, none] ∧
    h = P.o :: (r ++ [.lst (iW xs)]) ∧ Pn.ok P (n + j) ∧ xs.length = j ∧ (0 ≤ low ∧ low ≤ 3) ∧ ∀ i ∈ xs, 0 ≤ i ∧ i ≤ 3
theorem l_moved : (prgOf tb con).fns.lookup ("_law_moved" : Str) = some g_moved := by kernel_rfl
theorem cut_03 {h : Hb} (a : Rp) : getCut h (.lit a.ws) none (some 3) = some (.lit [.int a.took, .str a.reader, .bl a.told]) := rfl
theorem cut_6n {h : Hb} (a : Rp) : getCut h (.lit a.ws) (some 6) none = some (.lit [.str a.state, .bl a.lost]) := rfl
theorem moved_ok (k : Nat) {P : Pn} {n : Nat} (r : Hb) (a : Rp) (fa : a.fine) (hP : P.ok n) (hn : n ≤ 90000) : ((Cx (k + 3)).call "_law_moved" [.ref 0, .lit a.ws] [] (P.o :: r)).Ok fun w h => ∃ (b : Rp) (P' : Pn) (g : Hb), w = .lit b.ws ∧ b.fine ∧ Pn.ok P' (n + 30) ∧ h = P'.o :: (r ++ g) := by
  rw [call_eq l_moved, stepF_of (σ := [some (.ref 0), some (.lit a.ws), none, none, none, none, none]) rfl]
  refine ok_hide fun Q hQ => ok_fin ?_
  have ga := fa.good
  have x0 : ∀ h, getIx h (.lit a.ws) (.int 0) = some (.int a.took) := fun _ => rfl
  have x1 : ∀ h, getIx h (.lit a.ws) (.int 1) = some (.str a.reader) := fun _ => rfl
  have x2 : ∀ h, getIx h (.lit a.ws) (.int 2) = some (.bl a.told) := fun _ => rfl
  have x3 : ∀ h, getIx h (.lit a.ws) (.int 3) = some (.tup (iW a.sent)) := fun _ => rfl
  have x4 : ∀ h, getIx h (.lit a.ws) (.int 4) = some (.bl a.ended) := fun _ => rfl
  have x5 : ∀ h, getIx h (.lit a.ws) (.int 5) = some (.tup (bW a.gone)) := fun _ => rfl
  simp [g_moved, setL, setT, x0, x1, x3, -getIx_l]
  refine ok_then (ok_for (movI n r a (a.took + if a.reader = "finished" then 1 else 0)) (fun _ _ _ _ => rfl) _ 0 _ _ ⟨P, 0, [], none, rfl, rfl, hP, rfl, by omega, by simp⟩ ?_ ?_)
  · rintro j w hw σ h ⟨P, low, xs, x5, rfl, rfl, oP, lx, lw, hx⟩
    have hj : j < a.sent.length := by have := (List.getElem?_eq_some_iff.mp hw).1; simpa using this
    have := ga.l1
    obtain ⟨i, hi, rfl⟩ : ∃ i, i ∈ a.sent ∧ w = .int i := by
      obtain ⟨i, h1, h2⟩ := List.mem_map.mp (List.mem_of_getElem? hw)
      exact ⟨i, h1, h2.symm⟩
    obtain ⟨w2, P', hw2, o', e'⟩ := picks (k) P (n + (0 + j)) [.int 0, .int 0, .int 1, .int (-1)] (r ++ [.lst (iW xs)]) oP (by omega) (by simp) (by simp)
    obtain ⟨d, rfl⟩ : ∃ d, w2 = .int d := by
      simp only [List.mem_cons, List.not_mem_nil, or_false] at hw2
      rcases hw2 with rfl | rfl | rfl | rfl <;> exact ⟨_, rfl⟩
    have ap : ∀ v : Int, method .append (.ref (r.length + 1)) [.int v] (P'.o :: (r ++ [.lst (iW xs)])) = .ok .non (P'.o :: (r ++ [.lst (iW (xs ++ [v]))])) := by
      intro v
      rw [pen_app (by rw [iW_len]; omega)]; simp [iW]
    simp [turnF, setT, e', pen_recv, ap]
    have st := fa.t0
    have st1 := fa.t1
    have sg : 0 ≤ a.took + (if a.reader = "finished" then 1 else 0) ∧ a.took + (if a.reader = "finished" then 1 else 0) ≤ 3 := by split <;> omega
    generalize a.took + (if a.reader = "finished" then 1 else 0) = sg' at *
    generalize hv : (if low < _ then _ else low : Int) = v at *
    have hv' : 0 ≤ v ∧ v ≤ 3 := by rw [← hv]; repeat' split; all_goals omega
    refine ⟨P', v, xs ++ [v], _, rfl, rfl, o'.mono (by omega), by simp [lx], hv', ?_⟩
    intro i hi
    rcases List.mem_append.mp hi with q | q
    · exact hx i q
    · rw [List.mem_singleton.mp q]; exact hv'
  · rintro σ h ⟨P, low, xs, x5', rfl, rfl, oP, lx, lw, hx⟩
    rw [iW_len] at lx oP
    have := ga.l1
    have fin : ∀ (gone : List Bool) (P6 : Pn), gone.length ≤ 1 ∧ (a.reader = "left" → gone.length = 1) → Pn.ok P6 (n + 29) → Q (.lit [.int a.took, .str a.reader, .bl a.told, .tup (iW xs), .bl a.ended, .tup (bW gone), .str a.state, .bl a.lost]) (P6.o :: (r ++ [.lst (iW xs)])) := fun gone P6 hg o6 =>
      hQ _ _ ⟨⟨a.took, a.reader, a.told, xs, a.ended, gone, a.state, a.lost⟩, P6, _, rfl, ⟨fa.t0, fa.t1, fa.rd, fa.st, by have := fa.sl; simp only; omega, hx, hg.1, hg.2⟩, o6.mono (by omega), rfl⟩
    have ad : ∀ (u v : List W) h, u.length + v.length ≤ 100 → binop .add (.lit u) (.lit v) h = .ok (.lit (u ++ v)) h := fun u v h c => add_ll (by omega)
    by_cases c : a.reader = "left"
    · cases q : a.told with
      | false => simp [setT, x1, x2, x5, x4, -getIx_l, c, q, cut_03, cut_6n, pen_tuple, ad]; rw [← c, ← q]; exact fin a.gone P ⟨fa.gl, fa.lg⟩ (oP.mono (by omega))
      | true =>
        obtain ⟨d, P6, _, _, o6, e6⟩ := draws (k + 1) P (n + (0 + a.sent.length)) 3 (r ++ [.lst (iW xs)]) oP (by omega) (by omega) (by omega)
        by_cases z : d = 0
        · obtain ⟨g, hg⟩ : ∃ g, a.gone = [g] := by
            have := fa.lg c
            match e : a.gone, this with
            | [g], _ => exact ⟨g, rfl⟩
          have x6 : ∀ h, getIx h (.tup (bW a.gone)) (.int 0) = some (.bl g) := fun h => by rw [hg]; rfl
          simp [setT, x1, x2, x5, x4, x6, -getIx_l, -getIx_t, c, q, cut_03, cut_6n, pen_tuple, ad, e6, z]; rw [← c, ← q]; exact fin [!g] P6 ⟨by simp, fun _ => rfl⟩ (o6.mono (by omega))
        · simp [setT, x1, x2, x5, x4, -getIx_l, c, q, cut_03, cut_6n, pen_tuple, ad, e6, z]; rw [← c, ← q]; exact fin a.gone P6 ⟨fa.gl, fa.lg⟩ (o6.mono (by omega))
    · simp [setT, x1, x2, x5, x4, -getIx_l, c, cut_03, cut_6n, pen_tuple, ad]; exact fin a.gone P ⟨fa.gl, fa.lg⟩ (oP.mono (by omega))
end Y
namespace Y
open PySem
theorem zip_anti : ∀ {l m : List Int}, l.length = m.length → (∀ p ∈ l.zip m, p.1 ≤ p.2) → (∀ p ∈ m.zip l, p.1 ≤ p.2) → l = m
  | [], [], _, _, _ => rfl
  | [], _ :: _, h, _, _ => by simp at h
  | _ :: _, [], h, _, _ => by simp at h
  | x :: l, y :: m, h, h1, h2 => by
    have a1 := h1 (x, y) (by simp)
    have a2 := h2 (y, x) (by simp)
    simp only at a1 a2
    rw [zip_anti (l := l) (m := m) (by simpa using h) (fun p hp => h1 p (by simp [hp])) (fun p hp => h2 p (by simp [hp])), show x = y by omega]
theorem zip_antiB : ∀ {l m : List Bool}, l.length = m.length → (∀ p ∈ l.zip m, (!p.1 || p.2) = true) → (∀ p ∈ m.zip l, (!p.1 || p.2) = true) → l = m
  | [], [], _, _, _ => rfl
  | [], _ :: _, h, _, _ => by simp at h
  | _ :: _, [], h, _, _ => by simp at h
  | x :: l, y :: m, h, h1, h2 => by
    have a1 := h1 (x, y) (by simp)
    have a2 := h2 (y, x) (by simp)
    rw [zip_antiB (l := l) (m := m) (by simpa using h) (fun p hp => h1 p (by simp [hp])) (fun p hp => h2 p (by simp [hp]))]
    cases x <;> cases y <;> simp_all
theorem covers_iff (a b : Rp) : coversB a b = true ↔ a.face = b.face ∧ (∀ p ∈ a.sent.zip b.sent, p.1 ≤ p.2) ∧ ∀ p ∈ a.gone.zip b.gone, (!p.1 || p.2) = true := by
  unfold coversB leBs
  simp only [Bool.and_eq_true, decide_eq_true_eq, List.all_append, List.all_map, List.all_eq_true, Function.comp, id]
theorem covers_anti {a b : Rp} (h1 : coversB a b = true) (h2 : coversB b a = true) : a = b := by
  obtain ⟨f1, s1, g1⟩ := (covers_iff a b).mp h1
  obtain ⟨f2, s2, g2⟩ := (covers_iff b a).mp h2
  obtain ⟨⟨e1, e2, e3, e4, e5, e6⟩, l1, l2⟩ := (face_iff a b).mp f1
  have x1 := zip_anti l1 s1 s2
  have x2 := zip_antiB l2 g1 g2
  cases a; cases b
  simp only at e1 e2 e3 e4 e5 e6 x1 x2
  rw [e1, e2, e3, e4, e5, e6, x1, x2]
theorem zip_self_mem {α : Type} : ∀ {l : List α} {p : α × α}, p ∈ l.zip l → p.1 = p.2
  | [], p, h => by simp at h
  | x :: l, p, h => by
    rcases List.mem_cons.mp (by simpa using h : p ∈ (x, x) :: l.zip l) with e | e
    · rw [e]
    · exact zip_self_mem e
theorem covers_refl (a : Rp) : coversB a a = true := (covers_iff a a).mpr ⟨rfl, fun p hp => by rw [zip_self_mem hp]; exact Int.le_refl _, fun p hp => by rw [zip_self_mem hp]; cases p.2 <;> rfl⟩
theorem eqvs_int : ∀ l : List Int, PyData.eqvAll (l.map .int) (l.map .int) = true
  | [] => by simp [PyData.eqvAll]
  | x :: l => by simp [PyData.eqvAll, PyData.eqv, eqvs_int l]
theorem eqvs_bool : ∀ l : List Bool, PyData.eqvAll (l.map .bool) (l.map .bool) = true
  | [] => by simp [PyData.eqvAll]
  | x :: l => by simp [PyData.eqvAll, PyData.eqv, eqvs_bool l]
theorem pds_bools : ∀ cs : List Bool, W.pds (bW cs) = some (cs.map .bool)
  | [] => rfl
  | c :: cs => by
    have := pds_bools cs
    simp only [bW] at this
    simp [W.pds, W.pd, bW, this]
theorem lay_bools : ∀ cs : List Bool, PyData.canLayAll0 (cs.map .bool) = true
  | [] => by simp [PyData.canLayAll0]
  | c :: cs => by simp [PyData.canLayAll0, PyData.canLay0, lay_bools cs]
theorem depth_bools : ∀ cs : List Bool, PyData.depthAll (cs.map .bool) ≤ 1
  | [] => by simp [PyData.depthAll]
  | c :: cs => by
    have := depth_bools cs
    simp [PyData.depthAll, PyData.depth]; omega
theorem eq_self (a : Rp) (ga : a.good) (h : Hb) : eqD h (.tup a.ws) (.tup a.ws) = some true := by
  have d1 := depth_ints a.sent
  have d2 := depth_bools a.gone
  have hd : (PyData.tuple [.int a.took, .str a.reader, .bool a.told, .tuple (a.sent.map .int), .bool a.ended, .tuple (a.gone.map .bool), .str a.state, .bool a.lost]).depth ≤ 64 := by
    simp only [PyData.depth, PyData.depthAll]; omega
  have e0 : (W.tup a.ws).pd = some (PyData.tuple [.int a.took, .str a.reader, .bool a.told, .tuple (a.sent.map .int), .bool a.ended, .tuple (a.gone.map .bool), .str a.state, .bool a.lost]) := by
    have p1 : W.pds (iW a.sent) = _ := pds_ints a.sent
    have p2 := pds_bools a.gone
    simp [Rp.ws, W.pd, W.pds, p1, p2]
  have sh : SeqAt.shaped (PyData.tuple [.int a.took, .str a.reader, .bool a.told, .tuple (a.sent.map .int), .bool a.ended, .tuple (a.gone.map .bool), .str a.state, .bool a.lost]) = true := by
    unfold SeqAt.shaped
    rw [decide_eq_true hd]
    simp [PyData.canLay0, PyData.canLayAll0, ga.s1, ga.s2, lay_ints, lay_bools]
  show eqG h _ _ = _
  simp only [eqG, snap_t, e0, sh, Bool.and_self, if_true]
  simp [PyData.eqv, PyData.eqvAll, eqvs_int, eqvs_bool]
theorem repr_b (x : Bool) (h : Hb) : builtin .repr [.bl x] h = some (.str (if x then "True" else "False")) := by cases x <;> rfl
end Y
namespace Y
open PySem
/-! ### reports as data -/
def rtW (a : Rp) : W := .tup a.ws
def Rp.d (a : Rp) : PyData := .tuple [.int a.took, .str a.reader, .bool a.told, .tuple (a.sent.map .int), .bool a.ended, .tuple (a.gone.map .bool), .str a.state, .bool a.lost]
theorem pd_row (a : Rp) : (rtW a).pd = some a.d := by
  have p1 : W.pds (iW a.sent) = _ := pds_ints a.sent
  have p2 := pds_bools a.gone
  simp [rtW, Rp.d, Rp.ws, W.pd, W.pds, p1, p2]
theorem pds_rows : ∀ as : List Rp, W.pds (as.map rtW) = some (as.map Rp.d)
  | [] => rfl
  | a :: as => by simp [W.pds, pd_row, pds_rows as]
theorem lay_row {a : Rp} (ga : a.good) : a.d.canLay0 = true := by simp [Rp.d, PyData.canLay0, PyData.canLayAll0, ga.s1, ga.s2, lay_ints, lay_bools]
theorem depth_row (a : Rp) : a.d.depth ≤ 10 := by
  have d1 := depth_ints a.sent
  have d2 := depth_bools a.gone
  simp only [Rp.d, PyData.depth, PyData.depthAll]; omega
theorem shaped_row {a : Rp} (ga : a.good) : SeqAt.shaped a.d = true := by
  unfold SeqAt.shaped
  rw [lay_row ga, decide_eq_true (by have := depth_row a; omega)]; rfl
theorem lay_rows : ∀ as : List Rp, (∀ a ∈ as, a.good) → PyData.canLayAll0 (as.map Rp.d) = true
  | [], _ => by simp [PyData.canLayAll0]
  | a :: as, h => by simp [PyData.canLayAll0, lay_row (h a List.mem_cons_self), lay_rows as fun b hb => h b (List.mem_cons_of_mem _ hb)]
theorem depth_rows : ∀ as : List Rp, PyData.depthAll (as.map Rp.d) ≤ 10
  | [] => by simp [PyData.depthAll]
  | a :: as => by
    have := depth_rows as
    have := depth_row a
    simp [PyData.depthAll]; omega
theorem shaped_rows {as : List Rp} (h : ∀ a ∈ as, a.good) : SeqAt.shaped (.list (as.map Rp.d)) = true := by
  unfold SeqAt.shaped
  have := depth_rows as
  simp only [PyData.canLay0, lay_rows as h, PyData.depth, Bool.true_and]
  exact decide_eq_true (by omega)
theorem eqvs_ints : ∀ l m : List Int, PyData.eqvAll (l.map .int) (m.map .int) = decide (l = m)
  | [], [] => by simp [PyData.eqvAll]
  | [], _ :: _ => by simp [PyData.eqvAll]
  | _ :: _, [] => by simp [PyData.eqvAll]
  | x :: l, y :: m => by
    rw [Bool.eq_iff_iff]
    simp [PyData.eqvAll, PyData.eqv, eqvs_ints l m]
theorem eqvs_bools : ∀ l m : List Bool, PyData.eqvAll (l.map .bool) (m.map .bool) = decide (l = m)
  | [], [] => by simp [PyData.eqvAll]
  | [], _ :: _ => by simp [PyData.eqvAll]
  | _ :: _, [] => by simp [PyData.eqvAll]
  | x :: l, y :: m => by
    rw [Bool.eq_iff_iff]
    simp [PyData.eqvAll, PyData.eqv, eqvs_bools l m]
theorem eqv_row (a b : Rp) : PyData.eqv a.d b.d = decide (a = b) := by
  rw [Bool.eq_iff_iff]
  cases a; cases b
  simp [Rp.d, PyData.eqv, PyData.eqvAll, eqvs_ints, eqvs_bools]
theorem eq_row {a b : Rp} (ga : a.good) (gb : b.good) (h : Hb) : eqD h (rtW a) (rtW b) = some (decide (a = b)) := by
  show eqG h (rtW a) (rtW b) = _
  have s : ∀ a, snap h (rtW a) = rtW a := fun _ => rfl
  unfold eqG
  rw [s, s, pd_row, pd_row]
  simp only [shaped_row ga, shaped_row gb, Bool.and_self, if_true, eqv_row]
theorem eq_nil {h : Hb} {w : W} {as : List Rp} (hw : snap h w = .lit (as.map rtW)) (g : ∀ a ∈ as, a.good) (hn : w = .lit (as.map rtW) ∨ ∃ n, w = .ref n) : eqD h w (.lit []) = some as.isEmpty := by
  have e : eqG h w (.lit []) = some as.isEmpty := by
    have h0 : SeqAt.shaped (.list ([] : List PyData)) = true := shaped_ints []
    have e1 : (W.lit (as.map rtW)).pd = some (.list (as.map Rp.d)) := by simp [W.pd, pds_rows]
    have e2 : snap h (.lit []) = .lit [] := rfl
    have e3 : (W.lit []).pd = some (.list []) := rfl
    unfold eqG
    rw [hw, e1, e2, e3]
    simp only [shaped_rows g, h0, Bool.and_self, if_true]
    cases as <;> simp [PyData.eqv, PyData.eqvAll]
  rcases hn with rfl | ⟨n, rfl⟩ <;> exact e
theorem in_rows {h : Hb} {a : Rp} {as : List Rp} (ga : a.good) (g : ∀ a ∈ as, a.good) : inD h (rtW a) (as.map rtW) = some (decide (a ∈ as)) := by
  unfold inD
  rw [pd_row, pds_rows]
  simp only [shaped_row ga, shaped_rows g, Bool.and_self, if_true, Option.some.injEq]
  rw [Bool.eq_iff_iff]
  simp only [List.any_eq_true, List.mem_map, decide_eq_true_eq]
  constructor
  · rintro ⟨z, ⟨b, hb, rfl⟩, e⟩
    rw [eqv_row, decide_eq_true_eq] at e
    rw [← e]; exact hb
  · intro ha
    exact ⟨a.d, ⟨a, ha, rfl⟩, by rw [eqv_row]; exact decide_eq_true rfl⟩

/-! ### what repr tells of them -/
theorem shownAll_eq : ∀ ds : List PyData, PyData.shownAll ds = ds.map PyData.shown
  | [] => by simp only [PyData.shownAll, List.map_nil]
  | d :: ds => by simp only [PyData.shownAll, List.map_cons, shownAll_eq ds]
theorem showableAll_of : ∀ ds : List PyData, (∀ d ∈ ds, d.showable = true) → PyData.showableAll ds = true
  | [], _ => by simp only [PyData.showableAll]
  | d :: ds, h => by simp only [PyData.showableAll, h d List.mem_cons_self, showableAll_of ds (fun x hx => h x (List.mem_cons_of_mem _ hx)), Bool.and_self]
def okC (d : PyData) : Bool := (d.showable && PyData.strOk d.shown) && decide (d.shown.length ≤ 40)
def ints4 : List Int := [0, 1, 2, 3]
def sents : List (List Int) := [[]] ++ ints4.map (fun a => [a]) ++ ints4.flatMap (fun a => ints4.map fun b => [a, b]) ++ ints4.flatMap (fun a => ints4.flatMap fun b => ints4.map fun c => [a, b, c])
def gones : List (List Bool) := [[], [false], [true]]
theorem mem4 {i : Int} (h : 0 ≤ i ∧ i ≤ 3) : i ∈ ints4 := by
  rcases (by omega : i = 0 ∨ i = 1 ∨ i = 2 ∨ i = 3) with rfl | rfl | rfl | rfl <;> decide
theorem mem_sents {l : List Int} (hl : l.length ≤ 3) (h : ∀ i ∈ l, 0 ≤ i ∧ i ≤ 3) : l ∈ sents := by
  unfold sents
  match l, hl, h with
  | [], _, _ => simp
  | [a], _, h => have := mem4 (h a (by simp)); simp [this]
  | [a, b], _, h => have := mem4 (h a (by simp)); have := mem4 (h b (by simp)); simp [*]
  | [a, b, c], _, h => have := mem4 (h a (by simp)); have := mem4 (h b (by simp)); have := mem4 (h c (by simp)); simp only [List.mem_append, List.mem_flatMap, List.mem_map]; exact .inr ⟨a, by assumption, b, by assumption, c, by assumption, rfl⟩
  | _ :: _ :: _ :: _ :: _, hl, _ => simp at hl
theorem mem_gones {l : List Bool} (hl : l.length ≤ 1) : l ∈ gones := by
  match l, hl with
  | [], _ => simp [gones]
  | [a], _ => cases a <;> simp [gones]
  | _ :: _ :: _, hl => simp at hl
theorem okC_ints : ∀ i ∈ ints4, okC (.int i) = true := by
  have : ints4.all (fun i => okC (.int i)) = true := by decide +kernel
  exact List.all_eq_true.mp this
theorem okC_bool : ∀ b : Bool, okC (.bool b) = true := by decide +kernel
theorem okC_sents : ∀ l ∈ sents, okC (.tuple (l.map .int)) = true := by
  have : sents.all (fun l => okC (.tuple (l.map .int))) = true := by decide +kernel
  exact List.all_eq_true.mp this
theorem okC_gones : ∀ l ∈ gones, okC (.tuple (l.map .bool)) = true := by
  have : gones.all (fun l => okC (.tuple (l.map .bool))) = true := by decide +kernel
  exact List.all_eq_true.mp this
theorem okC_reader : ∀ s ∈ (["reading", "finished", "left"] : List Str), okC (.str s) = true := by
  have : (["reading", "finished", "left"] : List Str).all (fun l => okC (.str l)) = true := by decide +kernel
  exact List.all_eq_true.mp this
theorem okC_state : ∀ s ∈ (["done", "failed", "stuck"] : List Str), okC (.str s) = true := by
  have : (["done", "failed", "stuck"] : List Str).all (fun l => okC (.str l)) = true := by decide +kernel
  exact List.all_eq_true.mp this
theorem strOk_app {a b : Str} (ha : PyData.strOk a = true) (hb : PyData.strOk b = true) : PyData.strOk (a ++ b) = true := by
  unfold PyData.strOk at *
  show (a.cps ++ b.cps).all _ = true
  rw [Array.all_append, ha, hb]; rfl
theorem strOk_join {s : Str} (hs : PyData.strOk s = true) : ∀ ts : List Str, (∀ t ∈ ts, PyData.strOk t = true) → PyData.strOk (Str.join s ts) = true
  | [], _ => by show PyData.strOk Str.empty = true; decide +kernel
  | [x], h => h x List.mem_cons_self
  | x :: y :: r, h => strOk_app (strOk_app (h x List.mem_cons_self) hs) (strOk_join hs (y :: r) fun t ht => h t (List.mem_cons_of_mem _ ht))
theorem comps {a : Rp} (f : a.fine) : ∀ d ∈ ([.int a.took, .str a.reader, .bool a.told, .tuple (a.sent.map .int), .bool a.ended, .tuple (a.gone.map .bool), .str a.state, .bool a.lost] : List PyData), okC d = true := by
  intro d hd
  simp only [List.mem_cons, List.not_mem_nil, or_false] at hd
  rcases hd with rfl | rfl | rfl | rfl | rfl | rfl | rfl | rfl
  · exact okC_ints _ (mem4 ⟨f.t0, by have := f.t1; omega⟩)
  · exact okC_reader _ f.rd
  · exact okC_bool _
  · exact okC_sents _ (mem_sents f.sl f.s0)
  · exact okC_bool _
  · exact okC_gones _ (mem_gones f.gl)
  · exact okC_state _ f.st
  · exact okC_bool _
theorem sum_le (f : PyData → Nat) (m : Nat) : ∀ ds : List PyData, (∀ d ∈ ds, f d ≤ m) → (ds.map f).sum ≤ m * ds.length
  | [], _ => by simp
  | d :: ds, h => by
    have := sum_le f m ds fun x hx => h x (List.mem_cons_of_mem _ hx)
    have := h d List.mem_cons_self
    simp only [List.map_cons, List.sum_cons, List.length_cons, Nat.mul_add]; omega
theorem tup_shown {ds : List PyData} (c : ∀ d ∈ ds, okC d = true) : (PyData.tuple ds).showable = true ∧ PyData.strOk (PyData.tuple ds).shown = true ∧ (PyData.tuple ds).shown.length ≤ 42 * ds.length + 3 := by
  have c' : ∀ d ∈ ds, (d.showable = true ∧ PyData.strOk d.shown = true) ∧ d.shown.length ≤ 40 := by
    intro d hd
    have := c d hd
    unfold okC at this
    simpa [Bool.and_eq_true] using this
  refine ⟨?_, ?_, ?_⟩
  · simp only [PyData.showable]
    exact showableAll_of ds fun d hd => (c' d hd).1.1
  · simp only [PyData.shown, shownAll_eq]
    unfold tupleText
    refine strOk_app (strOk_app (by decide +kernel) (strOk_join (by decide +kernel) _ fun t ht => ?_)) ?_
    · obtain ⟨d, hd, rfl⟩ := List.mem_map.mp ht
      exact (c' d hd).1.2
    · split <;> decide +kernel
  · simp only [PyData.shown, shownAll_eq]
    have h1 := tupleText_len_le (ds.map PyData.shown)
    have h2 := sum_le (fun d => d.shown.length) 40 ds fun d hd => (c' d hd).2
    rw [List.map_map, List.length_map] at h1
    have : (List.map ((fun x : Str => x.length) ∘ PyData.shown) ds).sum = (ds.map fun d => d.shown.length).sum := rfl
    omega
theorem shown_row {a : Rp} (f : a.fine) : a.d.showable = true ∧ PyData.strOk a.d.shown = true ∧ a.d.shown.length ≤ 400 := by
  obtain ⟨h1, h2, h3⟩ := tup_shown (comps f)
  exact ⟨h1, h2, Nat.le_trans h3 (by simp)⟩
theorem repr_row {a : Rp} (f : a.fine) (h : Hb) : reprOf h (rtW a) = some a.d.shown := by
  obtain ⟨h1, h2, h3⟩ := shown_row f
  have s : snap h (rtW a) = rtW a := rfl
  unfold reprOf
  rw [s, pd_row]
  dsimp only
  rw [h1, shaped_row f.good, small_eq, decide_eq_true (by omega)]; rfl
theorem repr_rows {w : W} {h : Hb} {as : List Rp} (hw : snap h w = .lit (as.map rtW)) (f : ∀ a ∈ as, a.fine) (l : as.length ≤ 1000) : reprOf h w = some (PyData.list (as.map Rp.d)).shown := by
  have e1 : (W.lit (as.map rtW)).pd = some (.list (as.map Rp.d)) := by simp [W.pd, pds_rows]
  unfold reprOf
  rw [hw, e1]
  dsimp only
  have h1 : (PyData.list (as.map Rp.d)).showable = true := by
    simp only [PyData.showable]
    refine showableAll_of _ fun d hd => ?_
    obtain ⟨a, ha, rfl⟩ := List.mem_map.mp hd
    exact (shown_row (f a ha)).1
  have h3 : (PyData.list (as.map Rp.d)).shown.length ≤ 500000 := by
    simp only [PyData.shown, shownAll_eq]
    have h1 := listText_len_le ((as.map Rp.d).map PyData.shown)
    have h2 := sum_le (fun d => d.shown.length) 400 (as.map Rp.d) fun d hd => by
      obtain ⟨a, ha, rfl⟩ := List.mem_map.mp hd
      exact (shown_row (f a ha)).2.2
    rw [List.length_map] at h2
    have e : (((as.map Rp.d).map PyData.shown).map (·.length)).sum = ((as.map Rp.d).map fun d => d.shown.length).sum := by rw [List.map_map]; rfl
    have e2 : ((as.map Rp.d).map PyData.shown).length = as.length := by simp
    rw [e, e2] at h1
    omega
  rw [h1, shaped_rows fun a ha => (f a ha).good, small_eq, decide_eq_true (by omega)]; rfl
theorem bi_repr {w : W} {h : Hb} {s : Str} (e : reprOf h w = some s) : builtin .repr [w] h = some (.str s) := by
  show (reprOf h w).map W.str = _
  rw [e]; rfl
theorem pds_strs : ∀ ss : List Str, W.pds (ss.map .str) = some (ss.map .str)
  | [] => rfl
  | c :: cs => by simp [W.pds, W.pd, pds_strs cs]
theorem lay_strs : ∀ ss : List Str, (∀ s ∈ ss, PyData.strOk s = true) → PyData.canLayAll0 (ss.map .str) = true
  | [], _ => by simp [PyData.canLayAll0]
  | c :: cs, h => by simp [PyData.canLayAll0, PyData.canLay0, h c List.mem_cons_self, lay_strs cs fun s hs => h s (List.mem_cons_of_mem _ hs)]
theorem depth_strs : ∀ cs : List Str, PyData.depthAll (cs.map .str) ≤ 1
  | [] => by simp [PyData.depthAll]
  | c :: cs => by
    have := depth_strs cs
    simp [PyData.depthAll, PyData.depth]; omega
/-- a text among texts -/
theorem in_strs {h : Hb} {s : Str} {ss : List Str} (hs : PyData.strOk s = true) (g : ∀ s ∈ ss, PyData.strOk s = true) : inD h (.str s) (ss.map .str) = some (decide (s ∈ ss)) := by
  have e1 : SeqAt.shaped (.str s) = true := by
    unfold SeqAt.shaped
    rw [show (PyData.str s).canLay0 = true from hs]; exact decide_eq_true (by show (PyData.str s).depth ≤ 64; unfold PyData.depth; omega)
  have e2 : SeqAt.shaped (.list (ss.map .str)) = true := by
    unfold SeqAt.shaped
    have := depth_strs ss
    simp only [PyData.canLay0, lay_strs ss g, PyData.depth, Bool.true_and]
    exact decide_eq_true (by omega)
  unfold inD
  rw [pds_strs]
  simp only [W.pd, e1, e2, Bool.and_self, if_true, Option.some.injEq]
  rw [Bool.eq_iff_iff]
  simp only [List.any_eq_true, List.mem_map, decide_eq_true_eq]
  constructor
  · rintro ⟨z, ⟨b, hb, rfl⟩, e⟩
    simp only [PyData.eqv, beq_iff_eq, decide_eq_true_eq] at e
    rw [← e]; exact hb
  · intro ha
    exact ⟨.str s, ⟨s, ha, rfl⟩, by simp [PyData.eqv]⟩
end Y
namespace Y
open PySem
/-! ### texts compare as tuples do -/
/-- how two parts' codes compare, whatever follows -/
structure CmpL (u v : List Nat) (o : Option Bool) (e : Bool) : Prop where
  eq : e = true → u = v
  ne : e = false → (o = some true ∧ ∀ x y, u ++ x < v ++ y) ∨ (o = some false ∧ ∀ x y, v ++ y < u ++ x)
  some : o ≠ none
theorem app_lt {x y : List Nat} : ∀ u : List Nat, (u ++ x < u ++ y) ↔ x < y
  | [] => Iff.rfl
  | a :: u => by
    show (a :: (u ++ x) < a :: (u ++ y)) ↔ _
    rw [List.cons_lt_cons_iff]
    constructor
    · rintro (h | h)
      · exact absurd h (Nat.lt_irrefl _)
      · exact (app_lt u).mp h.2
    · intro h
      exact .inr ⟨rfl, (app_lt u).mpr h⟩
theorem nlt {u v : List Nat} (h : v < u) : ¬ u < v := fun z => List.lt_irrefl _ (List.lt_trans h z)
theorem lts_step {f : W → W → Option Bool} {x y : W} {xs ys : List W} {d e : PyData} {u v us vs : List Nat} (hx : x.pd = some d) (hy : y.pd = some e) (s1 : SeqAt.shaped d = true) (s2 : SeqAt.shaped e = true)
    (c : CmpL u v (f x y) (PyData.eqv d e)) (t : ∃ b, ltsW f xs ys = some b ∧ (b = true ↔ us < vs)) : ∃ b, ltsW f (x :: xs) (y :: ys) = some b ∧ (b = true ↔ u ++ us < v ++ vs) := by
  obtain ⟨b, hb, tb⟩ := t
  obtain ⟨k, hk⟩ := Option.ne_none_iff_exists'.mp c.some
  have e1 : ltsW f (x :: xs) (y :: ys) = some (if PyData.eqv d e then b else k) := by
    unfold ltsW
    rw [hb, hk, hx, hy]
    simp only [s1, s2, Bool.and_self, if_true]
  refine ⟨_, e1, ?_⟩
  cases q : PyData.eqv d e with
  | true =>
    rw [c.eq q, app_lt]
    exact tb
  | false =>
    rcases c.ne q with ⟨a1, a2⟩ | ⟨a1, a2⟩
    · rw [hk] at a1
      cases a1
      exact ⟨fun _ => a2 _ _, fun _ => rfl⟩
    · rw [hk] at a1
      cases a1
      exact ⟨fun z => by simp at z, fun z => absurd z (nlt (a2 _ _))⟩
theorem lts_nil {f : W → W → Option Bool} : ∃ b, ltsW f [] [] = some b ∧ (b = true ↔ ([] : List Nat) < []) := ⟨false, by unfold ltsW; rfl, fun h => absurd h (by decide), fun h => absurd h (List.lt_irrefl _)⟩
/-- one sign -/
theorem cmp_one {a b : Nat} {o : Option Bool} {e : Bool} (ho : o = some (decide (a < b))) (he : e = decide (a = b)) : CmpL [a] [b] o e := by
  subst ho he
  refine ⟨fun h => by rw [of_decide_eq_true h], fun h => ?_, by simp⟩
  have h := of_decide_eq_false h
  by_cases c : a < b
  · exact .inl ⟨by rw [decide_eq_true c], fun x y => List.cons_lt_cons_iff.mpr (.inl c)⟩
  · exact .inr ⟨by rw [decide_eq_false c], fun x y => List.cons_lt_cons_iff.mpr (.inl (by omega))⟩
/-- rows of signs, with an end -/
theorem cmp_row {α : Type} {enc : α → Nat} {w : α → W} {d : α → PyData} {f : W → W → Option Bool} (S : α → Prop) (hd : ∀ a, (w a).pd = some (d a)) (sh : ∀ a, SeqAt.shaped (d a) = true)
    (hf : ∀ a b, S a → S b → f (w a) (w b) = some (decide (enc a < enc b))) (he : ∀ a b, S a → S b → PyData.eqv (d a) (d b) = decide (enc a = enc b)) (hn : ∀ a, S a → 48 < enc a) :
    ∀ l m : List α, (∀ a ∈ l, S a) → (∀ a ∈ m, S a) → CmpL (l.map enc ++ [48]) (m.map enc ++ [48]) (ltsW f (l.map w) (m.map w)) (PyData.eqvAll (l.map d) (m.map d))
  | [], [], _, _ => ⟨fun _ => rfl, fun h => by simp [PyData.eqvAll] at h, by simp [ltsW]⟩
  | [], b :: m, _, hm => by
    have := hn b (hm b List.mem_cons_self)
    exact ⟨fun h => by simp [PyData.eqvAll] at h, fun _ => .inl ⟨by simp [ltsW], fun x y => List.cons_lt_cons_iff.mpr (.inl this)⟩, by simp [ltsW]⟩
  | a :: l, [], hl, _ => by
    have := hn a (hl a List.mem_cons_self)
    exact ⟨fun h => by simp [PyData.eqvAll] at h, fun _ => .inr ⟨by simp [ltsW], fun x y => List.cons_lt_cons_iff.mpr (.inl this)⟩, by simp [ltsW]⟩
  | a :: l, b :: m, hl, hm => by
    have sa := hl a List.mem_cons_self
    have sb := hm b List.mem_cons_self
    have ih := cmp_row S hd sh hf he hn l m (fun x hx => hl x (List.mem_cons_of_mem _ hx)) (fun x hx => hm x (List.mem_cons_of_mem _ hx))
    obtain ⟨k, hk⟩ := Option.ne_none_iff_exists'.mp ih.some
    have e1 : ltsW f (w a :: l.map w) (w b :: m.map w) = some (if decide (enc a = enc b) then k else decide (enc a < enc b)) := by
      unfold ltsW
      rw [hk, hf a b sa sb, hd, hd]
      simp only [sh, Bool.and_self, if_true, he a b sa sb]
    simp only [List.map_cons, List.cons_append, e1]
    by_cases c : enc a = enc b
    · simp only [PyData.eqvAll, he a b sa sb, c, decide_true, Bool.true_and, if_true]
      refine ⟨fun h => by rw [ih.eq h], fun h => ?_, by simp⟩
      rcases ih.ne h with ⟨p1, p2⟩ | ⟨p1, p2⟩
      · rw [hk] at p1; cases p1
        exact .inl ⟨rfl, fun x y => List.cons_lt_cons_iff.mpr (.inr ⟨rfl, p2 x y⟩)⟩
      · rw [hk] at p1; cases p1
        exact .inr ⟨rfl, fun x y => List.cons_lt_cons_iff.mpr (.inr ⟨rfl, p2 x y⟩)⟩
    · simp only [PyData.eqvAll, he a b sa sb, c, decide_false, Bool.false_and, if_false, Bool.false_eq_true]
      refine ⟨fun h => absurd h (by decide), fun _ => ?_, by simp⟩
      by_cases c2 : enc a < enc b
      · exact .inl ⟨by rw [decide_eq_true c2], fun x y => List.cons_lt_cons_iff.mpr (.inl c2)⟩
      · exact .inr ⟨by rw [decide_eq_false c2], fun x y => List.cons_lt_cons_iff.mpr (.inl (by omega))⟩
/-- words of which none begins another -/
def fdiff : List Nat → List Nat → Bool
  | x :: xs, y :: ys => if x = y then fdiff xs ys else true
  | _, _ => false
theorem fdiff_lt : ∀ {u v : List Nat}, fdiff u v = true → u < v → ∀ x y, u ++ x < v ++ y
  | a :: u, b :: v, h, hl, x, y => by
    show a :: (u ++ x) < b :: (v ++ y)
    rw [List.cons_lt_cons_iff] at hl ⊢
    unfold fdiff at h
    rcases hl with c | ⟨rfl, c⟩
    · exact .inl c
    · rw [if_pos rfl] at h
      exact .inr ⟨rfl, fdiff_lt h c x y⟩
theorem fdiff_comm : ∀ u v : List Nat, fdiff u v = fdiff v u
  | [], [] => rfl
  | [], _ :: _ => rfl
  | _ :: _, [] => rfl
  | a :: u, b :: v => by
    unfold fdiff
    by_cases c : a = b
    · subst c; simp [fdiff_comm u v]
    · rw [if_neg c, if_neg (Ne.symm c)]
theorem cmp_word {s t : Str} {f : W → W → Option Bool} (hf : f (.str s) (.str t) = some (decide (s.cps.toList < t.cps.toList))) (hd : s ≠ t → fdiff (Str.cl s) (Str.cl t) = true) : CmpL (Str.cl s) (Str.cl t) (f (.str s) (.str t)) (PyData.eqv (.str s) (.str t)) := by
  rw [hf]
  refine ⟨fun h => by simp [PyData.eqv] at h; rw [h], fun h => ?_, by simp⟩
  have hne : s ≠ t := by simpa [PyData.eqv] using h
  have hd := hd hne
  rcases ltC_total hne with c | c
  · exact .inl ⟨by rw [decide_eq_true (show s.cps.toList < t.cps.toList from c)], fun x y => fdiff_lt hd c x y⟩
  · exact .inr ⟨by rw [decide_eq_false (show ¬ s.cps.toList < t.cps.toList from fun z => ltC_asymm c z)], fun x y => fdiff_lt (by rw [fdiff_comm]; exact hd) c y x⟩
theorem readers_diff : ∀ s ∈ (["reading", "finished", "left"] : List Str), ∀ t ∈ (["reading", "finished", "left"] : List Str), s ≠ t → fdiff (Str.cl s) (Str.cl t) = true := by
  have h : ((["reading", "finished", "left"] : List Str).all fun s => (["reading", "finished", "left"] : List Str).all fun t => decide (s = t) || fdiff (Str.cl s) (Str.cl t)) = true := by decide +kernel
  intro s hs t ht hn
  have := List.all_eq_true.mp (List.all_eq_true.mp h s hs) t ht
  simpa [hn] using this
theorem states_diff : ∀ s ∈ (["done", "failed", "stuck"] : List Str), ∀ t ∈ (["done", "failed", "stuck"] : List Str), s ≠ t → fdiff (Str.cl s) (Str.cl t) = true := by
  have h : ((["done", "failed", "stuck"] : List Str).all fun s => (["done", "failed", "stuck"] : List Str).all fun t => decide (s = t) || fdiff (Str.cl s) (Str.cl t)) = true := by decide +kernel
  intro s hs t ht hn
  have := List.all_eq_true.mp (List.all_eq_true.mp h s hs) t ht
  simpa [hn] using this

/-! ### a report's text -/
def b2 (b : Bool) : Int := if b = true then 1 else 0
def dgI (i : Int) : Str := (toString i : String)
def cI (i : Int) : Nat := 48 + i.toNat
def cB (b : Bool) : Nat := 48 + (if b = true then 1 else 0)
theorem dgI_ok {i : Int} (h0 : 0 ≤ i) (h1 : i ≤ 4) : strOf (.int i) = some (dgI i) ∧ Str.cl (dgI i) = [cI i] ∧ (dgI i).length ≤ 1 := by
  rcases (by omega : i = 0 ∨ i = 1 ∨ i = 2 ∨ i = 3 ∨ i = 4) with rfl | rfl | rfl | rfl | rfl <;> exact ⟨by decide +kernel, by decide +kernel, by decide +kernel⟩
def sgn (is : List Int) : Str := Txt.join "" (is.map fun i => dgI (i + 1)) ++ ("0" : String)
def tx (a : Rp) : Str := ([([dgI a.took, a.reader, dgI (b2 a.told), sgn a.sent] : List Str).foldl (· ++ ·) Str.empty, dgI (b2 a.ended), sgn (a.gone.map b2), a.state, dgI (b2 a.lost)] : List Str).foldl (· ++ ·) Str.empty
theorem cl_empty : Str.cl Str.empty = [] := rfl
theorem cl_join : ∀ ts : List Str, Str.cl (Str.join "" ts) = (ts.map Str.cl).flatten
  | [] => rfl
  | [x] => by simp [Str.join]
  | x :: y :: r => by
    have ih := cl_join (y :: r)
    show Str.cl (x ++ ("" : String) ++ Str.join "" (y :: r)) = _
    rw [cl_app, cl_app, ih, show Str.cl (("" : String) : Str) = [] by decide +kernel]
    simp
theorem sgn_cl {is : List Int} (h : ∀ i ∈ is, 0 ≤ i ∧ i ≤ 3) : Str.cl (sgn is) = is.map (fun i => cI (i + 1)) ++ [48] := by
  have e : Txt.join "" (is.map fun i => dgI (i + 1)) = Str.join "" (is.map fun i => dgI (i + 1)) := StrLaws.glued_eq_join _ _
  unfold sgn
  rw [cl_app, e, cl_join, show Str.cl (("0" : String) : Str) = [48] by decide +kernel]
  clear e
  congr 1
  induction is with
  | nil => rfl
  | cons i r ih =>
    have hi := h i List.mem_cons_self
    simp only [List.map_cons, List.flatten_cons, (dgI_ok (i := i + 1) (by omega) (by omega)).2.1, ih (fun j hj => h j (List.mem_cons_of_mem _ hj))]
    rfl
def txL (a : Rp) : List Nat := [cI a.took] ++ (Str.cl a.reader ++ ([cB a.told] ++ ((a.sent.map (fun i => cI (i + 1)) ++ [48]) ++ ([cB a.ended] ++ ((a.gone.map (fun b => cB b + 1) ++ [48]) ++ (Str.cl a.state ++ ([cB a.lost] ++ [])))))))
theorem b2_ok (b : Bool) : Str.cl (dgI (b2 b)) = [cB b] := by cases b <;> decide +kernel
theorem tx_cl {a : Rp} (f : a.fine) : Str.cl (tx a) = txL a := by
  have h1 : Str.cl (sgn (a.gone.map b2)) = a.gone.map (fun b => cB b + 1) ++ [48] := by
    rw [sgn_cl]
    · rw [List.map_map]
      congr 1
      refine List.map_congr_left fun b _ => ?_
      cases b <;> rfl
    · intro i hi
      obtain ⟨b, _, rfl⟩ := List.mem_map.mp hi
      cases b <;> decide
  unfold tx txL
  simp only [List.foldl_cons, List.foldl_nil, cl_app, cl_empty, b2_ok, h1, sgn_cl f.s0, (dgI_ok f.t0 (by have := f.t1; omega)).2.1]
  simp only [List.nil_append, List.append_assoc, List.append_nil]
theorem sh_int (i : Int) : SeqAt.shaped (.int i) = true := by unfold SeqAt.shaped; simp [PyData.canLay0, PyData.depth]
theorem sh_bool (b : Bool) : SeqAt.shaped (.bool b) = true := by unfold SeqAt.shaped; simp [PyData.canLay0, PyData.depth]
theorem sh_str {s : Str} (h : PyData.strOk s = true) : SeqAt.shaped (.str s) = true := by unfold SeqAt.shaped; simp [PyData.canLay0, PyData.depth, h]
theorem sh_ints (l : List Int) : SeqAt.shaped (.tuple (l.map .int)) = true := by
  have := depth_ints l
  unfold SeqAt.shaped; simp only [PyData.canLay0, lay_ints, PyData.depth, Bool.true_and]; exact decide_eq_true (by omega)
theorem sh_bools (l : List Bool) : SeqAt.shaped (.tuple (l.map .bool)) = true := by
  have := depth_bools l
  unfold SeqAt.shaped; simp only [PyData.canLay0, lay_bools, PyData.depth, Bool.true_and]; exact decide_eq_true (by omega)
theorem cmp_int {i j : Int} (hi : 0 ≤ i) (hj : 0 ≤ j) (n : Nat) : CmpL [cI i] [cI j] (ltN (n + 1) (.int i) (.int j)) (PyData.eqv (.int i) (.int j)) :=
  cmp_one (by show some (decide (i < j)) = _; unfold cI; congr 1; rw [Bool.eq_iff_iff]; simp only [decide_eq_true_eq]; omega) (by unfold cI; rw [Bool.eq_iff_iff]; simp [PyData.eqv]; omega)
theorem cmp_bool (a b : Bool) (n : Nat) : CmpL [cB a] [cB b] (ltN (n + 1) (.bl a) (.bl b)) (PyData.eqv (.bool a) (.bool b)) :=
  cmp_one (by show some (!a && b) = _; cases a <;> cases b <;> rfl) (by cases a <;> cases b <;> simp [PyData.eqv, cB])
theorem cmp_sent {a b : Rp} (fa : a.fine) (fb : b.fine) : CmpL (a.sent.map (fun i => cI (i + 1)) ++ [48]) (b.sent.map (fun i => cI (i + 1)) ++ [48]) (ltN 3 (.tup (iW a.sent)) (.tup (iW b.sent))) (PyData.eqv (.tuple (a.sent.map .int)) (.tuple (b.sent.map .int))) := by
  have := cmp_row (enc := fun i => cI (i + 1)) (w := W.int) (d := PyData.int) (f := ltN 2) (fun i => 0 ≤ i) (fun _ => rfl) sh_int (fun i j hi hj => by have hi : 0 ≤ i := hi; have hj : 0 ≤ j := hj; show some (decide (i < j)) = some (decide (48 + (i + 1).toNat < 48 + (j + 1).toNat)); congr 1; rw [Bool.eq_iff_iff]; simp only [decide_eq_true_eq]; omega)
    (fun i j hi hj => by have hi : 0 ≤ i := hi; have hj : 0 ≤ j := hj; rw [Bool.eq_iff_iff]; simp [PyData.eqv, cI]; omega) (fun i hi => by have hi : 0 ≤ i := hi; simp only [cI]; omega) a.sent b.sent (fun i hi => (fa.s0 i hi).1) (fun i hi => (fb.s0 i hi).1)
  have e : ltN 3 (.tup (iW a.sent)) (.tup (iW b.sent)) = ltsW (ltN 2) (a.sent.map W.int) (b.sent.map W.int) := rfl
  rw [e]
  simpa [PyData.eqv] using this
theorem cmp_gone (a b : Rp) : CmpL (a.gone.map (fun b => cB b + 1) ++ [48]) (b.gone.map (fun b => cB b + 1) ++ [48]) (ltN 3 (.tup (bW a.gone)) (.tup (bW b.gone))) (PyData.eqv (.tuple (a.gone.map .bool)) (.tuple (b.gone.map .bool))) := by
  have := cmp_row (enc := fun b => cB b + 1) (w := W.bl) (d := PyData.bool) (f := ltN 2) (fun _ => True) (fun _ => rfl) sh_bool (fun i j _ _ => by show some (!i && j) = _; cases i <;> cases j <;> rfl)
    (fun i j _ _ => by cases i <;> cases j <;> simp [PyData.eqv, cB]) (fun i _ => by cases i <;> simp [cB]) a.gone b.gone (fun _ _ => trivial) (fun _ _ => trivial)
  have e : ltN 3 (.tup (bW a.gone)) (.tup (bW b.gone)) = ltsW (ltN 2) (a.gone.map W.bl) (b.gone.map W.bl) := rfl
  rw [e]
  simpa [PyData.eqv] using this
theorem row_lt {a b : Rp} (fa : a.fine) (fb : b.fine) : ∃ r, ltN 4 (rtW a) (rtW b) = some r ∧ (r = true ↔ ltC (tx a) (tx b)) := by
  have p1 : ∀ a : Rp, (W.tup (iW a.sent)).pd = some (.tuple (a.sent.map .int)) := fun a => by
    have p : W.pds (iW a.sent) = _ := pds_ints a.sent
    simp [W.pd, p]
  have p2 : ∀ a : Rp, (W.tup (bW a.gone)).pd = some (.tuple (a.gone.map .bool)) := fun a => by simp [W.pd, pds_bools]
  show ∃ r, ltsW (ltN 3) a.ws b.ws = some r ∧ (r = true ↔ Str.cl (tx a) < Str.cl (tx b))
  rw [tx_cl fa, tx_cl fb]
  exact lts_step rfl rfl (sh_int _) (sh_int _) (cmp_int fa.t0 fb.t0 2)
    (lts_step rfl rfl (sh_str fa.good.s1) (sh_str fb.good.s1) (cmp_word rfl (readers_diff _ fa.rd _ fb.rd))
    (lts_step rfl rfl (sh_bool _) (sh_bool _) (cmp_bool _ _ 2)
    (lts_step (p1 a) (p1 b) (sh_ints _) (sh_ints _) (cmp_sent fa fb)
    (lts_step rfl rfl (sh_bool _) (sh_bool _) (cmp_bool _ _ 2)
    (lts_step (p2 a) (p2 b) (sh_bools _) (sh_bools _) (cmp_gone a b)
    (lts_step rfl rfl (sh_str fa.good.s2) (sh_str fb.good.s2) (cmp_word rfl (states_diff _ fa.st _ fb.st))
    (lts_step rfl rfl (sh_bool _) (sh_bool _) (cmp_bool _ _ 2) lts_nil)))))))
theorem CmpL.inj {u v x y : List Nat} {o : Option Bool} {e : Bool} (c : CmpL u v o e) (h : u ++ x = v ++ y) : e = true ∧ x = y := by
  cases e with
  | true =>
    rw [c.eq rfl] at h
    exact ⟨rfl, List.append_cancel_left h⟩
  | false =>
    rcases c.ne rfl with ⟨_, p⟩ | ⟨_, p⟩
    · have := p x y
      rw [h] at this
      exact (List.lt_irrefl _ this).elim
    · have := p x y
      rw [h] at this
      exact (List.lt_irrefl _ this).elim
theorem tx_inj {a b : Rp} (fa : a.fine) (fb : b.fine) (h : tx a = tx b) : a = b := by
  have h0 : txL a = txL b := by rw [← tx_cl fa, ← tx_cl fb, h]
  unfold txL at h0
  obtain ⟨e1, h1⟩ := (cmp_int fa.t0 fb.t0 2).inj h0
  obtain ⟨e2, h2⟩ := (cmp_word (f := ltN 3) rfl (readers_diff _ fa.rd _ fb.rd)).inj h1
  obtain ⟨e3, h3⟩ := (cmp_bool a.told b.told 2).inj h2
  obtain ⟨e4, h4⟩ := (cmp_sent fa fb).inj h3
  obtain ⟨e5, h5⟩ := (cmp_bool a.ended b.ended 2).inj h4
  obtain ⟨e6, h6⟩ := (cmp_gone a b).inj h5
  obtain ⟨e7, h7⟩ := (cmp_word (f := ltN 3) rfl (states_diff _ fa.st _ fb.st)).inj h6
  obtain ⟨e8, _⟩ := (cmp_bool a.lost b.lost 2).inj h7
  have e : PyData.eqv a.d b.d = true := by
    simp only [Rp.d]
    rw [PyData.eqv]
    simp only [PyData.eqvAll, e1, e2, e3, e4, e5, e6, e7, e8, Bool.and_self]
  rw [eqv_row] at e
  exact of_decide_eq_true e
end Y
namespace Y
open PySem
/-! ### the least of some reports -/
theorem zip_trans : ∀ {l m n : List Int}, l.length = m.length → m.length = n.length → (∀ p ∈ l.zip m, p.1 ≤ p.2) → (∀ p ∈ m.zip n, p.1 ≤ p.2) → ∀ p ∈ l.zip n, p.1 ≤ p.2
  | [], _, _, _, _, _, _, p, hp => by simp at hp
  | x :: l, [], _, h, _, _, _, _, _ => by simp at h
  | x :: l, y :: m, [], _, h, _, _, _, _ => by simp at h
  | x :: l, y :: m, z :: n, h1, h2, a, b, p, hp => by
    have a1 := a (x, y) (by simp)
    have b1 := b (y, z) (by simp)
    rcases List.mem_cons.mp (by simpa using hp : p ∈ (x, z) :: l.zip n) with q | q
    · rw [q]; simp only at a1 b1 ⊢; omega
    · exact zip_trans (by simpa using h1) (by simpa using h2) (fun p hp => a p (by simp [hp])) (fun p hp => b p (by simp [hp])) p q
theorem zip_transB : ∀ {l m n : List Bool}, l.length = m.length → m.length = n.length → (∀ p ∈ l.zip m, (!p.1 || p.2) = true) → (∀ p ∈ m.zip n, (!p.1 || p.2) = true) → ∀ p ∈ l.zip n, (!p.1 || p.2) = true
  | [], _, _, _, _, _, _, p, hp => by simp at hp
  | x :: l, [], _, h, _, _, _, _, _ => by simp at h
  | x :: l, y :: m, [], _, h, _, _, _, _ => by simp at h
  | x :: l, y :: m, z :: n, h1, h2, a, b, p, hp => by
    have a1 := a (x, y) (by simp)
    have b1 := b (y, z) (by simp)
    rcases List.mem_cons.mp (by simpa using hp : p ∈ (x, z) :: l.zip n) with q | q
    · rw [q]; revert a1 b1; cases x <;> cases y <;> cases z <;> simp
    · exact zip_transB (by simpa using h1) (by simpa using h2) (fun p hp => a p (by simp [hp])) (fun p hp => b p (by simp [hp])) p q
theorem covers_trans {a b c : Rp} (h1 : coversB a b = true) (h2 : coversB b c = true) : coversB a c = true := by
  obtain ⟨f1, s1, g1⟩ := (covers_iff a b).mp h1
  obtain ⟨f2, s2, g2⟩ := (covers_iff b c).mp h2
  obtain ⟨_, l1, m1⟩ := (face_iff a b).mp f1
  obtain ⟨_, l2, m2⟩ := (face_iff b c).mp f2
  exact (covers_iff a c).mpr ⟨f1.trans f2, zip_trans l1 l2 s1 s2, zip_transB m1 m2 g1 g2⟩
/-- one that no other one covers -/
def Mn (as : List Rp) (a : Rp) : Prop := a ∈ as ∧ ∀ b ∈ as, coversB b a = true → b = a
def Cov (as : List Rp) : Prop := ∀ b ∈ as, ∃ c, Mn as c ∧ coversB c b = true
theorem mn_hit {as : List Rp} {r c : Rp} (hc : Mn as c) (h : coversB c r = true) (a : Rp) : Mn (as ++ [r]) a ↔ Mn as a := by
  constructor
  · rintro ⟨h1, h2⟩
    refine ⟨?_, fun b hb => h2 b (List.mem_append_left _ hb)⟩
    rcases List.mem_append.mp h1 with q | q
    · exact q
    · have e := List.mem_singleton.mp q
      subst e
      rw [← h2 c (List.mem_append_left _ hc.1) h]
      exact hc.1
  · rintro ⟨h1, h2⟩
    refine ⟨List.mem_append_left _ h1, fun b hb hba => ?_⟩
    rcases List.mem_append.mp hb with q | q
    · exact h2 b q hba
    · have e := List.mem_singleton.mp q
      subst e
      have e2 := h2 c hc.1 (covers_trans h hba)
      subst e2
      exact covers_anti hba h
theorem mn_new {as : List Rp} {r : Rp} (cov : Cov as) (hn : ∀ c, Mn as c → coversB c r = false) (a : Rp) : Mn (as ++ [r]) a ↔ a = r ∨ (Mn as a ∧ coversB r a = false) := by
  have no : ∀ b ∈ as, coversB b r = false := by
    intro b hb
    obtain ⟨c, hc, e⟩ := cov b hb
    cases q : coversB b r with
    | false => rfl
    | true => exact absurd (covers_trans e q) (by rw [hn c hc]; decide)
  constructor
  · rintro ⟨h1, h2⟩
    by_cases ar : a = r
    · exact .inl ar
    · refine .inr ⟨⟨?_, fun b hb => h2 b (List.mem_append_left _ hb)⟩, ?_⟩
      · rcases List.mem_append.mp h1 with q | q
        · exact q
        · exact absurd (List.mem_singleton.mp q) ar
      · cases q : coversB r a with
        | false => rfl
        | true => exact absurd (h2 r (by simp) q).symm ar
  · rintro (rfl | ⟨⟨h1, h2⟩, h3⟩)
    · refine ⟨by simp, fun b hb hba => ?_⟩
      rcases List.mem_append.mp hb with q | q
      · rw [no b q] at hba; cases hba
      · exact List.mem_singleton.mp q
    · refine ⟨List.mem_append_left _ h1, fun b hb hba => ?_⟩
      rcases List.mem_append.mp hb with q | q
      · exact h2 b q hba
      · rw [List.mem_singleton.mp q, h3] at hba; cases hba
theorem cov_step {as : List Rp} (h : Cov as) (r : Rp) : Cov (as ++ [r]) := by
  by_cases c : ∃ c, Mn as c ∧ coversB c r = true
  · obtain ⟨c, hc, e⟩ := c
    intro b hb
    rcases List.mem_append.mp hb with q | q
    · obtain ⟨d, hd, e2⟩ := h b q
      exact ⟨d, (mn_hit hc e d).mpr hd, e2⟩
    · rw [List.mem_singleton.mp q]
      exact ⟨c, (mn_hit hc e c).mpr hc, e⟩
  · have hn : ∀ d, Mn as d → coversB d r = false := by
      intro d hd
      cases q : coversB d r with
      | false => rfl
      | true => exact absurd ⟨d, hd, q⟩ c
    have mr : Mn (as ++ [r]) r := (mn_new h hn r).mpr (.inl rfl)
    intro b hb
    rcases List.mem_append.mp hb with q | q
    · obtain ⟨d, hd, e2⟩ := h b q
      cases z : coversB r d with
      | false => exact ⟨d, (mn_new h hn d).mpr (.inr ⟨hd, z⟩), e2⟩
      | true => exact ⟨r, mr, covers_trans z e2⟩
    · rw [List.mem_singleton.mp q]
      exact ⟨r, mr, covers_refl r⟩
theorem cov_go : ∀ (bs as : List Rp), Cov as → Cov (as ++ bs)
  | [], as, h => by simpa using h
  | b :: bs, as, h => by
    have := cov_go bs (as ++ [b]) (cov_step h b)
    simpa using this
theorem cov_all (as : List Rp) : Cov as := by
  have := cov_go as [] (fun b hb => absurd hb List.not_mem_nil)
  simpa using this
theorem mn_congr {as bs : List Rp} (h : ∀ a, a ∈ as ↔ a ∈ bs) (a : Rp) : Mn as a ↔ Mn bs a := by
  unfold Mn
  rw [h a]
  exact and_congr_right fun _ => ⟨fun k b hb => k b ((h b).mpr hb), fun k b hb => k b ((h b).mp hb)⟩
theorem mn_idem {rows out : List Rp} (h : ∀ a, a ∈ out ↔ Mn rows a) (a : Rp) : Mn out a ↔ Mn rows a := by
  constructor
  · exact fun k => (h a).mp k.1
  · exact fun k => ⟨(h a).mpr k, fun b hb => k.2 b ((h b).mp hb).1⟩
theorem nodup_le {α : Type} [DecidableEq α] : ∀ {l m : List α}, l.Nodup → (∀ a ∈ l, a ∈ m) → l.length ≤ m.length
  | [], m, _, _ => Nat.zero_le _
  | a :: l, m, h, hs => by
    have h' := List.nodup_cons.mp h
    have ha := hs a List.mem_cons_self
    have := nodup_le (l := l) (m := m.erase a) h'.2 fun b hb => by
      refine (List.mem_erase_of_ne ?_).mpr (hs b (List.mem_cons_of_mem _ hb))
      rintro rfl; exact h'.1 hb
    rw [List.length_erase_of_mem ha] at this
    have : 0 < m.length := List.length_pos_of_mem ha
    simp only [List.length_cons]; omega

/-! ### by faces -/
structure FI (pre : List Rp) (d : List (Face × List Rp)) : Prop where
  nd : (d.map (·.1)).Nodup
  mem : ∀ f l, (f, l) ∈ d → ∀ a, a ∈ l ↔ (Mn pre a ∧ a.face = f)
  all : ∀ a, Mn pre a → a.face ∈ d.map (·.1)
  len : d.length ≤ pre.length
  lens : ∀ f l, (f, l) ∈ d → l.length ≤ pre.length
theorem fi_nil : FI [] [] := ⟨by simp, by simp, fun a h => absurd h.1 List.not_mem_nil, Nat.le_refl _, by simp⟩
theorem fi_some {pre : List Rp} {d : List (Face × List Rp)} (h : FI pre d) (f : Face) (a : Rp) : a ∈ (aget f d).getD [] ↔ Mn pre a ∧ a.face = f := by
  cases q : aget f d with
  | some l => exact h.mem f l (aget_mem q) a
  | none =>
    constructor
    · intro z; exact absurd z List.not_mem_nil
    · rintro ⟨h1, rfl⟩
      have := h.all a h1
      obtain ⟨p, hp, e⟩ := List.mem_map.mp this
      rw [aget_of_mem (v := p.2) h.nd (by rw [← e]; exact hp)] at q
      cases q
theorem fi_len {pre : List Rp} {d : List (Face × List Rp)} (h : FI pre d) (f : Face) : ((aget f d).getD []).length ≤ pre.length := by
  cases q : aget f d with
  | some l => exact h.lens f l (aget_mem q)
  | none => exact Nat.zero_le _
theorem covers_face {a b : Rp} (h : coversB a b = true) : a.face = b.face := ((covers_iff a b).mp h).1
theorem fi_hit {pre : List Rp} {d : List (Face × List Rp)} (h : FI pre d) {r : Rp} (c : ((aget r.face d).getD []).any (fun a => coversB a r) = true) : FI (pre ++ [r]) d := by
  obtain ⟨x, hx, e⟩ := List.any_eq_true.mp c
  have mx := ((fi_some h r.face x).mp hx).1
  refine ⟨h.nd, fun f l hl a => ?_, fun a ha => h.all a ((mn_hit mx e a).mp ha), by have := h.len; simp; omega, fun f l hl => by have := h.lens f l hl; simp; omega⟩
  rw [h.mem f l hl a, mn_hit mx e a]
theorem fi_new {pre : List Rp} {d : List (Face × List Rp)} (h : FI pre d) {r : Rp} (c : ((aget r.face d).getD []).any (fun a => coversB a r) = false) :
    FI (pre ++ [r]) (aput r.face (((aget r.face d).getD []).filter (fun a => !coversB r a) ++ [r]) d) := by
  have hn : ∀ x, Mn pre x → coversB x r = false := by
    intro x hx
    cases q : coversB x r with
    | false => rfl
    | true =>
      have : ((aget r.face d).getD []).any (fun a => coversB a r) = true := List.any_eq_true.mpr ⟨x, (fi_some h r.face x).mpr ⟨hx, covers_face q⟩, q⟩
      rw [c] at this; cases this
  have mn := mn_new (cov_all pre) hn
  refine ⟨aput_nodup _ _ _ h.nd, fun f l hl a => ?_, fun a ha => ?_, by have := h.len; have := aput_len r.face (((aget r.face d).getD []).filter (fun a => !coversB r a) ++ [r]) d; simp only [List.length_append, List.length_cons, List.length_nil]; omega, fun f l hl => ?_⟩
  · rw [mn a]
    rcases (aput_mem _ _ h.nd (f, l)).mp hl with q | ⟨q, ne⟩
    · obtain ⟨rfl, rfl⟩ := Prod.mk.inj q
      rw [List.mem_append, List.mem_filter, fi_some h, List.mem_singleton]
      constructor
      · rintro (⟨⟨h1, h2⟩, h3⟩ | rfl)
        · exact ⟨.inr ⟨h1, by simpa using h3⟩, h2⟩
        · exact ⟨.inl rfl, rfl⟩
      · rintro ⟨rfl | ⟨h1, h2⟩, h3⟩
        · exact .inr rfl
        · exact .inl ⟨⟨h1, h3⟩, by simpa using h2⟩
    · rw [h.mem f l q a]
      constructor
      · rintro ⟨h1, h2⟩
        refine ⟨.inr ⟨h1, ?_⟩, h2⟩
        cases z : coversB r a with
        | false => rfl
        | true => exact absurd (by rw [← h2]; exact (covers_face z).symm) ne
      · rintro ⟨rfl | ⟨h1, _⟩, h3⟩
        · exact absurd h3.symm ne
        · exact ⟨h1, h3⟩
  · rw [aput_keys]
    rcases (mn a).mp ha with rfl | ⟨h1, _⟩
    · exact .inl rfl
    · exact .inr (h.all a h1)
  · rcases (aput_mem _ _ h.nd (f, l)).mp hl with q | ⟨q, ne⟩
    · obtain ⟨rfl, rfl⟩ := Prod.mk.inj q
      have := List.length_filter_le (fun a => !coversB r a) ((aget r.face d).getD [])
      have := fi_len h r.face
      simp only [List.length_append, List.length_cons, List.length_nil]; omega
    · have := h.lens f l q
      simp; omega
/-! ### by texts -/
structure TI (rows : List Rp) (seen : List Rp) (t : List (Str × Rp)) : Prop where
  nd : (t.map (·.1)).Nodup
  mem : ∀ p ∈ t, p.1 = tx p.2 ∧ p.2 ∈ seen
  all : ∀ a ∈ seen, (tx a, a) ∈ t
  sub : ∀ a ∈ seen, a ∈ rows
theorem ti_nil (rows : List Rp) : TI rows [] [] := ⟨by simp, by simp, by simp, by simp⟩
theorem ti_step {rows seen : List Rp} {t : List (Str × Rp)} (h : TI rows seen t) (fine : ∀ a ∈ rows, a.fine) {a : Rp} (ha : a ∈ rows) : TI rows (seen ++ [a]) (aput (tx a) a t) := by
  refine ⟨aput_nodup _ _ _ h.nd, fun p hp => ?_, fun b hb => ?_, fun b hb => ?_⟩
  · rcases (aput_mem _ _ h.nd p).mp hp with q | ⟨q, _⟩
    · rw [q]; exact ⟨rfl, by simp⟩
    · exact ⟨(h.mem p q).1, List.mem_append_left _ (h.mem p q).2⟩
  · rw [aput_mem _ _ h.nd]
    rcases List.mem_append.mp hb with q | q
    · by_cases e : tx b = tx a
      · exact .inl (by rw [tx_inj (fine b (h.sub b q)) (fine a ha) e])
      · exact .inr ⟨h.all b q, e⟩
    · exact .inl (by rw [List.mem_singleton.mp q])
  · rcases List.mem_append.mp hb with q | q
    · exact h.sub b q
    · rw [List.mem_singleton.mp q]; exact ha
theorem ti_len {rows seen : List Rp} {t : List (Str × Rp)} (h : TI rows seen t) : t.length ≤ rows.length := by
  have := nodup_le (l := t.map (·.1)) (m := rows.map tx) h.nd fun s hs => by
    obtain ⟨p, hp, rfl⟩ := List.mem_map.mp hs
    rw [(h.mem p hp).1]
    exact List.mem_map.mpr ⟨p.2, h.sub _ (h.mem p hp).2, rfl⟩
  simpa using this
def r0 : Rp := ⟨0, "left", true, [0, 0], false, [false], "done", true⟩
/-- what is told at last -/
def outOf (t : List (Str × Rp)) : List Rp := (sortS (t.map (·.1))).map fun s => (aget s t).getD r0
theorem out_at {rows seen : List Rp} {t : List (Str × Rp)} (h : TI rows seen t) {s : Str} (hs : s ∈ sortS (t.map (·.1))) : ∃ a, aget s t = some a ∧ tx a = s ∧ a ∈ seen := by
  obtain ⟨p, hp, rfl⟩ := List.mem_map.mp (sortS_mem.mp hs)
  exact ⟨p.2, aget_of_mem h.nd hp, ((h.mem p hp).1).symm, (h.mem p hp).2⟩
theorem out_tx {rows seen : List Rp} {t : List (Str × Rp)} (h : TI rows seen t) : (outOf t).map tx = sortS (t.map (·.1)) := by
  unfold outOf
  rw [List.map_map]
  conv => rhs; rw [← List.map_id (sortS (t.map (·.1)))]
  refine List.map_congr_left fun s hs => ?_
  obtain ⟨a, e, e2, _⟩ := out_at h hs
  simp [e, e2]
theorem out_mem {rows seen : List Rp} {t : List (Str × Rp)} (h : TI rows seen t) (a : Rp) : a ∈ outOf t ↔ a ∈ seen := by
  constructor
  · intro ha
    obtain ⟨s, hs, rfl⟩ := List.mem_map.mp ha
    obtain ⟨b, e, _, hb⟩ := out_at h hs
    simpa [e] using hb
  · intro ha
    have := h.all a ha
    refine List.mem_map.mpr ⟨tx a, sortS_mem.mpr (List.mem_map.mpr ⟨_, this, rfl⟩), ?_⟩
    rw [aget_of_mem h.nd this]; rfl
/-- texts ascend -/
def Asc (l : List Rp) : Prop := l.Pairwise fun a b => ltC (tx a) (tx b)
theorem out_asc {rows seen : List Rp} {t : List (Str × Rp)} (h : TI rows seen t) : Asc (outOf t) := by
  have := sortS_asc h.nd
  rw [← out_tx h, List.pairwise_map] at this
  exact this
theorem asc_eq {l m : List Rp} (h1 : Asc l) (h2 : Asc m) (h : ∀ a, a ∈ l ↔ a ∈ m) : l = m := asc_unique (fun _ _ p q => ltC_asymm p q) h1 h2 h
theorem asc_nodup {l : List Rp} (h : Asc l) : l.Nodup := h.imp fun p e => by rw [e] at p; exact ltC_irrefl _ p
end Y
namespace Y
open PySem
/-! ### a report's text, made -/
theorem l_signs : (prgOf tb con).fns.lookup ("signs_text" : Str) = some fsigns_text := by kernel_rfl
theorem sgn_len {is : List Int} (h : ∀ i ∈ is, 0 ≤ i ∧ i ≤ 3) : (sgn is).length = is.length + 1 := by
  rw [len_cl, sgn_cl h]; simp
theorem strs_len {is : List Int} (h : ∀ i ∈ is, 0 ≤ i ∧ i ≤ 3) : total (is.map fun i => dgI (i + 1)) ≤ is.length := by
  unfold total
  induction is with
  | nil => simp
  | cons i r ih =>
    have := ih fun j hj => h j (List.mem_cons_of_mem _ hj)
    have hi := h i List.mem_cons_self
    have := (dgI_ok (i := i + 1) (by omega) (by omega)).2.2
    simp only [List.map_cons, List.sum_cons, List.length_cons]
    omega
theorem signs_ok (k : Nat) (ws : List W) (f : W → Int) (hw : ∀ w ∈ ws, ∀ h, builtin .int [w] h = some (.int (f w)) ∧ 0 ≤ f w ∧ f w ≤ 3) (hl : ws.length ≤ 20) (h : Hb) : (Cx (k + 1)).call "signs_text" [.tup ws] [] h = .ok (.str (sgn (ws.map f))) h := by
  rw [call_eq l_signs, stepF_of (σ := [some (.tup ws), none]) rfl]
  have h03 : ∀ i ∈ ws.map f, 0 ≤ i ∧ i ≤ 3 := by
    intro i hi
    obtain ⟨w, hw', rfl⟩ := List.mem_map.mp hi
    exact (hw w hw' []).2
  have fm := forC_map (f := turnC (Cx k) (.bi .str (.cons (.bin .add (.bi .int (.cons (.slot 1) .nil)) (.int 1)) .nil)) (.nm 1) (.bl true) [1] [some (.tup ws), none]) (ok := fun _ => true) (g := fun w => .str (dgI (f w + 1))) (h := h) rfl ws [] (by
    intro w hw'
    obtain ⟨e1, e2, e3⟩ := hw w hw' h
    refine turnC_t (σ' := [some (.tup ws), some w]) rfl ?_
    have e4 : builtin .str [.int (f w + 1)] h = some (.str (dgI (f w + 1))) := by
      show (strOf _).map W.str = _
      rw [(dgI_ok (i := f w + 1) (by omega) (by omega)).1]; rfl
    simp [e1, e4]) (by simp; omega)
  simp only [List.nil_append] at fm
  have e0 : (List.map (fun w => W.str (dgI (f w + 1))) ws) = ((ws.map f).map fun i => dgI (i + 1)).map W.str := by
    rw [List.map_map, List.map_map]; rfl
  rw [e0] at fm
  have lt := strs_len h03
  rw [List.length_map] at lt
  have jo : method .join (.str "") [.lit (((ws.map f).map fun i => dgI (i + 1)).map W.str)] h = .ok (.str (Txt.join "" ((ws.map f).map fun i => dgI (i + 1)))) h := by
    show (match (items h (.lit (((ws.map f).map fun i => dgI (i + 1)).map W.str))).bind strsW with
      | some ss => if small (total ss + ss.length * (("" : String) : Str).length) then R.ok (W.str (Txt.join "" ss)) h else .no
      | none => .no) = _
    rw [items_l]
    simp only [Option.bind, strsW_strs]
    refine if_pos (decide_eq_true ?_)
    have z : (("" : String) : Str).length = 0 := by decide +kernel
    rw [z]; omega
  have rc : recv .join h (.str "") = true := rfl
  have sl := sgn_len h03
  have z2 : (("0" : String) : Str).length = 1 := by decide +kernel
  have l0 : (Txt.join "" ((ws.map f).map fun i => dgI (i + 1))).length + (("0" : String) : Str).length ≤ 16777216 := by
    have e : (Txt.join "" ((ws.map f).map fun i => dgI (i + 1)) ++ ("0" : String) : Str).length = ws.length + 1 := by
      have := sl
      rw [List.length_map] at this
      exact this
    rw [len_cl, cl_app, List.length_append, ← len_cl, ← len_cl] at e
    omega
  simp [fsigns_text, fm, jo, rc, -List.map_map]
  rw [add_ss l0]; rfl
theorem signs_int (k : Nat) (l : List Int) (h0 : ∀ i ∈ l, 0 ≤ i ∧ i ≤ 3) (hl : l.length ≤ 20) (h : Hb) : (Cx (k + 1)).call "signs_text" [.tup (iW l)] [] h = .ok (.str (sgn l)) h := by
  have := signs_ok k (iW l) (fun w => match w with | .int i => i | _ => 0) (fun w hw h => by
    obtain ⟨i, hi, rfl⟩ := List.mem_map.mp hw
    exact ⟨rfl, h0 i hi⟩) (by simpa using hl) h
  rw [this]
  congr 3
  unfold iW
  rw [List.map_map]
  exact List.map_id'' (fun _ => rfl) l
theorem signs_bool (k : Nat) (l : List Bool) (hl : l.length ≤ 20) (h : Hb) : (Cx (k + 1)).call "signs_text" [.tup (bW l)] [] h = .ok (.str (sgn (l.map b2))) h := by
  have := signs_ok k (bW l) (fun w => match w with | .bl b => b2 b | _ => 0) (fun w hw h => by
    obtain ⟨i, hi, rfl⟩ := List.mem_map.mp hw
    exact ⟨rfl, by cases i <;> decide⟩) (by simpa using hl) h
  rw [this]
  congr 3
  unfold bW
  rw [List.map_map]; rfl
theorem l_text : (prgOf tb con).fns.lookup ("text_of" : Str) = some ftext_of := by kernel_rfl
theorem words_len : (∀ s ∈ (["reading", "finished", "left"] : List Str), s.length ≤ 8) ∧ ∀ s ∈ (["done", "failed", "stuck"] : List Str), s.length ≤ 8 := by
  have h1 : (["reading", "finished", "left"] : List Str).all (fun s => decide (s.length ≤ 8)) = true := by decide +kernel
  have h2 : (["done", "failed", "stuck"] : List Str).all (fun s => decide (s.length ≤ 8)) = true := by decide +kernel
  exact ⟨fun s hs => of_decide_eq_true (List.all_eq_true.mp h1 s hs), fun s hs => of_decide_eq_true (List.all_eq_true.mp h2 s hs)⟩
def ahead (a : Rp) : Str := ([dgI a.took, a.reader, dgI (b2 a.told), sgn a.sent] : List Str).foldl (· ++ ·) Str.empty
theorem kFmt_str {s : Str} {h : Hb} (l : s.length ≤ 16777216) : kFmt (.ok (.str s) h) = .ok (.str s) h := kFmt_ok rfl l
theorem text_ok (k : Nat) {a : Rp} (f : a.fine) (h : Hb) : (Cx (k + 2)).call "text_of" [rtW a] [] h = .ok (.str (tx a)) h := by
  rw [call_eq l_text, stepF_of (σ := [some (rtW a), none, none, none, none, none, none, none, none, none]) rfl]
  obtain ⟨d1, d1', d1l⟩ := dgI_ok f.t0 (by have := f.t1; omega)
  have db : ∀ b : Bool, strOf (.int (if b = true then 1 else 0)) = some (dgI (b2 b)) ∧ (dgI (b2 b)).length ≤ 1 := by decide +kernel
  have lr := words_len.1 _ f.rd
  have ls := words_len.2 _ f.st
  have s1 := signs_int k a.sent f.s0 (by have := f.sl; omega)
  have s2 := signs_bool k a.gone (by have := f.gl; omega)
  have n1 : (sgn a.sent).length ≤ 4 := by rw [sgn_len f.s0]; have := f.sl; omega
  have n2 : (sgn (a.gone.map b2)).length ≤ 2 := by
    rw [sgn_len, List.length_map]
    · have := f.gl; omega
    · intro i hi
      obtain ⟨b, _, rfl⟩ := List.mem_map.mp hi
      cases b <;> decide
  have la : (ahead a).length ≤ 20 := by
    have hb := (db a.told).2
    unfold ahead
    rw [len_cl] at *
    simp only [List.foldl_cons, List.foldl_nil, cl_app, cl_empty, List.length_append, List.length_nil]
    omega
  have f1 : ∀ h, kFmt (.ok (.int a.took) h) = .ok (.str (dgI a.took)) h := fun h => kFmt_ok d1 (by omega)
  have f2 : ∀ (b : Bool) h, kFmt (.ok (.int (if b = true then 1 else 0)) h) = .ok (.str (dgI (b2 b))) h := fun b h => kFmt_ok (db b).1 (by have := (db b).2; omega)
  have t1 : total [dgI a.took, a.reader, dgI (b2 a.told), sgn a.sent] ≤ 16777216 := by
    have := (db a.told).2
    simp only [total, List.map_cons, List.map_nil, List.sum_cons, List.sum_nil]; omega
  have t2 : total [ahead a, dgI (b2 a.ended), sgn (a.gone.map b2), a.state, dgI (b2 a.lost)] ≤ 16777216 := by
    have := (db a.ended).2
    have := (db a.lost).2
    simp only [total, List.map_cons, List.map_nil, List.sum_cons, List.sum_nil]; omega
  have q1 : ∀ h, kFstr (.ok (.tup [.str (dgI a.took), .str a.reader, .str (dgI (b2 a.told)), .str (sgn a.sent)]) h) = .ok (.str (ahead a)) h := by
    intro h
    show (if small (total [dgI a.took, a.reader, dgI (b2 a.told), sgn a.sent]) then R.ok (W.str (ahead a)) h else .no) = _
    exact if_pos (decide_eq_true t1)
  have q2 : ∀ h, kFstr (.ok (.tup [.str (ahead a), .str (dgI (b2 a.ended)), .str (sgn (a.gone.map b2)), .str a.state, .str (dgI (b2 a.lost))]) h) = .ok (.str (tx a)) h := by
    intro h
    show (if small (total [ahead a, dgI (b2 a.ended), sgn (a.gone.map b2), a.state, dgI (b2 a.lost)]) then R.ok (W.str (tx a)) h else .no) = _
    exact if_pos (decide_eq_true t2)
  have k1 : ∀ h, kFmt (.ok (.str a.reader) h) = .ok (.str a.reader) h := fun h => kFmt_str (by omega)
  have k2 : ∀ h, kFmt (.ok (.str a.state) h) = .ok (.str a.state) h := fun h => kFmt_str (by omega)
  have k3 : ∀ h, kFmt (.ok (.str (sgn a.sent)) h) = .ok (.str (sgn a.sent)) h := fun h => kFmt_str (by omega)
  have k4 : ∀ h, kFmt (.ok (.str (sgn (a.gone.map b2))) h) = .ok (.str (sgn (a.gone.map b2))) h := fun h => kFmt_str (by omega)
  have k5 : ∀ h, kFmt (.ok (.str (ahead a)) h) = .ok (.str (ahead a)) h := fun h => kFmt_str (by omega)
  simp [ftext_of, rtW, Rp.ws, setT, setTs, f1, f2, s1, s2, q1, q2, k1, k2, k3, k4, k5, -kFstr_ok]
/-! ### faces as keys -/
theorem ite01 (b c : Bool) : ((if b = true then (1 : Int) else 0) = if c = true then 1 else 0) ↔ b = c := by cases b <;> cases c <;> decide
theorem key_faces : KeyW Face.w (fun _ : Face => True) := ⟨fun a b _ _ => by
    rw [Bool.eq_iff_iff]
    cases a; cases b
    simp [keyEq, Face.w, W.nk, W.nks, NestedKey.beq, NestedKey.beqAll, ite01, Int.ofNat_inj], .inr fun a _ => by
    simp [W.isTupK, Face.w, W.nk, W.nks, NestedKey.depth, NestedKey.depthAll]⟩
end Y
namespace Y
open PySem
def fv (l : List Rp) : W := .lit (l.map rtW)
theorem covT (k : Nat) {a b : Rp} (ga : a.good) (gb : b.good) (h : Hb) : (Cx (k + 2)).call "covers" [rtW a, rtW b] [] h = .ok (.bl (coversB a b)) h := covers_ok k a b ga gb h
theorem faceT (k : Nat) (a : Rp) (h : Hb) : (Cx (k + 1)).call "face_of" [rtW a] [] h = .ok a.face.w h := face_ok k a h
theorem l_least : (prgOf tb con).fns.lookup ("least" : Str) = some fleast := by kernel_rfl
/-- the loop's body -/
def lbody : S :=
    .seq (.asg (.nm 3) (.call "face_of" (.cons (.slot 2) .nil) [] .nil))
    (.seq (.asg (.nm 4) (.mt .get (.slot 1) (.cons (.slot 3) (.cons (.lst .nil) .nil))))
    (.seq (.ite (.tnot (.tru (.bi .any (.cons (.cm (.call "covers" (.cons (.slot 6) (.cons (.slot 2) .nil)) [] .nil) (.nm 6) (.slot 4) (.bl true) [6]) .nil))))
    (.seq (.six (.slot 1) (.slot 3) (.bin .add (.cm (.slot 6) (.nm 6) (.slot 4) (.tnot (.tru (.call "covers" (.cons (.slot 2) (.cons (.slot 6) .nil)) [] .nil))) [6]) (.lst (.cons (.slot 2) .nil))))
    .skip)
    .skip)
    .skip))
theorem hat {h : Hb} {x : O} : (h ++ [x])[h.length]? = some x := by simp
theorem hset {h : Hb} {x y : O} : (h ++ [x]).set h.length y = h ++ [y] := by simp
theorem any_bls {h : Hb} (bs : List Bool) : builtin .any [.lit (bs.map .bl)] h = some (.bl (bs.any id)) := by simp [builtin, itemsL]
theorem lbody_ok (k : Nat) (h : Hb) {pre : List Rp} {d : List (Face × List Rp)} (fi : FI pre d) (hf : ∀ a ∈ pre, a.fine) {r : Rp} (fr : r.fine) (hl : pre.length ≤ 60) (w : W) (x2 x3 x4 : Option W) :
    (turnF (Cx (k + 2)) (.nm 2) lbody (rtW r) [some w, some (.ref h.length), x2, x3, x4, none, none, none] (h ++ [.dct (dK Face.w d) (dV fv d)])).Ok fun fl h' => ∃ d' y2 y3 y4, fl = .nx [some w, some (.ref h.length), y2, y3, y4, none, none, none] ∧ h' = h ++ [.dct (dK Face.w d') (dV fv d')] ∧ FI (pre ++ [r]) d' := by
  obtain ⟨H, hH⟩ : ∃ H, H = h ++ [.dct (dK Face.w d) (dV fv d)] := ⟨_, rfl⟩
  have ats : H[h.length]? = some (.dct (dK Face.w d) (dV fv d)) := by rw [hH]; exact hat
  obtain ⟨l, hl0⟩ : ∃ l, l = (aget r.face d).getD [] := ⟨_, rfl⟩
  have ge : method .get (.ref h.length) [r.face.w, .lit []] H = .ok (.lit (l.map rtW)) H := by
    rw [get_ref ats (dGet_map key_faces fv trivial (fun _ _ => trivial)), hl0]
    cases aget r.face d <;> rfl
  have rc : recv .get H (.ref h.length) = true := recv_ref ats
  have hm : ∀ a ∈ l, Mn pre a ∧ a.face = r.face := fun a ha => (fi_some fi r.face a).mp (by rw [← hl0]; exact ha)
  have fm : ∀ a ∈ l, a.fine := fun a ha => hf a (hm a ha).1.1
  have ll : l.length ≤ 60 := by have := fi_len fi r.face; rw [hl0]; omega
  have c1 : ∀ σ : Sb, σ[2]? = some (some (rtW r)) → σ.length = 8 → forC (turnC (Cx (k + 2)) (.call "covers" (.cons (.slot 6) (.cons (.slot 2) .nil)) [] .nil) (.nm 6) (.bl true) [6] σ) (fun _ => true) (l.map rtW) [] H = .ok ((l.map fun a => coversB a r).map .bl) H := by
    intro σ s2 sl
    rw [forC_listT (g := fun a => .bl (coversB a r)) rfl l (fun a ha => ?_) (by omega), List.map_map]
    · rfl
    · have e6 : setT (.nm 6) (rtW a) (wipe σ [6]) = some ((wipe σ [6]).set 6 (some (rtW a))) := by simp [setT, wipe, sl]
      refine turnC_t e6 ?_
      have g2 : ((wipe σ [6]).set 6 (some (rtW a)))[2]? = some (some (rtW r)) := by simp [wipe, s2]
      have g6 : ((wipe σ [6]).set 6 (some (rtW a)))[6]? = some (some (rtW a)) := by simp [wipe, sl]
      simp [g2, g6, covT k (fm a ha).good fr.good]
  have c2 : ∀ σ : Sb, σ[2]? = some (some (rtW r)) → σ.length = 8 → forC (turnC (Cx (k + 2)) (.slot 6) (.nm 6) (.tnot (.tru (.call "covers" (.cons (.slot 2) (.cons (.slot 6) .nil)) [] .nil))) [6] σ) (fun _ => true) (l.map rtW) [] H = .ok ((l.filter fun a => !coversB r a).map rtW) H := by
    intro σ s2 sl
    refine forC_listB (p := fun a => !coversB r a) rfl l (fun a ha => ?_) (by omega)
    have e6 : setT (.nm 6) (rtW a) (wipe σ [6]) = some ((wipe σ [6]).set 6 (some (rtW a))) := by simp [setT, wipe, sl]
    have g2 : ((wipe σ [6]).set 6 (some (rtW a)))[2]? = some (some (rtW r)) := by simp [wipe, s2]
    have g6 : ((wipe σ [6]).set 6 (some (rtW a)))[6]? = some (some (rtW a)) := by simp [wipe, sl]
    exact turnC_b e6 (by simp [g2, g6, covT k fr.good (fm a ha).good]) (fun _ => by simp [g6]) (fun _ => rfl)
  have an : builtin .any [.lit ((l.map fun a => coversB a r).map .bl)] H = some (.bl (l.any fun a => coversB a r)) := by
    rw [any_bls, List.any_map]; rfl
  have ad : binop .add (.lit ((l.filter fun a => !coversB r a).map rtW)) (.lit [rtW r]) H = .ok (fv ((l.filter fun a => !coversB r a) ++ [r])) H := by
    have := List.length_filter_le (fun a => !coversB r a) l
    rw [add_ll (by simp only [List.length_map, List.length_cons, List.length_nil]; omega)]
    unfold fv
    rw [List.map_append]; rfl
  have six : setIxD H (.ref h.length) r.face.w (fv ((l.filter fun a => !coversB r a) ++ [r])) = .ok () (h ++ [.dct (dK Face.w (aput r.face ((l.filter fun a => !coversB r a) ++ [r]) d)) (dV fv (aput r.face ((l.filter fun a => !coversB r a) ++ [r]) d))]) := by
    rw [setIxD_dct ats (dPut_map key_faces fv trivial _ (fun _ _ => trivial) (by have := fi.len; omega)), hH, hset]
  rw [← hH]
  cases q : l.any fun a => coversB a r with
  | true =>
    rw [q] at an
    have fi' := fi_hit fi (r := r) (by rw [← hl0]; exact q)
    have c1' := c1 [some w, some (.ref h.length), some (rtW r), some r.face.w, some (.lit (l.map rtW)), none, none, none] rfl rfl
    refine ⟨.nx [some w, some (.ref h.length), some (rtW r), some r.face.w, some (.lit (l.map rtW)), none, none, none], H, ?_, d, _, _, _, rfl, hH, fi'⟩
    simp [turnF, setT, lbody, faceT, rc, ge, c1', an, -List.map_map]
  | false =>
    rw [q] at an
    have fi' := fi_new fi (r := r) (by rw [← hl0]; exact q)
    rw [← hl0] at fi'
    have c1' := c1 [some w, some (.ref h.length), some (rtW r), some r.face.w, some (.lit (l.map rtW)), none, none, none] rfl rfl
    have c2' := c2 [some w, some (.ref h.length), some (rtW r), some r.face.w, some (.lit (l.map rtW)), none, none, none] rfl rfl
    refine ⟨.nx [some w, some (.ref h.length), some (rtW r), some r.face.w, some (.lit (l.map rtW)), none, none, none], _, ?_, _, _, _, _, rfl, rfl, fi'⟩
    simp [turnF, setT, lbody, faceT, rc, ge, c1', c2', an, ad, six, -List.map_map]
/-- by faces, then by texts -/
theorem texts_ok (k : Nat) (h : Hb) {rows : List Rp} {d : List (Face × List Rp)} (fi : FI rows d) (hf : ∀ a ∈ rows, a.fine) (hl : rows.length ≤ 60) (w : W) (x2 x3 x4 : Option W) :
    ∃ t : List (Str × Rp), TI rows (d.flatMap (·.2)) t ∧ evalE (Cx (k + 2)) (.cmd2 (.call "text_of" (.cons (.slot 2) .nil) [] .nil) (.slot 2) (.nm 3) (.slot 1) (.bl true) (.nm 2) (.ix (.slot 1) (.slot 3)) (.bl true) [3, 2] [2]) [some w, some (.dic (dK Face.w d) (dV fv d)), x2, x3, x4, none, none, none] h = .ok (.dic (dK W.str t) (dV rtW t)) h := by
  have e0 : dK Face.w d = d.map fun p => Face.w p.1 := by unfold dK; rw [List.map_map]; rfl
  obtain ⟨D, hD⟩ : ∃ D, D = W.dic (dK Face.w d) (dV fv d) := ⟨_, rfl⟩
  have main := forA_list (α := Face × List Rp) (f := turnD2 (Cx (k + 2)) (.call "text_of" (.cons (.slot 2) .nil) [] .nil) (.slot 2) (.nm 3) (.bl true) (.nm 2) (.ix (.slot 1) (.slot 3)) (.bl true) [3, 2] [2] [some w, some D, x2, x3, x4, none, none, none])
    (ok := fun h' => stays h h' D) (w := fun p => Face.w p.1) (h := h) (fun seen b => ∃ t, b = (dK W.str t, dV rtW t) ∧ TI rows (seen.flatMap (·.2)) t) (by rw [hD]; rfl) d [] ([], []) ⟨[], rfl, ti_nil rows⟩ (by
      rintro seen ⟨f, l⟩ b hp ⟨t, rfl, ti⟩
      have lm : ∀ a ∈ l, a ∈ rows := fun a ha => ((fi.mem f l hp a).mp ha).1.1
      have e1 : evalE (Cx (k + 2)) (.ix (.slot 1) (.slot 3)) [some w, some D, none, some (Face.w f), x4, none, none, none] h = .ok (fv l) h := by
        have : getIxD h D (Face.w f) = some (fv l) := by
          rw [hD]
          refine getIxD_dic ?_
          rw [dGet_map key_faces fv trivial (fun _ _ => trivial), aget_of_mem fi.nd hp]; rfl
        simp [this]
      have inner := forA_list (α := Rp) (f := turnD (Cx (k + 2)) (.call "text_of" (.cons (.slot 2) .nil) [] .nil) (.slot 2) (.nm 2) (.bl true) [2] [some w, some D, none, some (Face.w f), x4, none, none, none]) (ok := fun h' => stays h h' (fv l)) (w := rtW) (h := h)
        (fun s b => ∃ t, b = (dK W.str t, dV rtW t) ∧ TI rows (seen.flatMap (·.2) ++ s) t) rfl l [] (dK W.str t, dV rtW t) ⟨t, rfl, by simpa using ti⟩ (by
          rintro s a b ha ⟨t, rfl, ti⟩
          have fa := hf a (lm a ha)
          refine ⟨_, turnD_t (σ' := [some w, some D, some (rtW a), some (Face.w f), x4, none, none, none]) (k := .str (tx a)) (v := rtW a) rfl (by simp [text_ok k fa]) (by simp) (dPut_map key_texts rtW trivial a (fun _ _ => trivial) (by have := ti_len ti; omega)), _, rfl, ?_⟩
          rw [← List.append_assoc]
          exact ti_step ti hf (lm a ha))
      obtain ⟨b', e2, t', rfl, ti'⟩ := inner
      refine ⟨_, ?_, t', rfl, by simpa using ti'⟩
      rw [turnD2_t (σ' := [some w, some D, none, some (Face.w f), x4, none, none, none]) (ws1 := l.map rtW) rfl e1 rfl]
      exact e2)
  obtain ⟨b', e, t, rfl, ti⟩ := main
  refine ⟨t, by simpa using ti, ?_⟩
  rw [eCmd2, ← hD]
  have s1 : evalE (Cx (k + 2)) (.slot 1) [some w, some D, x2, x3, x4, none, none, none] h = .ok D h := by simp
  rw [s1, kCmd2_ok (ws := d.map fun p => Face.w p.1) (by rw [hD, itemsI_d, e0]), e]
  rfl
theorem fleast_ok (k : Nat) {rows : List Rp} (hf : ∀ a ∈ rows, a.fine) (hl : rows.length ≤ 60) (w : W) (h : Hb) (hw : ∀ g, itemsI (h ++ g) w = some (rows.map rtW)) (hs : ∀ g g', stays (h ++ g) (h ++ g') w = true) :
    ∃ out : List Rp, kFin (evalS (Cx (k + 2)) fleast.body [some w, none, none, none, none, none, none, none] h) = .ok (.ref (h.length + 1)) (h ++ [.dead, .lst (out.map rtW)]) ∧ Asc out ∧ ∀ a, a ∈ out ↔ Mn rows a := by
  have eb : fleast.body = .seq (.asg (.nm 1) (.newd .dct0)) (.seq (.for (.nm 2) (.slot 0) lbody) (.seq (.fz 1)
    (.seq (.asg (.nm 5) (.cmd2 (.call "text_of" (.cons (.slot 2) .nil) [] .nil) (.slot 2) (.nm 3) (.slot 1) (.bl true) (.nm 2) (.ix (.slot 1) (.slot 3)) (.bl true) [3, 2] [2]))
    (.seq (.ret (.new (.cm (.ix (.slot 5) (.slot 7)) (.nm 7) (.bi .sorted (.cons (.cm (.bi .str (.cons (.slot 7) .nil)) (.nm 7) (.slot 5) (.bl true) [7]) .nil)) (.bl true) [7])))
    .skip)))) := rfl
  have lp : (forL (turnF (Cx (k + 2)) (.nm 2) lbody) (fun h' => stays (h ++ [.dct [] []]) h' w) (rows.map rtW) [some w, some (.ref h.length), none, none, none, none, none, none] (h ++ [.dct [] []])).Ok fun fl h' =>
      ∃ d y2 y3 y4, fl = .nx [some w, some (.ref h.length), y2, y3, y4, none, none, none] ∧ h' = h ++ [.dct (dK Face.w d) (dV fv d)] ∧ FI rows d := by
    refine ok_for (fun j σ h' => ∃ d y2 y3 y4, σ = [some w, some (.ref h.length), y2, y3, y4, none, none, none] ∧ h' = h ++ [.dct (dK Face.w d) (dV fv d)] ∧ FI (rows.take j) d) ?_ _ 0 _ _ ⟨[], none, none, none, rfl, rfl, fi_nil⟩ ?_ ?_
    · rintro i σ h' ⟨d, y2, y3, y4, rfl, rfl, _⟩
      exact hs _ _
    · rintro j u hu σ h' ⟨d, y2, y3, y4, rfl, rfl, fi⟩
      rw [Nat.zero_add] at fi ⊢
      obtain ⟨r, hr, rfl⟩ : ∃ r, rows[j]? = some r ∧ u = rtW r := by
        rw [List.getElem?_map] at hu
        cases q : rows[j]? with
        | none => rw [q] at hu; cases hu
        | some r => rw [q] at hu; exact ⟨r, rfl, (Option.some.inj hu).symm⟩
      have tk : rows.take (j + 1) = rows.take j ++ [r] := by
        rw [List.take_succ, hr]; rfl
      obtain ⟨_, _, e, d', z2, z3, z4, rfl, rfl, fi'⟩ := lbody_ok k h fi (fun a ha => hf a (List.mem_of_mem_take ha)) (hf r (List.mem_of_getElem? hr)) (by rw [List.length_take]; omega) w y2 y3 y4
      exact ⟨_, _, e, d', z2, z3, z4, rfl, rfl, by rw [tk]; exact fi'⟩
    · rintro σ h' ⟨d, y2, y3, y4, rfl, rfl, fi⟩
      refine ⟨d, y2, y3, y4, rfl, rfl, ?_⟩
      rw [List.length_map, Nat.zero_add, List.take_length] at fi
      exact fi
  obtain ⟨_, _, e1, d, y2, y3, y4, rfl, rfl, fi⟩ := lp
  obtain ⟨t, ti, e2⟩ := texts_ok k (h ++ [.dead]) fi hf hl w y2 y3 y4
  have tl := ti_len ti
  refine ⟨outOf t, ?_, out_asc ti, fun a => ?_⟩
  · have fz : kFz 1 [some w, some (.ref h.length), y2, y3, y4, none, none, none] (h ++ [.dct (dK Face.w d) (dV fv d)]) (some (some (.ref h.length))) = .ok (.nx [some w, some (.dic (dK Face.w d) (dV fv d)), y2, y3, y4, none, none, none]) (h ++ [.dead]) := by
      rw [kFz_dct hat, hset]; rfl
    obtain ⟨D1, hD1⟩ : ∃ D, D = W.dic (dK Face.w d) (dV fv d) := ⟨_, rfl⟩
    obtain ⟨D, hD⟩ : ∃ D, D = W.dic (dK W.str t) (dV rtW t) := ⟨_, rfl⟩
    have c1 : forC (turnC (Cx (k + 2)) (.bi .str (.cons (.slot 7) .nil)) (.nm 7) (.bl true) [7] [some w, some D1, y2, y3, y4, some D, none, none]) (fun h' => stays (h ++ [.dead]) h' D) ((t.map (·.1)).map W.str) [] (h ++ [.dead]) = .ok ((t.map (·.1)).map W.str) (h ++ [.dead]) := by
      refine forC_listT (by rw [hD]; rfl) _ (fun s hs => ?_) (by rw [List.length_map]; omega)
      refine turnC_t (σ' := [some w, some D1, y2, y3, y4, some D, none, some (.str s)]) rfl ?_
      have : ∀ h, builtin .str [.str s] h = some (.str s) := fun _ => rfl
      simp [this]
    have so := sorted_strs (h := h ++ [.dead]) (ss := t.map (·.1)) (by rw [List.length_map]; omega)
    have c2 : forC (turnC (Cx (k + 2)) (.ix (.slot 5) (.slot 7)) (.nm 7) (.bl true) [7] [some w, some D1, y2, y3, y4, some D, none, none]) (fun _ => true) ((sortS (t.map (·.1))).map W.str) [] (h ++ [.dead]) = .ok ((outOf t).map rtW) (h ++ [.dead]) := by
      unfold outOf
      rw [List.map_map]
      refine forC_listT rfl _ (fun s hs => ?_) (by rw [sortS_len, List.length_map]; omega)
      refine turnC_t (σ' := [some w, some D1, y2, y3, y4, some D, none, some (.str s)]) rfl ?_
      obtain ⟨a, ea, _, _⟩ := out_at ti hs
      have : getIxD (h ++ [.dead]) D (.str s) = some (rtW a) := by
        rw [hD]
        refine getIxD_dic ?_
        rw [dGet_map key_texts rtW trivial (fun _ _ => trivial), ea]; rfl
      simp [this, ea]
    have i1 : itemsI (h ++ [.dct [] []]) w = some (rows.map rtW) := hw _
    have iD : itemsI (h ++ [.dead]) D = some ((t.map (·.1)).map W.str) := by rw [hD]; rfl
    rw [← hD1] at e2 fz
    rw [← hD] at e2
    rw [eb]
    generalize lbody = B at e1 ⊢
    simp only [sSeq, sAsg, sFor, sFz, sRet, eNewd, eDct0, kNewd_ok, kAsg_ok, setT, List.length_cons, List.length_nil, Nat.reduceAdd, Nat.reduceLT, if_true, List.set_cons_succ, List.set_cons_zero, kNx_some, thenS_nx, eSlot, List.getElem?_cons_zero, List.getElem?_cons_succ, kSlot_some, kFor_ok, i1, kForB_some, e1, fz, e2, eNew, eCm, eBi, eCons, eNil, kCons_ok, kCons2_ok, kBi_ok, kCm_ok, iD, kCmB_some, c1, kLit_ok, so, ofO_some, itemsI_l, stays_l, c2, asNew_ok, kRet_ok, thenS_rt, kFin_rt]
    simp
  · rw [out_mem ti, List.mem_flatMap]
    constructor
    · rintro ⟨p, hp, ha⟩
      exact ((fi.mem p.1 p.2 hp a).mp ha).1
    · intro ha
      obtain ⟨p, hp, e⟩ := List.mem_map.mp (fi.all a ha)
      exact ⟨p, hp, (fi.mem p.1 p.2 hp a).mpr ⟨ha, e.symm⟩⟩
theorem least_ok (k : Nat) {rows : List Rp} (hf : ∀ a ∈ rows, a.fine) (hl : rows.length ≤ 60) (w : W) (h : Hb) (hw : ∀ g, itemsI (h ++ g) w = some (rows.map rtW)) (hs : ∀ g g', stays (h ++ g) (h ++ g') w = true) :
    ∃ out : List Rp, (Cx (k + 3)).call "least" [w] [] h = .ok (.ref (h.length + 1)) (h ++ [.dead, .lst (out.map rtW)]) ∧ Asc out ∧ ∀ a, a ∈ out ↔ Mn rows a := by
  rw [call_eq l_least, stepF_of (σ := [some w, none, none, none, none, none, none, none]) rfl]
  exact fleast_ok k hf hl w h hw hs
theorem least_kw (k : Nat) {rows : List Rp} (hf : ∀ a ∈ rows, a.fine) (hl : rows.length ≤ 60) (w : W) (h : Hb) (hw : ∀ g, itemsI (h ++ g) w = some (rows.map rtW)) (hs : ∀ g g', stays (h ++ g) (h ++ g') w = true) :
    ∃ out : List Rp, (Cx (k + 3)).call "least" [] [("reports", w)] h = .ok (.ref (h.length + 1)) (h ++ [.dead, .lst (out.map rtW)]) ∧ Asc out ∧ ∀ a, a ∈ out ↔ Mn rows a := by
  rw [call_eq l_least, stepF_of (σ := [some w, none, none, none, none, none, none, none]) rfl]
  exact fleast_ok k hf hl w h hw hs
end Y
namespace Y
open PySem
theorem dueT (k : Nat) {a b : Rp} (ga : a.good) (gb : b.good) (h : Hb) : (Cx (k + 1)).call "_law_covers" [rtW a, rtW b] [] h = .ok (.bl (coversB a b)) h := due_ok k a b ga gb h
theorem cut_take {xs : List W} {j : Nat} (hj : j ≤ xs.length) : cutW xs none (some (j : Int)) = xs.take j := by
  unfold cutW
  rw [HT.sIx_nat, HT.sIx_none, List.drop_zero, Nat.sub_zero, Nat.min_eq_left hj]
theorem cut_drop (xs : List W) : cutW xs (some 1) none = xs.drop 1 := by
  unfold cutW
  have := HT.sIx_nat xs.length 0 1
  rw [show ((1 : Nat) : Int) = 1 from rfl] at this
  rw [this, HT.sIx_none]
  cases xs with
  | nil => rfl
  | cons x xs =>
    have e : min 1 (x :: xs).length = 1 := by simp
    rw [e]
    simp
/-! ### the law's least -/
theorem l_lleast : (prgOf tb con).fns.lookup ("_law_least" : Str) = some g_least := by kernel_rfl
def nocov (s : List Rp) (a : Rp) : Bool := (s.filter fun b => !decide (b = a) && coversB b a).isEmpty
theorem nocov_iff (s : List Rp) (a : Rp) : nocov s a = true ↔ ∀ b ∈ s, coversB b a = true → b = a := by
  unfold nocov
  rw [List.isEmpty_iff, List.filter_eq_nil_iff]
  refine forall_congr' fun b => forall_congr' fun _ => ?_
  by_cases e : b = a
  · simp [e]
  · simp [e]
theorem ones (s : List Rp) : s.map (fun _ => W.int 1) = (s.map fun _ => (1 : Int)).map W.int := by rw [List.map_map]; rfl
theorem ones_nil (h : Hb) (s : List Rp) : eqD h (.lit (s.map fun _ => W.int 1)) (.lit []) = some s.isEmpty := by
  rw [ones, ne_nil_ints]
  cases s <;> rfl
def llbody : S := .seq (.ite (.cmp .eq (.cm (.int 1) (.nm 5) (.slot 1) (.tand (.cmp .ne (.slot 5) (.slot 3)) (.tru (.call "_law_covers" (.cons (.slot 5) (.cons (.slot 3) .nil)) [] .nil))) [5]) (.lst .nil))
    (.seq (.expr (.mt .append (.slot 2) (.cons (.slot 3) .nil)))
    .skip)
    .skip)
    .skip
theorem app_ref {h : Hb} {xs : List W} {v : W} (c : xs.length < 16777216) : method .append (.ref h.length) [v] (h ++ [.lst xs]) = .ok .non (h ++ [.lst (xs ++ [v])]) := by
  simp only [method, hat]
  rw [if_pos (decide_eq_true c), hset]
theorem rc_ref {h : Hb} {xs : List W} : recv .append (h ++ [.lst xs]) (.ref h.length) = true := by simp only [recv, hat]
theorem llbody_ok (k : Nat) (h : Hb) {s f : List Rp} (hs : ∀ a ∈ s, a.fine) (sl : s.length ≤ 60) (fl : f.length ≤ 60) {a : Rp} (fa : a.fine) (w : W) (x3 x4 : Option W) :
    turnF (Cx (k + 1)) (.nm 3) llbody (rtW a) [some w, some (.lit (s.map rtW)), some (.ref h.length), x3, x4, none] (h ++ [.lst (f.map rtW)]) = .ok (.nx [some w, some (.lit (s.map rtW)), some (.ref h.length), some (rtW a), x4, none]) (h ++ [.lst ((if nocov s a = true then f ++ [a] else f).map rtW)]) := by
  obtain ⟨H, hH⟩ : ∃ H, H = h ++ [.lst (f.map rtW)] := ⟨_, rfl⟩
  have c1 : forC (turnC (Cx (k + 1)) (.int 1) (.nm 5) (.tand (.cmp .ne (.slot 5) (.slot 3)) (.tru (.call "_law_covers" (.cons (.slot 5) (.cons (.slot 3) .nil)) [] .nil))) [5] [some w, some (.lit (s.map rtW)), some (.ref h.length), some (rtW a), x4, none]) (fun _ => true) (s.map rtW) [] H = .ok ((s.filter fun b => !decide (b = a) && coversB b a).map fun _ => .int 1) H := by
    refine forC_listB (p := fun b => !decide (b = a) && coversB b a) rfl s (fun b hb => ?_) (by omega)
    have eb := eq_row (hs b hb).good fa.good H
    refine turnC_b (σ' := [some w, some (.lit (s.map rtW)), some (.ref h.length), some (rtW a), x4, some (rtW b)]) rfl ?_ (fun _ => by simp) (fun _ => rfl)
    by_cases e : b = a
    · subst e; simp [eb]
    · simp [eb, e, dueT k (hs b hb).good fa.good]
  have en := ones_nil H (s.filter fun b => !decide (b = a) && coversB b a)
  have ap : method .append (.ref h.length) [rtW a] H = .ok .non (h ++ [.lst ((f ++ [a]).map rtW)]) := by
    rw [hH, app_ref (by rw [List.length_map]; omega), List.map_append]; rfl
  have rc : recv .append H (.ref h.length) = true := by rw [hH]; exact rc_ref
  rw [← hH]
  cases q : nocov s a with
  | true =>
    rw [if_pos rfl]
    unfold nocov at q
    rw [q] at en
    simp [turnF, setT, llbody, c1, en, rc, ap, -List.map_append]
  | false =>
    rw [if_neg (by decide), ← hH]
    unfold nocov at q
    rw [q] at en
    simp [turnF, setT, llbody, c1, en]
theorem lleast_ok (k : Nat) {rows : List Rp} (hf : ∀ a ∈ rows, a.fine) (hl : rows.length ≤ 60) (h : Hb) :
    ∃ due : List Rp, (Cx (k + 2)).call "_law_least" [.lit (rows.map rtW)] [] h = .ok (.ref h.length) (h ++ [.lst (due.map rtW)]) ∧ due.Nodup ∧ ∀ a, a ∈ due ↔ Mn rows a := by
  rw [call_eq l_lleast, stepF_of (σ := [some (.lit (rows.map rtW)), none, none, none, none, none]) rfl]
  have d1 : (forC (turnC (Cx (k + 1)) (.slot 3) (.tp (.cons (.nm 4) (.cons (.nm 3) .nil))) (.cmp .nin (.slot 3) (.cut (.slot 0) .non (.slot 4))) [4, 3] [some (.lit (rows.map rtW)), none, none, none, none, none]) (fun _ => true) (((rows.map rtW).zipIdx).map fun p => .tup [.int p.2, p.1]) [] h).Ok fun ws h' => h' = h ∧ ∃ s : List Rp, ws = s.map rtW ∧ s.Nodup ∧ ∀ a, a ∈ s ↔ a ∈ rows := by
    refine ok_cm (fun j h' acc => h' = h ∧ ∃ s : List Rp, acc = s.map rtW ∧ s.Nodup ∧ ∀ a, a ∈ s ↔ a ∈ rows.take j) (fun _ _ _ _ => rfl) _ [] 0 h ⟨rfl, [], rfl, List.nodup_nil, by simp⟩ (by simp; omega) ?_ ?_
    · rintro j w hw h' acc ⟨rfl, s, rfl, sn, sm⟩
      rw [Nat.zero_add] at sm ⊢
      rw [List.getElem?_map, List.getElem?_zipIdx, List.getElem?_map] at hw
      cases q : rows[j]? with
      | none => rw [q] at hw; cases hw
      | some r =>
        rw [q] at hw
        simp only [Option.map_some, Option.some.injEq, Nat.zero_add] at hw
        subst hw
        have jl : j < rows.length := (List.getElem?_eq_some_iff.mp q).1
        have fr := hf r (List.mem_of_getElem? q)
        have tk : rows.take (j + 1) = rows.take j ++ [r] := by rw [List.take_succ, q]; rfl
        have cu : ∀ h, getCut h (.lit (rows.map rtW)) none (some (j : Int)) = some (.lit ((rows.take j).map rtW)) := by
          intro h
          show some (W.lit (cutW _ _ _)) = _
          rw [cut_take (by rw [List.length_map]; omega), List.map_take]
        have ii : isIn h' (rtW r) (.lit ((rows.take j).map rtW)) = some (decide (r ∈ rows.take j))  := in_rows (h := h') fr.good fun a ha => (hf a (List.mem_of_mem_take ha)).good
        have tb := turnC_b (C := Cx (k + 1)) (elt := .slot 3) (c := .cmp .nin (.slot 3) (.cut (.slot 0) .non (.slot 4))) (t := .tp (.cons (.nm 4) (.cons (.nm 3) .nil))) (own := [4, 3]) (σ := [some (.lit (rows.map rtW)), none, none, none, none, none])
          (σ' := [some (.lit (rows.map rtW)), none, none, some (rtW r), some (.int j), none]) (x := .tup [.int (j : Nat), rtW r]) (v := rtW r) (h := h') (h1 := h') (h2 := h') (b := !decide (r ∈ rows.take j)) rfl (by simp [cu, ii, -List.map_take]) (fun _ => by simp) (fun _ => rfl)
        refine ⟨_, _, tb, rfl, ?_⟩
        by_cases c : r ∈ rows.take j
        · refine ⟨s, by simp [c], sn, fun a => ?_⟩
          rw [sm a, tk, List.mem_append, List.mem_singleton]
          constructor
          · exact .inl
          · rintro (z | rfl)
            · exact z
            · exact c
        · refine ⟨s ++ [r], by simp [c], ?_, fun a => ?_⟩
          · rw [List.nodup_append]
            refine ⟨sn, by simp, ?_⟩
            rintro a ha b hb rfl
            rw [List.mem_singleton.mp hb] at ha
            exact c ((sm r).mp ha)
          · rw [tk, List.mem_append, List.mem_append, sm a]
    · rintro h' acc ⟨rfl, s, rfl, sn, sm⟩
      refine ⟨rfl, s, rfl, sn, fun a => ?_⟩
      rw [sm a]
      simp
  obtain ⟨_, _, e1, rfl, s, rfl, sn, sm⟩ := d1
  have fs : ∀ a ∈ s, a.fine := fun a ha => hf a ((sm a).mp ha)
  have sl : s.length ≤ 60 := Nat.le_trans (nodup_le sn fun a ha => (sm a).mp ha) hl
  rename_i h'
  have lp : (forL (turnF (Cx (k + 1)) (.nm 3) llbody) (fun _ => true) (s.map rtW) [some (.lit (rows.map rtW)), some (.lit (s.map rtW)), some (.ref h'.length), none, none, none] (h' ++ [.lst []])).Ok fun fl g => ∃ y3, fl = .nx [some (.lit (rows.map rtW)), some (.lit (s.map rtW)), some (.ref h'.length), y3, none, none] ∧ g = h' ++ [.lst ((s.filter (nocov s)).map rtW)] := by
    refine ok_for (fun j σ g => ∃ y3, σ = [some (.lit (rows.map rtW)), some (.lit (s.map rtW)), some (.ref h'.length), y3, none, none] ∧ g = h' ++ [.lst (((s.take j).filter (nocov s)).map rtW)]) (fun _ _ _ _ => rfl) _ 0 _ _ ⟨none, rfl, rfl⟩ ?_ ?_
    · rintro j u hu σ g ⟨y3, rfl, rfl⟩
      rw [Nat.zero_add]
      obtain ⟨r, hr, rfl⟩ : ∃ r, s[j]? = some r ∧ u = rtW r := by
        rw [List.getElem?_map] at hu
        cases q : s[j]? with
        | none => rw [q] at hu; cases hu
        | some r => rw [q] at hu; exact ⟨r, rfl, (Option.some.inj hu).symm⟩
      have tk : s.take (j + 1) = s.take j ++ [r] := by rw [List.take_succ, hr]; rfl
      have := List.length_filter_le (nocov s) (s.take j)
      rw [llbody_ok k h' fs sl (f := (s.take j).filter (nocov s)) (by rw [List.length_take] at this; omega) (fs r (List.mem_of_getElem? hr))]
      refine ⟨_, _, rfl, _, rfl, ?_⟩
      rw [tk, List.filter_append]
      cases q : nocov s r <;> simp [q]
    · rintro σ g ⟨y3, rfl, rfl⟩
      refine ⟨y3, rfl, ?_⟩
      rw [List.length_map, Nat.zero_add, List.take_length]
  obtain ⟨_, _, e2, y3, rfl, rfl⟩ := lp
  refine ⟨s.filter (nocov s), ?_, sn.filter _, fun a => ?_⟩
  · have eb : g_least.body = .seq (.asg (.nm 1) (.cm (.slot 3) (.tp (.cons (.nm 4) (.cons (.nm 3) .nil))) (.enum (.slot 0)) (.cmp .nin (.slot 3) (.cut (.slot 0) .non (.slot 4))) [4, 3]))
      (.seq (.asg (.nm 2) (.new (.lst .nil))) (.seq (.for (.nm 3) (.slot 1) llbody) (.seq (.ret (.slot 2)) .skip))) := rfl
    have ie : ∀ h, itemsI h (enumW (rows.map rtW)) = some (((rows.map rtW).zipIdx).map fun p => .tup [.int p.2, p.1]) := fun _ => rfl
    have se : ∀ h h', stays h h' (enumW (rows.map rtW)) = true := fun _ _ => rfl
    rw [eb]
    generalize llbody = B at e2 ⊢
    simp [setT, ie, se, e1, e2, -List.map_map]
  · rw [List.mem_filter, nocov_iff]
    unfold Mn
    rw [sm a]
    exact and_congr_right fun _ => ⟨fun z b hb => z b ((sm b).mpr hb), fun z b hb => z b ((sm b).mp hb)⟩
end Y
namespace Y
open PySem
/-! ### the law's same -/
theorem l_same : (prgOf tb con).fns.lookup ("_law_same" : Str) = some g_same := by kernel_rfl
theorem asc_next : ∀ {l : List Rp}, Asc l → ∀ p ∈ l.zip (l.drop 1), ltC (tx p.1) (tx p.2)
  | [], _, p, hp => by simp at hp
  | [a], _, p, hp => by simp at hp
  | a :: b :: l, h, p, hp => by
    have h' := List.pairwise_cons.mp h
    rcases List.mem_cons.mp (by simpa using hp : p ∈ (a, b) :: (b :: l).zip l) with q | q
    · rw [q]; exact h'.1 b List.mem_cons_self
    · exact asc_next h'.2 p (by simpa using q)
theorem same_ok (k : Nat) {out due : List Rp} (fo : ∀ a ∈ out, a.fine) (ho : out.length ≤ 60) (ao : Asc out) (nd : due.Nodup) (hm : ∀ a, a ∈ out ↔ a ∈ due) {h : Hb} {n : Nat} (hn : h[n]? = some (.lst (due.map rtW))) :
    (Cx (k + 1)).call "_law_same" [.tup (out.map rtW), .ref n] [] h = .ok (.bl true) h := by
  rw [call_eq l_same, stepF_of (σ := [some (.tup (out.map rtW)), some (.ref n), none, none, none]) rfl]
  have fd : ∀ a ∈ due, a.fine := fun a ha => fo a ((hm a).mpr ha)
  have no := asc_nodup ao
  have ll : out.length = due.length := Nat.le_antisymm (nodup_le no fun a ha => (hm a).mp ha) (nodup_le nd fun a ha => (hm a).mpr ha)
  have i0 : isAny h (.tup (out.map rtW)) ["tuple"] = some true := rfl
  have ln : builtin .len [.ref n] h = some (.int due.length) := by
    simp only [builtin, hn, List.length_map]
  have cu : getCut h (.tup (out.map rtW)) (some 1) none = some (.tup ((out.drop 1).map rtW)) := by
    show some (W.tup (cutW _ _ _)) = _
    rw [cut_drop, List.map_drop]
  have zz : zipW (out.map rtW) ((out.drop 1).map rtW) = .tup ((out.zip (out.drop 1)).map fun p => .tup [rtW p.1, rtW p.2]) := by
    unfold zipW
    rw [List.zip_map, List.map_map]; rfl
  have c1 : forC (turnC (Cx k) (.int 1) (.tp (.cons (.nm 3) (.cons (.nm 4) .nil))) (.tnot (.cmp .lt (.slot 3) (.slot 4))) [3, 4] [some (.tup (out.map rtW)), some (.ref n), none, none, none]) (fun _ => true) ((out.zip (out.drop 1)).map fun p => .tup [rtW p.1, rtW p.2]) [] h = .ok [] h := by
    have := forC_listB (α := Rp × Rp) (f := turnC (Cx k) (.int 1) (.tp (.cons (.nm 3) (.cons (.nm 4) .nil))) (.tnot (.cmp .lt (.slot 3) (.slot 4))) [3, 4] [some (.tup (out.map rtW)), some (.ref n), none, none, none]) (ok := fun _ => true) (w := fun p => .tup [rtW p.1, rtW p.2]) (g := fun _ => .int 1) (p := fun _ => false) (h := h) rfl (out.zip (out.drop 1)) (fun p hp => by
      obtain ⟨m1, m2⟩ := List.of_mem_zip (show (p.1, p.2) ∈ out.zip (out.drop 1) from hp)
      obtain ⟨r, e1, e2⟩ := row_lt (fo p.1 m1) (fo p.2 (List.mem_of_mem_drop m2))
      have e3 := e2.mpr (asc_next ao p hp)
      subst e3
      have lt : cmpop .lt (rtW p.1) (rtW p.2) h = some true := e1
      refine turnC_b (b := false) (σ' := [some (.tup (out.map rtW)), some (.ref n), none, some (rtW p.1), some (rtW p.2)]) rfl ?_ (fun z => by cases z) (fun _ => rfl)
      simp [lt]) (by rw [List.length_zip, List.length_drop]; omega)
    rw [this]
    simp
  have st : stays h h (.ref n) = true := stays_refl h (.ref n) (due.map rtW) (itemsI_ref hn)
  have iR : itemsI h (.ref n) = some (due.map rtW) := itemsI_ref hn
  have c2 : forC (turnC (Cx k) (.bi .repr (.cons (.slot 3) .nil)) (.nm 3) (.bl true) [3] [some (.tup (out.map rtW)), some (.ref n), none, none, none]) (fun h' => stays h h' (.ref n)) (due.map rtW) [] h = .ok ((due.map fun a => a.d.shown).map .str) h := by
    rw [forC_listT (g := fun a => .str a.d.shown) st due (fun a ha => ?_) (by omega), List.map_map]
    · rfl
    · refine turnC_t (σ' := [some (.tup (out.map rtW)), some (.ref n), none, some (rtW a), none]) rfl ?_
      simp [bi_repr (repr_row (fd a ha) h)]
  obtain ⟨T, hT⟩ : ∃ T, T = W.lit ((due.map fun a => a.d.shown).map .str) := ⟨_, rfl⟩
  have c3 : forC (turnC (Cx k) (.int 1) (.nm 3) (.cmp .nin (.bi .repr (.cons (.slot 3) .nil)) (.slot 2)) [3] [some (.tup (out.map rtW)), some (.ref n), some T, none, none]) (fun _ => true) (out.map rtW) [] h = .ok [] h := by
    rw [forC_listB (g := fun _ => .int 1) (p := fun _ => false) rfl out (fun a ha => ?_) (by omega)]
    · simp
    · refine turnC_b (b := false) (σ' := [some (.tup (out.map rtW)), some (.ref n), some T, some (rtW a), none]) rfl ?_ (fun z => by cases z) (fun _ => rfl)
      have ii : isInD h (.str a.d.shown) T = some true := by
        rw [hT, isInD_l]
        show inD h _ _ = _
        rw [in_strs (shown_row (fo a ha)).2.1 (fun s hs => by
          obtain ⟨b, hb, rfl⟩ := List.mem_map.mp hs
          exact (shown_row (fd b hb)).2.1)]
        rw [decide_eq_true (List.mem_map.mpr ⟨a, (hm a).mp ha, rfl⟩)]
      simp [bi_repr (repr_row (fo a ha) h), ii]
  have en : eqD h (.lit []) (.lit []) = some true := ne_nil_ints h []
  have c2' : kLit (forC (turnC (Cx k) (.bi .repr (.cons (.slot 3) .nil)) (.nm 3) (.bl true) [3] [some (.tup (out.map rtW)), some (.ref n), none, none, none]) (fun h' => stays h h' (.ref n)) (due.map rtW) [] h) = .ok T h := by
    rw [c2, hT]; rfl
  generalize (out.drop 1).map rtW = X at cu zz
  generalize ((out.zip (out.drop 1)).map fun p => W.tup [rtW p.1, rtW p.2]) = Z at zz c1
  simp [g_same, i0, ln, ll, cu, zz, c1, iR, c2', c3, en, setT, -List.map_drop]
/-! ### the law's turned -/
theorem l_turned : (prgOf tb con).fns.lookup ("_law_turned" : Str) = some g_turned := by kernel_rfl
def tcond : E := .cmp .ne (.slot 2) (.lst .nil)
def tbody : S := .seq (.asg (.nm 4) (.mt .pop (.slot 2) (.cons (.call "_law_draw" (.cons (.slot 0) (.cons (.bi .len (.cons (.slot 2) .nil)) .nil)) [] .nil) .nil)))
    (.seq (.asg (.nm 3) (.bin .add (.slot 3) (.bin .mul (.lst (.cons (.slot 4) .nil)) (.bin .add (.int 1) (.bi .int (.cons (.cmp .eq (.call "_law_draw" (.cons (.slot 0) (.cons (.int 3) .nil)) [] .nil) (.int 0)) .nil))))))
    .skip)
theorem mul_one (w : W) (c : Bool) (h : Hb) : ∃ m : Nat, (m = 1 ∨ m = 2) ∧ binop .mul (.lit [w]) (.int (1 + if c = true then 1 else 0)) h = .ok (.lit (List.replicate m w)) h := by
  cases c with
  | true => exact ⟨2, .inr rfl, rfl⟩
  | false => exact ⟨1, .inl rfl, rfl⟩
theorem pop_at {P : Pn} {r : Hb} {xs : List W} {i : Nat} {w : W} (hi : xs[i]? = some w) (hl : xs.length ≤ 1000) : method .pop (.ref (r.length + 1)) [.int (i : Int)] (P.o :: (r ++ [.lst xs])) = .ok w (P.o :: (r ++ [.lst (xs.eraseIdx i)])) := by
  have il : i < xs.length := (List.getElem?_eq_some_iff.mp hi).1
  have e1 : (P.o :: (r ++ [O.lst xs]))[r.length + 1]? = some (.lst xs) := penl
  have e2 : seqIndex? (i : Int) xs.length = some i := by
    have a : ¬ ((i : Int) < 0) := by omega
    simp [seqIndex?, a, il]
  have e3 : (decide (-(2 ^ 62) ≤ (i : Int)) && decide ((i : Int) < 2 ^ 62)) = true := by
    rw [Bool.and_eq_true, decide_eq_true_eq, decide_eq_true_eq]
    rw [show (2 ^ 62 : Int) = 4611686018427387904 by decide +kernel]
    omega
  have e5 : (P.o :: (r ++ [O.lst xs])).set (r.length + 1) (.lst (xs.eraseIdx i)) = P.o :: (r ++ [O.lst (xs.eraseIdx i)]) := by simp
  simp only [method, e1]
  rw [if_pos e3]
  simp only [e2, hi, e5]
theorem erase_mem {α : Type} [DecidableEq α] {l : List α} {i : Nat} {a : α} (h : l[i]? = some a) (b : α) : b ∈ l ↔ b = a ∨ b ∈ l.eraseIdx i := by
  have il : i < l.length := (List.getElem?_eq_some_iff.mp h).1
  have e : l = l.take i ++ a :: l.drop (i + 1) := by
    have e1 : l.drop i = a :: l.drop (i + 1) := by
      rw [List.drop_eq_getElem_cons il, (List.getElem?_eq_some_iff.mp h).2]
    conv => lhs; rw [← List.take_append_drop i l, e1]
  have e2 : l.eraseIdx i = l.take i ++ l.drop (i + 1) := List.eraseIdx_eq_take_drop_succ ..
  rw [e2]
  conv => lhs; rw [e]
  simp only [List.mem_append, List.mem_cons]
  constructor
  · rintro (h | h | h)
    · exact .inr (.inl h)
    · exact .inl h
    · exact .inr (.inr h)
  · rintro (h | h | h)
    · exact .inr (.inl h)
    · exact .inl h
    · exact .inr (.inr h)
theorem turned_ok (k : Nat) {P : Pn} {n : Nat} (r : Hb) {rows : List Rp} (hf : ∀ a ∈ rows, a.fine) (hl : rows.length ≤ 20) (hP : P.ok n) (hn : n ≤ 90000) :
    ((Cx (k + 2)).call "_law_turned" [.ref 0, .lit (rows.map rtW)] [] (P.o :: r)).Ok fun w h => ∃ (F : List Rp) (P' : Pn) (g : Hb), w = .lit (F.map rtW) ∧ (∀ a, a ∈ F ↔ a ∈ rows) ∧ F.length ≤ 40 ∧ Pn.ok P' (n + 60) ∧ h = P'.o :: (r ++ g) := by
  rw [call_eq l_turned, stepF_of (σ := [some (.ref 0), some (.lit (rows.map rtW)), none, none, none]) rfl]
  refine ok_hide fun Q hQ => ok_fin ?_
  have eb : g_turned.body = .seq (.par [2, 3] (.cons (.new (.bi .list (.cons (.slot 1) .nil))) (.cons (.lst .nil) .nil))) (.seq (.while tcond tbody) (.seq (.ret (.slot 3)) .skip)) := rfl
  rw [eb]
  obtain ⟨B, hB⟩ : ∃ B, B = tbody := ⟨_, rfl⟩
  obtain ⟨B1, hB1⟩ : ∃ B, B = tcond := ⟨_, rfl⟩
  rw [← hB, ← hB1]
  simp [setL, sWhile]
  rw [hB, hB1]
  refine ok_then (ok_while (fun m σ h => ∃ (P' : Pn) (L F : List Rp) (x4 : Option W), σ = [some (.ref 0), some (.lit (rows.map rtW)), some (.ref (r.length + 1)), some (.lit (F.map rtW)), x4] ∧ h = P'.o :: (r ++ [.lst (L.map rtW)]) ∧ L.length = m ∧ F.length + 2 * m ≤ 2 * rows.length ∧ m ≤ rows.length ∧ Pn.ok P' (n + 2 * (rows.length - m)) ∧ (∀ a ∈ L, a.fine) ∧ ∀ a, a ∈ rows ↔ a ∈ L ∨ a ∈ F) ?_ _ rows.length _ _ ⟨P, rows, [], none, rfl, rfl, rfl, by simp, Nat.le_refl _, hP.mono (by omega), hf, by simp⟩ (by show rows.length < 100000; omega))
  rintro m σ h ⟨P', L, F, x4, rfl, rfl, hL, hF, hm, oP, fL, mem⟩
  have sn : snap (P'.o :: (r ++ [.lst (L.map rtW)])) (.ref (r.length + 1)) = .lit (L.map rtW) := by simp only [snap, penl]
  have en := eq_nil sn (fun a ha => (fL a ha).good) (.inr ⟨_, rfl⟩)
  have ce : evalE (Cx (k + 1)) tcond [some (.ref 0), some (.lit (rows.map rtW)), some (.ref (r.length + 1)), some (.lit (F.map rtW)), x4] (P'.o :: (r ++ [.lst (L.map rtW)])) = .ok (.bl (!L.isEmpty)) (P'.o :: (r ++ [.lst (L.map rtW)])) := by
    simp [tcond, en]
  refine ⟨_, _, ce, ?_⟩
  by_cases Ln : L = []
  · subst Ln
    simp only [List.isEmpty_nil, Bool.not_true, then_nx]
    simp
    exact hQ _ _ ⟨F, P', _, rfl, fun a => by rw [mem a]; simp, by simp at hL; omega, oP.mono (by omega), rfl⟩
  · have nz : L.isEmpty = false := by cases L with | nil => exact absurd rfl Ln | cons _ _ => rfl
    rw [nz]
    have lp : 0 < L.length := List.length_pos_iff.mpr Ln
    obtain ⟨i, P1, i0, i1, o1, e1⟩ := draws k P' (n + 2 * (rows.length - m)) L.length (r ++ [.lst (L.map rtW)]) oP (by omega) (by omega) (by omega)
    obtain ⟨j, rfl⟩ : ∃ j : Nat, i = (j : Int) := ⟨i.toNat, by omega⟩
    have jl : j < L.length := by omega
    obtain ⟨a, ha⟩ : ∃ a, L[j]? = some a := ⟨L[j], List.getElem?_eq_getElem jl⟩
    have ln : builtin .len [.ref (r.length + 1)] (P'.o :: (r ++ [.lst (L.map rtW)])) = some (.int L.length) := by
      simp only [builtin, penl, List.length_map]
    have po := pop_at (P := P1) (r := r) (xs := L.map rtW) (i := j) (w := rtW a) (by rw [List.getElem?_map, ha]; rfl) (by rw [List.length_map]; omega)
    have em : (L.map rtW).eraseIdx j = (L.eraseIdx j).map rtW := by
      rw [List.eraseIdx_eq_take_drop_succ, List.eraseIdx_eq_take_drop_succ, List.map_append, List.map_take, List.map_drop]
    rw [em] at po
    have rc : recv .pop (P'.o :: (r ++ [.lst (L.map rtW)])) (.ref (r.length + 1)) = true := by simp only [recv, penl]
    obtain ⟨d, P2, _, _, o2, e2⟩ := draws k P1 (n + 2 * (rows.length - m) + 1) 3 (r ++ [.lst ((L.eraseIdx j).map rtW)]) o1 (by omega) (by omega) (by omega)
    obtain ⟨c, hc⟩ : ∃ c, c = decide (d = 0) := ⟨_, rfl⟩
    obtain ⟨q, hq, mu⟩ := mul_one (rtW a) c (P2.o :: (r ++ [.lst ((L.eraseIdx j).map rtW)]))
    have ad : binop .add (.lit (F.map rtW)) (.lit (List.replicate q (rtW a))) (P2.o :: (r ++ [.lst ((L.eraseIdx j).map rtW)])) = .ok (.lit ((F ++ List.replicate q a).map rtW)) (P2.o :: (r ++ [.lst ((L.eraseIdx j).map rtW)])) := by
      rw [add_ll (by simp only [List.length_map, List.length_replicate]; omega), List.map_append, List.map_replicate]
    have le : (L.eraseIdx j).length = L.length - 1 := by rw [List.length_eraseIdx, if_pos jl]
    refine ⟨.nx [some (.ref 0), some (.lit (rows.map rtW)), some (.ref (r.length + 1)), some (.lit ((F ++ List.replicate q a).map rtW)), some (rtW a)], P2.o :: (r ++ [.lst ((L.eraseIdx j).map rtW)]), ?_, m - 1, by omega, P2, L.eraseIdx j, F ++ List.replicate q a, _, rfl, rfl, by omega, ?_, by omega, o2.mono (by omega), fun b hb => fL b (List.mem_of_mem_eraseIdx hb), fun b => ?_⟩
    · simp [tbody, setT, rc, ln, e1, po, e2, ← hc, mu, ad, -List.map_append]
    · simp only [List.length_append, List.length_replicate]; omega
    · rw [mem b, erase_mem ha b, List.mem_append, List.mem_replicate]
      constructor
      · rintro ((h | h) | h)
        · exact .inr (.inr ⟨by omega, h⟩)
        · exact .inl h
        · exact .inr (.inl h)
      · rintro (h | h | h)
        · exact .inl (.inr h)
        · exact .inr h
        · exact .inl (.inl h.2)
end Y
namespace Y
open PySem
def rlW (a : Rp) : W := .lit a.ws
def Rp.dl (a : Rp) : PyData := .list [.int a.took, .str a.reader, .bool a.told, .tuple (a.sent.map .int), .bool a.ended, .tuple (a.gone.map .bool), .str a.state, .bool a.lost]
theorem pds_rowsl : ∀ as : List Rp, W.pds (as.map rlW) = some (as.map Rp.dl)
  | [] => rfl
  | a :: as => by
    have p1 : W.pds (iW a.sent) = _ := pds_ints a.sent
    have p2 := pds_bools a.gone
    simp [W.pds, pds_rowsl as, rlW, Rp.dl, Rp.ws, W.pd, p1, p2]
theorem lay_rowsl : ∀ as : List Rp, (∀ a ∈ as, a.good) → PyData.canLayAll0 (as.map Rp.dl) = true
  | [], _ => by simp [PyData.canLayAll0]
  | a :: as, h => by
    have ga := h a List.mem_cons_self
    simp [PyData.canLayAll0, Rp.dl, PyData.canLay0, ga.s1, ga.s2, lay_ints, lay_bools, lay_rowsl as fun b hb => h b (List.mem_cons_of_mem _ hb)]
theorem depth_rowsl : ∀ as : List Rp, PyData.depthAll (as.map Rp.dl) ≤ 10
  | [] => by simp [PyData.depthAll]
  | a :: as => by
    have := depth_rowsl as
    have d1 := depth_ints a.sent
    have d2 := depth_bools a.gone
    simp only [List.map_cons, PyData.depthAll, Rp.dl, PyData.depth]; omega
theorem eq_nill (h : Hb) {as : List Rp} (g : ∀ a ∈ as, a.good) : eqD h (.lit (as.map rlW)) (.lit []) = some as.isEmpty := by
  have h0 : SeqAt.shaped (.list ([] : List PyData)) = true := shaped_ints []
  have h1 : SeqAt.shaped (.list (as.map Rp.dl)) = true := by
    unfold SeqAt.shaped
    have := depth_rowsl as
    simp only [PyData.canLay0, lay_rowsl as g, PyData.depth, Bool.true_and]
    exact decide_eq_true (by omega)
  have e1 : (W.lit (as.map rlW)).pd = some (.list (as.map Rp.dl)) := by simp [W.pd, pds_rowsl]
  have e2 : ∀ xs, snap h (.lit xs) = .lit xs := fun _ => rfl
  have e3 : (W.lit []).pd = some (.list []) := rfl
  show eqG h _ _ = _
  unfold eqG
  rw [e2, e2, e1, e3]
  simp only [h1, h0, Bool.and_self, if_true]
  cases as <;> simp [PyData.eqv, PyData.eqvAll]
/-! ### rows are drawn -/
def ibody : S := .seq (.asg (.nm 5) (.ite (.tand (.cmp .ne (.slot 3) (.lst .nil)) (.cmp .gt (.call "_law_draw" (.cons (.slot 1) (.cons (.int 4) .nil)) [] .nil) (.int 0))) (.call "_law_moved" (.cons (.slot 1) (.cons (.ix (.slot 3) (.neg (.int 1))) .nil)) [] .nil) (.call "_law_report" (.cons (.slot 1) (.cons (.int 2) .nil)) [] .nil)))
    (.seq (.asg (.nm 3) (.bin .add (.slot 3) (.bin .mul (.lst (.cons (.slot 5) .nil)) (.bin .add (.int 1) (.bi .int (.cons (.cmp .eq (.call "_law_draw" (.cons (.slot 1) (.cons (.int 6) .nil)) [] .nil) (.int 0)) .nil))))))
    .skip)
theorem last_at {as : List Rp} (h : as ≠ []) : ∃ a, a ∈ as ∧ ∀ hp, getIxD hp (.lit (as.map rlW)) (.int (-1)) = some (rlW a) := by
  have l0 : 0 < as.length := List.length_pos_iff.mpr h
  refine ⟨as[as.length - 1], List.getElem_mem _, fun hp => ?_⟩
  rw [getIxD_l, getIx_l]
  have e : L2.ixN (as.map rlW).length (-1) = some (as.length - 1) := by
    unfold L2.ixN
    rw [List.length_map, if_neg (by omega), if_pos (by omega)]
    congr 1; omega
  rw [e]
  simp only [Option.bind, List.getElem?_map]
  rw [List.getElem?_eq_getElem (by omega)]; rfl
theorem ibody_ok (k : Nat) {P : Pn} {n : Nat} (r : Hb) (hP : P.ok n) (hn : n ≤ 80000) {as : List Rp} (fa : ∀ a ∈ as, a.fine) (al : as.length ≤ 20) (w : W) (s0 x2 x4 x5 x6 x7 x8 x9 x10 : Option W) :
    (turnF (Cx (k + 3)) (.nm 4) ibody w [s0, some (.ref 0), x2, some (.lit (as.map rlW)), x4, x5, x6, x7, x8, x9, x10, none, none] (P.o :: r)).Ok fun fl h' => ∃ (as' : List Rp) (P' : Pn) (g : Hb) (y5 : Option W), fl = .nx [s0, some (.ref 0), x2, some (.lit (as'.map rlW)), some w, y5, x6, x7, x8, x9, x10, none, none] ∧ h' = P'.o :: (r ++ g) ∧ (∀ a ∈ as', a.fine) ∧ as'.length ≤ as.length + 2 ∧ Pn.ok P' (n + 40) := by
  have en := eq_nill (P.o :: r) (as := as) fun a ha => (fa a ha).good
  obtain ⟨b, P1, g1, fb, o1, e1⟩ : ∃ (b : Rp) (P1 : Pn) (g1 : Hb), b.fine ∧ Pn.ok P1 (n + 35) ∧ evalE (Cx (k + 3)) (.ite (.tand (.cmp .ne (.slot 3) (.lst .nil)) (.cmp .gt (.call "_law_draw" (.cons (.slot 1) (.cons (.int 4) .nil)) [] .nil) (.int 0))) (.call "_law_moved" (.cons (.slot 1) (.cons (.ix (.slot 3) (.neg (.int 1))) .nil)) [] .nil) (.call "_law_report" (.cons (.slot 1) (.cons (.int 2) .nil)) [] .nil)) [s0, some (.ref 0), x2, some (.lit (as.map rlW)), some w, x5, x6, x7, x8, x9, x10, none, none] (P.o :: r) = .ok (rlW b) (P1.o :: (r ++ g1)) := by
    have rep : ∀ (P : Pn) (m : Nat), P.ok m → m ≤ n + 1 → ∃ (b : Rp) (P1 : Pn) (g1 : Hb), b.fine ∧ Pn.ok P1 (n + 35) ∧ (Cx (k + 3)).call "_law_report" [.ref 0, .int 2] [] (P.o :: r) = .ok (rlW b) (P1.o :: (r ++ g1)) := by
      intro P m o hm
      obtain ⟨_, _, e, b, P1, g1, rfl, fb, o1, rfl⟩ := report_ok k r o (by omega)
      exact ⟨b, P1, g1, fb, o1.mono (by omega), e⟩
    by_cases c : as = []
    · subst c
      obtain ⟨b, P1, g1, fb, o1, e⟩ := rep P n hP (by omega)
      exact ⟨b, P1, g1, fb, o1, by simp at en; simp [en, e]⟩
    · have nz : as.isEmpty = false := by cases as with | nil => exact absurd rfl c | cons _ _ => rfl
      rw [nz] at en
      obtain ⟨d, P1, _, _, o1, e1⟩ := draws (k + 2) P n 4 r hP (by omega) (by omega) (by omega)
      by_cases d0 : 0 < d
      · obtain ⟨a, ha, ea⟩ := last_at c
        obtain ⟨_, _, e2, b, P2, g2, rfl, fb, o2, rfl⟩ := moved_ok k r a (fa a ha) o1 (by omega)
        exact ⟨b, P2, g2, fb, o2.mono (by omega), by simp [en, e1, d0, ea]; exact e2⟩
      · obtain ⟨b, P2, g2, fb, o2, e2⟩ := rep P1 (n + 1) o1 (by omega)
        exact ⟨b, P2, g2, fb, o2, by simp [en, e1, d0, e2]⟩
  obtain ⟨d, P2, _, _, o2, e2⟩ := draws (k + 2) P1 (n + 35) 6 (r ++ g1) o1 (by omega) (by omega) (by omega)
  obtain ⟨c, hc⟩ : ∃ c, c = decide (d = 0) := ⟨_, rfl⟩
  obtain ⟨q, hq, mu⟩ := mul_one (rlW b) c (P2.o :: (r ++ g1))
  have ad : binop .add (.lit (as.map rlW)) (.lit (List.replicate q (rlW b))) (P2.o :: (r ++ g1)) = .ok (.lit ((as ++ List.replicate q b).map rlW)) (P2.o :: (r ++ g1)) := by
    rw [add_ll (by simp only [List.length_map, List.length_replicate]; omega), List.map_append, List.map_replicate]
  refine ⟨.nx [s0, some (.ref 0), x2, some (.lit ((as ++ List.replicate q b).map rlW)), some w, some (rlW b), x6, x7, x8, x9, x10, none, none], P2.o :: (r ++ g1), ?_, _, P2, g1, _, rfl, rfl, ?_, ?_, o2.mono (by omega)⟩
  · simp only [turnF, setT, ibody, List.length_cons, List.length_nil, Nat.reduceAdd, Nat.reduceLT, if_true, List.set_cons_succ, List.set_cons_zero, sSeq, sAsg, e1]
    simp [setT, e2, ← hc, mu, ad, -List.map_append]
  · intro a ha
    rcases List.mem_append.mp ha with z | z
    · exact fa a z
    · rw [(List.mem_replicate.mp z).2]; exact fb
  · rw [List.length_append, List.length_replicate]; omega
/-! ### one turn -/
theorem get_app {h g : Hb} {n : Nat} {o : O} (e : h[n]? = some o) : (h ++ g)[n]? = some o := by
  rw [List.getElem?_append_left (List.getElem?_eq_some_iff.mp e).1, e]
theorem get_pen {P P' : Pn} {R g : Hb} {n : Nat} {o : O} (e : (P.o :: R)[n]? = some o) (hn : 0 < n) : (P'.o :: (R ++ g))[n]? = some o := by
  obtain ⟨m, rfl⟩ : ∃ m, n = m + 1 := ⟨n - 1, by omega⟩
  rw [List.getElem?_cons_succ] at e ⊢
  exact get_app e
theorem snap_at {h : Hb} {n : Nat} {xs : List W} (e : h[n]? = some (.lst xs)) : snap h (.ref n) = .lit xs := by simp only [snap, e]
theorem O.eqb_lst (xs : List W) : O.eqb (.lst xs) (.lst xs) = true := W.eqbs_refl xs
def rest : S := .seq (.asg (.nm 6) (.cm (.bi .tuple (.cons (.slot 5) .nil)) (.nm 5) (.slot 3) (.bl true) [5]))
    (.seq (.par [7, 8] (.cons (.bi .repr (.cons (.slot 6) .nil)) (.cons (.call "_law_least" (.cons (.slot 6) .nil) [] .nil) .nil)))
    (.seq (.asg (.nm 9) (.call "least" (.cons (.slot 6) .nil) [] .nil))
    (.seq (.ite (.tor (.tnot (.tru (.isi (.slot 9) ["list"]))) (.tor (.tnot (.tru (.call "_law_same" (.cons (.bi .tuple (.cons (.slot 9) .nil)) (.cons (.slot 8) .nil)) [] .nil))) (.cmp .ne (.bi .repr (.cons (.slot 6) .nil)) (.slot 7))))
    (.seq (.ret (.bl false))
    .skip)
    .skip)
    (.seq (.ite (.cmp .ne (.cm (.int 1) (.nm 11) (.slot 6) (.cmp .eq (.cm (.slot 12) (.nm 12) (.slot 9) (.tru (.call "covers" (.cons (.slot 12) (.cons (.slot 11) .nil)) [] .nil)) [12]) (.lst .nil)) [11]) (.lst .nil))
    (.seq (.ret (.bl false))
    .skip)
    .skip)
    (.seq (.asg (.nm 10) (.call "least" (.cons (.bi .tuple (.cons (.call "_law_turned" (.cons (.slot 1) (.cons (.slot 6) .nil)) [] .nil) .nil)) .nil) [] .nil))
    (.seq (.ite (.tor (.cmp .ne (.bi .repr (.cons (.slot 10) .nil)) (.bi .repr (.cons (.slot 9) .nil))) (.cmp .ne (.bi .repr (.cons (.call "least" .nil ["reports"] (.cons (.slot 9) .nil)) .nil)) (.bi .repr (.cons (.slot 9) .nil))))
    (.seq (.ret (.bl false))
    .skip)
    .skip)
    (.seq (.expr (.mt .append (.slot 9) (.cons (.int 0) .nil)))
    (.seq (.ite (.cmp .ne (.bi .repr (.cons (.call "least" (.cons (.slot 6) .nil) [] .nil) .nil)) (.bi .repr (.cons (.slot 10) .nil)))
    (.seq (.ret (.bl false))
    .skip)
    .skip)
    .skip))))))))
theorem rest_ok (k : Nat) {P : Pn} {n : Nat} (r : Hb) (hP : P.ok n) (hn : n ≤ 80000) {as : List Rp} (fa : ∀ a ∈ as, a.fine) (al : as.length ≤ 20) (s0 x2 x4 x5 x6 x7 x8 x9 x10 : Option W) :
    (evalS (Cx (k + 3)) rest [s0, some (.ref 0), x2, some (.lit (as.map rlW)), x4, x5, x6, x7, x8, x9, x10, none, none] (P.o :: r)).Ok fun fl h' => ∃ (P' : Pn) (r' : Hb) (y3 y6 y7 y8 y9 y10 : Option W), fl = .nx [s0, some (.ref 0), x2, y3, x4, x5, y6, y7, y8, y9, y10, none, none] ∧ h' = P'.o :: r' ∧ Pn.ok P' (n + 60) := by
  obtain ⟨A, hA⟩ : ∃ A, A = W.lit (as.map rtW) := ⟨_, rfl⟩
  obtain ⟨B, hB⟩ : ∃ B, B = W.lit (as.map rlW) := ⟨_, rfl⟩
  obtain ⟨H0, hH0⟩ : ∃ H0, H0 = P.o :: r := ⟨_, rfl⟩
  have sA : ∀ h, snap h A = .lit (as.map rtW) := fun h => by rw [hA]; rfl
  have iA : ∀ h, itemsI h A = some (as.map rtW) := fun h => by rw [hA]; rfl
  have yA : ∀ h h', stays h h' A = true := fun h h' => by rw [hA]; rfl
  have iB : ∀ h, itemsI h B = some (as.map rlW) := fun h => by rw [hB]; rfl
  have rA : ∀ h, builtin .repr [A] h = some (.str (PyData.list (as.map Rp.d)).shown) := fun h => bi_repr (repr_rows (sA h) fa (by omega))
  generalize (PyData.list (as.map Rp.d)).shown = sh at rA
  -- the rows
  have c1 : kLit (forC (turnC (Cx (k + 3)) (.bi .tuple (.cons (.slot 5) .nil)) (.nm 5) (.bl true) [5] [s0, some (.ref 0), x2, some B, x4, x5, x6, x7, x8, x9, x10, none, none]) (fun h' => stays H0 h' B) (as.map rlW) [] H0) = .ok A H0 := by
    rw [forC_listT (g := rtW) (by rw [hB]; rfl) as (fun a _ => ?_) (by omega), hA]
    · rfl
    · refine turnC_t (σ' := [s0, some (.ref 0), x2, some B, x4, some (rlW a), x6, x7, x8, x9, x10, none, none]) rfl ?_
      have : ∀ h, builtin .tuple [rlW a] h = some (rtW a) := fun _ => rfl
      simp [this]
  -- what the law finds, what least finds
  obtain ⟨due, e2, nd, dm⟩ := lleast_ok (k + 1) fa (by omega) H0
  rw [← hA] at e2
  obtain ⟨H1, hH1⟩ : ∃ H1, H1 = H0 ++ [.lst (due.map rtW)] := ⟨_, rfl⟩
  rw [← hH1] at e2
  have g1 : H1[H0.length]? = some (.lst (due.map rtW)) := by rw [hH1]; exact hat
  obtain ⟨out, e3, ao, om⟩ := least_ok k fa (by omega) A H1 (fun g => iA _) (fun g g' => yA _ _)
  obtain ⟨H2, hH2⟩ : ∃ H2, H2 = H1 ++ [.dead, .lst (out.map rtW)] := ⟨_, rfl⟩
  rw [← hH2] at e3
  have g2 : H2[H0.length]? = some (.lst (due.map rtW)) := by rw [hH2]; exact get_app g1
  have g2' : H2[H1.length + 1]? = some (.lst (out.map rtW)) := by
    rw [hH2, List.getElem?_append_right (by omega)]; simp
  have fo : ∀ a ∈ out, a.fine := fun a ha => fa a ((om a).mp ha).1
  have ol : out.length ≤ 20 := Nat.le_trans (nodup_le (asc_nodup ao) fun a ha => ((om a).mp ha).1) al
  have n8 : H0.length = r.length + 1 := by rw [hH0]; rfl
  have n9 : H1.length = r.length + 2 := by rw [hH1, List.length_append, n8]; rfl
  obtain ⟨N9, hN9⟩ : ∃ N, N = H1.length + 1 := ⟨_, rfl⟩
  obtain ⟨N8, hN8⟩ : ∃ N, N = H0.length := ⟨_, rfl⟩
  rw [← hN9] at e3 g2'
  rw [← hN8] at e2 g2
  have is9 : isAny H2 (.ref N9) ["list"] = some true := by simp [isAny, isOf, g2']
  have tu9 : builtin .tuple [.ref N9] H2 = some (.tup (out.map rtW)) := by simp only [builtin, itemsL, g2']; rfl
  have same := same_ok (k + 2) fo (by omega) ao nd (fun a => by rw [om a, dm a]) g2
  have i9 : itemsI H2 (.ref N9) = some (out.map rtW) := itemsI_ref g2'
  have st9 : stays H2 H2 (.ref N9) = true := stays_refl H2 (.ref N9) (out.map rtW) i9
  -- each is covered
  have c3 : forC (turnC (Cx (k + 3)) (.int 1) (.nm 11) (.cmp .eq (.cm (.slot 12) (.nm 12) (.slot 9) (.tru (.call "covers" (.cons (.slot 12) (.cons (.slot 11) .nil)) [] .nil)) [12]) (.lst .nil)) [11] [s0, some (.ref 0), x2, some B, x4, x5, some A, some (.str sh), some (.ref N8), some (.ref N9), x10, none, none]) (fun h' => stays H2 h' A) (as.map rtW) [] H2 = .ok [] H2 := by
    rw [forC_listB (g := fun _ => .int 1) (p := fun _ => false) (by rw [hA]; rfl) as (fun a ha => ?_) (by omega)]
    · simp
    · refine turnC_b (b := false) (σ' := [s0, some (.ref 0), x2, some B, x4, x5, some A, some (.str sh), some (.ref N8), some (.ref N9), x10, some (rtW a), none]) rfl ?_ (fun z => by cases z) (fun _ => rfl)
      have ci : forC (turnC (Cx (k + 3)) (.slot 12) (.nm 12) (.tru (.call "covers" (.cons (.slot 12) (.cons (.slot 11) .nil)) [] .nil)) [12] [s0, some (.ref 0), x2, some B, x4, x5, some A, some (.str sh), some (.ref N8), some (.ref N9), x10, some (rtW a), none]) (fun h' => stays H2 h' (.ref N9)) (out.map rtW) [] H2 = .ok ((out.filter fun b => coversB b a).map rtW) H2 := by
        refine forC_listB (p := fun b => coversB b a) st9 out (fun b hb => ?_) (by omega)
        refine turnC_b (σ' := [s0, some (.ref 0), x2, some B, x4, x5, some A, some (.str sh), some (.ref N8), some (.ref N9), x10, some (rtW a), some (rtW b)]) rfl ?_ (fun _ => by simp) (fun _ => rfl)
        simp [covT (k + 1) (fo b hb).good (fa a ha).good]
      obtain ⟨c, hc, ec⟩ := cov_all as a ha
      have nz : (out.filter fun b => coversB b a).isEmpty = false := by
        have : c ∈ out.filter fun b => coversB b a := List.mem_filter.mpr ⟨(om c).mpr hc, ec⟩
        cases q : out.filter fun b => coversB b a with
        | nil => rw [q] at this; cases this
        | cons _ _ => rfl
      have en := eq_nil (h := H2) (w := .lit ((out.filter fun b => coversB b a).map rtW)) (as := out.filter fun b => coversB b a) rfl (fun b hb => (fo b (List.mem_filter.mp hb).1).good) (.inl rfl)
      rw [nz] at en
      generalize (out.filter fun b => coversB b a).map rtW = Z at ci en
      simp [i9, ci, en]
  have en0 : ∀ h, eqD h (.lit []) (.lit []) = some true := fun h => ne_nil_ints h []
  -- turned about
  obtain ⟨R2, hR2⟩ : ∃ R2, H2 = P.o :: R2 := ⟨r ++ [.lst (due.map rtW)] ++ [.dead, .lst (out.map rtW)], by rw [hH2, hH1, hH0]; rfl⟩
  obtain ⟨_, _, e4, F, P', g, rfl, Fm, Fl, oP, rfl⟩ := turned_ok (k + 1) R2 fa al hP (by omega)
  rw [← hR2, ← hA] at e4
  obtain ⟨H3, hH3⟩ : ∃ H3, H3 = P'.o :: (R2 ++ g) := ⟨_, rfl⟩
  have g3 : H3[N9]? = some (.lst (out.map rtW)) := by
    rw [hH3]; rw [hR2] at g2'; exact get_pen g2' (by omega)
  rw [← hH3] at e4
  have fF : ∀ a ∈ F, a.fine := fun a ha => fa a ((Fm a).mp ha)
  obtain ⟨out2, e5, ao2, om2⟩ := least_ok k fF (by omega) (.tup (F.map rtW)) H3 (fun g => rfl) (fun g g' => rfl)
  have eo2 : out2 = out := asc_eq ao2 ao fun a => by rw [om2 a, om a]; exact mn_congr Fm a
  subst eo2
  obtain ⟨H4, hH4⟩ : ∃ H4, H4 = H3 ++ [.dead, .lst (out2.map rtW)] := ⟨_, rfl⟩
  obtain ⟨N10, hN10⟩ : ∃ N, N = H3.length + 1 := ⟨_, rfl⟩
  rw [← hH4, ← hN10] at e5
  have g4 : H4[N9]? = some (.lst (out2.map rtW)) := by rw [hH4]; exact get_app g3
  have g4' : H4[N10]? = some (.lst (out2.map rtW)) := by
    rw [hH4, hN10, List.getElem?_append_right (by omega)]; simp
  have l9 : N9 < H3.length := (List.getElem?_eq_some_iff.mp g3).1
  have rep : ∀ {h : Hb} {N : Nat}, h[N]? = some (.lst (out2.map rtW)) → builtin .repr [.ref N] h = some (.str (PyData.list (out2.map Rp.d)).shown) := fun e => bi_repr (repr_rows (snap_at e) fo (by omega))
  generalize (PyData.list (out2.map Rp.d)).shown = sh2 at rep
  obtain ⟨out3, e6, ao3, om3⟩ := least_kw k fo (by omega) (.ref N9) H4 (fun g => itemsI_ref (get_app g4)) (fun g g' => by
    simp only [stays, get_app g4]; exact O.eqb_lst _)
  have eo3 : out3 = out2 := asc_eq ao3 ao fun a => by rw [om3 a, om a]; exact mn_idem om a
  subst eo3
  obtain ⟨H5, hH5⟩ : ∃ H5, H5 = H4 ++ [.dead, .lst (out3.map rtW)] := ⟨_, rfl⟩
  rw [← hH5] at e6
  have g5 : H5[N9]? = some (.lst (out3.map rtW)) := by rw [hH5]; exact get_app g4
  have g5' : H5[N10]? = some (.lst (out3.map rtW)) := by rw [hH5]; exact get_app g4'
  have g5'' : H5[H4.length + 1]? = some (.lst (out3.map rtW)) := by
    rw [hH5, List.getElem?_append_right (by omega)]; simp
  have rc5 : recv .append H5 (.ref N9) = true := by simp only [recv, g5]
  obtain ⟨H6, hH6⟩ : ∃ H6, H6 = H5.set N9 (.lst (out3.map rtW ++ [.int 0])) := ⟨_, rfl⟩
  have ap : method .append (.ref N9) [.int 0] H5 = .ok .non H6 := by
    simp only [method, g5]
    rw [if_pos (decide_eq_true (by rw [List.length_map]; omega)), hH6]
  have g6 : H6[N10]? = some (.lst (out3.map rtW)) := by
    rw [hH6, List.getElem?_set_ne (by omega)]; exact g5'
  obtain ⟨out4, e7, ao4, om4⟩ := least_ok k fa (by omega) A H6 (fun g => iA _) (fun g g' => yA _ _)
  have eo4 : out4 = out3 := asc_eq ao4 ao fun a => by rw [om4 a, om a]
  subst eo4
  obtain ⟨H7, hH7⟩ : ∃ H7, H7 = H6 ++ [.dead, .lst (out4.map rtW)] := ⟨_, rfl⟩
  rw [← hH7] at e7
  have g7 : H7[N10]? = some (.lst (out4.map rtW)) := by rw [hH7]; exact get_app g6
  have g7' : H7[H6.length + 1]? = some (.lst (out4.map rtW)) := by
    rw [hH7, List.getElem?_append_right (by omega)]; simp
  have r10 := rep g4'
  have r9 := rep g4
  have r5 := rep g5''
  have r59 := rep g5
  have r7 := rep g7'
  have r7' := rep g7
  obtain ⟨R7, hR7⟩ : ∃ R7, H7 = P'.o :: R7 := by
    obtain ⟨q, rfl⟩ : ∃ q, N9 = q + 1 := ⟨N9 - 1, by omega⟩
    rw [hH7, hH6, hH5, hH4, hH3]
    exact ⟨_, rfl⟩
  have z2 : ∀ h, builtin .tuple [.lit (F.map rtW)] h = some (.tup (F.map rtW)) := fun _ => rfl
  rw [← hH0, ← hB]
  refine ⟨.nx [s0, some (.ref 0), x2, some B, x4, x5, some A, some (.str sh), some (.ref N8), some (.ref N9), some (.ref N10), none, none], H7, ?_, P', R7, _, _, _, _, _, _, rfl, hR7, oP.mono (by omega)⟩
  generalize out4.map rtW = O1 at *
  generalize F.map rtW = F1 at *
  simp [rest, setT, setL, iB, c1, rA, e2, e3, is9, tu9, same, iA, c3, en0, e4, z2, e5, r10, r9, e6, r5, r59, rc5, ap, e7, r7, r7']
end Y
namespace Y
open PySem
theorem l_law : (prgOf tb con).fns.lookup ("law" : Str) = some flaw := by kernel_rfl
def obody : S := .seq (.asg (.nm 3) (.lst .nil)) (.seq (.for (.nm 4) (.rng (.call "_law_draw" (.cons (.slot 1) (.cons (.int 7) .nil)) [] .nil)) ibody) rest)
theorem obody_ok (k : Nat) {P : Pn} {n : Nat} (r : Hb) (hP : P.ok n) (hn : n ≤ 50000) (w : W) (s0 x2 x3 x4 x5 x6 x7 x8 x9 x10 : Option W) :
    (turnF (Cx (k + 3)) (.nm 2) obody w [s0, some (.ref 0), x2, x3, x4, x5, x6, x7, x8, x9, x10, none, none] (P.o :: r)).Ok fun fl h' => ∃ (P' : Pn) (r' : Hb) (y3 y4 y5 y6 y7 y8 y9 y10 : Option W), fl = .nx [s0, some (.ref 0), some w, y3, y4, y5, y6, y7, y8, y9, y10, none, none] ∧ h' = P'.o :: r' ∧ Pn.ok P' (n + 500) := by
  obtain ⟨d, P1, d0, d1, o1, e1⟩ := draws (k + 2) P n 7 r hP (by omega) (by omega) (by omega)
  obtain ⟨m, rfl⟩ : ∃ m : Nat, d = (m : Int) := ⟨d.toNat, by omega⟩
  have lp : (forL (turnF (Cx (k + 3)) (.nm 4) ibody) (fun _ => true) (rngL 0 m) [s0, some (.ref 0), some w, some (.lit []), x4, x5, x6, x7, x8, x9, x10, none, none] (P1.o :: r)).Ok fun fl h' => ∃ (P' : Pn) (r' : Hb) (as : List Rp) (y4 y5 : Option W), fl = .nx [s0, some (.ref 0), some w, some (.lit (as.map rlW)), y4, y5, x6, x7, x8, x9, x10, none, none] ∧ h' = P'.o :: r' ∧ (∀ a ∈ as, a.fine) ∧ as.length ≤ 12 ∧ Pn.ok P' (n + 300) := by
    refine ok_for (fun j σ h' => ∃ (P' : Pn) (r' : Hb) (as : List Rp) (y4 y5 : Option W), σ = [s0, some (.ref 0), some w, some (.lit (as.map rlW)), y4, y5, x6, x7, x8, x9, x10, none, none] ∧ h' = P'.o :: r' ∧ (∀ a ∈ as, a.fine) ∧ as.length ≤ 2 * j ∧ Pn.ok P' (n + 1 + 40 * j)) (fun _ _ _ _ => rfl) _ 0 _ _ ⟨P1, r, [], x4, x5, rfl, rfl, by simp, by simp, o1⟩ ?_ ?_
    · rintro j u hu σ h' ⟨P', r', as, y4, y5, rfl, rfl, fa, al, oP⟩
      have hj := (rng_at hu).1
      obtain ⟨_, _, e, as', P2, g, z5, rfl, rfl, fa', al', o2⟩ := ibody_ok k r' oP (by omega) fa (by omega) u s0 (some w) y4 y5 x6 x7 x8 x9 x10
      exact ⟨_, _, e, P2, _, as', _, z5, rfl, rfl, fa', by omega, o2.mono (by omega)⟩
    · rintro σ h' ⟨P', r', as, y4, y5, rfl, rfl, fa, al, oP⟩
      rw [len_rng] at al oP
      exact ⟨P', r', as, y4, y5, rfl, rfl, fa, by omega, oP.mono (by omega)⟩
  obtain ⟨_, _, e2, P2, r2, as, y4, y5, rfl, rfl, fa, al, o2⟩ := lp
  obtain ⟨_, _, e3, P3, r3, y3, y6, y7, y8, y9, y10, rfl, rfl, o3⟩ := rest_ok k r2 o2 (by omega) fa (by omega) s0 (some w) y4 y5 x6 x7 x8 x9 x10
  refine ⟨_, _, ?_, P3, r3, y3, y4, y5, y6, y7, y8, y9, y10, rfl, rfl, o3.mono (by omega)⟩
  unfold obody
  generalize ibody = B at e2
  generalize rest = B2 at e3
  simp [turnF, setT, e1, rng_small (m := m) (by omega), e2, e3]
def oI (s0 : Option W) (j : Nat) (σ : Sb) (h : Hb) : Prop := ∃ (P : Pn) (r : Hb) (x2 x3 x4 x5 x6 x7 x8 x9 x10 : Option W), σ = [s0, some (.ref 0), x2, x3, x4, x5, x6, x7, x8, x9, x10, none, none] ∧ h = P.o :: r ∧ Pn.ok P (500 * j)
theorem none_fine : ∀ a ∈ ([] : List Rp), a.fine := by simp
theorem mn_none {out : List Rp} (om : ∀ a, a ∈ out ↔ Mn [] a) : out = [] := by
  cases out with
  | nil => rfl
  | cons a l => exact absurd ((om a).mp List.mem_cons_self).1 List.not_mem_nil
theorem pure_law (ns : List Int) (hl : ns.length ≤ 63) : ∃ h', runF (prgOf tb con) 100000 8 "law" [.rol (ns.map W.int)] [] [] = .ok (.bl true) h' := by
  show ∃ h', (Cx (7 + 1)).call "law" [.rol (ns.map W.int)] [] [] = .ok (.bl true) h'
  have go : ((Cx (7 + 1)).call "law" [.rol (ns.map W.int)] [] []).Ok fun w _ => w = .bl true := by
    rw [call_eq l_law, stepF_of (σ := [some (.rol (ns.map W.int)), none, none, none, none, none, none, none, none, none, none, none, none]) rfl]
    refine ok_hide fun Q hQ => ok_fin ?_
    have ep : (Cx 7).call "_law_pen" [.rol (ns.map W.int)] [] [] = .ok (.ref 0) [Pn.o ⟨ns, 0, 0⟩] := by
      show (Cx (6 + 1)).call "_law_pen" _ _ _ = _
      rw [call_eq l_pen]
      exact pen_ok _ hl
    have eb : flaw.body = .seq (.asg (.nm 1) (.call "_law_pen" (.cons (.slot 0) .nil) [] .nil)) (.seq (.for (.nm 2) (.rng (.int 8)) obody)
      (.seq (.ret (.and (.cmp .eq (.call "least" (.cons (.lst .nil) .nil) [] .nil) (.lst .nil)) (.cmp .eq (.call "least" (.cons (.tup .nil) .nil) [] .nil) (.lst .nil)))) .skip)) := rfl
    rw [eb]
    obtain ⟨B, hB⟩ : ∃ B, B = obody := ⟨_, rfl⟩
    rw [← hB]
    have k8 : ∀ h, kRng (.ok (.int 8) h) = .ok (rngW 0 8) h := fun h => rng_small (m := 8) (by omega)
    simp [ep, setT, k8]
    rw [hB]
    refine ok_then (ok_for (oI (some (.rol (ns.map W.int)))) (fun _ _ _ _ => rfl) _ 0 _ _ ⟨⟨ns, 0, 0⟩, [], none, none, none, none, none, none, none, none, none, rfl, rfl, pen_start hl⟩ ?_ ?_)
    · rintro j w hw σ h ⟨P, r, x2, x3, x4, x5, x6, x7, x8, x9, x10, rfl, rfl, o⟩
      have hj := (rng_at hw).1
      obtain ⟨_, _, e, P', r', y3, y4, y5, y6, y7, y8, y9, y10, rfl, rfl, o'⟩ := obody_ok 4 r o (by omega) w (some (.rol (ns.map W.int))) x2 x3 x4 x5 x6 x7 x8 x9 x10
      exact ⟨_, _, e, P', r', _, _, _, _, _, _, _, _, _, rfl, rfl, by rw [show 500 * (0 + j + 1) = 500 * (0 + j) + 500 by omega]; exact o'⟩
    · rintro σ h ⟨P, r, x2, x3, x4, x5, x6, x7, x8, x9, x10, rfl, rfl, o⟩
      obtain ⟨out, e1, _, om⟩ := least_ok 4 none_fine (by simp) (.lit []) (P.o :: r) (fun _ => rfl) (fun _ _ => rfl)
      rw [mn_none om] at e1
      obtain ⟨H1, hH1⟩ : ∃ H1, H1 = P.o :: r ++ [.dead, .lst (([] : List Rp).map rtW)] := ⟨_, rfl⟩
      rw [← hH1] at e1
      have g1 : H1[(P.o :: r).length + 1]? = some (.lst []) := by
        rw [hH1, List.getElem?_append_right (by omega)]; simp
      have q1 := eq_nil (as := []) (snap_at g1) (by simp) (.inr ⟨_, rfl⟩)
      obtain ⟨out2, e2, _, om2⟩ := least_ok 4 none_fine (by simp) (.tup []) H1 (fun _ => rfl) (fun _ _ => rfl)
      rw [mn_none om2] at e2
      obtain ⟨H2, hH2⟩ : ∃ H2, H2 = H1 ++ [.dead, .lst (([] : List Rp).map rtW)] := ⟨_, rfl⟩
      rw [← hH2] at e2
      have g2 : H2[H1.length + 1]? = some (.lst []) := by
        rw [hH2, List.getElem?_append_right (by omega)]; simp
      have q2 := eq_nil (as := []) (snap_at g2) (by simp) (.inr ⟨_, rfl⟩)
      generalize hL : (P.o :: r).length + 1 = L at e1 q1
      simp [setT, e1, q1, e2, q2]
      exact hQ _ _ rfl
  obtain ⟨w, h', e, rfl⟩ := go
  exact ⟨h', e⟩
end Y
open PySem PySem.W PySem.Calls PyProof.Rows
theorem PySem.Challenge.cw_endspassed_k39_least_reports_holds : PySem.Challenge.rw_endspassed_k39_least_reports.Holds := by
  w_on; o_law
  refine HandSHeadRun.head_any (r := OpenLaw.row PySem.Challenge.rw_endspassed_k39_least_reports) (q := view (OpenLaw.row PySem.Challenge.rw_endspassed_k39_least_reports).prog [17]) (H := Y.hk) (ob := Y.ob) (M := 2000) (loose := Y.loose) (d := HandSHeadRun.topDef (OpenLaw.row PySem.Challenge.rw_endspassed_k39_least_reports).prog 17) (kwd := []) Y.ob_eq
    (by kernel_rfl) (fun s => by kernel_rfl) Y.run (by kernel_rfl) (by kernel_rfl) (by kernel_rfl) (by rfl) (by first | assumption | decide +kernel) (by decide +kernel) ⟨rfl, rfl, rfl, rfl, rfl, by decide +kernel⟩ ?hw ?hc
  case hw => w_witness2
  case hc =>
    exact Y.top_end (n := 63) (k := 8) (fuel := 100000) (x := "law") rfl (by decide) (by kernel_rfl) ⟨rfl, by decide, by decide⟩ (by kernel_rfl) Y.matches_ (by decide +kernel) Y.pure_law
