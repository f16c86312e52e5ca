import PyProof.Rows.All
import Wide.All
import OpenK.AllK
import Wide.FinOn
import HandS.List
import PyProof.Rows.TmSorted
import HandS.IsInst
import HandS.Text
import HandS.StrMore
import HandS.Replace
import HandS.Dict
import HandS.DictComp
import HandS.Zip
import PyProof.ReprRoads
import HandS.Comp
import HandS.Exc
import HandS.Flow
import HandS.Iter
import HandS.Zip0
import PyProof.Draws
import PyProof.EnumMake
import HandS.More
import HandS.Wide
import HandS.TupAny
import HandS.TryMany
import HandS.ExcIs
import HandS.Style
import HandS.CallLocal
import HandS.Small
import HandS.ExcInit
import HandS.ExcField
import HandS.Defaults
import KE.KExcIs
import HandS.TupMul
import PyProof.InstSpecial
import HandS.FStr
import HandS.WordsList
import HandS.EndBits
import HandS.Head0
import HandS.Head1
import HandS.Head2
import HandS.HeadEnd
import HandS.HeadHook4
import HandS.Words
import HandS.HeadHook3
import PyProof.StrLawsRepr
import HandS.Codes
import PyProof.PureStr
import PySem.Challenge.RW_liveclaims_k76_forms_of_expressions
set_option Elab.async false
set_option linter.all false
set_option maxRecDepth 100000
set_option maxHeartbeats 4000000
namespace MP
open PySem PySem.Spec PyProof.Rows
/-! ### texts in order: one list alone is sorted of the same texts -/
theorem ltc_irr : ∀ a : List Nat, ltCps a a = false
  | [] => rfl
  | x :: a => by simp [ltCps, ltc_irr a]
theorem ltc_anti : ∀ {a b : List Nat}, ltCps a b = false → ltCps b a = false → a = b
  | [], [], _, _ => rfl
  | [], _ :: _, h, _ => by simp [ltCps] at h
  | _ :: _, [], _, h => by simp [ltCps] at h
  | x :: a, y :: b, h1, h2 => by
    simp only [ltCps, Bool.or_eq_false_iff, decide_eq_false_iff_not, Bool.and_eq_false_iff, beq_eq_false_iff_ne] at h1 h2
    have e : x = y := by omega
    subst e
    have a1 : ltCps a b = false := by
      rcases h1.2 with z | z
      · exact absurd rfl z
      · exact z
    have a2 : ltCps b a = false := by
      rcases h2.2 with z | z
      · exact absurd rfl z
      · exact z
    rw [ltc_anti a1 a2]
theorem ltc_tot : ∀ {a b : List Nat}, ltCps a b = true → ltCps b a = false
  | [], [], h => by simp [ltCps] at h
  | [], _ :: _, _ => rfl
  | _ :: _, [], h => by simp [ltCps] at h
  | x :: a, y :: b, h => by
    simp only [ltCps, Bool.or_eq_true, decide_eq_true_eq, Bool.and_eq_true, beq_iff_eq] at h
    simp only [ltCps, Bool.or_eq_false_iff, decide_eq_false_iff_not, Bool.and_eq_false_iff, beq_eq_false_iff_ne]
    rcases h with h | ⟨rfl, h⟩
    · exact ⟨by omega, .inl (by omega)⟩
    · exact ⟨by omega, .inr (ltc_tot h)⟩
/-- not behind -/
theorem ltc_trans : ∀ {a b c : List Nat}, ltCps b a = false → ltCps c b = false → ltCps c a = false
  | [], _, c, _, _ => by cases c <;> rfl
  | x :: a, [], c, h, _ => by simp [ltCps] at h
  | x :: a, y :: b, [], _, h => by simp [ltCps] at h
  | x :: a, y :: b, z :: c, h1, h2 => by
    simp only [ltCps, Bool.or_eq_false_iff, decide_eq_false_iff_not, Bool.and_eq_false_iff, beq_eq_false_iff_ne] at h1 h2 ⊢
    refine ⟨by omega, ?_⟩
    by_cases e : z = x
    · have e1 : y = x := by omega
      have e2 : z = y := by omega
      refine .inr (ltc_trans (b := b) ?_ ?_)
      · rcases h1.2 with q | q
        · exact absurd e1 q
        · exact q
      · rcases h2.2 with q | q
        · exact absurd e2 q
        · exact q
    · exact .inl e
abbrev leS (a b : Str) : Prop := ltCps b.cps.toList a.cps.toList = false
theorem rising_pw : ∀ (p : Str) (l : List Str), risingS p l = true → (p :: l).Pairwise leS
  | p, [], _ => by simp
  | p, x :: l, h => by
    simp only [risingS, Bool.and_eq_true, Bool.not_eq_true'] at h
    have ih := rising_pw x l h.2
    rw [List.pairwise_cons]
    refine ⟨fun y hy => ?_, ih⟩
    rcases List.mem_cons.mp hy with rfl | hy
    · exact h.1
    · exact ltc_trans h.1 ((List.pairwise_cons.mp ih).1 y hy)
theorem sorted_pw : ∀ (l : List Str), sortedS l = true → l.Pairwise leS
  | [], _ => List.Pairwise.nil
  | x :: l, h => rising_pw x l h
theorem pw_eq : ∀ {l m : List Str}, l.Perm m → l.Pairwise leS → m.Pairwise leS → l = m
  | [], m, p, _, _ => (List.Perm.nil_eq p)
  | a :: l, [], p, _, _ => by cases (List.Perm.eq_nil p)
  | a :: l, b :: m, p, h1, h2 => by
    obtain ⟨g1, k1⟩ := List.pairwise_cons.mp h1
    obtain ⟨g2, k2⟩ := List.pairwise_cons.mp h2
    have e : a = b := by
      have ha : a ∈ b :: m := p.subset List.mem_cons_self
      have hb : b ∈ a :: l := p.symm.subset List.mem_cons_self
      rcases List.mem_cons.mp ha with e | ha
      · exact e
      · rcases List.mem_cons.mp hb with e | hb
        · exact e.symm
        · have := ltc_anti (g2 a ha) (g1 b hb)
          cases a with
          | mk ca =>
            cases b with
            | mk cb => simpa using this
    subst e
    rw [pw_eq (List.Perm.cons_inv p) k1 k2]
def insS (x : Str) : List Str → List Str
  | [] => [x]
  | y :: l => if ltCps y.cps.toList x.cps.toList = true then y :: insS x l else x :: y :: l
def srtS : List Str → List Str
  | [] => []
  | x :: l => insS x (srtS l)
theorem insS_perm (x : Str) : ∀ l, (insS x l).Perm (x :: l)
  | [] => List.Perm.refl _
  | y :: l => by
    unfold insS
    split
    · exact (List.Perm.cons y (insS_perm x l)).trans (List.Perm.swap x y l)
    · exact List.Perm.refl _
theorem srtS_perm : ∀ l, (srtS l).Perm l
  | [] => List.Perm.refl _
  | x :: l => (insS_perm x _).trans (List.Perm.cons x (srtS_perm l))
theorem insS_pw (x : Str) : ∀ {l : List Str}, l.Pairwise leS → (insS x l).Pairwise leS
  | [], _ => by simp [insS]
  | y :: l, h => by
    obtain ⟨g, k⟩ := List.pairwise_cons.mp h
    unfold insS
    split
    · rename_i c
      rw [List.pairwise_cons]
      refine ⟨fun z hz => ?_, insS_pw x k⟩
      rcases List.mem_cons.mp ((insS_perm x l).subset hz) with rfl | hz
      · exact ltc_tot c
      · exact g z hz
    · rename_i c
      rw [Bool.not_eq_true] at c
      rw [List.pairwise_cons]
      refine ⟨fun z hz => ?_, h⟩
      rcases List.mem_cons.mp hz with rfl | hz
      · exact c
      · exact ltc_trans c (g z hz)
theorem srtS_pw : ∀ l, (srtS l).Pairwise leS
  | [] => List.Pairwise.nil
  | x :: l => insS_pw x (srtS_pw l)
/-- what sorted gives -/
theorem srt_uniq {xs ys : List Str} (p : ys.Perm xs) (s : sortedS ys = true) : ys = srtS xs := pw_eq (p.trans (srtS_perm xs).symm) (sorted_pw ys s) (srtS_pw xs)
end MP
/-! A small machine for a part of Python: values, a list of objects as its store, an evaluator by plain recursion. -/
namespace MP
open PySem


/-- what stands in a module's constants -/
inductive Cn where
  | non | bl (b : Bool) | int (i : Int) | str (x : Str) | tup (xs : List Cn) | glo (x : Str)
/-- values: tuples are values; lists, dicts and instances are places of the store; rod: a dict of the module, by texts, that is read alone -/
inductive M where
  | non | bl (b : Bool) | int (i : Int) | str (x : Str) | tup (xs : List M) | rol (xs : List M) | ref (a : Nat) | glo (x : Str) | rod (kvs : List (Str × Cn))
  deriving Inhabited
mutual
def Cn.m : Cn → M
  | .non => .non
  | .bl b => .bl b
  | .int i => .int i
  | .str x => .str x
  | .tup xs => .tup (Cn.ms xs)
  | .glo x => .glo x
def Cn.ms : List Cn → List M
  | [] => []
  | x :: xs => Cn.m x :: Cn.ms xs
end

inductive O where
  | lst (xs : List M) | dic (kvs : List (L2.Key × M)) | ins (c : Str) (fs : List (Str × M))

abbrev Hm := List O
abbrev Ev := List (Option M)

inductive Out (α : Type) where
  | ok (a : α) (h : Hm)
  | exc (c : Str) (fs : List (Str × M)) (h : Hm)

/-- what a statement comes to -/
inductive Fl where
  | next (e : Ev) (h : Hm) | ret (v : M) (h : Hm) | brk (e : Ev) (h : Hm) | cont (e : Ev) (h : Hm) | exc (c : Str) (fs : List (Str × M)) (e : Ev) (h : Hm)

def bindO {α β : Type} (x : Option (Out α)) (f : α → Hm → Option (Out β)) : Option (Out β) :=
  match x with
  | some (.ok a h) => f a h
  | some (.exc c fs h) => some (.exc c fs h)
  | none => none
@[simp] theorem bindO_ok {α β : Type} (a : α) (h : Hm) (f : α → Hm → Option (Out β)) : bindO (some (.ok a h)) f = f a h := rfl
@[simp] theorem bindO_exc {α β : Type} (c : Str) (fs : List (Str × M)) (h : Hm) (f : α → Hm → Option (Out β)) : bindO (some (.exc c fs h)) f = some (.exc c fs h) := rfl
@[simp] theorem bindO_none {α β : Type} (f : α → Hm → Option (Out β)) : bindO none f = none := rfl
theorem bindO_ite {α β : Type} (c : Prop) [Decidable c] (x y : Option (Out α)) (f : α → Hm → Option (Out β)) : bindO (if c then x else y) f = if c then bindO x f else bindO y f := by split <;> rfl

/-- an expression ahead of a statement's rest -/
def bindF {α : Type} (env : Ev) (x : Option (Out α)) (f : α → Hm → Option Fl) : Option Fl :=
  match x with
  | some (.ok a h) => f a h
  | some (.exc c fs h) => some (.exc c fs env h)
  | none => none
@[simp] theorem bindF_ok {α : Type} (env : Ev) (a : α) (h : Hm) (f : α → Hm → Option Fl) : bindF env (some (.ok a h)) f = f a h := rfl
@[simp] theorem bindF_exc {α : Type} (env : Ev) (c : Str) (fs : List (Str × M)) (h : Hm) (f : α → Hm → Option Fl) : bindF env (some (.exc c fs h)) f = some (.exc c fs env h) := rfl
@[simp] theorem bindF_none {α : Type} (env : Ev) (f : α → Hm → Option Fl) : bindF env none f = none := rfl

inductive Bop where | add | sub | mul | fdiv | mod | pow
  deriving DecidableEq
inductive Cop where | eq | ne | lt | le | gt | ge | isin | notin
  deriving DecidableEq
/-- built-in functions of one or two values -/
inductive Bi where | abs | int | repr | str | min2 | max2 | len | sum
  deriving DecidableEq
/-- methods of texts -/
inductive Mt where | join | split | zfill | index | partition | startswith
  deriving DecidableEq
/-- methods of lists -/
inductive Lm where | insert | extend | reverse | pop
  deriving DecidableEq
/-- built-in classes -/
inductive Ty where | none | bool | int | str | tuple | list | dict
  deriving DecidableEq

inductive T where
  | nm (i : Nat)
  | tp (ts : List T)
mutual
def slotsT : T → List Nat
  | .nm i => [i]
  | .tp ts => slotsTs ts
def slotsTs : List T → List Nat
  | [] => []
  | t :: ts => slotsT t ++ slotsTs ts
end
mutual
inductive E where
  | con (v : M)
  | var (i : Nat)
  | glo (x : Str)
  | tup (es : List E)
  | new (l : LE)
  | dic0
  | bin (op : Bop) (a b : E)
  | neg (a : E)
  | cmp (op : Cop) (a b : E)
  | chn (o1 o2 : Cop) (a b c : E)
  | isN (a : E)
  | notN (a : E)
  | isB (n c : Bool) (a : E)
  | not (a : E)
  | and (a b : E)
  | or (a b : E)
  | ife (t a b : E)
  | ix (a i : E)
  | ixl (l : LE) (i : E)
  | sl (a : E) (lo hi : Option E)
  | call (f : Str) (es : List E)
  | cal (i : Nat) (es : List E)
  | callk (f : Str) (es : List E) (ks : List Str) (zs : List E)
  | calk (i : Nat) (es : List E) (ks : List Str) (zs : List E)
  | bi (b : Bi) (es : List E)
  | mt (b : Mt) (o : E) (es : List E)
  | isi (a : E) (c : Ty)
  | isx (i : Nat) (c : Str)
  | exf (i : Nat) (f : Str)
  | all (l : LE)
  | tupo (e : E)
  | dof (e : E)
  | dcm (vs : List Nat) (t : T) (s : IT) (k v : E)
  | dget (o e : E)
  | dpop (o e : E)
  | dpop2 (o e f : E)
  | srt (e : E)
  | fld (o : E) (f : Str)
  | meth (o : E) (f : Str) (es : List E) (ks : List Str) (zs : List E)
  | lmt (b : Lm) (o : E) (es : List E)
  | fmt (e : E)
  | fst (es : List E)
  | any (l : LE)
/-- lists just made -/
inductive LE where
  | lst (es : List E)
  | lc (vs : List Nat) (t : T) (s : IT) (c : Option E) (e : E)
  | of (e : E)
/-- what a for walks -/
inductive IT where
  | v (e : E)
  | l (l : LE)
  | rng (n : E)
  | zip (a b : E)
  | enu (e : E)
end
mutual
inductive S where
  | asg (t : T) (e : E)
  | par (i j : Nat) (a b : E)
  | seti (o i e : E)
  | aug (i : Nat) (op : Bop) (e : E)
  | exp (e : E)
  | app (o e : E)
  | setf (o : E) (f : Str) (e : E)
  | augf (o : E) (f : Str) (op : Bop) (e : E)
  | del (o i : E)
  | ret (e : E)
  | pass | brk | cont
  | ife (t : E) (a b : List S)
  | whl (t : E) (b : List S)
  | for_ (t : T) (it : IT) (b : List S)
  | rai (c : Str) (es : List E)
  | try_ (b : List S) (hs : List Hd)
  | tryk (b : List S) (c : Str) (i j : Nat) (r : List S)
inductive Hd where
  | mk (c : Str) (i : Option Nat) (b : List S)
end

/-! ### what operators do -/
def mulOk (i j : Int) : Bool := decide (i.natAbs < 2 ^ 64) || decide (j.natAbs < 2 ^ 64) || decide (i.natAbs.log2 + j.natAbs.log2 < 1000000)
def binI (op : Bop) (i j : Int) : Option Int :=
  match op with
  | .add => some (i + j)
  | .sub => some (i - j)
  | .mul => if mulOk i j = true then some (i * j) else none
  | .fdiv => if 0 < j ∧ j.natAbs.log2 < 9000 then some (i / j) else none
  | .mod => if 0 < j then some (i % j) else none
  | .pow => if 0 ≤ j ∧ j ≤ 1000000 ∧ i.natAbs < 2 ^ 64 then some (i ^ j.toNat) else none
def okv {α : Type} (v : Option α) (h : Hm) : Option (Out α) := match v with
  | some v => some (.ok v h)
  | none => none
@[simp] theorem okv_some {α : Type} (v : α) (h : Hm) : okv (some v) h = some (.ok v h) := rfl
@[simp] theorem okv_none {α : Type} (h : Hm) : okv (none : Option α) h = none := rfl
/-- a text again and again -/
def repS (x : Str) (n : Int) : Str := if n < 1 then Str.empty else if (n == 1 || x.length == 0) = true then x else ⟨(List.replicate n.toNat x.cps).foldl (· ++ ·) #[]⟩
def binM (op : Bop) (x y : M) (h : Hm) : Option (Out M) :=
  match x, y with
  | .int i, .int j => okv ((binI op i j).map M.int) h
  | .str x, .str y => match op with
    | .add => if x.length + y.length ≤ sizeLine then some (.ok (.str (x ++ y)) h) else none
    | _ => none
  | .str x, .int n => match op with
    | .mul => if -(2 ^ 62) ≤ n ∧ n < 2 ^ 62 ∧ x.length * n.toNat ≤ sizeLine then some (.ok (.str (repS x n)) h) else none
    | _ => none
  | .tup xs, .tup ys => match op with
    | .add => if xs.length + ys.length ≤ sizeLine then some (.ok (.tup (xs ++ ys)) h) else none
    | _ => none
  | .tup xs, .int n => match op with
    | .mul => if xs ≠ [] ∧ 0 ≤ n ∧ n ≤ 1000 ∧ xs.length ≤ 1000 then some (.ok (.tup (List.replicate n.toNat xs).flatten) h) else none
    | _ => none
  | .ref a, .int n => match op, h[a]? with
    | .mul, some (.lst xs) => if -(2 ^ 62) ≤ n ∧ n < 2 ^ 62 ∧ xs.length * n.toNat ≤ sizeLine then some (.ok (.ref h.length) (h ++ [.lst (List.replicate n.toNat xs).flatten])) else none
    | _, _ => none
  | .ref a, .ref b => match op, h[a]?, h[b]? with
    | .add, some (.lst xs), some (.lst ys) => if xs.length + ys.length ≤ sizeLine then some (.ok (.ref h.length) (h ++ [.lst (xs ++ ys)])) else none
    | _, _, _ => none
  | _, _ => none

mutual
def dat (h : Hm) : Nat → M → Option PyData
  | 0, _ => none
  | _ + 1, .non => some .none
  | _ + 1, .bl b => some (.bool b)
  | _ + 1, .int i => some (.int i)
  | _ + 1, .str x => some (.str x)
  | n + 1, .tup xs => (dats h n xs).map PyData.tuple
  | n + 1, .ref a => match h[a]? with
    | some (.lst xs) => (dats h n xs).map PyData.list
    | some (.dic []) => some (.dict [])
    | _ => none
  | _ + 1, _ => none
def dats (h : Hm) : Nat → List M → Option (List PyData)
  | 0, _ => none
  | _ + 1, [] => some []
  | n + 1, x :: xs => match dat h n x, dats h n xs with
    | some d, some ds => some (d :: ds)
    | _, _ => none
end
/-- how deep data is looked at -/
def deep : Nat := 60
/-- how deep data is shown -/
def deepR : Nat := 120

def truth (h : Hm) : M → Option Bool
  | .non => some false
  | .bl b => some b
  | .int i => some (i != 0)
  | .str x => if x.length ≤ sizeLine then some (x.length != 0) else none
  | .tup xs => some (!xs.isEmpty)
  | .ref a => match h[a]? with
    | some (.lst xs) => some (!xs.isEmpty)
    | _ => none
  | _ => none

/-- a value's class -/
def tyM (h : Hm) : M → Option Ty
  | .non => some .none
  | .bl _ => some .bool
  | .int _ => some .int
  | .str _ => some .str
  | .tup _ => some .tuple
  | .ref a => match h[a]? with
    | some (.lst _) => some .list
    | some (.dic _) => some .dict
    | _ => none
  | _ => none
def tyIs (a b : Ty) : Bool := decide (a = b) || (decide (a = .bool) && decide (b = .int))

/-- what the text knows: constants; which class of errors stands under which; exv: the error that an except suite holds (its slot, class, fields) -/
structure Tx where
  con : Str → Option M
  fns : Str → Bool
  sub : Str → Str → Option Bool
  err : Str → Option (List Str)
  kw : Str → Option (Str × List Str) := fun _ => none
  exv : Option (Nat × Str × List (Str × M)) := none
  /-- a plain class and a name that none of its classes has: a field -/
  fld : Str → Str → Bool := fun _ _ => false
  /-- a class's method, called with these keywords: the def that it is -/
  mth : Str → Str → List Str → Option Str := fun _ _ _ => none
  /-- a class that may be made: its __init__ -/
  mak : Str → Option Str := fun _ => none
  /-- isinstance, between two classes of the text that are no errors -/
  isc : Str → Str → Option Bool := fun _ _ => none

/-- the name of a def as it is called by keywords -/
def kwN (f : Str) (ks : List Str) : Str := ks.foldl (fun a k => a ++ ("(" : Str) ++ k) f
/-- is it this truth value -/
def isBM (c : Bool) : M → Bool
  | .bl b => b == c
  | _ => false
/-- the items of a value -/
def itemsM (h : Hm) : M → Option (List M)
  | .tup xs => some xs
  | .rol xs => some xs
  | .ref a => match h[a]? with
    | some (.lst xs) => some xs
    | _ => none
  | _ => none
def eqD (h : Hm) (x y : M) : Option Bool :=
  match x, y with
  | .int i, .int j => some (decide (i = j))
  | .str i, .str j => some (decide (i = j))
  | .bl i, .bl j => some (decide (i = j))
  | .tup xs, .tup [] => some xs.isEmpty
  | x, y => match dat h deep x, dat h deep y with
    | some d, some e => if d.canLay0 = true ∧ e.canLay0 = true then some (PyData.eqv d e) else none
    | _, _ => none
/-- flat values -/
def flatM : M → Option L2.V
  | .non => some .non
  | .bl b => some (.bl b)
  | .int i => some (.int i)
  | .str x => some (.str x)
  | _ => none
def flatMs : List M → Option (List L2.V)
  | [] => some []
  | x :: xs => match flatM x, flatMs xs with
    | some v, some vs => some (v :: vs)
    | _, _ => none
/-! ### dicts -/
def keyM : M → Option L2.Key
  | .int i => some (.inl i)
  | .str x => some (.inr x)
  | _ => none
def getK (kvs : List (L2.Key × M)) (k : L2.Key) : Option M := (kvs.find? fun kv => decide (kv.1 = k)).map (·.2)
/-- in its place, or at the end -/
def putD (kvs : List (L2.Key × M)) (k : L2.Key) (v : M) : List (L2.Key × M) :=
  if (kvs.any fun kv => decide (kv.1 = k)) = true then kvs.map (fun kv => if kv.1 = k then (kv.1, v) else kv) else kvs ++ [(k, v)]
def mergeD (kvs more : List (L2.Key × M)) : List (L2.Key × M) := more.foldl (fun acc kv => putD acc kv.1 kv.2) kvs
def pairM : M → Option (L2.Key × M)
  | .tup [k, v] => (keyM k).map fun q => (q, v)
  | _ => none
def pairsM : List M → Option (List (L2.Key × M))
  | [] => some []
  | x :: xs => match pairM x, pairsM xs with
    | some p, some ps => some (p :: ps)
    | _, _ => none
/-- x in y, by what both show -/
def inD (h : Hm) (x y : M) : Option Bool :=
  match dat h deep x, dat h deep y with
  | some d, some (.list ds) => if d.canLay0 = true ∧ PyData.canLayAll0 ds = true then some (ds.any fun z => PyData.eqv z d) else none
  | some d, some (.tuple ds) => if d.canLay0 = true ∧ PyData.canLayAll0 ds = true then some (ds.any fun z => PyData.eqv z d) else none
  | _, _ => none
def inK (h : Hm) (x y : M) : Option Bool :=
  match y with
  | .rod kvs => match x with
    | .str z => some (kvs.lookup z).isSome
    | _ => none
  | .ref a => match h[a]? with
    | some (.dic kvs) => match keyM x with
      | some k => some (getK kvs k).isSome
      | none => none
    | _ => none
  | _ => none
/-- x in y -/
def inM (h : Hm) (x y : M) : Option Bool :=
  match y with
  | .str j => match x with
    | .str i => some (!(Builtin.Str.occurrences j i 0 j.length 1).isEmpty)
    | _ => none
  | y => match itemsM h y with
    | some xs => match flatM x, flatMs xs with
      | some v, some vs => some (L2.inV v vs)
      | _, _ => inD h x y
    | none => inK h x y
def cmpM (h : Hm) (op : Cop) (x y : M) : Option Bool :=
  match op with
  | .eq => eqD h x y
  | .ne => (eqD h x y).map not
  | .lt => match x, y with
    | .int i, .int j => some (decide (i < j))
    | _, _ => none
  | .le => match x, y with
    | .int i, .int j => some (decide (i ≤ j))
    | _, _ => none
  | .gt => match x, y with
    | .int i, .int j => some (decide (j < i))
    | _, _ => none
  | .ge => match x, y with
    | .int i, .int j => some (decide (j ≤ i))
    | _, _ => none
  | .isin => inM h x y
  | .notin => (inM h x y).map not
def absM : List M → Option M
  | [.int i] => some (.int (if i < 0 then -i else i))
  | _ => none
def intM : List M → Option M
  | [.int i] => some (.int i)
  | [.bl k] => some (.int (if k then 1 else 0))
  | [.str x] => if x.length ≤ 640 then (PySem.intText? x).map M.int else none
  | _ => none
def reprD (h : Hm) (x : M) : Option M :=
  match dat h deepR x with
  | some d => if d.showable = true ∧ d.shown.length ≤ sizeLine then some (.str d.shown) else none
  | none => none
def reprM (h : Hm) : List M → Option M
  | [x] => reprD h x
  | _ => none
def strM : List M → Option M
  | [.int i] => if i.natAbs.log2 < 1920 then some (.str (toString i)) else none
  | _ => none
def min2M : List M → Option M
  | [.int i, .int j] => some (.int (if j < i then j else i))
  | _ => none
/-- ints alone -/
def intsM : List M → Option (List Int)
  | [] => some []
  | .int i :: xs => (intsM xs).map (i :: ·)
  | _ => none
def maxI (n : Int) : List Int → Int
  | [] => n
  | x :: xs => maxI (if x > n then x else n) xs
def lstI (h : Hm) (a : Nat) : Option (List Int) := match h[a]? with
  | some (.lst xs) => intsM xs
  | _ => none
def max2M (h : Hm) : List M → Option M
  | [.int i, .int j] => some (.int (if j > i then j else i))
  | [.ref a] => match lstI h a with
    | some (n :: ns) => some (.int (maxI n ns))
    | _ => none
  | _ => none
def sumM (h : Hm) : List M → Option M
  | [.ref a] => (lstI h a).map fun ns => .int ns.sum
  | _ => none
def lenD (h : Hm) : M → Option M
  | .str x => if x.length ≤ sizeLine then some (.int x.length) else none
  | .tup xs => some (.int xs.length)
  | .rol xs => some (.int xs.length)
  | .ref a => match h[a]? with
    | some (.lst xs) => some (.int xs.length)
    | some (.dic kvs) => if kvs.length < 2 ^ 62 then some (.int kvs.length) else none
    | _ => none
  | _ => none
def lenM (h : Hm) : List M → Option M
  | [x] => lenD h x
  | _ => none
def biM (h : Hm) (b : Bi) (xs : List M) : Option M :=
  match b with
  | .abs => absM xs
  | .int => intM xs
  | .repr => reprM h xs
  | .str => strM xs
  | .min2 => min2M xs
  | .max2 => max2M h xs
  | .len => lenM h xs
  | .sum => sumM h xs
/-- an instance: its class, its fields -/
def insM (h : Hm) : M → Option (Str × List (Str × M))
  | .ref a => match h[a]? with
    | some (.ins c fs) => some (c, fs)
    | _ => none
  | _ => none
def putFM (f : Str) (v : M) : List (Str × M) → List (Str × M)
  | [] => [(f, v)]
  | (g, x) :: r => if g = f then (g, v) :: r else (g, x) :: putFM f v r
/-- e.f -/
def fldM (P : Tx) (h : Hm) (x : M) (f : Str) : Option M :=
  match insM h x with
  | some (c, fs) => if P.fld c f = true then fs.lookup f else none
  | none => none
/-- e.f = v -/
def setfM (P : Tx) (h : Hm) (x : M) (f : Str) (v : M) : Option Hm :=
  match x with
  | .ref a => match h[a]? with
    | some (.ins c fs) => if P.fld c f = true ∧ fs.length < 1000 then some (h.set a (.ins c (putFM f v fs))) else none
    | _ => none
  | _ => none
/-- an instance's class -/
def clsM (h : Hm) (x : M) : Option Str := (insM h x).map (·.1)
def augI (op : Bop) (a b : Int) : Option Int := match op with
  | .add => some (a + b)
  | .sub => some (a - b)
  | _ => none
/-- is it of this class of the text -/
def iscM (P : Tx) (h : Hm) (c : Str) : M → Option Bool
  | .ref a => match h[a]? with
    | some (.ins d _) => P.isc d c
    | some _ => if P.isc c c = some true then some false else none
    | none => none
  | .rol _ => none
  | .glo _ => none
  | .rod _ => none
  | _ => if P.isc c c = some true then some false else none
/-- the own __len__ -/
def lenI (P : Tx) (h : Hm) (b : Bi) (xs : List M) : Option Str :=
  match b, xs with
  | .len, [x] => match insM h x with
    | some (c, fs) => P.mth c "__len__" []
    | none => none
  | _, _ => none
/-- a value, or what stands for it -/
def okw {α : Type} (v : Option α) (h : Hm) (r : Option (Out α)) : Option (Out α) := match v with
  | some v => some (.ok v h)
  | none => r
@[simp] theorem okw_some {α : Type} (v : α) (h : Hm) (r : Option (Out α)) : okw (some v) h r = some (.ok v h) := rfl
@[simp] theorem okw_none {α : Type} (h : Hm) (r : Option (Out α)) : okw (none : Option α) h r = r := rfl
/-- a length as it is told -/
def lenO : Option (Out M) → Option (Out M)
  | some (.ok (.int n) h) => if 0 ≤ n ∧ n < 2 ^ 62 then some (.ok (.int n) h) else none
  | _ => none
/-- a row of either kind: is it a tuple, its items -/
def rowM (h : Hm) : M → Option (Bool × List M)
  | .tup xs => some (true, xs)
  | .rol xs => some (false, xs)
  | .ref a => match h[a]? with
    | some (.lst xs) => some (false, xs)
    | _ => none
  | _ => none
/-- each item with its place -/
def enuM : Nat → List M → List M
  | _, [] => []
  | i, x :: xs => .tup [.int (i : Nat), x] :: enuM (i + 1) xs
/-- the turns of a dict comprehension -/
def dcGo (f : M → Hm → Option (Out (L2.Key × M))) : List M → List (L2.Key × M) → Hm → Option (Out (List (L2.Key × M)))
  | [], acc, h => some (.ok acc h)
  | x :: xs, acc, h => match f x h with
    | some (.ok p h') => if acc.length < sizeLine then dcGo f xs (putD acc p.1 p.2) h' else none
    | _ => none
/-- what is walked: a text sign by sign, a row item by item -/
def iterM (h : Hm) : M → Option (List M)
  | .str x => some (x.cps.toList.map fun c => .str ⟨#[c]⟩)
  | x => itemsM h x
def ixM (h : Hm) (x j : M) : Option M :=
  match x, j with
  | .str x, .int j => if x.length ≤ sizeLine then (L2.atI x.cps.toList j).map fun c => .str ⟨#[c]⟩ else none
  | .ref a, j => match h[a]? with
    | some (.dic kvs) => match keyM j with
      | some k => getK kvs k
      | none => none
    | some (.lst xs) => match j with
      | .int j => L2.atI xs j
      | _ => none
    | _ => none
  | .rod kvs, .str z => (kvs.lookup z).map Cn.m
  | x, .int j => (itemsM h x).bind fun xs => L2.atI xs j
  | _, _ => none
def cut {α : Type} (xs : List α) (lo hi : Option Int) : List α := (xs.drop (HT.sIx xs.length 0 lo)).take (HT.sIx xs.length xs.length hi - HT.sIx xs.length 0 lo)
def slM (h : Hm) (x : M) (lo hi : Option Int) : Option (Out M) :=
  match x with
  | .str x => if x.length ≤ sizeLine then some (.ok (.str ⟨(cut x.cps.toList lo hi).toArray⟩) h) else none
  | .tup xs => some (.ok (.tup (cut xs lo hi)) h)
  | x => match itemsM h x with
    | some xs => some (.ok (.ref h.length) (h ++ [.lst (cut xs lo hi)]))
    | none => none
def setM (h : Hm) (o i v : M) : Option Hm :=
  match o with
  | .ref a => match h[a]? with
    | some (.lst xs) => match i with
      | .int j => match L2.ixN xs.length j with
        | some k => some (h.set a (.lst (xs.set k v)))
        | none => none
      | _ => none
    | some (.dic kvs) => match keyM i with
      | some k => if kvs.length < sizeLine then some (h.set a (.dic (putD kvs k v))) else none
      | none => none
    | _ => none
  | _ => none
def appM (h : Hm) (o v : M) : Option Hm :=
  match o with
  | .ref a => match h[a]? with
    | some (.lst xs) => if xs.length < sizeLine then some (h.set a (.lst (xs ++ [v]))) else none
    | _ => none
  | _ => none
/-- texts alone -/
def strMs : List M → Option (List Str)
  | [] => some []
  | .str x :: xs => (strMs xs).map (x :: ·)
  | _ => none
def mtM (b : Mt) (a : Str) (xs : List M) (h : Hm) : Option (Out M) :=
  match b, xs with
  | .join, [x] => match itemsM h x with
    | some zs => match strMs zs with
      | some ys => if (ys.map (·.length)).sum + ys.length * a.length ≤ 16777216 then some (.ok (.str (Txt.join a ys)) h) else none
      | none => none
    | none => none
  | .split, [.str b] => if (b.length == 0) = false ∧ a.length + 2 ≤ sizeLine then some (.ok (.ref h.length) (h ++ [.lst ((Txt.split a b).map M.str)])) else none
  | .zfill, [.int i] => if PadOk i = true then some (.ok (.str (Txt.zfill a i)) h) else none
  | .index, [.str b] => match Builtin.Str.occurrences a b 0 a.length 1 with
    | i :: _ => some (.ok (.int (i : Nat)) h)
    | [] => none
  | .partition, [.str b] => if (b.length == 0) = false ∧ a.length ≤ sizeLine then some (.ok (.tup [.str (Txt.partition a b).1, .str (Txt.partition a b).2.1, .str (Txt.partition a b).2.2]) h) else none
  | .startswith, [.str b] => some (.ok (.bl (Txt.startswith a b)) h)
  | _, _ => none
def isLst (h : Hm) : M → Bool
  | .ref a => match h[a]? with
    | some (.lst _) => true
    | _ => false
  | _ => false
def isDic (h : Hm) : M → Bool
  | .ref a => match h[a]? with
    | some (.dic _) => true
    | _ => false
  | _ => false
/-- methods of lists -/
def lmM (h : Hm) (b : Lm) (o : M) (xs : List M) : Option (Out M) :=
  match o with
  | .ref a => match h[a]? with
    | some (.lst ys) => (match b, xs with
      | .insert, [.int j, v] => if ys.length < sizeLine ∧ 0 ≤ j ∧ j < 2 ^ 63 then some (.ok .non (h.set a (.lst (ys.take j.toNat ++ [v] ++ ys.drop j.toNat)))) else none
      | .extend, [.ref c] => (match h[c]? with
        | some (.lst zs) => if ys.length + zs.length ≤ sizeLine then some (.ok .non (h.set a (.lst (ys ++ zs)))) else none
        | _ => none)
      | .reverse, [] => some (.ok .non (h.set a (.lst ys.reverse)))
      | .pop, [] => (match ys[ys.length - 1]? with
        | some y => some (.ok y (h.set a (.lst ys.dropLast)))
        | none => none)
      | _, _ => none)
    | _ => none
  | _ => none
/-- a part of an f-string -/
def fmtM : M → Option M
  | .str x => if x.length ≤ sizeLine then some (.str x) else none
  | .int i => if i.natAbs.log2 < 1920 then some (.str (toString i)) else none
  | _ => none
def dropD (kvs : List (L2.Key × M)) (k : L2.Key) : List (L2.Key × M) := kvs.filter fun kv => decide (kv.1 ≠ k)
def dGet (h : Hm) (x y : M) : Option M :=
  match x with
  | .ref a => match h[a]?, keyM y with
    | some (.dic kvs), some k => some ((getK kvs k).getD .non)
    | _, _ => none
  | _ => none
def dPop (h : Hm) (x y : M) (z : Option M) : Option (Out M) :=
  match x with
  | .ref a => match h[a]?, keyM y with
    | some (.dic kvs), some k => match getK kvs k with
      | some v => some (.ok v (h.set a (.dic (dropD kvs k))))
      | none => match z with
        | some z => some (.ok z h)
        | none => none
    | _, _ => none
  | _ => none
/-- del d[k] -/
def delM (h : Hm) (o i : M) : Option Hm :=
  match o with
  | .ref a => match h[a]?, keyM i with
    | some (.dic kvs), some k => if (getK kvs k).isSome = true then some (h.set a (.dic (dropD kvs k))) else none
    | _, _ => none
  | _ => none
def strKs : List (L2.Key × M) → Option (List Str)
  | [] => some []
  | (.inr x, _) :: r => (strKs r).map (x :: ·)
  | _ => none
def srtM (h : Hm) : M → Option (List Str)
  | .ref a => match h[a]? with
    | some (.lst xs) => strMs xs
    | some (.dic kvs) => strKs kvs
    | _ => none
  | _ => none
/-- what must stay while a value is walked -/
def guardM (h : Hm) : M → List (Nat × O)
  | .ref a => match h[a]? with
    | some o => [(a, o)]
    | none => []
  | _ => []
def kept (h : Hm) (gs : List (Nat × O)) : Prop := ∀ g ∈ gs, h[g.1]? = some g.2
def asgN (i : Nat) (v : M) (env : Ev) : Option Ev := if i < env.length then some (env.set i (some v)) else none
mutual
def asgT : T → M → Ev → Option Ev
  | .nm i, v, env => asgN i v env
  | .tp ts, .tup xs, env => asgTs ts xs env
  | .tp _, _, _ => none
def asgTs : List T → List M → Ev → Option Ev
  | [], [], env => some env
  | t :: ts, x :: xs, env => match asgT t x env with
    | some env' => asgTs ts xs env'
    | none => none
  | _, _, _ => none
end
def wipeM (env : Ev) : List Nat → Ev
  | [] => env
  | v :: vs => (wipeM env vs).set v none
/-- all of a list of truth values -/
def allB : List M → Option Bool
  | [] => some true
  | .bl b :: xs => (allB xs).map fun r => b && r
  | _ => none

/-- one of a list of truth values -/
def anyB : List M → Option Bool
  | [] => some false
  | .bl b :: xs => (anyB xs).map fun r => b || r
  | _ => none

/-- a call of a name of the module -/
abbrev Cal := Str → List M → Hm → Option (Out M)
/-- c(..): a new instance, then its __init__ -/
def makM (C : Cal) (c q : Str) (xs : List M) (h : Hm) : Option (Out M) :=
  match C q (.ref h.length :: xs) (h ++ [.ins c []]) with
  | some (.ok .non h2) => some (.ok (.ref h.length) h2)
  | some (.exc d fs h2) => some (.exc d fs h2)
  | _ => none

/-- the turns of a comprehension -/
def lcGo (f : M → Hm → Option (Out (Option M))) : List M → List M → Hm → Option (Out (List M))
  | [], acc, h => some (.ok acc h)
  | x :: xs, acc, h => match f x h with
    | some (.ok (some y) h') => if acc.length < sizeLine then lcGo f xs (acc ++ [y]) h' else none
    | some (.ok none h') => lcGo f xs acc h'
    | some (.exc c fs h') => some (.exc c fs h')
    | none => none

mutual
noncomputable def evE (P : Tx) (C : Cal) : E → Ev → Hm → Option (Out M)
  | .con v, _, h => some (.ok v h)
  | .var i, env, h => match env[i]? with
    | some (some v) => some (.ok v h)
    | _ => none
  | .glo x, _, h => okv (P.con x) h
  | .tup es, env, h => bindO (evEs P C es env h) fun xs h1 => if xs.length ≤ sizeLine then some (.ok (.tup xs) h1) else none
  | .new l, env, h => bindO (evL P C l env h) fun xs h1 => some (.ok (.ref h1.length) (h1 ++ [.lst xs]))
  | .dic0, _, h => some (.ok (.ref h.length) (h ++ [.dic []]))
  | .bin op a b, env, h => bindO (evE P C a env h) fun x h1 => bindO (evE P C b env h1) fun y h2 => binM op x y h2
  | .neg a, env, h => bindO (evE P C a env h) fun x h1 => match x with
    | .int i => some (.ok (.int (-i)) h1)
    | _ => none
  | .cmp op a b, env, h => bindO (evE P C a env h) fun x h1 => bindO (evE P C b env h1) fun y h2 => okv ((cmpM h2 op x y).map M.bl) h2
  | .chn o1 o2 a b c, env, h => bindO (evE P C a env h) fun x h1 => bindO (evE P C b env h1) fun y h2 => match cmpM h2 o1 x y with
    | some true => bindO (evE P C c env h2) fun z h3 => okv ((cmpM h3 o2 y z).map M.bl) h3
    | some false => some (.ok (.bl false) h2)
    | none => none
  | .isN a, env, h => bindO (evE P C a env h) fun x h1 => match x with
    | .non => some (.ok (.bl true) h1)
    | _ => some (.ok (.bl false) h1)
  | .notN a, env, h => bindO (evE P C a env h) fun x h1 => match x with
    | .non => some (.ok (.bl false) h1)
    | _ => some (.ok (.bl true) h1)
  | .isB n c a, env, h => bindO (evE P C a env h) fun x h1 => some (.ok (.bl (isBM c x == n)) h1)
  | .not a, env, h => bindO (evE P C a env h) fun x h1 => match truth h1 x with
    | some b => some (.ok (.bl (!b)) h1)
    | none => none
  | .and a b, env, h => bindO (evE P C a env h) fun x h1 => match truth h1 x with
    | some true => evE P C b env h1
    | some false => some (.ok x h1)
    | none => none
  | .or a b, env, h => bindO (evE P C a env h) fun x h1 => match truth h1 x with
    | some true => some (.ok x h1)
    | some false => evE P C b env h1
    | none => none
  | .ife t a b, env, h => bindO (evE P C t env h) fun x h1 => match truth h1 x with
    | some true => evE P C a env h1
    | some false => evE P C b env h1
    | none => none
  | .ix a i, env, h => bindO (evE P C a env h) fun x h1 => bindO (evE P C i env h1) fun j h2 => okv (ixM h2 x j) h2
  | .ixl l i, env, h => bindO (evL P C l env h) fun xs h1 => bindO (evE P C i env h1) fun j h2 => match j with
    | .int j => okv (L2.atI xs j) h2
    | _ => none
  | .sl a lo hi, env, h => bindO (evE P C a env h) fun x h1 => bindO (evO P C lo env h1) fun i h2 => bindO (evO P C hi env h2) fun j h3 => slM h3 x i j
  | .call f es, env, h => if P.fns f = true then bindO (evEs P C es env h) fun xs h1 => C f xs h1 else match P.mak f with
    | some q => bindO (evEs P C es env h) fun xs h1 => makM C f q xs h1
    | none => none
  | .cal i es, env, h => match env[i]? with
    | some (some (.glo f)) => if P.fns f = true then bindO (evEs P C es env h) fun xs h1 => C f xs h1 else none
    | _ => none
  | .callk f es ks zs, env, h => if P.kw (kwN f ks) = some (f, ks) then bindO (evEs P C es env h) fun xs h1 => bindO (evEs P C zs env h1) fun ys h2 => C (kwN f ks) (xs ++ ys) h2 else none
  | .calk i es ks zs, env, h => match env[i]? with
    | some (some (.glo f)) => if P.kw (kwN f ks) = some (f, ks) then bindO (evEs P C es env h) fun xs h1 => bindO (evEs P C zs env h1) fun ys h2 => C (kwN f ks) (xs ++ ys) h2 else none
    | _ => none
  | .bi b es, env, h => bindO (evEs P C es env h) fun xs h1 => okw (biM h1 b xs) h1 (match lenI P h1 b xs with
    | some q => lenO (C q xs h1)
    | none => none)
  | .mt b o es, env, h => bindO (evE P C o env h) fun x h1 => match x with
    | .str a => bindO (evEs P C es env h1) fun xs h2 => mtM b a xs h2
    | _ => none
  | .isi a c, env, h => bindO (evE P C a env h) fun x h1 => match tyM h1 x with
    | some t => some (.ok (.bl (tyIs t c)) h1)
    | none => none
  | .isx i c, env, h => match env[i]? with
    | some none => match P.exv with
      | some (j, d, _) => if i = j then okv ((P.sub d c).map M.bl) h else none
      | none => none
    | some (some x) => okv ((iscM P h c x).map M.bl) h
    | none => none
  | .exf i f, env, h => match env[i]? with
    | some none => match P.exv with
      | some (j, d, fs) => match P.err d with
        | some ns => if i = j ∧ f ∈ ns then okv (fs.lookup f) h else none
        | none => none
      | none => none
    | some (some x) => okv (fldM P h x f) h
    | none => none
  | .fld o f, env, h => bindO (evE P C o env h) fun x h1 => okv (fldM P h1 x f) h1
  | .meth o f es ks zs, env, h => bindO (evE P C o env h) fun x h1 => match insM h1 x with
    | some (c, fs) => match P.mth c f ks, fs.lookup f with
      | some q, none => bindO (evEs P C es env h1) fun xs h2 => bindO (evEs P C zs env h2) fun ys h3 => C q (x :: (xs ++ ys)) h3
      | _, _ => none
    | none => none
  | .all l, env, h => bindO (evL P C l env h) fun xs h1 => okv ((allB xs).map M.bl) h1
  | .any l, env, h => bindO (evL P C l env h) fun xs h1 => okv ((anyB xs).map M.bl) h1
  | .lmt b o es, env, h => bindO (evE P C o env h) fun x h1 => if isLst h1 x = true then bindO (evEs P C es env h1) fun xs h2 => lmM h2 b x xs else none
  | .fmt e, env, h => bindO (evE P C e env h) fun x h1 => okv (fmtM x) h1
  | .fst es, env, h => bindO (evF P C es Str.empty env h) fun x h1 => some (.ok (.str x) h1)
  | .tupo e, env, h => bindO (evE P C e env h) fun x h1 => okv ((itemsM h1 x).map M.tup) h1
  | .dof e, env, h => bindO (evE P C e env h) fun x h1 => match x with
    | .ref a => match h1[a]? with
      | some (.lst xs) => match pairsM xs with
        | some kvs => some (.ok (.ref h1.length) (h1 ++ [.dic (mergeD [] kvs)]))
        | none => none
      | _ => none
    | _ => none
  | .srt e, env, h => bindO (evE P C e env h) fun x h1 => match srtM h1 x with
    | some ss => if ss.length < 64 then some (.ok (.ref h1.length) (h1 ++ [.lst ((srtS ss).map M.str)])) else none
    | none => none
  | .dget o e, env, h => bindO (evE P C o env h) fun x h1 => if isDic h1 x = true then bindO (evE P C e env h1) fun y h2 => okv (dGet h2 x y) h2 else none
  | .dpop o e, env, h => bindO (evE P C o env h) fun x h1 => if isDic h1 x = true then bindO (evE P C e env h1) fun y h2 => dPop h2 x y none else none
  | .dpop2 o e f, env, h => bindO (evE P C o env h) fun x h1 => if isDic h1 x = true then bindO (evE P C e env h1) fun y h2 => bindO (evE P C f env h2) fun z h3 => dPop h3 x y (some z) else none
  | .dcm vs t s k v, env, h => bindO (evI P C s env h) fun xg h1 => bindO (dcGo (fun y h2 => open Classical in if kept h2 xg.2 then match asgT t y (wipeM env vs) with
        | some env2 => bindO (evE P C k env2 h2) fun a h3 => bindO (evE P C v env2 h3) fun z h4 => match keyM a with
          | some q => some (.ok (q, z) h4)
          | none => none
        | none => none else none) xg.1 [] h1) fun kvs h2 => open Classical in if kept h2 xg.2 then some (.ok (.ref h2.length) (h2 ++ [.dic kvs])) else none
noncomputable def evEs (P : Tx) (C : Cal) : List E → Ev → Hm → Option (Out (List M))
  | [], _, h => some (.ok [] h)
  | e :: es, env, h => bindO (evE P C e env h) fun x h1 => bindO (evEs P C es env h1) fun xs h2 => some (.ok (x :: xs) h2)
/-- texts one behind the other -/
noncomputable def evF (P : Tx) (C : Cal) : List E → Str → Ev → Hm → Option (Out Str)
  | [], acc, _, h => some (.ok acc h)
  | e :: es, acc, env, h => bindO (evE P C e env h) fun x h1 => match x with
    | .str y => if (acc ++ y).length ≤ sizeLine then evF P C es (acc ++ y) env h1 else none
    | _ => none
noncomputable def evO (P : Tx) (C : Cal) : Option E → Ev → Hm → Option (Out (Option Int))
  | none, _, h => some (.ok none h)
  | some e, env, h => bindO (evE P C e env h) fun x h1 => match x with
    | .int i => some (.ok (some i) h1)
    | _ => none
noncomputable def evL (P : Tx) (C : Cal) : LE → Ev → Hm → Option (Out (List M))
  | .lst es, env, h => bindO (evEs P C es env h) fun xs h1 => if xs.length ≤ sizeLine then some (.ok xs h1) else none
  | .lc vs t s c e, env, h => bindO (evI P C s env h) fun xg h1 => bindO (lcGo (fun y h2 => open Classical in if kept h2 xg.2 then match asgT t y (wipeM env vs) with
        | some env2 => bindO (evC P C c env2 h2) fun k h3 => if k = true then bindO (evE P C e env2 h3) fun z h4 => some (.ok (some z) h4) else some (.ok none h3)
        | none => none else none) xg.1 [] h1) fun ys h2 => open Classical in if kept h2 xg.2 then some (.ok ys h2) else none
  | .of e, env, h => bindO (evE P C e env h) fun x h1 => okv (itemsM h1 x) h1
/-- what a for walks: the items, what must stay -/
noncomputable def evI (P : Tx) (C : Cal) : IT → Ev → Hm → Option (Out (List M × List (Nat × O)))
  | .v e, env, h => bindO (evE P C e env h) fun x h1 => match iterM h1 x with
    | some xs => some (.ok (xs, guardM h1 x) h1)
    | none => none
  | .l l, env, h => bindO (evL P C l env h) fun xs h1 => some (.ok (xs, []) h1)
  | .rng e, env, h => bindO (evE P C e env h) fun x h1 => match x with
    | .int j => if -(2 ^ 62) ≤ j ∧ j < 2 ^ 62 then some (.ok ((List.range j.toNat).map fun i => .int (i : Nat), []) h1) else none
    | _ => none
  | .zip a b, env, h => bindO (evE P C a env h) fun x h1 => bindO (evE P C b env h1) fun y h2 => match rowM h2 x, rowM h2 y with
    | some (p, xs), some (q, ys) => if p = q then some (.ok (List.zipWith (fun x y => M.tup [x, y]) xs ys, guardM h2 x ++ guardM h2 y) h2) else none
    | _, _ => none
  | .enu e, env, h => bindO (evE P C e env h) fun x h1 => match rowM h1 x with
    | some (_, xs) => some (.ok (enuM 0 xs, guardM h1 x) h1)
    | none => none
noncomputable def evC (P : Tx) (C : Cal) : Option E → Ev → Hm → Option (Out Bool)
  | none, _, h => some (.ok true h)
  | some e, env, h => bindO (evE P C e env h) fun x h1 => okv (truth h1 x) h1
end
/-- a test -/
noncomputable def evT (P : Tx) (C : Cal) (e : E) (env : Ev) (h : Hm) : Option (Out Bool) := bindO (evE P C e env h) fun x h1 => okv (truth h1 x) h1

/-! ### statements -/
/-- the turns of a for -/
noncomputable def forGo (f : M → Ev → Hm → Option Fl) (gs : List (Nat × O)) : List M → Ev → Hm → Option Fl
  | [], env, h => open Classical in if kept h gs then some (.next env h) else none
  | x :: xs, env, h => open Classical in if kept h gs then match f x env h with
    | some (.next env' h') => forGo f gs xs env' h'
    | some (.cont env' h') => forGo f gs xs env' h'
    | some (.brk env' h') => some (.next env' h')
    | r => r else none
/-- n turns of a while at most -/
def whlN (t : Ev → Hm → Option (Out Bool)) (b : Ev → Hm → Option Fl) : Nat → Ev → Hm → Option Fl
  | 0, _, _ => none
  | n + 1, env, h => bindF env (t env h) fun k h1 => if k = true then match b env h1 with
    | some (.next env' h') => whlN t b n env' h'
    | some (.cont env' h') => whlN t b n env' h'
    | some (.brk env' h') => some (.next env' h')
    | r => r else some (.next env h1)
open Classical in
noncomputable def whl (t : Ev → Hm → Option (Out Bool)) (b : Ev → Hm → Option Fl) (env : Ev) (h : Hm) : Option Fl :=
  if p : ∃ r n, whlN t b n env h = some r then some p.choose else none
theorem whlN_more {t : Ev → Hm → Option (Out Bool)} {b : Ev → Hm → Option Fl} : ∀ {n : Nat} {env : Ev} {h : Hm} {r : Fl}, whlN t b n env h = some r → ∀ m, n ≤ m → whlN t b m env h = some r
  | 0, _, _, _, e, _, _ => by cases e
  | n + 1, env, h, r, e, m, hm => by
    obtain ⟨m, rfl⟩ : ∃ k, m = k + 1 := ⟨m - 1, by omega⟩
    have ih := fun env h r e => whlN_more (t := t) (b := b) (n := n) (env := env) (h := h) (r := r) e m (by omega)
    unfold whlN at e ⊢
    cases ht : t env h with
    | none => rw [ht] at e; cases e
    | some o =>
      rw [ht] at e
      cases o with
      | exc c fs h1 => exact e
      | ok k h1 =>
        simp only [bindF_ok] at e ⊢
        cases k with
        | false => exact e
        | true =>
          simp only [if_true] at e ⊢
          cases hb : b env h1 with
          | none => rw [hb] at e; cases e
          | some f =>
            rw [hb] at e
            cases f with
            | next e1 h2 => exact ih _ _ _ e
            | cont e1 h2 => exact ih _ _ _ e
            | brk e1 h2 => exact e
            | ret v h2 => exact e
            | exc c fs e1 h2 => exact e
theorem whl_of {t : Ev → Hm → Option (Out Bool)} {b : Ev → Hm → Option Fl} {n : Nat} {env : Ev} {h : Hm} {r : Fl} (e : whlN t b n env h = some r) : whl t b env h = some r := by
  have p : ∃ r n, whlN t b n env h = some r := ⟨r, n, e⟩
  unfold whl
  rw [dif_pos p]
  obtain ⟨m, q⟩ := p.choose_spec
  have a := whlN_more q (max n m) (Nat.le_max_right _ _)
  rw [whlN_more e (max n m) (Nat.le_max_left _ _)] at a
  exact a.symm
theorem whl_some {t : Ev → Hm → Option (Out Bool)} {b : Ev → Hm → Option Fl} {env : Ev} {h : Hm} {r : Fl} (e : whl t b env h = some r) : ∃ n, whlN t b n env h = some r := by
  unfold whl at e
  split at e
  · rename_i p
    cases e
    exact p.choose_spec
  · cases e
/-- one turn -/
theorem whl_eq (t : Ev → Hm → Option (Out Bool)) (b : Ev → Hm → Option Fl) (env : Ev) (h : Hm) : whl t b env h = bindF env (t env h) fun k h1 => if k = true then match b env h1 with
    | some (.next env' h') => whl t b env' h'
    | some (.cont env' h') => whl t b env' h'
    | some (.brk env' h') => some (.next env' h')
    | r => r else some (.next env h1) := by
  have key : ∀ r, whl t b env h = some r ↔ (bindF env (t env h) fun k h1 => if k = true then match b env h1 with
    | some (.next env' h') => whl t b env' h'
    | some (.cont env' h') => whl t b env' h'
    | some (.brk env' h') => some (.next env' h')
    | r => r else some (.next env h1)) = some r := by
    intro r
    constructor
    · intro e
      obtain ⟨n, e⟩ := whl_some e
      cases n with
      | zero => cases e
      | succ n =>
        unfold whlN at e
        cases ht : t env h with
        | none => rw [ht] at e; cases e
        | some o =>
          rw [ht] at e
          cases o with
          | exc c fs h1 => exact e
          | ok k h1 =>
            simp only [bindF_ok] at e ⊢
            cases k with
            | false => exact e
            | true =>
              simp only [if_true] at e ⊢
              cases hb : b env h1 with
              | none => rw [hb] at e; cases e
              | some f =>
                rw [hb] at e
                cases f with
                | next e1 h2 => exact whl_of e
                | cont e1 h2 => exact whl_of e
                | brk e1 h2 => exact e
                | ret v h2 => exact e
                | exc c fs e1 h2 => exact e
    · intro e
      cases ht : t env h with
      | none => rw [ht] at e; cases e
      | some o =>
        rw [ht] at e
        cases o with
        | exc c fs h1 => refine whl_of (n := 1) ?_; unfold whlN; rw [ht]; exact e
        | ok k h1 =>
          simp only [bindF_ok] at e
          cases k with
          | false => refine whl_of (n := 1) ?_; unfold whlN; rw [ht]; exact e
          | true =>
            simp only [if_true] at e
            cases hb : b env h1 with
            | none => rw [hb] at e; cases e
            | some f =>
              rw [hb] at e
              cases f with
              | next e1 h2 =>
                obtain ⟨n, q⟩ := whl_some (show whl t b e1 h2 = some r from e)
                refine whl_of (n := n + 1) ?_
                unfold whlN
                rw [ht]
                simp only [bindF_ok, if_true, hb]
                exact q
              | cont e1 h2 =>
                obtain ⟨n, q⟩ := whl_some (show whl t b e1 h2 = some r from e)
                refine whl_of (n := n + 1) ?_
                unfold whlN
                rw [ht]
                simp only [bindF_ok, if_true, hb]
                exact q
              | brk e1 h2 => refine whl_of (n := 1) ?_; unfold whlN; rw [ht]; simp only [bindF_ok, if_true, hb]; exact e
              | ret v h2 => refine whl_of (n := 1) ?_; unfold whlN; rw [ht]; simp only [bindF_ok, if_true, hb]; exact e
              | exc c fs e1 h2 => refine whl_of (n := 1) ?_; unfold whlN; rw [ht]; simp only [bindF_ok, if_true, hb]; exact e
  cases q : whl t b env h with
  | some r => exact ((key r).mp q).symm
  | none =>
    cases q2 : (bindF env (t env h) fun k h1 => if k = true then match b env h1 with
      | some (.next env' h') => whl t b env' h'
      | some (.cont env' h') => whl t b env' h'
      | some (.brk env' h') => some (.next env' h')
      | r => r else some (.next env h1)) with
    | none => rfl
    | some r => rw [(key r).mpr q2] at q; cases q
mutual
noncomputable def exS (P : Tx) (C : Cal) : S → Ev → Hm → Option Fl
  | .asg t e, env, h => bindF env (evE P C e env h) fun x h1 => match asgT t x env with
    | some env' => some (.next env' h1)
    | none => none
  | .par i j a b, env, h => bindF env (evE P C a env h) fun x h1 => bindF env (evE P C b env h1) fun y h2 => if i < env.length ∧ j < env.length then some (.next ((env.set i (some x)).set j (some y)) h2) else none
  | .seti o i e, env, h => bindF env (evE P C e env h) fun v h1 => bindF env (evE P C o env h1) fun x h2 => bindF env (evE P C i env h2) fun j h3 => match setM h3 x j v with
    | some h4 => some (.next env h4)
    | none => none
  | .aug i op e, env, h => match env[i]? with
    | some (some x) => bindF env (evE P C e env h) fun y h1 => match x, y with
      | .int a, .int b => match binI op a b with
        | some c => some (.next (env.set i (some (.int c))) h1)
        | none => none
      | _, _ => none
    | _ => none
  | .exp e, env, h => bindF env (evE P C e env h) fun _ h1 => some (.next env h1)
  | .app o e, env, h => bindF env (evE P C o env h) fun x h1 => if isLst h1 x = true then bindF env (evE P C e env h1) fun v h2 => match appM h2 x v with
    | some h3 => some (.next env h3)
    | none => none else none
  | .setf o f e, env, h => bindF env (evE P C e env h) fun v h1 => bindF env (evE P C o env h1) fun x h2 => match setfM P h2 x f v with
    | some h3 => some (.next env h3)
    | none => none
  | .augf o f op e, env, h => bindF env (evE P C o env h) fun x h1 => match fldM P h1 x f with
    | some (.int a) => bindF env (evE P C e env h1) fun y h2 => match y with
      | .int b => (match augI op a b with
        | some z => if clsM h1 x = clsM h2 x then (match setfM P h2 x f (.int z) with
          | some h3 => some (.next env h3)
          | none => none) else none
        | none => none)
      | _ => none
    | _ => none
  | .del o i, env, h => bindF env (evE P C o env h) fun x h1 => bindF env (evE P C i env h1) fun j h2 => match delM h2 x j with
    | some h3 => some (.next env h3)
    | none => none
  | .ret e, env, h => bindF env (evE P C e env h) fun x h1 => some (.ret x h1)
  | .pass, env, h => some (.next env h)
  | .brk, env, h => some (.brk env h)
  | .cont, env, h => some (.cont env h)
  | .ife t a b, env, h => bindF env (evT P C t env h) fun k h1 => if k = true then exSs P C a env h1 else exSs P C b env h1
  | .whl t b, env, h => whl (evT P C t) (exSs P C b) env h
  | .for_ t it b, env, h => bindF env (evI P C it env h) fun xg h1 => forGo (fun x env h => match asgT t x env with
    | some env' => exSs P C b env' h
    | none => none) xg.2 xg.1 env h1
  | .rai c es, env, h => match P.err c with
    | some fs => if es.length = fs.length then bindF env (evEs P C es env h) fun xs h1 => if xs.length = fs.length then some (.exc c (fs.zip xs).reverse env h1) else none else none
    | none => none
  | .try_ b hs, env, h => match exSs P C b env h with
    | some (.exc c fs env' h') => exH P C hs c fs env' h'
    | r => r
  | .tryk b x i j r, env, h => match exSs P C b env h with
    | some (.exc c fs env' h') => (match P.sub c x with
      | some true => (match exSs { P with exv := some (j, c, fs) } C r ((env'.set i none).set j none) h' with
        | some (.ret v h'') => some (.ret v h'')
        | _ => none)
      | some false => some (.exc c fs env' h')
      | none => none)
    | some (.next env' h') => exSs P C r env' h'
    | r => r
noncomputable def exSs (P : Tx) (C : Cal) : List S → Ev → Hm → Option Fl
  | [], env, h => some (.next env h)
  | s :: ss, env, h => match exS P C s env h with
    | some (.next env' h') => exSs P C ss env' h'
    | r => r
/-- the clauses, one after the other -/
noncomputable def exH (P : Tx) (C : Cal) : List Hd → Str → List (Str × M) → Ev → Hm → Option Fl
  | [], c, fs, env, h => some (.exc c fs env h)
  | .mk x i b :: hs, c, fs, env, h => match P.sub c x with
    | some true => match i with
      | none => match exSs P C b env h with
        | some (.exc ..) => none
        | r => r
      | some i => match exSs { P with exv := some (i, c, fs) } C b (env.set i none) h with
        | some (.next env' h') => some (.next (env'.set i none) h')
        | some (.brk env' h') => some (.brk (env'.set i none) h')
        | some (.cont env' h') => some (.cont (env'.set i none) h')
        | some (.ret v h') => some (.ret v h')
        | _ => none
    | some false => exH P C hs c fs env h
    | none => none
end
/-! ### defs -/
structure Fn where
  np : Nat
  ns : Nat
  dfl : List M
  /-- keyword-only parameters that no value is written for -/
  ko : Nat
  body : List S
structure Pg extends Tx where
  df : Str → Option Fn
mutual
/-- no place at or above n -/
def below (n : Nat) : M → Bool
  | .ref a => decide (a < n)
  | .tup xs => belows n xs
  | .rol xs => belows n xs
  | _ => true
def belows (n : Nat) : List M → Bool
  | [] => true
  | x :: xs => below n x && belows n xs
end
def belowF (n : Nat) : List (Str × M) → Bool
  | [] => true
  | x :: xs => below n x.2 && belowF n xs
def belowK (n : Nat) : List (L2.Key × M) → Bool
  | [] => true
  | x :: xs => below n x.2 && belowK n xs
def belowO (n : Nat) : O → Bool
  | .lst xs => belows n xs
  | .dic kvs => belowK n kvs
  | .ins _ fs => belowF n fs
/-- no place that was there leads to one that was not -/
def apartM (h h' : Hm) : Prop := h.length ≤ h'.length ∧ ∀ i o, i < h.length → h'[i]? = some o → h[i]? = some o ∨ belowO h.length o = true
open Classical in
/-- what a call leaves: what it made is forgotten if nothing leads to it -/
noncomputable def trim (h h' : Hm) (b : Bool) : Hm := if b = true ∧ apartM h h' then h'.take h.length else h'
noncomputable def outOf (h : Hm) : Option Fl → Option (Out M)
  | some (.ret v h') => some (.ok v (trim h h' (below h.length v)))
  | some (.next _ h') => some (.ok .non (trim h h' true))
  | some (.exc c fs _ h') => some (.exc c fs (trim h h' (belowF h.length fs)))
  | _ => none
noncomputable def callF (P : Pg) : Nat → Cal
  | 0, _, _, _ => none
  | d + 1, f, xs, h => match P.df f with
    | some F => if xs.length + F.ko ≤ F.np ∧ F.np ≤ xs.length + F.dfl.length ∧ F.np ≤ F.ns then
        let ys := xs ++ F.dfl.drop (xs.length + F.dfl.length - F.np)
        outOf h (exSs P.toTx (callF P d) F.body (ys.map some ++ List.replicate (F.ns - F.np) none) h) else none
    | none => none
end MP
/-! From the text's trees to the small machine's -/
namespace MP
open PySem
def slotOf (N : List Str) (x : Str) : Option Nat := N.findIdx? fun y => decide (y = x)
def isVis : Option NameKind → Bool
  | some .local => true
  | some .cell => true
  | some .free => true
  | _ => false
def isGlb : Option NameKind → Bool
  | some .globalImplicit => true
  | _ => false
def isLoc : Option NameKind → Bool
  | some .local => true
  | some .cell => true
  | _ => false
/-- where a name of the def stands -/
def trVar (N : List Str) (sc : Scope) (x : Str) : Option Nat :=
  if isVis (sc.names.lookup x) = true ∧ (x == ("__debug__" : Str)) = false ∧ (x == ("__classdict__" : Str)) = false then slotOf N x else none
/-- a name of the module or a built-in one -/
def trGlo (sc : Scope) (x : Str) : Bool := isGlb (sc.names.lookup x) && !(x == ("__debug__" : Str))
def trOp : Operator → Option Bop
  | .Add => some .add
  | .Sub => some .sub
  | .Mult => some .mul
  | .FloorDiv => some .fdiv
  | .Mod => some .mod
  | .Pow => some .pow
  | _ => none
def trCmp : CmpOp → Option Cop
  | .Eq => some .eq
  | .NotEq => some .ne
  | .Lt => some .lt
  | .LtE => some .le
  | .Gt => some .gt
  | .GtE => some .ge
  | .In => some .isin
  | .NotIn => some .notin
  | _ => none
def trMt (x : Str) : Option Mt :=
  if x = "join" then some .join else if x = "split" then some .split else if x = "zfill" then some .zfill else if x = "index" then some .index else if x = "partition" then some .partition else if x = "startswith" then some .startswith else none
def trLm (x : Str) : Option Lm :=
  if x = "insert" then some .insert else if x = "extend" then some .extend else if x = "reverse" then some .reverse else none
/-- no call of a bare name without arguments -/
def attB : PySem.Expr → Bool
  | .Call (.Name _ _) [] [] _ => false
  | _ => true
def trTy (x : Str) : Option Ty :=
  if x = "int" then some .int else if x = "bool" then some .bool else if x = "str" then some .str else if x = "tuple" then some .tuple else if x = "list" then some .list else if x = "dict" then some .dict else none
def trBi (x : Str) : Option Bi :=
  if x = "abs" then some .abs else if x = "int" then some .int else if x = "repr" then some .repr else if x = "str" then some .str else if x = "min" then some .min2 else if x = "max" then some .max2 else if x = "len" then some .len else if x = "sum" then some .sum else none
def notStar : PySem.Expr → Bool
  | .Starred _ _ => false
  | _ => true
def notSlice : PySem.Expr → Bool
  | .Slice _ _ _ _ => false
  | _ => true
def notComp : PySem.Expr → Bool
  | .ListComp _ _ _ _ => false
  | .SetComp _ _ _ _ => false
  | .DictComp _ _ _ _ _ => false
  | _ => true
def notSet : PySem.Expr → Bool
  | .Set _ _ _ => false
  | _ => true
/-- no test of its own form -/
def plainT : PySem.Expr → Bool
  | .UnaryOp .Not _ _ => false
  | .BoolOp _ _ _ => false
  | .IfExp _ _ _ _ => false
  | .Compare _ _ _ _ => false
  | _ => true
/-- the names that a comprehension has of its own, where they stand -/
def ownOf (N : List Str) (scope : Scope) : List (Str × Nat) := scope.names.filterMap fun p => if isLoc (some p.2) = true then (slotOf N p.1).map fun i => (p.1, i) else none

/-- a test that is read as one -/
def tstOk : Nat → PySem.Expr → Bool
  | 0, _ => false
  | n + 1, e => match e with
    | .UnaryOp .Not a _ => tstOk n a
    | .BoolOp _ es _ => es.all (tstOk n)
    | .IfExp _ _ _ _ => false
    | _ => true
mutual
/-- fb: names that may be stored to -/
def trT (N : List Str) (sc : Scope) (fb : Str → Bool) : Nat → PySem.Expr → Option T
  | 0, _ => none
  | n + 1, e => match e with
    | .Name x _ => if isLoc (sc.names.lookup x) = true ∧ fb x = true then (slotOf N x).map T.nm else none
    | .Tuple es _ _ => (trTs N sc fb n es).map T.tp
    | _ => none
def trTs (N : List Str) (sc : Scope) (fb : Str → Bool) : Nat → List PySem.Expr → Option (List T)
  | 0, _ => none
  | _ + 1, [] => some []
  | n + 1, e :: es => match trT N sc fb n e, trTs N sc fb n es with
    | some t, some ts => if notStar e = true then some (t :: ts) else none
    | _, _ => none
end
/-- the names of a comprehension that its block may store to -/
def fbC (scope sc : Scope) (x : Str) : Bool := (L2.relS scope sc).names.lookup x == some .local || scope.names.lookup x == some .cell
def isTup : PySem.Expr → Bool
  | .Tuple _ _ _ => true
  | _ => false
def constB : PySem.Expr → Option Bool
  | .Constant (.bool c) _ _ => some c
  | _ => none
/-- the keywords' names -/
def kwNs : List Keyword → Option (List Str)
  | [] => some []
  | w :: ws => match w.arg, kwNs ws with
    | some x, some l => some (x :: l)
    | _, _ => none
mutual
/-- k: outside of an except suite -/
def trE (N : List Str) (sc : Scope) (k : Bool) : Nat → PySem.Expr → Option E
  | 0, _ => none
  | n + 1, e => match e with
    | .Constant c _ _ => (match c with
      | .none => some (.con .non)
      | .bool b => some (.con (.bl b))
      | .int i => some (.con (.int i))
      | .str x => some (.con (.str x))
      | _ => none)
    | .Name x _ => match trVar N sc x with
      | some i => some (.var i)
      | none => if trGlo sc x = true then some (.glo x) else none
    | .Tuple es _ _ => (trEs N sc k n es).map E.tup
    | .List es _ => (trEs N sc k n es).map fun l => E.new (.lst l)
    | .Dict [] [] _ => some .dic0
    | .BinOp a op b _ => match trE N sc k n a, trOp op, trE N sc k n b with
      | some a', some o, some b' => some (.bin o a' b')
      | _, _, _ => none
    | .UnaryOp .USub a _ => (trE N sc k n a).map E.neg
    | .UnaryOp .Not a _ => (trE N sc k n a).map E.not
    | .BoolOp op es _ => trB N sc k n op es
    | .Compare a [op] [b] _ => (match op with
      | .Is => if isNone b = true then (trE N sc k n a).map E.isN else (match constB b with
        | some c => (trE N sc k n a).map (E.isB true c)
        | none => none)
      | .IsNot => if isNone b = true then (trE N sc k n a).map E.notN else (match constB b with
        | some c => (trE N sc k n a).map (E.isB false c)
        | none => none)
      | op => match trE N sc k n a, trCmp op, trE N sc k n b with
        | some a', some o, some b' => if notSet b = true then some (.cmp o a' b') else none
        | _, _, _ => none)
    | .Compare a [op, op'] [b, c] _ => match trE N sc k n a, trCmp op, trE N sc k n b, trCmp op', trE N sc k n c with
      | some a', some o, some b', some o', some c' => if notSet b = true ∧ notSet c = true then some (.chn o o' a' b' c') else none
      | _, _, _, _, _ => none
    | .IfExp t a b _ => match trE N sc k n t, trE N sc k n a, trE N sc k n b with
      | some t', some a', some b' => if tstOk n t = true then some (.ife t' a' b') else none
      | _, _, _ => none
    | .Subscript a i _ => (match i with
      | .Slice lo hi none _ => (match trE N sc k n a, trO N sc k n lo, trO N sc k n hi with
        | some a', some l, some u => some (.sl a' l u)
        | _, _, _ => none)
      | i => (match a with
        | .List es _ => (match trEs N sc k n es, trE N sc k n i with
          | some l, some i' => if notSlice i = true then some (.ixl (.lst l) i') else none
          | _, _ => none)
        | a => (match trE N sc k n a, trE N sc k n i with
          | some a', some i' => if notSlice i = true then some (.ix a' i') else none
          | _, _ => none)))
    | .Call (.Name f _) es [] _ => match trVar N sc f with
      | some i => if k = true ∧ es.isEmpty = false then (trEs N sc k n es).map (E.cal i) else none
      | none => if trGlo sc f = true then (if f = "isinstance" then (match es with
          | [a, .Name c _] => if trGlo sc c = true then (match trTy c with
            | some t => if notStar a = true then (trE N sc k n a).map fun a' => E.isi a' t else none
            | none => (match a with
              | .Name x _ => (trVar N sc x).map fun i => E.isx i c
              | _ => none)) else none
          | _ => none)
        else if f = "list" then (match es with
          | [a] => if notStar a = true then (trE N sc k n a).map fun a' => E.new (.of a') else none
          | _ => none)
        else if f = "tuple" then (match es with
          | [a] => if notStar a = true then (trE N sc k n a).map E.tupo else none
          | _ => none)
        else if f = "dict" then (match es with
          | [a] => if k = true ∧ notStar a = true then (trE N sc k n a).map E.dof else none
          | _ => none)
        else if f = "sorted" then (match es with
          | [a] => if k = true ∧ notStar a = true then (trE N sc k n a).map E.srt else none
          | _ => none)
        else if f = "all" then (match es with
          | [a] => if k = true ∧ notStar a = true then (trL N sc k n a).map E.all else none
          | _ => none)
        else if f = "any" then (match es with
          | [a] => if k = true ∧ notStar a = true then (trL N sc k n a).map E.any else none
          | _ => none)
        else match trBi f with
          | some b => if es.isEmpty = false ∧ (k = true ∨ f = "repr") then (trEs N sc k n es).map (E.bi b) else none
          | none => if k = true then (trEs N sc k n es).map (E.call f) else none) else none
    | .Call (.Name f _) es (kw :: kws) _ => (match trEs N sc k n es, trKs N sc k n (kw :: kws), kwNs (kw :: kws) with
      | some es', some zs, some ks => if k = true then (match trVar N sc f with
        | some i => if es.isEmpty = false then some (.calk i es' ks zs) else none
        | none => if trGlo sc f = true then some (.callk f es' ks zs) else none) else none
      | _, _, _ => none)
    | .Call (.Attribute o f ap) es [] cp => if f = "get" then (match es with
        | [e] => (match trE N sc k n o, trE N sc k n e with
          | some o', some e' => if attB o = true ∧ (ap.endLine == cp.line) = true ∧ notStar e = true then some (.dget o' e') else none
          | _, _ => none)
        | _ => none)
      else if f = "pop" then (match es with
        | [e] => (match trE N sc k n o, trE N sc k n e with
          | some o', some e' => if attB o = true ∧ (ap.endLine == cp.line) = true ∧ notStar e = true then some (.dpop o' e') else none
          | _, _ => none)
        | [e, z] => (match trE N sc k n o, trE N sc k n e, trE N sc k n z with
          | some o', some e', some z' => if attB o = true ∧ (ap.endLine == cp.line) = true ∧ notStar e = true ∧ notStar z = true then some (.dpop2 o' e' z') else none
          | _, _, _ => none)
        | [] => (match trE N sc k n o with
          | some o' => if attB o = true ∧ (ap.endLine == cp.line) = true then some (.lmt .pop o' []) else none
          | _ => none)
        | _ => none)
      else (match trMt f with
      | some b => (match trE N sc k n o, trEs N sc k n es with
        | some o', some es' => if attB o = true ∧ (ap.endLine == cp.line) = true ∧ es.length < 29 ∧ es.isEmpty = false then some (.mt b o' es') else none
        | _, _ => none)
      | none => (match trLm f with
        | some b => (match trE N sc k n o, trEs N sc k n es with
          | some o', some es' => if attB o = true ∧ (ap.endLine == cp.line) = true ∧ es.length < 29 then some (.lmt b o' es') else none
          | _, _ => none)
        | none => (match trE N sc k n o, trEs N sc k n es with
          | some o', some es' => if k = true ∧ attB o = true ∧ (ap.endLine == cp.line) = true ∧ es.length < 29 then some (.meth o' f es' [] []) else none
          | _, _ => none)))
    | .Call (.Attribute o f ap) es (kw :: kws) cp => (match trE N sc k n o, trEs N sc k n es, trKs N sc k n (kw :: kws), kwNs (kw :: kws) with
      | some o', some es', some zs, some ks => if k = true ∧ attB o = true ∧ (ap.endLine == cp.line) = true ∧ es.length + (kw :: kws).length < 29 then some (.meth o' f es' ks zs) else none
      | _, _, _, _ => none)
    | .Attribute a f _ => (match a with
      | .Name x _ => (trVar N sc x).map fun i => E.exf i f
      | a => if attB a = true then (trE N sc k n a).map fun a' => E.fld a' f else none)
    | .FormattedValue a c none _ => if c = -1 then (trE N sc k n a).map E.fmt else none
    | .JoinedStr (v1 :: v2 :: r) _ => (trJ N sc k n (v1 :: v2 :: r)).map E.fst
    | .ListComp a b c d => if k = true then (trL N sc k n (.ListComp a b c d)).map E.new else none
    | .DictComp ka va [⟨tg, it, [], 0⟩] scope _ =>
      match trZ N sc k n tg it, trT N (L2.relS scope sc) (fbC scope sc) n tg, trE N (L2.relS scope sc) k n ka, trE N (L2.relS scope sc) k n va with
      | some s, some t, some a, some b => if k = true ∧ L2.blkC N sc scope (ownOf N scope) = true ∧ notSet it = true ∧ ((slotsT t).all fun j => ((ownOf N scope).map (·.2)).contains j) = true then some (.dcm ((ownOf N scope).map (·.2)) t s a b) else none
      | _, _, _, _ => none
    | _ => none
where isNone : PySem.Expr → Bool
  | .Constant .none _ _ => true
  | _ => false
def trEs (N : List Str) (sc : Scope) (k : Bool) : Nat → List PySem.Expr → Option (List E)
  | 0, _ => none
  | _ + 1, [] => some []
  | n + 1, e :: es => match trE N sc k n e, trEs N sc k n es with
    | some e', some l => if notStar e = true then some (e' :: l) else none
    | _, _ => none
/-- the parts of an f-string -/
def trJ (N : List Str) (sc : Scope) (k : Bool) : Nat → List PySem.Expr → Option (List E)
  | 0, _ => none
  | _ + 1, [] => some []
  | n + 1, e :: es => match trE N sc k n e, trJ N sc k n es with
    | some e', some l => some (e' :: l)
    | _, _ => none
def trKs (N : List Str) (sc : Scope) (k : Bool) : Nat → List Keyword → Option (List E)
  | 0, _ => none
  | _ + 1, [] => some []
  | n + 1, w :: ws => match trE N sc k n w.value, trKs N sc k n ws with
    | some e', some l => some (e' :: l)
    | _, _ => none
def trB (N : List Str) (sc : Scope) (k : Bool) : Nat → BoolOp → List PySem.Expr → Option E
  | 0, _, _ => none
  | n + 1, op, es => match es with
    | [e] => trE N sc k n e
    | e :: e2 :: r => match trE N sc k n e, trB N sc k n op (e2 :: r) with
      | some a, some b => some (match op with
        | .And => .and a b
        | .Or => .or a b)
      | _, _ => none
    | [] => none
def trO (N : List Str) (sc : Scope) (k : Bool) : Nat → Option PySem.Expr → Option (Option E)
  | 0, _ => none
  | _ + 1, none => some none
  | n + 1, some e => (trE N sc k n e).map some
/-- a list just made -/
def trL (N : List Str) (sc : Scope) (k : Bool) : Nat → PySem.Expr → Option LE
  | 0, _ => none
  | n + 1, e => match e with
    | .List es _ => (trEs N sc k n es).map LE.lst
    | .ListComp elt [⟨tg, it, ifs, 0⟩] scope _ =>
      match trZ N sc k n tg it, trT N (L2.relS scope sc) (fbC scope sc) n tg, trC N (L2.relS scope sc) k n ifs, trE N (L2.relS scope sc) k n elt with
      | some s, some t, some c, some e => if k = true ∧ L2.blkC N sc scope (ownOf N scope) = true ∧ notSet it = true ∧ ((slotsT t).all fun j => ((ownOf N scope).map (·.2)).contains j) = true then some (.lc ((ownOf N scope).map (·.2)) t s c e) else none
      | _, _, _, _ => none
    | _ => none
/-- what is walked -/
def trI (N : List Str) (sc : Scope) (k : Bool) : Nat → PySem.Expr → Option IT
  | 0, _ => none
  | n + 1, it => match it with
    | .Call (.Name f _) [a] [] _ => if f = "range" ∧ trVar N sc f = none ∧ trGlo sc f = true ∧ notStar a = true then (trE N sc k n a).map IT.rng else (trE N sc k n it).map IT.v
    | .List es p => (trL N sc k n (.List es p)).map IT.l
    | .ListComp a b c d => (trL N sc k n (.ListComp a b c d)).map IT.l
    | it => (trE N sc k n it).map IT.v
/-- what is walked by a target: zip asks for a row of names -/
def trZ (N : List Str) (sc : Scope) (k : Bool) : Nat → PySem.Expr → PySem.Expr → Option IT
  | 0, _, _ => none
  | n + 1, tg, it => match it with
    | .Call (.Name f q) [a, b] [] p => if f = "zip" ∧ trVar N sc f = none ∧ trGlo sc f = true ∧ notStar a = true ∧ notStar b = true ∧ isTup tg = true then (match trE N sc k n a, trE N sc k n b with
      | some a', some b' => some (.zip a' b')
      | _, _ => none) else trI N sc k n (.Call (.Name f q) [a, b] [] p)
    | .Call (.Name f q) [a] [] p => if f = "enumerate" ∧ trVar N sc f = none ∧ trGlo sc f = true ∧ notStar a = true ∧ isTup tg = true then (trE N sc k n a).map IT.enu else trI N sc k n (.Call (.Name f q) [a] [] p)
    | it => trI N sc k n it
def trC (N : List Str) (sc : Scope) (k : Bool) : Nat → List PySem.Expr → Option (Option E)
  | 0, _ => none
  | n + 1, es => match es with
    | [] => some none
    | [e] => if tstOk n e = true then (trE N sc k n e).map some else none
    | _ => none
end
end MP
/-! An error may leave a list comprehension -/
namespace MP
open PySem L2 PySem.Spec
open PyProof.Rows hiding St
/-! ### the comprehension, its own frame kept -/
section
variable {Md : Model} {Ar : Around} {Er : Value → Shared → Prop} {sh : Shared} {ev : Env}
/-- what is wanted behind the block that ran in ce -/
def cpX (Md : Model) (Ar : Around) (Er : Value → Shared → Prop) (us : Option (Value → Sem Unit)) (Qv : Value → Shared → Prop) (ac : Value) (ce : Env) (r : Result) (sh : Shared) : Prop :=
  match r, us with
  | .ok _, none => ∃ mm, sh.heap.Ns ce.locals mm ∧ ∀ hh, Heap.SameBut ce.locals sh.heap hh → Qv ac { sh with heap := hh }
  | .ok _, some u => wpAny Md Ar (u ac) (fun _ s2 => ∃ mm, s2.heap.Ns ce.locals mm ∧ ∀ hh, Heap.SameBut ce.locals s2.heap hh → Qv .none { s2 with heap := hh }) Er sh
  | .error x, _ => ∃ mm, sh.heap.Ns ce.locals mm ∧ ∀ hh, Heap.SameBut ce.locals sh.heap hh → wpAny Md Ar (PySem.passOn "comprehension.variables-let-go" x ce : Sem Value) (fun _ _ => False) Er { sh with heap := hh }
theorem comp_keep {e : Expr} {scope : Scope} {pos : Pos} {mk fst : Sem Value} {g1 : Comprehension} {gr : List Comprehension} {cl : List (Str × Addr)} {us : Option (Value → Sem Unit)} {Qv : Value → Shared → Prop}
    (c1 : clausesOf e = g1 :: gr) (c2 : ∀ x, foldedSetIterable g1.iter ev x = pure x) (c3 : closureFor scope ev = pure cl)
    (c4 : scope.kind = .function) (c5 : ∀ x ∈ scope.names, x.2 = .local → scope.names.lookup x.1 = some .local)
    (hw : wpAny Md Ar fst (fun x s1 => wpAny Md Ar (pyIter x) (fun it s2 => wpAny Md Ar mk (fun ac s3 =>
      wpAny Md Ar (newFunctionEnv scope ev.globals cl [] ev.qual none .none (some ev)) (fun ce s4 =>
        codeAny Md Ar (.compStart e 0 it ac { ce with scope := relabel scope ev }) (cpX Md Ar Er us Qv ac { ce with scope := relabel scope ev }) s4) Er s3) Er s2) Er s1) Er sh) :
    wpAny Md Ar (comprehension e scope ev pos mk false fst us) Qv Er sh := by
  unfold comprehension
  rw [c3, c1]
  refine wpAny_bind (wpAny_mono hw (fun x s1 w1 => wpAny_bind (wpAny_standAt (wpAny_bind (wpAny_of_eq (c2 x) (wpAny_bind (wpAny_holding (wpAny_mono w1 (fun it s2 w2 =>
    wpAny_standIf (wpAny_bind (wpAny_mono w2 (fun ac s3 w3 => wpAny_bind (wpAny_pure (wpAny_bind (wpAny_mono w3 (fun ce s4 w4 => ?_) fun _ _ z => z)))) fun _ _ z => z)))
      fun _ _ z => z))))))) fun _ _ z => z)
  dsimp only
  have lv : ∀ x ∈ (scope.names.filter fun x => (x.2 == .local || x.2 == .cell) && x.1 != (".0" : Str)).reverse, x.2 = .local →
      Env.kindOf { ce with scope := relabel scope ev } x.1 = some .local := fun x hx hl => lookup_relabel_local (c5 x (List.mem_filter.mp (List.mem_reverse.mp hx)).1 hl)
  have lv2 : ∀ x ∈ (scope.names.filter fun x => (x.2 == .local || x.2 == .cell) && x.1 != (".0" : Str)).reverse.drop 1 ++ (scope.names.filter fun x => (x.2 == .local || x.2 == .cell) && x.1 != (".0" : Str)).reverse.take 1,
      x.2 = .local → Env.kindOf { ce with scope := relabel scope ev } x.1 = some .local := fun x hx hl => by
    rcases List.mem_append.mp hx with z | z
    · exact lv x (List.mem_of_mem_drop z) hl
    · exact lv x (List.mem_of_mem_take z) hl
  refine wpAny_holding (wpAny_bind (wpAny_attempt (wpAny_holding (wpAny_run (codeAny_mono w4 fun r s5 w5 => ?_)))))
  cases r with
  | ok f =>
    cases us with
    | none =>
      obtain ⟨mm, nn, w5⟩ := w5
      exact wpAny_bind (wpAny_holding (wpAny_comp_letGo (cenv := { ce with scope := relabel scope ev }) c4 _ s5 mm lv nn fun hh mm' _ sb => wpAny_pure (w5 hh sb)))
    | some u =>
      refine wpAny_bind (wpAny_rule (wpAny_bind (wpAny_holding (wpAny_mono w5 (fun _ s6 w6 => ?_) fun _ _ z => z))))
      obtain ⟨mm, nn, w6⟩ := w6
      exact wpAny_bind (wpAny_comp_letGo (cenv := { ce with scope := relabel scope ev }) c4 _ s6 mm lv2 nn fun hh mm' _ sb => wpAny_pure (w6 hh sb))
  | error x =>
    have w6 : ∃ mm, s5.heap.Ns ce.locals mm ∧ ∀ hh, Heap.SameBut ce.locals s5.heap hh → wpAny Md Ar (PySem.passOn "comprehension.variables-let-go" x { ce with scope := relabel scope ev } : Sem Value) (fun _ _ => False) Er { s5 with heap := hh } := by cases us <;> exact w5
    obtain ⟨mm, nn, w6⟩ := w6
    exact wpAny_bind (wpAny_holding (wpAny_comp_letGo (cenv := { ce with scope := relabel scope ev }) c4 _ s5 mm lv nn fun hh mm' _ sb => wpAny_mono (w6 hh sb) (fun _ _ f => f.elim) fun _ _ y => y))
end
/-! ### an error in the air, its flight of any kind -/
/-- fresh, or noted anywhere -/
def SkyA (B : Heap) (l : List Env) (a : Addr) (Z : Obj → Prop) (h : Heap) : Prop :=
  (B.StaysIn h ∧ B.get? a = none ∧ h.FunFrames B l ∧ ∃ oe vs, h.get? a = some oe ∧ Z oe ∧ oe.data = .fields vs ∧ vs[1]? = some .none) ∨ (B.StaysIn h ∧ B.get? a = none ∧ h.FunFrames B l ∧ ∃ fl, HandSPX.TracedZ h B a Z fl)
theorem Sky.any {B : Heap} {l : List Env} {a : Addr} {Z : Obj → Prop} {L : Addr} {h : Heap} (s : Sky B l a Z L h) : SkyA B l a Z h := by
  rcases s with s | ⟨s1, s2, s3, s4⟩ | ⟨s1, s2, s3, s4⟩
  · exact .inl s
  · exact .inr ⟨s1, s2, s3, _, s4⟩
  · exact .inr ⟨s1, s2, s3, _, s4⟩
def XEA (X : Cx) (W : WX) (u : Value) (s' : Shared) : Prop :=
  ∃ (a : Addr) (B : Heap) (sI : Shared) (pins : List (Addr × Obj)) (σ : St) (H : Hp) (cls : Value) (d : Option Addr),
    u = .ref a ∧ Inv X pins σ H sI ∧ (∀ b o, sI.heap.get? b = some o → b ∉ frs X.stack → B.get? b = some o) ∧ sI.heap.UpToSlots s'.heap ∧
      SkyA B X.stack a (Zc cls d) s'.heap ∧ H a = none ∧ s'.os = sI.os ∧ AllBare s'.gens ∧ W cls d σ H
theorem XE.any {X : Cx} {W : WX} {u : Value} {s' : Shared} (x : XE X W u s') : XEA X W u s' := by
  obtain ⟨a, B, sI, pins, σ, H, cls, d, e, I, nb, up, sky, na, os, ag, w⟩ := x
  exact ⟨a, B, sI, pins, σ, H, cls, d, e, I, nb, up, Sky.any sky, na, os, ag, w⟩
/-- an error that this frame has noted -/
def XEh (X : Cx) (W : WX) (L : Addr) (u : Value) (s' : Shared) : Prop :=
  ∃ (a : Addr) (B : Heap) (sI : Shared) (pins : List (Addr × Obj)) (σ : St) (H : Hp) (cls : Value) (d : Option Addr),
    u = .ref a ∧ Inv X pins σ H sI ∧ (∀ b o, sI.heap.get? b = some o → b ∉ frs X.stack → B.get? b = some o) ∧ sI.heap.UpToSlots s'.heap ∧
      HandSPX.HeldZ B X.stack a (Zc cls d) L s'.heap ∧ H a = none ∧ s'.os = sI.os ∧ AllBare s'.gens ∧ W cls d σ H
/-- what leaves a comprehension is taken, too -/
def TakesF (X : Cx) (W : WX) : Prop := ∃ L e0 out, X.env.frame = some L ∧ X.stack = e0 :: out ∧ e0.frame = some L ∧ ∀ u s', XEh X W L u s' → X.xe u s'
theorem TakesF.of {X : Cx} {W : WX} (tk : Takes X W) (hs : X.stack = X.env :: X.outer) (hf : X.env.frame = some X.env.locals) : TakesF X W :=
  ⟨_, _, _, hf, hs, hf, fun u s' ⟨a, B, sI, pins, σ, H, cls, d, e, I, nb, up, hd, na, os, ag, w⟩ => tk u s' ⟨a, B, sI, pins, σ, H, cls, d, e, I, nb, up, .inr (.inr hd), na, os, ag, w⟩⟩
section
variable {Md : Model} {Ar : Around} {Er : Value → Shared → Prop} {sh : Shared} {Z : Obj → Prop} {B : Heap} {e0 ce : Env} {out : List Env} {L a : Addr}
/-- the frame notes it, whatever its flight was -/
theorem note_any {Q : Unit → Shared → Prop} (hZ : HandSPX.Steady Z) (hfr : Ar.frames = some (e0 :: out)) (hf : e0.frame = some L) (x : SkyA B (e0 :: out) a Z sh.heap)
    (hQ : ∀ h', HandSPX.HeldZ B (e0 :: out) a Z L h' → sh.heap.UpToSlots h' → Q () { sh with heap := h' }) : wpAny Md Ar (noteFrame (.ref a) e0) Q Er sh := by
  rcases x with ⟨hB, hn, hl, oe, vs, he, hz, hd, h1⟩ | ⟨hB, hn, hl, fl, ht⟩
  · exact HandSPX.look_newZ hZ hfr hl hf he hB hn hd h1 hz hQ
  · by_cases hfl : fl = rawInt L
    · subst hfl
      exact HandSPX.againZ hf ht (hQ sh.heap ⟨hB, hn, hl, ht⟩ (Heap.UpToSlots.refl _))
    · obtain ⟨oe, vs, T, oT, ts, he, hz, hd, h1, hnT, hTe, hT, hdT, h3⟩ := ht
      unfold noteFrame
      simp only [hf]
      refine wpAny_bind (wpAny_field he hd h1 ?_)
      rw [if_pos (show (Value.ref T != Value.none) = true by simp)]
      refine wpAny_bind (wpAny_field hT hdT h3 ?_)
      rw [if_neg (show ¬ ((fl == rawInt L) = true) by simpa using hfl)]
      refine wpAny_bind (wpAny_setField hT hdT (Array.getElem?_eq_some_iff.mp h3).1 ?_)
      have oth : ∀ b, b ≠ T → (sh.heap.update T (Obj.mapFields (·.setIfInBounds 3 Value.none))).get? b = sh.heap.get? b := fun b hb => Heap.get?_update_other _ _ (Ne.symm hb)
      have nrec : ∀ b o, sh.heap.get? b = some o → (∀ vs, o.data ≠ .fields vs) → b ≠ T := fun b o hb hnf q => by
        rw [q, hT] at hb; injection hb with hb; subst hb; exact hnf ts hdT
      refine HandSPX.wpAny_entryZ hZ hfr (hl.of_keeps fun b o hb hnf => ⟨o, (oth b (nrec b o hb hnf)).trans hb, rfl⟩) hf ((oth a (Ne.symm hTe)).trans he)
        (fun b o hbo => (oth b fun q => by rw [q, hnT] at hbo; cases hbo).trans (hB b o hbo)) hn hd (Array.getElem?_eq_some_iff.mp h1).1 hz fun h' hN => ?_
      obtain ⟨x1, x2, x3, x4⟩ := hN
      exact hQ h' ⟨x1, hn, x2, x3⟩ fun b o hb hnf => x4 b o ((oth b (nrec b o hb hnf)).trans hb) hnf
theorem note_same (h : ce.frame = e0.frame) (v : Value) : noteFrame v ce = noteFrame v e0 := by
  unfold noteFrame PySem.frameOf
  rw [h]
/-- frames do not see one changed object -/
theorem frames_but {h h' B2 : Heap} {C : Addr} (sb : Heap.SameBut C h h') : ∀ {l : List Env}, h.FunFrames B l → C ∉ frs l → (∀ L ∈ frs l, B2.get? L = none) → h'.FunFrames B2 l
  | [], _, _, _ => trivial
  | env :: l, hh, nc, hn => by
    obtain ⟨hk, ⟨L, o, hf, _, ho, hd⟩, hr⟩ := hh
    have m1 : L ∈ frs (env :: l) := List.mem_filterMap.mpr ⟨env, List.mem_cons_self, hf⟩
    have sub : ∀ b, b ∈ frs l → b ∈ frs (env :: l) := fun b hb => by
      obtain ⟨e, he, q⟩ := List.mem_filterMap.mp hb
      exact List.mem_filterMap.mpr ⟨e, List.mem_cons_of_mem _ he, q⟩
    exact ⟨hk, ⟨L, o, hf, hn L m1, by rw [sb.2 L (fun z => nc (by rw [← z]; exact m1))]; exact ho, hd⟩, frames_but sb hr (fun z => nc (sub _ z)) fun b hb => hn b (sub b hb)⟩
end
/-- a block whose errors are wished for -/
abbrev Cxb (X : Cx) (s : Shared) (H : Hp) (scope : Scope) (cenv : Env) (fp : List Addr) (xe : Value → Shared → Prop) : Cx := { X.blk s H scope cenv fp with xe := xe }
theorem inv_xe {X : Cx} {s : Shared} {H : Hp} {scope : Scope} {cenv : Env} {fp : List Addr} {xe : Value → Shared → Prop} {pins : List (Addr × Obj)} {σ : St} {H' : Hp} {s' : Shared} (I : Inv (X.blk s H scope cenv fp) pins σ H' s') : Inv (Cxb X s H scope cenv fp xe) pins σ H' s' :=
  ⟨⟨I.ok.mod, I.ok.kind, I.ok.glob, I.ok.blt, I.ok.above, I.ok.inj, I.ok.has, I.ok.cab, I.ok.hd, I.ok.frames, I.ok.stk, I.ok.exf, I.ok.bs, I.ok.bsz, I.ok.noex, I.ok.exfs, I.ok.funs, I.ok.frf⟩, I.os, I.bare, I.base, I.loc, I.cell, I.free, I.freeC, I.pin, I.hok, I.len⟩
/-- an error that leaves the block goes on around it -/
theorem blk_out {X : Cx} {W : WX} {pins : List (Addr × Obj)} {σ : St} {H3 : Hp} {s3 : Shared} {scope : Scope} {ce : Env} {fp : List Addr} {xe : Value → Shared → Prop} {Wb : WX} {us : Option (Value → Sem Unit)} {Qv : Value → Shared → Prop} {ac : Value} {Er : Value → Shared → Prop}
    (tf : TakesF X W) (I3 : Inv X pins σ H3 s3) (hce : ce.frame = X.env.frame) (hC : ce.locals = s3.heap.objs.size) (hfp : ∀ b ∈ fp, FpOk X pins H3 b) (hW : ∀ cls d σ' H', Wb cls d σ' H' → W cls d σ H') {u : Value} {s' : Shared} (x : XEA (Cxb X s3 H3 scope ce fp xe) Wb u s') :
    wpAny (model X.prog X.w) X.A (noteFrame u ce) (fun _ s2 => cpX (model X.prog X.w) X.A X.xe us Qv ac ce (.error u) s2) Er s' := by
  obtain ⟨L, e0, out, tf1, tf2, tf3, tf4⟩ := tf
  obtain ⟨a, B, sI, pn2, σ2, H, cls, d, rfl, I, nb, up, sky, na, os, ag, w⟩ := x
  have nb : ∀ b o, sI.heap.get? b = some o → b ∉ frs X.stack → B.get? b = some o := nb
  have sky : SkyA B X.stack a (Zc cls d) s'.heap := sky
  have hfr : X.A.frames = some (e0 :: out) := by rw [← tf2]; exact I3.ok.frames
  rw [note_same (ce := ce) (e0 := e0) (by rw [hce, tf1, tf3])]
  have sky' := sky
  rw [tf2] at sky'
  refine note_any Zc.steady hfr tf3 sky' fun h1 held up1 => ?_
  rw [← tf2] at held
  have nC : ce.locals ∉ frs X.stack := fun z => by
    obtain ⟨_, o, e, _⟩ := I3.stack.mem z
    have := Heap.lt_size e
    rw [hC] at this
    exact Nat.lt_irrefl _ this
  obtain ⟨mm, ⟨oC, es, ep, eC, rC⟩, _⟩ := I.loc
  have eC : sI.heap.get? ce.locals = some oC := eC
  have bC := nb _ _ eC nC
  refine ⟨mm, ⟨oC, es, ep, held.1 _ _ bC, rC⟩, fun h2 sb => ?_⟩
  -- the ground without the block's names
  obtain ⟨B2, b1, b2⟩ := restrict B fun b => decide (b ≠ ce.locals)
  obtain ⟨G, g1, g2⟩ := restrict sI.heap fun b => decide (b ≠ ce.locals)
  have b1 : ∀ b, b ≠ ce.locals → B2.get? b = B.get? b := fun b hb => b1 b (by simpa using hb)
  have g1 : ∀ b, b ≠ ce.locals → G.get? b = sI.heap.get? b := fun b hb => g1 b (by simpa using hb)
  have b2 : B2.get? ce.locals = none := b2 _ (by simp)
  have g2 : G.get? ce.locals = none := g2 _ (by simp)
  obtain ⟨st1, an, ff, oe, vs, T, oT, ts, he, hz, hd, h1', hnT, hTe, hT, hdT, h3⟩ := held
  have aC : a ≠ ce.locals := fun z => by rw [z, bC] at an; cases an
  have TC : T ≠ ce.locals := fun z => by rw [z, bC] at hnT; cases hnT
  have fB : ∀ F ∈ frs X.stack, B2.get? F = none := fun F hF => by
    rw [b1 F (fun z => nC (by rw [← z]; exact hF))]
    exact (ff.mem hF).1
  have held2 : HandSPX.HeldZ B2 X.stack a (Zc cls d) L h2 := by
    refine ⟨fun b o e => ?_, ?_, frames_but sb ff nC fB, oe, vs, T, oT, ts, by rw [sb.2 a aC]; exact he, hz, hd, h1', ?_, hTe, by rw [sb.2 T TC]; exact hT, hdT, h3⟩
    · by_cases hb : b = ce.locals
      · rw [hb, b2] at e; cases e
      · rw [b1 b hb] at e
        rw [sb.2 b hb]
        exact st1 b o e
    · rw [b1 a aC]; exact an
    · rw [b1 T TC]; exact hnT
  unfold PySem.passOn
  refine wpAny_bind (wpAny_field (s := { s' with heap := h2 }) (show h2.get? a = some oe by rw [sb.2 a aC]; exact he) hd h1' ?_)
  rw [if_neg (show ¬ ((Value.ref T == Value.none) = true) by simp)]
  refine wpAny_bind ?_
  rw [hce, tf1]
  refine HandSPX.setFlight_onZ (s := { s' with heap := h2 }) held2 fun h4 held4 up4 => ?_
  refine wpAny_throw (tf4 _ _ ⟨a, B2, { sI with heap := G }, pins, σ, H, cls, d, rfl, ?_, ?_, ?_, held4, na, os, ag, hW _ _ _ _ w⟩)
  · have un : Un (frs X.stack) fp H3 H s3.heap sI.heap := I.base
    have ne : ∀ b o, s3.heap.get? b = some o → b ≠ ce.locals := fun b o e z => by
      have := Heap.lt_size e
      rw [z, hC] at this
      exact Nat.lt_irrefl _ this
    refine I3.call' (s' := { sI with heap := G }) (ch := fp) I.os ⟨fun b o e n hb hx => ?_, fun b o e n hb hx => ?_, un.free, fun b o e hx => ?_, un.tups, un.frzs, un.tbls⟩ (fun b o q => ?_) I.bare fun b hb => ⟨(hfp b hb).2.2.2.1, (hfp b hb).2.1, (hfp b hb).2.2.2.2.1, (hfp b hb).2.2.2.2.2⟩
    · rw [g1 b (ne b o e)]; exact un.keep b o e n hb hx
    · rw [g1 b (ne b o e)]; exact un.slot b o e n hb hx
    · rw [g1 b (ne b o e)]; exact un.there b o e hx
    · have fr : H ce.locals = none := I.free
      refine (I.hok b o q).stay (fun c v hc r => ?_) (fun _ r => r) fun _ _ r => r
      have hcC : c ≠ ce.locals := fun z => by
        rcases hc with hc | hc
        · rw [← hc, z, fr] at q; cases q
        · rw [z, fr] at hc; cases hc
      show G.get? c = some v
      rw [g1 c hcC]
      exact r
  · intro b o e hb
    have e : G.get? b = some o := e
    by_cases hc : b = ce.locals
    · rw [hc, g2] at e; cases e
    · rw [g1 b hc] at e
      rw [b1 b hc]
      exact nb b o e hb
  · intro b o e hnf
    have e : G.get? b = some o := e
    by_cases hc : b = ce.locals
    · rw [hc, g2] at e; cases e
    · rw [g1 b hc] at e
      obtain ⟨sl1, q1⟩ := up b o e hnf
      obtain ⟨sl2, q2⟩ := up1 b _ q1 hnf
      obtain ⟨sl3, q3⟩ := up4 b _ (show h2.get? b = some { o with slots := sl2 } by rw [sb.2 b hc]; exact q2) hnf
      exact ⟨sl3, q3⟩

/-! ### the list comprehension -/
section
variable {X : Cx}
/-- [elt for tg in it if ..]: an error of a turn is wished for as the frame's names stood ahead -/
def tLcX (W : WX) (wi : TI) (g : TG) (tt : WX → TT) (te : WX → TE) (vs : List Nat) : TE := fun σ H Q => wi σ H fun J H1 => ∀ D, H1 D = none → ∃ Wi : Nat → Nat → Hp → Prop, (∃ n, Wi 0 n (upd H1 D (.lst []))) ∧ ∀ i n H, Wi i n H →
  (J.stop i H ∧ Q (.ref D) H) ∨ (J.go i H ∧ ∃ Nx : Hp → Prop, (∀ H', Nx H' → ∃ n', n' < n ∧ Wi (i + 1) n' H') ∧ ∀ x H', J.yld i H x H' → g x (wipe σ vs) H' fun σ2 H2 => wipe σ2 vs = wipe σ vs ∧ tt (fun c d _ H' => W c d σ H') σ2 H2 fun b H3 =>
    if b = true then te (fun c d _ H' => W c d σ H') σ2 H3 fun y H4 => ∃ acc, H4 D = some (.lst acc) ∧ acc.length < sizeLine ∧ Nx (upd H4 D (.lst (acc ++ [y]))) else Nx H3)
/-- what a block's parts are asked for -/
def BlkG (X : Cx) (scope : Scope) (tg : Expr) (g : TG) : Prop := ∀ (s : Shared) (H : Hp) (Ca : Addr) (cl : List (Str × Addr)) (fp : List Addr) (xe : Value → Shared → Prop) (Wb : WX), Takes (Cxb X s H scope (compEnvC scope cl Ca X.env) fp xe) Wb → TakesF (Cxb X s H scope (compEnvC scope cl Ca X.env) fp xe) Wb → PG (Cxb X s H scope (compEnvC scope cl Ca X.env) fp xe) tg g
def BlkT (X : Cx) (scope : Scope) (ifs : List Expr) (t : WX → TT) : Prop := ∀ (s : Shared) (H : Hp) (Ca : Addr) (cl : List (Str × Addr)) (fp : List Addr) (xe : Value → Shared → Prop) (Wb : WX), Takes (Cxb X s H scope (compEnvC scope cl Ca X.env) fp xe) Wb → TakesF (Cxb X s H scope (compEnvC scope cl Ca X.env) fp xe) Wb → PTs (Cxb X s H scope (compEnvC scope cl Ca X.env) fp xe) ifs (t Wb)
def BlkE (X : Cx) (scope : Scope) (elt : Expr) (t : WX → TE) : Prop := ∀ (s : Shared) (H : Hp) (Ca : Addr) (cl : List (Str × Addr)) (fp : List Addr) (xe : Value → Shared → Prop) (Wb : WX), Takes (Cxb X s H scope (compEnvC scope cl Ca X.env) fp xe) Wb → TakesF (Cxb X s H scope (compEnvC scope cl Ca X.env) fp xe) Wb → PE (Cxb X s H scope (compEnvC scope cl Ca X.env) fp xe) elt (t Wb)
theorem lcX_core {W : WX} {pins : List (Addr × Obj)} {s : Shared} {σ : St} {H : Hp} {Q : VK} {elt tg iter : Expr} {ifs : List Expr} {scope : Scope} {own : List (Str × Nat)} {p1 p2 : Pos} {wi : TI} {g : TG} {tt : WX → TT} {te : WX → TE} {us : Option (Value → Sem Unit)} {Qf : Value → Shared → Prop}
    (hc : X.calm = true) (tf : TakesF X W) (hN : X.N.Nodup) (I : Inv X pins σ H s) (hi : PI X tg iter wi) (ok : BlkOk X.N X.env.scope scope own) (hg : BlkG X scope tg g) (ht : BlkT X scope ifs tt) (he : BlkE X scope elt te) (hs : ∀ x, foldedSetIterable iter X.env x = pure x)
    (hw : tLcX W wi g tt te (own.map (·.2)) σ H Q)
    (hE : ∀ D C s' mm H', Inv X pins σ H' s' → Q (.ref D) H' → s'.heap.Ns C mm → FpOk X pins H' C → ∀ ce : Env, ce.locals = C → cpX (model X.prog X.w) X.A X.xe us Qf (.ref D) ce (.ok .next) s') :
    wpAny (model X.prog X.w) X.A (comprehension (.ListComp elt [⟨tg, iter, ifs, 0⟩] scope p1) scope X.env p2 (newList []) false (eval iter X.env) us) Qf X.xe s := by
  have frs' : ∀ y ∈ scope.names, y.2 = .free → ∃ c, X.env.cells.lookup y.1 = some c := fun y hy e => by
    rcases ok.free y hy e with z | z
    · exact I.ok.has _ (.inl z)
    · exact I.ok.has _ (.inr z)
  refine comp_keep (us := us) rfl hs (closure_ok frs') ok.kind (fun y hy e => by rw [ok.uniq y hy, e])
    (thn (hi.run pins s σ H _ I hw) fun xv s1 hx => thn hx fun itv s2 h2 => ?_)
  obtain ⟨it, fp, tn, J, H2, rfl, I2, T, st2, f2, q⟩ := h2
  refine wpAny_newObj_type (newEnv_comp ?_) (by show 0 ≤ sizeLine; decide)
  generalize eD : s2.heap.objs.size = D
  have nD : H2 D = none := I2.hok.fresh (Nat.le_of_eq eD)
  obtain ⟨Wi, ⟨n0, w0⟩, turn⟩ := q D nD
  generalize es3 : ({ s2 with heap := s2.heap.push { cls := .type "list", data := .seq ([] : List Value).toArray } } : Shared) = s3
  have I3 : Inv X pins σ (upd H2 D (.lst [])) s3 := by
    rw [← es3]
    refine I2.laid (t' := s2.toks) (fun b o e => Heap.get?_push_of_some _ e) (Nat.le_of_eq eD) ⟨Nat.zero_le _, [], 0, .nil, ?_⟩
    rw [← eD]
    exact Heap.get?_push_size _ rfl
  have hp3 : s3.heap = s2.heap.push { cls := .type "list", data := .seq ([] : List Value).toArray } := by rw [← es3]
  have lt2 : ∀ b ∈ fp, b < s2.heap.objs.size := fun b hb => by
    obtain ⟨o, e, _⟩ := T.obj _ _ st2 b hb
    exact Heap.lt_size e
  have f3 : ∀ b ∈ fp, FpOk X pins (upd H2 D (.lst [])) b ∧ b < s3.heap.objs.size := fun b hb => by
    have lt := lt2 b hb
    refine ⟨⟨?_, (f2 b hb).2⟩, by rw [hp3, Heap.size_push]; exact Nat.lt_succ_of_lt lt⟩
    rw [upd_ne (by rw [← eD]; exact Nat.ne_of_lt lt)]
    exact (f2 b hb).1
  have st3 : tn 0 s3.heap := T.keep _ _ _ st2 fun b _ o e => by rw [hp3]; exact Heap.get?_push_of_some _ e
  have I4 := block_start I3 ok hN f3
  have pg := hg s3 (upd H2 D (.lst [])) s3.heap.objs.size (cellsFrom (s3.heap.objs.size + 1) scope.names (cloFrom X.env.cells scope.names [])) fp
  have pt := ht s3 (upd H2 D (.lst [])) s3.heap.objs.size (cellsFrom (s3.heap.objs.size + 1) scope.names (cloFrom X.env.cells scope.names [])) fp
  have pe := he s3 (upd H2 D (.lst [])) s3.heap.objs.size (cellsFrom (s3.heap.objs.size + 1) scope.names (cloFrom X.env.cells scope.names [])) fp
  show codeAny _ _ (.compStart (.ListComp elt [⟨tg, iter, ifs, 0⟩] scope p1) 0 (.ref it) (.ref D) (compEnvC scope (cellsFrom (s3.heap.objs.size + 1) scope.names (cloFrom X.env.cells scope.names [])) s3.heap.objs.size X.env)) (cpX (model X.prog X.w) X.A X.xe us Qf (.ref D) (compEnvC scope (cellsFrom (s3.heap.objs.size + 1) scope.names (cloFrom X.env.cells scope.names [])) s3.heap.objs.size X.env)) { s3 with heap := pushCells (s3.heap.push { cls := .type "dict", data := .dict #[] }) scope.names }
  have nfp : ∀ b ∈ fp, (upd H2 D (.lst [])) b = none := fun b hb => (f3 b hb).1.1
  generalize ece : compEnvC scope (cellsFrom (s3.heap.objs.size + 1) scope.names (cloFrom X.env.cells scope.names [])) s3.heap.objs.size X.env = ce at I4 pg pt pe ⊢
  have cL : ce.locals = s3.heap.objs.size := by subst ece; rfl
  have cF : ce.frame = X.env.frame := by subst ece; rfl
  generalize eH3 : upd H2 D (.lst []) = H3 at I3 I4 pg pt pe w0 nfp f3
  generalize es4 : ({ s3 with heap := pushCells (s3.heap.push { cls := .type "dict", data := .dict #[] }) scope.names } : Shared) = s4 at I4 ⊢
  have st4 : tn 0 s4.heap := T.keep _ _ _ st3 fun b _ o e => by rw [← es4]; exact pushCells_keeps _ _ _ _ (Heap.get?_push_of_some _ e)
  -- what a turn lets out
  obtain ⟨Eb, eEb⟩ : ∃ Eb : Value → Shared → Prop, Eb = notedBy (model X.prog X.w) X.A ce fun e s' => cpX (model X.prog X.w) X.A X.xe us Qf (.ref D) ce (.error e) s' := ⟨_, rfl⟩
  have outA : ∀ u s', XEA (Cxb X s3 H3 scope ce fp Eb) (fun c d _ H' => W c d σ H') u s' → Eb u s' := fun u s' x => by
    rw [eEb]
    exact blk_out tf I3 cF cL (fun b hb => (f3 b hb).1) (fun _ _ _ _ z => z) x
  have tk : Takes (Cxb X s3 H3 scope ce fp Eb) (fun c d _ H' => W c d σ H') := fun u s' x => outA u s' (XE.any x)
  have tkf : TakesF (Cxb X s3 H3 scope ce fp Eb) (fun c d _ H' => W c d σ H') := by
    obtain ⟨L, e0, out, t1, t2, t3, _⟩ := tf
    refine ⟨L, e0, out, by show ce.frame = _; rw [cF]; exact t1, t2, t3, fun u s' ⟨a, B, sI, pn2, σ2, H', cls, d, e, I', nb, up, hd, na, os, ag, w⟩ => outA u s' ⟨a, B, sI, pn2, σ2, H', cls, d, e, I', nb, up, ?_, na, os, ag, w⟩⟩
    exact .inr ⟨hd.1, hd.2.1, hd.2.2.1, _, hd.2.2.2⟩
  have pg := pg Eb _ tk tkf
  have pt := pt Eb _ tk tkf
  have pe := pe Eb _ tk tkf
  have I4 : Inv (Cxb X s3 H3 scope ce fp Eb) [] (wipe σ (own.map (·.2))) H3 s4 := inv_xe I4
  have stat : ∀ {σ' : St} {H' : Hp} {s' : Shared}, Inv (Cxb X s3 H3 scope ce fp Eb) [] σ' H' s' → (∀ b ∈ fp, H' b = none) → ∀ b ∈ fp, FpOk (Cxb X s3 H3 scope ce fp Eb) [] H' b := fun {σ' H' s'} I' hn b hb =>
    ⟨hn b hb, (I'.ok.exf b hb).1, I'.ok.exfs b hb, .inl hb, fun x c e => (I'.ok.exf b hb).2 x c e, fun p hp => absurd (show p ∈ ([] : List (Addr × Obj)) ++ [] from hp) (by simp)⟩
  have loop : codeAny (model X.prog X.w) X.A (.compLoop (.ListComp elt [⟨tg, iter, ifs, 0⟩] scope p1) 0 (.ref it) (.ref D) ce) (cpX (model X.prog X.w) X.A X.xe us Qf (.ref D) ce) s4 := by
    refine compLoop_any (fun n s' => ∃ i H', Inv (Cxb X s3 H3 scope ce fp Eb) [] (wipe σ (own.map (·.2))) H' s' ∧ tn i s'.heap ∧ (∀ b ∈ fp, H' b = none) ∧ Wi i n H') ?_ n0 ⟨0, H3, I4, st4, nfp, w0⟩
    rintro n s5 ⟨i, H5, I5, st5, n5, w5⟩
    rw [← eEb]
    rcases turn i n H5 w5 with ⟨stop, qq⟩ | ⟨go, Nx, hNx, step⟩
    · have td := T.done (Cxb X s3 H3 scope ce fp Eb) rfl rfl rfl hc i [] s5 _ H5 Eb I5 (stat I5 n5) st5 stop
      refine thn td fun r s6 ⟨hr, I6⟩ => ?_
      subst hr
      have I7 : Inv X pins σ H5 s6 := I3.call' (ch := fp) I6.os I6.base I6.hok I6.bare fun b hb => ⟨(f3 b hb).1.2.2.2.1, (f3 b hb).1.2.1, (f3 b hb).1.2.2.2.2.1, (f3 b hb).1.2.2.2.2.2⟩
      have nC : H5 s3.heap.objs.size = none := by
        have z : H5 ce.locals = none := I6.free
        rw [cL] at z
        exact z
      obtain ⟨mm, hn, _⟩ := I6.loc
      have hn : s6.heap.Ns ce.locals mm := hn
      rw [cL] at hn
      exact hE D s3.heap.objs.size s6 mm H5 I7 qq hn (I3.fpOk (Nat.le_refl _) nC) ce cL
    · have ti := T.item (Cxb X s3 H3 scope ce fp Eb) rfl rfl rfl hc i [] s5 _ H5 Eb I5 (stat I5 n5) st5 go
      refine thn ti fun r s6 ⟨u, hr, h6⟩ => ?_
      subst hr
      refine thn h6 fun _ s7 ⟨x, H7, I7, r7, y7, st7, n7⟩ => ?_
      have I7' := I7.pinned (stat I7 n7) (T.obj _ _ st7)
      refine thn (pg.run _ s7 _ H7 x u _ I7' r7 (step x H7 y7)) fun _ s8 ⟨σ8, H8, I8, hw8, q8⟩ => ?_
      refine thn (pt.run _ s8 σ8 H8 _ I8 q8) fun b s9 ⟨H9, I9, q9⟩ => ?_
      have fin : ∀ {s' : Shared} {H' : Hp}, Inv (Cxb X s3 H3 scope ce fp Eb) ([] ++ pinsAt fp s7.heap) σ8 H' s' → Nx H' → ∃ n', n' < n ∧ ∃ i H', Inv (Cxb X s3 H3 scope ce fp Eb) [] (wipe σ (own.map (·.2))) H' s' ∧ tn i s'.heap ∧ (∀ b ∈ fp, H' b = none) ∧ Wi i n' H' := fun {s' H'} I' nx => by
        obtain ⟨n', lt, w'⟩ := hNx H' nx
        have pin' : ∀ b ∈ fp, ∀ o, s7.heap.get? b = some o → s'.heap.get? b = some o ∧ H' b = none := fun b hb o e =>
          let z := I'.pin (b, o) (List.mem_append_right _ (List.mem_append_right _ (mem_pinsAt hb e)))
          ⟨z.1, z.2.1⟩
        have hl : (wipe σ (own.map (·.2))).length = σ8.length := by rw [← hw8, wipe_length]
        refine ⟨n', lt, i + 1, H', (I'.unpinned (pins := [])).weak hl (fun j v e => ?_), T.keep _ _ _ st7 fun b hb o e => (pin' b hb o e).1, fun b hb => ?_, w'⟩
        · rw [← hw8] at e
          exact (wipe_some e).1
        · obtain ⟨o, e, _⟩ := T.obj _ _ st7 b hb
          exact (pin' b hb o e).2
      cases b with
      | false =>
        simp only [Bool.false_eq_true, if_false] at q9 ⊢
        exact fin I9 q9
      | true =>
        simp only [if_true] at q9 ⊢
        refine thn (pe.run _ s9 σ8 H9 _ I9 q9) fun z s10 ⟨yv, H10, I10, r10, acc, hD10, hz10, nx⟩ => ?_
        exact app_ok (X := Cxb X s3 H3 scope ce fp Eb) I10 hD10 hz10 r10 fun s11 I11 => fin I11 nx
  exact codeAny_compStart_list loop (T.self X.A 0 _ _ _ st4 loop)
/-- as a value -/
theorem pe_lcX {W : WX} {elt tg iter : Expr} {ifs : List Expr} {scope : Scope} {own : List (Str × Nat)} {lp : Pos} {wi : TI} {g : TG} {tt : WX → TT} {te : WX → TE} (hc : X.calm = true) (tf : TakesF X W) (hN : X.N.Nodup) (hi : PI X tg iter wi) (ok : BlkOk X.N X.env.scope scope own)
    (hg : BlkG X scope tg g) (ht : BlkT X scope ifs tt) (he : BlkE X scope elt te) (hs : ∀ x, foldedSetIterable iter X.env x = pure x) : PE X (.ListComp elt [⟨tg, iter, ifs, 0⟩] scope lp) (tLcX W wi g tt te (own.map (·.2))) := by
  refine ⟨fun pins s σ H Q I h => ?_⟩
  rw [eval_ListComp]
  refine lcX_core hc tf hN I hi ok hg ht he hs h fun D C s' mm H' I' q hn f ce hce => ⟨mm, by rw [hce]; exact hn, fun h2 sb => ?_⟩
  rw [hce] at sb
  obtain ⟨f0, f1, f2, f3, f4, f5⟩ := f
  exact ⟨.ref D, H', I'.turned (t' := s'.toks) (fun b o hb e => (sb.2 b hb).trans e) f0 f1 f3 f4 f5, rfl, q⟩
/-- name = [..] on one line, the name a local one -/
theorem ps_setLcX {W : WX} {i : Nat} {y : Str} {py : Pos} {elt tg iter : Expr} {ifs : List Expr} {scope : Scope} {own : List (Str × Nat)} {lp sp : Pos} {wi : TI} {g : TG} {tt : WX → TT} {te : WX → TE} (hc : X.calm = true) (tf : TakesF X W) (hN : X.N.Nodup) (hy : X.N[i]? = some y) (hyl : X.env.scope.names.lookup y = some .local)
    (hsw : swapsWith (.ListComp elt [⟨tg, iter, ifs, 0⟩] scope lp) (some (.Name y py)) sp.line X.env = pure true) (hi : PI X tg iter wi) (ok : BlkOk X.N X.env.scope scope own)
    (hg : BlkG X scope tg g) (ht : BlkT X scope ifs tt) (he : BlkE X scope elt te) (hs : ∀ x, foldedSetIterable iter X.env x = pure x) :
    PS X (.Assign [.Name y py] (.ListComp elt [⟨tg, iter, ifs, 0⟩] scope lp) sp) (tAsg (tLcX W wi g tt te (own.map (·.2))) (gName i)) := by
  refine ⟨fun pins s σ H D I h => ?_⟩
  rw [exec_Assign_Name_used _ _ _ _ hsw]
  refine wpAny_bind (wpAny_standAt (wpAny_bind ?_))
  show wpAny _ X.A (do let _ ← comprehension (.ListComp elt [⟨tg, iter, ifs, 0⟩] scope lp) scope X.env (firstIterPos [⟨tg, iter, ifs, 0⟩] lp) (newList []) false (eval iter X.env) (some (assign (.Name y py) X.env))) _ _ s
  have h : tLcX W wi g tt te (own.map (·.2)) σ H (fun x H1 => gName i x σ H1 D.nx) := h
  refine wpAny_bind (thn (lcX_core (Qf := fun _ s' => SP X pins D .next s') hc tf hN I hi ok hg ht he hs h fun L C s' mm H' I' q hn f ce hce => ?_) fun _ s' hq => wpAny_pure (wpAny_pure hq))
  show wpAny _ _ (assign (.Name y py) X.env (.ref L)) _ _ _
  refine wpAny_assign_Name (store_ok2 (v := V.ref L) I' hN hy (.inl hyl) rfl (fun s2 I2 ⟨a, sb, ha⟩ => ?_) (.inr hyl))
  obtain ⟨f0, f1, f2, f3, f4, f5⟩ := f
  have ne : C ≠ a := by
    rcases ha with z | z
    · rw [z]; exact f1
    · exact fun e => f4 y a z e.symm
  rw [hce]
  refine ⟨mm, hn.sameBut sb ne, fun h3 sb3 => ?_⟩
  exact ⟨_, H', I2.turned (t' := s2.toks) (fun b o hb e => (sb3.2 b hb).trans e) f0 f1 f3 f4 f5, q⟩
end
end MP
/-! enumerate of a tuple -/
namespace MP
open PySem L2 PySem.Spec
open AutoSeq1 (wpAny_loadPart')
set_option maxHeartbeats 2000000 in
theorem enumT_new (l : Addr) (its : Array Value) (n : Nat) (dct : Option Addr) (sl : Array (Option Value)) :
    Meets (Builtin.«enumerate.__new__» ⟨[.type "enumerate", .ref l], []⟩) (fun _ R s => s.heap.get? l = some { cls := .type "tuple", dict := dct, data := .seq its n, slots := sl } ∧
      R (.ok (.ret (.ref (s.heap.push { cls := .type "tuple_iterator", data := .fields #[.ref l, .int 0 0] }).objs.size)))
        { s with heap := (s.heap.push { cls := .type "tuple_iterator", data := .fields #[.ref l, .int 0 0] }).push { cls := .type "enumerate", data := .fields #[.none, .bool false, .ref s.heap.objs.size, rawInt 0, .none, .none] } }) :=
  .of_wp fun prog w A R s h => by
    obtain ⟨hp, g, d, tk, os⟩ := s
    obtain ⟨hl, h⟩ := h
    have hsub := sub_enumerate
    have hT : Heap.IsTuple (Shared.heap ⟨hp, g, d, tk, os⟩) l its := ⟨_, hl, rfl, n, rfl⟩
    wp_walk using wpAny_loadPart' hl
    refine wpAny_stack_any fun st => wpAny_pure ?_
    split
    · rename_i c _ _ _ _ _
      cases (c == Value.type "enumerate")
      · wp_walk using wpAny_loadPart' hl, wpAny_pyIter_tuple hT
        exact ⟨_, rfl, h⟩
      · wp_walk using wpAny_loadPart' hl, wpAny_pyIter_tuple hT
        exact ⟨_, rfl, h⟩
    · wp_walk using wpAny_loadPart' hl, wpAny_pyIter_tuple hT
      exact ⟨_, rfl, h⟩
section
variable {prog : Program} {w : World} {A : Around} {E : Value → Shared → Prop} {s : Shared}
theorem call_enumT {l : Addr} {its : Array Value} {Q : Value → Shared → Prop} (hL : s.heap.IsTuple l its)
    (h : ∀ h', IsEnum h' (s.heap.objs.size + 1) s.heap.objs.size 0 .none → h'.IsTupleIter s.heap.objs.size l 0 → h'.objs.size = s.heap.objs.size + 2 →
      (∀ b o, s.heap.get? b = some o → h'.get? b = some o) → Q (.ref (s.heap.objs.size + 1)) { s with heap := h' }) :
    wpAny (model prog w) A (call (.type "enumerate") [.ref l]) Q E s := by
  obtain ⟨⟨c, dct, dt, sl⟩, hl, hc, n, hd⟩ := hL
  replace hc : c = .type "tuple" := hc
  replace hd : dt = .seq its n := hd
  subst hc hd
  refine callType_new F.called_enumerate (by decide) (F.typeCall_enumerate_1 _) (F.newCall_enumerate_1 _) (fun ob => F.args_object_init_2 ob _) F.entry_enumerate_new
    (enumT_new l its n dct sl) ⟨hl, ?_⟩
  have sz : (s.heap.push { cls := .type "tuple_iterator", data := .fields #[.ref l, .int 0 0] }).objs.size = s.heap.objs.size + 1 := Heap.size_push ..
  show _ ∧ _
  rw [sz]
  have he : IsEnum ((s.heap.push { cls := .type "tuple_iterator", data := .fields #[.ref l, .int 0 0] }).push
      { cls := .type "enumerate", data := .fields #[.none, .bool false, .ref s.heap.objs.size, rawInt 0, .none, .none] }) (s.heap.objs.size + 1) s.heap.objs.size 0 .none := by
    have z := Heap.get?_push_size (s.heap.push { cls := .type "tuple_iterator", data := .fields #[.ref l, .int 0 0] })
      (o := { cls := .type "enumerate", data := .fields #[.none, .bool false, .ref s.heap.objs.size, rawInt 0, .none, .none] }) rfl
    rw [sz] at z; exact z
  refine ⟨⟨_, he, rfl⟩, h _ he ⟨_, Heap.get?_push_of_some _ (Heap.get?_push_size _ rfl), rfl, rfl⟩ (by rw [Heap.size_push, sz]) fun b o x => Heap.get?_push_of_some _ (Heap.get?_push_of_some _ x)⟩
theorem draws_tuple {it l : Addr} {its : Array Value} (hne : l ≠ it) (hh : A.handled = none) : Draws prog w A it [it, l] its.size (fun i x => its[i]? = some x) (fun i h => h.IsTupleIter it l i ∧ h.IsTuple l its) where
  live := fun i h st => let ⟨⟨o, ho, _⟩, _⟩ := st; ⟨o, ho⟩
  frame := fun i h h' st k => ⟨st.1.at fun o q => k it (by simp) o q, let ⟨o, ho, r⟩ := st.2; ⟨o, k l (by simp) o ho, r⟩⟩
  item := fun i s Q E hi st hQ => RZ.nextOf_tuple_item st.1 st.2 (Array.getElem?_eq_getElem hi) fun h' h1 sb => hQ _ h' s.toks (Array.getElem?_eq_getElem hi) ⟨h1, let ⟨o, ho, r⟩ := st.2; ⟨o, (sb.2 l hne).trans ho, r⟩⟩ sb
  done := fun s Q E st hE => RZ.nextOf_tuple_end hh st.1 st.2 (by simp) hE
end
/-- the tuple at a, each item in a new pair -/
def IteT (K : PySem.W.Frag) (a : Addr) : It :=
  ⟨fun i H => ∃ (xs : List V) (x : V), SqT K H a xs ∧ xs[i]? = some x, fun i H v H' => ∃ T x, v = .ref T ∧ H T = none ∧ H' = upd H T (.tup [.int (i : Nat), x]) ∧ ∀ xs, SqT K H a xs → xs[i]? = some x, fun i H => ∃ xs : List V, SqT K H a xs ∧ xs.length ≤ i⟩
theorem turn_enumT {P : Program} {w : World} {K : PySem.W.Frag} {elts : List Expr} {kk : Nat} {tp : Pos} (a e it : Addr) (nea : a ≠ it) :
    Turn P w K (.Tuple elts kk tp) (IteT K a) [e, it] e (fun i h => (∃ old, IsEnum h e it ((i : Nat) : Int) old) ∧ h.IsTupleIter it a i ∧ e ≠ it ∧ e ≠ a) where
  mem := by simp
  obj := fun i h st b hb => by
    obtain ⟨⟨old, he⟩, ⟨o, ho, hc, hd⟩, _⟩ := st
    have e' : b = e ∨ b = it := by simpa using hb
    rcases e' with z | z
    · rw [z]; exact ⟨_, he, fun v q => nomatch q⟩
    · rw [z]; exact ⟨o, ho, fun v q => by rw [hd] at q; cases q⟩
  keep := fun i h h' st k => let ⟨⟨old, he⟩, hi, hne⟩ := st; ⟨⟨old, k e (by simp) _ he⟩, hi.at fun o q => k it (by simp) o q, hne⟩
  item := by
    intro X hP hw hK hc i pins s σ H E I hf st hg
    subst hP hw hK
    obtain ⟨⟨old, he⟩, hit, hne, hnea⟩ := st
    obtain ⟨xs, x, hq, hx⟩ := hg
    obtain ⟨its, rv, p, hz⟩ := I.tuple hq
    obtain ⟨u, hu, ru⟩ := rv.get hx
    have hel : e < s.heap.objs.size := Heap.lt_size he
    have hil : it < s.heap.objs.size := by obtain ⟨_, q, _⟩ := hit; exact Heap.lt_size q
    have hlt : i < its.toArray.size := by
      have := (List.getElem?_eq_some_iff.mp hu).1
      simpa using this
    refine wpAny_pyNext_enum_itemD (draws_tuple (A := X.A.in1) nea (I.ok.hd hc)) he ⟨hit, p⟩ hlt hne (by simp [hne, hnea]) fun u' h' tk eu ho hst hT hsz hk => ?_
    have eu' : u' = u := by
      have e1 : its.toArray[i]? = some u' := eu
      have e2 : its.toArray[i]? = some u := by simpa using hu
      rw [e2] at e1
      exact (Option.some.inj e1).symm
    subst eu'
    refine ⟨_, rfl, wpAny_letOwnedTupleGo_enum (s := { s with heap := h', toks := tk + 1 }) ho fun h'' he' sb => ?_⟩
    have hT2 : h''.get? s.heap.objs.size = some { cls := .type "tuple", data := .seq #[.int i tk, u'] } := (sb.2 _ (Nat.ne_of_gt hel)).trans hT
    have new : ObjOk X.prog X.w (upd H s.heap.objs.size (.tup [.int (i : Nat), x])) h'' s.heap.objs.size (.tup [.int (i : Nat), x]) :=
      ⟨by show 2 ≤ sizeLine; decide, [.int i tk, u'], .cons ⟨_, rfl⟩ (.cons ru .nil), ⟨_, hT2, rfl, _, rfl⟩⟩
    have I1 : Inv X pins σ (upd H s.heap.objs.size (.tup [.int (i : Nat), x])) { s with heap := h'', toks := tk + 1 } :=
      I.turnedNew (ch := [e, it]) (fun b ob hb q => (sb.2 b (fun z => hb (by simp [z]))).trans (hk b ob (fun z => hb (by simp [z])) (fun z => hb (by simp [z])) q)) hf (Nat.le_refl _) new
    refine ⟨.ref s.heap.objs.size, _, I1, rfl, ⟨_, x, rfl, I.hok.fresh (Nat.le_refl _), rfl, fun ys hy => by rw [I.tuple_inj hy hq]; exact hx⟩, ⟨⟨u', ?_⟩, hst.1.at fun o q => (sb.2 it (Ne.symm hne)).trans q, hne, hnea⟩, fun b hb => ?_⟩
    · have e1 : ((i + 1 : Nat) : Int) = (i : Int) + 1 := by omega
      rw [e1]; exact he'
    · have hb' : b < s.heap.objs.size := by
        have e' : b = e ∨ b = it := by simpa using hb
        rcases e' with z | z
        · rw [z]; exact hel
        · rw [z]; exact hil
      rw [upd_ne (Nat.ne_of_lt hb')]
      exact (hf b hb).1
  done := by
    intro X hP hw hK hc i pins s σ H E I hf st hg
    subst hP hw hK
    obtain ⟨⟨old, he⟩, hit, hne, hnea⟩ := st
    obtain ⟨xs, hq, hx⟩ := hg
    obtain ⟨its, rv, p, hz⟩ := I.tuple hq
    obtain ⟨f0, f1, f2, f3, f4, f5⟩ := hf it (by simp)
    have hl := rv.length
    have D : Draws X.prog X.w X.A.in1.in1 it [it, a] i (fun _ _ => False) (fun j h => h.IsTupleIter it a j ∧ h.IsTuple a its.toArray ∧ j = i) := by
      refine ⟨fun j h st => let ⟨⟨o, ho, _⟩, _⟩ := st; ⟨o, ho⟩, fun j h h' st k => ⟨st.1.at fun o q => k it (by simp) o q, let ⟨o, ho, r⟩ := st.2.1; ⟨o, k a (by simp) o ho, r⟩, st.2.2⟩, fun j s Q E hj st => absurd st.2.2 (by omega), fun s Q E st hE => RZ.nextOf_tuple_end (I.ok.hd hc) st.1 st.2.1 (by simp; omega) hE⟩
    exact wpAny_pyNext_enum_endD D.of_in1 he ⟨hit, p, rfl⟩ fun h' eb => ⟨rfl, I.turned (t' := s.toks) (fun b o hb q => eb b o hb q) f0 f1 f3 f4 f5⟩
  self := fun A i s Q E st h => let ⟨⟨_, he⟩, _⟩ := st; wpAny_pyIter_enum he h
def iEnumA (K : PySem.W.Frag) (ta : TA) : TI := fun σ H R => ta σ H fun vs H1 => ∃ a xs, vs = [.ref a] ∧ ((SqL K H1 a xs ∧ R (Ite K a) H1) ∨ (SqT K H1 a xs ∧ R (IteT K a) H1))
theorem pi_enumA {X : Cx} {e : Expr} {ta : TA} {p pos tp : Pos} {elts : List Expr} {kk : Nat} (hg : Gl X "enumerate") (hm : X.mg "enumerate" = none) (ha : PA X [e] ta) (hs : starEach [e] X.env = [(false, eval e X.env)]) :
    PI X (.Tuple elts kk tp) (.Call (.Name "enumerate" p) [e] [] pos) (iEnumA X.K ta) := by
  refine ⟨fun pins s σ H R I h => ?_⟩
  refine PyProof.Rows.Call_ (ld_blt I hg hm PyProof.Rows.boot_enumerate (PyProof.Rows.callWith_type1 (thn (ha.run pos pins s σ H _ I h) fun us s1 ⟨vs, H1, I1, r1, q1⟩ => ?_) hs rfl))
  obtain ⟨a, xs, ex, hq⟩ := q1
  subst ex
  cases r1 with
  | cons r rr =>
    cases rr
    cases r
    have fr : ∀ b ∈ [s1.heap.objs.size + 1, s1.heap.objs.size], FpOk X pins H1 b := fun b hb => by
      have e' : b = s1.heap.objs.size + 1 ∨ b = s1.heap.objs.size := by simpa using hb
      have hle : s1.heap.objs.size ≤ b := by
        rcases e' with z | z
        · rw [z]; exact Nat.le_add_right _ _
        · rw [z]; exact Nat.le_refl _
      exact I1.fpOk hle (I1.hok.fresh hle)
    rcases hq with ⟨hq, q⟩ | ⟨hq, q⟩
    · obtain ⟨its, rv, p', hz⟩ := I1.list hq
      refine call_enumerate_list p'.isList fun h' he hit hsz hk => wpAny_pyIter_enum he ?_
      have I2 : Inv X pins σ H1 { s1 with heap := h' } := I1.kept (t' := s1.toks) hk
      exact ⟨s1.heap.objs.size + 1, [s1.heap.objs.size + 1, s1.heap.objs.size], _, _, H1, rfl, I2, turn_enum a (s1.heap.objs.size + 1) s1.heap.objs.size, ⟨⟨.none, he⟩, hit, Nat.succ_ne_self _⟩, fr, q⟩
    · obtain ⟨its, rv, p', hz⟩ := I1.tuple hq
      have al : a < s1.heap.objs.size := by obtain ⟨o, e, _⟩ := p'; exact Heap.lt_size e
      refine call_enumT p' fun h' he hit hsz hk => wpAny_pyIter_enum he ?_
      have I2 : Inv X pins σ H1 { s1 with heap := h' } := I1.kept (t' := s1.toks) hk
      exact ⟨s1.heap.objs.size + 1, [s1.heap.objs.size + 1, s1.heap.objs.size], _, _, H1, rfl, I2, turn_enumT a (s1.heap.objs.size + 1) s1.heap.objs.size (Nat.ne_of_lt al), ⟨⟨.none, he⟩, hit, Nat.succ_ne_self _, Nat.ne_of_gt (Nat.lt_succ_of_lt al)⟩, fr, q⟩
end MP
/-! The small machine's runs and the model's: what stands for what -/
namespace MP
open PySem L2
/-- the written part, the module's names, the error that a suite holds -/
structure G where
  K : PySem.W.Frag
  mg : Str → Option Value
  w : World
  xi : Option (Nat × Str × List (Str × M) × Addr × Value × Option Addr)
/-- a list that is read alone -/
def RoL (K : PySem.W.Frag) (H : Hp) (a : Addr) (vs : List V) : Prop :=
  (∃ o, H a = some (.frz o (.lst vs))) ∨ ∃ (o : Obj) (its : Array Value) (n : Nat), K.lookup a = some o ∧ o.cls = .type "list" ∧ o.dict = none ∧ o.data = .seq its n ∧ its.size ≤ sizeLine ∧ Vals vs its.toList
mutual
/-- a constant of the module -/
def CnR (K : PySem.W.Frag) (mg : Str → Option Value) : Cn → V → Prop
  | .non, v => v = .non
  | .bl b, v => v = .bl b
  | .int i, v => v = .int i
  | .str x, v => v = .str x
  | .tup xs, v => ∃ a vs, v = .ref a ∧ (∀ H, SqT K H a vs) ∧ CnRs K mg xs vs
  | .glo x, v => ∃ a, mg x = some (.ref a) ∧ v = .ref a
def CnRs (K : PySem.W.Frag) (mg : Str → Option Value) : List Cn → List V → Prop
  | [], vs => vs = []
  | x :: xs, vs => ∃ v r, vs = v :: r ∧ CnR K mg x v ∧ CnRs K mg xs r
end
/-- a dict of the module -/
def RoD (K : PySem.W.Frag) (mg : Str → Option Value) (w : World) (a : Addr) (kvs : List (Str × Cn)) : Prop :=
  (∃ es n, KDict K w a es n) ∧ ∀ z, match kvs.lookup z with
    | some c => ∃ u v, PySem.W.nsIn K a z = some (some u) ∧ RelV v u ∧ CnR K mg c v
    | none => PySem.W.nsIn K a z = some none
mutual
def RM (g : G) (m : List Addr) (H : Hp) : M → V → Prop
  | .non, v => v = .non
  | .bl b, v => v = .bl b
  | .int i, v => v = .int i
  | .str x, v => v = .str x
  | .tup xs, v => ∃ a vs, v = .ref a ∧ SqT g.K H a vs ∧ RMs g m H xs vs
  | .rol xs, v => ∃ a vs, v = .ref a ∧ RoL g.K H a vs ∧ RMs g m H xs vs
  | .ref i, v => ∃ a, m[i]? = some a ∧ v = .ref a
  | .glo x, v => ∃ a, g.mg x = some (.ref a) ∧ v = .ref a
  | .rod kvs, v => ∃ a, v = .ref a ∧ RoD g.K g.mg g.w a kvs
def RMs (g : G) (m : List Addr) (H : Hp) : List M → List V → Prop
  | [], vs => vs = []
  | x :: xs, vs => ∃ v r, vs = v :: r ∧ RM g m H x v ∧ RMs g m H xs r
def RFs (g : G) (m : List Addr) (H : Hp) : List (Str × M) → List (Str × V) → Prop
  | [], vs => vs = []
  | x :: xs, vs => ∃ v r, vs = (x.1, v) :: r ∧ RM g m H x.2 v ∧ RFs g m H xs r
end
mutual
theorem CnR.rm {g : G} {m : List Addr} {H : Hp} : ∀ (c : Cn) (v : V), CnR g.K g.mg c v → RM g m H c.m v
  | .non, v, r => by simpa [CnR, Cn.m, RM] using r
  | .bl b, v, r => by simpa [CnR, Cn.m, RM] using r
  | .int b, v, r => by simpa [CnR, Cn.m, RM] using r
  | .str b, v, r => by simpa [CnR, Cn.m, RM] using r
  | .glo b, v, r => by simpa [CnR, Cn.m, RM] using r
  | .tup xs, v, r => by
    simp only [CnR] at r
    obtain ⟨a, vs, e, s, r⟩ := r
    simp only [Cn.m, RM]
    exact ⟨a, vs, e, s H, CnRs.rm xs vs r⟩
theorem CnRs.rm {g : G} {m : List Addr} {H : Hp} : ∀ (c : List Cn) (v : List V), CnRs g.K g.mg c v → RMs g m H (Cn.ms c) v
  | [], v, r => by simpa [CnRs, Cn.ms, RMs] using r
  | c :: cs, v, r => by
    simp only [CnRs] at r
    obtain ⟨x, t, e, r1, r2⟩ := r
    simp only [Cn.ms, RMs]
    exact ⟨x, t, e, CnR.rm c x r1, CnRs.rm cs t r2⟩
end
/-- an error's class and own dict -/
def RX (g : G) (m : List Addr) (H : Hp) (c : Str) (fs : List (Str × M)) (cls : Value) (d : Option Addr) : Prop :=
  ∃ C, g.mg c = some (.ref C) ∧ cls = .ref C ∧ ((fs = [] ∧ d = none) ∨ ∃ dd ws, d = some dd ∧ dd ∉ m ∧ H dd = some (.xd ws) ∧ RFs g m H fs ws)
def RKs (g : G) (m : List Addr) (H : Hp) : List (L2.Key × M) → List (L2.Key × V) → Prop
  | [], vs => vs = []
  | x :: xs, vs => ∃ v r, vs = (x.1, v) :: r ∧ RM g m H x.2 v ∧ RKs g m H xs r
def OR (g : G) (m : List Addr) (H : Hp) : O → Addr → Prop
  | .lst xs, a => ∃ vs, H a = some (.lst vs) ∧ RMs g m H xs vs
  | .dic kvs, a => ∃ ws, H a = some (.dK ws) ∧ RKs g m H kvs ws
  | .ins c fs, a => ∃ C dx ws, g.mg c = some (.ref C) ∧ H a = some (.ins C dx ws) ∧ dx ∉ m ∧ H dx = some (.own a) ∧ RFs g m H fs ws
structure HRel (g : G) (m : List Addr) (h : Hm) (H : Hp) : Prop where
  len : m.length = h.length
  inj : ∀ (i j : Nat) a, m[i]? = some a → m[j]? = some a → i = j
  obj : ∀ (i : Nat) o, h[i]? = some o → ∃ a, m[i]? = some a ∧ OR g m H o a
structure Step (g : G) (m : List Addr) (H : Hp) (h' : Hm) (m' : List Addr) (H' : Hp) : Prop where
  pre : ∃ e, m' = m ++ e ∧ ∀ a ∈ e, a ∈ m ∨ H a = none
  frm : ∀ a o, H a = some o → a ∉ m → H' a = some o
  ext : ∀ a vs, SqT g.K H a vs → SqT g.K H' a vs
  rol : ∀ a vs, RoL g.K H a vs → RoL g.K H' a vs
  rel : HRel g m' h' H'

section
variable {g : G} {m m' m2 : List Addr} {H H' H2 : Hp} {h h' h2 : Hm}
/-- what no work on a new object changes -/
def stl : HO → Bool
  | .lst _ => false
  | .dK _ => false
  | _ => true
/-- what carries values on -/
structure Car (g : G) (m : List Addr) (H : Hp) (m' : List Addr) (H' : Hp) : Prop where
  ix : ∀ (i : Nat) a, m[i]? = some a → m'[i]? = some a
  out : ∀ a o, H a = some o → stl o = true → a ∉ m → a ∉ m' ∧ H' a = some o
  ext : ∀ a vs, SqT g.K H a vs → SqT g.K H' a vs
  rol : ∀ a vs, RoL g.K H a vs → RoL g.K H' a vs
mutual
theorem RM.car (c : Car g m H m' H') : ∀ (x : M) (v : V), RM g m H x v → RM g m' H' x v
  | .non, _, r => r
  | .bl _, _, r => r
  | .int _, _, r => r
  | .str _, _, r => r
  | .glo _, _, r => r
  | .rod _, _, r => by simpa only [RM] using r
  | .ref i, v, r => by
    simp only [RM] at r ⊢
    obtain ⟨a, e, q⟩ := r
    exact ⟨a, c.ix i a e, q⟩
  | .tup xs, v, r => by
    simp only [RM] at r ⊢
    obtain ⟨a, vs, e, s, q⟩ := r
    exact ⟨a, vs, e, c.ext a vs s, RMs.car c xs vs q⟩
  | .rol xs, v, r => by
    simp only [RM] at r ⊢
    obtain ⟨a, vs, e, s, q⟩ := r
    exact ⟨a, vs, e, c.rol a vs s, RMs.car c xs vs q⟩
theorem RMs.car (c : Car g m H m' H') : ∀ (xs : List M) (vs : List V), RMs g m H xs vs → RMs g m' H' xs vs
  | [], _, r => r
  | x :: xs, vs, r => by
    simp only [RMs] at r ⊢
    obtain ⟨v, q, e, r1, r2⟩ := r
    exact ⟨v, q, e, RM.car c x v r1, RMs.car c xs q r2⟩
theorem RFs.car (c : Car g m H m' H') : ∀ (xs : List (Str × M)) (vs : List (Str × V)), RFs g m H xs vs → RFs g m' H' xs vs
  | [], _, r => r
  | (y, x) :: xs, vs, r => by
    simp only [RFs] at r ⊢
    obtain ⟨v, q, e, r1, r2⟩ := r
    exact ⟨v, q, e, RM.car c x v r1, RFs.car c xs q r2⟩
end
theorem RKs.car (c : Car g m H m' H') : ∀ (xs : List (L2.Key × M)) (vs : List (L2.Key × V)), RKs g m H xs vs → RKs g m' H' xs vs
  | [], _, r => r
  | (y, x) :: xs, vs, r => by
    simp only [RKs] at r ⊢
    obtain ⟨v, q, e, r1, r2⟩ := r
    exact ⟨v, q, e, RM.car c x v r1, RKs.car c xs q r2⟩
theorem RX.car (c : Car g m H m' H') {n : Str} {fs : List (Str × M)} {cls : Value} {d : Option Addr} (r : RX g m H n fs cls d) : RX g m' H' n fs cls d := by
  obtain ⟨C, e3, e4, q⟩ := r
  refine ⟨C, e3, e4, ?_⟩
  rcases q with q | ⟨dd, ws, e5, nm, e6, q⟩
  · exact .inl q
  · obtain ⟨n1, n2⟩ := c.out dd _ e6 rfl nm
    exact .inr ⟨dd, ws, e5, n1, n2, RFs.car c fs ws q⟩
theorem Step.out (s : Step g m H h' m' H') {a : Addr} {o : HO} (e : H a = some o) (n : a ∉ m) : a ∉ m' ∧ H' a = some o := by
  refine ⟨?_, s.frm a o e n⟩
  obtain ⟨l, rfl, f⟩ := s.pre
  intro z
  rcases List.mem_append.mp z with z | z
  · exact n z
  · rcases f a z with z | z
    · exact n z
    · rw [z] at e; cases e
theorem Step.car (s : Step g m H h' m' H') : Car g m H m' H' where
  ix := fun i a e => by
    obtain ⟨l, rfl, _⟩ := s.pre
    have hi : i < m.length := (List.getElem?_eq_some_iff.mp e).1
    rw [List.getElem?_append_left hi]
    exact e
  out := fun a o e _ n => s.out e n
  ext := s.ext
  rol := s.rol
theorem Step.refl (r : HRel g m h H) : Step g m H h m H := ⟨⟨[], by simp, fun _ z => nomatch z⟩, fun _ _ e _ => e, fun _ _ e => e, fun _ _ e => e, r⟩
theorem Step.trans (a : Step g m H h' m' H') (b : Step g m' H' h2 m2 H2) : Step g m H h2 m2 H2 where
  pre := by
    obtain ⟨l, e1, f⟩ := a.pre
    obtain ⟨l2, e2, f2⟩ := b.pre
    refine ⟨l ++ l2, by rw [e2, e1, List.append_assoc], fun x hx => ?_⟩
    rcases List.mem_append.mp hx with z | z
    · exact f x z
    · by_cases hm : x ∈ m
      · exact .inl hm
      · refine .inr ?_
        cases q : H x with
        | none => rfl
        | some o =>
          obtain ⟨n1, n2⟩ := a.out q hm
          rcases f2 x z with z | z
          · exact absurd z n1
          · rw [z] at n2; cases n2
  frm := fun x o e n => b.frm x o (a.frm x o e n) (a.out e n).1
  ext := fun x vs e => b.ext x vs (a.ext x vs e)
  rol := fun x vs e => b.rol x vs (a.rol x vs e)
  rel := b.rel

/-! ### what is wanted of a run -/
/-- o: what the small machine's run came to; W: what is wanted of an error -/
def Want {α β : Type} (g : G) (W : Value → Option Addr → Hp → Prop) (m : List Addr) (H : Hp) (R : List Addr → Hp → α → β → Prop) (o : Option (Out α)) (Q : β → Hp → Prop) : Prop :=
  ∃ r, o = some r ∧ match r with
    | .ok a h' => ∀ m' H' b, Step g m H h' m' H' → R m' H' a b → Q b H'
    | .exc c fs h' => ∀ m' H' cls d, Step g m H h' m' H' → RX g m' H' c fs cls d → W cls d H'
section
variable {α β γ δ : Type} {W : Value → Option Addr → Hp → Prop} {R : List Addr → Hp → α → β → Prop} {R2 : List Addr → Hp → γ → δ → Prop} {Q : δ → Hp → Prop}
theorem Want.mono {o : Option (Out α)} {Q Q' : β → Hp → Prop} (w : Want g W m H R o Q) (f : ∀ b H', Q b H' → Q' b H') : Want g W m H R o Q' := by
  obtain ⟨r, e, w⟩ := w
  refine ⟨r, e, ?_⟩
  cases r with
  | ok a h' => exact fun m' H' b s q => f _ _ (w m' H' b s q)
  | exc c fs h' => exact w
/-- one behind another -/
theorem Want.bind {x : Option (Out α)} {f : α → Hm → Option (Out γ)} (w : Want g W m H R2 (bindO x f) Q) :
    Want g W m H R x fun b H1 => ∃ m1 a h1, Step g m H h1 m1 H1 ∧ R m1 H1 a b ∧ x = some (.ok a h1) ∧ Want g W m1 H1 R2 (f a h1) Q := by
  obtain ⟨r, e, w⟩ := w
  cases x with
  | none => cases e
  | some o =>
    cases o with
    | exc c fs h1 =>
      refine ⟨_, rfl, ?_⟩
      cases e
      exact w
    | ok a h1 =>
      refine ⟨_, rfl, fun m1 H1 b s q => ⟨m1, a, h1, s, q, rfl, r, e, ?_⟩⟩
      cases r with
      | ok c h2 => exact fun m2 H2 d s2 q2 => w m2 H2 d (s.trans s2) q2
      | exc c fs h2 => exact fun m2 H2 cls d s2 q2 => w m2 H2 cls d (s.trans s2) q2
/-- a value, the store as it is -/
theorem Want.here {a : γ} {b : δ} (r : HRel g m h H) (w : Want g W m H R2 (some (.ok a h)) Q) (q : R2 m H a b) : Q b H := by
  obtain ⟨r', e, w⟩ := w
  cases e
  exact w m H b (Step.refl r) q
theorem Want.okv {v : Option γ} (w : Want g W m H R2 (okv v h) Q) : ∃ a, v = some a ∧ Want g W m H R2 (some (.ok a h)) Q := by
  cases v with
  | none => obtain ⟨_, e, _⟩ := w; cases e
  | some a => exact ⟨a, rfl, w⟩
theorem Want.isS {o : Option (Out γ)} (w : Want g W m H R2 o Q) : ∃ r, o = some r := let ⟨r, e, _⟩ := w; ⟨r, e⟩
end
/-! ### the frame's names -/
structure ER (g : G) (m : List Addr) (H : Hp) (env : Ev) (σ : St) : Prop where
  len : env.length = σ.length
  val : ∀ (i : Nat) v, env[i]? = some (some v) → ∃ x, σ[i]? = some (some x) ∧ RM g m H v x
  err : ∀ i c fs a cls d, g.xi = some (i, c, fs, a, cls, d) → env[i]? = some none → σ[i]? = some (some (.ref a)) ∧ RX g m H c fs cls d
theorem ER.car (c : Car g m H m' H') {env : Ev} {σ : St} (e : ER g m H env σ) : ER g m' H' env σ := ⟨e.len, fun i v q => by
  obtain ⟨x, h1, h2⟩ := e.val i v q
  exact ⟨x, h1, h2.car c⟩, fun i c' fs a cls d z q => by
  obtain ⟨h1, h2⟩ := e.err i c' fs a cls d z q
  exact ⟨h1, h2.car c⟩⟩
theorem ER.set {env : Ev} {σ : St} (e : ER g m H env σ) {i : Nat} {v : M} {x : V} (r : RM g m H v x) : ER g m H (env.set i (some v)) (σ.set i (some x)) := by
  refine ⟨by simp [e.len], fun j w q => ?_, fun j c fs a cls d z q => ?_⟩
  · by_cases hj : i = j
    · subst hj
      by_cases hl : i < env.length
      · rw [List.getElem?_set_self hl] at q
        cases q
        exact ⟨x, List.getElem?_set_self (by rw [← e.len]; exact hl), r⟩
      · rw [List.getElem?_eq_none (by simp; omega)] at q; cases q
    · rw [List.getElem?_set_ne hj] at q
      rw [List.getElem?_set_ne hj]
      exact e.val j w q
  · by_cases hj : i = j
    · subst hj
      by_cases hl : i < env.length
      · rw [List.getElem?_set_self hl] at q; cases q
      · rw [List.getElem?_eq_none (by simp; omega)] at q; cases q
    · rw [List.getElem?_set_ne hj] at q
      rw [List.getElem?_set_ne hj]
      exact e.err j c fs a cls d z q
theorem ER.clr {env : Ev} {σ : St} (e : ER g m H env σ) (hx : g.xi = none) {i : Nat} {o : Option V} : ER g m H (env.set i none) (σ.set i o) := by
  refine ⟨by simp [e.len], fun j w q => ?_, fun j c fs a cls d z q => by rw [hx] at z; cases z⟩
  by_cases hj : i = j
  · subst hj
    by_cases hl : i < env.length
    · rw [List.getElem?_set_self hl] at q; cases q
    · rw [List.getElem?_eq_none (by simp; omega)] at q; cases q
  · rw [List.getElem?_set_ne hj] at q
    rw [List.getElem?_set_ne hj]
    exact e.val j w q
theorem ER.wipe {env : Ev} {σ : St} (e : ER g m H env σ) (hx : g.xi = none) : ∀ vs : List Nat, ER g m H (wipeM env vs) (wipe σ vs)
  | [] => e
  | v :: vs => (ER.wipe e hx vs).clr hx
structure Sim (g : G) (m : List Addr) (H : Hp) (h : Hm) (env : Ev) (σ : St) : Prop where
  er : ER g m H env σ
  rel : HRel g m h H
theorem Sim.step {env : Ev} {σ : St} (s : Sim g m H h env σ) (t : Step g m H h' m' H') : Sim g m' H' h' env σ := ⟨s.er.car t.car, t.rel⟩
theorem RM.step {x : M} {v : V} (r : RM g m H x v) (t : Step g m H h' m' H') : RM g m' H' x v := r.car t.car
theorem RMs.step {x : List M} {v : List V} (r : RMs g m H x v) (t : Step g m H h' m' H') : RMs g m' H' x v := r.car t.car
theorem RMs.length : ∀ {xs : List M} {vs : List V}, RMs g m H xs vs → xs.length = vs.length
  | [], _, r => by simp only [RMs] at r; rw [r]; rfl
  | x :: xs, vs, r => by
    simp only [RMs] at r
    obtain ⟨v, q, e, _, r2⟩ := r
    rw [e, List.length_cons, List.length_cons, RMs.length r2]
theorem RMs.get : ∀ {xs : List M} {vs : List V} {i : Nat} {x : M}, RMs g m H xs vs → xs[i]? = some x → ∃ v, vs[i]? = some v ∧ RM g m H x v
  | [], _, _, _, _, e => by simp at e
  | y :: xs, vs, 0, x, r, e => by
    simp only [RMs] at r
    obtain ⟨v, q, e1, r1, _⟩ := r
    simp at e
    subst e e1
    exact ⟨v, rfl, r1⟩
  | y :: xs, vs, i + 1, x, r, e => by
    simp only [RMs] at r
    obtain ⟨v, q, e1, _, r2⟩ := r
    subst e1
    simpa using RMs.get (i := i) (x := x) r2 (by simpa using e)
theorem RMs.append : ∀ {xs ys : List M} {vs ws : List V}, RMs g m H xs vs → RMs g m H ys ws → RMs g m H (xs ++ ys) (vs ++ ws)
  | [], _, _, _, r, s => by simp only [RMs] at r; subst r; exact s
  | x :: xs, ys, vs, ws, r, s => by
    simp only [RMs] at r
    obtain ⟨v, q, e, r1, r2⟩ := r
    subst e
    show RMs g m H (x :: (xs ++ ys)) (v :: (q ++ ws))
    simp only [RMs]
    exact ⟨v, _, rfl, r1, RMs.append r2 s⟩
theorem RMs.set : ∀ {xs : List M} {vs : List V} {x : M} {v : V} (i : Nat), RMs g m H xs vs → RM g m H x v → RMs g m H (xs.set i x) (vs.set i v)
  | [], _, _, _, _, r, _ => by simp only [RMs] at r; subst r; simp [RMs]
  | y :: xs, vs, x, v, 0, r, s => by
    simp only [RMs] at r
    obtain ⟨w, q, e, r1, r2⟩ := r
    subst e
    show RMs g m H (x :: xs) (v :: q)
    simp only [RMs]
    exact ⟨v, q, rfl, s, r2⟩
  | y :: xs, vs, x, v, i + 1, r, s => by
    simp only [RMs] at r
    obtain ⟨w, q, e, r1, r2⟩ := r
    subst e
    show RMs g m H (y :: xs.set i x) (w :: q.set i v)
    simp only [RMs]
    exact ⟨w, _, rfl, r1, RMs.set i r2 s⟩
theorem RMs.drop : ∀ {xs : List M} {vs : List V} (n : Nat), RMs g m H xs vs → RMs g m H (xs.drop n) (vs.drop n)
  | _, _, 0, r => r
  | [], _, _ + 1, r => by simp only [RMs] at r; subst r; simp [RMs]
  | x :: xs, vs, n + 1, r => by
    simp only [RMs] at r
    obtain ⟨w, q, e, r1, r2⟩ := r
    subst e
    exact RMs.drop n r2
theorem RMs.take : ∀ {xs : List M} {vs : List V} (n : Nat), RMs g m H xs vs → RMs g m H (xs.take n) (vs.take n)
  | _, _, 0, r => by simp [RMs]
  | [], _, _ + 1, r => by simp only [RMs] at r; subst r; simp [RMs]
  | x :: xs, vs, n + 1, r => by
    simp only [RMs] at r
    obtain ⟨w, q, e, r1, r2⟩ := r
    subst e
    show RMs g m H (x :: xs.take n) (w :: q.take n)
    simp only [RMs]
    exact ⟨w, _, rfl, r1, RMs.take n r2⟩
theorem RMs.cut {xs : List M} {vs : List V} (r : RMs g m H xs vs) (lo hi : Option Int) : RMs g m H (cut xs lo hi) (cutV vs lo hi) := by
  unfold MP.cut cutV
  rw [r.length]
  exact (r.drop _).take _
/-! ### changes of the store -/
theorem OR.upd {p : Addr} {ob : HO} (c : Car g m H m' (upd H p ob)) {o : O} {a : Addr} (r : OR g m H o a) (n : a ≠ p) : OR g m' (upd H p ob) o a := by
  cases o with
  | lst xs =>
    obtain ⟨vs, e, q⟩ := r
    exact ⟨vs, by rw [upd_ne n]; exact e, q.car c⟩
  | dic xs =>
    obtain ⟨vs, e, q⟩ := r
    exact ⟨vs, by rw [upd_ne n]; exact e, q.car c⟩
  | ins k xs =>
    obtain ⟨C, dx, vs, e0, e, n1, e1, q⟩ := r
    obtain ⟨z1, z2⟩ := c.out dx _ e1 rfl n1
    exact ⟨C, dx, vs, e0, by rw [upd_ne n]; exact e, z1, z2, q.car c⟩
theorem OR.there {o : O} {a : Addr} (r : OR g m H o a) : ∃ u, H a = some u ∧ Mut (some u) := by
  cases o with
  | lst xs => obtain ⟨vs, e, q⟩ := r; exact ⟨_, e, trivial⟩
  | dic xs => obtain ⟨vs, e, q⟩ := r; exact ⟨_, e, trivial⟩
  | ins k xs => obtain ⟨C, dx, vs, e0, e, _⟩ := r; exact ⟨_, e, trivial⟩
/-- what the store tells of stands in the heap -/
theorem HRel.there (r : HRel g m h H) {a : Addr} (hm : a ∈ m) : ∃ u, H a = some u ∧ Mut (some u) := by
  obtain ⟨i, hi⟩ := List.getElem?_of_mem hm
  have hl : i < h.length := by rw [← r.len]; exact (List.getElem?_eq_some_iff.mp hi).1
  obtain ⟨a', e', r'⟩ := r.obj i _ (List.getElem?_eq_getElem hl)
  rw [hi] at e'
  cases e'
  exact r'.there
theorem HRel.notIn (r : HRel g m h H) {a : Addr} (hp : H a = none) : a ∉ m := fun z => by
  obtain ⟨u, e, _⟩ := r.there z
  rw [hp] at e; cases e
theorem upd_keeps {p a : Addr} {ob u : HO} (e : H a = some u) (nm : ¬ Mut (some u)) (n : H p = none ∨ ∃ u, H p = some u ∧ Mut (some u)) : upd H p ob a = some u := by
  have ne : a ≠ p := fun z => by
    subst z
    rcases n with n | ⟨w, n, mu⟩
    · rw [n] at e; cases e
    · rw [n] at e; cases e; exact nm mu
  rw [upd_ne ne]
  exact e
theorem sqT_upd {K : PySem.W.Frag} {p a : Addr} {ob : HO} {vs : List V} (s : SqT K H a vs) (n : H p = none ∨ ∃ u, H p = some u ∧ Mut (some u)) : SqT K (upd H p ob) a vs := by
  rcases s with s | s
  · refine .inl ?_
    rcases s with s | ⟨o, s⟩
    · exact .inl (upd_keeps s (fun z => z) n)
    · exact .inr ⟨o, upd_keeps s (fun z => z) n⟩
  · exact .inr s
theorem roL_upd {K : PySem.W.Frag} {p a : Addr} {ob : HO} {vs : List V} (s : RoL K H a vs) (n : H p = none ∨ ∃ u, H p = some u ∧ Mut (some u)) : RoL K (upd H p ob) a vs := by
  rcases s with ⟨o, s⟩ | s
  · exact .inl ⟨o, upd_keeps s (fun z => z) n⟩
  · exact .inr s
theorem car_new {p : Addr} {ob : HO} (hp : H p = none) (m' : List Addr) (hm : m' = m ∨ m' = m ++ [p]) : Car g m H m' (upd H p ob) where
  ix := fun i a e => by
    rcases hm with rfl | rfl
    · exact e
    · rw [List.getElem?_append_left (List.getElem?_eq_some_iff.mp e).1]; exact e
  out := fun a o e _ n => by
    have ne : a ≠ p := fun z => by subst z; rw [hp] at e; cases e
    refine ⟨?_, by rw [upd_ne ne]; exact e⟩
    rcases hm with rfl | rfl
    · exact n
    · intro z
      rcases List.mem_append.mp z with z | z
      · exact n z
      · exact ne (by simpa using z)
  ext := fun a vs s => sqT_upd s (.inl hp)
  rol := fun a vs s => roL_upd s (.inl hp)
/-- an object of the machine's own is laid, the store does not tell of it -/
theorem HRel.laid {p : Addr} {ob : HO} (r : HRel g m h H) (hp : H p = none) : Step g m H h m (upd H p ob) := by
  have c := car_new (g := g) (m := m) (ob := ob) hp m (.inl rfl)
  refine ⟨⟨[], by simp, fun _ z => nomatch z⟩, fun a o e n => by rw [upd_ne (show a ≠ p from fun z => by rw [z, hp] at e; cases e)]; exact e, c.ext, c.rol, r.len, r.inj, fun i o e => ?_⟩
  obtain ⟨a, e1, q⟩ := r.obj i o e
  refine ⟨a, e1, q.upd c fun z => ?_⟩
  subst z
  exact r.notIn hp (List.mem_of_getElem? e1)
/-- a new object of the store -/
theorem HRel.new {p : Addr} {ob : HO} {o : O} (r : HRel g m h H) (hp : H p = none) (ho : Car g m H (m ++ [p]) (upd H p ob) → OR g (m ++ [p]) (upd H p ob) o p) : Step g m H (h ++ [o]) (m ++ [p]) (upd H p ob) := by
  have c := car_new (g := g) (m := m) (ob := ob) hp (m ++ [p]) (.inr rfl)
  have np := r.notIn hp
  refine ⟨⟨[p], rfl, fun a z => .inr (by rw [show a = p by simpa using z]; exact hp)⟩, fun a o e n => by rw [upd_ne (show a ≠ p from fun z => by rw [z, hp] at e; cases e)]; exact e, c.ext, c.rol, by simp [r.len], fun i j a e1 e2 => ?_, fun i o1 e => ?_⟩
  · have hl : ∀ {i : Nat}, m.length ≤ i → (m ++ [p])[i]? = some a → a = p ∧ i = m.length := fun {i} hi e => by
      rw [List.getElem?_append_right hi] at e
      cases q : i - m.length with
      | zero => rw [q] at e; exact ⟨by simpa using e.symm, by omega⟩
      | succ k => rw [q] at e; simp at e
    by_cases hi : i < m.length
    · rw [List.getElem?_append_left hi] at e1
      by_cases hj : j < m.length
      · rw [List.getElem?_append_left hj] at e2
        exact r.inj i j a e1 e2
      · obtain ⟨z, _⟩ := hl (by omega) e2
        subst z
        exact absurd (List.mem_of_getElem? e1) np
    · obtain ⟨z1, y1⟩ := hl (by omega) e1
      by_cases hj : j < m.length
      · rw [List.getElem?_append_left hj] at e2
        subst z1
        exact absurd (List.mem_of_getElem? e2) np
      · obtain ⟨_, y2⟩ := hl (by omega) e2
        omega
  · by_cases hi : i < h.length
    · rw [List.getElem?_append_left hi] at e
      obtain ⟨a, e1, q⟩ := r.obj i o1 e
      refine ⟨a, c.ix i a e1, q.upd c fun z => ?_⟩
      subst z
      exact np (List.mem_of_getElem? e1)
    · rw [List.getElem?_append_right (by omega)] at e
      have hi2 : i = h.length := by
        cases q : i - h.length with
        | zero => omega
        | succ k => rw [q] at e; simp at e
      subst hi2
      have : o = o1 := by simpa using e
      subst this
      exact ⟨p, by rw [← r.len]; simp, ho c⟩
/-- an object of the store is changed -/
theorem HRel.write {p : Addr} {ob : HO} {o' : O} {i : Nat} (r : HRel g m h H) (hm : m[i]? = some p) (ho : Car g m H m (upd H p ob) → OR g m (upd H p ob) o' p) :
    Step g m H (h.set i o') m (upd H p ob) := by
  have hil : i < h.length := by rw [← r.len]; exact (List.getElem?_eq_some_iff.mp hm).1
  have mem : p ∈ m := List.mem_of_getElem? hm
  have mu := r.there mem
  have c : Car g m H m (upd H p ob) := ⟨fun _ _ e => e, fun a o e _ n => ⟨n, by rw [upd_ne (show a ≠ p from fun z => n (by rw [z]; exact mem))]; exact e⟩, fun a vs s => sqT_upd s (.inr mu), fun a vs s => roL_upd s (.inr mu)⟩
  refine ⟨⟨[], by simp, fun _ z => nomatch z⟩, fun a o e n => by rw [upd_ne (show a ≠ p from fun z => n (by rw [z]; exact mem))]; exact e, c.ext, c.rol, by simp [r.len], r.inj, fun j o1 e => ?_⟩
  by_cases z : i = j
  · subst z
    rw [List.getElem?_set_self hil] at e
    cases e
    exact ⟨p, hm, ho c⟩
  · rw [List.getElem?_set_ne z] at e
    obtain ⟨a, e1, q⟩ := r.obj j o1 e
    refine ⟨a, e1, q.upd c fun y => ?_⟩
    subst y
    exact z (r.inj i j a hm e1)

/-! ### another error in hand: nothing else changes -/
mutual
theorem RM.chg {g g' : G} (e1 : g.K = g'.K) (e2 : g.mg = g'.mg) (e3 : g.w = g'.w) : ∀ (x : M) (v : V), RM g m H x v → RM g' m H x v
  | .non, _, r => r
  | .bl _, _, r => r
  | .int _, _, r => r
  | .str _, _, r => r
  | .glo x, v, r => by simp only [RM] at r ⊢; rw [← e2]; exact r
  | .rod x, v, r => by simp only [RM] at r ⊢; rw [← e1, ← e2, ← e3]; exact r
  | .ref i, v, r => by simp only [RM] at r ⊢; exact r
  | .tup xs, v, r => by
    simp only [RM] at r ⊢
    obtain ⟨a, vs, e, s, q⟩ := r
    exact ⟨a, vs, e, by rw [← e1]; exact s, RMs.chg e1 e2 e3 xs vs q⟩
  | .rol xs, v, r => by
    simp only [RM] at r ⊢
    obtain ⟨a, vs, e, s, q⟩ := r
    exact ⟨a, vs, e, by rw [← e1]; exact s, RMs.chg e1 e2 e3 xs vs q⟩
theorem RMs.chg {g g' : G} (e1 : g.K = g'.K) (e2 : g.mg = g'.mg) (e3 : g.w = g'.w) : ∀ (xs : List M) (vs : List V), RMs g m H xs vs → RMs g' m H xs vs
  | [], _, r => r
  | x :: xs, vs, r => by
    simp only [RMs] at r ⊢
    obtain ⟨v, q, e, r1, r2⟩ := r
    exact ⟨v, q, e, RM.chg e1 e2 e3 x v r1, RMs.chg e1 e2 e3 xs q r2⟩
end
theorem RFs.chg {g g' : G} (e1 : g.K = g'.K) (e2 : g.mg = g'.mg) (e3 : g.w = g'.w) : ∀ (xs : List (Str × M)) (vs : List (Str × V)), RFs g m H xs vs → RFs g' m H xs vs
  | [], _, r => r
  | (y, x) :: xs, vs, r => by
    simp only [RFs] at r ⊢
    obtain ⟨v, q, e, r1, r2⟩ := r
    exact ⟨v, q, e, RM.chg e1 e2 e3 x v r1, RFs.chg e1 e2 e3 xs q r2⟩
theorem RKs.chg {g g' : G} (e1 : g.K = g'.K) (e2 : g.mg = g'.mg) (e3 : g.w = g'.w) : ∀ (xs : List (L2.Key × M)) (vs : List (L2.Key × V)), RKs g m H xs vs → RKs g' m H xs vs
  | [], _, r => r
  | (y, x) :: xs, vs, r => by
    simp only [RKs] at r ⊢
    obtain ⟨v, q, e, r1, r2⟩ := r
    exact ⟨v, q, e, RM.chg e1 e2 e3 x v r1, RKs.chg e1 e2 e3 xs q r2⟩
theorem RX.chg {g g' : G} (e1 : g.K = g'.K) (e2 : g.mg = g'.mg) (e3 : g.w = g'.w) {n : Str} {fs : List (Str × M)} {cls : Value} {d : Option Addr} (r : RX g m H n fs cls d) : RX g' m H n fs cls d := by
  obtain ⟨C, f3, e4, q⟩ := r
  refine ⟨C, by rw [← e2]; exact f3, e4, ?_⟩
  rcases q with q | ⟨dd, ws, e5, nm, e6, q⟩
  · exact .inl q
  · exact .inr ⟨dd, ws, e5, nm, e6, RFs.chg e1 e2 e3 fs ws q⟩
theorem HRel.chg {g g' : G} (e1 : g.K = g'.K) (e2 : g.mg = g'.mg) (e3 : g.w = g'.w) (r : HRel g m h H) : HRel g' m h H := ⟨r.len, r.inj, fun i o e => by
  obtain ⟨a, h1, q⟩ := r.obj i o e
  refine ⟨a, h1, ?_⟩
  cases o with
  | lst xs => obtain ⟨vs, q1, q2⟩ := q; exact ⟨vs, q1, q2.chg e1 e2 e3⟩
  | dic xs => obtain ⟨vs, q1, q2⟩ := q; exact ⟨vs, q1, q2.chg e1 e2 e3⟩
  | ins k xs => obtain ⟨C, dx, vs, q0, q1, q2, q3, q4⟩ := q; exact ⟨C, dx, vs, by rw [← e2]; exact q0, q1, q2, q3, q4.chg e1 e2 e3⟩⟩
theorem Step.chg {g g' : G} (e1 : g.K = g'.K) (e2 : g.mg = g'.mg) (e3 : g.w = g'.w) (s : Step g m H h' m' H') : Step g' m H h' m' H' := ⟨s.pre, s.frm, by rw [← e1]; exact s.ext, by rw [← e1]; exact s.rol, s.rel.chg e1 e2 e3⟩
end
end MP
namespace MP
open PySem L2
/-- an error of an expression, as the frame's names are -/
abbrev WE' (W : WX) (σ : St) : Value → Option Addr → Hp → Prop := fun cls d H => W cls d σ H
def RE (g : G) (W : WX) (P : Tx) (C : Cal) (e : E) : TE := fun σ H Q => ∃ m env h, Sim g m H h env σ ∧ Want g (WE' W σ) m H (RM g) (evE P C e env h) Q
def RT (g : G) (W : WX) (P : Tx) (C : Cal) (e : E) : TT := fun σ H Q => ∃ m env h, Sim g m H h env σ ∧ Want g (WE' W σ) m H (fun _ _ a b => a = b) (evT P C e env h) Q
def RA (g : G) (W : WX) (P : Tx) (C : Cal) (es : List E) : TA := fun σ H Q => ∃ m env h, Sim g m H h env σ ∧ Want g (WE' W σ) m H (RMs g) (evEs P C es env h) Q
def RO (g : G) (W : WX) (P : Tx) (C : Cal) (e : Option E) : TO := fun σ H Q => ∃ m env h, Sim g m H h env σ ∧ Want g (WE' W σ) m H (fun _ _ a b => a = b) (evO P C e env h) Q
/-- a list just made, of which the store does not tell -/
def LR (g : G) (H0 : Hp) (m : List Addr) (H : Hp) (xs : List M) (v : V) : Prop := ∃ a vs, v = .ref a ∧ H0 a = none ∧ a ∉ m ∧ H a = some (.lst vs) ∧ RMs g m H xs vs
def RL (g : G) (W : WX) (P : Tx) (C : Cal) (l : LE) : TE := fun σ H Q => ∃ m env h, Sim g m H h env σ ∧ Want g (WE' W σ) m H (LR g H) (evL P C l env h) Q

theorem peI {X : Cx} {e : Expr} {t t' : TE} (h : PE X e t) (f : ∀ σ H Q, t' σ H Q → t σ H Q) : PE X e t' := ⟨fun pins s σ H Q I q => h.run pins s σ H Q I (f σ H Q q)⟩
theorem ptI {X : Cx} {e : Expr} {t t' : TT} (h : PT X e t) (f : ∀ σ H Q, t' σ H Q → t σ H Q) : PT X e t' := ⟨fun pins s σ H Q I q => h.run pins s σ H Q I (f σ H Q q)⟩
theorem paI {X : Cx} {e : List Expr} {t t' : TA} (h : PA X e t) (f : ∀ σ H Q, t' σ H Q → t σ H Q) : PA X e t' := ⟨fun pos pins s σ H Q I q => h.run pos pins s σ H Q I (f σ H Q q)⟩
theorem poI {X : Cx} {e : Option Expr} {t t' : TO} (h : PO X e t) (f : ∀ σ H Q, t' σ H Q → t σ H Q) : PO X e t' := ⟨fun pins s σ H Q I q => h.run pins s σ H Q I (f σ H Q q)⟩

/-- every def that may be called keeps what the small machine says of it, to a depth of n -/
def RunOk (prog : Program) (w : World) (g : G) (base : Heap) (C : Cal) (n : Nat) (a : Addr) (q : Str) (ks : List Str) : Prop :=
  ∀ (A : Around) (outer : List Env) (s : Shared) (H : Hp) (m : List Addr) (h : Hm) (xs ys : List M) (vs zs : List V) (us ws : List Value) (Q : VK) (E : XK), Room n A → A.guards = some [] → Env0 prog w g.K g.mg base A outer s H → HRel g m h H → RMs g m H xs vs → Vals vs us → RMs g m H ys zs → Vals zs ws → ys.length = ks.length →
    Want g E m H (RM g) (C q (xs ++ ys) h) Q → codeAny (model prog w) A (.call (.ref a) ⟨us, ks.zip ws⟩) (CR (CX prog w) outer prog w H s Q E) s
def FnsOk (prog : Program) (w : World) (g : G) (base : Heap) (P : Tx) (C : Cal) (n : Nat) : Prop := (∀ f, P.fns f = true → ∃ a, g.mg f = some (.ref a) ∧ PySem.W.keepIn g.K (.ref a) = true ∧
  ∀ (A : Around) (outer : List Env) (s : Shared) (H : Hp) (m : List Addr) (h : Hm) (xs : List M) (vs : List V) (us : List Value) (Q : VK) (E : XK), Room n A → A.guards = some [] → Env0 prog w g.K g.mg base A outer s H → HRel g m h H → RMs g m H xs vs → Vals vs us →
    Want g E m H (RM g) (C f xs h) Q → codeAny (model prog w) A (.call (.ref a) ⟨us, []⟩) (CR (CX prog w) outer prog w H s Q E) s) ∧
  (∀ q f ks, P.kw q = some (f, ks) → ∃ a, g.mg f = some (.ref a) ∧ PySem.W.keepIn g.K (.ref a) = true ∧
  ∀ (A : Around) (outer : List Env) (s : Shared) (H : Hp) (m : List Addr) (h : Hm) (xs ys : List M) (vs zs : List V) (us ws : List Value) (Q : VK) (E : XK), Room n A → A.guards = some [] → Env0 prog w g.K g.mg base A outer s H → HRel g m h H → RMs g m H xs vs → Vals vs us → RMs g m H ys zs → Vals zs ws → ys.length = ks.length →
    Want g E m H (RM g) (C q (xs ++ ys) h) Q → codeAny (model prog w) A (.call (.ref a) ⟨us, ks.zip ws⟩) (CR (CX prog w) outer prog w H s Q E) s) ∧
  (∀ c f ks q, P.mth c f ks = some q → ∃ D a, g.mg c = some (.ref D) ∧ Cls g.K D ∧ Meth g.K D f a ∧ RunOk prog w g base C n a q ks) ∧
  ∀ c q, P.mak c = some q → ∃ D a, g.mg c = some (.ref D) ∧ Mk g.K D a ∧ RunOk prog w g base C n a q []
/-- what isinstance asks of a class of the text -/
structure IscC (K : PySem.W.Frag) (mg : Str → Option Value) (d c : Str) (b : Bool) (D E : Addr) : Prop where
  nd : mg d = some (.ref D)
  nc : mg c = some (.ref E)
  cl : Cls K D
  ha : PySem.W.findIn K (.ref D) "__class__" = some (some (.builtin "object.__class__"))
  hn : PySem.W.specialIn K (.builtin "object.__class__") "__get__" = some (some (.builtin "getset_descriptor.__get__"))
  htk : PySem.W.takesIn K (.builtin "object.__class__") = some true
  hm : PySem.W.mroIn K D (.type "object") = some true
  kit : PySem.W.kitOne K (.ref D) (.ref E) = some b
  oth : ∀ n ∈ (["NoneType", "bool", "int", "str", "tuple", "list", "dict"] : List String), PySem.W.kitOne K (.type n) (.ref E) = some false
  bt : ∀ n ∈ (["NoneType", "bool", "int", "str", "tuple", "list", "dict"] : List String), PySem.W.kitOne K (.ref D) (.type n) = some false
/-- what an error's own __init__ does: it keeps what it is handed -/
def initSp (C : Addr) (fs : List Str) : Sp := fun vs H Q _ => ∃ a ys, vs = .ref a :: ys ∧ ys.length = fs.length ∧ H a = some (exo a C none) ∧
  ∀ dx, H dx = none → dx ≠ a → Q .non (upd (upd H dx (exd dx (fs.zip ys).reverse)) a (exo a C (some dx)))
/-- a class of errors of the text: its name, its fields -/
structure ErC (prog : Program) (w : World) (K : PySem.W.Frag) (mg : Str → Option Value) (base : Heap) (c : Str) (fs : List Str) (C : Addr) : Prop where
  nm : mg c = some (.ref C)
  kp : PySem.W.keepIn K (.ref C) = true
  xf : XfC K C
  ty : PySem.W.typeIn K (.ref C) = some (.type "type")
  no : ∀ f ∈ fs, PySem.W.findIn K (.ref C) f = some none
  made : (fs = [] ∧ ∃ (B newId initId : String) (bmB : List Value), ExcBaseFacts B newId initId bmB ∧ PySem.W.excIn K C bmB newId = true) ∨
    (fs ≠ [] ∧ fs.length ≤ 1000 ∧ OexC K C ∧ ∃ fI fd ps, PySem.W.findIn K (.ref C) "__init__" = some (some (.ref fI)) ∧ PySem.W.typeIn K (.ref fI) = some (.type "function") ∧ Binds K fd ps [] ∧ FnOk prog w K mg base (CX prog w) 1 fI fd ps (initSp C fs))
/-- the class that a name of a clause says -/
def ClsN (mg : Str → Option Value) (x : Str) (v : Value) : Prop := (x == ("__debug__" : Str)) = false ∧ (mg x = some v ∨ (mg x = none ∧ bootBuiltins x = some v ∧ x ≠ "__name__"))
structure SubC (K : PySem.W.Frag) (mg : Str → Option Value) (c x : Str) (b : Bool) (C : Addr) (v : Value) : Prop where
  nm : mg c = some (.ref C)
  cls : ClsN mg x v
  rel : ∃ y, RelV y v ∧ ∀ u, RelV y u → u = v
  exm : PySem.W.exmOne K (.ref C) v = some b
  kit : PySem.W.kitOne K (.ref C) v = some b
  ex : ExcC K C
/-- what the body's place gives: X the model's place, g what is written, W what is wanted of an error; k: outside of an except suite -/
structure Okx (X : Cx) (g : G) (W : WX) (P : Tx) (C : Cal) (N : List Str) (sc : Scope) (k : Bool) : Prop where
  K : g.K = X.K
  mg : g.mg = X.mg
  w : g.w = X.w
  N : X.N = N
  nd : X.N.Nodup
  sc : X.env.scope = sc
  calm : k = true → X.calm = true
  units : X.A.units + 250 < cLine
  guards : X.A.guards = some []
  con : ∀ x v, P.con x = some v → ∃ u w, X.mg x = some u ∧ RelV w u ∧ ∀ m H, RM g m H v w
  free : ∀ x ∈ (["abs", "int", "repr", "str", "min", "max", "len", "isinstance", "list", "all", "range", "bool", "tuple", "dict", "zip", "enumerate", "sorted", "set", "sum", "any"] : List Str), X.mg x = none
  sys : ∃ o, X.base.get? sysModules = some o
  tk : Takes X W
  tkf : k = true → TakesF X W
  xi : k = true → g.xi = none ∧ P.exv = none
  fns : k = true → ∃ n, FnsOk X.prog X.w g X.base P C n ∧ Room (n + 1) X.A
  room : k = true → Room 2 X.A
  err : ∀ c fs, P.err c = some fs → ∃ D, ErC X.prog X.w X.K X.mg X.base c fs D
  sub : ∀ c x b, P.sub c x = some b → ∃ D v, SubC X.K X.mg c x b D v
  fld : ∀ c f, P.fld c f = true → ∃ D, X.mg c = some (.ref D) ∧ Cls X.K D ∧ NoAttr X.K D f
  isc : ∀ d c b, P.isc d c = some b → ∃ D E, IscC X.K X.mg d c b D E
  ex : ∀ i c fs, P.exv = some (i, c, fs) → ∃ (a : Addr) (oe : Obj) (cls : Value) (d : Option Addr), (a, oe) ∈ X.pn ∧ Zc cls d oe ∧ (∃ vs, oe.data = .fields vs) ∧ g.xi = some (i, c, fs, a, cls, d)
theorem Okx.call {X : Cx} {g : G} {W : WX} {P : Tx} {C : Cal} {N : List Str} {sc : Scope} {k : Bool} (o : Okx X g W P C N sc k) (hk : k = true) (f : Str) (hf : P.fns f = true) : ∃ a, X.mg f = some (.ref a) ∧ PySem.W.keepIn X.K (.ref a) = true ∧
    ∀ (pins : List (Addr × Obj)) (s : Shared) (σ : St) (H : Hp) (m : List Addr) (h : Hm) (xs : List M) (vs : List V) (us : List Value) (Q : VK), L2.Inv X pins σ H s → HRel g m h H → RMs g m H xs vs → Vals vs us → Want g (WE' W σ) m H (RM g) (C f xs h) Q → wpAny (model X.prog X.w) X.A (PySem.call (.ref a) us) (EP X pins σ Q) X.xe s := by
  obtain ⟨n, F, hr⟩ := o.fns hk
  obtain ⟨a, e1, e2, F⟩ := F.1 f hf
  refine ⟨a, by rw [← o.mg]; exact e1, by rw [← o.K]; exact e2, fun pins s σ H m h xs vs us Q I rel r rv w => ?_⟩
  have e0 : Env0 X.prog X.w g.K g.mg X.base X.A X.stack s H := by rw [o.K, o.mg]; exact I.env0
  refine wpAny_call (codeAny_mono (F X.A X.stack s H m h xs vs us Q (WE' W σ) (hr.mono (by omega)) o.guards e0 rel r rv w) fun r s' hq => ?_)
  cases r with
  | error e => exact o.tk e s' (XE.of_call I (fun _ _ _ h => h) hq)
  | ok fl =>
    cases fl with
    | ret u => exact I.after hq
    | next => exact False.elim hq
    | brk => exact False.elim hq
    | cont => exact False.elim hq

theorem Okx.callk {X : Cx} {g : G} {W : WX} {P : Tx} {C : Cal} {N : List Str} {sc : Scope} {k : Bool} (o : Okx X g W P C N sc k) (hk : k = true) (q f : Str) (ks : List Str) (hf : P.kw q = some (f, ks)) : ∃ a, X.mg f = some (.ref a) ∧ PySem.W.keepIn X.K (.ref a) = true ∧
    ∀ (pins : List (Addr × Obj)) (s : Shared) (σ : St) (H : Hp) (m : List Addr) (h : Hm) (xs ys : List M) (vs zs : List V) (us ws : List Value) (Q : VK), L2.Inv X pins σ H s → HRel g m h H → RMs g m H xs vs → Vals vs us → RMs g m H ys zs → Vals zs ws → ys.length = ks.length → Want g (WE' W σ) m H (RM g) (C q (xs ++ ys) h) Q → wpAny (model X.prog X.w) X.A (PySem.call (.ref a) us (ks.zip ws)) (EP X pins σ Q) X.xe s := by
  obtain ⟨n, F, hr⟩ := o.fns hk
  obtain ⟨a, e1, e2, F⟩ := F.2.1 q f ks hf
  refine ⟨a, by rw [← o.mg]; exact e1, by rw [← o.K]; exact e2, fun pins s σ H m h xs ys vs zs us ws Q I rel r rv r2 rv2 hl w => ?_⟩
  have e0 : Env0 X.prog X.w g.K g.mg X.base X.A X.stack s H := by rw [o.K, o.mg]; exact I.env0
  refine wpAny_call (codeAny_mono (F X.A X.stack s H m h xs ys vs zs us ws Q (WE' W σ) (hr.mono (by omega)) o.guards e0 rel r rv r2 rv2 hl w) fun r s' hq => ?_)
  cases r with
  | error e => exact o.tk e s' (XE.of_call I (fun _ _ _ h => h) hq)
  | ok fl =>
    cases fl with
    | ret u => exact I.after hq
    | next => exact False.elim hq
    | brk => exact False.elim hq
    | cont => exact False.elim hq

section
variable {X : Cx} {g : G} {W : WX} {P : Tx} {C : Cal} {N : List Str} {sc : Scope} {k : Bool} {pos p : Pos}
theorem slotOf_get {x : Str} {i : Nat} (h : slotOf N x = some i) : N[i]? = some x := by
  unfold slotOf at h
  obtain ⟨hi, he, _⟩ := List.findIdx?_eq_some_iff_getElem.mp h
  rw [List.getElem?_eq_getElem hi]
  exact congrArg some (of_decide_eq_true he)
theorem isVis_ok {o : Option NameKind} (h : isVis o = true) : o = some .local ∨ o = some .cell ∨ o = some .free := by
  cases o with
  | none => cases h
  | some k => cases k <;> first | exact .inl rfl | exact .inr (.inl rfl) | exact .inr (.inr rfl) | cases h
theorem isLoc_ok {o : Option NameKind} (h : isLoc o = true) : o = some .local ∨ o = some .cell := by
  cases o with
  | none => cases h
  | some k => cases k <;> first | exact .inl rfl | exact .inr rfl | cases h
theorem isGlb_ok {o : Option NameKind} (h : isGlb o = true) : o = some .globalImplicit := by
  cases o with
  | none => cases h
  | some k => cases k <;> first | rfl | cases h
theorem trVar_ok {x : Str} {i : Nat} (h : trVar N sc x = some i) : N[i]? = some x ∧ Vis sc x ∧ (x == ("__debug__" : Str)) = false ∧ (x == ("__classdict__" : Str)) = false := by
  unfold trVar at h
  split at h
  · rename_i c
    exact ⟨slotOf_get h, isVis_ok c.1, c.2.1, c.2.2⟩
  · cases h
theorem trGlo_ok {x : Str} (o : Okx X g W P C N sc k) (h : trGlo sc x = true) : Gl X x ∧ (x == ("__debug__" : Str)) = false := by
  unfold trGlo at h
  obtain ⟨h1, h2⟩ := Bool.and_eq_true_iff.mp h
  refine ⟨?_, by simpa using h2⟩
  show X.env.scope.names.lookup x = _
  rw [o.sc]
  exact isGlb_ok h1

/-! ### constants and names -/
theorem s_con {e : Expr} {v : M} {x : V} (h : PE X e (tC x)) (r : ∀ m H, RM g m H v x) : PE X e (RE g W P C (.con v)) :=
  peI h fun σ H Q ⟨m, env, h, s, w⟩ => Want.here s.rel (show Want g (WE' W σ) m H (RM g) (some (.ok v h)) Q from w) (r m H)
theorem s_var {x : Str} {i : Nat} (o : Okx X g W P C N sc k) (h : trVar N sc x = some i) : PE X (.Name x p) (RE g W P C (.var i)) := by
  obtain ⟨h1, h2, h3, h4⟩ := trVar_ok h
  refine peI (pe_var (by rw [o.N]; exact h1) (by rw [o.sc]; exact h2) h3 h4) fun σ H Q ⟨m, env, h, s, w⟩ => ?_
  simp only [evE] at w
  cases e : env[i]? with
  | none => rw [e] at w; obtain ⟨_, z, _⟩ := w; cases z
  | some q =>
    cases q with
    | none => rw [e] at w; obtain ⟨_, z, _⟩ := w; cases z
    | some v =>
      rw [e] at w
      obtain ⟨x, e1, r⟩ := s.er.val i v e
      exact ⟨x, e1, Want.here s.rel w r⟩
theorem s_glo {x : Str} (o : Okx X g W P C N sc k) (h : trGlo sc x = true) : PE X (.Name x p) (RE g W P C (.glo x)) := by
  obtain ⟨h1, h2⟩ := trGlo_ok o h
  refine ⟨fun pins s σ H Q I ⟨m, env, h, sm, w⟩ => ?_⟩
  simp only [evE] at w
  obtain ⟨v, e, w⟩ := w.okv
  obtain ⟨u, x', e1, r, rm⟩ := o.con x v e
  exact (pe_glob h1 e1 r h2).run pins s σ H Q I (Want.here sm.rel w (rm m H))
/-! ### rows of expressions -/
theorem s_nil : PA X [] (RA g W P C []) := paI pa_nil fun σ H Q ⟨m, env, h, s, w⟩ => Want.here s.rel (show Want g (WE' W σ) m H (RMs g) (some (.ok [] h)) Q from w) (by simp [RMs])
theorem s_cons {e : Expr} {es : List Expr} {e' : E} {es' : List E} (hs : notStar e = true) (h : PE X e (RE g W P C e')) (r : PA X es (RA g W P C es')) : PA X (e :: es) (RA g W P C (e' :: es')) := by
  refine paI (pa_cons h r (by cases e <;> first | rfl | cases hs)) fun σ H Q ⟨m, env, h, s, w⟩ => ?_
  simp only [evEs] at w
  refine ⟨m, env, h, s, (Want.bind w).mono ?_⟩
  rintro x H1 ⟨m1, v1, h1, st1, r1, -, w1⟩
  refine ⟨m1, env, h1, s.step st1, (Want.bind w1).mono ?_⟩
  rintro xs H2 ⟨m2, v2, h2, st2, r2, -, w2⟩
  exact Want.here st2.rel w2 (by simp only [RMs]; exact ⟨x, xs, rfl, r1.step st2, r2⟩)
theorem s_tup {es : List Expr} {es' : List E} {n : Nat} (r : PA X es (RA g W P C es')) (hK : g.K = X.K) : PE X (.Tuple es n pos) (RE g W P C (.tup es')) := by
  refine peI (pe_tup r) fun σ H Q ⟨m, env, h, s, w⟩ => ?_
  simp only [evE] at w
  refine ⟨m, env, h, s, (Want.bind w).mono ?_⟩
  rintro xs H1 ⟨m1, v1, h1, st1, r1, -, w1⟩
  by_cases hz : v1.length ≤ sizeLine
  · rw [if_pos hz] at w1
    refine ⟨by rw [← r1.length]; exact hz, fun q hq => ?_⟩
    have st := st1.rel.laid (ob := .tup xs) hq
    obtain ⟨_, e, w1⟩ := w1
    cases e
    exact w1 m1 _ _ st (by simp only [RM]; exact ⟨q, xs, rfl, SqT.of upd_same, r1.car st.car⟩)
  · rw [if_neg hz] at w1
    obtain ⟨_, e, _⟩ := w1
    cases e

/-! ### the way back to the first place -/
theorem Step.fresh {m m1 : List Addr} {H H1 : Hp} {h1 : Hm} (s : Step g m H h1 m1 H1) {q : Addr} (e : H1 q = none) : H q = none := by
  cases z : H q with
  | none => rfl
  | some o =>
    by_cases hm : q ∈ m
    · obtain ⟨l, rfl, _⟩ := s.pre
      obtain ⟨u, e', _⟩ := s.rel.there (List.mem_append_left _ hm)
      rw [e] at e'; cases e'
    · rw [s.frm q o z hm] at e; cases e
/-- a list just made comes into the store -/
theorem Step.adoptO {m m1 : List Addr} {H H1 : Hp} {h1 : Hm} {a : Addr} {ob : O} {u : HO} (s : Step g m H h1 m1 H1) (h0 : H a = none) (na : a ∉ m1) (hl : H1 a = some u) (hu : stl u = false) (r : Car g m1 H1 (m1 ++ [a]) H1 → OR g (m1 ++ [a]) H1 ob a) :
    Step g m H (h1 ++ [ob]) (m1 ++ [a]) H1 := by
  have c : Car g m1 H1 (m1 ++ [a]) H1 := ⟨fun i b e => by rw [List.getElem?_append_left (List.getElem?_eq_some_iff.mp e).1]; exact e, fun b o e no n => ⟨fun z => by
    rcases List.mem_append.mp z with z | z
    · exact n z
    · have z : b = a := by simpa using z
      subst z
      rw [hl] at e
      cases e
      rw [hu] at no
      exact (nomatch no), e⟩, fun _ _ e => e, fun _ _ e => e⟩
  refine ⟨?_, fun b o e n => s.frm b o e n, s.ext, s.rol, by simp [s.rel.len], fun i j b e1 e2 => ?_, fun i o e => ?_⟩
  · obtain ⟨l, e1, f⟩ := s.pre
    refine ⟨l ++ [a], by rw [e1, List.append_assoc], fun b hb => ?_⟩
    rcases List.mem_append.mp hb with z | z
    · exact f b z
    · exact .inr (by rw [show b = a by simpa using z]; exact h0)
  · have hl' : ∀ {i : Nat}, m1.length ≤ i → (m1 ++ [a])[i]? = some b → b = a ∧ i = m1.length := fun {i} hi e => by
      rw [List.getElem?_append_right hi] at e
      cases q : i - m1.length with
      | zero => rw [q] at e; exact ⟨by simpa using e.symm, by omega⟩
      | succ k => rw [q] at e; simp at e
    by_cases hi : i < m1.length
    · rw [List.getElem?_append_left hi] at e1
      by_cases hj : j < m1.length
      · rw [List.getElem?_append_left hj] at e2
        exact s.rel.inj i j b e1 e2
      · obtain ⟨z, _⟩ := hl' (by omega) e2
        subst z
        exact absurd (List.mem_of_getElem? e1) na
    · obtain ⟨z1, y1⟩ := hl' (by omega) e1
      by_cases hj : j < m1.length
      · rw [List.getElem?_append_left hj] at e2
        subst z1
        exact absurd (List.mem_of_getElem? e2) na
      · obtain ⟨_, y2⟩ := hl' (by omega) e2
        omega
  · by_cases hi : i < h1.length
    · rw [List.getElem?_append_left hi] at e
      obtain ⟨b, e1, q⟩ := s.rel.obj i o e
      refine ⟨b, c.ix i b e1, ?_⟩
      cases o with
      | lst ys => obtain ⟨ws, q1, q2⟩ := q; exact ⟨ws, q1, q2.car c⟩
      | dic ys => obtain ⟨ws, q1, q2⟩ := q; exact ⟨ws, q1, q2.car c⟩
      | ins k ys =>
        obtain ⟨K, dx, ws, q0, q1, n1, q3, q2⟩ := q
        obtain ⟨z1, z2⟩ := c.out dx _ q3 rfl n1
        exact ⟨K, dx, ws, q0, q1, z1, z2, q2.car c⟩
    · rw [List.getElem?_append_right (by omega)] at e
      have hi2 : i = h1.length := by
        cases q : i - h1.length with
        | zero => omega
        | succ k => rw [q] at e; simp at e
      subst hi2
      have e : ob = o := by simpa using e
      subst e
      exact ⟨a, by rw [← s.rel.len]; simp, r c⟩
theorem Step.adopt {m m1 : List Addr} {H H1 : Hp} {h1 : Hm} {a : Addr} {xs : List M} {vs : List V} (s : Step g m H h1 m1 H1) (h0 : H a = none) (na : a ∉ m1) (hl : H1 a = some (.lst vs)) (r : RMs g m1 H1 xs vs) :
    Step g m H (h1 ++ [.lst xs]) (m1 ++ [a]) H1 := s.adoptO h0 na hl rfl fun c => ⟨vs, hl, r.car c⟩
theorem Step.adoptD {m m1 : List Addr} {H H1 : Hp} {h1 : Hm} {a : Addr} {xs : List (L2.Key × M)} {vs : List (L2.Key × V)} (s : Step g m H h1 m1 H1) (h0 : H a = none) (na : a ∉ m1) (hl : H1 a = some (.dK vs)) (r : RKs g m1 H1 xs vs) :
    Step g m H (h1 ++ [.dic xs]) (m1 ++ [a]) H1 := s.adoptO h0 na hl rfl fun c => ⟨vs, hl, RKs.car c _ _ r⟩
theorem Want.bindB {α β γ δ : Type} {Wn : Value → Option Addr → Hp → Prop} {R : List Addr → Hp → α → β → Prop} {R2 : List Addr → Hp → γ → δ → Prop} {Q : δ → Hp → Prop} {m : List Addr} {H : Hp} {x : Option (Out α)} {f : α → Hm → Option (Out γ)} (w : Want g Wn m H R2 (bindO x f) Q) :
    Want g Wn m H R x fun b H1 => ∃ m1 a h1, Step g m H h1 m1 H1 ∧ R m1 H1 a b ∧ x = some (.ok a h1) ∧ Want g Wn m H R2 (f a h1) Q := by
  obtain ⟨r, e, w⟩ := w
  cases x with
  | none => cases e
  | some o =>
    cases o with
    | exc c fs h1 =>
      refine ⟨_, rfl, ?_⟩
      cases e
      exact w
    | ok a h1 => exact ⟨_, rfl, fun m1 H1 b s q => ⟨m1, a, h1, s, q, rfl, r, e, w⟩⟩
/-- a list display as a list just made -/
theorem s_lst {es : List Expr} {es' : List E} (r : PA X es (RA g W P C es')) : PE X (.List es pos) (RL g W P C (.lst es')) := by
  refine peI (pe_lst r) fun σ H Q ⟨m, env, h, s, w⟩ => ?_
  simp only [evL] at w
  refine ⟨m, env, h, s, (Want.bindB w).mono ?_⟩
  rintro xs H1 ⟨m1, v1, h1, st1, r1, -, w1⟩
  by_cases hz : v1.length ≤ sizeLine
  · rw [if_pos hz] at w1
    refine ⟨by rw [← r1.length]; exact hz, fun q hq => ?_⟩
    have st := st1.rel.laid (ob := .lst xs) hq
    obtain ⟨_, e, w1⟩ := w1
    cases e
    exact w1 m1 _ _ (st1.trans st) ⟨q, xs, rfl, st1.fresh hq, st1.rel.notIn hq, upd_same, r1.car st.car⟩
  · rw [if_neg hz] at w1
    obtain ⟨_, e, _⟩ := w1
    cases e
/-- a list just made, as a value -/
theorem s_new {e : Expr} {l : LE} (hp : PE X e (RL g W P C l)) : PE X e (RE g W P C (.new l)) := by
  refine peI hp fun σ H Q ⟨m, env, h, s, w⟩ => ?_
  simp only [evE] at w
  refine ⟨m, env, h, s, (Want.bindB w).mono ?_⟩
  rintro x H1 ⟨m1, xs, h1, st1, ⟨a, vs, rfl, h0, na, hl, r⟩, -, w1⟩
  obtain ⟨_, e, w1⟩ := w1
  cases e
  exact w1 _ _ _ (st1.adopt h0 na hl r) (by simp only [RM]; exact ⟨a, by rw [← st1.rel.len]; simp, rfl⟩)
theorem s_dic0 : PE X (.Dict [] [] pos) (RE g W P C .dic0) := by
  refine peI pe_dnewK fun σ H Q ⟨m, env, h, s, w⟩ => ?_
  simp only [evE] at w
  intro q hq
  obtain ⟨_, e, w⟩ := w
  cases e
  exact w _ _ _ (s.rel.new (ob := .dK []) hq fun c => ⟨[], upd_same, by simp [RKs]⟩) (by simp only [RM]; exact ⟨q, by rw [← s.rel.len]; simp, rfl⟩)
/-! ### items -/
theorem roL_sq {K : PySem.W.Frag} {H : Hp} {a : Addr} {vs : List V} (r : RoL K H a vs) : SqL K H a vs := by
  rcases r with ⟨o, e⟩ | e
  · exact .inl (.inr ⟨o, e⟩)
  · exact .inr e
theorem lst_at {m : List Addr} {H : Hp} {h : Hm} {i : Nat} {xs : List M} {v : V} (r : HRel g m h H) (e : h[i]? = some (.lst xs)) (q : RM g m H (.ref i) v) : ∃ a vs, v = .ref a ∧ m[i]? = some a ∧ H a = some (.lst vs) ∧ RMs g m H xs vs := by
  simp only [RM] at q
  obtain ⟨a, e1, rfl⟩ := q
  obtain ⟨a', e2, vs, e3, r3⟩ := r.obj i _ e
  rw [e1] at e2
  cases e2
  exact ⟨a, vs, rfl, e1, e3, r3⟩
theorem items_ok {m : List Addr} {H : Hp} {h : Hm} {x : M} {v : V} {xs : List M} (r : HRel g m h H) (e : itemsM h x = some xs) (q : RM g m H x v) : ∃ a vs, v = .ref a ∧ (SqL g.K H a vs ∨ SqT g.K H a vs) ∧ RMs g m H xs vs := by
  cases x with
  | tup ys => cases e; simp only [RM] at q; obtain ⟨a, vs, rfl, h1, h2⟩ := q; exact ⟨a, vs, rfl, .inr h1, h2⟩
  | rol ys => cases e; simp only [RM] at q; obtain ⟨a, vs, rfl, h1, h2⟩ := q; exact ⟨a, vs, rfl, .inl (roL_sq h1), h2⟩
  | ref i =>
    simp only [itemsM] at e
    split at e
    · rename_i ys hy
      cases e
      obtain ⟨a, vs, rfl, _, h1, h2⟩ := lst_at r hy q
      exact ⟨a, vs, rfl, .inl (SqL.of h1), h2⟩
    · cases e
  | _ => cases e
theorem atI_rel {m : List Addr} {H : Hp} {xs : List M} {vs : List V} {j : Int} {x : M} (r : RMs g m H xs vs) (e : atI xs j = some x) : ∃ v, atI vs j = some v ∧ RM g m H x v := by
  unfold atI at e ⊢
  rw [← r.length]
  cases q : ixN xs.length j with
  | none => rw [q] at e; cases e
  | some i =>
    rw [q] at e
    exact r.get (show xs[i]? = some x from e)
end
end MP
namespace MP
open PySem L2 PySem.Spec PyProof.Rows
open AutoSeq1 (wpAny_loadPart')
/-! a tuple once, no time -/
theorem tuple_mul1 (l : Addr) (items : Array Value) (n : Nat) (dd : Option Addr) (sl : Array (Option Value)) (u : Tok) :
    Meets (Builtin.«tuple.__mul__» ⟨[.ref l, .int 1 u], []⟩) (fun _ R s => s.heap.get? l = some { cls := .type "tuple", dict := dd, data := .seq items n, slots := sl } ∧ R (.ok (.ret (Value.ref l))) s) :=
  .of_wp fun prog w A R s h => by
    obtain ⟨hp, g, d, tk, os⟩ := s
    obtain ⟨hl, h⟩ := h
    have f1 := AutoSeq1.idx_int
    have c1 : (items.isEmpty || (1 : Int) == 1) = true := by simp
    wp_walk using wpAny_loadPart' hl
    repeat (first
      | (refine wpAny_ite_true (decide_eq_true c1) ?_; wp_walk using wpAny_loadPart' hl))
    exact ⟨_, rfl, h⟩
theorem tuple_mul0 (l : Addr) (items : Array Value) (n : Nat) (dd : Option Addr) (sl : Array (Option Value)) (u : Tok) (c1 : (items.isEmpty || (0 : Int) == 1) = false) :
    Meets (Builtin.«tuple.__mul__» ⟨[.ref l, .int 0 u], []⟩) (fun _ R s => s.heap.get? l = some { cls := .type "tuple", dict := dd, data := .seq items n, slots := sl } ∧
      R (.ok (.ret (Value.ref s.heap.objs.size))) { s with heap := s.heap.push { cls := Value.type "tuple", data := Data.seq #[] }, toks := s.toks }) :=
  .of_wp fun prog w A R s h => by
    obtain ⟨hp, g, d, tk, os⟩ := s
    obtain ⟨hl, h⟩ := h
    have f1 := AutoSeq1.idx_int
    have c2 : (decide ((0 : Int) ≤ 0) || items.isEmpty) = true := by simp
    wp_walk using wpAny_loadPart' hl
    repeat (first
      | (refine wpAny_ite_false (decide_eq_false (by rw [c1]; exact Bool.false_ne_true)) ?_; wp_walk using wpAny_loadPart' hl)
      | (refine wpAny_ite_true (decide_eq_true c2) ?_; wp_walk using wpAny_loadPart' hl))
    exact ⟨_, rfl, h⟩
section
variable {X : Cx}
def rRepM (K : PySem.W.Frag) : R2 := fun x y H Q => ∃ l k xs, x = .ref l ∧ y = .int k ∧ SqT K H l xs ∧ xs ≠ [] ∧ 0 ≤ k ∧ k ≤ 1000 ∧ xs.length ≤ 1000 ∧ (k = 1 → Q (.ref l) H) ∧ (k ≠ 1 → ∀ p, H p = none → Q (.ref p) (upd H p (.tup (List.replicate k.toNat xs).flatten)))
theorem op_repM : OpR X (binaryOp .Mult) (rRepM X.K) := by
  intro pins s σ H x y v u Q I rx ry h
  obtain ⟨l, k, xs, rfl, rfl, hT, hne, h1, h2, hz, q1, q2⟩ := h
  by_cases k2 : 2 ≤ k
  · exact op_repT pins s σ H _ _ v u Q I rx ry ⟨l, k, xs, rfl, rfl, hT, hne, k2, h2, hz, q2 (by omega)⟩
  cases rx
  obtain ⟨t, rfl⟩ := ry
  obtain ⟨its, r, ⟨⟨cls, dd, data, sl⟩, ho, hc, n, hd⟩, hs⟩ := I.tuple hT
  simp only at hc hd
  subst hc hd
  by_cases k1 : k = 1
  · subst k1
    refine wpAny_binaryOp_repeat_ref (T := "tuple") (U := "int") (by decide) ⟨_, ho, rfl⟩ (fun s' => typeIs_int s' 1 t) noFill_tuple_mul F.fills_int_mul F.slot_int_rmul repeat_tuple F.slot_int_index.lookup
      (call_meets F.slot_int_rmul (typeIs_int s 1 t) F.entry_int_rmul (F.args_int_rmul_2 _ _) (int_rmul_tuple 1 t l its.toArray n dd sl)
        ⟨ho, rfl, ⟨_, ho, rfl⟩, call_meets F.slot_tuple_mul ⟨_, ho, rfl⟩ F.entry_tuple_mul (F.args_tuple_mul_2 _ _) (tuple_mul1 l its.toArray n dd sl t) ⟨ho, ?_⟩⟩)
    exact ⟨.ref l, H, I, rfl, q1 rfl⟩
  · obtain rfl : k = 0 := by omega
    have hn : its ≠ [] := fun e => hne (by
      rw [e] at r
      exact List.eq_nil_of_length_eq_zero r.length)
    have c1 : (its.toArray.isEmpty || (0 : Int) == 1) = false := by
      cases its with
      | nil => exact absurd rfl hn
      | cons a b => rfl
    refine wpAny_binaryOp_repeat_ref (T := "tuple") (U := "int") (by decide) ⟨_, ho, rfl⟩ (fun s' => typeIs_int s' 0 t) noFill_tuple_mul F.fills_int_mul F.slot_int_rmul repeat_tuple F.slot_int_index.lookup
      (call_meets F.slot_int_rmul (typeIs_int s 0 t) F.entry_int_rmul (F.args_int_rmul_2 _ _) (int_rmul_tuple 0 t l its.toArray n dd sl)
        ⟨ho, rfl, ⟨_, ho, rfl⟩, call_meets F.slot_tuple_mul ⟨_, ho, rfl⟩ F.entry_tuple_mul (F.args_tuple_mul_2 _ _) (tuple_mul0 l its.toArray n dd sl t c1) ⟨ho, ?_⟩⟩)
    refine ⟨.ref s.heap.objs.size, _, I.laid (t' := s.toks) (o := .tup []) (fun b ob q => Heap.get?_push_of_some _ q) (Nat.le_refl _) ?_, rfl, q2 (by omega) _ (I.hok.fresh (Nat.le_refl _))⟩
    exact ⟨by rw [sizeLine_eq]; decide, _, .nil, IsTup.new _ _⟩
end
end MP
namespace MP
open PySem L2
section
variable {X : Cx} {g : G} {W : WX} {P : Tx} {C : Cal} {N : List Str} {sc : Scope} {k : Bool} {pos p : Pos} {m : List Addr} {H : Hp} {h : Hm} {Wn : Value → Option Addr → Hp → Prop} {Q : VK}
theorem no_want {α β : Type} {R : List Addr → Hp → α → β → Prop} {Q : β → Hp → Prop} {A : Prop} (w : Want g Wn m H R none Q) : A := by
  obtain ⟨_, e, _⟩ := w
  cases e
/-! ### operators by values -/
theorem RMs.rep {g : G} {m : List Addr} {H : Hp} {xs : List M} {vs : List V} (r : RMs g m H xs vs) : ∀ n : Nat, RMs g m H (List.replicate n xs).flatten (List.replicate n vs).flatten
  | 0 => by simp [RMs]
  | n + 1 => by
    rw [List.replicate_succ, List.replicate_succ, List.flatten_cons, List.flatten_cons]
    exact r.append (RMs.rep r n)
def RB (g : G) (Wn : Value → Option Addr → Hp → Prop) (op : Bop) : R2 := fun x y H Q => ∃ m h v1 v2, HRel g m h H ∧ RM g m H v1 x ∧ RM g m H v2 y ∧ Want g Wn m H (RM g) (binM op v1 v2 h) Q
theorem mulOk_ok {i j : Int} (h : mulOk i j = true) : CMul i j ∨ CMulW i j := by
  unfold mulOk at h
  simp only [Bool.or_eq_true, decide_eq_true_eq] at h
  rcases h with (h | h) | h
  · exact .inl (.inl (by omega))
  · exact .inl (.inr (by omega))
  · exact .inr h
theorem rep_str {pins : List (Addr × Obj)} {σ : St} {H : Hp} {s : Shared} {Q : VK} {x : Str} {n : Int} {t u : Tok} (c : -(2 ^ 62) ≤ n ∧ n < 2 ^ 62 ∧ x.length * n.toNat ≤ sizeLine) (q : Q (.str (repS x n)) H) (I : Inv X pins σ H s) :
    wpAny (model X.prog X.w) X.A (binaryOp .Mult (.str x t) (.int n u)) (EP X pins σ Q) X.xe s := by
  refine PySem.P.mul_str ?_ (fun h1 h2 => ?_) (fun h1 h2 => ?_) ?_
  · have a : ¬ n < -(2 ^ 63 : Int) := by omega
    have b : ¬ n ≥ 2 ^ 63 := by omega
    rw [decide_eq_false a, decide_eq_false b]; rfl
  · intro z
    have hn : 0 < n := by omega
    have : (x.length : Int) * n ≤ 2 ^ 63 - 1 := by
      have e : ((x.length * n.toNat : Nat) : Int) = (x.length : Int) * n := by rw [Int.natCast_mul, Int.toNat_of_nonneg (by omega)]
      have hz := c.2.2
      have hs : sizeLine = 16777216 := by decide
      omega
    have := Int.le_ediv_of_mul_le hn this
    omega
  · unfold Builtin.Str.tooLong
    simp
    omega
  · unfold repS at q
    by_cases h1 : n < 1
    · rw [if_pos h1] at q
      rw [if_pos h1]
      exact ⟨by decide, ⟨.str Str.empty, H, I.tok _, ⟨_, rfl⟩, q⟩⟩
    · rw [if_neg h1] at q
      rw [if_neg h1]
      by_cases h2 : (n == 1 || x.length == 0) = true
      · rw [if_pos h2] at q
        rw [if_pos h2]
        exact ⟨.str x, H, I, ⟨_, rfl⟩, q⟩
      · rw [if_neg h2] at q
        rw [if_neg h2]
        refine ⟨?_, ⟨.str _, H, I.tok _, ⟨_, rfl⟩, q⟩⟩
        have key : ∀ (k : Nat) (a : Array Nat), ((List.replicate k x.cps).foldl (· ++ ·) a).size = a.size + x.cps.size * k := by
          intro k
          induction k with
          | zero => intro a; simp
          | succ k ih => intro a; rw [List.replicate_succ, List.foldl_cons, ih]; simp [Nat.mul_succ]; omega
        show ((List.replicate n.toNat x.cps).foldl (· ++ ·) #[]).size ≤ sizeLine
        rw [key]
        have hz := c.2.2
        show 0 + x.cps.size * n.toNat ≤ sizeLine
        rw [Nat.zero_add]
        exact hz
theorem op_bin {op' : Operator} {op : Bop} (ho : trOp op' = some op) (hK : g.K = X.K) : OpR X (binaryOp op') (RB g Wn op) := by
  intro pins s σ H x y v u Q I rx ry hq
  obtain ⟨m, h, v1, v2, rel, r1, r2, w⟩ := hq
  cases v1 with
  | int i =>
    cases v2 with
    | int j =>
      simp only [RM] at r1 r2
      subst r1 r2
      simp only [binM] at w
      obtain ⟨z, e, w⟩ := w.okv
      cases op' with
      | Add => cases ho; cases e; exact op_add pins s σ H _ _ v u Q I rx ry ⟨i, j, rfl, rfl, w.here rel (by simp only [RM])⟩
      | Sub => cases ho; cases e; exact op_sub pins s σ H _ _ v u Q I rx ry ⟨i, j, rfl, rfl, w.here rel (by simp only [RM])⟩
      | Mult =>
        cases ho
        simp only [binI] at e
        split at e
        · rename_i c
          cases e
          rcases mulOk_ok c with c | c
          · exact op_mul pins s σ H _ _ v u Q I rx ry ⟨i, j, rfl, rfl, c, w.here rel (by simp only [RM])⟩
          · exact op_mulW pins s σ H _ _ v u Q I rx ry ⟨i, j, rfl, rfl, c, w.here rel (by simp only [RM])⟩
        · cases e
      | FloorDiv =>
        cases ho
        simp only [binI] at e
        split at e
        · rename_i c
          cases e
          exact op_fdivW pins s σ H _ _ v u Q I rx ry ⟨i, j, rfl, rfl, c, w.here rel (by simp only [RM])⟩
        · cases e
      | Mod =>
        cases ho
        simp only [binI] at e
        split at e
        · rename_i c
          cases e
          exact op_mod pins s σ H _ _ v u Q I rx ry ⟨i, j, rfl, rfl, c, w.here rel (by simp only [RM])⟩
        · cases e
      | Pow =>
        cases ho
        simp only [binI] at e
        split at e
        · rename_i c
          cases e
          exact op_pow pins s σ H _ _ v u Q I rx ry ⟨i, j, rfl, rfl, c, w.here rel (by simp only [RM])⟩
        · cases e
      | _ => cases ho
    | _ => exact no_want w
  | str i =>
    cases v2 with
    | str j =>
      simp only [RM] at r1 r2
      subst r1 r2
      simp only [binM] at w
      cases op' with
      | Add =>
        cases ho
        by_cases c : i.length + j.length ≤ sizeLine
        · simp only [c, if_true] at w
          exact op_add_str pins s σ H _ _ v u Q I rx ry ⟨i, j, rfl, rfl, c, w.here rel (by simp only [RM])⟩
        · simp only [c, if_false] at w
          exact no_want w
      | Sub => cases ho; exact no_want w
      | Mult => cases ho; exact no_want w
      | FloorDiv => cases ho; exact no_want w
      | Mod => cases ho; exact no_want w
      | Pow => cases ho; exact no_want w
      | _ => cases ho
    | int n =>
      simp only [RM] at r1 r2
      subst r1 r2
      simp only [binM] at w
      cases op' with
      | Mult =>
        cases ho
        by_cases c : -(2 ^ 62) ≤ n ∧ n < 2 ^ 62 ∧ i.length * n.toNat ≤ sizeLine
        · simp only [c, and_self, if_true] at w
          obtain ⟨t, rfl⟩ := rx
          obtain ⟨t', rfl⟩ := ry
          have q := w.here rel (b := V.str (repS i n)) (by simp only [RM])
          refine rep_str c q I
        · rw [if_neg c] at w
          exact no_want w
      | Add => cases ho; exact no_want w
      | Sub => cases ho; exact no_want w
      | FloorDiv => cases ho; exact no_want w
      | Mod => cases ho; exact no_want w
      | Pow => cases ho; exact no_want w
      | _ => cases ho
    | _ => exact no_want w
  | tup i =>
    cases v2 with
    | tup j =>
      have r1' := r1
      have r2' := r2
      simp only [RM] at r1 r2
      obtain ⟨a, vs, rfl, s1, q1⟩ := r1
      obtain ⟨b, ws, rfl, s2, q2⟩ := r2
      rw [hK] at s1 s2
      simp only [binM] at w
      cases op' with
      | Add =>
        cases ho
        by_cases c : i.length + j.length ≤ sizeLine
        · simp only [c, if_true] at w
          have hlen := q1.length
          have hlen2 := q2.length
          refine op_catA pins s σ H _ _ v u Q I rx ry ⟨a, b, vs, ws, rfl, rfl, s1, s2, by omega, fun e => ?_, fun _ e => ?_, fun _ _ p hp => ?_⟩
          · subst e
            have : i = [] := by cases i with | nil => rfl | cons _ _ => simp at hlen
            subst this
            exact w.here rel (by simpa using r2')
          · subst e
            have : j = [] := by cases j with | nil => rfl | cons _ _ => simp at hlen2
            subst this
            exact w.here rel (by simpa using r1')
          · have st := rel.laid (ob := .tup (vs ++ ws)) hp
            obtain ⟨_, e, w⟩ := w
            cases e
            exact w m _ _ st (by simp only [RM]; exact ⟨p, vs ++ ws, rfl, SqT.of upd_same, (q1.append q2).car st.car⟩)
        · simp only [c, if_false] at w
          exact no_want w
      | Sub => cases ho; exact no_want w
      | Mult => cases ho; exact no_want w
      | FloorDiv => cases ho; exact no_want w
      | Mod => cases ho; exact no_want w
      | Pow => cases ho; exact no_want w
      | _ => cases ho
    | int n =>
      have r1' := r1
      simp only [RM] at r1 r2
      subst r2
      obtain ⟨a, vs, rfl, s1, q1⟩ := r1
      rw [hK] at s1
      simp only [binM] at w
      cases op' with
      | Mult =>
        cases ho
        by_cases c : i ≠ [] ∧ 0 ≤ n ∧ n ≤ 1000 ∧ i.length ≤ 1000
        · simp only [c, and_self, if_true, ne_eq, not_false_eq_true] at w
          have hlen := q1.length
          refine op_repM pins s σ H _ _ v u Q I rx ry ⟨a, n, vs, rfl, rfl, s1, fun z => c.1 (by subst z; exact List.eq_nil_of_length_eq_zero hlen), c.2.1, c.2.2.1, by omega, fun e => ?_, fun _ p hp => ?_⟩
          · subst e
            exact w.here rel (by simpa using r1')
          · have st := rel.laid (ob := .tup (List.replicate n.toNat vs).flatten) hp
            obtain ⟨_, e, w⟩ := w
            cases e
            exact w m _ _ st (by simp only [RM]; exact ⟨p, _, rfl, SqT.of upd_same, (q1.rep n.toNat).car st.car⟩)
        · rw [if_neg c] at w
          exact no_want w
      | Add => cases ho; exact no_want w
      | Sub => cases ho; exact no_want w
      | FloorDiv => cases ho; exact no_want w
      | Mod => cases ho; exact no_want w
      | Pow => cases ho; exact no_want w
      | _ => cases ho
    | _ => exact no_want w
  | ref i =>
    cases v2 with
    | ref j =>
      simp only [binM] at w
      split at w
      · rename_i xs ys ex ey
        cases op' with
        | Add =>
          obtain ⟨a, vs, rfl, _, s1, q1⟩ := lst_at rel ex r1
          obtain ⟨b, ws, rfl, _, s2, q2⟩ := lst_at rel ey r2
          by_cases c : xs.length + ys.length ≤ sizeLine
          · simp only [c, if_true] at w
            refine op_cat pins s σ H _ _ v u Q I rx ry ⟨a, b, vs, ws, rfl, rfl, s1, s2, by rw [← q1.length, ← q2.length]; exact c, fun p hp => ?_⟩
            obtain ⟨_, e, w⟩ := w
            cases e
            exact w _ _ _ (rel.new (ob := .lst (vs ++ ws)) hp fun c => ⟨_, upd_same, (q1.append q2).car c⟩) (by simp only [RM]; exact ⟨p, by rw [← rel.len]; simp, rfl⟩)
          · simp only [c, if_false] at w
            exact no_want w
        | _ => cases ho
      · exact no_want w
    | int n =>
      simp only [binM] at w
      split at w
      · rename_i xs ex
        cases op' with
        | Mult =>
          obtain ⟨a, vs, rfl, _, s1, q1⟩ := lst_at rel ex r1
          simp only [RM] at r2
          subst r2
          by_cases c : -(2 ^ 62) ≤ n ∧ n < 2 ^ 62 ∧ xs.length * n.toNat ≤ sizeLine
          · rw [if_pos c] at w
            refine op_rep pins s σ H _ _ v u Q I rx ry ⟨a, n, vs, rfl, rfl, s1, by omega, by omega, by rw [← q1.length]; exact c.2.2, fun p hp => ?_⟩
            obtain ⟨_, e, w⟩ := w
            cases e
            exact w _ _ _ (rel.new (ob := .lst (List.replicate n.toNat vs).flatten) hp fun c => ⟨_, upd_same, (q1.rep n.toNat).car c⟩) (by simp only [RM]; exact ⟨p, by rw [← rel.len]; simp, rfl⟩)
          · rw [if_neg c] at w
            exact no_want w
        | _ => cases ho
      · exact no_want w
    | _ => exact no_want w
  | _ => exact no_want w
theorem s_bin {a b : Expr} {a' b' : E} {op' : Operator} {op : Bop} (ho : trOp op' = some op) (hK : g.K = X.K) (ha : PE X a (RE g W P C a')) (hb : PE X b (RE g W P C b')) : PE X (.BinOp a op' b pos) (RE g W P C (.bin op a' b')) := by
  refine ⟨fun pins s σ H Q I ⟨m, env, h, sm, w⟩ => (pe_op (op_bin (Wn := WE' W σ) ho hK) ha hb).run pins s σ H Q I ?_⟩
  simp only [evE] at w
  refine ⟨m, env, h, sm, (Want.bind w).mono ?_⟩
  rintro x H1 ⟨m1, v1, h1, st1, r1, -, w1⟩
  refine ⟨m1, env, h1, sm.step st1, (Want.bind w1).mono ?_⟩
  rintro y H2 ⟨m2, v2, h2, st2, r2, -, w2⟩
  exact ⟨m2, h2, v1, v2, st2.rel, r1.step st2, r2, w2⟩
theorem s_neg {a : Expr} {a' : E} (ha : PE X a (RE g W P C a')) : PE X (.UnaryOp .USub a pos) (RE g W P C (.neg a')) := by
  refine peI (pe_un un_neg ha) fun σ H Q ⟨m, env, h, sm, w⟩ => ?_
  simp only [evE] at w
  refine ⟨m, env, h, sm, (Want.bind w).mono ?_⟩
  rintro x H1 ⟨m1, v1, h1, st1, r1, -, w1⟩
  cases v1 with
  | int i =>
    simp only [RM] at r1
    subst r1
    exact ⟨i, rfl, w1.here st1.rel (by simp only [RM])⟩
  | _ => exact no_want w1
/-! ### data -/
mutual
theorem dat_reads {pins : List (Addr × Obj)} {s : Shared} {σ : St} (hK : g.K = X.K) (I : Inv X pins σ H s) (rel : HRel g m h H) (hs : H sysModules = none) : ∀ (n : Nat) (x : M) (v : V) (u : Value) (d : PyData), dat h n x = some d → RM g m H x v → RelV v u → ∃ as, Reads s.heap u d as ∧ sysModules ∉ as
  | 0, _, _, _, _, e, _, _ => by simp [dat] at e
  | n + 1, .non, v, u, d, e, r, q => by simp only [dat] at e; cases e; simp only [RM] at r; subst r; cases q; exact ⟨_, Reads.none, by simp⟩
  | n + 1, .bl b, v, u, d, e, r, q => by simp only [dat] at e; cases e; simp only [RM] at r; subst r; cases q; exact ⟨_, Reads.bool b, by simp⟩
  | n + 1, .int i, v, u, d, e, r, q => by simp only [dat] at e; cases e; simp only [RM] at r; subst r; obtain ⟨t, rfl⟩ := q; exact ⟨_, Reads.int i t, by simp⟩
  | n + 1, .str i, v, u, d, e, r, q => by simp only [dat] at e; cases e; simp only [RM] at r; subst r; obtain ⟨t, rfl⟩ := q; exact ⟨_, Reads.str i t, by simp⟩
  | n + 1, .tup xs, v, u, d, e, r, q => by
    simp only [dat] at e
    obtain ⟨ds, e1, rfl⟩ := Option.map_eq_some_iff.mp e
    simp only [RM] at r
    obtain ⟨a, vs, rfl, sq, r⟩ := r
    cases q
    rw [hK] at sq
    obtain ⟨its, rv, ⟨o, ho, hc, z, hd⟩, _⟩ := I.tuple sq
    obtain ⟨as, hr, hn⟩ := dats_reads hK I rel hs n xs vs its ds e1 r rv
    exact ⟨_, Reads.tuple ho hc hd hr, hn⟩
  | n + 1, .ref i, v, u, d, e, r, q => by
    simp only [dat] at e
    split at e
    · rename_i xs hx
      obtain ⟨ds, e1, rfl⟩ := Option.map_eq_some_iff.mp e
      obtain ⟨a, vs, rfl, _, sq, r⟩ := lst_at rel hx r
      cases q
      obtain ⟨its, rv, ⟨o, z, ho, hc, _, hd⟩, _⟩ := I.list (SqL.of sq)
      obtain ⟨as, hr, hn⟩ := dats_reads hK I rel hs n xs vs its ds e1 r rv
      refine ⟨_, Reads.list ho hc hd hr, fun z => ?_⟩
      rcases List.mem_cons.mp z with z | z
      · rw [← z, hs] at sq; cases sq
      · exact hn z
    · rename_i hi
      cases e
      simp only [RM] at r
      obtain ⟨a, e1, rfl⟩ := r
      obtain ⟨a', e2, ws, e3, r3⟩ := rel.obj i _ hi
      rw [e1] at e2
      cases e2
      simp only [RKs] at r3
      subst r3
      cases q
      obtain ⟨_, ns, us2, kv, ob, es, ep, eo, ed, edat, ko, pr, _⟩ := I.hok a _ e3
      have eus : us2 = [] := by cases kv; rfl
      subst eus
      have ees : es.toList = [] := by
        generalize es.toList = l at pr
        cases pr
        rfl
      have rd : Reads s.heap (.ref a) (.dict []) (a :: [] ++ []) := Reads.dict (kvs := []) eo ed.1 edat (by rw [ees]; exact ReadsAll.nil) (by rw [ees]; exact ReadsAll.nil)
      exact ⟨_, rd, fun z => by simp at z; rw [← z] at ns; simp at ns⟩
    · cases e
  | n + 1, .rol _, v, u, d, e, r, q => by simp [dat] at e
  | n + 1, .glo _, v, u, d, e, r, q => by simp [dat] at e
  | n + 1, .rod _, v, u, d, e, r, q => by simp [dat] at e
theorem dats_reads {pins : List (Addr × Obj)} {s : Shared} {σ : St} (hK : g.K = X.K) (I : Inv X pins σ H s) (rel : HRel g m h H) (hs : H sysModules = none) : ∀ (n : Nat) (xs : List M) (vs : List V) (us : List Value) (ds : List PyData), dats h n xs = some ds → RMs g m H xs vs → Vals vs us → ∃ as, ReadsAll s.heap us ds as ∧ sysModules ∉ as
  | 0, _, _, _, _, e, _, _ => by simp [dats] at e
  | n + 1, [], vs, us, ds, e, r, q => by simp only [dats] at e; cases e; simp only [RMs] at r; subst r; cases q; exact ⟨_, ReadsAll.nil, by simp⟩
  | n + 1, x :: xs, vs, us, ds, e, r, q => by
    simp only [dats] at e
    split at e
    · rename_i d ds' e1 e2
      cases e
      simp only [RMs] at r
      obtain ⟨v, vr, rfl, r1, r2⟩ := r
      cases q with
      | cons q1 q2 =>
        obtain ⟨as, z1, n1⟩ := dat_reads hK I rel hs n x v _ d e1 r1 q1
        obtain ⟨bs, z2, n2⟩ := dats_reads hK I rel hs n xs vr _ ds' e2 r2 q2
        exact ⟨_, ReadsAll.cons z1 z2, fun z => (List.mem_append.mp z).elim n1 n2⟩
    · cases e
end
mutual
theorem dat_depth : ∀ (n : Nat) (x : M) (d : PyData), dat h n x = some d → d.depth ≤ n
  | 0, _, _, e => by simp [dat] at e
  | n + 1, .non, d, e => by simp only [dat] at e; cases e; simp [PyData.depth]
  | n + 1, .bl b, d, e => by simp only [dat] at e; cases e; simp [PyData.depth]
  | n + 1, .int i, d, e => by simp only [dat] at e; cases e; simp [PyData.depth]
  | n + 1, .str i, d, e => by simp only [dat] at e; cases e; simp [PyData.depth]
  | n + 1, .tup xs, d, e => by
    simp only [dat] at e
    obtain ⟨ds, e1, rfl⟩ := Option.map_eq_some_iff.mp e
    have := dats_depth n xs ds e1
    simp only [PyData.depth]
    omega
  | n + 1, .ref i, d, e => by
    simp only [dat] at e
    split at e
    · rename_i xs hx
      obtain ⟨ds, e1, rfl⟩ := Option.map_eq_some_iff.mp e
      have := dats_depth n xs ds e1
      simp only [PyData.depth]
      omega
    · cases e
      simp [PyData.depth, PyData.depthKv]
    · cases e
  | n + 1, .rol _, d, e => by simp [dat] at e
  | n + 1, .glo _, d, e => by simp [dat] at e
theorem dats_depth : ∀ (n : Nat) (xs : List M) (ds : List PyData), dats h n xs = some ds → PyData.depthAll ds ≤ n
  | 0, _, _, e => by simp [dats] at e
  | n + 1, [], ds, e => by simp only [dats] at e; cases e; simp [PyData.depthAll]
  | n + 1, x :: xs, ds, e => by
    simp only [dats] at e
    split at e
    · rename_i d ds' e1 e2
      cases e
      have a := dat_depth n x d e1
      have b := dats_depth n xs ds' e2
      simp only [PyData.depthAll]
      omega
    · cases e
end
/-! ### comparisons -/
def RC (g : G) (Wn : Value → Option Addr → Hp → Prop) (op : Cop) : R2 := fun x y H Q => ∃ m h v1 v2, HRel g m h H ∧ RM g m H v1 x ∧ RM g m H v2 y ∧ ∃ b, cmpM h op v1 v2 = some b ∧ Q (.bl b) H
theorem eqD_ok {v1 v2 : M} {x y : V} {b : Bool} (hK : g.K = X.K) (hY : ∃ o, X.base.get? sysModules = some o) (hu : X.A.units + 250 < cLine) (rel : HRel g m h H) (r1 : RM g m H v1 x) (r2 : RM g m H v2 y) (e : eqD h v1 v2 = some b) {pins : List (Addr × Obj)} {s : Shared} {σ : St} {v u : Value} (I : Inv X pins σ H s) (rx : RelV x v) (ry : RelV y u) :
    (Q (.bl b) H → wpAny (model X.prog X.w) X.A (compareOp .Eq v u) (EP X pins σ Q) X.xe s) ∧ (Q (.bl (!b)) H → wpAny (model X.prog X.w) X.A (compareOp .NotEq v u) (EP X pins σ Q) X.xe s) := by
  have hs : H sysModules = none := let ⟨o, ho⟩ := hY; (I.bs _ o ho).2
  have gen : (match dat h deep v1, dat h deep v2 with
    | some d, some e => if d.canLay0 = true ∧ e.canLay0 = true then some (PyData.eqv d e) else none
    | _, _ => none) = some b → (Q (.bl b) H → wpAny (model X.prog X.w) X.A (compareOp .Eq v u) (EP X pins σ Q) X.xe s) ∧ (Q (.bl (!b)) H → wpAny (model X.prog X.w) X.A (compareOp .NotEq v u) (EP X pins σ Q) X.xe s) := by
    intro e
    split at e
    · rename_i d d' e1 e2
      split at e
      · rename_i c
        cases e
        obtain ⟨as, z1, _⟩ := dat_reads hK I rel hs deep v1 x v d e1 r1 rx
        obtain ⟨bs, z2, _⟩ := dat_reads hK I rel hs deep v2 y u d' e2 r2 ry
        have h1 := dat_depth deep v1 d e1
        have h2 := dat_depth deep v2 d' e2
        have hd : deep = 60 := rfl
        have s1 : SeqAt.shaped d = true := by unfold SeqAt.shaped; rw [c.1]; simp; omega
        have s2 : SeqAt.shaped d' = true := by unfold SeqAt.shaped; rw [c.2]; simp; omega
        exact ⟨fun q => SeqAt.compareEq_shaped z1 z2 s1 s2 (by omega) ⟨.bl _, H, I, rfl, q⟩, fun q => SeqAt.compareNe_shaped z1 z2 s1 s2 (by omega) ⟨.bl _, H, I, rfl, q⟩⟩
      · cases e
    · cases e
  cases v1 with
  | int i =>
    cases v2 with
    | int j =>
      simp only [eqD] at e
      cases e
      simp only [RM] at r1 r2
      subst r1 r2
      have z : decide (V.int i = V.int j) = decide (i = j) := by
        by_cases c : i = j
        · subst c; simp
        · simp [c]
      exact ⟨fun q => op_eq pins s σ H _ _ v u Q I rx ry ⟨rfl, by rw [z]; exact q⟩, fun q => op_ne pins s σ H _ _ v u Q I rx ry ⟨rfl, by rw [z]; exact q⟩⟩
    | _ => exact gen e
  | str i =>
    cases v2 with
    | str j =>
      simp only [eqD] at e
      cases e
      simp only [RM] at r1 r2
      subst r1 r2
      have z : decide (V.str i = V.str j) = decide (i = j) := by
        by_cases c : i = j
        · subst c; simp
        · simp [c]
      exact ⟨fun q => op_eq pins s σ H _ _ v u Q I rx ry ⟨rfl, by rw [z]; exact q⟩, fun q => op_ne pins s σ H _ _ v u Q I rx ry ⟨rfl, by rw [z]; exact q⟩⟩
    | _ => exact gen e
  | bl i =>
    cases v2 with
    | bl j =>
      simp only [eqD] at e
      cases e
      simp only [RM] at r1 r2
      subst r1 r2
      have z : decide (V.bl i = V.bl j) = decide (i = j) := by
        by_cases c : i = j
        · subst c; simp
        · simp [c]
      exact ⟨fun q => op_eq pins s σ H _ _ v u Q I rx ry ⟨rfl, by rw [z]; exact q⟩, fun q => op_ne pins s σ H _ _ v u Q I rx ry ⟨rfl, by rw [z]; exact q⟩⟩
    | _ => exact gen e
  | tup xs =>
    cases v2 with
    | tup ys =>
      cases ys with
      | cons _ _ => exact gen e
      | nil =>
        simp only [eqD] at e
        cases e
        simp only [RM, RMs] at r1 r2
        obtain ⟨a, vs, rfl, s1, q1⟩ := r1
        obtain ⟨c, ws, rfl, s2, rfl⟩ := r2
        rw [hK] at s1 s2
        cases rx
        cases ry
        obtain ⟨its, w1, t1', _⟩ := I.tuple s1
        obtain ⟨it2, w2, t2', _⟩ := I.tuple s2
        have l2 : it2 = [] := by cases w2; rfl
        subst l2
        have l1 : its.toArray.size = xs.length := by
          have := q1.length
          have h2 := w1.length
          simp only [List.size_toArray]
          omega
        have t1 : s.heap.IsTuple a its.toArray := t1'
        have t2 : s.heap.IsTuple c #[] := t2'
        have eb : ((List.range (min its.toArray.size (#[] : Array Value).size)).all (fun _ => true) && its.toArray.size == (#[] : Array Value).size) = xs.isEmpty := by
          rw [l1]
          cases xs <;> simp
        refine ⟨fun q => SeqAt.RcAt.tuples (e := fun _ => true) t1 t2 (by omega) (fun j _ h2 => by simp at h2) _ _ _ _ ⟨.bl _, H, I, rfl, ?_⟩, fun q => SeqAt.RcNeAt.tuples (e := fun _ => true) t1 t2 (by omega) (fun j _ h2 => by simp at h2) _ _ _ _ ⟨.bl _, H, I, rfl, ?_⟩⟩
        · rw [eb]; exact q
        · rw [eb]; exact q
    | _ => exact gen e
  | _ => cases v2 <;> exact gen e
theorem two_int {v1 v2 : M} {f : Int → Int → Bool} {b : Bool} (e : (match v1, v2 with
    | .int i, .int j => some (f i j)
    | _, _ => none) = some b) : ∃ i j, v1 = .int i ∧ v2 = .int j ∧ f i j = b := by
  cases v1 with
  | int i =>
    cases v2 with
    | int j => exact ⟨i, j, rfl, rfl, Option.some.inj e⟩
    | _ => cases e
  | _ => cases e
theorem flat_ok {x : M} {v w : V} (e : flatM x = some w) (r : RM g m H x v) : v = w ∧ flatV w = true := by
  cases x <;> simp only [flatM] at e <;> cases e <;> simp only [RM] at r <;> exact ⟨r, rfl⟩
theorem flats_ok : ∀ {xs : List M} {vs ws : List V}, flatMs xs = some ws → RMs g m H xs vs → vs = ws ∧ ws.all flatV = true
  | [], vs, ws, e, r => by
    simp only [flatMs] at e
    cases e
    simp only [RMs] at r
    exact ⟨r, rfl⟩
  | x :: xs, vs, ws, e, r => by
    simp only [flatMs] at e
    split at e
    · rename_i w ws' e1 e2
      cases e
      simp only [RMs] at r
      obtain ⟨v, t, rfl, r1, r2⟩ := r
      obtain ⟨rfl, f1⟩ := flat_ok e1 r1
      obtain ⟨rfl, f2⟩ := flats_ok e2 r2
      exact ⟨rfl, by rw [List.all_cons, f1, f2]; rfl⟩
    · cases e
theorem keyM_rel {j : M} {k : L2.Key} {y : V} (e : keyM j = some k) (r : RM g m H j y) : y = kV k := by
  cases j with
  | int i => cases e; simpa [RM, kV] using r
  | str x => cases e; simpa [RM, kV] using r
  | _ => cases e
theorem getK_rel {k : L2.Key} : ∀ {kvs : List (L2.Key × M)} {ws : List (L2.Key × V)} {z : M}, RKs g m H kvs ws → getK kvs k = some z → ∃ w, valV ws k = some w ∧ RM g m H z w
  | [], ws, z, r, e => by cases e
  | p :: kvs, ws, z, r, e => by
    simp only [RKs] at r
    obtain ⟨v, t, rfl, r1, r2⟩ := r
    by_cases c : p.1 = k
    · have : z = p.2 := by simpa [getK, List.find?_cons, c] using e.symm
      subst this
      exact ⟨v, valV_pos c, r1⟩
    · have e' : getK kvs k = some z := by simpa [getK, List.find?_cons, c] using e
      obtain ⟨w, e1, e2⟩ := getK_rel r2 e'
      exact ⟨w, by rw [valV_neg c]; exact e1, e2⟩
theorem any_rel {k : L2.Key} : ∀ {kvs : List (L2.Key × M)} {ws : List (L2.Key × V)}, RKs g m H kvs ws → (kvs.any fun kv => decide (kv.1 = k)) = (ws.any fun kv => decide (kv.1 = k))
  | [], ws, r => by simp only [RKs] at r; subst r; rfl
  | p :: kvs, ws, r => by
    simp only [RKs] at r
    obtain ⟨v, t, rfl, r1, r2⟩ := r
    simp only [List.any_cons, any_rel r2]
theorem putD_rel {k : L2.Key} {z : M} {w : V} (rz : RM g m H z w) {kvs : List (L2.Key × M)} {ws : List (L2.Key × V)} (r : RKs g m H kvs ws) : RKs g m H (putD kvs k z) (putK ws k w) := by
  have mp : ∀ {kvs : List (L2.Key × M)} {ws : List (L2.Key × V)}, RKs g m H kvs ws → RKs g m H (kvs.map (fun kv => if kv.1 = k then (kv.1, z) else kv)) (ws.map (fun kv => if kv.1 = k then (kv.1, w) else kv)) := by
    intro kvs
    induction kvs with
    | nil => intro ws r; simp only [RKs] at r; subst r; simp [RKs]
    | cons p kvs ih =>
      intro ws r
      simp only [RKs] at r
      obtain ⟨v, t, rfl, r1, r2⟩ := r
      simp only [List.map_cons, RKs]
      by_cases c : p.1 = k
      · exact ⟨w, _, by simp [c], by simpa [c] using rz, ih r2⟩
      · exact ⟨v, _, by simp [c], by simpa [c] using r1, ih r2⟩
  have ap : ∀ {kvs : List (L2.Key × M)} {ws : List (L2.Key × V)}, RKs g m H kvs ws → RKs g m H (kvs ++ [(k, z)]) (ws ++ [(k, w)]) := by
    intro kvs
    induction kvs with
    | nil => intro ws r; simp only [RKs] at r; subst r; simp only [List.nil_append, RKs]; exact ⟨w, [], rfl, rz, rfl⟩
    | cons p kvs ih =>
      intro ws r
      simp only [RKs] at r
      obtain ⟨v, t, rfl, r1, r2⟩ := r
      simp only [List.cons_append, RKs]
      exact ⟨v, _, rfl, r1, ih r2⟩
  unfold putD putK
  rw [any_rel r]
  split
  · exact mp r
  · exact ap r
theorem RKs.length : ∀ {kvs : List (L2.Key × M)} {ws : List (L2.Key × V)}, RKs g m H kvs ws → kvs.length = ws.length
  | [], ws, r => by simp only [RKs] at r; subst r; rfl
  | p :: kvs, ws, r => by
    simp only [RKs] at r
    obtain ⟨v, t, rfl, r1, r2⟩ := r
    simp [RKs.length r2]
theorem dic_at {i : Nat} {xs : List (L2.Key × M)} {v : V} (r : HRel g m h H) (e : h[i]? = some (.dic xs)) (q : RM g m H (.ref i) v) : ∃ a vs, v = .ref a ∧ m[i]? = some a ∧ H a = some (.dK vs) ∧ RKs g m H xs vs := by
  simp only [RM] at q
  obtain ⟨a, e1, rfl⟩ := q
  obtain ⟨b, e2, vs, e3, q⟩ := r.obj i _ e
  rw [e1] at e2
  cases e2
  exact ⟨a, vs, rfl, e1, e3, q⟩
theorem inD_ok {v1 v2 : M} {x y : V} {b : Bool} (hK : g.K = X.K) (hY : ∃ o, X.base.get? sysModules = some o) (hu : X.A.units + 250 < cLine) (rel : HRel g m h H) (r1 : RM g m H v1 x) (r2 : RM g m H v2 y) (e : inD h v1 v2 = some b) {pins : List (Addr × Obj)} {s : Shared} {σ : St} {v u : Value} {Q : VK} (I : Inv X pins σ H s) (rx : RelV x v) (ry : RelV y u) :
    (Q (.bl b) H → wpAny (model X.prog X.w) X.A (compareOp .In v u) (EP X pins σ Q) X.xe s) ∧ (Q (.bl (!b)) H → wpAny (model X.prog X.w) X.A (compareOp .NotIn v u) (EP X pins σ Q) X.xe s) := by
  have hd : deep = 60 := rfl
  have hs : H sysModules = none := let ⟨o, ho⟩ := hY; (I.bs _ o ho).2
  unfold inD at e
  split at e
  · rename_i d ds e1 e2
    split at e
    · rename_i c
      cases e
      obtain ⟨as, z1, _⟩ := dat_reads hK I rel hs deep v1 x v d e1 r1 rx
      obtain ⟨bs, z2, _⟩ := dat_reads hK I rel hs deep v2 y u _ e2 r2 ry
      have h1 := dat_depth deep v1 d e1
      have hr : X.A.units + 1 + min (PyData.depthAll ds) d.depth < cLine := by omega
      exact ⟨fun q => SeqAt.in_list_reads z2 z1 c.2 c.1 hr ⟨.bl _, H, I, rfl, q⟩, fun q => SeqAt.notIn_list_reads z2 z1 c.2 c.1 hr ⟨.bl _, H, I, rfl, q⟩⟩
    · cases e
  · rename_i d ds e1 e2
    split at e
    · rename_i c
      cases e
      obtain ⟨as, z1, _⟩ := dat_reads hK I rel hs deep v1 x v d e1 r1 rx
      obtain ⟨bs, z2, _⟩ := dat_reads hK I rel hs deep v2 y u _ e2 r2 ry
      have h1 := dat_depth deep v1 d e1
      have hr : X.A.units + 1 + min (PyData.depthAll ds) d.depth < cLine := by omega
      exact ⟨fun q => SeqAt.in_tuple_reads z2 z1 c.2 c.1 hr ⟨.bl _, H, I, rfl, q⟩, fun q => SeqAt.notIn_tuple_reads z2 z1 c.2 c.1 hr ⟨.bl _, H, I, rfl, q⟩⟩
    · cases e
  · cases e
theorem getK_none {k : L2.Key} : ∀ {kvs : List (L2.Key × M)} {ws : List (L2.Key × V)}, RKs g m H kvs ws → (getK kvs k).isSome = (valV ws k).isSome := by
  intro kvs ws r
  rw [← valV_any, ← any_rel r]
  unfold getK
  rw [Option.isSome_map]
  induction kvs generalizing ws with
  | nil => rfl
  | cons p kvs ih =>
    simp only [RKs] at r
    obtain ⟨v, t, rfl, r1, r2⟩ := r
    by_cases c : p.1 = k
    · simp [List.find?_cons, c]
    · simp only [List.find?_cons, List.any_cons, c, decide_false, Bool.false_or]
      exact ih r2
theorem inK_ok {v1 v2 : M} {x y : V} {b : Bool} (hK : g.K = X.K) (hw : g.w = X.w) (hu : X.A.units + 250 < cLine) (rel : HRel g m h H) (r1 : RM g m H v1 x) (r2 : RM g m H v2 y) (e : inK h v1 v2 = some b) {pins : List (Addr × Obj)} {s : Shared} {σ : St} {v u : Value} {Q : VK} (I : Inv X pins σ H s) (rx : RelV x v) (ry : RelV y u) :
    (Q (.bl b) H → wpAny (model X.prog X.w) X.A (compareOp .In v u) (EP X pins σ Q) X.xe s) ∧ (Q (.bl (!b)) H → wpAny (model X.prog X.w) X.A (compareOp .NotIn v u) (EP X pins σ Q) X.xe s) := by
  cases v2 with
  | rod kvs =>
    cases v1 with
    | str z =>
      obtain rfl : (kvs.lookup z).isSome = b := Option.some.inj e
      simp only [RM] at r1 r2
      obtain ⟨a, rfl, ⟨es, n, D⟩, rk⟩ := r2
      subst r1
      rw [hK, hw] at D
      have key : ∃ r, PySem.W.nsIn X.K a z = some r ∧ r.isSome = (kvs.lookup z).isSome := by
        have := rk z
        rw [hK] at this
        cases q : kvs.lookup z with
        | none => rw [q] at this; exact ⟨_, this, rfl⟩
        | some c => rw [q] at this; obtain ⟨u, v, e, _⟩ := this; exact ⟨_, e, rfl⟩
      obtain ⟨r, e1, e2⟩ := key
      exact ⟨fun q => op_in_kd D pins s σ H _ _ v u Q I rx ry ⟨z, r, rfl, rfl, e1, by rw [e2]; exact q⟩, fun q => op_notIn_kd D pins s σ H _ _ v u Q I rx ry ⟨z, r, rfl, rfl, e1, by rw [e2]; exact q⟩⟩
    | _ => cases e
  | ref i =>
    simp only [inK] at e
    split at e
    · rename_i kvs hd
      split at e
      · rename_i k hk
        cases e
        obtain ⟨a, ws, rfl, _, e3, rk⟩ := dic_at rel hd r2
        have ex := keyM_rel hk r1
        subst ex
        have gd : DGet H a (kV k) (valV ws k) := DGet.k e3
        rw [getK_none rk]
        cases ry
        exact ⟨fun q => d_in (by omega) I gd rx fun s3 I3 => ⟨.bl _, H, I3, rfl, q⟩, fun q => d_notIn (by omega) I gd rx fun s3 I3 => ⟨.bl _, H, I3, rfl, q⟩⟩
      · cases e
    · cases e
  | _ => cases e
theorem inM_ok {v1 v2 : M} {x y : V} {b : Bool} (hK : g.K = X.K) (rel : HRel g m h H) (r1 : RM g m H v1 x) (r2 : RM g m H v2 y) (e : inM h v1 v2 = some b) :
    (∃ i j, x = .str i ∧ y = .str j ∧ b = !(Builtin.Str.occurrences j i 0 j.length 1).isEmpty) ∨ (∃ p xs, y = .ref p ∧ (SqL X.K H p xs ∨ SqT X.K H p xs) ∧ flatV x = true ∧ xs.all flatV = true ∧ b = inV x xs) ∨ inD h v1 v2 = some b ∨ inK h v1 v2 = some b := by
  have gen : ∀ {xs : List M}, itemsM h v2 = some xs → (match flatM v1, flatMs xs with
      | some v, some vs => some (L2.inV v vs)
      | _, _ => inD h v1 v2) = some b → (∃ p xs, y = .ref p ∧ (SqL X.K H p xs ∨ SqT X.K H p xs) ∧ flatV x = true ∧ xs.all flatV = true ∧ b = inV x xs) ∨ inD h v1 v2 = some b ∨ inK h v1 v2 = some b := by
    intro xs ei e
    obtain ⟨a, vs, rfl, sq, rs⟩ := items_ok rel ei r2
    split at e
    · rename_i e1 e2
      obtain ⟨rfl, f1⟩ := flat_ok e1 r1
      obtain ⟨rfl, f2⟩ := flats_ok e2 rs
      cases e
      exact .inl ⟨a, _, rfl, by rw [← hK]; exact sq, f1, f2, rfl⟩
    · exact .inr (.inl e)
  cases v2 with
  | str j =>
    simp only [inM] at e
    cases v1 with
    | str i =>
      simp only [RM] at r1 r2
      exact .inl ⟨i, j, r1, r2, (Option.some.inj e).symm⟩
    | _ => cases e
  | tup ys => exact .inr (gen (xs := ys) rfl e)
  | rol ys => exact .inr (gen (xs := ys) rfl e)
  | ref i =>
    simp only [inM] at e
    split at e
    · rename_i xs ei; exact .inr (gen ei e)
    · exact .inr (.inr (.inr e))
  | rod kvs =>
    cases v1 with
    | str z => exact .inr (.inr (.inr e))
    | _ => simp [inM, itemsM, inK] at e
  | _ => simp [inM, itemsM, inK] at e
theorem in_ok {v1 v2 : M} {x y : V} {b : Bool} (hK : g.K = X.K) (hw : g.w = X.w) (hY : ∃ o, X.base.get? sysModules = some o) (hu : X.A.units + 250 < cLine) (rel : HRel g m h H) (r1 : RM g m H v1 x) (r2 : RM g m H v2 y) (e : inM h v1 v2 = some b) {pins : List (Addr × Obj)} {s : Shared} {σ : St} {v u : Value} {Q : VK} (I : Inv X pins σ H s) (rx : RelV x v) (ry : RelV y u)
    (q : ∀ c, c = b → Q (.bl c) H) : wpAny (model X.prog X.w) X.A (compareOp .In v u) (EP X pins σ Q) X.xe s := by
  rcases inM_ok hK rel r1 r2 e with ⟨i, j, rfl, rfl, rfl⟩ | ⟨p, xs, rfl, sq, f1, f2, rfl⟩ | e | e
  · exact op_in_str pins s σ H _ _ v u Q I rx ry ⟨i, j, rfl, rfl, q _ rfl⟩
  · exact op_in_seq pins s σ H _ _ v u Q I rx ry ⟨p, xs, rfl, sq, f1, f2, q _ rfl⟩
  · exact (inD_ok hK hY hu rel r1 r2 e I rx ry).1 (q _ rfl)
  · exact (inK_ok hK hw hu rel r1 r2 e I rx ry).1 (q _ rfl)
theorem notin_ok {v1 v2 : M} {x y : V} {b : Bool} (hK : g.K = X.K) (hw : g.w = X.w) (hY : ∃ o, X.base.get? sysModules = some o) (hu : X.A.units + 250 < cLine) (rel : HRel g m h H) (r1 : RM g m H v1 x) (r2 : RM g m H v2 y) (e : inM h v1 v2 = some b) {pins : List (Addr × Obj)} {s : Shared} {σ : St} {v u : Value} {Q : VK} (I : Inv X pins σ H s) (rx : RelV x v) (ry : RelV y u)
    (q : Q (.bl (!b)) H) : wpAny (model X.prog X.w) X.A (compareOp .NotIn v u) (EP X pins σ Q) X.xe s := by
  rcases inM_ok hK rel r1 r2 e with ⟨i, j, rfl, rfl, rfl⟩ | ⟨p, xs, rfl, sq, f1, f2, rfl⟩ | e | e
  · exact op_notin_str pins s σ H _ _ v u Q I rx ry ⟨i, j, rfl, rfl, q⟩
  · exact op_notIn_seq pins s σ H _ _ v u Q I rx ry ⟨p, xs, rfl, sq, f1, f2, q⟩
  · exact (inD_ok hK hY hu rel r1 r2 e I rx ry).2 q
  · exact (inK_ok hK hw hu rel r1 r2 e I rx ry).2 q
theorem op_cmp {op' : CmpOp} {op : Cop} (ho : trCmp op' = some op) (hK : g.K = X.K) (hw : g.w = X.w) (hY : ∃ o, X.base.get? sysModules = some o) (hu : X.A.units + 250 < cLine) : OpR X (compareOp op') (RC g Wn op) := by
  intro pins s σ H x y v u Q I rx ry hq
  obtain ⟨m, h, v1, v2, rel, r1, r2, b, e, q⟩ := hq
  cases op' with
  | Eq => cases ho; exact (eqD_ok hK hY hu rel r1 r2 e I rx ry).1 q
  | NotEq =>
    cases ho
    obtain ⟨b', e1, rfl⟩ := Option.map_eq_some_iff.mp (show (eqD h v1 v2).map not = some b from e)
    exact (eqD_ok hK hY hu rel r1 r2 e1 I rx ry).2 q
  | Lt => cases ho; obtain ⟨i, j, rfl, rfl, rfl⟩ := two_int e; simp only [RM] at r1 r2; subst r1 r2; exact op_lt pins s σ H _ _ v u Q I rx ry ⟨i, j, rfl, rfl, q⟩
  | LtE => cases ho; obtain ⟨i, j, rfl, rfl, rfl⟩ := two_int e; simp only [RM] at r1 r2; subst r1 r2; exact op_le pins s σ H _ _ v u Q I rx ry ⟨i, j, rfl, rfl, q⟩
  | Gt => cases ho; obtain ⟨i, j, rfl, rfl, rfl⟩ := two_int e; simp only [RM] at r1 r2; subst r1 r2; exact op_gt pins s σ H _ _ v u Q I rx ry ⟨i, j, rfl, rfl, q⟩
  | GtE => cases ho; obtain ⟨i, j, rfl, rfl, rfl⟩ := two_int e; simp only [RM] at r1 r2; subst r1 r2; exact op_ge pins s σ H _ _ v u Q I rx ry ⟨i, j, rfl, rfl, q⟩
  | In => cases ho; exact in_ok hK hw hY hu rel r1 r2 e I rx ry fun c z => by rw [z]; exact q
  | NotIn =>
    cases ho
    obtain ⟨b', e1, rfl⟩ := Option.map_eq_some_iff.mp (show (inM h v1 v2).map not = some b from e)
    exact notin_ok hK hw hY hu rel r1 r2 e1 I rx ry q
  | _ => cases ho
theorem trCmp_mark {op' : CmpOp} (b : Expr) (hs : notSet b = true) : behindInMarks op' b = false := by
  cases b <;> first | rfl | cases hs
theorem s_cmp {a b : Expr} {a' b' : E} {op' : CmpOp} {op : Cop} (ho : trCmp op' = some op) (hK : g.K = X.K) (hw : g.w = X.w) (hY : ∃ o, X.base.get? sysModules = some o) (hu : X.A.units + 250 < cLine) (ha : PE X a (RE g W P C a')) (hb : PE X b (RE g W P C b')) (hst : notSet b = true) : PE X (.Compare a [op'] [b] pos) (RE g W P C (.cmp op a' b')) := by
  refine ⟨fun pins s σ H Q I ⟨m, env, h, sm, w⟩ => (pe_cmpR (op_cmp (g := g) (Wn := WE' W σ) ho hK hw hY hu) ha hb (trCmp_mark b hst)).run pins s σ H Q I ?_⟩
  simp only [evE] at w
  refine ⟨m, env, h, sm, (Want.bind w).mono ?_⟩
  rintro x H1 ⟨m1, v1, h1, st1, r1, -, w1⟩
  refine ⟨m1, env, h1, sm.step st1, (Want.bind w1).mono ?_⟩
  rintro y H2 ⟨m2, v2, h2, st2, r2, -, w2⟩
  obtain ⟨z, e, w2⟩ := w2.okv
  obtain ⟨b, e', rfl⟩ := Option.map_eq_some_iff.mp e
  exact ⟨m2, h2, v1, v2, st2.rel, r1.step st2, r2, b, e', w2.here st2.rel (by simp only [RM])⟩
end
end MP
namespace MP
open PySem L2
section
variable {X : Cx} {g : G} {W : WX} {P : Tx} {C : Cal} {N : List Str} {sc : Scope} {k : Bool} {pos p : Pos} {m : List Addr} {H : Hp} {h : Hm} {Wn : Value → Option Addr → Hp → Prop} {Q : VK}
/-! ### truth -/
theorem truth_ok {v : M} {x : V} {b : Bool} (hK : g.K = X.K) (rel : HRel g m h H) (e : truth h v = some b) (r : RM g m H v x) : TruV X.K x H b := by
  cases v with
  | non => cases e; simp only [RM] at r; subst r; rfl
  | bl c => cases e; simp only [RM] at r; subst r; rfl
  | int i => cases e; simp only [RM] at r; subst r; rfl
  | str i =>
    simp only [truth] at e
    split at e
    · rename_i c
      cases e
      simp only [RM] at r
      subst r
      refine ⟨c, ?_⟩
      by_cases z : i.length = 0
      · simp [z]
      · have z2 : ((i.length : Int) != 0) = true := by simp; omega
        rw [z2]
        simp [z]
    · cases e
  | tup xs =>
    cases e
    simp only [RM] at r
    obtain ⟨a, vs, rfl, s, q⟩ := r
    rw [hK] at s
    refine .inr (.inl ⟨vs, s, ?_⟩)
    have := q.length
    cases xs <;> cases vs <;> first | rfl | (simp at this)
  | ref i =>
    simp only [truth] at e
    split at e
    · rename_i xs hx
      cases e
      obtain ⟨a, vs, rfl, _, s, q⟩ := lst_at rel hx r
      refine .inl ⟨vs, SqL.of s, ?_⟩
      have := q.length
      cases xs <;> cases vs <;> first | rfl | (simp at this)
    · cases e
  | _ => cases e
theorem s_not {a : Expr} {a' : E} (hK : g.K = X.K) (ha : PE X a (RE g W P C a')) : PE X (.UnaryOp .Not a pos) (RE g W P C (.not a')) := by
  refine peI (pe_notT ha) fun σ H Q ⟨m, env, h, sm, w⟩ => ?_
  simp only [evE] at w
  refine ⟨m, env, h, sm, (Want.bind w).mono ?_⟩
  rintro x H1 ⟨m1, v1, h1, st1, r1, -, w1⟩
  cases e : truth h1 v1 with
  | none => simp only [e] at w1; exact no_want w1
  | some b => simp only [e] at w1; exact ⟨b, truth_ok hK st1.rel e r1, w1.here st1.rel (by simp only [RM])⟩
theorem s_and {a b : Expr} {rest : List Expr} {a' b' : E} (hK : g.K = X.K) (ha : PE X a (RE g W P C a')) (hb : PE X (.BoolOp .And (b :: rest) pos) (RE g W P C b')) : PE X (.BoolOp .And (a :: b :: rest) pos) (RE g W P C (.and a' b')) := by
  refine peI (pe_andT ha hb) fun σ H Q ⟨m, env, h, sm, w⟩ => ?_
  simp only [evE] at w
  refine ⟨m, env, h, sm, (Want.bind w).mono ?_⟩
  rintro x H1 ⟨m1, v1, h1, st1, r1, -, w1⟩
  cases e : truth h1 v1 with
  | none => simp only [e] at w1; exact no_want w1
  | some c =>
    refine ⟨c, truth_ok hK st1.rel e r1, ?_⟩
    cases c with
    | true => simp only [e] at w1; exact ⟨m1, env, h1, sm.step st1, w1⟩
    | false => simp only [e] at w1; exact w1.here st1.rel r1
theorem s_or {a b : Expr} {rest : List Expr} {a' b' : E} (hK : g.K = X.K) (ha : PE X a (RE g W P C a')) (hb : PE X (.BoolOp .Or (b :: rest) pos) (RE g W P C b')) : PE X (.BoolOp .Or (a :: b :: rest) pos) (RE g W P C (.or a' b')) := by
  refine peI (pe_orT ha hb) fun σ H Q ⟨m, env, h, sm, w⟩ => ?_
  simp only [evE] at w
  refine ⟨m, env, h, sm, (Want.bind w).mono ?_⟩
  rintro x H1 ⟨m1, v1, h1, st1, r1, -, w1⟩
  cases e : truth h1 v1 with
  | none => simp only [e] at w1; exact no_want w1
  | some c =>
    refine ⟨c, truth_ok hK st1.rel e r1, ?_⟩
    cases c with
    | true => simp only [e] at w1; exact w1.here st1.rel r1
    | false => simp only [e] at w1; exact ⟨m1, env, h1, sm.step st1, w1⟩
/-! ### tests -/
theorem t_plain {e : Expr} {e' : E} (hK : g.K = X.K) (hp : plainT e = true) (he : PE X e (RE g W P C e')) : PT X e (RT g W P C e') := by
  refine ptI (pt_truth he (by intro _; cases e <;> first | rfl | cases hp | (rename_i op _ _; cases op <;> first | rfl | cases hp))) fun σ H Q ⟨m, env, h, sm, w⟩ => ?_
  unfold evT at w
  refine ⟨m, env, h, sm, (Want.bind w).mono ?_⟩
  rintro x H1 ⟨m1, v1, h1, st1, r1, -, w1⟩
  obtain ⟨b, e, w1⟩ := w1.okv
  exact ⟨b, truth_ok hK st1.rel e r1, w1.here st1.rel rfl⟩
theorem evT_not {a : E} {env : Ev} : evT P C (.not a) env h = bindO (evT P C a env h) fun b h1 => some (.ok (!b) h1) := by
  unfold evT
  simp only [evE]
  cases evE P C a env h with
  | none => rfl
  | some o =>
    cases o with
    | exc c fs h1 => rfl
    | ok x h1 =>
      simp only [bindO_ok]
      cases truth h1 x <;> rfl
theorem evT_and {a b : E} {env : Ev} : evT P C (.and a b) env h = bindO (evT P C a env h) fun c h1 => if c = true then evT P C b env h1 else some (.ok false h1) := by
  unfold evT
  simp only [evE]
  cases evE P C a env h with
  | none => rfl
  | some o =>
    cases o with
    | exc c fs h1 => rfl
    | ok x h1 =>
      simp only [bindO_ok]
      cases e : truth h1 x with
      | none => rfl
      | some c => cases c <;> simp [e]
theorem evT_or {a b : E} {env : Ev} : evT P C (.or a b) env h = bindO (evT P C a env h) fun c h1 => if c = true then some (.ok true h1) else evT P C b env h1 := by
  unfold evT
  simp only [evE]
  cases evE P C a env h with
  | none => rfl
  | some o =>
    cases o with
    | exc c fs h1 => rfl
    | ok x h1 =>
      simp only [bindO_ok]
      cases e : truth h1 x with
      | none => rfl
      | some c => cases c <;> simp [e]
theorem t_not {a : Expr} {a' : E} (ha : PT X a (RT g W P C a')) : PT X (.UnaryOp .Not a pos) (RT g W P C (.not a')) := by
  refine ptI (pt_not ha) fun σ H Q ⟨m, env, h, sm, w⟩ => ?_
  rw [evT_not] at w
  refine ⟨m, env, h, sm, (Want.bind (R := fun _ _ a b => a = b) w).mono ?_⟩
  rintro x H1 ⟨m1, v1, h1, st1, rfl, -, w1⟩
  exact w1.here st1.rel rfl
theorem t_and {a b : Expr} {rest : List Expr} {a' b' : E} (ha : PT X a (RT g W P C a')) (hb : PW X (.BoolOp .And (b :: rest) pos) (RT g W P C b')) : PW X (.BoolOp .And (a :: b :: rest) pos) (RT g W P C (.and a' b')) := by
  have z := pw_and ha hb
  refine ⟨fun wh pins s σ H Q I ⟨m, env, h, sm, w⟩ => z.run wh pins s σ H Q I ?_⟩
  rw [evT_and] at w
  refine ⟨m, env, h, sm, (Want.bind (R := fun _ _ a b => a = b) w).mono ?_⟩
  rintro x H1 ⟨m1, v1, h1, st1, rfl, -, w1⟩
  cases v1 with
  | true => exact ⟨m1, env, h1, sm.step st1, w1⟩
  | false => exact w1.here st1.rel rfl
theorem t_or {a b : Expr} {rest : List Expr} {a' b' : E} (ha : PT X a (RT g W P C a')) (hb : PW X (.BoolOp .Or (b :: rest) pos) (RT g W P C b')) : PW X (.BoolOp .Or (a :: b :: rest) pos) (RT g W P C (.or a' b')) := by
  have z := pw_or ha hb
  refine ⟨fun wh pins s σ H Q I ⟨m, env, h, sm, w⟩ => z.run wh pins s σ H Q I ?_⟩
  rw [evT_or] at w
  refine ⟨m, env, h, sm, (Want.bind (R := fun _ _ a b => a = b) w).mono ?_⟩
  rintro x H1 ⟨m1, v1, h1, st1, rfl, -, w1⟩
  cases v1 with
  | true => exact w1.here st1.rel rfl
  | false => exact ⟨m1, env, h1, sm.step st1, w1⟩
theorem t_cmp {a b : Expr} {a' b' : E} {op' : CmpOp} {op : Cop} (ho : trCmp op' = some op) (hK : g.K = X.K) (hw : g.w = X.w) (hY : ∃ o, X.base.get? sysModules = some o) (hu : X.A.units + 250 < cLine) (ha : PE X a (RE g W P C a')) (hb : PE X b (RE g W P C b')) (hst : notSet b = true) : PT X (.Compare a [op'] [b] pos) (RT g W P C (.cmp op a' b')) := by
  refine ⟨fun pins s σ H Q I ⟨m, env, h, sm, w⟩ => (pt_cmpR (op_cmp (g := g) (Wn := WE' W σ) ho hK hw hY hu) ha hb (trCmp_mark b hst)).run pins s σ H Q I ?_⟩
  have w : Want g (WE' W σ) m H (fun _ _ a b => a = b) (bindO (evE P C a' env h) fun x h1 => bindO (evE P C b' env h1) fun y h2 => okv (cmpM h2 op x y) h2) Q := by
    have e : evT P C (.cmp op a' b') env h = bindO (evE P C a' env h) fun x h1 => bindO (evE P C b' env h1) fun y h2 => okv (cmpM h2 op x y) h2 := by
      unfold evT
      simp only [evE]
      cases evE P C a' env h with
      | none => rfl
      | some o =>
        cases o with
        | exc c fs h1 => rfl
        | ok x h1 =>
          simp only [bindO_ok]
          cases evE P C b' env h1 with
          | none => rfl
          | some o =>
            cases o with
            | exc c fs h2 => rfl
            | ok y h2 =>
              simp only [bindO_ok]
              cases cmpM h2 op x y <;> rfl
    rw [← e]
    exact w
  refine ⟨m, env, h, sm, (Want.bind w).mono ?_⟩
  rintro x H1 ⟨m1, v1, h1, st1, r1, -, w1⟩
  refine ⟨m1, env, h1, sm.step st1, (Want.bind w1).mono ?_⟩
  rintro y H2 ⟨m2, v2, h2, st2, r2, -, w2⟩
  obtain ⟨z, e, w2⟩ := w2.okv
  exact ⟨m2, h2, v1, v2, st2.rel, r1.step st2, r2, z, e, z, rfl, w2.here st2.rel rfl⟩
theorem evT_of_bool {e : E} {env : Ev} {F : Option (Out Bool)} (he : evE P C e env h = bindO F fun b h1 => some (.ok (.bl b) h1)) : evT P C e env h = F := by
  unfold evT
  rw [he]
  cases F with
  | none => rfl
  | some o => cases o <;> rfl
/-- a < b < c -/
noncomputable def chnF (P : Tx) (C : Cal) (o1 o2 : Cop) (a b c : E) (env : Ev) (h : Hm) : Option (Out Bool) := bindO (evE P C a env h) fun x h1 => bindO (evE P C b env h1) fun y h2 => match cmpM h2 o1 x y with
    | some true => bindO (evE P C c env h2) fun z h3 => okv (cmpM h3 o2 y z) h3
    | some false => some (.ok false h2)
    | none => none
theorem chn_eq {o1 o2 : Cop} {a b c : E} {env : Ev} : evE P C (.chn o1 o2 a b c) env h = bindO (chnF P C o1 o2 a b c env h) fun b h1 => some (.ok (.bl b) h1) := by
  unfold chnF
  simp only [evE]
  cases evE P C a env h with
  | none => rfl
  | some o =>
    cases o with
    | exc c fs h1 => rfl
    | ok x h1 =>
      simp only [bindO_ok]
      cases evE P C b env h1 with
      | none => rfl
      | some o =>
        cases o with
        | exc c fs h2 => rfl
        | ok y h2 =>
          simp only [bindO_ok]
          cases cmpM h2 o1 x y with
          | none => rfl
          | some q =>
            cases q with
            | false => rfl
            | true =>
              cases evE P C c env h2 with
              | none => rfl
              | some o =>
                cases o with
                | exc c fs h2 => rfl
                | ok z h3 =>
                  simp only [bindO_ok]
                  cases cmpM h3 o2 y z <;> rfl
theorem chn_read {a' b' c' : E} {op1 op2 : Cop} {Qb : Bool → Hp → Prop} {σ : St} {env : Ev} (sm : Sim g m H h env σ)
    (w : Want g (WE' W σ) m H (fun _ _ a b => a = b) (chnF P C op1 op2 a' b' c' env h) Qb) :
    tChain (RC g (WE' W σ) op1) (RC g (WE' W σ) op2) (RE g W P C a') (RE g W P C b') (RE g W P C c') σ H fun x H1 => ∃ q, x = .bl q ∧ Qb q H1 := by
  unfold chnF at w
  refine ⟨m, env, h, sm, (Want.bind w).mono ?_⟩
  rintro x H1 ⟨m1, v1, h1, st1, r1, -, w1⟩
  refine ⟨m1, env, h1, sm.step st1, (Want.bind w1).mono ?_⟩
  rintro y H2 ⟨m2, v2, h2, st2, r2, -, w2⟩
  cases e : cmpM h2 op1 v1 v2 with
  | none => simp only [e] at w2; exact no_want w2
  | some q =>
    refine ⟨m2, h2, v1, v2, st2.rel, r1.step st2, r2, q, e, q, rfl, ?_⟩
    cases q with
    | false => simp only [e] at w2; exact ⟨false, rfl, w2.here st2.rel rfl⟩
    | true =>
      simp only [e] at w2
      refine ⟨m2, env, h2, (sm.step st1).step st2, (Want.bind w2).mono ?_⟩
      rintro z H3 ⟨m3, v3, h3, st3, r3, -, w3⟩
      obtain ⟨q, e3, w3⟩ := w3.okv
      exact ⟨m3, h3, v2, v3, st3.rel, r2.step st3, r3, q, e3, q, rfl, w3.here st3.rel rfl⟩
theorem RE_mono {e : E} {σ : St} {Q Q' : VK} (h : RE g W P C e σ H Q) (f : ∀ x H1, Q x H1 → Q' x H1) : RE g W P C e σ H Q' := by
  obtain ⟨m, env, h, sm, w⟩ := h
  exact ⟨m, env, h, sm, w.mono f⟩
theorem RC_mono {op : Cop} {x y : V} {Q Q' : VK} (h : RC g Wn op x y H Q) (f : ∀ x H1, Q x H1 → Q' x H1) : RC g Wn op x y H Q' := by
  obtain ⟨m, h, v1, v2, a, b, c, d, e, q⟩ := h
  exact ⟨m, h, v1, v2, a, b, c, d, e, f _ _ q⟩
theorem tChain_mono {a b c : E} {o1 o2 : Cop} {σ : St} {Q Q' : VK} (h : tChain (RC g Wn o1) (RC g Wn o2) (RE g W P C a) (RE g W P C b) (RE g W P C c) σ H Q) (f : ∀ x H1, Q x H1 → Q' x H1) : tChain (RC g Wn o1) (RC g Wn o2) (RE g W P C a) (RE g W P C b) (RE g W P C c) σ H Q' := by
  refine RE_mono h fun x H1 h1 => RE_mono h1 fun y H2 h2 => RC_mono h2 fun z H3 h3 => ?_
  obtain ⟨q, e, h3⟩ := h3
  refine ⟨q, e, ?_⟩
  cases q with
  | true => exact RE_mono h3 fun w' H4 h4 => RC_mono h4 f
  | false => exact f _ _ h3
theorem trCmp_marks {op1' op2' : CmpOp} (b c : Expr) (hs : notSet c = true) : lastMarks [op1', op2'] [b, c] = false := trCmp_mark c hs
theorem s_chn {a b c : Expr} {a' b' c' : E} {op1' op2' : CmpOp} {op1 op2 : Cop} (h1 : trCmp op1' = some op1) (h2 : trCmp op2' = some op2) (hK : g.K = X.K) (hw : g.w = X.w) (hY : ∃ o, X.base.get? sysModules = some o) (hu : X.A.units + 250 < cLine) (ha : PE X a (RE g W P C a')) (hb : PE X b (RE g W P C b')) (hc : PE X c (RE g W P C c')) (hst : notSet c = true) :
    PE X (.Compare a [op1', op2'] [b, c] pos) (RE g W P C (.chn op1 op2 a' b' c')) := by
  refine ⟨fun pins s σ H Q I ⟨m, env, h, sm, w⟩ => (pe_chain (op_cmp (g := g) (Wn := WE' W σ) h1 hK hw hY hu) (op_cmp (g := g) (Wn := WE' W σ) h2 hK hw hY hu) ha hb hc (trCmp_marks b c hst)).run pins s σ H Q I ?_⟩
  rw [chn_eq] at w
  have w' : Want g (WE' W σ) m H (fun _ _ a b => a = b) (chnF P C op1 op2 a' b' c' env h) fun q H1 => Q (.bl q) H1 := by
    refine (Want.bind (R := fun _ _ a b => a = b) w).mono ?_
    rintro x H1 ⟨m1, v1, h1, st1, rfl, -, w1⟩
    exact w1.here st1.rel (by simp only [RM])
  have z := chn_read (a' := a') (b' := b') (c' := c') (op1 := op1) (op2 := op2) sm w'
  refine tChain_mono z ?_
  rintro x H1 ⟨q, rfl, hq⟩
  exact hq
theorem t_chn {a b c : Expr} {a' b' c' : E} {op1' op2' : CmpOp} {op1 op2 : Cop} (h1 : trCmp op1' = some op1) (h2 : trCmp op2' = some op2) (hK : g.K = X.K) (hw : g.w = X.w) (hY : ∃ o, X.base.get? sysModules = some o) (hu : X.A.units + 250 < cLine) (ha : PE X a (RE g W P C a')) (hb : PE X b (RE g W P C b')) (hc : PE X c (RE g W P C c')) (hst : notSet c = true) :
    PT X (.Compare a [op1', op2'] [b, c] pos) (RT g W P C (.chn op1 op2 a' b' c')) := by
  refine ⟨fun pins s σ H Q I ⟨m, env, h, sm, w⟩ => (pt_chain (op_cmp (g := g) (Wn := WE' W σ) h1 hK hw hY hu) (op_cmp (g := g) (Wn := WE' W σ) h2 hK hw hY hu) ha hb hc (trCmp_marks b c hst)).run pins s σ H Q I ?_⟩
  rw [evT_of_bool chn_eq] at w
  exact chn_read (a' := a') (b' := b') (c' := c') (op1 := op1) (op2 := op2) sm w
/-! ### is None -/
theorem non_iff {v : M} {x : V} (r : RM g m H v x) : decide (x = V.non) = (match v with
    | .non => true
    | _ => false) := by
  cases v with
  | non => simp only [RM] at r; subst r; rfl
  | bl _ => simp only [RM] at r; subst r; rfl
  | int _ => simp only [RM] at r; subst r; rfl
  | str _ => simp only [RM] at r; subst r; rfl
  | tup _ => simp only [RM] at r; obtain ⟨a, _, rfl, _⟩ := r; rfl
  | rol _ => simp only [RM] at r; obtain ⟨a, _, rfl, _⟩ := r; rfl
  | ref _ => simp only [RM] at r; obtain ⟨a, _, rfl⟩ := r; rfl
  | glo _ => simp only [RM] at r; obtain ⟨a, _, rfl⟩ := r; rfl
  | rod _ => simp only [RM] at r; obtain ⟨a, rfl, _⟩ := r; rfl
noncomputable def isNF (P : Tx) (C : Cal) (q : Bool) (a : E) (env : Ev) (h : Hm) : Option (Out Bool) := bindO (evE P C a env h) fun x h1 => match x with
    | .non => some (.ok q h1)
    | _ => some (.ok (!q) h1)
theorem isN_eq {a : E} {env : Ev} : evE P C (.isN a) env h = bindO (isNF P C true a env h) fun b h1 => some (.ok (.bl b) h1) := by
  unfold isNF
  simp only [evE]
  cases evE P C a env h with
  | none => rfl
  | some o =>
    cases o with
    | exc c fs h1 => rfl
    | ok x h1 =>
      simp only [bindO_ok]
      cases x <;> rfl
theorem notN_eq {a : E} {env : Ev} : evE P C (.notN a) env h = bindO (isNF P C false a env h) fun b h1 => some (.ok (.bl b) h1) := by
  unfold isNF
  simp only [evE]
  cases evE P C a env h with
  | none => rfl
  | some o =>
    cases o with
    | exc c fs h1 => rfl
    | ok x h1 =>
      simp only [bindO_ok]
      cases x <;> rfl
theorem isN_read {a' : E} {σ : St} {env : Ev} {q : Bool} {Qb : Bool → Hp → Prop} (sm : Sim g m H h env σ) (w : Want g (WE' W σ) m H (fun _ _ a b => a = b) (isNF P C q a' env h) Qb) :
    RE g W P C a' σ H fun x H1 => Qb (if decide (x = V.non) = true then q else !q) H1 := by
  unfold isNF at w
  refine ⟨m, env, h, sm, (Want.bind w).mono ?_⟩
  rintro x H1 ⟨m1, v1, h1, st1, r1, -, w1⟩
  rw [non_iff r1]
  cases v1 <;> exact w1.here st1.rel rfl
theorem rel_bool {x : V} {v : Value} {c : Bool} (r : RelV x v) : (v == Value.bool c) = decide (x = .bl c) := by
  cases x with
  | non => cases r; rfl
  | bl b => cases r; cases b <;> cases c <;> rfl
  | int _ => obtain ⟨t, rfl⟩ := r; rfl
  | str _ => obtain ⟨t, rfl⟩ := r; rfl
  | byt _ => obtain ⟨t, rfl⟩ := r; rfl
  | flt _ => obtain ⟨t, rfl⟩ := r; rfl
  | ref _ => cases r; rfl
  | ty _ => cases r; rfl
theorem is_bool {M : Model} {A : Around} {Q : Value → Shared → Prop} {E : Value → Shared → Prop} {s : Shared} {x : V} {v : Value} {c : Bool} (r : RelV x v) (h : Q (.bool (v == .bool c)) s) : wpAny M A (compareOp .Is v (.bool c)) Q E s := by
  cases x with
  | non => cases r; exact wpAny_pure h
  | bl b => cases r; exact wpAny_pure h
  | int _ => obtain ⟨t, rfl⟩ := r; exact wpAny_pure h
  | str _ => obtain ⟨t, rfl⟩ := r; exact wpAny_pure h
  | byt _ => obtain ⟨t, rfl⟩ := r; exact wpAny_pure h
  | flt _ => obtain ⟨t, rfl⟩ := r; exact wpAny_pure h
  | ref _ => cases r; exact wpAny_pure h
  | ty _ => cases r; exact wpAny_pure h
theorem isnot_bool {M : Model} {A : Around} {Q : Value → Shared → Prop} {E : Value → Shared → Prop} {s : Shared} {x : V} {v : Value} {c : Bool} (r : RelV x v) (h : Q (.bool (!(v == .bool c))) s) : wpAny M A (compareOp .IsNot v (.bool c)) Q E s := by
  cases x with
  | non => cases r; exact wpAny_pure h
  | bl b => cases r; exact wpAny_pure h
  | int _ => obtain ⟨t, rfl⟩ := r; exact wpAny_pure h
  | str _ => obtain ⟨t, rfl⟩ := r; exact wpAny_pure h
  | byt _ => obtain ⟨t, rfl⟩ := r; exact wpAny_pure h
  | flt _ => obtain ⟨t, rfl⟩ := r; exact wpAny_pure h
  | ref _ => cases r; exact wpAny_pure h
  | ty _ => cases r; exact wpAny_pure h
def tIsB (n c : Bool) (ta : TE) : TE := fun σ H Q => ta σ H fun x H1 => Q (.bl (decide (x = .bl c) == n)) H1
theorem pc_isB {a : Expr} {ta : TE} {c : Bool} {j pos'} (ha : PE X a ta) : PC X .Is a (.Constant (.bool c) j pos') (tIsB true c ta) := by
  refine ⟨fun pins s σ H Q I h => ?_⟩
  refine thn (ha.run pins s σ H _ I h) fun v s1 ⟨x, H1, I1, r1, q1⟩ => ?_
  exact PyProof.Rows.Constant_bool (is_bool r1 ⟨.bl _, H1, I1, by rw [rel_bool r1]; cases decide (x = V.bl c) <;> rfl, q1⟩)
theorem pc_notB {a : Expr} {ta : TE} {c : Bool} {j pos'} (ha : PE X a ta) : PC X .IsNot a (.Constant (.bool c) j pos') (tIsB false c ta) := by
  refine ⟨fun pins s σ H Q I h => ?_⟩
  refine thn (ha.run pins s σ H _ I h) fun v s1 ⟨x, H1, I1, r1, q1⟩ => ?_
  exact PyProof.Rows.Constant_bool (isnot_bool r1 ⟨.bl _, H1, I1, by rw [rel_bool r1]; cases decide (x = V.bl c) <;> rfl, q1⟩)
theorem rel_isB {x : M} {v : V} {c : Bool} (r : RM g m H x v) : decide (v = .bl c) = isBM c x := by
  cases x with
  | bl b => simp only [RM] at r; subst r; cases b <;> cases c <;> rfl
  | non => simp only [RM] at r; subst r; rfl
  | int _ => simp only [RM] at r; subst r; rfl
  | str _ => simp only [RM] at r; subst r; rfl
  | tup _ => simp only [RM] at r; obtain ⟨a, vs, rfl, _⟩ := r; rfl
  | rol _ => simp only [RM] at r; obtain ⟨a, vs, rfl, _⟩ := r; rfl
  | ref _ => simp only [RM] at r; obtain ⟨a, _, rfl⟩ := r; rfl
  | glo _ => simp only [RM] at r; obtain ⟨a, _, rfl⟩ := r; rfl
  | rod _ => simp only [RM] at r; obtain ⟨a, rfl, _⟩ := r; rfl
theorem isB_read {a' : E} {σ : St} {env : Ev} {n c : Bool} {Qb : VK} (sm : Sim g m H h env σ) (w : Want g (WE' W σ) m H (RM g) (evE P C (.isB n c a') env h) Qb) :
    RE g W P C a' σ H fun x H1 => Qb (.bl (decide (x = .bl c) == n)) H1 := by
  simp only [evE] at w
  refine ⟨m, env, h, sm, (Want.bind w).mono ?_⟩
  rintro x H1 ⟨m1, v1, h1, st1, r1, -, w1⟩
  rw [rel_isB r1]
  exact w1.here st1.rel (by simp only [RM])
theorem constB_ok {b : Expr} {c : Bool} (h : constB b = some c) : ∃ j pos, b = .Constant (.bool c) j pos := by
  cases b with
  | Constant q j pos =>
    cases q with
    | bool d => cases h; exact ⟨j, pos, rfl⟩
    | _ => cases h
  | _ => cases h
theorem s_isB {a : Expr} {a' : E} {j : Nat} {pos' : Pos} {c : Bool} (ha : PE X a (RE g W P C a')) : PE X (.Compare a [.Is] [.Constant (.bool c) j pos'] pos) (RE g W P C (.isB true c a')) :=
  peI (pe_cmp (pc_isB ha)) fun σ H Q ⟨m, env, h, sm, w⟩ => isB_read sm w
theorem s_notB {a : Expr} {a' : E} {j : Nat} {pos' : Pos} {c : Bool} (ha : PE X a (RE g W P C a')) : PE X (.Compare a [.IsNot] [.Constant (.bool c) j pos'] pos) (RE g W P C (.isB false c a')) :=
  peI (pe_cmp (pc_notB ha)) fun σ H Q ⟨m, env, h, sm, w⟩ => isB_read sm w
theorem evT_isB {a' : E} {env : Ev} {n c : Bool} : evT P C (.isB n c a') env h = bindO (evE P C a' env h) fun x h1 => some (.ok (isBM c x == n) h1) := by
  unfold evT
  simp only [evE]
  cases evE P C a' env h with
  | none => rfl
  | some o => cases o <;> rfl
theorem isB_readT {a' : E} {σ : St} {env : Ev} {n c : Bool} {Qb : Bool → Hp → Prop} (sm : Sim g m H h env σ) (w : Want g (WE' W σ) m H (fun _ _ a b => a = b) (evT P C (.isB n c a') env h) Qb) :
    RE g W P C a' σ H fun x H1 => Qb (decide (x = .bl c) == n) H1 := by
  rw [evT_isB] at w
  refine ⟨m, env, h, sm, (Want.bind w).mono ?_⟩
  rintro x H1 ⟨m1, v1, h1, st1, r1, -, w1⟩
  rw [rel_isB r1]
  exact w1.here st1.rel rfl
theorem t_isB {a : Expr} {a' : E} {j : Nat} {pos' : Pos} {c : Bool} (ha : PE X a (RE g W P C a')) : PT X (.Compare a [.Is] [.Constant (.bool c) j pos'] pos) (RT g W P C (.isB true c a')) := by
  refine ptI (pt_cmp (pc_isB ha)) fun σ H Q ⟨m, env, h, sm, w⟩ => ?_
  refine RE_mono (isB_readT sm w) ?_
  intro x H1 q
  exact ⟨_, rfl, q⟩
theorem t_notB {a : Expr} {a' : E} {j : Nat} {pos' : Pos} {c : Bool} (ha : PE X a (RE g W P C a')) : PT X (.Compare a [.IsNot] [.Constant (.bool c) j pos'] pos) (RT g W P C (.isB false c a')) := by
  refine ptI (pt_cmp (pc_notB ha)) fun σ H Q ⟨m, env, h, sm, w⟩ => ?_
  refine RE_mono (isB_readT sm w) ?_
  intro x H1 q
  exact ⟨_, rfl, q⟩
theorem isNone_ok {b : Expr} (h : trE.isNone b = true) : ∃ j pos, b = .Constant .none j pos := by
  cases b with
  | Constant c j pos =>
    cases c with
    | none => exact ⟨j, pos, rfl⟩
    | _ => cases h
  | _ => cases h
theorem bool_want {F : Option (Out Bool)} (w : Want g Wn m H (RM g) (bindO F fun b h1 => some (.ok (.bl b) h1)) Q) : Want g Wn m H (fun _ _ a b => a = b) F fun q H1 => Q (.bl q) H1 := by
  refine (Want.bind (R := fun _ _ a b => a = b) w).mono ?_
  rintro x H1 ⟨m1, v1, h1, st1, rfl, -, w1⟩
  exact w1.here st1.rel (by simp only [RM])
theorem s_isN {a : Expr} {a' : E} {j : Nat} {pos' : Pos} (ha : PE X a (RE g W P C a')) : PE X (.Compare a [.Is] [.Constant .none j pos'] pos) (RE g W P C (.isN a')) := by
  refine peI (pe_cmp (pc_isN ha)) fun σ H Q ⟨m, env, h, sm, w⟩ => ?_
  rw [isN_eq] at w
  refine RE_mono (isN_read sm (bool_want w)) ?_
  intro x H1 q
  cases e : decide (x = V.non) <;> simpa [e] using q
theorem s_notN {a : Expr} {a' : E} {j : Nat} {pos' : Pos} (ha : PE X a (RE g W P C a')) : PE X (.Compare a [.IsNot] [.Constant .none j pos'] pos) (RE g W P C (.notN a')) := by
  refine peI (pe_cmp (pc_notN ha)) fun σ H Q ⟨m, env, h, sm, w⟩ => ?_
  rw [notN_eq] at w
  refine RE_mono (isN_read sm (bool_want w)) ?_
  intro x H1 q
  cases e : decide (x = V.non) <;> simpa [e] using q
theorem t_isN {a : Expr} {a' : E} {j : Nat} {pos' : Pos} (ha : PE X a (RE g W P C a')) : PT X (.Compare a [.Is] [.Constant .none j pos'] pos) (RT g W P C (.isN a')) := by
  refine ptI (pt_cmp (pc_isN ha)) fun σ H Q ⟨m, env, h, sm, w⟩ => ?_
  rw [evT_of_bool isN_eq] at w
  refine RE_mono (isN_read sm w) ?_
  intro x H1 q
  refine ⟨_, rfl, ?_⟩
  cases e : decide (x = V.non) <;> simpa [e] using q
theorem t_notN {a : Expr} {a' : E} {j : Nat} {pos' : Pos} (ha : PE X a (RE g W P C a')) : PT X (.Compare a [.IsNot] [.Constant .none j pos'] pos) (RT g W P C (.notN a')) := by
  refine ptI (pt_cmp (pc_notN ha)) fun σ H Q ⟨m, env, h, sm, w⟩ => ?_
  rw [evT_of_bool notN_eq] at w
  refine RE_mono (isN_read sm w) ?_
  intro x H1 q
  refine ⟨_, rfl, ?_⟩
  cases e : decide (x = V.non) <;> simpa [e] using q
/-! ### a if t else b -/
theorem ife_eq {t a b : E} {env : Ev} : evE P C (.ife t a b) env h = bindO (evT P C t env h) fun q h1 => if q = true then evE P C a env h1 else evE P C b env h1 := by
  unfold evT
  simp only [evE]
  cases evE P C t env h with
  | none => rfl
  | some o =>
    cases o with
    | exc c fs h1 => rfl
    | ok x h1 =>
      simp only [bindO_ok]
      cases truth h1 x with
      | none => rfl
      | some q => cases q <;> rfl
theorem s_ife {t a b : Expr} {t' a' b' : E} (ht : PT X t (RT g W P C t')) (ha : PE X a (RE g W P C a')) (hb : PE X b (RE g W P C b')) : PE X (.IfExp t a b pos) (RE g W P C (.ife t' a' b')) := by
  refine peI (pe_ifExp ht ha hb) fun σ H Q ⟨m, env, h, sm, w⟩ => ?_
  rw [ife_eq] at w
  refine ⟨m, env, h, sm, (Want.bind (R := fun _ _ a b => a = b) w).mono ?_⟩
  rintro x H1 ⟨m1, v1, h1, st1, rfl, -, w1⟩
  cases v1 with
  | true => exact ⟨m1, env, h1, sm.step st1, w1⟩
  | false => exact ⟨m1, env, h1, sm.step st1, w1⟩
/-! ### a[i] -/
theorem notSlice_ok {i : Expr} (h : notSlice i = true) : ∀ o j, subscripted i false o j = operate [o, j] (getItem o j) := by
  intro o j
  cases i <;> first | rfl | cases h
/-- d[y], by values -/
theorem ix_dict (hu : X.A.units + 1 < cLine) : IxR X (fun x y H Q => ∃ a v, x = .ref a ∧ DGet H a y (some v) ∧ Q v H) := by
  intro value slice pins s σ H x y v u Q I rx ry hq hs
  obtain ⟨a, z, ex, gd, q⟩ := hq
  subst ex
  obtain rfl : v = Value.ref a := rx
  have hT := dict_typeIs I gd
  have h₂ : wpAny (model X.prog X.w) X.A (getItem (.ref a) u) (EP X pins σ Q) X.xe s := d_getItem hu I gd ry fun w' s3 I3 rw' => ⟨z, H, I3, rw', q⟩
  unfold PyProof.Rows.subscriptTail
  refine wpAny_bind ?_
  rw [getitemInPython_of_ne hT.not_modules]
  refine wpAny_bind (wpAny_specialOf hT PySem.F.slot_dict_getitem.lookup ?_)
  have fin : wpAny (model X.prog X.w) X.A (subscripted slice false (.ref a) u) (fun r s₃ => wpAny (model X.prog X.w) X.A (letTemporaryGo value (.ref a) r >>= fun _ => pure r) (EP X pins σ Q) X.xe s₃) X.xe s := by
    rw [hs]
    exact wpAny_operating (wpAny_mono h₂ (fun r s₃ h₃ => wpAny_bind (wpAny_letTemporaryGo (wpAny_pure h₃))) fun _ _ x => x)
  first
    | exact wpAny_pure (wpAny_bind fin)
    | exact wpAny_bind (wpAny_pure (wpAny_bind fin))
    | exact wpAny_bind fin
theorem ix_any (hK : g.K = X.K) (hw : g.w = X.w) (hu : X.A.units + 250 < cLine) : IxR X (fun x y H Q => ∃ m h v1 v2, HRel g m h H ∧ RM g m H v1 x ∧ RM g m H v2 y ∧ ∃ z, ixM h v1 v2 = some z ∧ ∀ w, RM g m H z w → Q w H) := by
  intro value slice pins s σ H x y v u Q I rx ry hq hs
  obtain ⟨m, h, v1, v2, rel, r1, r2, z, e, q⟩ := hq
  have sq : ∀ {j xs}, v2 = .int j → itemsM h v1 = some xs → atI xs j = some z → wpAny (model X.prog X.w) X.A (PyProof.Rows.subscriptTail value slice v u) (EP X pins σ Q) X.xe s := by
    intro j xs e2 e3 e1
    subst e2
    simp only [RM] at r2
    subst r2
    obtain ⟨a, vs, rfl, sq, r⟩ := items_ok rel e3 r1
    obtain ⟨w, a1, a2⟩ := atI_rel r e1
    rw [hK] at sq
    rcases sq with sq | sq
    · exact ix_list value slice pins s σ H _ _ v u Q I rx ry ⟨a, vs, j, w, rfl, rfl, sq, a1, q w a2⟩ hs
    · exact ix_tup value slice pins s σ H _ _ v u Q I rx ry ⟨a, vs, j, w, rfl, rfl, sq, a1, q w a2⟩ hs
  cases v1 with
  | str i =>
    cases v2 with
    | int j =>
      simp only [ixM] at e
      split at e
      · rename_i c
        obtain ⟨cp, e1, rfl⟩ := Option.map_eq_some_iff.mp e
        simp only [RM] at r1 r2
        subst r1 r2
        exact ix_str value slice pins s σ H _ _ v u Q I rx ry ⟨i, j, cp, rfl, rfl, c, e1, q _ (by simp only [RM])⟩ hs
      · cases e
    | _ => cases e
  | ref i =>
    simp only [ixM] at e
    split at e
    · rename_i kvs hd
      split at e
      · rename_i k hk
        obtain ⟨a, ws, rfl, _, e3, rk⟩ := dic_at rel hd r1
        obtain ⟨w, e4, rw'⟩ := getK_rel rk e
        have ey := keyM_rel hk r2
        subst ey
        exact ix_dict (by omega) value slice pins s σ H _ _ v u Q I rx ry ⟨a, w, rfl, by rw [← e4]; exact DGet.k e3, q w rw'⟩ hs
      · cases e
    · rename_i xs hd
      split at e
      · exact sq rfl (by simp [itemsM, hd]) e
      · cases e
    · cases e
  | tup xs =>
    cases v2 with
    | int j => exact sq rfl rfl (show atI xs j = some z from e)
    | _ => cases e
  | rol xs =>
    cases v2 with
    | int j => exact sq rfl rfl (show atI xs j = some z from e)
    | _ => cases e
  | rod kvs =>
    cases v2 with
    | str y0 =>
      obtain ⟨c, e1, rfl⟩ := Option.map_eq_some_iff.mp (show (kvs.lookup y0).map Cn.m = some z from e)
      simp only [RM] at r1 r2
      obtain ⟨a, rfl, ⟨es, n, D⟩, rk⟩ := r1
      subst r2
      have hz := rk y0
      rw [e1] at hz
      obtain ⟨u0, v0, e2, e3, e4⟩ := hz
      rw [hK, hw] at D
      refine ix_kdict value slice pins s σ H _ _ v u Q I rx ry ⟨a, y0, v0, rfl, rfl, ⟨es, n, u0, D.at_, D.lit, by rw [← hK]; exact e2, e3⟩, q v0 (CnR.rm c v0 e4)⟩ hs
    | int j => cases e
    | _ => cases e
  | _ =>
    cases v2 with
    | int j => cases e
    | _ => cases e
theorem s_ix {a i : Expr} {a' i' : E} (hK : g.K = X.K) (hw : g.w = X.w) (hu : X.A.units + 250 < cLine) (hs : notSlice i = true) (ha : PE X a (RE g W P C a')) (hi : PE X i (RE g W P C i')) : PE X (.Subscript a i pos) (RE g W P C (.ix a' i')) := by
  refine peI (pe_ix (ix_any hK hw hu) ha hi (notSlice_ok hs)) fun σ H Q ⟨m, env, h, sm, w⟩ => ?_
  simp only [evE] at w
  refine ⟨m, env, h, sm, (Want.bind w).mono ?_⟩
  rintro x H1 ⟨m1, v1, h1, st1, r1, -, w1⟩
  refine ⟨m1, env, h1, sm.step st1, (Want.bind w1).mono ?_⟩
  rintro y H2 ⟨m2, v2, h2, st2, r2, -, w2⟩
  obtain ⟨z, e, w2⟩ := w2.okv
  exact ⟨m2, h2, v1, v2, st2.rel, r1.step st2, r2, z, e, fun w' r => w2.here st2.rel r⟩
theorem s_ixl {a i : Expr} {l : LE} {i' : E} (hs : notSlice i = true) (ha : PE X a (RL g W P C l)) (hi : PE X i (RE g W P C i')) : PE X (.Subscript a i pos) (RE g W P C (.ixl l i')) := by
  refine peI (pe_ix ix_list ha hi (notSlice_ok hs)) fun σ H Q ⟨m, env, h, sm, w⟩ => ?_
  simp only [evE] at w
  refine ⟨m, env, h, sm, (Want.bind w).mono ?_⟩
  rintro x H1 ⟨m1, xs, h1, st1, ⟨a, vs, rfl, h0, na, hl, r⟩, -, w1⟩
  refine ⟨m1, env, h1, sm.step st1, (Want.bind w1).mono ?_⟩
  rintro y H2 ⟨m2, v2, h2, st2, r2, -, w2⟩
  cases v2 with
  | int j =>
    simp only [RM] at r2
    subst r2
    obtain ⟨q, e, w2⟩ := w2.okv
    obtain ⟨w, a1, a2⟩ := atI_rel (r.step st2) e
    exact ⟨a, vs, j, w, rfl, rfl, SqL.of (st2.out hl na).2, a1, w2.here st2.rel a2⟩
  | _ => exact no_want w2
/-! ### slices -/
theorem o_none : PO X none (RO g W P C none) := poI po_none fun σ H Q ⟨m, env, h, sm, w⟩ => by
  simp only [evO] at w
  exact w.here sm.rel rfl
theorem o_some {e : Expr} {e' : E} (he : PE X e (RE g W P C e')) : PO X (some e) (RO g W P C (some e')) := poI (po_some he) fun σ H Q ⟨m, env, h, sm, w⟩ => by
  simp only [evO] at w
  refine ⟨m, env, h, sm, (Want.bind w).mono ?_⟩
  rintro x H1 ⟨m1, v1, h1, st1, r1, -, w1⟩
  cases v1 with
  | int i =>
    simp only [RM] at r1
    subst r1
    exact ⟨i, rfl, w1.here st1.rel rfl⟩
  | _ => exact no_want w1
theorem cut_len {α : Type} (xs : List α) (lo hi : Option Int) : (HT.sIx xs.length 0 lo = 0 ∧ HT.sIx xs.length xs.length hi = xs.length) → cut xs lo hi = xs := by
  rintro ⟨e1, e2⟩
  unfold cut
  rw [e1, e2]
  simp
theorem sl_any (hK : g.K = X.K) : SlR X (fun x lo hi H Q => ∃ m h v1, HRel g m h H ∧ RM g m H v1 x ∧ Want g Wn m H (RM g) (slM h v1 lo hi) Q) := by
  intro pins s σ H x v vl vu lo hi sl Q I rx hs pl pu hq
  obtain ⟨m, h, v1, rel, r1, w⟩ := hq
  have lst : ∀ {xs : List M}, itemsM h v1 = some xs → (∀ ys, v1 ≠ .tup ys) → Want g Wn m H (RM g) (some (.ok (.ref h.length) (h ++ [.lst (cut xs lo hi)]))) Q → ∃ T id, typeLookup (.type T) "__getitem__" = pure (some (.builtin id)) ∧ s.TypeIs v T ∧ wpAny (model X.prog X.w) X.A (getItem v (.ref sl)) (EP X pins σ Q) X.xe s := by
    intro xs e nt w
    have sq : ∃ a vs, x = .ref a ∧ SqL g.K H a vs ∧ RMs g m H xs vs := by
      cases v1 with
      | tup ys => exact absurd rfl (nt ys)
      | rol ys => cases e; simp only [RM] at r1; obtain ⟨a, vs, rfl, h1, h2⟩ := r1; exact ⟨a, vs, rfl, roL_sq h1, h2⟩
      | ref i =>
        simp only [itemsM] at e
        split at e
        · rename_i ys hy
          cases e
          obtain ⟨a, vs, rfl, _, h1, h2⟩ := lst_at rel hy r1
          exact ⟨a, vs, rfl, SqL.of h1, h2⟩
        · cases e
      | _ => cases e
    obtain ⟨a, vs, rfl, sq, r⟩ := sq
    rw [hK] at sq
    refine sl_list pins s σ H _ v vl vu lo hi sl Q I rx hs pl pu ⟨a, vs, rfl, sq, fun p hp => ?_⟩
    obtain ⟨_, e, w⟩ := w
    cases e
    exact w _ _ _ (rel.new (ob := .lst (cutV vs lo hi)) hp fun c => ⟨_, upd_same, (r.cut lo hi).car c⟩) (by simp only [RM]; exact ⟨p, by rw [← rel.len]; simp, rfl⟩)
  cases v1 with
  | str i =>
    simp only [slM] at w
    by_cases c : i.length ≤ sizeLine
    · simp only [c, if_true] at w
      simp only [RM] at r1
      subst r1
      exact sl_str pins s σ H _ v vl vu lo hi sl Q I rx hs pl pu ⟨i, rfl, c, w.here rel (by simp only [RM]; unfold cutS cut; simp [Str.length])⟩
    · simp only [c, if_false] at w
      exact no_want w
  | tup ys =>
    simp only [slM] at w
    have r1' := r1
    simp only [RM] at r1
    obtain ⟨a, vs, rfl, sq, r⟩ := r1
    rw [hK] at sq
    refine sl_tupA pins s σ H _ v vl vu lo hi sl Q I rx hs pl pu ⟨a, vs, rfl, sq, fun z => ?_, fun _ p hp => ?_⟩
    · rw [cut_len ys lo hi (by rw [r.length]; exact z)] at w
      exact w.here rel r1'
    · have st := rel.laid (ob := .tup (cutV vs lo hi)) hp
      obtain ⟨_, e, w⟩ := w
      cases e
      exact w m _ _ st (by simp only [RM]; exact ⟨p, _, rfl, SqT.of upd_same, (r.cut lo hi).car st.car⟩)
  | rol ys => exact lst rfl (fun _ z => nomatch z) w
  | ref i =>
    simp only [slM] at w
    cases e : itemsM h (.ref i) with
    | none => rw [e] at w; exact no_want w
    | some xs => rw [e] at w; exact lst e (fun _ z => nomatch z) w
  | _ => exact no_want w
theorem s_sl {a : Expr} {a' : E} {lo hi : Option Expr} {lo' hi' : Option E} {p2 : Pos} (hK : g.K = X.K) (ha : PE X a (RE g W P C a')) (hl : PO X lo (RO g W P C lo')) (hh : PO X hi (RO g W P C hi')) : PE X (.Subscript a (.Slice lo hi none p2) pos) (RE g W P C (.sl a' lo' hi')) := by
  refine ⟨fun pins s σ H Q I ⟨m, env, h, sm, w⟩ => (pe_slice (sl_any (g := g) (Wn := WE' W σ) hK) ha hl hh).run pins s σ H Q I ?_⟩
  simp only [evE] at w
  refine ⟨m, env, h, sm, (Want.bind w).mono ?_⟩
  rintro x H1 ⟨m1, v1, h1, st1, r1, -, w1⟩
  refine ⟨m1, env, h1, sm.step st1, (Want.bind (R := fun _ _ a b => a = b) w1).mono ?_⟩
  rintro y H2 ⟨m2, v2, h2, st2, rfl, -, w2⟩
  refine ⟨m2, env, h2, (sm.step st1).step st2, (Want.bind (R := fun _ _ a b => a = b) w2).mono ?_⟩
  rintro z H3 ⟨m3, v3, h3, st3, rfl, -, w3⟩
  exact ⟨m3, h3, v1, st3.rel, (r1.step st2).step st3, w3⟩
end
end MP
namespace MP
open PySem L2
/-! ### instances: making, methods, fields -/
theorem make_guards {A : Around} {C : Addr} {us : List Value} {kw : List (Str × Value)} : (A.under (.builtin "type.__call__" ⟨.ref C :: us, kw⟩)).guards = A.guards := by
  first | rfl | simp [Around.under, Code.weight, Code.isCreation, Code.isGuard, Code.isCaller, Code.frames, Code.isFrame, guardIds]
section
variable {X : Cx} {g : G} {W : WX} {P : Tx} {C : Cal} {N : List Str} {sc : Scope} {k : Bool}
theorem Okx.mak (o : Okx X g W P C N sc k) (hk : k = true) (c q : Str) (hf : P.mak c = some q) : ∃ D a, X.mg c = some (.ref D) ∧ Mk X.K D a ∧
    ∀ (pins : List (Addr × Obj)) (s : Shared) (σ : St) (H : Hp) (m : List Addr) (h : Hm) (xs : List M) (vs : List V) (us : List Value) (Q : VK), L2.Inv X pins σ H s → HRel g m h H → RMs g m H xs vs → Vals vs us → Want g (WE' W σ) m H (RM g) (makM C c q xs h) Q → wpAny (model X.prog X.w) X.A (PySem.call (.ref D) us) (EP X pins σ Q) X.xe s := by
  obtain ⟨n, F, hr⟩ := o.fns hk
  obtain ⟨D, a, e1, M, R⟩ := F.2.2.2 c q hf
  have M' : Mk X.K D a := by rw [← o.K]; exact M
  refine ⟨D, a, by rw [← o.mg]; exact e1, M', fun pins s σ H m h xs vs us Q I rel r rv w => ?_⟩
  have f1 : H (s.heap.objs.size + 1) = none := I.hok.fresh (Nat.le_succ _)
  have f2 : H s.heap.objs.size = none := I.hok.fresh (Nat.le_refl _)
  have ne : s.heap.objs.size ≠ s.heap.objs.size + 1 := Nat.ne_of_lt (Nat.lt_succ_self _)
  have I2 := Inv.made (C := D) I
  have st1 := rel.laid (ob := .own (s.heap.objs.size + 1)) f2
  have f3 : upd H s.heap.objs.size (.own (s.heap.objs.size + 1)) (s.heap.objs.size + 1) = none := by rw [upd_ne ne.symm]; exact f1
  have st2 := st1.rel.new (o := .ins c []) (ob := .ins D s.heap.objs.size []) f3 fun cr => ⟨D, s.heap.objs.size, [], e1, upd_same, fun z => by
    rcases List.mem_append.mp z with z | z
    · exact rel.notIn f2 z
    · exact ne (by simpa using z), by rw [upd_ne ne, upd_same], by simp [RFs]⟩
  have st := st1.trans st2
  have e0 := I2.env0
  rw [← o.K, ← o.mg] at e0
  have w2 : Want g (WE' W σ) (m ++ [s.heap.objs.size + 1]) (upd (upd H s.heap.objs.size (.own (s.heap.objs.size + 1))) (s.heap.objs.size + 1) (.ins D s.heap.objs.size [])) (RM g) (C q (.ref h.length :: xs ++ []) (h ++ [.ins c []])) (fun v H2 => v = .non ∧ Q (.ref (s.heap.objs.size + 1)) H2) := by
    rw [List.append_nil]
    unfold makM at w
    cases hc : C q (.ref h.length :: xs) (h ++ [.ins c []]) with
    | none => rw [hc] at w; exact no_want w
    | some z =>
      rw [hc] at w
      refine ⟨z, rfl, ?_⟩
      cases z with
      | exc d fs h2 =>
        obtain ⟨_, e, w⟩ := w
        cases e
        exact fun m' H' cls dd s3 rx => w m' H' cls dd (st.trans s3) rx
      | ok v h2 =>
        cases v with
        | non =>
          obtain ⟨_, e, w⟩ := w
          cases e
          intro m' H' b s3 rb
          simp only [RM] at rb
          refine ⟨rb, w m' H' _ (st.trans s3) ?_⟩
          simp only [RM]
          refine ⟨_, s3.car.ix _ _ ?_, rfl⟩
          rw [← rel.len]
          simp
        | _ => exact no_want w
  have r2 : RMs g (m ++ [s.heap.objs.size + 1]) (upd (upd H s.heap.objs.size (.own (s.heap.objs.size + 1))) (s.heap.objs.size + 1) (.ins D s.heap.objs.size [])) (.ref h.length :: xs) (V.ref (s.heap.objs.size + 1) :: vs) := by
    simp only [RMs, RM]
    refine ⟨_, _, rfl, ⟨_, ?_, rfl⟩, r.step st⟩
    rw [← rel.len]
    simp
  have rv2 : Vals (V.ref (s.heap.objs.size + 1) :: vs) (Value.ref (s.heap.objs.size + 1) :: us) := .cons rfl rv
  refine wpAny_call (make_map (f := a) I.kIn M'.makes M'.init (beq_iff_eq.mp M'.fn) (codeAny_mono (R _ X.stack _ _ _ _ (.ref h.length :: xs) [] _ [] (Value.ref (s.heap.objs.size + 1) :: us) [] _ (WE' W σ) (hr.make D us []) (by rw [make_guards]; exact o.guards) (e0.make D us []) st.rel r2 rv2 (by simp [RMs]) .nil rfl w2) fun r s' hq' => ?_))
  cases r with
  | error e => exact o.tk e s' (XE.of_call I2 (fun _ _ _ h => h) hq')
  | ok fl =>
    cases fl with
    | ret u =>
      obtain ⟨v, H', I3, rv, ev, q3⟩ := I2.after hq'
      subst ev
      exact ⟨rv, ⟨V.ref (s.heap.objs.size + 1), H', I3, rfl, q3⟩⟩
    | next => exact False.elim hq'
    | brk => exact False.elim hq'
    | cont => exact False.elim hq'
theorem Okx.meth (o : Okx X g W P C N sc k) (hk : k = true) (c f : Str) (ks : List Str) (q : Str) (hf : P.mth c f ks = some q) : ∃ D a, X.mg c = some (.ref D) ∧ Cls X.K D ∧ Meth X.K D f a ∧
    ∀ (A : Around) (pins : List (Addr × Obj)) (s : Shared) (σ : St) (H : Hp) (m : List Addr) (h : Hm) (xs ys : List M) (vs zs : List V) (us ws : List Value) (Q : VK), A = X.A ∨ A = X.A.in1 → L2.Inv X pins σ H s → HRel g m h H → RMs g m H xs vs → Vals vs us → RMs g m H ys zs → Vals zs ws → ys.length = ks.length → Want g (WE' W σ) m H (RM g) (C q (xs ++ ys) h) Q → wpAny (model X.prog X.w) A (PySem.call (.ref a) us (ks.zip ws)) (EP X pins σ Q) X.xe s := by
  obtain ⟨n, F, hr⟩ := o.fns hk
  obtain ⟨D, a, e1, e2, e3, R⟩ := F.2.2.1 c f ks q hf
  refine ⟨D, a, by rw [← o.mg]; exact e1, by rw [← o.K]; exact e2, by rw [← o.K]; exact e3, fun A pins s σ H m h xs ys vs zs us ws Q hA I rel r rv r2 rv2 hl w => ?_⟩
  have e0 : Env0 X.prog X.w g.K g.mg X.base X.A X.stack s H := by rw [o.K, o.mg]; exact I.env0
  have e0' : Env0 X.prog X.w g.K g.mg X.base A X.stack s H ∧ Room n A ∧ A.guards = some [] := by
    rcases hA with rfl | rfl
    · exact ⟨e0, hr.mono (by omega), o.guards⟩
    · exact ⟨e0.in1, hr.in1, o.guards⟩
  refine wpAny_call (codeAny_mono (R A X.stack s H m h xs ys vs zs us ws Q (WE' W σ) e0'.2.1 e0'.2.2 e0'.1 rel r rv r2 rv2 hl w) fun r s' hq => ?_)
  cases r with
  | error e => exact o.tk e s' (XE.of_call I (fun _ _ _ h => h) hq)
  | ok fl =>
    cases fl with
    | ret u => exact I.after hq
    | next => exact False.elim hq
    | brk => exact False.elim hq
    | cont => exact False.elim hq
theorem insM_at {m : List Addr} {H : Hp} {h : Hm} {x : M} {v : V} {c : Str} {fs : List (Str × M)} (rel : HRel g m h H) (e : insM h x = some (c, fs)) (r : RM g m H x v) : ∃ i a D dx ws, x = .ref i ∧ v = .ref a ∧ m[i]? = some a ∧ h[i]? = some (.ins c fs) ∧ g.mg c = some (.ref D) ∧ H a = some (.ins D dx ws) ∧ dx ∉ m ∧ H dx = some (.own a) ∧ RFs g m H fs ws := by
  cases x with
  | ref i =>
    simp only [insM] at e
    split at e
    · rename_i c' fs' he
      cases e
      simp only [RM] at r
      obtain ⟨a, e1, rfl⟩ := r
      obtain ⟨a', e2, D, dx, ws, q1, q2, q3, q4, q5⟩ := rel.obj i _ he
      rw [e1] at e2
      cases e2
      exact ⟨i, a, D, dx, ws, rfl, rfl, e1, he, q1, q2, q3, q4, q5⟩
    · cases e
  | _ => cases e
theorem RFs.look {m : List Addr} {H : Hp} {f : Str} : ∀ {fs : List (Str × M)} {ws : List (Str × V)}, RFs g m H fs ws → match fs.lookup f with
    | some v => ∃ u, ws.lookup f = some u ∧ RM g m H v u
    | none => ws.lookup f = none
  | [], ws, r => by simp only [RFs] at r; subst r; rfl
  | (y, x) :: fs, ws, r => by
    simp only [RFs] at r
    obtain ⟨u, t, rfl, ru, rr⟩ := r
    by_cases hy : f = y
    · subst hy
      simp only [List.lookup, beq_self_eq_true]
      exact ⟨u, rfl, ru⟩
    · have hb : (f == y) = false := by simpa using hy
      simp only [List.lookup, hb]
      exact RFs.look rr
theorem RFs.put {m : List Addr} {H : Hp} {f : Str} {v : M} {u : V} (rv : RM g m H v u) : ∀ {fs : List (Str × M)} {ws : List (Str × V)}, RFs g m H fs ws → RFs g m H (putFM f v fs) (putF f u ws)
  | [], ws, r => by simp only [RFs] at r; subst r; simp [putFM, putF, RFs, rv]
  | (y, x) :: fs, ws, r => by
    simp only [RFs] at r
    obtain ⟨t, tt, rfl, rt, rr⟩ := r
    by_cases hy : y = f
    · simp only [putFM, putF, hy, if_true, RFs]
      exact ⟨u, _, rfl, rv, rr⟩
    · simp only [putFM, putF, hy, if_false, RFs]
      exact ⟨t, _, rfl, rt, RFs.put rv rr⟩
theorem RFs.length {m : List Addr} {H : Hp} : ∀ {fs : List (Str × M)} {ws : List (Str × V)}, RFs g m H fs ws → fs.length = ws.length
  | [], ws, r => by simp only [RFs] at r; subst r; rfl
  | (y, x) :: fs, ws, r => by
    simp only [RFs] at r
    obtain ⟨t, tt, rfl, rt, rr⟩ := r
    simp [RFs.length rr]
/-- the own __len__ -/
theorem cspecF {M : Model} {A : Around} {E : Value → Shared → Prop} {s : Shared} {K : PySem.W.Frag} {self : Value} {name : Str} {f : Addr} {args : List Value} {Q : Option Value → Shared → Prop} (X : K.In s.heap) (sp : PySem.W.Looks M s.heap (specialOf self name) (some (.ref f))) (hf : PySem.W.isFn K (.ref f) = true)
    (hc : wpAny M A (call (.ref f) (self :: args)) (fun v => Q (some v)) E s) : wpAny M A (callSpecial? self name args) Q E s := by
  simp only [callSpecial?]
  refine wpAny_bind (sp.here ?_)
  have hb : PySem.W.Looks M s.heap (typeOf (.ref f)) (.type "function") := PySem.W.looks_typeIn X (beq_iff_eq.mp hf)
  refine wpAny_holding (wpAny_bind ?_)
  simp only [bindSpecial]
  refine wpAny_bind (hb.here ?_)
  rw [if_pos (by decide)]
  exact wpAny_pure (wpAny_bind (wpAny_mono hc (fun v s' h' => wpAny_pure h') fun _ _ h' => h'))
theorem len_inst {A : Around} {E : Value → Shared → Prop} {s : Shared} {K : PySem.W.Frag} {prog : Program} {w : World} {x D f : Addr} {ox : Obj} {od : Option Obj} {Q : Value → Shared → Prop} (X : K.In s.heap) (I : PySem.W.InstAt s.heap x ox D od) (hm : PySem.W.findIn K (.ref D) "__len__" = some (some (.ref f))) (hf : PySem.W.isFn K (.ref f) = true)
    (hcall : wpAny (model prog w) A.in1 (call (.ref f) [.ref x]) (fun r s' => ∃ n u, r = .int n u ∧ 0 ≤ n ∧ n < 2 ^ 63 ∧ Q (.int n s'.toks) { s' with toks := s'.toks + 1 }) E s) :
    wpAny (model prog w) A (call (.builtin "len") [.ref x]) Q E s := by
  refine Calls.call_function_entry kind_len plain_len entry_len (args_len1 _) ?_
  unfold Builtin.«len»
  refine wpAny_bind (m := oneArg "len" _) (wpAny_pure ?_)
  refine wpAny_bind (m := callSpecial? (.ref x) (Str.ofString "__len__")) (cspecF X (I.type.andThen (PySem.W.looks_findIn X hm)) hf (wpAny_mono hcall (fun r s' hr => ?_) fun _ _ y => y))
  obtain ⟨n, u, rfl, h0, h1, hq⟩ := hr
  refine wpAny_bind (wpAny_holding (wpAny_pure ?_))
  refine wpAny_bind (wpAny_letGo ?_)
  show wpAny _ _ (if n < 0 then _ else _) _ _ _
  rw [if_neg (by omega)]
  show wpAny _ _ (if n ≥ 2 ^ 63 then _ else _) _ _ _
  rw [if_neg (by omega)]
  exact wpAny_bind (wpAny_mkInt (wpAny_pure ⟨_, rfl, hq⟩))
end
end MP
namespace MP
open PySem L2
section
variable {X : Cx} {g : G} {W : WX} {P : Tx} {C : Cal} {N : List Str} {sc : Scope} {k : Bool} {pos p : Pos} {m : List Addr} {H : Hp} {h : Hm} {Wn : Value → Option Addr → Hp → Prop} {Q : VK}
/-! ### calls -/
theorem star_cons {e : Expr} {es : List Expr} {env : Env} (h : notStar e = true) : starEach (e :: es) env = (false, eval e env) :: starEach es env := by
  cases e <;> first | rfl | cases h
theorem star_any : ∀ {es : List Expr} {env : Env}, es.all notStar = true → (backTo pos (starEach es env)).any (·.1) = false
  | [], _, _ => rfl
  | e :: es, env, h => by
    rw [List.all_cons, Bool.and_eq_true] at h
    rw [star_cons h.1]
    show (false || (backTo pos (starEach es env)).any (·.1)) = false
    rw [star_any h.2]
    rfl
theorem s_call0 {f : Str} (o : Okx X g W P C N sc k) (hk : k = true) (hg : trGlo sc f = true) : PE X (.Call (.Name f p) [] [] pos) (RE g W P C (.call f [])) := by
  refine ⟨fun pins s σ H Q I ⟨m, env, h, sm, w⟩ => ?_⟩
  simp only [evE] at w
  by_cases hf : P.fns f = true
  · rw [if_pos hf] at w
    obtain ⟨a, hm, kp, rule⟩ := o.call hk f hf
    obtain ⟨hg1, hd⟩ := trGlo_ok o hg
    refine wpAny_Call_Name_kw (ld_glob I hg1 hm ?_ hd)
    refine PySem.W.callWith_K0 I.kIn kp ?_
    exact rule pins s σ H m h [] [] [] Q I sm.rel (by simp [RMs]) .nil w
  · rw [if_neg hf] at w
    cases hm : P.mak f with
    | none => rw [hm] at w; exact no_want w
    | some q =>
      rw [hm] at w
      obtain ⟨D, a, e1, Mk, rule⟩ := o.mak hk f q hm
      obtain ⟨hg1, hd⟩ := trGlo_ok o hg
      refine wpAny_Call_Name_kw (ld_glob I hg1 e1 ?_ hd)
      refine PySem.W.callWith_K0 I.kIn Mk.kp ?_
      exact rule pins s σ H m h [] [] [] Q I sm.rel (by simp [RMs]) .nil w
theorem s_call {f : Str} {e : Expr} {es : List Expr} {es' : List E} (o : Okx X g W P C N sc k) (hk : k = true) (hg : trGlo sc f = true) (hns : (e :: es).all notStar = true) (ha : PA X (e :: es) (RA g W P C es')) : PE X (.Call (.Name f p) (e :: es) [] pos) (RE g W P C (.call f es')) := by
  refine ⟨fun pins s σ H Q I ⟨m, env, h, sm, w⟩ => ?_⟩
  simp only [evE] at w
  by_cases hf : P.fns f = true
  · rw [if_pos hf] at w
    obtain ⟨a, hm, kp, rule⟩ := o.call hk f hf
    obtain ⟨hg1, hd⟩ := trGlo_ok o hg
    refine wpAny_Call_Name_kw (ld_glob I hg1 hm ?_ hd)
    have q0 : RA g W P C es' σ H fun vs H1 => ∃ m1 xs h1, Step g m H h1 m1 H1 ∧ RMs g m1 H1 xs vs ∧ Want g (WE' W σ) m1 H1 (RM g) (C f xs h1) Q := ⟨m, env, h, sm, (Want.bind w).mono fun b H1 ⟨m1, a, h1, st, r, _, w⟩ => ⟨m1, a, h1, st, r, w⟩⟩
    rw [List.all_cons, Bool.and_eq_true] at hns
    refine PySem.W.callWith_K (h₀ := X.base) I.ok.mod.kin kp (thn (ha.run pos pins s σ H _ I q0) fun us s1 ⟨vs, H1, I1, r, m1, xs, h1, st1, r1, w1⟩ => ⟨I1.kIn, ?_⟩) (star_cons hns.1) (star_any hns.2)
    exact rule pins s1 σ H1 m1 h1 xs vs us Q I1 st1.rel r1 r w1
  · rw [if_neg hf] at w
    cases hm : P.mak f with
    | none => rw [hm] at w; exact no_want w
    | some q =>
      rw [hm] at w
      obtain ⟨D, a, e1, Mk, rule⟩ := o.mak hk f q hm
      obtain ⟨hg1, hd⟩ := trGlo_ok o hg
      refine wpAny_Call_Name_kw (ld_glob I hg1 e1 ?_ hd)
      have q0 : RA g W P C es' σ H fun vs H1 => ∃ m1 xs h1, Step g m H h1 m1 H1 ∧ RMs g m1 H1 xs vs ∧ Want g (WE' W σ) m1 H1 (RM g) (makM C f q xs h1) Q := ⟨m, env, h, sm, (Want.bind w).mono fun b H1 ⟨m1, a, h1, st, r, _, w⟩ => ⟨m1, a, h1, st, r, w⟩⟩
      rw [List.all_cons, Bool.and_eq_true] at hns
      refine PySem.W.callWith_K (h₀ := X.base) I.ok.mod.kin Mk.kp (thn (ha.run pos pins s σ H _ I q0) fun us s1 ⟨vs, H1, I1, r, m1, xs, h1, st1, r1, w1⟩ => ⟨I1.kIn, ?_⟩) (star_cons hns.1) (star_any hns.2)
      exact rule pins s1 σ H1 m1 h1 xs vs us Q I1 st1.rel r1 r w1
/-- a local name that holds a def -/
theorem s_cal {x : Str} {i : Nat} {e : Expr} {es : List Expr} {es' : List E} (o : Okx X g W P C N sc k) (hk : k = true) (hx : trVar N sc x = some i) (hns : (e :: es).all notStar = true) (ha : PA X (e :: es) (RA g W P C es')) : PE X (.Call (.Name x p) (e :: es) [] pos) (RE g W P C (.cal i es')) := by
  obtain ⟨h1, h2, h3, h4⟩ := trVar_ok hx
  refine ⟨fun pins s σ H Q I ⟨m, env, h, sm, w⟩ => ?_⟩
  simp only [evE] at w
  split at w
  · rename_i f ef
    by_cases hf : P.fns f = true
    · rw [if_pos hf] at w
      obtain ⟨a, hm, kp, rule⟩ := o.call hk f hf
      obtain ⟨xv, e1, r⟩ := sm.er.val i _ ef
      simp only [RM] at r
      obtain ⟨a', ea, rfl⟩ := r
      rw [o.mg, hm] at ea
      cases ea
      refine wpAny_Call_Name_kw (thn ((pe_var (pos := p) (by rw [o.N]; exact h1) (by rw [o.sc]; exact h2) h3 h4).run pins s σ H (fun v H1 => v = .ref a ∧ H1 = H) I ⟨.ref a, e1, rfl, rfl⟩) fun u s1 ⟨v, H1, I1, r1, q1⟩ => ?_)
      obtain ⟨rfl, rfl⟩ := q1
      cases r1
      have q0 : RA g W P C es' σ H1 fun vs H2 => ∃ m1 xs h1, Step g m H1 h1 m1 H2 ∧ RMs g m1 H2 xs vs ∧ Want g (WE' W σ) m1 H2 (RM g) (C f xs h1) Q := ⟨m, env, h, sm, (Want.bind w).mono fun b H1 ⟨m1, a, h1, st, r, _, w⟩ => ⟨m1, a, h1, st, r, w⟩⟩
      rw [List.all_cons, Bool.and_eq_true] at hns
      refine PySem.W.callWith_K (h₀ := X.base) I.ok.mod.kin kp (thn (ha.run pos pins s1 σ H1 _ I1 q0) fun us s2 ⟨vs, H2, I2, r, m1, xs, h1, st1, r1, w1⟩ => ⟨I2.kIn, ?_⟩) (star_cons hns.1) (star_any hns.2)
      exact rule pins s2 σ H2 m1 h1 xs vs us Q I2 st1.rel r1 r w1
    · rw [if_neg hf] at w
      exact no_want w
  · exact no_want w
/-! ### calls by keywords -/
theorem kw_some : ∀ {ws : List Keyword} {ks : List Str} {env : Env}, kwNs ws = some ks → (backToKw pos (keywordEach ws env)).all (·.1.isSome) = true ∧ (backToKw pos (keywordEach ws env)).filterMap (·.1) = ks ∧ (backToKw pos (keywordEach ws env)).any (·.1.isNone) = false ∧ ws.length = ks.length
  | [], ks, env, h => by cases h; exact ⟨rfl, rfl, rfl, rfl⟩
  | ⟨nm, e, kp⟩ :: ws, ks, env, h => by
    simp only [kwNs] at h
    split at h
    · rename_i x l e2
      cases h
      obtain ⟨a, b, c, d⟩ := kw_some (env := env) e2
      refine ⟨?_, ?_, ?_, by simp [d]⟩
      · show (true && (backToKw pos (keywordEach ws env)).all (·.1.isSome)) = true
        rw [a]; rfl
      · show x :: (backToKw pos (keywordEach ws env)).filterMap (·.1) = _
        rw [b]
      · show (false || (backToKw pos (keywordEach ws env)).any (·.1.isNone)) = false
        rw [c]; rfl
    · cases h
theorem pkI {X : Cx} {e : List Keyword} {t t' : TA} (h : PK X e t) (f : ∀ σ H Q, t' σ H Q → t σ H Q) : PK X e t' := ⟨fun pos pins s σ H Q I q => h.run pos pins s σ H Q I (f σ H Q q)⟩
theorem k_nil : PK X [] (RA g W P C []) := pkI pk_nil fun σ H Q ⟨m, env, h, s, w⟩ => Want.here s.rel (show Want g (WE' W σ) m H (RMs g) (some (.ok [] h)) Q from w) (by simp [RMs])
theorem k_cons {w : Keyword} {ws : List Keyword} {e' : E} {es' : List E} (h : PE X w.value (RE g W P C e')) (r : PK X ws (RA g W P C es')) : PK X (w :: ws) (RA g W P C (e' :: es')) := by
  obtain ⟨nm, we, wp⟩ := w
  refine pkI (pk_cons (nm := nm) (kpos := wp) h r) fun σ H Q ⟨m, env, h, s, w⟩ => ?_
  simp only [evEs] at w
  refine ⟨m, env, h, s, (Want.bind w).mono ?_⟩
  rintro x H1 ⟨m1, v1, h1, st1, r1, -, w1⟩
  refine ⟨m1, env, h1, s.step st1, (Want.bind w1).mono ?_⟩
  rintro xs H2 ⟨m2, v2, h2, st2, r2, -, w2⟩
  exact Want.here st2.rel w2 (by simp only [RMs]; exact ⟨x, xs, rfl, r1.step st2, r2⟩)
theorem evEs_len {P : Tx} {C : Cal} : ∀ {es : List E} {env : Ev} {h h' : Hm} {xs : List M}, evEs P C es env h = some (.ok xs h') → xs.length = es.length
  | [], env, h, h', xs, e => by simp only [evEs] at e; cases e; rfl
  | e :: es, env, h, h', xs, q => by
    simp only [evEs] at q
    cases q1 : evE P C e env h with
    | none => rw [q1] at q; cases q
    | some o =>
      rw [q1] at q
      cases o with
      | exc c fs h1 => cases q
      | ok x h1 =>
        simp only [bindO_ok] at q
        cases q2 : evEs P C es env h1 with
        | none => rw [q2] at q; cases q
        | some o2 =>
          rw [q2] at q
          cases o2 with
          | exc c fs h2 => cases q
          | ok ys h2 =>
            simp only [bindO_ok] at q
            cases q
            have := evEs_len q2
            simp [this]
theorem run_kw {q f : Str} {e : Expr} {es : List Expr} {ws : List Keyword} {ks : List Str} {es' zs' : List E} {a : Addr} (o : Okx X g W P C N sc k) (hk : k = true) (hn : kwNs ws = some ks) (hl : ws.length = zs'.length) (hns : (e :: es).all notStar = true) (ha : PA X (e :: es) (RA g W P C es')) (hz : PK X ws (RA g W P C zs')) (hf : P.kw q = some (f, ks)) (hm : X.mg f = some (.ref a))
    {pins : List (Addr × Obj)} {s : Shared} {σ : St} {H : Hp} {m : List Addr} {env : Ev} {h : Hm} {Q : VK} (I : L2.Inv X pins σ H s) (sm : Sim g m H h env σ) (w : Want g (WE' W σ) m H (RM g) (bindO (evEs P C es' env h) fun xs h1 => bindO (evEs P C zs' env h1) fun ys h2 => C q (xs ++ ys) h2) Q) :
    wpAny (model X.prog X.w) X.A (callWith pos (.ref a) [] (backTo pos (starEach (e :: es) X.env)) (backToKw pos (keywordEach ws X.env))) (EP X pins σ Q) X.xe s := by
  obtain ⟨a', hm', kp, rule⟩ := o.callk hk q f ks hf
  rw [hm] at hm'
  cases hm'
  obtain ⟨k1, k2, k3, k4⟩ := kw_some (pos := pos) (env := X.env) hn
  have q0 : RA g W P C es' σ H fun vs H1 => RA g W P C zs' σ H1 fun zs H2 => ∃ m1 xs ys h1, HRel g m1 h1 H2 ∧ RMs g m1 H2 xs vs ∧ RMs g m1 H2 ys zs ∧ ys.length = ks.length ∧ Want g (WE' W σ) m1 H2 (RM g) (C q (xs ++ ys) h1) Q := by
    refine ⟨m, env, h, sm, (Want.bind w).mono ?_⟩
    rintro vs H1 ⟨m1, xs, h1, st1, r1, -, w1⟩
    refine ⟨m1, env, h1, sm.step st1, (Want.bind w1).mono ?_⟩
    rintro zs H2 ⟨m2, ys, h2, st2, r2, e3, w3⟩
    exact ⟨m2, xs, ys, h2, st2.rel, RMs.step r1 st2, r2, by rw [evEs_len e3, ← hl, k4], w3⟩
  rw [List.all_cons, Bool.and_eq_true] at hns
  refine PySem.W.callWith_KW (h₀ := X.base) I.ok.mod.kin kp k1 (thn (ha.run pos pins s σ H _ I q0) fun us s1 ⟨vs, H1, I1, r, q1⟩ => ?_) (by rw [star_any (show (e :: es).all notStar = true by rw [List.all_cons, hns.1, hns.2]; rfl), k3]; rfl) (star_cons hns.1)
  refine thn (hz.run pos pins s1 σ H1 _ I1 q1) fun ws' s2 ⟨zs, H2, I2, rz, m1, xs, ys, h1, rel, r1, r2, ly, w2⟩ => ⟨I2.kIn, ?_⟩
  rw [k2]
  exact rule pins s2 σ H2 m1 h1 xs ys vs zs us ws' Q I2 rel r1 r r2 rz ly w2
theorem s_callk {f : Str} {e : Expr} {es : List Expr} {ws : List Keyword} {ks : List Str} {es' zs' : List E} (o : Okx X g W P C N sc k) (hk : k = true) (hg : trGlo sc f = true) (hn : kwNs ws = some ks) (hl : ws.length = zs'.length) (hns : (e :: es).all notStar = true) (ha : PA X (e :: es) (RA g W P C es')) (hz : PK X ws (RA g W P C zs')) : PE X (.Call (.Name f p) (e :: es) ws pos) (RE g W P C (.callk f es' ks zs')) := by
  refine ⟨fun pins s σ H Q I ⟨m, env, h, sm, w⟩ => ?_⟩
  simp only [evE] at w
  by_cases hf : P.kw (kwN f ks) = some (f, ks)
  · rw [if_pos hf] at w
    obtain ⟨a, hm, kp, rule⟩ := o.callk hk _ f ks hf
    obtain ⟨hg1, hd⟩ := trGlo_ok o hg
    exact wpAny_Call_Name_kw (ld_glob I hg1 hm (run_kw o hk hn hl hns ha hz hf hm I sm w) hd)
  · rw [if_neg hf] at w
    exact no_want w
theorem s_calk {x : Str} {i : Nat} {e : Expr} {es : List Expr} {ws : List Keyword} {ks : List Str} {es' zs' : List E} (o : Okx X g W P C N sc k) (hk : k = true) (hx : trVar N sc x = some i) (hn : kwNs ws = some ks) (hl : ws.length = zs'.length) (hns : (e :: es).all notStar = true) (ha : PA X (e :: es) (RA g W P C es')) (hz : PK X ws (RA g W P C zs')) : PE X (.Call (.Name x p) (e :: es) ws pos) (RE g W P C (.calk i es' ks zs')) := by
  obtain ⟨h1, h2, h3, h4⟩ := trVar_ok hx
  refine ⟨fun pins s σ H Q I ⟨m, env, h, sm, w⟩ => ?_⟩
  simp only [evE] at w
  split at w
  · rename_i f ef
    by_cases hf : P.kw (kwN f ks) = some (f, ks)
    · rw [if_pos hf] at w
      obtain ⟨a, hm, kp, rule⟩ := o.callk hk _ f ks hf
      obtain ⟨xv, e1, r⟩ := sm.er.val i _ ef
      simp only [RM] at r
      obtain ⟨a', ea, rfl⟩ := r
      rw [o.mg, hm] at ea
      cases ea
      refine wpAny_Call_Name_kw (thn ((pe_var (pos := p) (by rw [o.N]; exact h1) (by rw [o.sc]; exact h2) h3 h4).run pins s σ H (fun v H1 => v = .ref a ∧ H1 = H) I ⟨.ref a, e1, rfl, rfl⟩) fun u s1 ⟨v, H1, I1, r1, q1⟩ => ?_)
      obtain ⟨rfl, rfl⟩ := q1
      cases r1
      exact run_kw o hk hn hl hns ha hz hf hm I1 sm w
    · rw [if_neg hf] at w
      exact no_want w
  · exact no_want w
/-! ### built-in functions -/
def RBi (g : G) (b : Bi) : List V → Hp → VK → Prop := fun xs H Q => ∃ m h vs, HRel g m h H ∧ RMs g m H vs xs ∧ ∃ z, biM h b vs = some z ∧ ∀ w, RM g m H z w → Q w H
theorem RMs.one {xs : List V} {x : M} (r : RMs g m H [x] xs) : ∃ v, xs = [v] ∧ RM g m H x v := by
  simp only [RMs] at r
  obtain ⟨v, q, rfl, r1, rfl⟩ := r
  exact ⟨v, rfl, r1⟩
theorem RMs.two {xs : List V} {x y : M} (r : RMs g m H [x, y] xs) : ∃ v w, xs = [v, w] ∧ RM g m H x v ∧ RM g m H y w := by
  simp only [RMs] at r
  obtain ⟨v, q, rfl, r1, w, q2, rfl, r2, rfl⟩ := r
  exact ⟨v, w, rfl, r1, r2⟩
theorem bi_abs : CallR X (.builtin "abs") (RBi g .abs) := by
  intro pins s σ H xs us Q I rv hq
  obtain ⟨m, h, vs, rel, r, z, e, q⟩ := hq
  simp only [biM] at e
  unfold absM at e
  split at e
  · cases e
    obtain ⟨v, rfl, r1⟩ := r.one
    simp only [RM] at r1
    subst r1
    exact call_abs pins s σ H _ us Q I rv ⟨_, rfl, q _ (by simp only [RM])⟩
  · cases e
theorem bi_int : CallR X (.type "int") (RBi g .int) := by
  intro pins s σ H xs us Q I rv hq
  obtain ⟨m, h, vs, rel, r, z, e, q⟩ := hq
  simp only [biM] at e
  unfold intM at e
  split at e
  · cases e
    obtain ⟨v, rfl, r1⟩ := r.one
    simp only [RM] at r1
    subst r1
    exact call_int1 pins s σ H _ us Q I rv (.inl ⟨_, rfl, q _ (by simp only [RM])⟩)
  · cases e
    obtain ⟨v, rfl, r1⟩ := r.one
    simp only [RM] at r1
    subst r1
    exact call_int1 pins s σ H _ us Q I rv (.inr ⟨_, rfl, q _ (by simp only [RM])⟩)
  · split at e
    · rename_i hz
      obtain ⟨n, en, rfl⟩ := Option.map_eq_some_iff.mp e
      obtain ⟨v, rfl, r1⟩ := r.one
      simp only [RM] at r1
      subst r1
      exact call_int_str pins s σ H _ us Q I rv ⟨_, n, rfl, en, hz, q _ (by simp only [RM])⟩
    · cases e
  · cases e
theorem bi_str : CallR X (.type "str") (RBi g .str) := by
  intro pins s σ H xs us Q I rv hq
  obtain ⟨m, h, vs, rel, r, z, e, q⟩ := hq
  simp only [biM] at e
  unfold strM at e
  split at e
  · split at e
    · rename_i c
      cases e
      obtain ⟨v, rfl, r1⟩ := r.one
      simp only [RM] at r1
      subst r1
      exact call_str_int pins s σ H _ us Q I rv ⟨_, rfl, c, q _ (by simp only [RM])⟩
    · cases e
  · cases e
theorem bi_min (hc : X.calm = true) : CallR X (.builtin "min") (RBi g .min2) := by
  intro pins s σ H xs us Q I rv hq
  obtain ⟨m, h, vs, rel, r, z, e, q⟩ := hq
  simp only [biM] at e
  unfold min2M at e
  split at e
  · cases e
    obtain ⟨v, w, rfl, r1, r2⟩ := r.two
    simp only [RM] at r1 r2
    subst r1 r2
    exact call_min2 hc pins s σ H _ us Q I rv ⟨_, _, rfl, q _ (by simp only [RM])⟩
  · cases e
theorem intsM_rm {g : G} {m : List Addr} {H : Hp} : ∀ {xs : List M} {ns : List Int} {vs : List V}, intsM xs = some ns → RMs g m H xs vs → vs = ns.map V.int
  | [], ns, vs, e, r => by
    cases e
    simpa [RMs] using r
  | x :: xs, ns, vs, e, r => by
    cases x with
    | int i =>
      obtain ⟨t, e1, rfl⟩ := Option.map_eq_some_iff.mp (show (intsM xs).map (i :: ·) = some ns from e)
      simp only [RMs, RM] at r
      obtain ⟨v, r', rfl, rfl, r2⟩ := r
      rw [intsM_rm e1 r2]
      rfl
    | _ => cases e
theorem lstI_ok {g : G} {m : List Addr} {H : Hp} {h : Hm} {a : Nat} {ns : List Int} {v : V} (rel : HRel g m h H) (e : lstI h a = some ns) (r : RM g m H (.ref a) v) : ∃ p, v = .ref p ∧ H p = some (.lst (ns.map V.int)) := by
  unfold lstI at e
  split at e
  · rename_i xs hx
    obtain ⟨p, vs, rfl, _, sq, r⟩ := lst_at rel hx r
    have := intsM_rm e r
    subst this
    exact ⟨p, rfl, sq⟩
  · cases e
theorem maxI_ok : ∀ (ns : List Int) (n : Int), maxI n ns ∈ n :: ns ∧ ∀ y ∈ n :: ns, y ≤ maxI n ns
  | [], n => by simp [maxI]
  | x :: xs, n => by
    obtain ⟨b1, b2⟩ := maxI_ok xs (if x > n then x else n)
    unfold maxI
    refine ⟨?_, fun y hy => ?_⟩
    · rcases List.mem_cons.mp b1 with e | e
      · rw [e]; split <;> simp
      · simp [e]
    · have key := b2 (if x > n then x else n) (by simp)
      have l1 : n ≤ (if x > n then x else n) := by split <;> omega
      have l2 : x ≤ (if x > n then x else n) := by split <;> omega
      simp only [List.mem_cons] at hy
      rcases hy with rfl | rfl | hy
      · exact Int.le_trans l1 key
      · exact Int.le_trans l2 key
      · exact b2 y (by simp [hy])
theorem bi_max (hc : X.calm = true) : CallR X (.builtin "max") (RBi g .max2) := by
  intro pins s σ H xs us Q I rv hq
  obtain ⟨m, h, vs, rel, r, z, e, q⟩ := hq
  simp only [biM] at e
  unfold max2M at e
  split at e
  · cases e
    obtain ⟨v, w, rfl, r1, r2⟩ := r.two
    simp only [RM] at r1 r2
    subst r1 r2
    exact call_max2 hc pins s σ H _ us Q I rv ⟨_, _, rfl, q _ (by simp only [RM])⟩
  · rename_i a
    split at e
    · rename_i n ns e1
      cases e
      obtain ⟨v, rfl, r1⟩ := r.one
      obtain ⟨p, rfl, sq⟩ := lstI_ok rel e1 r1
      refine cr_max hc pins s σ H _ us Q I rv ⟨p, n :: ns, rfl, SqL.of sq, by simp, fun m h1 h2 => ?_⟩
      obtain ⟨b1, b2⟩ := maxI_ok ns n
      have : m = maxI n ns := Int.le_antisymm (b2 m h1) (h2 _ b1)
      rw [this]
      exact q _ (by simp only [RM])
    · cases e
  · cases e
theorem bi_sum (hc : X.calm = true) : CallR X (.builtin "sum") (RBi g .sum) := by
  intro pins s σ H xs us Q I rv hq
  obtain ⟨m, h, vs, rel, r, z, e, q⟩ := hq
  simp only [biM] at e
  unfold sumM at e
  split at e
  · rename_i a
    obtain ⟨ns, e1, rfl⟩ := Option.map_eq_some_iff.mp e
    obtain ⟨v, rfl, r1⟩ := r.one
    obtain ⟨p, rfl, sq⟩ := lstI_ok rel e1 r1
    exact cr_sum hc pins s σ H _ us Q I rv ⟨p, ns, rfl, SqL.of sq, q _ (by simp only [RM])⟩
  · cases e
theorem bi_len (hK : g.K = X.K) : CallR X (.builtin "len") (RBi g .len) := by
  intro pins s σ H xs us Q I rv hq
  obtain ⟨m, h, vs, rel, r, z, e, q⟩ := hq
  simp only [biM] at e
  unfold lenM at e
  split at e
  · rename_i x
    obtain ⟨v, rfl, r1⟩ := r.one
    by_cases hdc : ∃ i kvs, x = .ref i ∧ h[i]? = some (.dic kvs)
    · obtain ⟨i, kvs, rfl, hi⟩ := hdc
      simp only [lenD, hi] at e
      split at e
      · cases e
        simp only [RM] at r1
        obtain ⟨a, e1, rfl⟩ := r1
        obtain ⟨a', e2, ws, e3, r3⟩ := rel.obj i _ hi
        rw [e1] at e2
        cases e2
        obtain ⟨u1, rfl, ru⟩ : ∃ u1, us = [u1] ∧ RelV (.ref a) u1 := by
          cases rv with
          | cons h1 h2 => cases h2; exact ⟨_, rfl, h1⟩
        cases ru
        refine d_len I (.inl e3) fun t s' I' => ⟨.int ws.length, H, I', ⟨t, rfl⟩, q _ ?_⟩
        simp only [RM]
        rw [RKs.length r3]
      · cases e
    refine call_len pins s σ H _ us Q I rv ?_
    cases x with
    | str i =>
      simp only [lenD] at e
      split at e
      · rename_i c
        cases e
        simp only [RM] at r1
        subst r1
        exact ⟨_, _, rfl, ⟨c, rfl⟩, q _ (by simp only [RM])⟩
      · cases e
    | tup ys =>
      cases e
      simp only [RM] at r1
      obtain ⟨a, ws, rfl, sq, r⟩ := r1
      rw [hK] at sq
      exact ⟨_, ws.length, rfl, .inr ⟨ws, sq, rfl⟩, q _ (by simp only [RM]; rw [r.length])⟩
    | rol ys =>
      cases e
      simp only [RM] at r1
      obtain ⟨a, ws, rfl, sq, r⟩ := r1
      rw [hK] at sq
      exact ⟨_, ws.length, rfl, .inl ⟨ws, roL_sq sq, rfl⟩, q _ (by simp only [RM]; rw [r.length])⟩
    | ref i =>
      simp only [lenD] at e
      split at e
      · rename_i ys hy
        cases e
        obtain ⟨a, ws, rfl, _, sq, r⟩ := lst_at rel hy r1
        exact ⟨_, ws.length, rfl, .inl ⟨ws, SqL.of sq, rfl⟩, q _ (by simp only [RM]; rw [r.length])⟩
      · rename_i kvs hy
        exact absurd ⟨i, kvs, rfl, hy⟩ hdc
      · cases e
    | _ => cases e
  · cases e
/-- len of an instance -/
def RLen (g : G) (P : Tx) (C : Cal) : List V → Hp → VK → Prop := fun xs H Q => RBi g .len xs H Q ∨ ∃ m h x v q, xs = [v] ∧ HRel g m h H ∧ RM g m H x v ∧ lenI P h .len [x] = some q ∧ Want g (fun _ _ _ => False) m H (RM g) (lenO (C q [x] h)) Q
theorem bi_lenI (o : Okx X g W P C N sc true) : CallR X (.builtin "len") (RLen g P C) := by
  intro pins s σ H xs us Q I rv hq
  rcases hq with hq | ⟨m, h, x, v, q, rfl, rel, r, el, wn⟩
  · exact bi_len o.K pins s σ H xs us Q I rv hq
  · simp only [lenI] at el
    split at el
    · rename_i c fs hi
      obtain ⟨i, a, D, dx, ws, rfl, rfl, e1, e2, e3, e4, e5, e6, e7⟩ := insM_at rel hi r
      obtain ⟨D', f, d1, cl, mt, rule⟩ := o.meth rfl c "__len__" [] q el
      rw [← o.mg, e3] at d1
      cases d1
      obtain ⟨u1, rfl, ru⟩ : ∃ u1, us = [u1] ∧ RelV (.ref a) u1 := by
        cases rv with
        | cons h1 h2 => cases h2; exact ⟨_, rfl, h1⟩
      cases ru
      obtain ⟨mA, O, _⟩ := ins_get I.hok e4
      obtain ⟨od, J, _⟩ := O.look
      refine len_inst I.kIn J mt.at_ mt.fn ?_
      have w2 : Want g (WE' W σ) m H (RM g) (C q ([.ref i] ++ []) h) (fun v H1 => ∃ n : Int, v = .int n ∧ 0 ≤ n ∧ n < 2 ^ 62 ∧ Q (.int n) H1) := by
        rw [List.append_nil]
        unfold lenO at wn
        split at wn
        · rename_i n h1 hC
          split at wn
          · rename_i hn
            refine ⟨_, hC, fun m' H' b st rb => ?_⟩
            simp only [RM] at rb
            subst rb
            obtain ⟨_, ez, wn⟩ := wn
            cases ez
            exact ⟨n, rfl, hn.1, hn.2, wn m' H' _ st (by simp only [RM])⟩
          · exact no_want wn
        · exact no_want wn
      refine wpAny_mono (rule X.A.in1 pins s σ H m h [.ref i] [] [.ref a] [] [.ref a] [] _ (.inr rfl) I rel (by simp only [RMs]; exact ⟨_, _, rfl, r, rfl⟩) (.cons rfl .nil) (by simp [RMs]) .nil rfl w2) (fun u s' hz => ?_) fun _ _ z => z
      obtain ⟨v, H1, I1, rv1, n, rfl, n0, n1, hq⟩ := hz
      obtain ⟨t, rfl⟩ := rv1
      exact ⟨n, t, rfl, n0, by omega, .int n, H1, I1.tok _, ⟨_, rfl⟩, hq⟩
    · cases el
theorem bi_repr (hK : g.K = X.K) (hY : ∃ o, X.base.get? sysModules = some o) (hu : X.A.units + 250 < cLine) (hg : X.A.guards = some []) : CallR X (.builtin "repr") (RBi g .repr) := by
  intro pins s σ H xs us Q I rv hq
  obtain ⟨m, h, vs, rel, r, z, e, q⟩ := hq
  have hs : H sysModules = none := let ⟨o, ho⟩ := hY; (I.bs _ o ho).2
  simp only [biM] at e
  unfold reprM at e
  split at e
  · rename_i x
    obtain ⟨v, rfl, r1⟩ := r.one
    obtain ⟨u, rfl, rx⟩ := vals1 rv
    unfold reprD at e
    split at e
    · rename_i d ed
      split at e
      · rename_i c
        cases e
        obtain ⟨as, rd, ns⟩ := dat_reads hK I rel hs deepR x v u d ed r1 rx
        have dd := dat_depth deepR x d ed
        have hdp : deepR = 120 := rfl
        have fin : ∀ (h' : Heap) (t : Tok) (tk : Nat), (∀ b o, s.heap.get? b = some o → h'.get? b = some o) → EP X pins σ Q (.str d.shown t) { s with heap := h', toks := tk } := fun h' t tk kp =>
          ⟨.str d.shown, H, I.kept kp, ⟨t, rfl⟩, q _ (by simp only [RM])⟩
        cases rd with
        | none => exact PySem.P.repr_of_none (fin s.heap _ _ fun _ _ e => e)
        | bool b => exact PySem.P.repr_of_bool (fin s.heap _ _ fun _ _ e => e)
        | int i t => exact PySem.P.repr_of_int (of_decide_eq_true c.1) (fin s.heap _ _ fun _ _ e => e)
        | str i t => exact PySem.P.repr_of_str (fin s.heap _ _ fun _ _ e => e) c.2
        | list a1 a2 a3 a4 => exact repr_of_reads' (Reads.list a1 a2 a3 a4) c.1 (fun _ => ns) hg (by omega) (fun _ _ e => e) (fun h' t tk kp => fin h' t tk kp) c.2
        | tuple a1 a2 a3 a4 => exact repr_of_reads' (Reads.tuple a1 a2 a3 a4) c.1 (fun _ => ns) hg (by omega) (fun _ _ e => e) (fun h' t tk kp => fin h' t tk kp) c.2
        | dict a1 a2 a3 a4 a5 => exact repr_of_reads' (Reads.dict a1 a2 a3 a4 a5) c.1 (fun _ => ns) hg (by omega) (fun _ _ e => e) (fun h' t tk kp => fin h' t tk kp) c.2
      · cases e
    · cases e
  · cases e

/-- which built-in a name means -/
theorem trBi_cases {f : Str} {b : Bi} (h : trBi f = some b) : (f = "abs" ∧ b = .abs) ∨ (f = "int" ∧ b = .int) ∨ (f = "repr" ∧ b = .repr) ∨ (f = "str" ∧ b = .str) ∨ (f = "min" ∧ b = .min2) ∨ (f = "max" ∧ b = .max2) ∨ (f = "len" ∧ b = .len) ∨ (f = "sum" ∧ b = .sum) := by
  unfold trBi at h
  split at h
  · rename_i c; cases h; exact .inl ⟨c, rfl⟩
  split at h
  · rename_i c; cases h; exact .inr (.inl ⟨c, rfl⟩)
  split at h
  · rename_i c; cases h; exact .inr (.inr (.inl ⟨c, rfl⟩))
  split at h
  · rename_i c; cases h; exact .inr (.inr (.inr (.inl ⟨c, rfl⟩)))
  split at h
  · rename_i c; cases h; exact .inr (.inr (.inr (.inr (.inl ⟨c, rfl⟩))))
  split at h
  · rename_i c; cases h; exact .inr (.inr (.inr (.inr (.inr (.inl ⟨c, rfl⟩)))))
  split at h
  · rename_i c; cases h; exact .inr (.inr (.inr (.inr (.inr (.inr (.inl ⟨c, rfl⟩))))))
  split at h
  · rename_i c; cases h; exact .inr (.inr (.inr (.inr (.inr (.inr (.inr ⟨c, rfl⟩))))))
  · cases h
theorem bi_read {b : Bi} {es' : List E} {σ : St} {env : Ev} (hb : b ≠ .len) (sm : Sim g m H h env σ) (w : Want g (WE' W σ) m H (RM g) (evE P C (.bi b es') env h) Q) : RA g W P C es' σ H fun vs H1 => RBi g b vs H1 Q := by
  simp only [evE] at w
  refine ⟨m, env, h, sm, (Want.bind w).mono ?_⟩
  rintro xs H1 ⟨m1, v1, h1, st1, r1, -, w1⟩
  have hln : lenI P h1 b v1 = none := by cases b <;> first | rfl | exact absurd rfl hb
  rw [hln] at w1
  cases e : biM h1 b v1 with
  | none => rw [e] at w1; exact no_want w1
  | some z =>
    rw [e] at w1
    exact ⟨m1, h1, v1, st1.rel, r1, z, e, fun w' r => w1.here st1.rel r⟩
theorem bi_readL {es' : List E} {σ : St} {env : Ev} (sm : Sim g m H h env σ) (w : Want g (WE' W σ) m H (RM g) (evE P C (.bi .len es') env h) Q) : RA g W P C es' σ H fun vs H1 => RLen g P C vs H1 Q := by
  simp only [evE] at w
  refine ⟨m, env, h, sm, (Want.bind w).mono ?_⟩
  rintro xs H1 ⟨m1, v1, h1, st1, r1, -, w1⟩
  cases e : biM h1 .len v1 with
  | some z =>
    rw [e] at w1
    exact .inl ⟨m1, h1, v1, st1.rel, r1, z, e, fun w' r => w1.here st1.rel r⟩
  | none =>
    rw [e, okw_none] at w1
    split at w1
    · rename_i q hq
      cases v1 with
      | nil => simp [lenI] at hq
      | cons x t =>
      cases t with
      | cons _ _ => simp [lenI] at hq
      | nil =>
        obtain ⟨v, rfl, rx⟩ := r1.one
        refine .inr ⟨m1, h1, x, v, q, rfl, st1.rel, rx, hq, ?_⟩
        unfold lenO at w1 ⊢
        split at w1
        · rename_i n h2 hC
          split at w1
          · rename_i hn
            rw [if_pos hn]
            obtain ⟨_, ez, w1⟩ := w1
            cases ez
            exact ⟨_, rfl, w1⟩
          · exact no_want w1
        · exact no_want w1
    · exact no_want w1
theorem s_bi {f : Str} {b : Bi} {e : Expr} {es : List Expr} {es' : List E} (o : Okx X g W P C N sc true) (hg : trGlo sc f = true) (hb : trBi f = some b) (hns : (e :: es).all notStar = true) (ha : PA X (e :: es) (RA g W P C es')) : PE X (.Call (.Name f p) (e :: es) [] pos) (RE g W P C (.bi b es')) := by
  obtain ⟨hg1, hd⟩ := trGlo_ok o hg
  rw [List.all_cons, Bool.and_eq_true] at hns
  have fr := fun hm => o.free f hm
  rcases trBi_cases hb with ⟨rfl, rfl⟩ | ⟨rfl, rfl⟩ | ⟨rfl, rfl⟩ | ⟨rfl, rfl⟩ | ⟨rfl, rfl⟩ | ⟨rfl, rfl⟩ | ⟨rfl, rfl⟩ | ⟨rfl, rfl⟩
  · exact peI (pe_callB bi_abs hg1 (fr (by simp)) (by decide +kernel) ha (by decide) hd (star_cons hns.1) (star_any hns.2)) fun σ H Q ⟨m, env, h, sm, w⟩ => bi_read (by decide) sm w
  · exact peI (pe_callTy bi_int hg1 (fr (by simp)) (by decide +kernel) ha (by decide) hd (star_cons hns.1) (star_any hns.2)) fun σ H Q ⟨m, env, h, sm, w⟩ => bi_read (by decide) sm w
  · exact peI (pe_callB (bi_repr o.K o.sys o.units o.guards) hg1 (fr (by simp)) (by decide +kernel) ha (by decide) hd (star_cons hns.1) (star_any hns.2)) fun σ H Q ⟨m, env, h, sm, w⟩ => bi_read (by decide) sm w
  · exact peI (pe_callTy bi_str hg1 (fr (by simp)) (by decide +kernel) ha (by decide) hd (star_cons hns.1) (star_any hns.2)) fun σ H Q ⟨m, env, h, sm, w⟩ => bi_read (by decide) sm w
  · exact peI (pe_callB (bi_min (o.calm rfl)) hg1 (fr (by simp)) (by decide +kernel) ha (by decide) hd (star_cons hns.1) (star_any hns.2)) fun σ H Q ⟨m, env, h, sm, w⟩ => bi_read (by decide) sm w
  · exact peI (pe_callB (bi_max (o.calm rfl)) hg1 (fr (by simp)) (by decide +kernel) ha (by decide) hd (star_cons hns.1) (star_any hns.2)) fun σ H Q ⟨m, env, h, sm, w⟩ => bi_read (by decide) sm w
  · exact peI (pe_callB (bi_lenI o) hg1 (fr (by simp)) (by decide +kernel) ha (by decide) hd (star_cons hns.1) (star_any hns.2)) fun σ H Q ⟨m, env, h, sm, w⟩ => bi_readL sm w
  · exact peI (pe_callB (bi_sum (o.calm rfl)) hg1 (fr (by simp)) (by decide +kernel) ha (by decide) hd (star_cons hns.1) (star_any hns.2)) fun σ H Q ⟨m, env, h, sm, w⟩ => bi_read (by decide) sm w
/-- repr within an except suite -/
theorem s_repr {e : Expr} {es : List Expr} {es' : List E} (o : Okx X g W P C N sc k) (hg : trGlo sc "repr" = true) (hns : (e :: es).all notStar = true) (ha : PA X (e :: es) (RA g W P C es')) : PE X (.Call (.Name "repr" p) (e :: es) [] pos) (RE g W P C (.bi .repr es')) := by
  obtain ⟨hg1, hd⟩ := trGlo_ok o hg
  rw [List.all_cons, Bool.and_eq_true] at hns
  exact peI (pe_callB (bi_repr o.K o.sys o.units o.guards) hg1 (o.free "repr" (by simp)) (by decide +kernel) ha (by decide) hd (star_cons hns.1) (star_any hns.2)) fun σ H Q ⟨m, env, h, sm, w⟩ => bi_read (by decide) sm w
/-! ### isinstance -/
def Ty.nm : Ty → String
  | .none => "NoneType"
  | .bool => "bool"
  | .int => "int"
  | .str => "str"
  | .tuple => "tuple"
  | .list => "list"
  | .dict => "dict"
theorem kit_all : ∀ a b : Ty, b ≠ .none → kitB a.nm b.nm = some (tyIs a b) := by
  intro a b hb
  cases b <;> first | exact absurd rfl hb | (cases a <;> decide +kernel)
theorem trTy_ok {c : Str} {t : Ty} (h : trTy c = some t) : c = (t.nm : Str) ∧ t ≠ .none ∧ bootBuiltins c = some (.type t.nm) ∧ c ∈ (["abs", "int", "repr", "str", "min", "max", "len", "isinstance", "list", "all", "range", "bool", "tuple", "dict", "zip", "enumerate", "sorted", "set", "sum", "any"] : List Str) ∧ c ≠ "__name__" := by
  unfold trTy at h
  split at h
  · rename_i q; cases h; subst q; exact ⟨rfl, by decide, by decide +kernel, by simp, by decide⟩
  split at h
  · rename_i q; cases h; subst q; exact ⟨rfl, by decide, by decide +kernel, by simp, by decide⟩
  split at h
  · rename_i q; cases h; subst q; exact ⟨rfl, by decide, by decide +kernel, by simp, by decide⟩
  split at h
  · rename_i q; cases h; subst q; exact ⟨rfl, by decide, by decide +kernel, by simp, by decide⟩
  split at h
  · rename_i q; cases h; subst q; exact ⟨rfl, by decide, by decide +kernel, by simp, by decide⟩
  split at h
  · rename_i q; cases h; subst q; exact ⟨rfl, by decide, by decide +kernel, by simp, by decide⟩
  · cases h
theorem tyM_ok {x : M} {v : V} {t : Ty} (hK : g.K = X.K) (rel : HRel g m h H) (e : tyM h x = some t) (r : RM g m H x v) : TyX X.K H v (.type t.nm) := by
  cases x with
  | non => cases e; simp only [RM] at r; subst r; exact .base .non
  | bl b => cases e; simp only [RM] at r; subst r; exact .base (.bl b)
  | int b => cases e; simp only [RM] at r; subst r; exact .base (.int b)
  | str b => cases e; simp only [RM] at r; subst r; exact .base (.str b)
  | tup xs =>
    cases e
    simp only [RM] at r
    obtain ⟨a, vs, rfl, sq, _⟩ := r
    rw [hK] at sq
    rcases sq with (sq | ⟨o, sq⟩) | ⟨o, its, n, sq, c, _⟩
    · exact .base (.tup sq)
    · exact .fTuple sq
    · exact .kTuple sq c
  | ref i =>
    simp only [tyM] at e
    split at e
    · rename_i ys hy
      cases e
      obtain ⟨a, vs, rfl, _, sq, _⟩ := lst_at rel hy r
      exact .base (.lst sq)
    · rename_i ys hy
      cases e
      simp only [RM] at r
      obtain ⟨a, e1, rfl⟩ := r
      obtain ⟨a', e2, ws, e3, _⟩ := rel.obj i _ hy
      rw [e1] at e2
      cases e2
      exact .base (.dK e3)
    · cases e
  | _ => cases e
theorem s_isi {a : Expr} {a' : E} {c : Str} {t : Ty} {q : Pos} (o : Okx X g W P C N sc k) (hg : trGlo sc "isinstance" = true) (hc : trGlo sc c = true) (ht : trTy c = some t) (hn : notStar a = true) (ha : PE X a (RE g W P C a')) : PE X (.Call (.Name "isinstance" p) [a, .Name c q] [] pos) (RE g W P C (.isi a' t)) := by
  obtain ⟨hg1, hd⟩ := trGlo_ok o hg
  obtain ⟨hc1, hcd⟩ := trGlo_ok o hc
  obtain ⟨t1, t2, t3, t4, t5⟩ := trTy_ok ht
  refine peI (pe_callB call_isi hg1 (o.free "isinstance" (by simp)) (by decide +kernel) (pa_cons ha (pa_cons (pe_bltn hc1 (o.free c t4) t3 (v := .ty t.nm) rfl t5 hcd) pa_nil) (star_cons hn)) (by decide) hd (star_cons hn) rfl) fun σ H Q ⟨m, env, h, sm, w⟩ => ?_
  simp only [evE] at w
  refine ⟨m, env, h, sm, (Want.bind w).mono ?_⟩
  rintro x H1 ⟨m1, v1, h1, st1, r1, -, w1⟩
  cases e : tyM h1 v1 with
  | none => simp only [e] at w1; exact no_want w1
  | some t' =>
    simp only [e] at w1
    exact ⟨x, .ty t.nm, .type t'.nm, .type t.nm, tyIs t' t, rfl, .ty _, tyM_ok o.K st1.rel e r1, kit_ty (kit_all t' t t2), w1.here st1.rel (by simp only [RM])⟩
/-! ### list(x), all([..]) -/
theorem s_of {a : Expr} {a' : E} (o : Okx X g W P C N sc k) (hg : trGlo sc "list" = true) (hn : notStar a = true) (ha : PE X a (RE g W P C a')) : PE X (.Call (.Name "list" p) [a] [] pos) (RL g W P C (.of a')) := by
  obtain ⟨hg1, hd⟩ := trGlo_ok o hg
  refine peI (pe_callTy call_list_of hg1 (o.free "list" (by simp)) (by decide +kernel) (pa_cons ha pa_nil (star_cons hn)) (by decide) hd (star_cons hn) rfl) fun σ H Q ⟨m, env, h, sm, w⟩ => ?_
  simp only [evL] at w
  refine ⟨m, env, h, sm, (Want.bindB w).mono ?_⟩
  rintro x H1 ⟨m1, v1, h1, st1, r1, -, w1⟩
  obtain ⟨xs, e, w1⟩ := w1.okv
  obtain ⟨b, vs, rfl, sq, r⟩ := items_ok st1.rel e r1
  rw [o.K] at sq
  refine ⟨b, vs, rfl, sq, fun q hq => ?_⟩
  have st := st1.rel.laid (ob := .lst vs) hq
  obtain ⟨_, e, w1⟩ := w1
  cases e
  exact w1 m1 _ _ (st1.trans st) ⟨q, vs, rfl, st1.fresh hq, st1.rel.notIn hq, upd_same, r.car st.car⟩
/-- tuple(a) -/
theorem s_tupo {a : Expr} {a' : E} (o : Okx X g W P C N sc k) (hg : trGlo sc "tuple" = true) (hn : notStar a = true) (ha : PE X a (RE g W P C a')) : PE X (.Call (.Name "tuple" p) [a] [] pos) (RE g W P C (.tupo a')) := by
  obtain ⟨hg1, hd⟩ := trGlo_ok o hg
  refine peI (pe_callTy call_tuple_of hg1 (o.free "tuple" (by simp)) (by decide +kernel) (pa_cons ha pa_nil (star_cons hn)) (by decide) hd (star_cons hn) rfl) fun σ H Q ⟨m, env, h, sm, w⟩ => ?_
  simp only [evE] at w
  refine ⟨m, env, h, sm, (Want.bind w).mono ?_⟩
  rintro x H1 ⟨m1, v1, h1, st1, r1, -, w1⟩
  obtain ⟨z, e, w1⟩ := w1.okv
  obtain ⟨xs, e1, rfl⟩ := Option.map_eq_some_iff.mp e
  obtain ⟨b, vs, rfl, sq, r⟩ := items_ok st1.rel e1 r1
  refine ⟨b, vs, rfl, ?_⟩
  rcases sq with sq | sq
  · refine .inl ⟨by rw [← o.K]; exact sq, fun l hl => ?_⟩
    have st := st1.rel.laid (ob := .tup vs) hl
    obtain ⟨_, e, w1⟩ := w1
    cases e
    exact w1 m1 _ _ st (by simp only [RM]; exact ⟨l, vs, rfl, SqT.of upd_same, r.car st.car⟩)
  · exact .inr ⟨by rw [← o.K]; exact sq, w1.here st1.rel (by simp only [RM]; exact ⟨b, vs, rfl, sq, r⟩)⟩
theorem pairs_rel : ∀ {xs : List M} {kvs : List (L2.Key × M)} {vs : List V}, pairsM xs = some kvs → RMs g m H xs vs → ∃ (ps : List Addr) (ws : List (L2.Key × V)), vs = ps.map V.ref ∧ Paired (fun p kv => SqT g.K H p [kV kv.1, kv.2]) ps ws ∧ RKs g m H kvs ws
  | [], kvs, vs, e, r => by
    cases e
    simp only [RMs] at r
    subst r
    exact ⟨[], [], rfl, .nil, by simp [RKs]⟩
  | x :: xs, kvs, vs, e, r => by
    simp only [pairsM] at e
    split at e
    · rename_i p ps e1 e2
      cases e
      simp only [RMs] at r
      obtain ⟨v, t, rfl, r1, r2⟩ := r
      obtain ⟨as, ws, rfl, pr, rk⟩ := pairs_rel e2 r2
      cases x with
      | tup ys =>
        match ys, e1 with
        | [k, z], e1 =>
          obtain ⟨q, hq, rfl⟩ := Option.map_eq_some_iff.mp (show (keyM k).map (fun q => (q, z)) = some p from e1)
          simp only [RM] at r1
          obtain ⟨a, us, rfl, sq, ru⟩ := r1
          obtain ⟨u1, u2, rfl, q1, q2⟩ := RMs.two ru
          have := keyM_rel hq q1
          subst this
          exact ⟨a :: as, (q, u2) :: ws, rfl, .cons sq pr, by simp only [RKs]; exact ⟨u2, ws, rfl, q2, rk⟩⟩
      | _ => cases e1
    · cases e
theorem mergeD_rel : ∀ {more : List (L2.Key × M)} {mw : List (L2.Key × V)} {kvs : List (L2.Key × M)} {ws : List (L2.Key × V)}, RKs g m H kvs ws → RKs g m H more mw → RKs g m H (mergeD kvs more) (mergeK ws mw)
  | [], mw, kvs, ws, r, rm => by
    simp only [RKs] at rm
    subst rm
    exact r
  | p :: more, mw, kvs, ws, r, rm => by
    simp only [RKs] at rm
    obtain ⟨v, t, rfl, r1, r2⟩ := rm
    show RKs g m H (mergeD (putD kvs p.1 p.2) more) (mergeK (putK ws p.1 v) t)
    exact mergeD_rel (more := more) (putD_rel r1 r) r2
/-- dict(a) -/
theorem s_dof {a : Expr} {a' : E} (o : Okx X g W P C N sc true) (hg : trGlo sc "dict" = true) (hn : notStar a = true) (ha : PE X a (RE g W P C a')) : PE X (.Call (.Name "dict" p) [a] [] pos) (RE g W P C (.dof a')) := by
  obtain ⟨hg1, hd⟩ := trGlo_ok o hg
  refine peI (pe_callTy (call_dictP (o.calm rfl)) hg1 (o.free "dict" (by simp)) (by decide +kernel) (pa_cons ha pa_nil (star_cons hn)) (by decide) hd (star_cons hn) rfl) fun σ H Q ⟨m, env, h, sm, w⟩ => ?_
  simp only [evE] at w
  refine ⟨m, env, h, sm, (Want.bind w).mono ?_⟩
  rintro x H1 ⟨m1, v1, h1, st1, r1, -, w1⟩
  cases v1 with
  | ref i =>
    simp only at w1
    split at w1
    · rename_i xs hx
      split at w1
      · rename_i kvs hp
        obtain ⟨b, vs, rfl, _, e3, r⟩ := lst_at st1.rel hx r1
        obtain ⟨as, ws, rfl, pr, rk⟩ := pairs_rel hp r
        refine ⟨b, as, ws, rfl, SqL.of e3, by rw [← o.K]; exact pr, fun q hq => ?_⟩
        obtain ⟨_, e, w1⟩ := w1
        cases e
        exact w1 _ _ _ (st1.rel.new (ob := .dK (mergeK [] ws)) hq fun c => ⟨_, upd_same, RKs.car c _ _ (mergeD_rel (by simp [RKs]) rk)⟩) (by simp only [RM]; exact ⟨q, by rw [← st1.rel.len]; simp, rfl⟩)
      · exact no_want w1
    · exact no_want w1
  | _ => exact no_want w1
theorem allB_ok : ∀ {xs : List M} {vs : List V} {b : Bool}, allB xs = some b → RMs g m H xs vs → ∃ bs : List Bool, vs = bs.map V.bl ∧ bs.all id = b
  | [], vs, b, e, r => by cases e; simp only [RMs] at r; subst r; exact ⟨[], rfl, rfl⟩
  | .bl c :: xs, vs, b, e, r => by
    simp only [allB] at e
    obtain ⟨q, e1, rfl⟩ := Option.map_eq_some_iff.mp e
    simp only [RMs, RM] at r
    obtain ⟨v, vr, rfl, rfl, r2⟩ := r
    obtain ⟨bs, rfl, rfl⟩ := allB_ok e1 r2
    exact ⟨c :: bs, rfl, rfl⟩
  | .non :: _, _, _, e, _ => by cases e
  | .int _ :: _, _, _, e, _ => by cases e
  | .str _ :: _, _, _, e, _ => by cases e
  | .tup _ :: _, _, _, e, _ => by cases e
  | .rol _ :: _, _, _, e, _ => by cases e
  | .ref _ :: _, _, _, e, _ => by cases e
  | .glo _ :: _, _, _, e, _ => by cases e
theorem s_all {a : Expr} {l : LE} (o : Okx X g W P C N sc true) (hg : trGlo sc "all" = true) (hn : notStar a = true) (ha : PE X a (RL g W P C l)) : PE X (.Call (.Name "all" p) [a] [] pos) (RE g W P C (.all l)) := by
  obtain ⟨hg1, hd⟩ := trGlo_ok o hg
  refine peI (pe_callB (cr_all (o.calm rfl)) hg1 (o.free "all" (by simp)) (by decide +kernel) (pa_cons ha pa_nil (star_cons hn)) (by decide) hd (star_cons hn) rfl) fun σ H Q ⟨m, env, h, sm, w⟩ => ?_
  simp only [evE] at w
  refine ⟨m, env, h, sm, (Want.bind w).mono ?_⟩
  rintro x H1 ⟨m1, xs, h1, st1, ⟨a, vs, rfl, h0, na, hl, r⟩, -, w1⟩
  obtain ⟨z, e, w1⟩ := w1.okv
  obtain ⟨b, e', rfl⟩ := Option.map_eq_some_iff.mp e
  obtain ⟨bs, rfl, rfl⟩ := allB_ok e' r
  exact ⟨a, bs, rfl, SqL.of hl, w1.here st1.rel (by simp only [RM])⟩
/-! ### methods of texts -/
theorem strMs_ok {m : List Addr} {H : Hp} : ∀ {xs : List M} {vs : List V} {ys : List Str}, strMs xs = some ys → RMs g m H xs vs → vs = ys.map V.str
  | [], vs, ys, e, r => by
    simp only [strMs] at e
    cases e
    simpa [RMs] using r
  | x :: xs, vs, ys, e, r => by
    simp only [RMs] at r
    obtain ⟨v, t, rfl, r1, r2⟩ := r
    cases x with
    | str z =>
      simp only [strMs] at e
      obtain ⟨zs, e1, rfl⟩ := Option.map_eq_some_iff.mp e
      simp only [RM] at r1
      subst r1
      rw [strMs_ok e1 r2]
      rfl
    | _ => simp [strMs] at e
theorem rms_strs {m : List Addr} {H : Hp} : ∀ ys : List Str, RMs g m H (ys.map M.str) (ys.map V.str)
  | [] => by simp [RMs]
  | y :: ys => by
    simp only [List.map_cons, RMs, RM]
    exact ⟨_, _, rfl, rfl, rms_strs ys⟩
/-- a method's reading -/
def rM (g : G) (Wn : Value → Option Addr → Hp → Prop) (b : Mt) : V → List V → Hp → VK → Prop := fun x xs H Q => ∃ m h a ys, HRel g m h H ∧ x = .str a ∧ RMs g m H ys xs ∧ Want g Wn m H (RM g) (mtM b a ys h) Q
theorem one_of {m : List Addr} {H : Hp} {ys : List M} {xs : List V} {y : M} (r : RMs g m H ys xs) (e : ys = [y]) : ∃ x, xs = [x] ∧ RM g m H y x := by
  subst e
  simp only [RMs] at r
  obtain ⟨v, t, rfl, r1, rfl⟩ := r
  exact ⟨v, rfl, r1⟩
def mtId : Mt → String
  | .join => "str.join"
  | .split => "str.split"
  | .zfill => "str.zfill"
  | .index => "str.index"
  | .partition => "str.partition"
  | .startswith => "str.startswith"
theorem mt_ok (hK : g.K = X.K) {Wn : Value → Option Addr → Hp → Prop} (b : Mt) : MtR X (mtId b) (rM g Wn b) := by
  intro pins s σ H x xs v us Q I rx rxs hq
  obtain ⟨m, h, a, ys, rel, rfl, r, w⟩ := hq
  cases ys with
  | nil => cases b <;> (simp only [mtM] at w; exact no_want w)
  | cons y ys =>
    cases ys with
    | cons _ _ => cases b <;> (simp only [mtM] at w; exact no_want w)
    | nil =>
      obtain ⟨z, rfl, rz⟩ := one_of r rfl
      cases b with
      | join =>
        simp only [mtM] at w
        split at w
        · rename_i zs ei
          split at w
          · rename_i ss es
            split at w
            · rename_i hz
              obtain ⟨p, vs, rfl, sq, rs⟩ := items_ok rel ei rz
              obtain rfl := strMs_ok es rs
              rw [hK] at sq
              exact mt_join pins s σ H _ _ v us Q I rx rxs ⟨a, p, ss, rfl, rfl, sq, hz, w.here rel (by simp only [RM])⟩
            · exact no_want w
          · exact no_want w
        · exact no_want w
      | split =>
        cases y with
        | str b =>
          simp only [mtM] at w
          simp only [RM] at rz
          subst rz
          split at w
          · rename_i hz
            refine mt_split pins s σ H _ _ v us Q I rx rxs ⟨a, b, rfl, rfl, hz.1, hz.2, fun p hp => ?_⟩
            obtain ⟨_, e, w⟩ := w
            cases e
            exact w _ _ _ (rel.new (ob := .lst ((Txt.split a b).map V.str)) hp fun c => ⟨_, upd_same, rms_strs _⟩) (by simp only [RM]; exact ⟨p, by rw [← rel.len]; simp, rfl⟩)
          · exact no_want w
        | _ => simp only [mtM] at w; exact no_want w
      | zfill =>
        cases y with
        | int i =>
          simp only [mtM] at w
          simp only [RM] at rz
          subst rz
          split at w
          · rename_i hz
            exact mt_zfill pins s σ H _ _ v us Q I rx rxs ⟨a, i, rfl, rfl, hz, w.here rel (by simp only [RM])⟩
          · exact no_want w
        | _ => simp only [mtM] at w; exact no_want w
      | index =>
        cases y with
        | str b =>
          simp only [mtM] at w
          simp only [RM] at rz
          subst rz
          split at w
          · rename_i i rest ho
            exact mt_sindex pins s σ H _ _ v us Q I rx rxs ⟨a, b, i, rest, rfl, rfl, ho, w.here rel (by simp only [RM])⟩
          · exact no_want w
        | _ => simp only [mtM] at w; exact no_want w
      | partition =>
        cases y with
        | str b =>
          simp only [mtM] at w
          simp only [RM] at rz
          subst rz
          split at w
          · rename_i hz
            refine mt_partition pins s σ H _ _ v us Q I rx rxs ⟨a, b, rfl, rfl, hz.1, hz.2, fun p hp => ?_⟩
            have st := rel.laid (ob := .tup [.str (Txt.partition a b).1, .str (Txt.partition a b).2.1, .str (Txt.partition a b).2.2]) hp
            obtain ⟨_, e, w⟩ := w
            cases e
            exact w m _ _ st (by simp only [RM, RMs]; exact ⟨p, _, rfl, SqT.of upd_same, _, _, rfl, rfl, _, _, rfl, rfl, _, _, rfl, rfl, rfl⟩)
          · exact no_want w
        | _ => simp only [mtM] at w; exact no_want w
      | startswith =>
        cases y with
        | str b =>
          simp only [mtM] at w
          simp only [RM] at rz
          subst rz
          exact mt_startswith pins s σ H _ _ v us Q I rx rxs ⟨a, b, rfl, rfl, w.here rel (by simp only [RM])⟩
        | _ => simp only [mtM] at w; exact no_want w
theorem mt_slot {f : Str} {b : Mt} (h : trMt f = some b) : Slot "str" f (mtId b) ∧ typeOf (.builtin (mtId b)) = pure (.type "method_descriptor") := by
  unfold trMt at h
  repeat' split at h
  all_goals first | cases h | skip
  all_goals (rename_i e; subst e)
  · exact ⟨F.slot_str_join, F.type_str_join⟩
  · exact ⟨F.slot_str_split, F.type_str_split⟩
  · exact ⟨F.slot_str_zfill, F.type_str_zfill⟩
  · exact ⟨F.slot_str_index, F.type_str_index⟩
  · exact ⟨F.slot_str_partition, F.type_str_partition⟩
  · exact ⟨F.slot_str_startswith, F.type_str_startswith⟩
theorem star_all : ∀ {es : List Expr} {env : Env}, es.all notStar = true → (backTo pos (starEach es env)).all (fun x => !x.1) = true := fun {es env} h => by
  have z := star_any (pos := pos) (env := env) h
  rw [List.all_eq_not_any_not]
  simp only [Bool.not_not]
  rw [z]; rfl
theorem attB_ok {o : Expr} {f : Str} {env : Env} {w : Sem Value} (h : attB o = true) : attributeBase o f env w = w := by
  cases o with
  | Call g es ks q =>
    cases g with
    | Name x p =>
      cases es with
      | nil =>
        cases ks with
        | nil => cases h
        | cons _ _ => rfl
      | cons _ _ => rfl
    | _ => rfl
  | _ => rfl
theorem s_mt {f : Str} {b : Mt} {oe e : Expr} {es : List Expr} {o' : E} {es' : List E} {ap : Pos} (o : Okx X g W P C N sc k) (hb : trMt f = some b) (ha : attB oe = true) (hl : (ap.endLine == pos.line) = true) (hn : (e :: es).length < 29) (hns : (e :: es).all notStar = true)
    (ho : PE X oe (RE g W P C o')) (hp : PA X (e :: es) (RA g W P C es')) : PE X (.Call (.Attribute oe f ap) (e :: es) [] pos) (RE g W P C (.mt b o' es')) := by
  obtain ⟨sl, ty⟩ := mt_slot hb
  have hns' := hns
  rw [List.all_cons, Bool.and_eq_true] at hns'
  refine ⟨fun pins s σ H Q I ⟨m, env, h, sm, w⟩ => (pe_bm F.plainAttrs_str sl ty (mt_ok (Wn := WE' W σ) o.K b) ho hp (attB_ok ha) ?_ hl (star_cons hns'.1) (star_any hns'.2)).run pins s σ H Q I ?_⟩
  · rw [star_all hns]
    simp [backToKw, keywordEach]
    simp at hn
    omega
  · simp only [evE] at w
    refine ⟨m, env, h, sm, (Want.bind w).mono ?_⟩
    rintro x H1 ⟨m1, v1, h1, st1, r1, -, w1⟩
    cases v1 with
    | str a =>
      simp only [RM] at r1
      subst r1
      refine ⟨rfl, m1, env, h1, sm.step st1, (Want.bind w1).mono ?_⟩
      rintro xs H2 ⟨m2, ys, h2, st2, r2, -, w2⟩
      exact ⟨m2, h2, a, ys, st2.rel, rfl, r2, w2⟩
    | _ => exact no_want w1
end
end MP
namespace MP
open PySem L2
/-! ### methods of dicts: get, pop -/
section
variable {X : Cx} {g : G} {W : WX} {P : Tx} {C : Cal} {N : List Str} {sc : Scope} {k : Bool} {pos p : Pos} {m : List Addr} {H : Hp} {h : Hm} {env : Ev} {σ : St}
theorem dropD_rel {k : L2.Key} : ∀ {kvs : List (L2.Key × M)} {ws : List (L2.Key × V)}, RKs g m H kvs ws → RKs g m H (dropD kvs k) (dropK ws k)
  | [], ws, r => by simp only [RKs] at r; subst r; simp [dropD, dropK, RKs]
  | (j, x) :: kvs, ws, r => by
    simp only [RKs] at r
    obtain ⟨v, t, rfl, r1, r2⟩ := r
    have ih := dropD_rel (k := k) r2
    by_cases c : j = k
    · have e1 : dropD ((j, x) :: kvs) k = dropD kvs k := by simp [dropD, c]
      have e2 : dropK ((j, v) :: t) k = dropK t k := by simp [dropK, c]
      rw [e1, e2]
      exact ih
    · have e1 : dropD ((j, x) :: kvs) k = (j, x) :: dropD kvs k := by simp [dropD, c]
      have e2 : dropK ((j, v) :: t) k = (j, v) :: dropK t k := by simp [dropK, c]
      rw [e1, e2]
      simp only [RKs]
      exact ⟨v, _, rfl, r1, ih⟩
theorem isDic_at {x : M} {v : V} (rel : HRel g m h H) (d : isDic h x = true) (r : RM g m H x v) : ∃ i p kvs ws, x = .ref i ∧ v = .ref p ∧ m[i]? = some p ∧ h[i]? = some (.dic kvs) ∧ H p = some (.dK ws) ∧ RKs g m H kvs ws := by
  cases x with
  | ref i =>
    simp only [isDic] at d
    cases e : h[i]? with
    | none => rw [e] at d; cases d
    | some o =>
      rw [e] at d
      cases o with
      | dic kvs =>
        simp only [RM] at r
        obtain ⟨p, e1, rfl⟩ := r
        obtain ⟨p', e2, ws, hp, rk⟩ := rel.obj i _ e
        rw [e1] at e2
        cases e2
        exact ⟨i, p, kvs, ws, rfl, rfl, e1, e, hp, rk⟩
      | _ => cases d
  | _ => cases d
theorem dicAt2 {i : Nat} {p : Addr} {kvs : List (L2.Key × M)} (rel : HRel g m h H) (e1 : m[i]? = some p) (e : h[i]? = some (.dic kvs)) : ∃ ws, H p = some (.dK ws) ∧ RKs g m H kvs ws := by
  obtain ⟨p', e2, ws, hp, rk⟩ := rel.obj i _ e
  rw [e1] at e2
  cases e2
  exact ⟨ws, hp, rk⟩
theorem m1_ok {oe e : Expr} {f : Str} {ap : Pos} (ha : attB oe = true) (hl : (ap.endLine == pos.line) = true) (hn : notStar e = true) : M1 X oe f ap e pos := by
  refine ⟨attB_ok ha, ?_, hl, ?_⟩
  · rw [star_all (es := [e]) (by simp [hn])]
    simp [backToKw, keywordEach]
  · rw [star_cons hn]; rfl
theorem m2_ok {oe e f : Expr} {fn : Str} {ap : Pos} (ha : attB oe = true) (hl : (ap.endLine == pos.line) = true) (hn : notStar e = true) (hm : notStar f = true) : M2 X oe fn ap e f pos := by
  refine ⟨attB_ok ha, ?_, hl, ?_⟩
  · rw [star_all (es := [e, f]) (by simp [hn, hm])]
    simp [backToKw, keywordEach]
  · rw [star_cons hn, star_cons hm]; rfl
theorem s_dget {oe e : Expr} {o' e' : E} {ap : Pos} (hu : X.A.units + 1 < cLine) (ha : attB oe = true) (hl : (ap.endLine == pos.line) = true) (hn : notStar e = true) (ho : PE X oe (RE g W P C o')) (he : PE X e (RE g W P C e')) : PE X (.Call (.Attribute oe "get" ap) [e] [] pos) (RE g W P C (.dget o' e')) := by
  refine peI (pe_dget1 hu ho he (m1_ok ha hl hn)) fun σ H Q ⟨m, env, h, sm, w⟩ => ?_
  simp only [evE] at w
  refine ⟨m, env, h, sm, (Want.bind w).mono ?_⟩
  rintro x H1 ⟨m1, v1, h1, st1, r1, -, w1⟩
  split at w1
  · rename_i d
    obtain ⟨i, p, kvs, ws, rfl, rfl, e1, e2, e3, rk⟩ := isDic_at st1.rel d r1
    refine ⟨p, rfl, .inl ⟨ws, .inl e3⟩, m1, env, h1, sm.step st1, (Want.bind w1).mono ?_⟩
    rintro y H2 ⟨m2, v2, h2, st2, r2, -, w2⟩
    obtain ⟨z, ez, w2⟩ := w2.okv
    simp only [dGet] at ez
    split at ez
    · rename_i kvs2 kk e4 ek
      cases ez
      obtain ⟨ws2, hp2, rk2⟩ := dicAt2 st2.rel (st2.car.ix i p e1) e4
      have ey := keyM_rel ek r2
      subst ey
      refine ⟨_, DGet.k hp2, w2.here st2.rel ?_⟩
      cases gq : getK kvs2 kk with
      | none =>
        have := getK_none (k := kk) rk2
        rw [gq] at this
        cases q : valV ws2 kk with
        | none => simp [RM]
        | some u => rw [q] at this; cases this
      | some z =>
        obtain ⟨u, eu, ru⟩ := getK_rel rk2 gq
        rw [eu]
        exact ru
    · cases ez
  · exact no_want w1
theorem s_dpop {oe e : Expr} {o' e' : E} {ap : Pos} (ha : attB oe = true) (hl : (ap.endLine == pos.line) = true) (hn : notStar e = true) (ho : PE X oe (RE g W P C o')) (he : PE X e (RE g W P C e')) : PE X (.Call (.Attribute oe "pop" ap) [e] [] pos) (RE g W P C (.dpop o' e')) := by
  refine peI (pe_dpop1 ho he (m1_ok ha hl hn)) fun σ H Q ⟨m, env, h, sm, w⟩ => ?_
  simp only [evE] at w
  refine ⟨m, env, h, sm, (Want.bind w).mono ?_⟩
  rintro x H1 ⟨m1, v1, h1, st1, r1, -, w1⟩
  split at w1
  · rename_i d
    obtain ⟨i, p, kvs, ws, rfl, rfl, e1, e2, e3, rk⟩ := isDic_at st1.rel d r1
    refine ⟨p, rfl, .inl ⟨ws, .inl e3⟩, m1, env, h1, sm.step st1, (Want.bind w1).mono ?_⟩
    rintro y H2 ⟨m2, v2, h2, st2, r2, -, w2⟩
    simp only [dPop] at w2
    split at w2
    · rename_i kvs2 kk e4 ek
      have e5 := st2.car.ix i p e1
      obtain ⟨ws2, hp2, rk2⟩ := dicAt2 st2.rel e5 e4
      have ey := keyM_rel ek r2
      split at w2
      · rename_i z gq
        obtain ⟨u, eu, ru⟩ := getK_rel rk2 gq
        have stw : Step g m2 H2 (h2.set i (.dic (dropD kvs2 kk))) m2 (upd H2 p (.dK (dropK ws2 kk))) := st2.rel.write e5 fun c => ⟨_, upd_same, (dropD_rel rk2).car c⟩
        obtain ⟨_, q, w2⟩ := w2
        cases q
        exact ⟨ws2, kk, u, hp2, ey, eu, w2 _ _ _ stw (ru.step stw)⟩
      · exact no_want w2
    · exact no_want w2
  · exact no_want w1
theorem s_dpop2 {oe e f : Expr} {o' e' f' : E} {ap : Pos} (ha : attB oe = true) (hl : (ap.endLine == pos.line) = true) (hn : notStar e = true) (hm : notStar f = true) (ho : PE X oe (RE g W P C o')) (he : PE X e (RE g W P C e')) (hf : PE X f (RE g W P C f')) : PE X (.Call (.Attribute oe "pop" ap) [e, f] [] pos) (RE g W P C (.dpop2 o' e' f')) := by
  refine peI (pe_dpop2 ho he hf (m2_ok ha hl hn hm)) fun σ H Q ⟨m, env, h, sm, w⟩ => ?_
  simp only [evE] at w
  refine ⟨m, env, h, sm, (Want.bind w).mono ?_⟩
  rintro x H1 ⟨m1, v1, h1, st1, r1, -, w1⟩
  split at w1
  · rename_i d
    obtain ⟨i, p, kvs, ws, rfl, rfl, e1, e2, e3, rk⟩ := isDic_at st1.rel d r1
    refine ⟨p, rfl, .inl ⟨ws, .inl e3⟩, m1, env, h1, sm.step st1, (Want.bind w1).mono ?_⟩
    rintro y H2 ⟨m2, v2, h2, st2, r2, -, w2⟩
    refine ⟨m2, env, h2, (sm.step st1).step st2, (Want.bind w2).mono ?_⟩
    rintro z H3 ⟨m3, v3, h3, st3, r3, -, w3⟩
    simp only [dPop] at w3
    split at w3
    · rename_i kvs2 kk e4 ek
      have e5 := st3.car.ix i p (st2.car.ix i p e1)
      obtain ⟨ws2, hp2, rk2⟩ := dicAt2 st3.rel e5 e4
      have ey := keyM_rel ek r2
      refine ⟨ws2, kk, hp2, ey, fun u eu => ?_, fun en => ?_⟩
      · split at w3
        · rename_i z' gq
          obtain ⟨u', eu', ru⟩ := getK_rel rk2 gq
          rw [eu] at eu'
          cases eu'
          have stw : Step g m3 H3 (h3.set i (.dic (dropD kvs2 kk))) m3 (upd H3 p (.dK (dropK ws2 kk))) := st3.rel.write e5 fun c => ⟨_, upd_same, (dropD_rel rk2).car c⟩
          obtain ⟨_, q, w3⟩ := w3
          cases q
          exact w3 _ _ _ stw (ru.step stw)
        · rename_i gq
          have := getK_none (k := kk) rk2
          rw [gq, eu] at this
          cases this
      · split at w3
        · rename_i z' gq
          have := getK_none (k := kk) rk2
          rw [gq, en] at this
          cases this
        · exact w3.here st3.rel r3
    · exact no_want w3
  · exact no_want w1
theorem strKs_ok {m : List Addr} {H : Hp} : ∀ {kvs : List (L2.Key × M)} {ws : List (L2.Key × V)} {ys : List Str}, strKs kvs = some ys → RKs g m H kvs ws → ws.map (·.1) = ys.map Sum.inr
  | [], ws, ys, e, r => by
    simp only [strKs] at e
    cases e
    simp only [RKs] at r
    subst r
    rfl
  | (.inr x, z) :: kvs, ws, ys, e, r => by
    simp only [strKs] at e
    obtain ⟨t, e1, rfl⟩ := Option.map_eq_some_iff.mp e
    simp only [RKs] at r
    obtain ⟨v, q, rfl, _, r2⟩ := r
    simp only [List.map_cons, strKs_ok e1 r2]
  | (.inl x, z) :: kvs, ws, ys, e, r => by simp [strKs] at e
theorem rmsStrs2 {m : List Addr} {H : Hp} : ∀ ss : List Str, RMs g m H (ss.map M.str) (ss.map V.str)
  | [] => by simp [RMs]
  | s :: ss => by
    simp only [List.map_cons, RMs]
    exact ⟨_, _, rfl, by simp [RM], rmsStrs2 ss⟩
theorem cr_srt (hc : X.calm = true) : CallR X (.builtin "sorted") (fun xs H Q => (∃ (a : Addr) (ss : List Str), xs = [V.ref a] ∧ ss.length < 64 ∧ (SqL X.K H a (ss.map V.str) ∨ ∃ kvs : List (L2.Key × V), H a = some (.dK kvs) ∧ kvs.map (·.1) = ss.map Sum.inr) ∧ ∀ p, H p = none → Q (.ref p) (upd H p (.lst ((srtS ss).map V.str))))) := by
  intro pins s σ H xs us Q I r hh
  obtain ⟨a, ss, rfl, h64, d, q⟩ := hh
  rcases d with d | ⟨kvs, d, dk⟩
  · exact cr_sortedS pins s σ H _ us Q I r ⟨a, ss, rfl, d, h64, fun ys p hp hs hn => by rw [srt_uniq hp hs]; exact q p hn⟩
  · exact call_sortedD hc pins s σ H _ us Q I r ⟨a, kvs, ss, rfl, .inl d, dk, h64, fun ys p hp hs hn => by rw [srt_uniq hp hs]; exact q p hn⟩
theorem s_srt {a : Expr} {a' : E} (o : Okx X g W P C N sc true) (hg : trGlo sc "sorted" = true) (hn : notStar a = true) (ha : PE X a (RE g W P C a')) : PE X (.Call (.Name "sorted" p) [a] [] pos) (RE g W P C (.srt a')) := by
  obtain ⟨hg1, hd⟩ := trGlo_ok o hg
  refine peI (pe_callB (cr_srt (o.calm rfl)) hg1 (o.free "sorted" (by simp)) (by decide +kernel) (pa_cons ha pa_nil (star_cons hn)) (by decide) hd (star_cons hn) rfl) fun σ H Q ⟨m, env, h, sm, w⟩ => ?_
  simp only [evE] at w
  refine ⟨m, env, h, sm, (Want.bind w).mono ?_⟩
  rintro x H1 ⟨m1, v1, h1, st1, r1, -, w1⟩
  cases es : srtM h1 v1 with
  | none => rw [es] at w1; exact no_want w1
  | some ss =>
    rw [es] at w1
    dsimp only at w1
    split at w1
    · rename_i h64
      have fin : ∀ p, H1 p = none → Q (.ref p) (upd H1 p (.lst ((srtS ss).map V.str))) := fun p hp => by
        have st := st1.rel.new (ob := .lst ((srtS ss).map V.str)) (o := .lst ((srtS ss).map M.str)) hp fun c => ⟨_, upd_same, rmsStrs2 _⟩
        obtain ⟨_, e, w1⟩ := w1
        cases e
        refine w1 _ _ _ st ?_
        simp only [RM]
        exact ⟨p, by rw [← st1.rel.len]; simp, rfl⟩
      cases v1 with
      | ref i =>
        simp only [srtM] at es
        split at es
        · rename_i xs hx
          obtain ⟨q, vs, rfl, e1, sq, r⟩ := lst_at st1.rel hx r1
          have := strMs_ok es r
          subst this
          exact ⟨q, ss, rfl, h64, .inl (SqL.of sq), fin⟩
        · rename_i kvs hx
          obtain ⟨i', q, kvs', ws, e0, rfl, e1, e2, e3, rk⟩ := isDic_at st1.rel (x := .ref i) (by simp [isDic, hx]) r1
          cases e0
          rw [hx] at e2
          cases e2
          exact ⟨q, ss, rfl, h64, .inr ⟨ws, e3, strKs_ok es rk⟩, fin⟩
        · cases es
      | _ => simp [srtM] at es
    · exact no_want w1
end
end MP
namespace MP
open PySem L2
/-! ### methods of instances, fields, methods of lists, f-strings -/
section
variable {X : Cx} {g : G} {W : WX} {P : Tx} {C : Cal} {N : List Str} {sc : Scope} {k : Bool} {pos p : Pos} {m : List Addr} {H : Hp} {h : Hm} {env : Ev} {σ : St}
/-- the arguments of a call, by place and by keyword -/
theorem run_args {es : List Expr} {ws : List Keyword} {ks : List Str} {es' zs' : List E} {a : Addr} {first : List Value} (hkp : PySem.W.keepIn X.K (.ref a) = true) (hn : kwNs ws = some ks) (hns : es.all notStar = true) (hle : es.length = es'.length) (ha : PA X es (RA g W P C es')) (hz : PK X ws (RA g W P C zs'))
    {pins : List (Addr × Obj)} {s : Shared} {σ : St} {H : Hp} {Q : Value → Shared → Prop} {R : List V → List V → Hp → Prop} (I : L2.Inv X pins σ H s) (q0 : RA g W P C es' σ H fun vs H1 => RA g W P C zs' σ H1 fun zs H2 => R vs zs H2)
    (go : ∀ s2 H2 vs zs us ws, L2.Inv X pins σ H2 s2 → Vals vs us → Vals zs ws → R vs zs H2 → wpAny (model X.prog X.w) X.A (PySem.call (.ref a) (first ++ us) (ks.zip ws)) Q X.xe s2) :
    wpAny (model X.prog X.w) X.A (callWith pos (.ref a) first (backTo pos (starEach es X.env)) (backToKw pos (keywordEach ws X.env))) Q X.xe s := by
  obtain ⟨k1, k2, k3, k4⟩ := kw_some (pos := pos) (env := X.env) hn
  cases es with
  | nil =>
    obtain rfl : es' = [] := List.eq_nil_of_length_eq_zero hle.symm
    obtain ⟨m, env, h, sm, w⟩ := q0
    have q1 := Want.here sm.rel (show Want g (WE' W σ) m H (RMs g) (some (.ok [] h)) _ from w) (b := []) (by simp [RMs])
    refine PySem.W.callWith_KW0 (h₀ := X.base) I.ok.mod.kin hkp k1 ?_ (by rw [k3]; rfl)
    refine thn (hz.run pos pins s σ H _ I q1) fun ws' s2 ⟨zs, H2, I2, rz, q2⟩ => ⟨I2.kIn, ?_⟩
    rw [k2]
    exact go s2 H2 [] zs [] ws' I2 .nil rz q2
  | cons e es =>
    rw [List.all_cons, Bool.and_eq_true] at hns
    refine PySem.W.callWith_KW (h₀ := X.base) I.ok.mod.kin hkp k1 (thn (ha.run pos pins s σ H _ I q0) fun us s1 ⟨vs, H1, I1, r, q1⟩ => ?_) (by rw [star_any (show (e :: es).all notStar = true by rw [List.all_cons, hns.1, hns.2]; rfl), k3]; rfl) (star_cons hns.1)
    refine thn (hz.run pos pins s1 σ H1 _ I1 q1) fun ws' s2 ⟨zs, H2, I2, rz, q2⟩ => ⟨I2.kIn, ?_⟩
    rw [k2]
    exact go s2 H2 vs zs us ws' I2 r rz q2
/-- f(.., k = ..), with no value by place -/
theorem s_callk0 {f : Str} {ws : List Keyword} {ks : List Str} {zs' : List E} (o : Okx X g W P C N sc k) (hk : k = true) (hg : trGlo sc f = true) (hn : kwNs ws = some ks) (hl : ws.length = zs'.length) (hz : PK X ws (RA g W P C zs')) : PE X (.Call (.Name f p) [] ws pos) (RE g W P C (.callk f [] ks zs')) := by
  refine ⟨fun pins s σ H Q I ⟨m, env, h, sm, w⟩ => ?_⟩
  simp only [evE] at w
  by_cases hf : P.kw (kwN f ks) = some (f, ks)
  · rw [if_pos hf] at w
    obtain ⟨a, hm, kp, rule⟩ := o.callk hk _ f ks hf
    obtain ⟨hg1, hd⟩ := trGlo_ok o hg
    refine wpAny_Call_Name_kw (ld_glob I hg1 hm ?_ hd)
    have kn := (kw_some (pos := pos) (env := X.env) hn).2.2.2
    have q0 : RA g W P C [] σ H fun vs H1 => RA g W P C zs' σ H1 fun zs H2 => ∃ m1 xs ys h1, HRel g m1 h1 H2 ∧ RMs g m1 H2 xs vs ∧ RMs g m1 H2 ys zs ∧ ys.length = ks.length ∧ Want g (WE' W σ) m1 H2 (RM g) (C (kwN f ks) (xs ++ ys) h1) Q := by
      refine ⟨m, env, h, sm, (Want.bind w).mono ?_⟩
      rintro vs H1 ⟨m1, xs, h1, st1, r1, -, w1⟩
      refine ⟨m1, env, h1, sm.step st1, (Want.bind w1).mono ?_⟩
      rintro zs H2 ⟨m2, ys, h2, st2, r2, e3, w3⟩
      exact ⟨m2, xs, ys, h2, st2.rel, RMs.step r1 st2, r2, by rw [evEs_len e3, ← hl, kn], w3⟩
    refine run_args kp hn rfl rfl s_nil hz I q0 fun s2 H2 vs zs us ws I2 rv rz ⟨m1, xs, ys, h1, rel, r1, r2, ly, w2⟩ => ?_
    rw [List.nil_append]
    exact rule pins s2 σ H2 m1 h1 xs ys vs zs us ws Q I2 rel r1 rv r2 rz ly w2
  · rw [if_neg hf] at w
    exact no_want w
theorem s_callk0' {f : Str} {ws : List Keyword} {ks : List Str} {es' zs' : List E} (o : Okx X g W P C N sc k) (hk : k = true) (hg : trGlo sc f = true) (hn : kwNs ws = some ks) (hl : ws.length = zs'.length) (hle : ([] : List Expr).length = es'.length) (hz : PK X ws (RA g W P C zs')) : PE X (.Call (.Name f p) [] ws pos) (RE g W P C (.callk f es' ks zs')) := by
  obtain rfl : es' = [] := List.eq_nil_of_length_eq_zero hle.symm
  exact s_callk0 o hk hg hn hl hz
/-- o.f(..) -/
theorem s_meth {f : Str} {oe : Expr} {es : List Expr} {ws : List Keyword} {ks : List Str} {o' : E} {es' zs' : List E} {ap : Pos} (o : Okx X g W P C N sc k) (hk : k = true) (ha : attB oe = true) (hl : (ap.endLine == pos.line) = true) (hfw : es.length + ws.length < 29) (hn : kwNs ws = some ks) (hns : es.all notStar = true) (hle : es.length = es'.length) (hlz : ws.length = zs'.length)
    (ho : PE X oe (RE g W P C o')) (hp : PA X es (RA g W P C es')) (hz : PK X ws (RA g W P C zs')) : PE X (.Call (.Attribute oe f ap) es ws pos) (RE g W P C (.meth o' f es' ks zs')) := by
  refine ⟨fun pins s σ H Q I ⟨m, env, h, sm, w⟩ => ?_⟩
  obtain ⟨k1, k2, k3, k4⟩ := kw_some (pos := pos) (env := X.env) hn
  simp only [evE] at w
  rw [arm_eval_Call, attB_ok ha]
  refine wpAny_bind (thn (ho.run pins s σ H _ I (show RE g W P C o' σ H fun x H1 => ∃ m1 v1 h1, Step g m H h1 m1 H1 ∧ RM g m1 H1 v1 x ∧ Want g (WE' W σ) m1 H1 (RM g) (match insM h1 v1 with
    | some (c, fs) => match P.mth c f ks, fs.lookup f with
      | some q, none => bindO (evEs P C es' env h1) fun xs h2 => bindO (evEs P C zs' env h2) fun ys h3 => C q (v1 :: (xs ++ ys)) h3
      | _, _ => none
    | none => none) Q from ⟨m, env, h, sm, (Want.bind w).mono fun b H1 ⟨m1, a, h1, st, r, _, w⟩ => ⟨m1, a, h1, st, r, w⟩⟩)) fun u s1 ⟨x, H1, I1, rx, m1, v1, h1, st1, r1, w1⟩ => ?_)
  cases hi : insM h1 v1 with
  | none => rw [hi] at w1; exact no_want w1
  | some cf =>
  obtain ⟨c, fs⟩ := cf
  rw [hi] at w1
  dsimp only at w1
  split at w1
  · rename_i q hq hlk
    obtain ⟨i, a, D, dx, fv, rfl, rfl, e1, e2, e3, e4, e5, e6, e7⟩ := insM_at st1.rel hi r1
    obtain ⟨D', fa, d1, cl, mt, rule⟩ := o.meth hk c f ks q hq
    rw [← o.mg, e3] at d1
    cases d1
    obtain rfl : u = Value.ref a := rx
    have hlf : fv.lookup f = none := by
      have := RFs.look (f := f) e7
      rw [hlk] at this
      exact this
    have hform : methodCallForm (es.length + ws.length) (backTo pos (starEach es X.env)) (backToKw pos (keywordEach ws X.env)) = true := by
      unfold methodCallForm
      rw [star_all hns, k1]
      simp only [Bool.true_and, decide_eq_true_eq]
      split <;> omega
    have hpos : methodCallPos true oe X.env ap pos = pure pos := by unfold methodCallPos; simp [hl]
    refine wpAny_bind (wpAny_standAt ?_)
    unfold methodCall
    rw [hform]
    refine wpAny_bind (wpAny_holding ?_)
    unfold calleeOf
    rw [if_pos rfl]
    refine getmeth_ok I1 e4 cl mt hlf ?_
    refine wpAny_bind (wpAny_of_eq hpos ?_)
    have q0 : RA g W P C es' σ H1 fun vs H1 => RA g W P C zs' σ H1 fun zs H2 => ∃ m2 xs ys h2, HRel g m2 h2 H2 ∧ RM g m2 H2 (.ref i) (.ref a) ∧ RMs g m2 H2 xs vs ∧ RMs g m2 H2 ys zs ∧ ys.length = ks.length ∧ Want g (WE' W σ) m2 H2 (RM g) (C q (.ref i :: (xs ++ ys)) h2) Q := by
      refine ⟨m1, env, h1, sm.step st1, (Want.bind w1).mono ?_⟩
      rintro vs H2 ⟨m2, xs, h2, st2, r2, -, w2⟩
      refine ⟨m2, env, h2, (sm.step st1).step st2, (Want.bind w2).mono ?_⟩
      rintro zs H3 ⟨m3, ys, h3, st3, r3, e3, w3⟩
      exact ⟨m3, xs, ys, h3, st3.rel, (r1.step st2).step st3, RMs.step r2 st3, r3, by rw [evEs_len e3, ← hlz, k4], w3⟩
    refine run_args mt.kp hn hns hle hp hz I1 q0 fun s2 H2 vs zs us ws I2 rv rz ⟨m2, xs, ys, h2, rel, r0, r1, r2, ly, w2⟩ => ?_
    exact rule X.A pins s2 σ H2 m2 h2 (.ref i :: xs) ys (.ref a :: vs) zs (.ref a :: us) ws Q (.inl rfl) I2 rel (by simp only [RMs]; exact ⟨_, _, rfl, r0, r1⟩) (.cons rfl rv) r2 rz ly w2
  · exact no_want w1
/-- e.f of an instance -/
theorem fld_read {e' : E} {f : Str} (o : Okx X g W P C N sc k) (sm : Sim g m H h env σ) {Q : VK} (w : Want g (WE' W σ) m H (RM g) (bindO (evE P C e' env h) fun x h1 => okv (fldM P h1 x f) h1) Q) : tFld X.K (RE g W P C e') f σ H Q := by
  refine ⟨m, env, h, sm, (Want.bind w).mono ?_⟩
  rintro x H1 ⟨m1, v1, h1, st1, r1, -, w1⟩
  obtain ⟨z, ez, w2⟩ := w1.okv
  clear w1
  unfold fldM at ez
  cases hi : insM h1 v1 with
  | none => rw [hi] at ez; cases ez
  | some cf =>
    obtain ⟨c, fs⟩ := cf
    rw [hi] at ez
    dsimp only at ez
    split at ez
    · rename_i hf
      obtain ⟨i, a, D, dx, fv, rfl, rfl, e1, e2, e3, e4, e5, e6, e7⟩ := insM_at st1.rel hi r1
      obtain ⟨D', d1, cl, na⟩ := o.fld c f hf
      rw [← o.mg, e3] at d1
      cases d1
      have := RFs.look (f := f) e7
      rw [ez] at this
      obtain ⟨u, e8, ru⟩ := this
      exact ⟨a, D, dx, fv, u, rfl, e4, cl, na, e8, w2.here st1.rel ru⟩
    · cases ez
theorem s_fld {e : Expr} {e' : E} {f : Str} (o : Okx X g W P C N sc k) (ha : attB e = true) (he : PE X e (RE g W P C e')) : PE X (.Attribute e f pos) (RE g W P C (.fld e' f)) := by
  refine peI (pe_fld he (attB_ok ha)) fun σ H Q ⟨m, env, h, sm, w⟩ => ?_
  simp only [evE] at w
  exact fld_read o sm w
/-! ### methods of lists -/
def lmId : Lm → String
  | .insert => "list.insert"
  | .extend => "list.extend"
  | .reverse => "list.reverse"
  | .pop => "list.pop"
theorem lm_slot {f : Str} {b : Lm} (h : trLm f = some b ∨ (f = "pop" ∧ b = .pop)) : Slot "list" f (lmId b) ∧ typeOf (.builtin (lmId b)) = pure (.type "method_descriptor") := by
  rcases h with h | ⟨rfl, rfl⟩
  · unfold trLm at h
    repeat' split at h
    all_goals first | cases h | skip
    all_goals (rename_i e; subst e)
    · exact ⟨F.slot_list_insert, F.type_list_insert⟩
    · exact ⟨F.slot_list_extend, F.type_list_extend⟩
    · exact ⟨F.slot_list_reverse, F.type_list_reverse⟩
  · exact ⟨F.slot_list_pop, F.type_list_pop⟩
theorem RMs.reverse : ∀ {xs : List M} {vs : List V}, RMs g m H xs vs → RMs g m H xs.reverse vs.reverse
  | [], vs, r => by simp only [RMs] at r; subst r; simp [RMs]
  | x :: xs, vs, r => by
    simp only [RMs] at r
    obtain ⟨v, t, rfl, r1, r2⟩ := r
    rw [List.reverse_cons, List.reverse_cons]
    exact (RMs.reverse r2).append (by simp only [RMs]; exact ⟨v, [], rfl, r1, rfl⟩)
theorem RMs.pair {a b : M} {vs : List V} (r : RMs g m H [a, b] vs) : ∃ u v, vs = [u, v] ∧ RM g m H a u ∧ RM g m H b v := by
  simp only [RMs] at r
  obtain ⟨u, t, rfl, r1, v, t2, rfl, r2, rfl⟩ := r
  exact ⟨u, v, rfl, r1, r2⟩
def RLm (g : G) (Wn : Value → Option Addr → Hp → Prop) (b : Lm) : V → List V → Hp → VK → Prop := fun x vs H Q => ∃ m h y xs, HRel g m h H ∧ RM g m H y x ∧ RMs g m H xs vs ∧ Want g Wn m H (RM g) (lmM h b y xs) Q
theorem lm_ok {Wn : Value → Option Addr → Hp → Prop} (b : Lm) : MtR X (lmId b) (RLm g Wn b) := by
  intro pins s σ H x vs v us Q I rx rv hq
  obtain ⟨m, h, y, xs, rel, ry, rxs, w⟩ := hq
  unfold lmM at w
  split at w
  · rename_i a
    split at w
    · rename_i ys hy
      obtain ⟨p, ws, rfl, e1, sq, r⟩ := lst_at rel hy ry
      split at w
      · rename_i j z
        split at w
        · rename_i c
          obtain ⟨u1, u2, rfl, r1, r2⟩ := rxs.pair
          simp only [RM] at r1
          subst r1
          obtain ⟨_, e, w⟩ := w
          cases e
          refine mt_insert pins s σ H _ _ v us Q I rx rv ⟨p, ws, j, u2, rfl, rfl, sq, by rw [← r.length]; exact c.1, c.2.1, c.2.2, w _ _ _ (rel.write e1 fun cc => ⟨_, upd_same, ?_⟩) (by simp only [RM])⟩
          exact (((r.take _).append (show RMs g m H [z] [u2] by simp only [RMs]; exact ⟨u2, [], rfl, r2, rfl⟩)).append (r.drop _)).car cc
        · exact no_want w
      · rename_i c2
        split at w
        · rename_i zs hz
          split at w
          · rename_i hl
            obtain ⟨u1, rfl, r1⟩ := rxs.one
            obtain ⟨p2, ws2, rfl, e2, sq2, r2⟩ := lst_at rel hz r1
            obtain ⟨_, e, w⟩ := w
            cases e
            exact mt_extend pins s σ H _ _ v us Q I rx rv ⟨p, p2, ws, ws2, rfl, rfl, sq, sq2, by rw [← r.length, ← r2.length]; exact hl, w _ _ _ (rel.write e1 fun cc => ⟨_, upd_same, (r.append r2).car cc⟩) (by simp only [RM])⟩
          · exact no_want w
        · exact no_want w
      · obtain rfl : vs = [] := by simpa [RMs] using rxs
        obtain ⟨_, e, w⟩ := w
        cases e
        exact mt_reverse pins s σ H _ _ v us Q I rx rv ⟨p, ws, rfl, rfl, sq, w _ _ _ (rel.write e1 fun cc => ⟨_, upd_same, r.reverse.car cc⟩) (by simp only [RM])⟩
      · obtain rfl : vs = [] := by simpa [RMs] using rxs
        split at w
        · rename_i z hz
          obtain ⟨u, eu, ru⟩ := r.get hz
          obtain ⟨_, e, w⟩ := w
          cases e
          rw [r.length] at eu
          have dl : RMs g m H ys.dropLast ws.dropLast := by
            rw [List.dropLast_eq_take, List.dropLast_eq_take, r.length]
            exact r.take _
          have st := rel.write (ob := .lst ws.dropLast) (o' := .lst ys.dropLast) e1 fun cc => ⟨_, upd_same, dl.car cc⟩
          exact mt_pop pins s σ H _ _ v us Q I rx rv ⟨p, ws, u, rfl, rfl, sq, eu, w _ _ _ st (ru.step st)⟩
        · exact no_want w
      · exact no_want w
    · exact no_want w
  · exact no_want w
theorem lst_ty {x : M} {v : V} (rel : HRel g m h H) (hi : isLst h x = true) (r : RM g m H x v) : tyV X.K "list" v H := by
  cases x with
  | ref i =>
    simp only [isLst] at hi
    split at hi
    · rename_i ys hy
      obtain ⟨p, vs, rfl, e1, sq, r⟩ := lst_at rel hy r
      exact .inl ⟨rfl, vs, SqL.of sq⟩
    · cases hi
  | _ => cases hi
theorem s_lmt {f : Str} {b : Lm} {oe : Expr} {es : List Expr} {o' : E} {es' : List E} {ap : Pos} (hb : trLm f = some b ∨ (f = "pop" ∧ b = .pop)) (ha : attB oe = true) (hl : (ap.endLine == pos.line) = true) (hn : es.length < 29) (hns : es.all notStar = true) (hle : es.length = es'.length)
    (ho : PE X oe (RE g W P C o')) (hp : PA X es (RA g W P C es')) : PE X (.Call (.Attribute oe f ap) es [] pos) (RE g W P C (.lmt b o' es')) := by
  obtain ⟨sl, ty⟩ := lm_slot hb
  cases es with
  | nil =>
    obtain rfl : es' = [] := List.eq_nil_of_length_eq_zero hle.symm
    refine ⟨fun pins s σ H Q I ⟨m, env, h, sm, w⟩ => (pe_bm0 F.plainAttrs_list sl ty (lm_ok (g := g) (Wn := WE' W σ) b) ho (attB_ok ha) hl).run pins s σ H Q I ?_⟩
    simp only [evE] at w
    refine ⟨m, env, h, sm, (Want.bind w).mono ?_⟩
    rintro x H1 ⟨m1, v1, h1, st1, r1, -, w1⟩
    split at w1
    · rename_i hi
      simp only [evEs, bindO_ok] at w1
      exact ⟨lst_ty st1.rel hi r1, m1, h1, v1, [], st1.rel, r1, by simp [RMs], w1⟩
    · exact no_want w1
  | cons e es =>
    have hns' := hns
    rw [List.all_cons, Bool.and_eq_true] at hns'
    refine ⟨fun pins s σ H Q I ⟨m, env, h, sm, w⟩ => (pe_bm F.plainAttrs_list sl ty (lm_ok (g := g) (Wn := WE' W σ) b) ho hp (attB_ok ha) ?_ hl (star_cons hns'.1) (star_any hns'.2)).run pins s σ H Q I ?_⟩
    · rw [star_all hns]
      simp [backToKw, keywordEach]
      simp at hn
      omega
    · simp only [evE] at w
      refine ⟨m, env, h, sm, (Want.bind w).mono ?_⟩
      rintro x H1 ⟨m1, v1, h1, st1, r1, -, w1⟩
      split at w1
      · rename_i hi
        refine ⟨lst_ty st1.rel hi r1, m1, env, h1, sm.step st1, (Want.bind w1).mono ?_⟩
        rintro xs H2 ⟨m2, ys, h2, st2, r2, -, w2⟩
        exact ⟨m2, h2, v1, ys, st2.rel, r1.step st2, r2, w2⟩
      · exact no_want w1
/-! ### f-strings -/
theorem s_fmt {e : Expr} {e' : E} (he : PE X e (RE g W P C e')) : PE X (.FormattedValue e (-1) none pos) (RE g W P C (.fmt e')) := by
  refine peI (pe_fmt he) fun σ H Q ⟨m, env, h, sm, w⟩ => ?_
  simp only [evE] at w
  refine ⟨m, env, h, sm, (Want.bind w).mono ?_⟩
  rintro x H1 ⟨m1, v1, h1, st1, r1, -, w1⟩
  obtain ⟨z, ez, w1⟩ := w1.okv
  unfold fmtM at ez
  split at ez
  · split at ez
    · rename_i hz
      cases ez
      simp only [RM] at r1
      subst r1
      exact .inl ⟨_, rfl, hz, w1.here st1.rel (by simp only [RM])⟩
    · cases ez
  · split at ez
    · rename_i hz
      cases ez
      simp only [RM] at r1
      subst r1
      exact .inr ⟨_, rfl, hz, w1.here st1.rel (by simp only [RM])⟩
    · cases ez
  · cases ez
/-- the parts of an f-string -/
inductive PJs (X : Cx) (g : G) (W : WX) (P : Tx) (C : Cal) : List Expr → List E → Prop where
  | nil : PJs X g W P C [] []
  | cons {e : Expr} {e' : E} {es : List Expr} {es' : List E} (h : PE X e (RE g W P C e')) (r : PJs X g W P C es es') : PJs X g W P C (e :: es) (e' :: es')
theorem PJs.pj {es : List Expr} {es' : List E} (h : PJs X g W P C es es') : PJ X es (es'.map fun e => RE g W P C e) := by
  induction h with
  | nil => exact .nil
  | cons h r ih => exact .cons h ih
theorem fst_read {σ : St} {Q : Str → Hp → Prop} : ∀ (es : List E) (acc : Str) (m : List Addr) (H : Hp) (h : Hm), Sim g m H h env σ → Want g (WE' W σ) m H (fun _ _ a b => a = b) (evF P C es acc env h) Q → tJs (es.map fun e => RE g W P C e) acc σ H Q
  | [], acc, m, H, h, sm, w => by
    simp only [evF] at w
    exact Want.here sm.rel w rfl
  | e :: es, acc, m, H, h, sm, w => by
    simp only [evF] at w
    show RE g W P C e σ H _
    refine ⟨m, env, h, sm, (Want.bind w).mono ?_⟩
    rintro x H1 ⟨m1, v1, h1, st1, r1, -, w1⟩
    split at w1
    · split at w1
      · rename_i hz
        simp only [RM] at r1
        subst r1
        exact ⟨_, rfl, hz, fst_read es _ m1 H1 h1 (sm.step st1) w1⟩
      · exact no_want w1
    · exact no_want w1
theorem s_fst {v1 v2 : Expr} {rest : List Expr} {es' : List E} (h : PJs X g W P C (v1 :: v2 :: rest) es') : PE X (.JoinedStr (v1 :: v2 :: rest) pos) (RE g W P C (.fst es')) := by
  refine peI (pe_joined h.pj) fun σ H Q ⟨m, env, h, sm, w⟩ => ?_
  simp only [evE] at w
  refine fst_read _ _ m H h sm ((Want.bind w).mono ?_)
  rintro x H1 ⟨m1, v1, h1, st1, rfl, -, w1⟩
  exact w1.here st1.rel (by simp only [RM])
/-! ### any -/
theorem anyB_ok {m : List Addr} {H : Hp} : ∀ {xs : List M} {b : Bool} {vs : List V}, anyB xs = some b → RMs g m H xs vs → ∃ bs : List Bool, vs = bs.map V.bl ∧ b = bs.any id
  | [], b, vs, e, r => by
    simp only [anyB] at e
    cases e
    exact ⟨[], by simpa [RMs] using r, rfl⟩
  | x :: xs, b, vs, e, r => by
    cases x with
    | bl c =>
      simp only [anyB] at e
      obtain ⟨b', e1, rfl⟩ := Option.map_eq_some_iff.mp e
      simp only [RMs] at r
      obtain ⟨v, t, rfl, r1, r2⟩ := r
      obtain ⟨bs, rfl, rfl⟩ := anyB_ok e1 r2
      simp only [RM] at r1
      subst r1
      exact ⟨c :: bs, rfl, by simp⟩
    | _ => simp [anyB] at e
theorem s_any {a : Expr} {l : LE} (o : Okx X g W P C N sc true) (hg : trGlo sc "any" = true) (hn : notStar a = true) (ha : PE X a (RL g W P C l)) : PE X (.Call (.Name "any" p) [a] [] pos) (RE g W P C (.any l)) := by
  obtain ⟨hg1, hd⟩ := trGlo_ok o hg
  refine peI (pe_callB (cr_any (o.calm rfl)) hg1 (o.free "any" (by simp)) (by decide +kernel) (pa_cons ha pa_nil (star_cons hn)) (by decide) hd (star_cons hn) rfl) fun σ H Q ⟨m, env, h, sm, w⟩ => ?_
  simp only [evE] at w
  refine ⟨m, env, h, sm, (Want.bind w).mono ?_⟩
  rintro x H1 ⟨m1, xs, h1, st1, ⟨a, vs, rfl, h0, na, hl, r⟩, -, w1⟩
  obtain ⟨z, e, w1⟩ := w1.okv
  obtain ⟨b, e', rfl⟩ := Option.map_eq_some_iff.mp e
  obtain ⟨bs, rfl, rfl⟩ := anyB_ok e' r
  exact ⟨a, bs, rfl, SqL.of hl, w1.here st1.rel (by simp only [RM])⟩
end
end MP
namespace MP
open PySem L2
section
variable {X : Cx} {g : G} {W : WX} {P : Tx} {C : Cal} {N : List Str} {sc : Scope} {k : Bool} {pos p : Pos} {m : List Addr} {H : Hp} {h : Hm} {Wn : Value → Option Addr → Hp → Prop} {Q : VK} {tg : Expr}
/-! ### what is walked -/
/-- from here on J yields xs, item by item, as long as gs stay -/
def Walk (g : G) (m1 : List Addr) (H1 : Hp) (xs : List M) (gs : List (Nat × O)) (J : It) : Prop :=
  ∀ m H h, Step g m1 H1 h m H → kept h gs → ∀ i, (∀ x, xs[i]? = some x → J.go i H ∧ ∀ v H', J.yld i H v H' → Step g m H h m H' ∧ RM g m H' x v) ∧ (xs.length ≤ i → J.stop i H)
/-- iter of a value: a list, a tuple, a text -/
def IterV (K : PySem.W.Frag) (x : V) (H1 : Hp) (R : It → Hp → Prop) : Prop := (∃ a, x = .ref a ∧ ((∃ xs, SqL K H1 a xs) ∧ R (Itl K a) H1 ∨ (∃ xs, SqT K H1 a xs) ∧ R (Itt K a) H1)) ∨ ∃ z, x = .str z ∧ R (Its z) H1
def iAny (K : PySem.W.Frag) (tl : TE) : TI := fun σ H R => tl σ H fun x H1 => IterV K x H1 R
theorem pi_any {l : Expr} {tl : TE} (hl : PE X l tl) : PI X tg l (iAny X.K tl) := by
  refine ⟨fun pins s σ H R I h => ?_⟩
  refine thn (hl.run pins s σ H _ I h) fun v s1 ⟨x, H1, I1, r1, q1⟩ => ?_
  rcases q1 with ⟨a, e, ⟨⟨xs, hq⟩, q⟩ | ⟨⟨xs, hq⟩, q⟩⟩ | ⟨x, ex, q⟩
  · subst e
    cases r1
    obtain ⟨its, rv, p, hz⟩ := I1.list hq
    refine wpAny_pyIter_list p.isList ?_
    refine ⟨s1.heap.objs.size, [s1.heap.objs.size], _, _, H1, rfl, I1.kept (t' := s1.toks) fun b o e => Heap.get?_push_of_some _ e, turn_list a _, ⟨_, Heap.get?_push_size _ rfl, rfl, rfl⟩, fun b hb => ?_, q⟩
    have e : b = s1.heap.objs.size := by simpa using hb
    subst e
    exact I1.fpOk (Nat.le_refl _) (I1.hok.fresh (Nat.le_refl _))
  · subst e
    cases r1
    obtain ⟨its, rv, p, hz⟩ := I1.tuple hq
    refine wpAny_pyIter_tuple (show s1.heap.IsTuple a its.toArray from p) ?_
    refine ⟨s1.heap.objs.size, [s1.heap.objs.size], _, _, H1, rfl, I1.kept (t' := s1.toks) fun b o e => Heap.get?_push_of_some _ e, turn_tuple a _, ⟨_, Heap.get?_push_size _ rfl, rfl, rfl⟩, fun b hb => ?_, q⟩
    have e : b = s1.heap.objs.size := by simpa using hb
    subst e
    exact I1.fpOk (Nat.le_refl _) (I1.hok.fresh (Nat.le_refl _))
  · subst ex
    obtain ⟨t, rfl⟩ := r1
    cases ha : x.cps.all (· < 128)
    · exact wpAny_pyIter_wide ha (pi_one (tk := s1.toks) I1 _ (turn_str _ x t "str_iterator" (.inr rfl)) ⟨_, Heap.get?_push_size _ rfl, rfl, rfl⟩ q)
    · exact wpAny_pyIter_ascii ha (pi_one (tk := s1.toks) I1 _ (turn_str _ x t "str_ascii_iterator" (.inl rfl)) ⟨_, Heap.get?_push_size _ rfl, rfl, rfl⟩ q)
theorem walk_L {xs : List M} {gs : List (Nat × O)} {a : Addr} {m1 : List Addr} {H1 : Hp} {K : PySem.W.Frag} (f : ∀ m H h, Step g m1 H1 h m H → kept h gs → ∃ vs, SqL K H a vs ∧ RMs g m H xs vs) : Walk g m1 H1 xs gs (Itl K a) := by
  intro m H h st kp i
  obtain ⟨vs, sq, r⟩ := f m H h st kp
  refine ⟨fun x e => ?_, fun hi => ⟨vs, sq, by rw [← r.length]; exact hi⟩⟩
  obtain ⟨v, e1, r1⟩ := r.get e
  refine ⟨⟨vs, v, sq, e1⟩, fun w H' y => ?_⟩
  obtain ⟨rfl, y⟩ := y
  refine ⟨Step.refl st.rel, ?_⟩
  have := y vs sq
  rw [e1] at this
  cases this
  exact r1
theorem walk_T {xs : List M} {gs : List (Nat × O)} {a : Addr} {m1 : List Addr} {H1 : Hp} {K : PySem.W.Frag} (f : ∀ m H h, Step g m1 H1 h m H → kept h gs → ∃ vs, SqT K H a vs ∧ RMs g m H xs vs) : Walk g m1 H1 xs gs (Itt K a) := by
  intro m H h st kp i
  obtain ⟨vs, sq, r⟩ := f m H h st kp
  refine ⟨fun x e => ?_, fun hi => ⟨vs, sq, by rw [← r.length]; exact hi⟩⟩
  obtain ⟨v, e1, r1⟩ := r.get e
  refine ⟨⟨vs, v, sq, e1⟩, fun w H' y => ?_⟩
  obtain ⟨rfl, y⟩ := y
  refine ⟨Step.refl st.rel, ?_⟩
  have := y vs sq
  rw [e1] at this
  cases this
  exact r1
theorem walk_S {z : Str} {gs : List (Nat × O)} {m1 : List Addr} {H1 : Hp} : Walk g m1 H1 (z.cps.toList.map fun c => M.str ⟨#[c]⟩) gs (Its z) := by
  intro m H h st kp i
  refine ⟨fun x e => ?_, fun hi => ?_⟩
  · rw [List.getElem?_map] at e
    obtain ⟨c, e1, rfl⟩ := Option.map_eq_some_iff.mp e
    have e2 : z.cps[i]? = some c := by rw [← Array.getElem?_toList]; exact e1
    refine ⟨(Array.getElem?_eq_some_iff.mp e2).1, fun v H' y => ?_⟩
    obtain ⟨rfl, c', e3, rfl⟩ := y
    rw [e2] at e3
    cases e3
    exact ⟨Step.refl st.rel, by simp only [RM]⟩
  · show z.cps.size ≤ i
    simpa using hi
theorem walk_R {j : Int} {gs : List (Nat × O)} {m1 : List Addr} {H1 : Hp} : Walk g m1 H1 ((List.range j.toNat).map fun i => M.int (i : Nat)) gs (Itr 0 j.toNat) := by
  intro m H h st kp i
  refine ⟨fun x e => ?_, fun hi => by show j.toNat ≤ i; rw [List.length_map, List.length_range] at hi; exact hi⟩
  rw [List.getElem?_map] at e
  obtain ⟨c, e1, rfl⟩ := Option.map_eq_some_iff.mp e
  obtain ⟨hl, e2⟩ := List.getElem?_eq_some_iff.mp e1
  rw [List.length_range] at hl
  rw [List.getElem_range] at e2
  subst e2
  refine ⟨hl, fun v H' y => ?_⟩
  obtain ⟨rfl, rfl⟩ := y
  exact ⟨Step.refl st.rel, by simp [RM]⟩
/-- a value that is walked -/
theorem iter_read {x : M} {v : V} {xs : List M} {m1 : List Addr} {H1 : Hp} {h1 : Hm} {R : It → Hp → Prop} (hK : g.K = X.K) (rel : HRel g m1 h1 H1) (e : iterM h1 x = some xs) (r : RM g m1 H1 x v) (hR : ∀ J, Walk g m1 H1 xs (guardM h1 x) J → R J H1) :
    IterV X.K v H1 R := by
  cases x with
  | str z =>
    cases e
    simp only [RM] at r
    subst r
    exact .inr ⟨z, rfl, hR _ walk_S⟩
  | tup ys =>
    cases e
    simp only [RM] at r
    obtain ⟨a, vs, rfl, sq, r⟩ := r
    refine .inl ⟨a, rfl, .inr ⟨⟨vs, by rw [← hK]; exact sq⟩, hR _ (walk_T fun m H h st _ => ⟨vs, by rw [← hK]; exact st.ext a vs sq, r.step st⟩)⟩⟩
  | rol ys =>
    cases e
    simp only [RM] at r
    obtain ⟨a, vs, rfl, sq, r⟩ := r
    refine .inl ⟨a, rfl, .inl ⟨⟨vs, by rw [← hK]; exact roL_sq sq⟩, hR _ (walk_L fun m H h st _ => ⟨vs, by rw [← hK]; exact roL_sq (st.rol a vs sq), r.step st⟩)⟩⟩
  | ref i =>
    simp only [iterM, itemsM] at e
    split at e
    · rename_i ys hy
      cases e
      have r' := r
      obtain ⟨a, vs, rfl, _, sq, r⟩ := lst_at rel hy r
      refine .inl ⟨a, rfl, .inl ⟨⟨vs, SqL.of sq⟩, hR _ (walk_L fun m H h st kp => ?_)⟩⟩
      have hi : h[i]? = some (.lst xs) := by
        have := kp (i, .lst xs) (by simp [guardM, hy])
        exact this
      obtain ⟨a', ws, e1, _, sq', r1⟩ := lst_at st.rel hi (r'.step st)
      cases e1
      exact ⟨ws, SqL.of sq', r1⟩
    · cases e
  | _ => cases e
/-- a list just made is walked -/
theorem walk_new {xs : List M} {vs : List V} {a : Addr} {m1 : List Addr} {H1 : Hp} {K : PySem.W.Frag} (na : a ∉ m1) (hl : H1 a = some (.lst vs)) (r : RMs g m1 H1 xs vs) : Walk g m1 H1 xs [] (Itl K a) :=
  walk_L fun m H h st _ => ⟨vs, SqL.of (st.out hl na).2, r.step st⟩

/-- what a for or a comprehension walks: whatever yields the items -/
def RI (g : G) (W : WX) (P : Tx) (C : Cal) (i : IT) : TI := fun σ H R => ∃ m env h, Sim g m H h env σ ∧ ∃ r, evI P C i env h = some r ∧ match r with
  | .ok xg h1 => ∀ m1 H1 J, Step g m H h1 m1 H1 → Walk g m1 H1 xg.1 xg.2 J → R J H1
  | .exc c fs h1 => ∀ m1 H1 cls d, Step g m H h1 m1 H1 → RX g m1 H1 c fs cls d → W cls d σ H1
theorem piI {l : Expr} {t t' : TI} (h : PI X tg l t) (f : ∀ σ H R, t' σ H R → t σ H R) : PI X tg l t' := ⟨fun pins s σ H R I q => h.run pins s σ H R I (f σ H R q)⟩
theorem i_v {it : Expr} {e : E} (hK : g.K = X.K) (hi : PE X it (RE g W P C e)) : PI X tg it (RI g W P C (.v e)) := by
  refine piI (pi_any hi) fun σ H R ⟨m, env, h, sm, r, e1, w⟩ => ?_
  simp only [evI] at e1
  cases ee : evE P C e env h with
  | none => rw [ee] at e1; cases e1
  | some o =>
    rw [ee] at e1
    cases o with
    | exc c fs h1 => cases e1; exact ⟨m, env, h, sm, _, ee, w⟩
    | ok x h1 =>
      simp only [bindO_ok] at e1
      refine ⟨m, env, h, sm, _, ee, fun m1 H1 b st rb => ?_⟩
      cases ei : iterM h1 x with
      | none => rw [ei] at e1; cases e1
      | some xs =>
        rw [ei] at e1
        cases e1
        exact iter_read hK st.rel ei rb fun J wk => w m1 H1 J st wk
theorem i_l {it : Expr} {l : LE} (hi : PE X it (RL g W P C l)) : PI X tg it (RI g W P C (.l l)) := by
  refine piI (pi_list hi) fun σ H R ⟨m, env, h, sm, r, e1, w⟩ => ?_
  simp only [evI] at e1
  cases ee : evL P C l env h with
  | none => rw [ee] at e1; cases e1
  | some o =>
    rw [ee] at e1
    cases o with
    | exc c fs h1 => cases e1; exact ⟨m, env, h, sm, _, ee, w⟩
    | ok xs h1 =>
      simp only [bindO_ok] at e1
      cases e1
      refine ⟨m, env, h, sm, _, ee, fun m1 H1 b st rb => ?_⟩
      obtain ⟨a, vs, rfl, h0, na, hl, r⟩ := rb
      exact ⟨a, rfl, ⟨vs, SqL.of hl⟩, w m1 H1 _ st (walk_new na hl r)⟩
theorem i_r {n : Expr} {n' : E} {rp cp : Pos} (o : Okx X g W P C N sc k) (hg1 : trGlo sc "range" = true) (hn : notStar n = true) (hi : PE X n (RE g W P C n')) : PI X tg (.Call (.Name "range" rp) [n] [] cp) (RI g W P C (.rng n')) := by
  obtain ⟨hgl, hd⟩ := trGlo_ok o hg1
  refine piI (pi_range1 hgl (o.free "range" (by simp)) (pa_cons hi pa_nil (star_cons hn)) (star_cons hn)) fun σ H R ⟨m, env, h, sm, r, e1, w⟩ => ?_
  simp only [evI] at e1
  cases ee : evE P C n' env h with
  | none => rw [ee] at e1; cases e1
  | some o =>
    rw [ee] at e1
    cases o with
    | exc c fs h1 => cases e1; exact ⟨m, env, h, sm, _, ee, w⟩
    | ok x h1 =>
      simp only [bindO_ok] at e1
      cases x with
      | int j =>
        dsimp only at e1
        by_cases c : -(2 ^ 62) ≤ j ∧ j < 2 ^ 62
        · rw [if_pos c] at e1
          cases e1
          refine ⟨m, env, h, sm, _, ee, fun m1 H1 b st rb => ?_⟩
          simp only [RM] at rb
          subst rb
          exact ⟨j, rfl, c.1, c.2, w m1 H1 _ st walk_R⟩
        · rw [if_neg c] at e1; cases e1
      | _ => cases e1
theorem asgN_ok {i : Nat} {v : M} {env env' : Ev} (h : asgN i v env = some env') : i < env.length ∧ env' = env.set i (some v) := by
  unfold asgN at h
  split at h
  · rename_i c; cases h; exact ⟨c, rfl⟩
  · cases h
theorem trLoc {x : Str} (o : Okx X g W P C N sc k) (h : isLoc (sc.names.lookup x) = true) : Loc X.env.scope x := by rw [o.sc]; exact isLoc_ok h
/-! ### targets -/
/-- the same but for some slots -/
structure Agr (ss : List Nat) (σ σ' : St) : Prop where
  len : σ'.length = σ.length
  eq : ∀ j, j ∉ ss → σ'[j]? = σ[j]?
theorem Agr.refl {ss : List Nat} {σ : St} : Agr ss σ σ := ⟨rfl, fun _ _ => rfl⟩
theorem Agr.app {ss us : List Nat} {σ σ' σ2 : St} (a : Agr ss σ σ') (b : Agr us σ' σ2) : Agr (ss ++ us) σ σ2 := ⟨b.len.trans a.len, fun j hj => by
  rw [List.mem_append, not_or] at hj
  exact (b.eq j hj.2).trans (a.eq j hj.1)⟩
theorem Agr.set {i : Nat} {σ : St} {v : Option V} : Agr [i] σ (σ.set i v) := ⟨by simp, fun j hj => List.getElem?_set_ne (fun e => hj (by simp [e]))⟩
/-- what a target does to the frame's names -/
def RG (g : G) (t : T) : TG := fun v σ H Q => ∃ m env h x env', Sim g m H h env σ ∧ RM g m H x v ∧ asgT t x env = some env' ∧ ∀ σ', ER g m H env' σ' → Agr (slotsT t) σ σ' → Q σ' H
def RGs (g : G) (ts : List T) : TGs := fun vs σ H Q => ∃ m env h xs env', Sim g m H h env σ ∧ RMs g m H xs vs ∧ asgTs ts xs env = some env' ∧ ∀ σ', ER g m H env' σ' → Agr (slotsTs ts) σ σ' → Q σ' H
theorem pgI {e : Expr} {t t' : TG} (h : PG X e t) (f : ∀ v σ H Q, t' v σ H Q → t v σ H Q) : PG X e t' := ⟨fun pins s σ H v u Q I r q => h.run pins s σ H v u Q I r (f v σ H Q q)⟩
theorem pgsI {e : List Expr} {t t' : TGs} (h : PGs X e t) (f : ∀ v σ H Q, t' v σ H Q → t v σ H Q) : PGs X e t' := ⟨fun pins s σ H v u Q I r q => h.run pins s σ H v u Q I r (f v σ H Q q)⟩
theorem g_nm {x : Str} {i : Nat} {xp : Pos} (o : Okx X g W P C N sc k) (hx : slotOf N x = some i) (hl : isLoc (sc.names.lookup x) = true) (hf : X.fn x = true ∨ sc.names.lookup x = some .local) : PG X (.Name x xp) (RG g (.nm i)) := by
  refine pgI (pg_name (i := i) o.nd (by rw [o.N]; exact slotOf_get hx) (trLoc o hl) (hf.imp id fun z => by show X.env.scope.names.lookup x = _; rw [o.sc]; exact z)) fun v σ H Q ⟨m, env, h, x, env', sm, r, e, q⟩ => ?_
  simp only [asgT] at e
  obtain ⟨hl, rfl⟩ := asgN_ok e
  exact q _ (sm.er.set r) Agr.set
theorem g_nil : PGs X [] (RGs g []) := pgsI pgs_nil fun vs σ H Q ⟨m, env, h, xs, env', sm, r, e, q⟩ => by
  cases xs with
  | nil =>
    simp only [asgTs] at e
    cases e
    simp only [RMs] at r
    exact ⟨r, q _ sm.er Agr.refl⟩
  | cons y ys => simp [asgTs] at e
theorem asgTs_cons {t : T} {ts : List T} {xs : List M} {env env' : Ev} (e : asgTs (t :: ts) xs env = some env') : ∃ x ys env1, xs = x :: ys ∧ asgT t x env = some env1 ∧ asgTs ts ys env1 = some env' := by
  cases xs with
  | nil => simp [asgTs] at e
  | cons x ys =>
    simp only [asgTs] at e
    cases ea : asgT t x env with
    | none => rw [ea] at e; cases e
    | some env1 => rw [ea] at e; exact ⟨x, ys, env1, rfl, ea, e⟩
theorem g_cons {e : Expr} {es : List Expr} {t : T} {ts : List T} (hn : notStar e = true) (h1 : PG X e (RG g t)) (h2 : PGs X es (RGs g ts)) : PGs X (e :: es) (RGs g (t :: ts)) := by
  refine pgsI (pgs_cons h1 h2 (by cases e <;> first | rfl | cases hn)) fun vs σ H Q ⟨m, env, h, xs, env', sm, r, e, q⟩ => ?_
  obtain ⟨x, ys, env1, rfl, e1, e2⟩ := asgTs_cons e
  simp only [RMs] at r
  obtain ⟨v, vr, rfl, r1, r2⟩ := r
  exact ⟨v, vr, rfl, m, env, h, x, env1, sm, r1, e1, fun σ' er ag => ⟨m, env1, h, ys, env', ⟨er, sm.rel⟩, r2, e2, fun σ2 er2 ag2 => q σ2 er2 (ag.app ag2)⟩⟩
theorem asgTs_len : ∀ {ts : List T} {xs : List M} {env env' : Ev}, asgTs ts xs env = some env' → xs.length = ts.length
  | [], [], _, _, _ => rfl
  | [], _ :: _, _, _, e => by simp [asgTs] at e
  | t :: ts, xs, env, env', e => by
    obtain ⟨x, ys, env1, rfl, e1, e2⟩ := asgTs_cons e
    simp [asgTs_len e2]
theorem each_len : ∀ {es : List Expr} {env : Env}, (assignEach es env).length = es.length
  | [], _ => rfl
  | e :: es, env => by
    have ih := each_len (es := es) (env := env)
    cases e <;> simp [assignEach, ih]
theorem each_star : ∀ {es : List Expr} {env : Env}, es.all notStar = true → (assignEach es env).findIdx? (·.1) = none
  | [], _, _ => rfl
  | e :: es, env, h => by
    rw [List.all_cons, Bool.and_eq_true] at h
    have ih := each_star (env := env) h.2
    have e1 : assignEach (e :: es) env = (false, assign e env) :: assignEach es env := by
      have := h.1
      cases e <;> first | rfl | cases this
    rw [e1, List.findIdx?_cons]
    simp [ih]
theorem g_tp {es : List Expr} {ts : List T} {n : Nat} {tp : Pos} (o : Okx X g W P C N sc k) (hc : X.calm = true) (hns : es.all notStar = true) (hlen : es.length = ts.length) (h : PGs X es (RGs g ts)) : PG X (.Tuple es n tp) (RG g (.tp ts)) := by
  refine pgI (pg_tup hc h each_len (each_star hns)) fun v σ H Q ⟨m, env, h, x, env', sm, r, e, q⟩ => ?_
  cases x with
  | tup xs =>
    simp only [asgT] at e
    simp only [RM] at r
    obtain ⟨a, vs, rfl, sq, r⟩ := r
    rw [o.K] at sq
    exact ⟨a, vs, rfl, sq, by rw [← r.length, asgTs_len e, hlen], m, env, h, xs, env', sm, r, e, q⟩
  | _ => simp [asgT] at e
/-! ### comprehensions -/
/-- the place of a comprehension's block -/
theorem Okx.blk (o : Okx X g W P C N sc true) {scope : Scope} (s : Shared) (H : Hp) (Ca : Addr) (cl : List (Str × Addr)) (fp : List Addr) {xe : Value → Shared → Prop} {Wb : WX} (tk : Takes (Cxb X s H scope (compEnvC scope cl Ca X.env) fp xe) Wb) (tf : TakesF (Cxb X s H scope (compEnvC scope cl Ca X.env) fp xe) Wb) : Okx (Cxb X s H scope (compEnvC scope cl Ca X.env) fp xe) g Wb P C N (relS scope sc) true where
  K := o.K
  mg := o.mg
  w := o.w
  N := o.N
  nd := o.nd
  sc := by rw [← o.sc]; rfl
  calm := o.calm
  units := o.units
  guards := o.guards
  con := o.con
  free := o.free
  sys := o.sys
  tk := tk
  tkf := fun _ => tf
  xi := o.xi
  fns := o.fns
  room := o.room
  err := o.err
  sub := o.sub
  fld := o.fld
  isc := o.isc
  ex := fun i c fs e => by rw [(o.xi rfl).2] at e; cases e
/-- the same where no error may leave -/
theorem Okx.blk0 (o : Okx X g W P C N sc true) {scope : Scope} (s : Shared) (H : Hp) (Ca : Addr) (cl : List (Str × Addr)) (fp : List Addr) : Okx (X.blk s H scope (compEnvC scope cl Ca X.env) fp) g (fun _ _ _ _ => False) P C N (relS scope sc) true where
  K := o.K
  mg := o.mg
  w := o.w
  N := o.N
  nd := o.nd
  sc := by rw [← o.sc]; rfl
  calm := o.calm
  units := o.units
  guards := o.guards
  con := o.con
  free := o.free
  sys := o.sys
  tk := takes_none5
  tkf := fun _ => by
    obtain ⟨L, e0, out, t1, t2, t3, _⟩ := o.tkf rfl
    exact ⟨L, e0, out, t1, t2, t3, fun u s' ⟨_, _, _, _, _, _, _, _, _, _, _, _, _, _, _, _, z⟩ => z.elim⟩
  xi := o.xi
  fns := o.fns
  room := o.room
  err := o.err
  sub := o.sub
  fld := o.fld
  isc := o.isc
  ex := fun i c fs e => by rw [(o.xi rfl).2] at e; cases e
/-- the tests of a comprehension: one or none -/
def RTs (g : G) (W : WX) (P : Tx) (C : Cal) (c : Option E) : TT := fun σ H Q => ∃ m env h, Sim g m H h env σ ∧ Want g (WE' W σ) m H (fun _ _ a b => a = b) (evC P C c env h) Q
theorem c_none : PTs X [] (RTs g W P C none) := by
  have z := pts_nil (X := X)
  refine ⟨fun pins s σ H Q I ⟨m, env, h, sm, w⟩ => z.run pins s σ H Q I ?_⟩
  simp only [evC] at w
  exact w.here sm.rel rfl
theorem c_some {e : Expr} {e' : E} (he : PT X e (RT g W P C e')) : PTs X [e] (RTs g W P C (some e')) := by
  have z := pts_one he
  refine ⟨fun pins s σ H Q I ⟨m, env, h, sm, w⟩ => z.run pins s σ H Q I ?_⟩
  simp only [evC] at w
  exact ⟨m, env, h, sm, w⟩
theorem wipe_len {σ : St} : ∀ vs : List Nat, (wipe σ vs).length = σ.length
  | [] => rfl
  | v :: vs => by show ((wipe σ vs).set v none).length = _; rw [List.length_set, wipe_len vs]
theorem wipe_at {σ : St} {j : Nat} : ∀ {vs : List Nat}, j ∈ vs → j < σ.length → (wipe σ vs)[j]? = some none
  | v :: vs, hj, hl => by
    show ((wipe σ vs).set v none)[j]? = _
    by_cases e : v = j
    · subst e
      exact List.getElem?_set_self (by rw [wipe_len]; exact hl)
    · rw [List.getElem?_set_ne e]
      exact wipe_at (by rcases List.mem_cons.mp hj with z | z; exact absurd z.symm e; exact z) hl
theorem wipe_out {σ : St} {j : Nat} : ∀ {vs : List Nat}, j ∉ vs → (wipe σ vs)[j]? = σ[j]?
  | [], _ => rfl
  | v :: vs, hj => by
    show ((wipe σ vs).set v none)[j]? = _
    rw [List.getElem?_set_ne (fun e => hj (by simp [e]))]
    exact wipe_out (fun z => hj (List.mem_cons_of_mem _ z))
theorem wipe_agr {σ τ : St} {ss vs : List Nat} (a : Agr ss (wipe σ vs) τ) (hs : ∀ j ∈ ss, j ∈ vs) : wipe τ vs = wipe σ vs := by
  have hl : τ.length = σ.length := by rw [a.len, wipe_len]
  refine List.ext_getElem? fun j => ?_
  by_cases hj : j ∈ vs
  · by_cases hlt : j < σ.length
    · rw [wipe_at hj hlt, wipe_at hj (by omega)]
    · rw [List.getElem?_eq_none (by rw [wipe_len]; omega), List.getElem?_eq_none (by rw [wipe_len]; omega)]
  · rw [wipe_out hj, a.eq j (fun z => hj (hs j z)), wipe_out hj]
/-- a list of which the store does not tell is changed -/
theorem Step.updOutO {m m' : List Addr} {H H' : Hp} {h' : Hm} {D : Addr} {u u' : HO} (s : Step g m H h' m' H') (h0 : H D = none) (nD : D ∉ m') (eD : H' D = some u) (hs : stl u = false) (hm : Mut (some u)) : Step g m H h' m' (upd H' D u') ∧ Car g m' H' m' (upd H' D u') := by
  have mu : H' D = none ∨ ∃ u, H' D = some u ∧ Mut (some u) := .inr ⟨_, eD, hm⟩
  have c : Car g m' H' m' (upd H' D u') := ⟨fun _ _ e => e, fun a o e no n => ⟨n, by rw [upd_ne (show a ≠ D from fun z => by subst z; rw [eD] at e; cases e; rw [hs] at no; exact (nomatch no))]; exact e⟩, fun _ _ e => sqT_upd e mu, fun _ _ e => roL_upd e mu⟩
  refine ⟨⟨s.pre, fun a o e n => ?_, fun a vs e => sqT_upd (s.ext a vs e) mu, fun a vs e => roL_upd (s.rol a vs e) mu, s.rel.len, s.rel.inj, fun i o e => ?_⟩, c⟩
  · rw [upd_ne (show a ≠ D from fun z => by subst z; rw [h0] at e; cases e)]
    exact s.frm a o e n
  · obtain ⟨a, e1, q⟩ := s.rel.obj i o e
    exact ⟨a, e1, q.upd c fun z => nD (by rw [← z]; exact List.mem_of_getElem? e1)⟩
theorem Step.updOut {m m' : List Addr} {H H' : Hp} {h' : Hm} {D : Addr} {ws ws' : List V} (s : Step g m H h' m' H') (h0 : H D = none) (nD : D ∉ m') (eD : H' D = some (.lst ws)) : Step g m H h' m' (upd H' D (.lst ws')) ∧ Car g m' H' m' (upd H' D (.lst ws')) := s.updOutO h0 nD eD rfl trivial
/-- the turns of a comprehension -/
theorem lc_read {W : WX} (hx : g.xi = none) {vs : List Nat} {t : T} {c : Option E} {e' : E} {σ : St} {env : Ev} {xs : List M} {gs : List (Nat × O)} {J : It} {m0 m1 : List Addr} {H0 H1 : Hp} {h1 : Hm} {Qv : VK} (ht : ∀ j ∈ slotsT t, j ∈ vs) (st0 : Step g m0 H0 h1 m1 H1) (er : ER g m1 H1 env σ) (wk : Walk g m1 H1 xs gs J)
    (w : Want g (WE' W σ) m0 H0 (LR g H0) (bindO (lcGo (fun y h2 => open Classical in if kept h2 gs then match asgT t y (wipeM env vs) with
        | some env2 => bindO (evC P C c env2 h2) fun k h3 => if k = true then bindO (evE P C e' env2 h3) fun z h4 => some (.ok (some z) h4) else some (.ok none h3)
        | none => none else none) xs [] h1) fun ys h2 => open Classical in if kept h2 gs then some (.ok ys h2) else none) Qv) :
    ∀ D, H1 D = none → ∃ Wi : Nat → Nat → Hp → Prop, (∃ n, Wi 0 n (upd H1 D (.lst []))) ∧ ∀ i n H, Wi i n H →
      (J.stop i H ∧ Qv (.ref D) H) ∨ (J.go i H ∧ ∃ Nx : Hp → Prop, (∀ H', Nx H' → ∃ n', n' < n ∧ Wi (i + 1) n' H') ∧ ∀ x H', J.yld i H x H' → RG g t x (wipe σ vs) H' fun σ2 H2 => wipe σ2 vs = wipe σ vs ∧ RTs g (fun cc d _ H' => W cc d σ H') P C c σ2 H2 fun b H3 =>
        if b = true then RE g (fun cc d _ H' => W cc d σ H') P C e' σ2 H3 fun y H4 => ∃ acc, H4 D = some (.lst acc) ∧ acc.length < sizeLine ∧ Nx (upd H4 D (.lst (acc ++ [y]))) else Nx H3) := by
  intro D hD
  generalize hf : (fun y h2 => open Classical in if kept h2 gs then match asgT t y (wipeM env vs) with
        | some env2 => bindO (evC P C c env2 h2) fun k h3 => if k = true then bindO (evE P C e' env2 h3) fun z h4 => some (.ok (some z) h4) else some (.ok none h3)
        | none => none else none) = f at w
  obtain ⟨r, er0, w⟩ := w
  cases er1 : lcGo f xs [] h1 with
  | none => rw [er1] at er0; cases er0
  | some r1 =>
  rw [er1] at er0
  have hD0 : H0 D = none := st0.fresh hD
  refine ⟨fun i n H => n = xs.length - i ∧ i ≤ xs.length ∧ ∃ m h acc ws, Step g m1 H1 h m H ∧ D ∉ m ∧ H D = some (.lst ws) ∧ RMs g m H acc ws ∧ lcGo f (xs.drop i) acc h = some r1, ⟨xs.length, by simp, Nat.zero_le _, m1, h1, [], [], st0.rel.laid hD, st0.rel.notIn hD, upd_same, by simp [RMs], by simpa using er1⟩, ?_⟩
  rintro i n Hc ⟨rfl, hi, m, h, acc, ws, st, nD, eD, ra, go⟩
  by_cases hlt : i < xs.length
  · have ex : xs[i]? = some xs[i] := List.getElem?_eq_getElem hlt
    rw [List.drop_eq_getElem_cons hlt] at go
    simp only [lcGo] at go
    cases ef : f xs[i] h with
    | none => rw [ef] at go; cases go
    | some o =>
      rw [ef] at go
      have err : ∀ {c2 : Str} {fs : List (Str × M)} {h2 : Hm}, o = .exc c2 fs h2 → ∀ m' H' cls d, Step g m0 H0 h2 m' H' → RX g m' H' c2 fs cls d → W cls d σ H' := by
        intro c2 fs h2 eo
        subst eo
        cases go
        cases er0
        exact w
      cases o with
      | exc c2 fs h2 =>
        have err := err rfl
        rw [← hf] at ef
        simp only at ef
        by_cases kp : kept h gs
        · rw [if_pos kp] at ef
          cases ea : asgT t xs[i] (wipeM env vs) with
          | none => rw [ea] at ef; cases ef
          | some env2 =>
            rw [ea] at ef
            dsimp only at ef
            obtain ⟨g1, y1⟩ := (wk m Hc h st kp i).1 _ ex
            refine .inr ⟨g1, fun _ => False, fun _ z => z.elim, fun x H' y => ?_⟩
            obtain ⟨sy, rx⟩ := y1 x H' y
            have st := st.trans sy
            refine ⟨m, wipeM env vs, h, xs[i], env2, ⟨(er.car st.car).wipe hx vs, st.rel⟩, rx, ea, fun σ2 er2 ag => ⟨wipe_agr ag ht, ?_⟩⟩
            cases ec : evC P C c env2 h with
            | none => rw [ec] at ef; cases ef
            | some oc =>
              rw [ec] at ef
              refine ⟨m, _, h, ⟨er2, st.rel⟩, _, ec, ?_⟩
              cases oc with
              | exc c3 fs3 h3 =>
                cases ef
                exact fun m' H' cls d st' rx' => err m' H' cls d ((st0.trans st).trans st') rx'
              | ok q h3 =>
                intro m3 H3 b st3 eb
                subst eb
                simp only [bindO_ok] at ef
                cases q with
                | false => simp only [Bool.false_eq_true, if_false] at ef; cases ef
                | true =>
                  simp only [if_true] at ef ⊢
                  cases ee : evE P C e' env2 h3 with
                  | none => rw [ee] at ef; cases ef
                  | some oe =>
                    rw [ee] at ef
                    cases oe with
                    | ok z h4 => cases ef
                    | exc c3 fs3 h4 =>
                      cases ef
                      exact ⟨m3, _, h3, ⟨er2.car st3.car, st3.rel⟩, _, ee, fun m' H' cls d st' rx' => err m' H' cls d (((st0.trans st).trans st3).trans st') rx'⟩
        · rw [if_neg kp] at ef; cases ef
      | ok oy h' =>
        rw [← hf] at ef
        simp only at ef
        by_cases kp : kept h gs
        · rw [if_pos kp] at ef
          cases ea : asgT t xs[i] (wipeM env vs) with
          | none => rw [ea] at ef; cases ef
          | some env2 =>
            rw [ea] at ef
            dsimp only at ef
            obtain ⟨g1, y1⟩ := (wk m Hc h st kp i).1 _ ex
            -- the list so far, behind what a turn does
            refine .inr ⟨g1, fun H' => ∃ m2 h2 acc2 ws2, Step g m1 H1 h2 m2 H' ∧ D ∉ m2 ∧ H' D = some (.lst ws2) ∧ RMs g m2 H' acc2 ws2 ∧ lcGo f (xs.drop (i + 1)) acc2 h2 = some r1, fun H' ⟨m2, h2, acc2, ws2, a1, a2, a3, a4, a5⟩ => ⟨xs.length - (i + 1), by omega, rfl, hlt, m2, h2, acc2, ws2, a1, a2, a3, a4, a5⟩, fun x H' y => ?_⟩
            obtain ⟨sy, rx⟩ := y1 x H' y
            have st := st.trans sy
            obtain ⟨nD, eD⟩ := sy.out eD nD
            have ra := ra.step sy
            refine ⟨m, wipeM env vs, h, xs[i], env2, ⟨(er.car st.car).wipe hx vs, st.rel⟩, rx, ea, fun σ2 er2 ag => ⟨wipe_agr ag ht, ?_⟩⟩
            cases ec : evC P C c env2 h with
            | none => rw [ec] at ef; cases ef
            | some oc =>
              rw [ec] at ef
              cases oc with
              | exc c2 fs h2 => cases ef
              | ok q h3 =>
                simp only [bindO_ok] at ef
                refine ⟨m, _, h, ⟨er2, st.rel⟩, _, ec, fun m3 H3 b st3 eb => ?_⟩
                subst eb
                obtain ⟨nD3, eD3⟩ := st3.out eD nD
                cases q with
                | false =>
                  simp only [Bool.false_eq_true, if_false] at ef ⊢
                  cases ef
                  exact ⟨m3, _, acc, ws, st.trans st3, nD3, eD3, ra.step st3, go⟩
                | true =>
                  simp only [if_true] at ef ⊢
                  cases ee : evE P C e' env2 h3 with
                  | none => rw [ee] at ef; cases ef
                  | some oe =>
                    rw [ee] at ef
                    cases oe with
                    | exc c2 fs h2 => cases ef
                    | ok z h4 =>
                      cases ef
                      refine ⟨m3, _, h3, ⟨er2.car st3.car, st3.rel⟩, _, ee, fun m4 H4 y st4 ry => ?_⟩
                      obtain ⟨nD4, eD4⟩ := st4.out eD3 nD3
                      by_cases hz : acc.length < sizeLine
                      · simp only [hz, if_true] at go
                        refine ⟨ws, eD4, by rw [← ra.length]; exact hz, m4, _, acc ++ [z], ws ++ [y], ?_, nD4, upd_same, ?_, go⟩
                        · exact (((st.trans st3).trans st4).updOut hD nD4 eD4).1
                        · have c := (((st.trans st3).trans st4).updOut (ws' := ws ++ [y]) hD nD4 eD4).2
                          exact (((ra.step st3).step st4).append (by simp only [RMs]; exact ⟨y, [], rfl, ry, rfl⟩)).car c
                      · simp only [hz, if_false] at go
                        cases go
        · rw [if_neg kp] at ef; cases ef
  · have e : i = xs.length := by omega
    subst e
    rw [List.drop_length] at go
    simp only [lcGo] at go
    cases go
    simp only [bindO_ok] at er0
    by_cases kp : kept h gs
    · rw [if_pos kp] at er0
      cases er0
      exact .inl ⟨(wk m Hc h st kp xs.length).2 (Nat.le_refl _), w m Hc (.ref D) (st0.trans st) ⟨D, ws, rfl, hD0, nD, eD, ra⟩⟩
    · rw [if_neg kp] at er0
      cases er0

theorem notSet_ok {it : Expr} (h : notSet it = true) : ∀ x, foldedSetIterable it X.env x = pure x := by
  intro x
  cases it <;> first | rfl | cases h
/-- [e for t in s if c] -/
theorem s_lc {it tg : Expr} {scope : Scope} {t : T} {s' : IT} {c : Option E} {e' : E} (o : Okx X g W P C N sc true) (hb : blkC N sc scope (ownOf N scope) = true) (ht : ∀ j ∈ slotsT t, j ∈ (ownOf N scope).map (·.2)) (hs : PI X tg it (RI g W P C s')) :
    BlkOk X.N X.env.scope scope (ownOf N scope) ∧
      ∀ σ H Q, RL g W P C (.lc ((ownOf N scope).map (·.2)) t s' c e') σ H Q → tLcX W (RI g W P C s') (RG g t) (fun Wb => RTs g Wb P C c) (fun Wb => RE g Wb P C e') ((ownOf N scope).map (·.2)) σ H Q := by
  have bo : BlkOk X.N X.env.scope scope (ownOf N scope) := by rw [o.N, o.sc]; exact blkOk_by hb
  refine ⟨bo, fun σ H Q ⟨m, env, h, sm, w⟩ => ?_⟩
  simp only [evL] at w
  cases ei : evI P C s' env h with
  | none => rw [ei] at w; exact no_want w
  | some r =>
    rw [ei] at w
    refine ⟨m, env, h, sm, r, ei, ?_⟩
    cases r with
    | exc c fs h1 => obtain ⟨_, e, w⟩ := w; cases e; exact w
    | ok xg h1 =>
      simp only [bindO_ok] at w
      intro m1 H1 J st wk
      exact lc_read (o.xi rfl).1 ht st (sm.er.car st.car) wk w
/-! ### enumerate -/
theorem enu_at : ∀ {xs : List M} {i k : Nat} {x : M}, (enuM k xs)[i]? = some x → ∃ y, xs[i]? = some y ∧ x = .tup [.int ((k + i : Nat) : Int), y]
  | [], i, k, x, e => by simp [enuM] at e
  | y :: xs, 0, k, x, e => by
    simp only [enuM, List.getElem?_cons_zero] at e
    cases e
    exact ⟨y, by simp, by simp⟩
  | y :: xs, i + 1, k, x, e => by
    simp only [enuM, List.getElem?_cons_succ] at e
    obtain ⟨z, e1, e2⟩ := enu_at e
    exact ⟨z, by simpa using e1, by rw [e2]; congr 3; congr 1; omega⟩
theorem enu_len : ∀ {xs : List M} {k : Nat}, (enuM k xs).length = xs.length
  | [], k => rfl
  | y :: xs, k => by simp [enuM, enu_len]
theorem enu_rm {T : Addr} {y : M} {v : V} {i : Nat} (hT : H T = none) (rel : HRel g m h H) (r1 : RM g m H y v) : Step g m H h m (upd H T (.tup [.int (i : Nat), v])) ∧ RM g m (upd H T (.tup [.int (i : Nat), v])) (.tup [.int ((0 + i : Nat) : Int), y]) (.ref T) := by
  have st := rel.laid (ob := .tup [.int (i : Nat), v]) hT
  refine ⟨st, ?_⟩
  simp only [RM]
  exact ⟨T, [.int (i : Nat), v], rfl, SqT.of upd_same, by simp only [RMs, RM, Nat.zero_add]; exact ⟨.int (i : Nat), [v], rfl, rfl, v, [], rfl, r1.step st, rfl⟩⟩
theorem walk_EL {xs : List M} {gs : List (Nat × O)} {a : Addr} {m1 : List Addr} {H1 : Hp} {K : PySem.W.Frag} (f : ∀ m H h, Step g m1 H1 h m H → kept h gs → ∃ vs, SqL K H a vs ∧ RMs g m H xs vs) : Walk g m1 H1 (enuM 0 xs) gs (Ite K a) := by
  intro m H h st kp i
  obtain ⟨vs, sq, r⟩ := f m H h st kp
  refine ⟨fun x e => ?_, fun hi => ⟨vs, sq, by rw [← r.length]; rw [enu_len] at hi; exact hi⟩⟩
  obtain ⟨y, e1, rfl⟩ := enu_at e
  obtain ⟨v, f1, q1⟩ := r.get e1
  refine ⟨⟨vs, v, sq, f1⟩, fun z H' yy => ?_⟩
  obtain ⟨T, p, rfl, hT, rfl, y1⟩ := yy
  have z1 := y1 vs sq
  rw [f1] at z1
  cases z1
  exact enu_rm hT st.rel q1
theorem walk_ET {xs : List M} {gs : List (Nat × O)} {a : Addr} {m1 : List Addr} {H1 : Hp} {K : PySem.W.Frag} (f : ∀ m H h, Step g m1 H1 h m H → kept h gs → ∃ vs, SqT K H a vs ∧ RMs g m H xs vs) : Walk g m1 H1 (enuM 0 xs) gs (IteT K a) := by
  intro m H h st kp i
  obtain ⟨vs, sq, r⟩ := f m H h st kp
  refine ⟨fun x e => ?_, fun hi => ⟨vs, sq, by rw [← r.length]; rw [enu_len] at hi; exact hi⟩⟩
  obtain ⟨y, e1, rfl⟩ := enu_at e
  obtain ⟨v, f1, q1⟩ := r.get e1
  refine ⟨⟨vs, v, sq, f1⟩, fun z H' yy => ?_⟩
  obtain ⟨T, p, rfl, hT, rfl, y1⟩ := yy
  have z1 := y1 vs sq
  rw [f1] at z1
  cases z1
  exact enu_rm hT st.rel q1
/-! ### zip -/
theorem row_ok {x : M} {v : V} {p : Bool} {xs : List M} (rel : HRel g m h H) (e : rowM h x = some (p, xs)) (r : RM g m H x v) : ∃ a vs, v = .ref a ∧ (if p = true then SqT g.K H a vs else SqL g.K H a vs) ∧ RMs g m H xs vs := by
  cases x with
  | tup ys =>
    cases e
    simp only [RM] at r
    obtain ⟨a, vs, rfl, sq, r⟩ := r
    exact ⟨a, vs, rfl, sq, r⟩
  | rol ys =>
    cases e
    simp only [RM] at r
    obtain ⟨a, vs, rfl, sq, r⟩ := r
    exact ⟨a, vs, rfl, roL_sq sq, r⟩
  | ref i =>
    simp only [rowM] at e
    split at e
    · rename_i ys hy
      cases e
      obtain ⟨a, vs, rfl, _, sq, r⟩ := lst_at rel hy r
      exact ⟨a, vs, rfl, SqL.of sq, r⟩
    · cases e
  | _ => cases e
theorem row_kept {h2 : Hm} {x : M} {p : Bool} {xs : List M} (e : rowM h2 x = some (p, xs)) (kp : kept h (guardM h2 x)) : rowM h x = some (p, xs) := by
  cases x with
  | tup ys => exact e
  | rol ys => exact e
  | ref i =>
    simp only [rowM] at e
    split at e
    · rename_i ys hy
      have := kp (i, .lst ys) (by simp [guardM, hy])
      simp only [rowM]
      rw [show h[i]? = some (O.lst ys) from this]
      exact e
    · cases e
  | _ => cases e
theorem zip_at {xs ys : List M} {i : Nat} {x : M} (e : (List.zipWith (fun x y => M.tup [x, y]) xs ys)[i]? = some x) : ∃ a b, xs[i]? = some a ∧ ys[i]? = some b ∧ x = .tup [a, b] := by
  rw [List.getElem?_zipWith] at e
  split at e
  · rename_i a b e1 e2
    cases e
    exact ⟨a, b, e1, e2, rfl⟩
  · cases e
theorem pair_rm {T : Addr} {x y : M} {v w : V} (hT : H T = none) (rel : HRel g m h H) (r1 : RM g m H x v) (r2 : RM g m H y w) : Step g m H h m (upd H T (.tup [v, w])) ∧ RM g m (upd H T (.tup [v, w])) (.tup [x, y]) (.ref T) := by
  have st := rel.laid (ob := .tup [v, w]) hT
  refine ⟨st, ?_⟩
  simp only [RM]
  exact ⟨T, [v, w], rfl, SqT.of upd_same, by simp only [RMs]; exact ⟨v, [w], rfl, r1.step st, w, [], rfl, r2.step st, rfl⟩⟩
theorem walk_ZL {xs ys : List M} {gs : List (Nat × O)} {a b : Addr} {m1 : List Addr} {H1 : Hp} {K : PySem.W.Frag} (f : ∀ m H h, Step g m1 H1 h m H → kept h gs → ∃ vs ws, SqL K H a vs ∧ SqL K H b ws ∧ RMs g m H xs vs ∧ RMs g m H ys ws) : Walk g m1 H1 (List.zipWith (fun x y => M.tup [x, y]) xs ys) gs (Itz K a b) := by
  intro m H h st kp i
  obtain ⟨vs, ws, sq, sq2, r, r2⟩ := f m H h st kp
  refine ⟨fun x e => ?_, fun hi => ⟨vs, ws, sq, sq2, ?_⟩⟩
  · obtain ⟨x1, y1, e1, e2, rfl⟩ := zip_at e
    obtain ⟨v, f1, q1⟩ := r.get e1
    obtain ⟨w, f2, q2⟩ := r2.get e2
    refine ⟨⟨vs, ws, v, w, sq, sq2, f1, f2⟩, fun z H' y => ?_⟩
    obtain ⟨T, p, q, rfl, hT, rfl, y1, y2⟩ := y
    have z1 := y1 vs sq
    have z2 := y2 ws sq2
    rw [f1] at z1
    rw [f2] at z2
    cases z1
    cases z2
    exact pair_rm hT st.rel q1 q2
  · rw [List.length_zipWith] at hi
    rw [← r.length, ← r2.length]
    omega
theorem walk_ZT {xs ys : List M} {gs : List (Nat × O)} {a b : Addr} {m1 : List Addr} {H1 : Hp} {K : PySem.W.Frag} (f : ∀ m H h, Step g m1 H1 h m H → kept h gs → ∃ vs ws, SqT K H a vs ∧ SqT K H b ws ∧ RMs g m H xs vs ∧ RMs g m H ys ws) : Walk g m1 H1 (List.zipWith (fun x y => M.tup [x, y]) xs ys) gs (RZ.ItzT K a b) := by
  intro m H h st kp i
  obtain ⟨vs, ws, sq, sq2, r, r2⟩ := f m H h st kp
  refine ⟨fun x e => ?_, fun hi => ⟨vs, ws, sq, sq2, ?_⟩⟩
  · obtain ⟨x1, y1, e1, e2, rfl⟩ := zip_at e
    obtain ⟨v, f1, q1⟩ := r.get e1
    obtain ⟨w, f2, q2⟩ := r2.get e2
    refine ⟨⟨vs, ws, v, w, sq, sq2, f1, f2⟩, fun z H' y => ?_⟩
    obtain ⟨T, p, q, rfl, hT, rfl, y1, y2⟩ := y
    have z1 := y1 vs sq
    have z2 := y2 ws sq2
    rw [f1] at z1
    rw [f2] at z2
    cases z1
    cases z2
    exact pair_rm hT st.rel q1 q2
  · rw [List.length_zipWith] at hi
    rw [← r.length, ← r2.length]
    omega
theorem i_zip {a b : Expr} {a' b' : E} {elts : List Expr} {kk : Nat} {tp zp cp : Pos} (o : Okx X g W P C N sc k) (hg1 : trGlo sc "zip" = true) (ha : notStar a = true) (hb : notStar b = true) (hi : PA X [a, b] (RA g W P C [a', b'])) : PI X (.Tuple elts kk tp) (.Call (.Name "zip" zp) [a, b] [] cp) (RI g W P C (.zip a' b')) := by
  obtain ⟨hg2, hd⟩ := trGlo_ok o hg1
  refine piI (RZ.pi_zipA hg2 (o.free "zip" (by simp)) hi (star_cons ha) (star_any (by simp [hb]))) fun σ H R ⟨m, env, h, sm, r, ei, w⟩ => ?_
  simp only [evI] at ei
  cases e1 : evE P C a' env h with
  | none => rw [e1] at ei; cases ei
  | some oa =>
    rw [e1] at ei
    cases oa with
    | exc c fs h1 =>
      cases ei
      exact ⟨m, env, h, sm, .exc c fs h1, by simp only [evEs, e1, bindO_exc], w⟩
    | ok x h1 =>
      simp only [bindO_ok] at ei
      cases e2 : evE P C b' env h1 with
      | none => rw [e2] at ei; cases ei
      | some ob =>
        rw [e2] at ei
        cases ob with
        | exc c fs h2 =>
          cases ei
          exact ⟨m, env, h, sm, .exc c fs h2, by simp only [evEs, e1, bindO_ok, e2, bindO_exc], w⟩
        | ok y h2 =>
          simp only [bindO_ok] at ei
          refine ⟨m, env, h, sm, .ok [x, y] h2, by simp only [evEs, e1, bindO_ok, e2], fun m1 H1 vs st rv => ?_⟩
          split at ei
          · rename_i p xs q ys ex ey
            split at ei
            · rename_i hpq
              subst hpq
              cases ei
              obtain ⟨v1, v2, rfl, rx, ry⟩ := RMs.two rv
              obtain ⟨a1, us, rfl, sq1, ru⟩ := row_ok st.rel ex rx
              obtain ⟨a2, ws, rfl, sq2, rw'⟩ := row_ok st.rel ey ry
              have later : ∀ m H h, Step g m1 H1 h m H → kept h (guardM h2 x ++ guardM h2 y) → ∃ vs ws, (if p = true then SqT g.K H a1 vs else SqL g.K H a1 vs) ∧ (if p = true then SqT g.K H a2 ws else SqL g.K H a2 ws) ∧ RMs g m H xs vs ∧ RMs g m H ys ws := by
                intro m H h st' kp
                obtain ⟨b1, vs, q1, s1, r1⟩ := row_ok st'.rel (row_kept ex fun z hz => kp z (List.mem_append_left _ hz)) (rx.step st')
                obtain ⟨b2, ws, q2, s2, r2⟩ := row_ok st'.rel (row_kept ey fun z hz => kp z (List.mem_append_right _ hz)) (ry.step st')
                cases q1
                cases q2
                exact ⟨vs, ws, s1, s2, r1, r2⟩
              refine ⟨a1, a2, us, ws, rfl, ?_⟩
              rw [← o.K]
              cases p with
              | true => exact .inr ⟨sq1, sq2, w m1 H1 _ st (walk_ZT fun m H h st' kp => later m H h st' kp)⟩
              | false => exact .inl ⟨sq1, sq2, w m1 H1 _ st (walk_ZL fun m H h st' kp => later m H h st' kp)⟩
            · cases ei
          · cases ei
theorem i_enu {a : Expr} {a' : E} {elts : List Expr} {kk : Nat} {tp zp cp : Pos} (o : Okx X g W P C N sc k) (hg1 : trGlo sc "enumerate" = true) (ha : notStar a = true) (hi : PE X a (RE g W P C a')) : PI X (.Tuple elts kk tp) (.Call (.Name "enumerate" zp) [a] [] cp) (RI g W P C (.enu a')) := by
  obtain ⟨hg2, hd⟩ := trGlo_ok o hg1
  refine piI (pi_enumA hg2 (o.free "enumerate" (by simp)) (pa_cons hi pa_nil (star_cons ha)) (star_cons ha)) fun σ H R ⟨m, env, h, sm, r, ei, w⟩ => ?_
  simp only [evI] at ei
  cases e1 : evE P C a' env h with
  | none => rw [e1] at ei; cases ei
  | some oa =>
    rw [e1] at ei
    cases oa with
    | exc c fs h1 => cases ei; exact ⟨m, env, h, sm, _, e1, w⟩
    | ok x h1 =>
      simp only [bindO_ok] at ei
      refine ⟨m, env, h, sm, _, e1, fun m1 H1 b st rb => ?_⟩
      split at ei
      · rename_i p xs ex
        cases ei
        obtain ⟨a1, us, rfl, sq1, ru⟩ := row_ok st.rel ex rb
        have later : ∀ m H h, Step g m1 H1 h m H → kept h (guardM h1 x) → ∃ vs, (if p = true then SqT g.K H a1 vs else SqL g.K H a1 vs) ∧ RMs g m H xs vs := by
          intro m H h st' kp
          obtain ⟨b1, vs, q1, s1, r1⟩ := row_ok st'.rel (row_kept ex kp) (rb.step st')
          cases q1
          exact ⟨vs, s1, r1⟩
        refine ⟨a1, us, rfl, ?_⟩
        rw [← o.K]
        cases p with
        | true => exact .inr ⟨sq1, w m1 H1 _ st (walk_ET fun m H h st' kp => later m H h st' kp)⟩
        | false => exact .inl ⟨sq1, w m1 H1 _ st (walk_EL fun m H h st' kp => later m H h st' kp)⟩
      · cases ei
/-! ### dict comprehensions -/
theorem dc_read (hx : g.xi = none) {vs : List Nat} {t : T} {k' v' : E} {σ : St} {env : Ev} {xs : List M} {gs : List (Nat × O)} {J : It} {m0 m1 : List Addr} {H0 H1 : Hp} {h1 : Hm} {Qv : VK} (ht : ∀ j ∈ slotsT t, j ∈ vs) (st0 : Step g m0 H0 h1 m1 H1) (er : ER g m1 H1 env σ) (wk : Walk g m1 H1 xs gs J)
    (w : Want g Wn m0 H0 (RM g) (bindO (dcGo (fun y h2 => open Classical in if kept h2 gs then match asgT t y (wipeM env vs) with
        | some env2 => bindO (evE P C k' env2 h2) fun a h3 => bindO (evE P C v' env2 h3) fun z h4 => match keyM a with
          | some q => some (.ok (q, z) h4)
          | none => none
        | none => none else none) xs [] h1) fun kvs h2 => open Classical in if kept h2 gs then some (.ok (.ref h2.length) (h2 ++ [.dic kvs])) else none) Qv) :
    ∀ D, H1 D = none → ∃ Wi : Nat → Nat → Hp → Prop, (∃ n, Wi 0 n (upd H1 D (.dK []))) ∧ ∀ i n H, Wi i n H →
      (J.stop i H ∧ Qv (.ref D) H) ∨ (J.go i H ∧ ∃ Nx : Hp → Prop, (∀ H', Nx H' → ∃ n', n' < n ∧ Wi (i + 1) n' H') ∧ ∀ x H', J.yld i H x H' → RG g t x (wipe σ vs) H' fun σ2 H2 => wipe σ2 vs = wipe σ vs ∧ RTs g (fun _ _ _ _ => False) P C none σ2 H2 fun b H3 =>
        if b = true then RE g (fun _ _ _ _ => False) P C k' σ2 H3 fun y H4 => RE g (fun _ _ _ _ => False) P C v' σ2 H4 fun z H5 => ∃ kvs q, y = kV q ∧ H5 D = some (.dK kvs) ∧ kvs.length < sizeLine ∧ Nx (upd H5 D (.dK (putK kvs q z))) else Nx H3) := by
  intro D hD
  generalize hf : (fun y h2 => open Classical in if kept h2 gs then match asgT t y (wipeM env vs) with
        | some env2 => bindO (evE P C k' env2 h2) fun a h3 => bindO (evE P C v' env2 h3) fun z h4 => match keyM a with
          | some q => some (.ok (q, z) h4)
          | none => none
        | none => none else none) = f at w
  obtain ⟨r, er0, w⟩ := w
  cases er1 : dcGo f xs [] h1 with
  | none => rw [er1] at er0; cases er0
  | some r1 =>
  rw [er1] at er0
  have hD0 : H0 D = none := st0.fresh hD
  refine ⟨fun i n H => n = xs.length - i ∧ i ≤ xs.length ∧ ∃ m h acc ws, Step g m1 H1 h m H ∧ D ∉ m ∧ H D = some (.dK ws) ∧ RKs g m H acc ws ∧ dcGo f (xs.drop i) acc h = some r1, ⟨xs.length, by simp, Nat.zero_le _, m1, h1, [], [], st0.rel.laid hD, st0.rel.notIn hD, upd_same, by simp [RKs], by simpa using er1⟩, ?_⟩
  rintro i n Hc ⟨rfl, hi, m, h, acc, ws, st, nD, eD, ra, go⟩
  by_cases hlt : i < xs.length
  · have ex : xs[i]? = some xs[i] := List.getElem?_eq_getElem hlt
    rw [List.drop_eq_getElem_cons hlt] at go
    simp only [dcGo] at go
    cases ef : f xs[i] h with
    | none => rw [ef] at go; cases go
    | some o =>
      rw [ef] at go
      cases o with
      | exc c2 fs h2 => cases go
      | ok oy h' =>
        rw [← hf] at ef
        simp only at ef
        by_cases kp : kept h gs
        · rw [if_pos kp] at ef
          cases ea : asgT t xs[i] (wipeM env vs) with
          | none => rw [ea] at ef; cases ef
          | some env2 =>
            rw [ea] at ef
            dsimp only at ef
            obtain ⟨g1, y1⟩ := (wk m Hc h st kp i).1 _ ex
            refine .inr ⟨g1, fun H' => ∃ m2 h2 acc2 ws2, Step g m1 H1 h2 m2 H' ∧ D ∉ m2 ∧ H' D = some (.dK ws2) ∧ RKs g m2 H' acc2 ws2 ∧ dcGo f (xs.drop (i + 1)) acc2 h2 = some r1, fun H' ⟨m2, h2, acc2, ws2, a1, a2, a3, a4, a5⟩ => ⟨xs.length - (i + 1), by omega, rfl, hlt, m2, h2, acc2, ws2, a1, a2, a3, a4, a5⟩, fun x H' y => ?_⟩
            obtain ⟨sy, rx⟩ := y1 x H' y
            have st := st.trans sy
            obtain ⟨nD, eD⟩ := sy.out eD nD
            have ra := RKs.car sy.car _ _ ra
            refine ⟨m, wipeM env vs, h, xs[i], env2, ⟨(er.car st.car).wipe hx vs, st.rel⟩, rx, ea, fun σ2 er2 ag => ⟨wipe_agr ag ht, ?_⟩⟩
            refine ⟨m, _, h, ⟨er2, st.rel⟩, .ok true h, by simp only [evC], fun m3 H3 b st3 eb => ?_⟩
            subst eb
            obtain ⟨nD3, eD3⟩ := st3.out eD nD
            simp only [if_true]
            cases ek : evE P C k' env2 h with
            | none => rw [ek] at ef; cases ef
            | some ok =>
              rw [ek] at ef
              cases ok with
              | exc c2 fs h2 => cases ef
              | ok kx h3 =>
                simp only [bindO_ok] at ef
                refine ⟨m3, _, h, ⟨er2.car st3.car, st3.rel⟩, _, ek, fun m4 H4 y st4 ry => ?_⟩
                obtain ⟨nD4, eD4⟩ := st4.out eD3 nD3
                cases ev : evE P C v' env2 h3 with
                | none => rw [ev] at ef; cases ef
                | some ov =>
                  rw [ev] at ef
                  cases ov with
                  | exc c2 fs h2 => cases ef
                  | ok z h4 =>
                    simp only [bindO_ok] at ef
                    refine ⟨m4, _, h3, ⟨(er2.car st3.car).car st4.car, st4.rel⟩, _, ev, fun m5 H5 u st5 ru => ?_⟩
                    obtain ⟨nD5, eD5⟩ := st5.out eD4 nD4
                    cases hq : keyM kx with
                    | none => rw [hq] at ef; cases ef
                    | some q =>
                      rw [hq] at ef
                      cases ef
                      by_cases hz : acc.length < sizeLine
                      · simp only [hz, if_true] at go
                        have ra5 := RKs.car st5.car _ _ (RKs.car st4.car _ _ (RKs.car st3.car _ _ ra))
                        refine ⟨ws, q, keyM_rel hq ry, eD5, by rw [← ra5.length]; exact hz, m5, _, putD acc q z, putK ws q u, ?_, nD5, upd_same, ?_, go⟩
                        · exact ((((st.trans st3).trans st4).trans st5).updOutO hD nD5 eD5 rfl trivial).1
                        · have c := ((((st.trans st3).trans st4).trans st5).updOutO (u' := .dK (putK ws q u)) hD nD5 eD5 rfl trivial).2
                          exact RKs.car c _ _ (putD_rel ru ra5)
                      · simp only [hz, if_false] at go
                        cases go
        · rw [if_neg kp] at ef; cases ef
  · have e : i = xs.length := by omega
    subst e
    rw [List.drop_length] at go
    simp only [dcGo] at go
    cases go
    simp only [bindO_ok] at er0
    by_cases kp : kept h gs
    · rw [if_pos kp] at er0
      cases er0
      refine .inl ⟨(wk m Hc h st kp xs.length).2 (Nat.le_refl _), w _ _ (.ref D) ((st0.trans st).adoptD hD0 nD eD ra) ?_⟩
      simp only [RM]
      exact ⟨D, by rw [← st.rel.len]; simp, rfl⟩
    · rw [if_neg kp] at er0
      cases er0
/-- {k: v for t in s} -/
theorem s_dc {it tg : Expr} {scope : Scope} {t : T} {s' : IT} {k' v' : E} (o : Okx X g W P C N sc true) (hb : blkC N sc scope (ownOf N scope) = true) (ht : ∀ j ∈ slotsT t, j ∈ (ownOf N scope).map (·.2)) :
    BlkOk X.N X.env.scope scope (ownOf N scope) ∧
      ∀ σ H Q, RE g W P C (.dcm ((ownOf N scope).map (·.2)) t s' k' v') σ H Q → tDc (RI g W P C s') (RG g t) (RTs g (fun _ _ _ _ => False) P C none) (RE g (fun _ _ _ _ => False) P C k') (RE g (fun _ _ _ _ => False) P C v') ((ownOf N scope).map (·.2)) σ H Q := by
  have bo : BlkOk X.N X.env.scope scope (ownOf N scope) := by rw [o.N, o.sc]; exact blkOk_by hb
  refine ⟨bo, fun σ H Q ⟨m, env, h, sm, w⟩ => ?_⟩
  simp only [evE] at w
  cases ei : evI P C s' env h with
  | none => rw [ei] at w; exact no_want w
  | some r =>
    rw [ei] at w
    refine ⟨m, env, h, sm, r, ei, ?_⟩
    cases r with
    | exc c fs h1 => obtain ⟨_, e, w⟩ := w; cases e; exact w
    | ok xg h1 =>
      simp only [bindO_ok] at w
      intro m1 H1 J st wk
      exact dc_read (o.xi rfl).1 ht st (sm.er.car st.car) wk w
end
end MP
namespace MP
open PySem L2
/-- what is wanted behind a statement's run -/
def WantS (g : G) (W : WX) (m : List Addr) (H : Hp) (D : Ends) (o : Option Fl) : Prop :=
  ∃ r, o = some r ∧ match r with
    | .next env' h' => ∀ m' H' σ', Step g m H h' m' H' → ER g m' H' env' σ' → D.nx σ' H'
    | .brk env' h' => ∀ m' H' σ', Step g m H h' m' H' → ER g m' H' env' σ' → D.bk σ' H'
    | .cont env' h' => ∀ m' H' σ', Step g m H h' m' H' → ER g m' H' env' σ' → D.ct σ' H'
    | .ret v h' => ∀ m' H' x, Step g m H h' m' H' → RM g m' H' v x → D.rt x H'
    | .exc c fs env' h' => ∀ m' H' σ' cls d, Step g m H h' m' H' → ER g m' H' env' σ' → RX g m' H' c fs cls d → W cls d σ' H'
def RS (g : G) (W : WX) (P : Tx) (C : Cal) (s : S) : TS := fun D σ H => ∃ m env h, Sim g m H h env σ ∧ WantS g W m H D (exS P C s env h)
def RSs (g : G) (W : WX) (P : Tx) (C : Cal) (s : List S) : TS := fun D σ H => ∃ m env h, Sim g m H h env σ ∧ WantS g W m H D (exSs P C s env h)
theorem psI {X : Cx} {s : Stmt} {t t' : TS} (h : PS X s t) (f : ∀ D σ H, t' D σ H → t D σ H) : PS X s t' := ⟨fun pins s σ H D I q => h.run pins s σ H D I (f D σ H q)⟩
section
variable {X : Cx} {g : G} {W : WX} {P : Tx} {C : Cal} {N : List Str} {sc : Scope} {k : Bool} {pos p : Pos} {m m' : List Addr} {H H' : Hp} {h h' : Hm} {D : Ends} {env : Ev} {σ : St}
theorem WantS.base {o : Option Fl} (w : WantS g W m H D o) (s : Step g m H h' m' H') : WantS g W m' H' D o := by
  obtain ⟨r, e, w⟩ := w
  refine ⟨r, e, ?_⟩
  cases r with
  | next e1 h1 => exact fun m2 H2 σ2 st er => w m2 H2 σ2 (s.trans st) er
  | brk e1 h1 => exact fun m2 H2 σ2 st er => w m2 H2 σ2 (s.trans st) er
  | cont e1 h1 => exact fun m2 H2 σ2 st er => w m2 H2 σ2 (s.trans st) er
  | ret v h1 => exact fun m2 H2 x st er => w m2 H2 x (s.trans st) er
  | exc c fs e1 h1 => exact fun m2 H2 σ2 cls d st er rx => w m2 H2 σ2 cls d (s.trans st) er rx
/-- an expression, then the rest -/
theorem WantS.bind {α β : Type} {R : List Addr → Hp → α → β → Prop} {x : Option (Out α)} {f : α → Hm → Option Fl} (er : ER g m H env σ) (w : WantS g W m H D (bindF env x f)) :
    Want g (WE' W σ) m H R x fun b H1 => ∃ m1 a h1, Step g m H h1 m1 H1 ∧ R m1 H1 a b ∧ WantS g W m1 H1 D (f a h1) := by
  cases x with
  | none => obtain ⟨r, e, w⟩ := w; cases e
  | some o =>
    cases o with
    | exc c fs h1 =>
      obtain ⟨r, e, w⟩ := w
      cases e
      exact ⟨_, rfl, fun m1 H1 cls d st rx => w m1 H1 σ cls d st (er.car st.car) rx⟩
    | ok a h1 => exact ⟨_, rfl, fun m1 H1 b st r => ⟨m1, a, h1, st, r, WantS.base w st⟩⟩
theorem WantS.next {env' : Ev} {h' : Hm} (w : WantS g W m H D (some (.next env' h'))) {σ' : St} (st : Step g m H h' m' H') (er : ER g m' H' env' σ') : D.nx σ' H' := by
  obtain ⟨r, e, w⟩ := w
  cases e
  exact w _ _ _ st er
theorem WantS.ret {v : M} {h' : Hm} (w : WantS g W m H D (some (.ret v h'))) {x : V} (st : Step g m H h' m' H') (r : RM g m' H' v x) : D.rt x H' := by
  obtain ⟨q, e, w⟩ := w
  cases e
  exact w _ _ _ st r
theorem no_wantS {A : Prop} (w : WantS g W m H D none) : A := by
  obtain ⟨_, e, _⟩ := w
  cases e
/-! ### blocks -/
theorem b_nil : PSs X [] (RSs g W P C []) := by
  have z := pss_nil (X := X)
  refine ⟨fun pins s σ H D I ⟨m, env, h, sm, w⟩ => z.run pins s σ H D I ?_⟩
  simp only [exSs] at w
  exact w.next (Step.refl sm.rel) sm.er
theorem b_cons {st : Stmt} {sts : List Stmt} {s : S} {ss : List S} (h1 : PS X st (RS g W P C s)) (h2 : PSs X sts (RSs g W P C ss)) : PSs X (st :: sts) (RSs g W P C (s :: ss)) := by
  have z := pss_cons h1 h2
  refine ⟨fun pins s' σ H D I ⟨m, env, h, sm, w⟩ => z.run pins s' σ H D I ⟨m, env, h, sm, ?_⟩⟩
  simp only [exSs] at w
  obtain ⟨r, e, w⟩ := w
  cases es : exS P C s env h with
  | none => rw [es] at e; cases e
  | some f =>
    refine ⟨f, rfl, ?_⟩
    rw [es] at e
    cases f with
    | next e1 h1 => exact fun m' H' σ' st er => ⟨m', e1, h1, ⟨er, st.rel⟩, WantS.base ⟨r, e, w⟩ st⟩
    | brk e1 h1 => cases e; exact w
    | cont e1 h1 => cases e; exact w
    | ret v h1 => cases e; exact w
    | exc c fs e1 h1 => cases e; exact w
/-! ### small statements -/
theorem notComp_ok {e : Expr} {t : Option Expr} {l : Nat} {env : Env} (h : notComp e = true) : swapsWith e t l env = pure false := by
  cases e <;> first | rfl | cases h
theorem asg_read {e' : E} {i : Nat} (sm : Sim g m H h env σ) (w : WantS g W m H D (exS P C (.asg (.nm i) e') env h)) : RE g W P C e' σ H fun x H1 => D.nx (σ.set i (some x)) H1 := by
  simp only [exS] at w
  refine ⟨m, env, h, sm, (WantS.bind sm.er w).mono ?_⟩
  rintro x H1 ⟨m1, v1, h1, st1, r1, w1⟩
  simp only [asgT] at w1
  cases ea : asgN i v1 env with
  | none => rw [ea] at w1; exact no_wantS w1
  | some env' =>
    rw [ea] at w1
    obtain ⟨hl, rfl⟩ := asgN_ok ea
    exact w1.next (Step.refl st1.rel) ((sm.er.car st1.car).set r1)
theorem st_set {x : Str} {i : Nat} {e : Expr} {e' : E} {xp : Pos} (o : Okx X g W P C N sc k) (hx : slotOf N x = some i) (hl : isLoc (sc.names.lookup x) = true) (hf : X.fn x = true) (hc : swapsWith e (some (.Name x xp)) pos.line X.env = pure false) (he : PE X e (RE g W P C e')) :
    PS X (.Assign [.Name x xp] e pos) (RS g W P C (.asg (.nm i) e')) := by
  refine psI (ps_set (i := i) o.nd (by rw [o.N]; exact slotOf_get hx) (trLoc o hl) he hc (.inl hf)) fun D σ H ⟨m, env, h, sm, w⟩ => ?_
  exact asg_read sm w
theorem st_setLc {y : Str} {i : Nat} {t : T} {elt it tg : Expr} {ifs : List Expr} {scope : Scope} {yp lp : Pos} {s' : IT} {c : Option E} {e' : E} (o : Okx X g W P C N sc true) (hy : slotOf N y = some i) (hyl : sc.names.lookup y = some .local)
    (hsw : swapsWith (.ListComp elt [⟨tg, it, ifs, 0⟩] scope lp) (some (.Name y yp)) pos.line X.env = pure true) (hb : blkC N sc scope (ownOf N scope) = true) (ht : ∀ j ∈ slotsT t, j ∈ (ownOf N scope).map (·.2)) (hs : PI X tg it (RI g W P C s'))
    (hg : BlkG X scope tg (RG g t)) (hc : BlkT X scope ifs fun Wb => RTs g Wb P C c) (he : BlkE X scope elt fun Wb => RE g Wb P C e') (hset : notSet it = true) :
    PS X (.Assign [.Name y yp] (.ListComp elt [⟨tg, it, ifs, 0⟩] scope lp) pos) (RS g W P C (.asg (.nm i) (.new (.lc ((ownOf N scope).map (·.2)) t s' c e')))) := by
  obtain ⟨a2, a4⟩ := s_lc (c := c) (e' := e') o hb ht hs
  refine psI (ps_setLcX (i := i) (o.calm rfl) (o.tkf rfl) o.nd (by rw [o.N]; exact slotOf_get hy) (by rw [o.sc]; exact hyl) hsw hs a2 hg hc he (notSet_ok hset)) fun D σ H ⟨m, env, h, sm, w⟩ => ?_
  have z := asg_read sm w
  refine a4 σ H _ ?_
  obtain ⟨m, env, h, sm, w⟩ := z
  simp only [evE] at w
  refine ⟨m, env, h, sm, (Want.bindB w).mono ?_⟩
  rintro x H1 ⟨m1, xs, h1, st1, ⟨a, vs, rfl, h0, na, hl, r⟩, -, w1⟩
  obtain ⟨_, e, w1⟩ := w1
  cases e
  exact w1 _ _ _ (st1.adopt h0 na hl r) (by simp only [RM]; exact ⟨a, by rw [← st1.rel.len]; simp, rfl⟩)
theorem st_exp {e : Expr} {e' : E} (hc : notComp e = true) (he : PE X e (RE g W P C e')) : PS X (.Expr e pos) (RS g W P C (.exp e')) := by
  refine psI (ps_expr he (notComp_ok hc)) fun D σ H ⟨m, env, h, sm, w⟩ => ?_
  simp only [exS] at w
  refine ⟨m, env, h, sm, (WantS.bind sm.er w).mono ?_⟩
  rintro x H1 ⟨m1, v1, h1, st1, r1, w1⟩
  exact w1.next (Step.refl st1.rel) (sm.er.car st1.car)
theorem st_ret {e : Expr} {e' : E} (he : PE X e (RE g W P C e')) : PS X (.Return (some e) pos) (RS g W P C (.ret e')) := by
  refine psI (ps_ret he) fun D σ H ⟨m, env, h, sm, w⟩ => ?_
  simp only [exS] at w
  refine ⟨m, env, h, sm, (WantS.bind sm.er w).mono ?_⟩
  rintro x H1 ⟨m1, v1, h1, st1, r1, w1⟩
  exact w1.ret (Step.refl st1.rel) r1
theorem st_retN : PS X (.Return none pos) (RS g W P C (.ret (.con .non))) := by
  refine psI ps_retN fun D σ H ⟨m, env, h, sm, w⟩ => ?_
  simp only [exS, evE, bindF_ok] at w
  exact w.ret (Step.refl sm.rel) (by simp only [RM])
theorem st_pass : PS X (.Pass pos) (RS g W P C .pass) := psI ps_pass fun D σ H ⟨m, env, h, sm, w⟩ => by
  simp only [exS] at w
  exact w.next (Step.refl sm.rel) sm.er
theorem st_brk : PS X (.Break pos) (RS g W P C .brk) := psI ps_break fun D σ H ⟨m, env, h, sm, w⟩ => by
  simp only [exS] at w
  obtain ⟨r, e, w⟩ := w
  cases e
  exact w _ _ _ (Step.refl sm.rel) sm.er
theorem st_cont : PS X (.Continue pos) (RS g W P C .cont) := psI ps_continue fun D σ H ⟨m, env, h, sm, w⟩ => by
  simp only [exS] at w
  obtain ⟨r, e, w⟩ := w
  cases e
  exact w _ _ _ (Step.refl sm.rel) sm.er
theorem st_if {t : Expr} {a b : List Stmt} {t' : E} {a' b' : List S} (ht : PT X t (RT g W P C t')) (ha : PSs X a (RSs g W P C a')) (hb : PSs X b (RSs g W P C b')) : PS X (.If t a b pos) (RS g W P C (.ife t' a' b')) := by
  refine psI (ps_if ht ha hb) fun D σ H ⟨m, env, h, sm, w⟩ => ?_
  simp only [exS] at w
  refine ⟨m, env, h, sm, (WantS.bind (R := fun _ _ a b => a = b) sm.er w).mono ?_⟩
  rintro x H1 ⟨m1, v1, h1, st1, rfl, w1⟩
  cases v1 with
  | true => exact ⟨m1, env, h1, sm.step st1, w1⟩
  | false => exact ⟨m1, env, h1, sm.step st1, w1⟩
/-! ### while -/
theorem st_while {t : Expr} {b : List Stmt} {t' : E} {b' : List S} (hp : PassesOwn (model X.prog X.w) X.A X.env X.xe) (ht : PT X t (RT g W P C t')) (hb : PSs X b (RSs g W P C b')) : PS X (.While t b [] pos) (RS g W P C (.whl t' b')) := by
  refine psI (ps_while hp ht hb) fun D σ H ⟨m, env, h, sm, w⟩ => ?_
  simp only [exS] at w
  obtain ⟨r, e, w⟩ := w
  obtain ⟨n, e⟩ := whl_some e
  refine ⟨fun n σ H => ∃ m env h, Sim g m H h env σ ∧ WantS g W m H D (whlN (evT P C t') (exSs P C b') n env h), ⟨n, m, env, h, sm, r, e, w⟩, ?_⟩
  rintro n σ H ⟨m, env, h, sm, w⟩
  cases n with
  | zero => exact no_wantS w
  | succ n =>
    simp only [whlN] at w
    refine ⟨m, env, h, sm, (WantS.bind (R := fun _ _ a b => a = b) sm.er w).mono ?_⟩
    rintro x H1 ⟨m1, v1, h1, st1, rfl, w1⟩
    cases v1 with
    | false =>
      simp only [Bool.false_eq_true, if_false] at w1 ⊢
      exact w1.next (Step.refl st1.rel) (sm.er.car st1.car)
    | true =>
      simp only [if_true] at w1 ⊢
      refine ⟨fun σ' H' => ∃ m env h, Sim g m H' h env σ' ∧ WantS g W m H' D (whlN (evT P C t') (exSs P C b') n env h), fun σ' H' q => ⟨n, Nat.lt_succ_self n, q⟩, m1, env, h1, sm.step st1, ?_⟩
      cases eb : exSs P C b' env h1 with
      | none => rw [eb] at w1; exact no_wantS w1
      | some f =>
        rw [eb] at w1
        refine ⟨f, rfl, ?_⟩
        cases f with
        | next e1 h2 => exact fun m' H' σ' st er => ⟨m', e1, h2, ⟨er, st.rel⟩, WantS.base w1 st⟩
        | cont e1 h2 => exact fun m' H' σ' st er => ⟨m', e1, h2, ⟨er, st.rel⟩, WantS.base w1 st⟩
        | brk e1 h2 => exact fun m' H' σ' st er => w1.next st er
        | ret v h2 => exact fun m' H' x st r => w1.ret st r
        | exc c fs e1 h2 =>
          obtain ⟨_, e, w1⟩ := w1
          cases e
          exact w1
end
end MP
namespace MP
open PySem L2
section
variable {X : Cx} {g : G} {W : WX} {P : Tx} {C : Cal} {N : List Str} {sc : Scope} {k : Bool} {pos p : Pos} {m m' : List Addr} {H H' : Hp} {h h' : Hm} {D : Ends} {env : Ev} {σ : St}
theorem asgT_next {t : T} {e' : E} (sm : Sim g m H h env σ) (w : WantS g W m H D (exS P C (.asg t e') env h)) : RE g W P C e' σ H fun x H1 => RG g t x σ H1 D.nx := by
  simp only [exS] at w
  refine ⟨m, env, h, sm, (WantS.bind sm.er w).mono ?_⟩
  rintro x H1 ⟨m1, v1, h1, st1, r1, w1⟩
  cases ea : asgT t v1 env with
  | none => rw [ea] at w1; exact no_wantS w1
  | some env' =>
    rw [ea] at w1
    exact ⟨m1, env, h1, v1, env', sm.step st1, r1, ea, fun σ' er _ => w1.next (Step.refl st1.rel) er⟩
def notTuple : Expr → Bool
  | .Tuple vs _ _ => vs.all (foldedForSure 8)
  | _ => true
theorem swap_none {es : List Expr} {n : Nat} {tp : Pos} {e : Expr} {env : Env} (h : notTuple e = true) : swappedStores [.Tuple es n tp] e env = pure none := by
  cases e with
  | Tuple vs k p =>
    have h : vs.all (foldedForSure 8) = true := h
    unfold swappedStores
    simp only [h, if_true]
    first
      | rfl
      | (repeat' split) <;> rfl
  | _ => rfl
/-- (a, b, ..) = e -/
theorem st_unp {es : List Expr} {ts : List T} {n : Nat} {tp : Pos} {e : Expr} {e' : E} (ht : PG X (.Tuple es n tp) (RG g (.tp ts))) (hn : notTuple e = true) (he : PE X e (RE g W P C e')) : PS X (.Assign [.Tuple es n tp] e pos) (RS g W P C (.asg (.tp ts) e')) := by
  refine psI (ps_asg he ht (by cases e <;> rfl) (swap_none hn) rfl) fun D σ H ⟨m, env, h, sm, w⟩ => asgT_next sm w
/-- a, b = x, y -/
theorem st_par {x y : Str} {i j : Nat} {a b : Expr} {a' b' : E} {px py pt pt2 : Pos} {kt k2 : Nat} (o : Okx X g W P C N sc k) (hc : X.calm = true) (hx : slotOf N x = some i) (hy : slotOf N y = some j) (hij : i ≠ j) (hlx : sc.names.lookup x = some .local) (hly : sc.names.lookup y = some .local)
    (na : notStar a = true) (nb : notStar b = true) (ha : PE X a (RE g W P C a')) (hb : PE X b (RE g W P C b')) (hsw : swappedStores [.Tuple [.Name x px, .Name y py] kt pt] (.Tuple [a, b] k2 pt2) X.env = pure (some [x, y])) :
    PS X (.Assign [.Tuple [.Name x px, .Name y py] kt pt] (.Tuple [a, b] k2 pt2) pos) (RS g W P C (.par i j a' b')) := by
  refine psI (ps_par (i := i) (j := j) hc o.nd (by rw [o.N]; exact slotOf_get hx) (by rw [o.N]; exact slotOf_get hy) hij (by rw [o.sc]; exact hlx) (by rw [o.sc]; exact hly) (pa_cons ha (pa_cons hb pa_nil (star_cons nb)) (star_cons na)) hsw rfl) fun D σ H ⟨m, env, h, sm, w⟩ => ?_
  simp only [exS] at w
  refine ⟨m, env, h, sm, (WantS.bind sm.er w).mono ?_⟩
  rintro u H1 ⟨m1, v1, h1, st1, r1, w1⟩
  refine ⟨m1, env, h1, sm.step st1, (WantS.bind (sm.er.car st1.car) w1).mono ?_⟩
  rintro v H2 ⟨m2, v2, h2, st2, r2, w2⟩
  refine ⟨u, v, rfl, ?_⟩
  split at w2
  · exact w2.next (Step.refl st2.rel) (((((sm.er.car st1.car).car st2.car).set (r1.step st2)).set r2))
  · exact no_wantS w2
/-! ### stores into objects -/
/-- into a list or a dict -/
def rSetA : V → V → V → Hp → (Hp → Prop) → Prop := fun x y z H Q => rSetL x y z H Q ∨ ∃ p kvs k, x = .ref p ∧ y = kV k ∧ H p = some (.dK kvs) ∧ kvs.length < sizeLine ∧ Q (upd H p (.dK (putK kvs k z)))
theorem set_any (hu : X.A.units + 1 < cLine) : PSet X rSetA := by
  intro pins s σ H o i v ov iv u Q I ro ri rv h
  rcases h with h | ⟨p, kvs, k, rfl, rfl, hp, hz, q⟩
  · exact set_list pins s σ H o i v ov iv u Q I ro ri rv h
  · cases ro
    exact d_setItem hu I (DPut.k hp hz) ri rv fun s' I' => ⟨_, I', q⟩
theorem setM_ok {o i v : M} {h4 : Hm} (rel : HRel g m h H) (e : setM h o i v = some h4) {x y z : V} (r1 : RM g m H o x) (r2 : RM g m H i y) (r3 : RM g m H v z) :
    (∃ p xs q j, x = .ref p ∧ y = .int q ∧ H p = some (.lst xs) ∧ ixN xs.length q = some j ∧ Step g m H h4 m (upd H p (.lst (xs.set j z)))) ∨ ∃ p kvs k, x = .ref p ∧ y = kV k ∧ H p = some (.dK kvs) ∧ kvs.length < sizeLine ∧ Step g m H h4 m (upd H p (.dK (putK kvs k z))) := by
  cases o with
  | ref a =>
    simp only [setM] at e
    split at e
    · rename_i ys hy
      split at e
      · rename_i q
        split at e
        · rename_i j hj
          cases e
          obtain ⟨p, vs, rfl, e1, sq, r⟩ := lst_at rel hy r1
          simp only [RM] at r2
          subst r2
          exact .inl ⟨p, vs, q, j, rfl, rfl, sq, by rw [← r.length]; exact hj, rel.write e1 fun c => ⟨_, upd_same, (r.set j r3).car c⟩⟩
        · cases e
      · cases e
    · rename_i kvs hy
      split at e
      · rename_i k hk
        split at e
        · rename_i hz
          cases e
          simp only [RM] at r1
          obtain ⟨p, e1, rfl⟩ := r1
          obtain ⟨p', e2, ws, hp, rk⟩ := rel.obj a _ hy
          rw [e1] at e2
          cases e2
          refine .inr ⟨p, ws, k, rfl, keyM_rel hk r2, hp, by rw [← rk.length]; exact hz, rel.write e1 fun c => ⟨_, upd_same, (putD_rel r3 rk).car c⟩⟩
        · cases e
      · cases e
    · cases e
  | _ => simp [setM] at e
theorem st_seti {o i e : Expr} {o' i' e' : E} {sp : Pos} (hu : X.A.units + 1 < cLine) (hn : notSlice i = true) (hc : notComp e = true) (he : PE X e (RE g W P C e')) (ho : PE X o (RE g W P C o')) (hi : PE X i (RE g W P C i')) (hw : swappedStores [.Subscript o i sp] e X.env = pure none) : PS X (.Assign [.Subscript o i sp] e pos) (RS g W P C (.seti o' i' e')) := by
  refine psI (ps_asg he (pg_sub ho hi (set_any hu) (by intro v; cases i <;> first | rfl | cases hn)) (show swapsWith e (some (.Subscript o i sp)) pos.line X.env = pure false from notComp_ok hc) hw rfl) fun D σ H ⟨m, env, h, sm, w⟩ => ?_
  simp only [exS] at w
  refine ⟨m, env, h, sm, (WantS.bind sm.er w).mono ?_⟩
  rintro z H1 ⟨m1, v1, h1, st1, r1, w1⟩
  refine ⟨m1, env, h1, sm.step st1, (WantS.bind (sm.er.car st1.car) w1).mono ?_⟩
  rintro x H2 ⟨m2, v2, h2, st2, r2, w2⟩
  refine ⟨m2, env, h2, (sm.step st1).step st2, (WantS.bind ((sm.er.car st1.car).car st2.car) w2).mono ?_⟩
  rintro y H3 ⟨m3, v3, h3, st3, r3, w3⟩
  cases es : setM h3 v2 v3 v1 with
  | none => rw [es] at w3; exact no_wantS w3
  | some h4 =>
    rw [es] at w3
    rcases setM_ok st3.rel es (r2.step st3) r3 ((r1.step st2).step st3) with ⟨p, xs, q, j, rfl, rfl, sq, ej, st⟩ | ⟨p, kvs, k, rfl, rfl, sq, hz, st⟩
    · exact .inl ⟨p, xs, q, j, rfl, rfl, sq, ej, w3.next st ((((sm.er.car st1.car).car st2.car).car st3.car).car st.car)⟩
    · exact .inr ⟨p, kvs, k, rfl, rfl, sq, hz, w3.next st ((((sm.er.car st1.car).car st2.car).car st3.car).car st.car)⟩
/-- name op= e, of ints -/
theorem ip_op {op' : Operator} {op : Bop} (ho : trOp op' = some op) : PIp X op' (fun x y H Q => ∃ i j z, x = .int i ∧ y = .int j ∧ binI op i j = some z ∧ op ≠ .pow ∧ Q (.int z) H) := by
  intro pins s σ H x y v u Q I rx ry hq
  obtain ⟨i, j, z, rfl, rfl, e, hne, q⟩ := hq
  cases op' with
  | Add => cases ho; cases e; exact iop_add pins s σ H _ _ v u Q I rx ry ⟨i, j, rfl, rfl, q⟩
  | Sub => cases ho; cases e; exact iop_sub pins s σ H _ _ v u Q I rx ry ⟨i, j, rfl, rfl, q⟩
  | Mult =>
    cases ho
    simp only [binI] at e
    split at e
    · rename_i c
      cases e
      obtain ⟨t, rfl⟩ := rx
      obtain ⟨t', rfl⟩ := ry
      refine PyProof.Rows.imul_int ⟨.int _, H, I.tok _, ⟨_, rfl⟩, q⟩ ?_
      rcases mulOk_ok c with c | c
      · exact c.ok
      · exact c.ok
    · cases e
  | FloorDiv =>
    cases ho
    simp only [binI] at e
    split at e
    · rename_i c
      cases e
      obtain ⟨t, rfl⟩ := rx
      obtain ⟨t', rfl⟩ := ry
      exact PyProof.Rows.ifloordiv_int (by omega) (by rw [Int.fdiv_eq_ediv_of_nonneg i (by omega)]; exact ⟨.int _, H, I.tok _, ⟨_, rfl⟩, q⟩) (.inl (PyProof.noPylong_of_log2 c.2))
    · cases e
  | Mod =>
    cases ho
    simp only [binI] at e
    split at e
    · rename_i c
      cases e
      exact iop_mod pins s σ H _ _ v u Q I rx ry ⟨i, j, rfl, rfl, c, q⟩
    · cases e
  | Pow => cases ho; exact absurd rfl hne
  | _ => cases ho
theorem st_aug {x : Str} {i : Nat} {e : Expr} {e' : E} {xp : Pos} {op' : Operator} {op : Bop} (ho : trOp op' = some op) (hp : op ≠ .pow) (o : Okx X g W P C N sc k) (hx : slotOf N x = some i) (hl : isLoc (sc.names.lookup x) = true) (hf : X.fn x = true) (he : PE X e (RE g W P C e')) : PS X (.AugAssign (.Name x xp) op' e pos) (RS g W P C (.aug i op e')) := by
  refine psI (ps_aug (i := i) o.nd (by rw [o.N]; exact slotOf_get hx) (trLoc o hl) he (ip_op ho) (.inl hf)) fun D σ H ⟨m, env, h, sm, w⟩ => ?_
  simp only [exS] at w
  split at w
  · rename_i v ev
    obtain ⟨xv, e1, r⟩ := sm.er.val i v ev
    refine ⟨xv, e1, m, env, h, sm, (WantS.bind sm.er w).mono ?_⟩
    rintro y H1 ⟨m1, v1, h1, st1, r1, w1⟩
    split at w1
    · rename_i a b
      simp only [RM] at r r1
      subst r r1
      cases eb : binI op a b with
      | none => rw [eb] at w1; exact no_wantS w1
      | some z =>
        rw [eb] at w1
        exact ⟨a, b, z, rfl, rfl, eb, hp, w1.next (Step.refl st1.rel) ((sm.er.car st1.car).set (by simp only [RM]))⟩
    · exact no_wantS w1
  · exact no_wantS w
theorem attrBase {o : Expr} {f : Str} (h : f ≠ "x" → True) (hc : (match o with
    | .Call _ _ _ _ => false
    | _ => true) = true) : attributeBase o f X.env (eval o X.env) = eval o X.env := by
  cases o <;> first | rfl | cases hc
theorem st_app {o e : Expr} {o' e' : E} {ap cp : Pos} (hl : (ap.endLine == cp.line) = true) (hc : (match o with
    | .Call _ _ _ _ => false
    | _ => true) = true) (hn : notStar e = true) (ho : PE X o (RE g W P C o')) (he : PE X e (RE g W P C e')) : PS X (.Expr (.Call (.Attribute o "append" ap) [e] [] cp) pos) (RS g W P C (.app o' e')) := by
  refine psI (ps_expr (pe_bm PySem.F.plainAttrs_list PySem.F.slot_list_append PySem.F.type_list_append mt_append ho (pa_cons he pa_nil (star_cons hn)) (attrBase (fun _ => trivial) hc) (by rw [star_cons hn]; rfl) hl (star_cons hn) rfl) rfl) fun D σ H ⟨m, env, h, sm, w⟩ => ?_
  simp only [exS] at w
  refine ⟨m, env, h, sm, (WantS.bind sm.er w).mono ?_⟩
  rintro x H1 ⟨m1, v1, h1, st1, r1, w1⟩
  by_cases hi : isLst h1 v1 = true
  · rw [if_pos hi] at w1
    have ty : tyV X.K "list" x H1 := by
      cases v1 with
      | ref i =>
        simp only [isLst] at hi
        split at hi
        · rename_i ys hy
          obtain ⟨p, vs, rfl, e1, sq, r⟩ := lst_at st1.rel hy r1
          exact .inl ⟨rfl, vs, SqL.of sq⟩
        · cases hi
      | _ => cases hi
    refine ⟨ty, m1, env, h1, sm.step st1, (WantS.bind (sm.er.car st1.car) w1).mono ?_⟩
    rintro y H2 ⟨m2, v2, h2, st2, r2, w2⟩
    cases ea : appM h2 v1 v2 with
    | none => rw [ea] at w2; exact no_wantS w2
    | some h3 =>
      rw [ea] at w2
      cases v1 with
      | ref i =>
        simp only [appM] at ea
        split at ea
        · rename_i ys hy
          split at ea
          · rename_i c
            cases ea
            obtain ⟨p, vs, rfl, e1, sq, r⟩ := lst_at st2.rel hy (r1.step st2)
            have st := st2.rel.write (ob := .lst (vs ++ [y])) (o' := .lst (ys ++ [v2])) e1 fun c => ⟨_, upd_same, (r.append (show RMs g m2 H2 [v2] [y] by simp only [RMs]; exact ⟨y, [], rfl, r2, rfl⟩)).car c⟩
            exact ⟨p, vs, y, rfl, rfl, sq, by rw [← r.length]; exact c, w2.next st (((sm.er.car st1.car).car st2.car).car st.car)⟩
          · cases ea
        · cases ea
      | _ => simp [appM] at ea
  · rw [if_neg hi] at w1
    exact no_wantS w1
/-! ### for -/
theorem for_read {t : T} {tb : List S} {xs : List M} {gs : List (Nat × O)} {J : It} {m1 : List Addr} {H1 : Hp} {h1 : Hm} (sm : Sim g m1 H1 h1 env σ) (wk : Walk g m1 H1 xs gs J)
    (w : WantS g W m1 H1 D (forGo (fun x env h => match asgT t x env with
      | some env' => exSs P C tb env' h
      | none => none) gs xs env h1)) :
    ∃ Wi : Nat → Nat → St → Hp → Prop, (∃ n, Wi 0 n σ H1) ∧ ∀ i n σ H, Wi i n σ H → (J.stop i H ∧ D.nx σ H) ∨
      (J.go i H ∧ ∃ Nx : St → Hp → Prop, (∀ σ' H', Nx σ' H' → ∃ n', n' < n ∧ Wi (i + 1) n' σ' H') ∧ ∀ x H', J.yld i H x H' → RG g t x σ H' fun σ2 H2 => RSs g W P C tb { D with nx := Nx, ct := Nx, bk := D.nx } σ2 H2) := by
  refine ⟨fun i n σ H => n = xs.length - i ∧ i ≤ xs.length ∧ ∃ m env h, Step g m1 H1 h m H ∧ ER g m H env σ ∧ WantS g W m H D (forGo (fun x env h => match asgT t x env with
      | some env' => exSs P C tb env' h
      | none => none) gs (xs.drop i) env h), ⟨xs.length, by simp, Nat.zero_le _, m1, env, h1, Step.refl sm.rel, sm.er, by simpa using w⟩, ?_⟩
  rintro i n σ H ⟨rfl, hi, m, env, h, st, er, w⟩
  by_cases hlt : i < xs.length
  · rw [List.drop_eq_getElem_cons hlt] at w
    simp only [forGo] at w
    by_cases kp : kept h gs
    · rw [if_pos kp] at w
      obtain ⟨g1, y1⟩ := (wk m H h st kp i).1 _ (List.getElem?_eq_getElem hlt)
      refine .inr ⟨g1, fun σ' H' => ∃ m env h, Step g m1 H1 h m H' ∧ ER g m H' env σ' ∧ WantS g W m H' D (forGo (fun x env h => match asgT t x env with
        | some env' => exSs P C tb env' h
        | none => none) gs (xs.drop (i + 1)) env h), fun σ' H' q => ⟨xs.length - (i + 1), by omega, rfl, hlt, q⟩, fun x H' y => ?_⟩
      obtain ⟨sy, rx⟩ := y1 x H' y
      have st := st.trans sy
      have er := er.car sy.car
      have w := WantS.base w sy
      cases ea : asgT t xs[i] env with
      | none => simp only [ea] at w; exact no_wantS w
      | some env' =>
        simp only [ea] at w
        refine ⟨m, env, h, xs[i], env', ⟨er, st.rel⟩, rx, ea, fun σ' er' _ => ⟨m, env', h, ⟨er', st.rel⟩, ?_⟩⟩
        cases eb : exSs P C tb env' h with
        | none => rw [eb] at w; exact no_wantS w
        | some f =>
          rw [eb] at w
          refine ⟨f, rfl, ?_⟩
          cases f with
          | next e1 h2 => exact fun m' H' σ' st' er => ⟨m', e1, h2, st.trans st', er, WantS.base w st'⟩
          | cont e1 h2 => exact fun m' H' σ' st' er => ⟨m', e1, h2, st.trans st', er, WantS.base w st'⟩
          | brk e1 h2 => exact fun m' H' σ' st' er => w.next st' er
          | ret v h2 => exact fun m' H' x st' r => w.ret st' r
          | exc c fs e1 h2 =>
            obtain ⟨_, e, w⟩ := w
            cases e
            exact w
    · rw [if_neg kp] at w
      exact no_wantS w
  · have e : i = xs.length := by omega
    subst e
    rw [List.drop_length] at w
    simp only [forGo] at w
    by_cases kp : kept h gs
    · rw [if_pos kp] at w
      exact .inl ⟨(wk m H h st kp xs.length).2 (Nat.le_refl _), w.next (Step.refl st.rel) er⟩
    · rw [if_neg kp] at w
      exact no_wantS w
theorem st_for {tg it : Expr} {t : T} {i : IT} {b : List Stmt} {b' : List S} (hp : PassesOwn (model X.prog X.w) X.A X.env X.xe) (hc : X.calm = true) (hset : notSet it = true) (hi : PI X tg it (RI g W P C i)) (hg : PG X tg (RG g t)) (hb : PSs X b (RSs g W P C b')) :
    PS X (.For tg it b [] pos) (RS g W P C (.for_ t i b')) := by
  refine psI (ps_for hp hc hi hg hb (notSet_ok hset)) fun D σ H ⟨m, env, h, sm, w⟩ => ?_
  simp only [exS] at w
  cases ei : evI P C i env h with
  | none => rw [ei] at w; exact no_wantS w
  | some r =>
    rw [ei] at w
    refine ⟨m, env, h, sm, r, ei, ?_⟩
    cases r with
    | exc c fs h1 =>
      obtain ⟨_, e, w⟩ := w
      cases e
      exact fun m1 H1 cls d st rx => w m1 H1 σ cls d st (sm.er.car st.car) rx
    | ok xg h1 =>
      simp only [bindF_ok] at w
      intro m1 H1 J st wk
      exact for_read (sm.step st) wk (WantS.base w st)
end
end MP
namespace MP
open PySem L2
/-! ### stores into fields, del d[k] -/
section
variable {X : Cx} {g : G} {W : WX} {P : Tx} {C : Cal} {N : List Str} {sc : Scope} {k : Bool} {pos p : Pos} {m m' : List Addr} {H H' : Hp} {h h' : Hm} {D : Ends} {env : Ev} {σ : St}
theorem setf_at (o : Okx X g W P C N sc k) {x v : M} {f : Str} {h4 : Hm} (rel : HRel g m h H) (e : setfM P h x f v = some h4) {y z : V} (r1 : RM g m H x y) (r2 : RM g m H v z) :
    ∃ i a c D dx ws, x = .ref i ∧ y = .ref a ∧ m[i]? = some a ∧ g.mg c = some (.ref D) ∧ H a = some (.ins D dx ws) ∧ Cls X.K D ∧ NoAttr X.K D f ∧ ws.length < 1000 ∧ Step g m H h4 m (upd H a (.ins D dx (putF f z ws))) := by
  cases x with
  | ref i =>
    simp only [setfM] at e
    split at e
    · rename_i c fs hi
      split at e
      · rename_i hc
        cases e
        obtain ⟨i', a, D, dx, ws, ei, rfl, e1, e2, e3, e4, e5, e6, e7⟩ := insM_at (x := .ref i) (c := c) (fs := fs) rel (by simp only [insM, hi]) r1
        cases ei
        obtain ⟨D', d1, cl, na⟩ := o.fld c f hc.1
        rw [← o.mg, e3] at d1
        cases d1
        have hne : dx ≠ a := fun z => by rw [z, e4] at e6; cases e6
        refine ⟨i, a, c, D, dx, ws, rfl, rfl, e1, e3, e4, cl, na, by rw [← e7.length]; exact hc.2, rel.write e1 fun cc => ?_⟩
        exact ⟨D, dx, _, e3, upd_same, e5, by rw [upd_ne hne]; exact e6, (RFs.put r2 e7).car cc⟩
      · cases e
    · cases e
  | _ => simp [setfM] at e
theorem st_setf {oe e : Expr} {o' e' : E} {f : Str} {ap : Pos} (o : Okx X g W P C N sc k) (hc : notComp e = true) (he : PE X e (RE g W P C e')) (ho : PE X oe (RE g W P C o')) : PS X (.Assign [.Attribute oe f ap] e pos) (RS g W P C (.setf o' f e')) := by
  refine psI (ps_fld ho he (notComp_ok hc)) fun D σ H ⟨m, env, h, sm, w⟩ => ?_
  simp only [exS] at w
  refine ⟨m, env, h, sm, (WantS.bind sm.er w).mono ?_⟩
  rintro z H1 ⟨m1, v1, h1, st1, r1, w1⟩
  refine ⟨m1, env, h1, sm.step st1, (WantS.bind (sm.er.car st1.car) w1).mono ?_⟩
  rintro x H2 ⟨m2, v2, h2, st2, r2, w2⟩
  cases es : setfM P h2 v2 f v1 with
  | none => rw [es] at w2; exact no_wantS w2
  | some h4 =>
    rw [es] at w2
    obtain ⟨i, a, c, D', dx, ws, rfl, rfl, e1, e2, e3, cl, na, hl, st⟩ := setf_at o st2.rel es r2 (r1.step st2)
    exact ⟨a, D', dx, ws, rfl, e3, cl, na, hl, w2.next st (((sm.er.car st1.car).car st2.car).car st.car)⟩
theorem st_augf {oe e : Expr} {o' e' : E} {f : Str} {ap : Pos} {op' : Operator} {op : Bop} (hop : trOp op' = some op) (hop2 : op = .add ∨ op = .sub) (o : Okx X g W P C N sc k) (he : PE X e (RE g W P C e')) (ho : PE X oe (RE g W P C o')) : PS X (.AugAssign (.Attribute oe f ap) op' e pos) (RS g W P C (.augf o' f op e')) := by
  have main : ∀ (zz : Int → Int → Int), (∀ a b, augI op a b = some (zz a b)) → InOp X op' (fun x y H Q => ∃ i j, x = .int i ∧ y = .int j ∧ Q (.int (zz i j)) H) → PS X (.AugAssign (.Attribute oe f ap) op' e pos) (RS g W P C (.augf o' f op e')) := by
    intro zz hz ip
    refine psI (ps_fldaug ho he ip) fun D σ H ⟨m, env, h, sm, w⟩ => ?_
    simp only [exS, hz] at w
    refine ⟨m, env, h, sm, (WantS.bind sm.er w).mono ?_⟩
    rintro x H1 ⟨m1, v1, h1, st1, r1, w1⟩
    split at w1
    · rename_i a ea
      unfold fldM at ea
      cases hi : insM h1 v1 with
      | none => rw [hi] at ea; cases ea
      | some cf =>
        obtain ⟨c, fs⟩ := cf
        rw [hi] at ea
        dsimp only at ea
        split at ea
        · rename_i hf
          obtain ⟨i, ad, D', dx, fv, rfl, rfl, e1, e2, e3, e4, e5, e6, e7⟩ := insM_at st1.rel hi r1
          obtain ⟨D'', d1, cl, na⟩ := o.fld c f hf
          rw [← o.mg, e3] at d1
          cases d1
          have := RFs.look (f := f) e7
          rw [ea] at this
          obtain ⟨u, e8, ru⟩ := this
          simp only [RM] at ru
          subst ru
          refine ⟨ad, D', dx, fv, _, rfl, e4, cl, na, e8, m1, env, h1, sm.step st1, (WantS.bind (sm.er.car st1.car) w1).mono ?_⟩
          rintro y H2 ⟨m2, v2, h2, st2, r2, w2⟩
          split at w2
          · rename_i b
            split at w2
            · rename_i hcl
              split at w2
              · rename_i h3 es
                simp only [RM] at r2
                subst r2
                obtain ⟨i2, a2, c2, D2, dx2, ws2, ei, ey, f1, f2, f3, f4, f5, f6, st⟩ := setf_at o st2.rel es (r1.step st2) (show RM g m2 H2 (.int (zz a b)) (.int (zz a b)) by simp only [RM])
                cases ei
                cases ey
                have hD : D2 = D' := by
                  cases hi2 : insM h2 (.ref i) with
                  | none => simp only [clsM, hi, hi2] at hcl; cases hcl
                  | some cf2 =>
                    obtain ⟨c3, fs3⟩ := cf2
                    simp only [clsM, hi, hi2, Option.map_some, Option.some.injEq] at hcl
                    subst hcl
                    obtain ⟨i3, a3, D3, dx3, fv3, ei3, ea3, g1, g2, g3, g4, _⟩ := insM_at st2.rel hi2 (r1.step st2)
                    cases ei3
                    cases ea3
                    rw [e3] at g3
                    cases g3
                    rw [f3] at g4
                    cases g4
                    rfl
                subst hD
                exact ⟨a, b, rfl, rfl, dx2, ws2, f3, f6, w2.next st (((sm.er.car st1.car).car st2.car).car st.car)⟩
              · exact no_wantS w2
            · exact no_wantS w2
          · exact no_wantS w2
        · cases ea
    · exact no_wantS w1
  cases op' with
  | Add => cases hop; exact main (· + ·) (fun _ _ => rfl) in_add
  | Sub => cases hop; exact main (· - ·) (fun _ _ => rfl) in_sub
  | _ => cases hop <;> simp at hop2
theorem st_del {oe ie : Expr} {o' i' : E} {ap : Pos} (ho : PE X oe (RE g W P C o')) (hi : PE X ie (RE g W P C i')) : PS X (.Delete [.Subscript oe ie ap] pos) (RS g W P C (.del o' i')) := by
  refine psI (ps_ddel ho hi) fun D σ H ⟨m, env, h, sm, w⟩ => ?_
  simp only [exS] at w
  refine ⟨m, env, h, sm, (WantS.bind sm.er w).mono ?_⟩
  rintro x H1 ⟨m1, v1, h1, st1, r1, w1⟩
  refine ⟨m1, env, h1, sm.step st1, (WantS.bind (sm.er.car st1.car) w1).mono ?_⟩
  rintro y H2 ⟨m2, v2, h2, st2, r2, w2⟩
  split at w2
  · rename_i h3 hd
    unfold delM at hd
    split at hd
    · rename_i a
      split at hd
      · rename_i kvs kk ha hk
        split at hd
        · rename_i hs
          cases hd
          have r1' := r1.step st2
          simp only [RM] at r1'
          obtain ⟨p, e1, rfl⟩ := r1'
          obtain ⟨ws, hp, rk⟩ := dicAt2 st2.rel e1 ha
          have ey := keyM_rel hk r2
          obtain ⟨z, gz⟩ := Option.isSome_iff_exists.mp hs
          obtain ⟨u, eu, ru⟩ := getK_rel rk gz
          have stw : Step g m2 H2 (h2.set a (.dic (dropD kvs kk))) m2 (upd H2 p (.dK (dropK ws kk))) := st2.rel.write e1 fun c => ⟨_, upd_same, (dropD_rel rk).car c⟩
          exact ⟨p, ws, kk, rfl, hp, ey, by rw [eu]; rfl, w2.next stw (((sm.er.car st1.car).car st2.car).car stw.car)⟩
        · cases hd
      · cases hd
    · cases hd
  · exact no_wantS w2
end
end MP
namespace MP
open PySem L2
/-! ### plain parameters -/
theorem zip_lookup : ∀ {ns : List Str} {us : List Value}, ns.Nodup → us.length = ns.length → ns.filterMap (fun n => ((ns.zip us).lookup n).map (n, ·)) = ns.zip us := by
  have key : ∀ (ns : List Str) (us : List Value) (pre : List (Str × Value)), ns.Nodup → us.length = ns.length → (∀ n ∈ ns, pre.lookup n = none) → ns.filterMap (fun n => ((pre ++ ns.zip us).lookup n).map (n, ·)) = ns.zip us := by
    intro ns
    induction ns with
    | nil => intro us pre _ _ _; rfl
    | cons n ns ih =>
      intro us pre nd hl hp
      cases us with
      | nil => simp at hl
      | cons u us =>
        have nd' := List.nodup_cons.mp nd
        have l1 : (pre ++ (n, u) :: ns.zip us).lookup n = some u := by
          rw [List.lookup_append, hp n (List.mem_cons_self ..)]
          simp
        rw [List.zip_cons_cons, List.filterMap_cons, l1]
        have ih2 := ih us (pre ++ [(n, u)]) nd'.2 (by simpa using hl) (fun k hk => by
          rw [List.lookup_append, hp k (List.mem_cons_of_mem _ hk)]
          have : (k == n) = false := by
            simp
            rintro rfl
            exact nd'.1 hk
          simp [List.lookup, this])
        rw [List.append_assoc] at ih2
        simp only [Option.map_some]
        rw [show [(n, u)] ++ ns.zip us = (n, u) :: ns.zip us from rfl] at ih2
        rw [ih2]
  intro ns us nd hl
  exact key ns us [] nd hl (fun _ _ => rfl)
theorem zip_missing : ∀ {ns : List Str} {us : List Value}, us.length = ns.length → ns.filter (fun n => ((ns.zip us).lookup n).isNone) = [] := by
  intro ns us hl
  rw [List.filter_eq_nil_iff]
  intro n hn
  have : ((ns.zip us).lookup n).isSome = true := by
    have : ∃ v, (n, v) ∈ ns.zip us := by
      obtain ⟨i, hi, e⟩ := List.getElem_of_mem hn
      have hi2 : i < us.length := by omega
      refine ⟨us[i], ?_⟩
      have hz : i < (ns.zip us).length := by simp; omega
      have : (ns.zip us)[i] = (n, us[i]) := by simp [e]
      rw [← this]
      exact List.getElem_mem hz
    obtain ⟨v, hv⟩ := this
    rw [List.lookup_isSome_iff]
    exact ⟨(n, v), hv, by simp⟩
  cases e : (ns.zip us).lookup n with
  | none => rw [e] at this; cases this
  | some v => simp
/-- the parameters are names alone -/
structure PlainA (p : Arguments) (ps : List Str) : Prop where
  po : p.posonlyargs = []
  ar : p.args.map (·.arg) = ps
  va : p.vararg = none
  ko : p.kwonlyargs = []
  kw : p.kwarg = none
theorem bind_plain {x qual : Str} {p : Arguments} {body : List Stmt} {scope : Scope} {kV doc pm : Value} {an : Option Addr} {cdv ct : Value} {ps : List Str} (hp : PlainA p ps) (nd : ps.Nodup) (us : List Value) (hl : us.length = ps.length) :
    bindArgs (PySem.W.fnOf x qual p body scope .none kV doc pm an cdv ct) ⟨us, []⟩ = pure (ps.zip us) := by
  have e1 : ((PySem.W.fnOf x qual p body scope .none kV doc pm an cdv ct).params) = p := rfl
  have e2 : ((PySem.W.fnOf x qual p body scope .none kV doc pm an cdv ct).defaults) = .none := rfl
  unfold bindArgs
  simp only [e1, e2, hp.po, hp.ar, hp.va, hp.ko, hp.kw, List.map_nil, List.nil_append, List.append_nil]
  have s0 : seqItems? Value.none = pure none := rfl
  simp only [s0, pure_bind, List.forIn_nil, Option.getD_none]
  have g1 : (decide (us.length > ps.length) && (none : Option Arg).isNone) = false := by simp [hl]
  simp [hl, zip_missing hl, zip_lookup nd hl]
/-! ### an error is made and raised -/
section
variable {X : Cx} {g : G} {W : WX} {P : Tx} {C : Cal} {N : List Str} {sc : Scope} {k : Bool} {pos p : Pos} {m : List Addr} {H : Hp} {h : Hm} {D : Ends} {env : Ev} {σ : St}
/-- c(), c an own class without own __init__ -/
theorem pmk_zero {C : Addr} {bmB : List Value} {B newId initId : String} {x : Str} (F : ExcBaseFacts B newId initId bmB) (q : PySem.W.excIn X.K C bmB newId = true) (gC : X.mg x = some (.ref C)) (kC : PySem.W.keepIn X.K (.ref C) = true)
    (r : Raises X (.ref C)) (hg : Gl X x) (hdb : (x == ("__debug__" : Str)) = false) : PMk X (.Call (.Name x p) [] [] pos) (fun _ H Q => Q (.ref C) none H) := by
  intro pins s σ H Q I h
  refine wpAny_Call_Name_kw (ld_glob I hg gC ?_ hdb)
  refine PySem.W.callWith_K0 I.kIn kC ?_
  obtain ⟨bm, N, nm, qn, bs, hdct, sn, sub, ab, col, dd, k0, k1, k2, k3, k5, mN, hC, hN, hni, T⟩ := exc_obj I.kIn q
  refine wpAny_call_exc_subT F T hC hN hni (fun h' e hm => ?_) (by simp)
  exact mk_of I hm r h (I.hok.gone hm.new)
theorem RFs.app : ∀ {xs ys : List (Str × M)} {vs ws : List (Str × V)}, RFs g m H xs vs → RFs g m H ys ws → RFs g m H (xs ++ ys) (vs ++ ws)
  | [], ys, vs, ws, r, q => by
    simp only [RFs] at r
    subst r
    exact q
  | x :: xs, ys, vs, ws, r, q => by
    simp only [RFs] at r
    obtain ⟨v, t, rfl, r1, r2⟩ := r
    simp only [List.cons_append, RFs]
    exact ⟨v, t ++ ws, rfl, r1, RFs.app r2 q⟩
theorem RFs.zip : ∀ {fs : List Str} {xs : List M} {vs : List V}, RMs g m H xs vs → RFs g m H (fs.zip xs).reverse (fs.zip vs).reverse
  | [], xs, vs, r => by simp [RFs]
  | f :: fs, [], vs, r => by
    simp only [RMs] at r
    subst r
    simp [RFs]
  | f :: fs, x :: xs, vs, r => by
    simp only [RMs] at r
    obtain ⟨v, t, rfl, r1, r2⟩ := r
    simp only [List.zip_cons_cons, List.reverse_cons]
    exact RFs.app (RFs.zip r2) (by simp only [RFs]; exact ⟨v, [], rfl, r1, rfl⟩)
theorem rai_none {c : Str} (o : Okx X g W P C N sc k) (hk : k = true) (hg : trGlo sc c = true) {sp : Pos} : PS X (.Raise (some (.Call (.Name c p) [] [] pos)) none sp) (RS g W P C (.rai c [])) := by
  obtain ⟨h1, h2⟩ := trGlo_ok o hg
  refine ⟨fun pins s σ H D I ⟨m, env, h, sm, w⟩ => ?_⟩
  simp only [exS] at w
  cases e : P.err c with
  | none => rw [e] at w; exact no_wantS w
  | some fs =>
    rw [e] at w
    dsimp only at w
    split at w
    · rename_i hl
      simp only [evEs, bindF_ok] at w
      obtain ⟨D', T⟩ := o.err c fs e
      have hf : fs = [] := List.eq_nil_of_length_eq_zero (by simpa using hl.symm)
      subst hf
      simp only [List.length_nil, if_true] at w
      obtain ⟨_, e1, w⟩ := w
      cases e1
      rcases T.made with ⟨_, B, nI, iI, bmB, F, q⟩ | ⟨z, _⟩
      · exact (ps_raise (o.calm hk) o.tk (pmk_zero F q T.nm T.kp (raises_own T.xf.exC T.ty) h1 h2)).run pins s σ H D I (w m H σ _ _ (Step.refl sm.rel) sm.er ⟨D', by rw [o.mg]; exact T.nm, rfl, .inl ⟨rfl, rfl⟩⟩)
      · exact absurd rfl z
    · exact no_wantS w
theorem oex_heap {H1 : Hp} {a dx D' : Addr} {ws : List (Str × V)} (ha : H1 a = none) (n : dx ≠ a) : upd (del (upd (upd (upd H1 a (exo a D' none)) dx (exd dx ws)) a (exo a D' (some dx))) a) dx (.xd ws) = upd H1 dx (.xd ws) := by
  funext b
  by_cases hb : b = dx
  · subst hb; rw [upd_same, upd_same]
  · rw [upd_ne hb, upd_ne hb]
    by_cases hba : b = a
    · subst hba; rw [del_same, ha]
    · rw [del_ne hba, upd_ne hba, upd_ne hb, upd_ne hba]
theorem rai_some {c : Str} {e : Expr} {es : List Expr} {e0 : E} {es' : List E} (o : Okx X g W P C N sc k) (hk : k = true) (hg : trGlo sc c = true) (hns : (e :: es).all notStar = true) (ha : PA X (e :: es) (RA g W P C (e0 :: es'))) {sp : Pos} :
    PS X (.Raise (some (.Call (.Name c p) (e :: es) [] pos)) none sp) (RS g W P C (.rai c (e0 :: es'))) := by
  obtain ⟨h1, h2⟩ := trGlo_ok o hg
  rw [List.all_cons, Bool.and_eq_true] at hns
  refine ⟨fun pins s σ H D I ⟨m, env, h, sm, w⟩ => ?_⟩
  simp only [exS] at w
  cases e1 : P.err c with
  | none => rw [e1] at w; exact no_wantS w
  | some fs =>
    rw [e1] at w
    dsimp only at w
    split at w
    · rename_i hl0
      obtain ⟨D', T⟩ := o.err c fs e1
      rcases T.made with ⟨hf, -⟩ | ⟨hf, hl, O, fI, fd, ps, i1, i2, hb, F⟩
      · subst hf
        simp at hl0
      · refine (ps_raise (o.calm hk) o.tk (pmk_oex (ds := []) (dvs := []) O i1 i2 F (o.room hk) hb .nil (passes_call o.tk fun _ _ _ _ z => z.elim) h1 T.nm ha h2 (star_cons hns.1) (star_any hns.2))).run pins s σ H D I ?_
        refine ⟨m, env, h, sm, (WantS.bind sm.er w).mono ?_⟩
        rintro vs H1 ⟨m1, xs, h1', st1, r1, w1⟩
        split at w1
        · rename_i hlen
          have hvl := r1.length
          refine ⟨by omega, fun a na => ⟨a, vs, by simp, by omega, upd_same, fun dx hdx ndx => ⟨rfl, dx, _, upd_same, by rw [upd_ne ndx, upd_same], by rw [upd_ne ndx] at hdx; exact hdx, ?_⟩⟩⟩
          rw [oex_heap na ndx]
          have hdx' : H1 dx = none := by rw [upd_ne ndx] at hdx; exact hdx
          have st : Step g m1 H1 h1' m1 (upd H1 dx (.xd (fs.zip vs).reverse)) := st1.rel.laid hdx'
          obtain ⟨_, ee, w1⟩ := w1
          cases ee
          refine w1 m1 _ σ _ _ st ((sm.er.car st1.car).car st.car) ⟨D', by rw [o.mg]; exact T.nm, rfl, .inr ⟨dx, _, rfl, st1.rel.notIn hdx', upd_same, ?_⟩⟩
          exact RFs.zip (r1.step st)
        · exact no_wantS w1
    · exact no_wantS w
end
end MP
namespace MP
open PySem L2
/-! ### the error that a suite holds -/
theorem pe_xfp {X : Cx} {a C : Addr} {oe : Obj} {cls : Value} {d : Option Addr} {e : Expr} {te : TE} {pos : Pos} {n : Str} (T : XfC X.K C) (hno : PySem.W.findIn X.K (.ref C) n = some none)
    (hz : Zc cls d oe) (hf : ∃ vs, oe.data = .fields vs) (hp : (a, oe) ∈ X.pn) (he : PE X e te) (hb : attributeBase e n X.env (eval e X.env) = eval e X.env := by rfl) :
    PE X (.Attribute e n pos) (tXf a cls d C n te) := by
  refine ⟨fun pins s σ H Q I h => attr_of hb (thn (he.run pins s σ H _ I h) fun u s1 hh => ?_)⟩
  obtain ⟨x, H1, I1, rx, rfl, rfl, dd, fs, v, rfl, ea, l, q⟩ := hh
  cases rx
  have ha := (I1.pin (a, oe) (List.mem_append_left _ hp)).1
  obtain ⟨vs, hd⟩ := hf
  obtain ⟨mA, hns, hr⟩ : ObjOk X.prog X.w H1 s1.heap dd (.xd fs) := I1.hok dd _ ea
  obtain ⟨od, ho, hl⟩ := lookIn_ns hns
  obtain ⟨w, hw, rw_⟩ := RelO.some_of (v := v) (o := mA n) (by rw [← l]; exact hr n)
  exact HandSPX.exc_get I1.kIn (⟨ha, hz.1, by unfold PySem.W.notCls; rw [hd] <;> rfl, by rw [hz.2]; exact ho⟩ : PySem.W.InstAt s1.heap a oe C (some od)) T.ga T.gg T.exC (PySem.W.findObj_own T.hdC hno rfl (by rw [hl, hw])) (handed_of rw_) ⟨v, H1, I1.tok _, rw_, q⟩
section
variable {X : Cx} {g : G} {W : WX} {P : Tx} {C : Cal} {N : List Str} {sc : Scope} {k : Bool} {pos p : Pos} {m : List Addr} {H : Hp} {h : Hm} {D : Ends} {env : Ev} {σ : St}
theorem s_exf_err {x f : Str} {i : Nat} {q : Pos} (o : Okx X g W P C N sc k) (hx : trVar N sc x = some i) : PE X (.Attribute (.Name x p) f q) (fun σ H Q => ∃ m env h, Sim g m H h env σ ∧ env[i]? = some none ∧ Want g (WE' W σ) m H (RM g) (evE P C (.exf i f) env h) Q) := by
  obtain ⟨h1, h2, h3, h4⟩ := trVar_ok hx
  cases e : P.exv with
  | none => exact ⟨fun pins s σ H Q I ⟨m, env, h, sm, hb, w⟩ => by simp only [evE, hb, e] at w; exact no_want w⟩
  | some q =>
    obtain ⟨j, c, fs⟩ := q
    obtain ⟨a, oe, cls, d, hp, hz, hd, gx⟩ := o.ex j c fs e
    cases e2 : P.err c with
    | none => exact ⟨fun pins s σ H Q I ⟨m, env, h, sm, hb, w⟩ => by
        simp only [evE, hb, e, e2] at w
        exact no_want w⟩
    | some ns =>
      obtain ⟨D', T⟩ := o.err c ns e2
      by_cases hf : f ∈ ns
      · have pv : PE X (.Name x p) _ := pe_var (i := i) (by rw [o.N]; exact h1) (by rw [o.sc]; exact h2) h3 h4
        refine peI (pe_xfp T.xf (T.no f hf) hz hd hp pv) fun σ H Q ⟨m, env, h, sm, hb, w⟩ => ?_
        simp only [evE, hb, e, e2] at w
        split at w
        · rename_i hc
          obtain ⟨rfl, _⟩ := hc
          obtain ⟨v, ev, w⟩ := w.okv
          obtain ⟨e3, C', r1, r2, r3⟩ := sm.er.err _ _ _ _ _ _ gx hb
          have hC : Value.ref C' = Value.ref D' := by
            have := T.nm
            rw [← o.mg, r1] at this
            exact Option.some.inj this
          cases hC
          refine ⟨.ref a, e3, rfl, r2, ?_⟩
          rcases r3 with ⟨rfl, _⟩ | ⟨dd, ws, e4, nm, e5, rf⟩
          · cases ev
          · have := RFs.look (f := f) rf
            rw [ev] at this
            obtain ⟨u, eu, ru⟩ := this
            exact ⟨dd, ws, u, e4, e5, eu, w.here sm.rel ru⟩
        · exact no_want w
      · exact ⟨fun pins s σ H Q I ⟨m, env, h, sm, hb, w⟩ => by
          simp only [evE, hb, e, e2] at w
          rw [if_neg (fun z => hf z.2)] at w
          exact no_want w⟩
theorem s_exf {x f : Str} {i : Nat} {q : Pos} (o : Okx X g W P C N sc k) (hx : trVar N sc x = some i) : PE X (.Attribute (.Name x p) f q) (RE g W P C (.exf i f)) := by
  refine ⟨fun pins s σ H Q I ⟨m, env, h, sm, w⟩ => ?_⟩
  cases he : env[i]? with
  | none => simp only [evE, he] at w; exact no_want w
  | some oo =>
    cases oo with
    | none => exact (s_exf_err o hx).run pins s σ H Q I ⟨m, env, h, sm, he, w⟩
    | some y =>
      refine (pe_fld (s_var o hx) (attB_ok rfl)).run pins s σ H Q I (fld_read o sm (Q := Q) ?_)
      simp only [evE, he] at w ⊢
      exact w
/-- isinstance(e, c), e the error of the suite, c a class of errors -/
theorem s_isx_err {x c : Str} {i : Nat} {q q2 : Pos} (o : Okx X g W P C N sc k) (hg : trGlo sc "isinstance" = true) (hc : trGlo sc c = true) (hx : trVar N sc x = some i) : PE X (.Call (.Name "isinstance" p) [.Name x q, .Name c q2] [] pos) (fun σ H Q => ∃ m env h, Sim g m H h env σ ∧ env[i]? = some none ∧ Want g (WE' W σ) m H (RM g) (evE P C (.isx i c) env h) Q) := by
  obtain ⟨g1, g2⟩ := trGlo_ok o hg
  obtain ⟨c1, c2⟩ := trGlo_ok o hc
  obtain ⟨h1, h2, h3, h4⟩ := trVar_ok hx
  cases e : P.exv with
  | none => exact ⟨fun pins s σ H Q I ⟨m, env, h, sm, hb, w⟩ => by simp only [evE, hb, e] at w; exact no_want w⟩
  | some y =>
    obtain ⟨j, d, fs⟩ := y
    obtain ⟨a, oe, cls, dd, hp, hz, hd, gx⟩ := o.ex j d fs e
    cases e2 : P.sub d c with
    | none => exact ⟨fun pins s σ H Q I ⟨m, env, h, sm, hb, w⟩ => by
        simp only [evE, hb, e, e2, Option.map_none, okv_none] at w
        split at w <;> exact no_want w⟩
    | some b =>
      obtain ⟨D', v, T⟩ := o.sub d c b e2
      obtain ⟨y, ry, uy⟩ := T.rel
      have pv : PE X (.Name x q) _ := pe_var (i := i) (by rw [o.N]; exact h1) (by rw [o.sc]; exact h2) h3 h4
      have pc : PE X (.Name c q2) (tC y) := by
        rcases T.cls.2 with e5 | ⟨e5, e6, e7⟩
        · exact pe_glob c1 e5 ry c2
        · exact ⟨fun pins s σ H Q I h => ld_blt I c1 e5 e6 ⟨y, H, I, ry, h⟩ e7 c2⟩
      have cr : CallR X (.builtin "isinstance") (fun xs H Q => xs = [.ref a, y] ∧ cls = .ref D' ∧ (dd = none ∨ ∃ d' ws, dd = some d' ∧ H d' = some (.xd ws)) ∧ Q (.bl b) H) := by
        intro pins s σ H xs us Q I r hh
        obtain ⟨rfl, rfl, hdd, hq⟩ := hh
        cases r with
        | cons rx rr =>
          cases rr with
          | cons rt rr =>
            cases rr
            cases rx
            have ec := uy _ rt
            subst ec
            obtain ⟨hget, _⟩ := I.pin (a, oe) (List.mem_append.mpr (.inl hp))
            obtain ⟨vs, hv⟩ := hd
            have hod : ∃ od, PySem.W.InstAt s.heap a oe D' od := by
              rcases hdd with rfl | ⟨d', ws, rfl, hw⟩
              · exact ⟨none, hget, hz.1, by unfold PySem.W.notCls; rw [hv] <;> rfl, by rw [hz.2]; exact trivial⟩
              · obtain ⟨o', ho'⟩ := objOk_get (I.hok d' _ hw)
                exact ⟨some o', hget, hz.1, by unfold PySem.W.notCls; rw [hv] <;> rfl, by rw [hz.2]; exact ho'⟩
            obtain ⟨od, J⟩ := hod
            refine PySem.W.kia_one (PySem.W.kitx_exc (od := od) (gt := none) ?_ T.ex.hg T.ex.hk T.ex.hs T.ex.ha T.ex.hn T.ex.ht T.ex.hm) I.kIn J T.kit (fun z => nomatch z) fun tk => ⟨.bl b, H, I.kept (t' := tk) fun _ _ z => z, rfl, hq⟩
            obtain ⟨cd, hcd, _⟩ := PySem.W.any_some T.ex.hd
            rw [hcd]; rfl
      refine peI (pe_callB cr g1 (o.free "isinstance" (by simp)) (by decide +kernel) (pa_cons pv (pa_cons pc pa_nil rfl) rfl) (by decide) g2) fun σ H Q ⟨m, env, h, sm, hb, w⟩ => ?_
      simp only [evE, hb, e, e2] at w
      split at w
      · rename_i hij
        subst hij
        obtain ⟨e3, C', r1, r2, r3⟩ := sm.er.err _ _ _ _ _ _ gx hb
        have hC : Value.ref C' = Value.ref D' := by
          have := T.nm
          rw [← o.mg, r1] at this
          exact Option.some.inj this
        cases hC
        exact ⟨.ref a, e3, rfl, r2, (by
          rcases r3 with ⟨_, e9⟩ | ⟨d', ws, e9, _, e8, _⟩
          · exact .inl e9
          · exact .inr ⟨d', ws, e9, e8⟩), w.here sm.rel rfl⟩
      · exact no_want w
/-- isinstance(e, c), c a class of the text that is no error -/
theorem s_isx {x c : Str} {i : Nat} {q q2 : Pos} (o : Okx X g W P C N sc k) (hg : trGlo sc "isinstance" = true) (hc : trGlo sc c = true) (hx : trVar N sc x = some i) : PE X (.Call (.Name "isinstance" p) [.Name x q, .Name c q2] [] pos) (RE g W P C (.isx i c)) := by
  obtain ⟨g1, g2⟩ := trGlo_ok o hg
  obtain ⟨c1, c2⟩ := trGlo_ok o hc
  refine ⟨fun pins s σ H Q I ⟨m, env, h, sm, w⟩ => ?_⟩
  cases he : env[i]? with
  | none => simp only [evE, he] at w; exact no_want w
  | some oo =>
    cases oo with
    | none => exact (s_isx_err o hg hc hx).run pins s σ H Q I ⟨m, env, h, sm, he, w⟩
    | some y =>
      simp only [evE, he] at w
      obtain ⟨z, ez, w⟩ := w.okv
      obtain ⟨b, eb, rfl⟩ := Option.map_eq_some_iff.mp ez
      obtain ⟨E', hE, key⟩ : ∃ E' : Addr, X.mg c = some (.ref E') ∧ ∀ m H, HRel g m h H → ∀ v, RM g m H y v → ∃ t, TyX X.K H v t ∧ PySem.W.kitOne X.K t (.ref E') = some b := by
        have plain : (if P.isc c c = some true then some false else none) = some b → tyM h y ≠ none → ∃ E' : Addr, X.mg c = some (.ref E') ∧ ∀ m H, HRel g m h H → ∀ v, RM g m H y v → ∃ t, TyX X.K H v t ∧ PySem.W.kitOne X.K t (.ref E') = some b := by
          intro e ht
          split at e
          · rename_i hcc
            cases e
            obtain ⟨D, E', T⟩ := o.isc _ _ _ hcc
            refine ⟨E', T.nc, fun m H rel v r => ?_⟩
            cases et : tyM h y with
            | none => exact absurd et ht
            | some t => exact ⟨_, tyM_ok o.K rel et r, T.oth _ (by cases t <;> simp [Ty.nm])⟩
          · cases e
        cases y with
        | ref a =>
          simp only [iscM] at eb
          split at eb
          · rename_i d fs hi
            obtain ⟨D, E', T⟩ := o.isc _ _ _ eb
            refine ⟨E', T.nc, fun m H rel v r => ?_⟩
            obtain ⟨i, a', D', dx, ws, ei, rfl, e1, e2, e3, e4, e5, e6, e7⟩ := insM_at (x := .ref a) (c := d) (fs := fs) rel (by simp only [insM, hi]) r
            have := T.nd
            rw [← o.mg, e3] at this
            cases this
            exact ⟨.ref D, .base (.ins e4 T.cl T.ha T.hn T.htk T.hm), T.kit⟩
          · rename_i oo hno hi
            refine plain eb ?_
            simp only [tyM, hi]
            cases oo with
            | lst xs => simp
            | dic kvs => simp
            | ins d fs => exact absurd rfl (hno d fs)
          · cases eb
        | non => exact plain eb (by simp [tyM])
        | bl z => exact plain eb (by simp [tyM])
        | int z => exact plain eb (by simp [tyM])
        | str z => exact plain eb (by simp [tyM])
        | tup z => exact plain eb (by simp [tyM])
        | rol z => cases eb
        | glo z => cases eb
        | rod z => cases eb
      have pc : PE X (.Name c q2) (tC (.ref E')) := pe_glob c1 hE rfl c2
      have cr := pe_callB (p := p) (pos := pos) call_isi g1 (o.free "isinstance" (by simp)) (by decide +kernel) (pa_cons (s_var (p := q) (g := g) (W := W) (P := P) (C := C) o hx) (pa_cons pc pa_nil rfl) rfl) (by decide) g2
      refine cr.run pins s σ H Q I ⟨m, env, h, sm, ?_⟩
      simp only [evE, he]
      refine ⟨_, rfl, fun m' H' v st r => ?_⟩
      obtain ⟨t, ty, kt⟩ := key m' H' st.rel v r
      obtain ⟨_, e9, w⟩ := w
      cases e9
      exact ⟨v, .ref E', t, .ref E', b, rfl, .own _, ty, kt, w m' H' _ st (by simp only [RM])⟩
end
end MP
namespace MP
open PySem L2 PySem.Spec
open PyProof.Rows hiding St
/-! ### try with clauses of both kinds -/
abbrev W0 : WX := fun _ _ _ _ => False
/-- the place of a suite that names its error -/
abbrev G.hold (g : G) (i : Nat) (c : Str) (fs : List (Str × M)) (a : Addr) (cls : Value) (d : Option Addr) : G := { g with xi := some (i, c, fs, a, cls, d) }
abbrev Tx.hold (P : Tx) (i : Nat) (c : Str) (fs : List (Str × M)) : Tx := { P with exv := some (i, c, fs) }
inductive Hds (X : Cx) (g : G) (P : Tx) (C : Cal) : List ExceptHandler → List Hd → Prop
  | nil : Hds X g P C [] []
  | bare {x : Str} {np hp : Pos} {b0 : Stmt} {bs : List Stmt} {b : List S} {hds : List ExceptHandler} {hs : List Hd} (hg : Gl X x)
      (su : ∀ (a : Addr) (oe : Obj) (cls : Value) (d : Option Addr) (pn : List (Addr × Obj)), Zc cls d oe → (∃ vs, oe.data = .fields vs) → PSs (X.suite a ((a, oe) :: pn)) (b0 :: bs) (RSs g W0 P C b)) (r : Hds X g P C hds hs) :
      Hds X g P C (.ExceptHandler (some (.Name x np)) none (b0 :: bs) hp :: hds) (.mk x none b :: hs)
  | named {x n : Str} {i : Nat} {np hp : Pos} {b0 : Stmt} {bs : List Stmt} {b : List S} {hds : List ExceptHandler} {hs : List Hd} (hg : Gl X x) (hi : X.N[i]? = some n) (hl : X.env.kindOf n = some .local)
      (su : ∀ (a : Addr) (oe : Obj) (cls : Value) (d : Option Addr) (c : Str) (fs : List (Str × M)) (pn : List (Addr × Obj)), Zc cls d oe → (∃ vs, oe.data = .fields vs) → PSs (X.suite a ((a, oe) :: pn)) (b0 :: bs) (RSs (g.hold i c fs a cls d) W0 (P.hold i c fs) C b)) (r : Hds X g P C hds hs) :
      Hds X g P C (.ExceptHandler (some (.Name x np)) (some n) (b0 :: bs) hp :: hds) (.mk x (some i) b :: hs)
section
variable {X : Cx} {g : G} {W : WX} {P : Tx} {C : Cal} {N : List Str} {sc : Scope} {k : Bool} {pos p : Pos} {m m' : List Addr} {H H' : Hp} {h h' : Hm} {D : Ends} {env : Ev} {σ : St}
section
variable {i : Nat} {c : Str} {fs : List (Str × M)} {a : Addr} {cls : Value} {d : Option Addr}
theorem RM.up {x : M} {v : V} (r : RM g m H x v) : RM (g.hold i c fs a cls d) m H x v := RM.chg (g := g) (g' := g.hold i c fs a cls d) rfl rfl rfl x v r
theorem RM.dn {x : M} {v : V} (r : RM (g.hold i c fs a cls d) m H x v) : RM g m H x v := RM.chg (g := g.hold i c fs a cls d) (g' := g) rfl rfl rfl x v r
theorem RX.up {n : Str} {ys : List (Str × M)} {cl : Value} {dd : Option Addr} (r : RX g m H n ys cl dd) : RX (g.hold i c fs a cls d) m H n ys cl dd := RX.chg (g := g) (g' := g.hold i c fs a cls d) rfl rfl rfl r
theorem Step.dn (s : Step (g.hold i c fs a cls d) m H h' m' H') : Step g m H h' m' H' := Step.chg (g := g.hold i c fs a cls d) (g' := g) rfl rfl rfl s
theorem HRel.up (r : HRel g m h H) : HRel (g.hold i c fs a cls d) m h H := HRel.chg (g := g) (g' := g.hold i c fs a cls d) rfl rfl rfl r
end
theorem ER.hold (e : ER g m H env σ) {i : Nat} {c : Str} {fs : List (Str × M)} {a : Addr} {cls : Value} {d : Option Addr} (r : RX g m H c fs cls d) : ER (g.hold i c fs a cls d) m H (env.set i none) (σ.set i (some (.ref a))) := by
  refine ⟨by simp [e.len], fun j w q => ?_, fun j c' fs' a' cls' d' z q => ?_⟩
  · by_cases hj : i = j
    · subst hj
      by_cases hl : i < env.length
      · rw [List.getElem?_set_self hl] at q; cases q
      · rw [List.getElem?_eq_none (by simp; omega)] at q; cases q
    · rw [List.getElem?_set_ne hj] at q
      rw [List.getElem?_set_ne hj]
      obtain ⟨x, e1, e2⟩ := e.val j w q
      exact ⟨x, e1, e2.up⟩
  · cases z
    have hl : i < env.length := by
      by_cases hl : i < env.length
      · exact hl
      · rw [List.getElem?_eq_none (by simp; omega)] at q; cases q
    exact ⟨List.getElem?_set_self (by rw [← e.len]; exact hl), r.up⟩
theorem ER.letgo {i : Nat} {c : Str} {fs : List (Str × M)} {a : Addr} {cls : Value} {d : Option Addr} (e : ER (g.hold i c fs a cls d) m H env σ) (hx : g.xi = none) : ER g m H (env.set i none) (σ.set i none) := by
  refine ⟨by simp [e.len], fun j w q => ?_, fun j c' fs' a' cls' d' z q => by rw [hx] at z; cases z⟩
  by_cases hj : i = j
  · subst hj
    by_cases hl : i < env.length
    · rw [List.getElem?_set_self hl] at q; cases q
    · rw [List.getElem?_eq_none (by simp; omega)] at q; cases q
  · rw [List.getElem?_set_ne hj] at q
    rw [List.getElem?_set_ne hj]
    obtain ⟨x, e1, e2⟩ := e.val j w q
    exact ⟨x, e1, e2.dn⟩
/-- what is wished of an error of the body -/
def wTry (g : G) (W : WX) (P : Tx) (C : Cal) (D : Ends) (hs : List Hd) : WX := fun cls d σ H => ∃ m env h c fs, Sim g m H h env σ ∧ RX g m H c fs cls d ∧ WantS g W m H D (exH P C hs c fs env h)
/-- the name goes behind the suite -/
abbrev endsGone (D : Ends) (i : Nat) : Ends := { nx := fun σ' H' => D.nx (σ'.set i none) H', rt := D.rt, bk := fun σ' H' => D.bk (σ'.set i none) H', ct := fun σ' H' => D.ct (σ'.set i none) H' }
theorem bare_want {b : List S} {hs : List Hd} {x c : Str} {fs : List (Str × M)} (hsub : P.sub c x = some true) (w : WantS g W m H D (exH P C (.mk x none b :: hs) c fs env h)) : WantS g W0 m H D (exSs P C b env h) := by
  simp only [exH, hsub] at w
  cases e : exSs P C b env h with
  | none => rw [e] at w; exact no_wantS w
  | some r =>
    rw [e] at w
    cases r with
    | exc c fs e1 h1 => exact no_wantS w
    | next e1 h1 => obtain ⟨_, e2, w⟩ := w; cases e2; exact ⟨_, rfl, w⟩
    | brk e1 h1 => obtain ⟨_, e2, w⟩ := w; cases e2; exact ⟨_, rfl, w⟩
    | cont e1 h1 => obtain ⟨_, e2, w⟩ := w; cases e2; exact ⟨_, rfl, w⟩
    | ret v h1 => obtain ⟨_, e2, w⟩ := w; cases e2; exact ⟨_, rfl, w⟩
theorem named_want {b : List S} {hs : List Hd} {x c : Str} {fs : List (Str × M)} {i : Nat} {a : Addr} {cls : Value} {d : Option Addr} (hx : g.xi = none) (hsub : P.sub c x = some true) (w : WantS g W m H D (exH P C (.mk x (some i) b :: hs) c fs env h)) :
    WantS (g.hold i c fs a cls d) W0 m H (endsGone D i) (exSs (P.hold i c fs) C b (env.set i none) h) := by
  simp only [exH, hsub] at w
  cases e : exSs (P.hold i c fs) C b (env.set i none) h with
  | none => rw [show exSs { P with exv := some (i, c, fs) } C b (env.set i none) h = none from e] at w; exact no_wantS w
  | some r =>
    rw [show exSs { P with exv := some (i, c, fs) } C b (env.set i none) h = some r from e] at w
    cases r with
    | exc c fs e1 h1 => exact no_wantS w
    | next e1 h1 => obtain ⟨_, e2, w⟩ := w; cases e2; exact ⟨_, rfl, fun m' H' σ' st er => w m' H' _ st.dn (er.letgo hx)⟩
    | brk e1 h1 => obtain ⟨_, e2, w⟩ := w; cases e2; exact ⟨_, rfl, fun m' H' σ' st er => w m' H' _ st.dn (er.letgo hx)⟩
    | cont e1 h1 => obtain ⟨_, e2, w⟩ := w; cases e2; exact ⟨_, rfl, fun m' H' σ' st er => w m' H' _ st.dn (er.letgo hx)⟩
    | ret v h1 => obtain ⟨_, e2, w⟩ := w; cases e2; exact ⟨_, rfl, fun m' H' x st r => w m' H' x st.dn r.dn⟩
/-- the clauses, one after the other, for an error that has landed -/
theorem clauses {pins : List (Addr × Obj)} {B : Heap} {sI s' : Shared} {a : Addr} {cls : Value} {d : Option Addr} {h3 : Heap} {σ' : St} {H' : Hp} (o : Okx X g W P C N sc true) (ok : X.Ok) (hst : X.stack = X.env :: X.outer) (hf : X.env.frame = some X.env.locals)
    (J : Inv X pins σ' H' sI) (nb : ∀ b o, sI.heap.get? b = some o → b ∉ frs X.stack → B.get? b = some o) (up : sI.heap.UpToSlots h3) (fl : HandSPX.FlyingZ B (X.env :: X.outer) a (Zc cls d) h3) (na : H' a = none) (os : s'.os = sI.os) (ag : AllBare s'.gens) :
    ∀ {hds : List ExceptHandler} {hs : List Hd}, Hds X g P C hds hs → wTry g W P C D hs cls d σ' H' → wpAny (model X.prog X.w) X.A (handleBy (.ref a) X.env hds) (SP X pins D) X.xe { s' with heap := h3 } := by
  have hfr : X.A.frames = some (X.env :: X.outer) := by rw [ok.frames, hst]
  have J3 : Inv X pins σ' H' { s' with heap := h3 } := J.landed nb fl.1 up os ag
  obtain ⟨oe3, vs3, he3, hz3, hd3⟩ := fl.there
  have apart : a ∉ frs (X.env :: X.outer) := fun hm => by
    obtain ⟨_, o', e', hnf⟩ := fl.2.2.1.mem hm
    rw [he3] at e'
    cases e'
    exact hnf _ hd3
  have nL : a ≠ X.env.locals := fun z => apart (List.mem_filterMap.mpr ⟨X.env, List.mem_cons_self, by rw [hf, z]⟩)
  have nF : a ∉ X.fs := fun hm => by
    obtain ⟨e, he, q⟩ := List.mem_filterMap.mp hm
    exact apart (List.mem_filterMap.mpr ⟨e, List.mem_cons_of_mem _ he, q⟩)
  have S3 := J3.suite he3 hd3 na nL nF
  have LT : PySem.W.Looks (model X.prog X.w) h3 (typeOf (.ref a)) cls := fun A Q E s k q => wpAny_typeOf_ref (k _ _ he3) (by rw [hz3.1]; exact q)
  have asked : ∀ {x c : Str} {np : Pos} {b : Bool} {fs : List (Str × M)} {m : List Addr} {H0 : Hp}, Gl X x → P.sub c x = some b → RX g m H0 c fs cls d →
      ∃ v, PySem.W.exmOne X.K cls v = some b ∧ ∀ {Q E : Value → Shared → Prop}, Q v { s' with heap := h3 } → wpAny (model X.prog X.w) (X.A.mark (some (.ref a))) (eval (.Name x np) X.env) Q E { s' with heap := h3 } := by
    intro x c np b fs m H0 hg hs rx
    obtain ⟨D', v, T⟩ := o.sub c x b hs
    obtain ⟨C', r1, r2, _⟩ := rx
    have ec := T.nm
    rw [← o.mg, r1] at ec
    cases ec
    refine ⟨v, by rw [r2]; exact T.exm, fun {Q E} hq => ?_⟩
    rcases T.cls.2 with hm | ⟨hm, hv, hnn⟩
    · exact ld_glob (X := X.suite a ((a, oe3) :: (X.pn ++ pins))) S3 hg hm hq T.cls.1
    · exact ld_blt (X := X.suite a ((a, oe3) :: (X.pn ++ pins))) S3 hg hm hv hq hnn T.cls.1
  intro hds hs hk
  induction hk with
  | nil =>
    rintro ⟨m, env, h, c, fs, sm, rx, w⟩
    refine wpAny_handleBy_nil ?_
    obtain ⟨k1, k2, k3, oe, vs, T, oT, ts', he, hz, hd, h1, hr⟩ := id fl
    unfold PySem.passOn
    refine wpAny_bind (wpAny_field he hd h1 ?_)
    rw [if_neg (show ¬ ((Value.ref T == Value.none) = true) from by simp)]
    have w' : W cls d σ' H' := by
      simp only [exH] at w
      obtain ⟨_, e, w⟩ := w
      cases e
      exact w m H' σ' cls d (Step.refl sm.rel) sm.er rx
    have fin : wpAny (model X.prog X.w) X.A (setFlight (.ref a) X.env.frame) (fun _ s4 => wpAny (model X.prog X.w) X.A (throw (.ref a) : Sem Flow) (SP X pins D) X.xe s4) X.xe { s' with heap := h3 } := by
      rw [hf]
      refine HandSPX.setFlight_upZ fl fun h4 hh4 up4 => wpAny_throw (o.tk _ _ ?_)
      exact ⟨a, B, sI, pins, σ', H', cls, d, rfl, J, nb, up.trans up4, .inr (.inr (by rw [hst]; exact hh4)), na, os, ag, w'⟩
    first
      | exact wpAny_bind (wpAny_pure (wpAny_bind fin))
      | exact wpAny_bind fin
  | @bare x np hp b0 bs b hds hs hg su r ih =>
    rintro ⟨m, env, h, c, fs, sm, rx, w⟩
    cases hsb : P.sub c x with
    | none => simp only [exH, hsb] at w; exact no_wantS w
    | some q =>
      obtain ⟨v, ex, ev⟩ := asked (np := np) hg hsb rx
      have LM := PySem.W.exm_one (M := model X.prog X.w) J3.kIn LT ex
      refine wpAny_handleBy_cons (codeAny_handlers_test (ev (LM.here ?_))) (by intro q; cases q)
      cases q with
      | false =>
        have w2 : WantS g W m H' D (exH P C hs c fs env h) := by simp only [exH, hsb] at w; exact w
        exact ih ⟨m, env, h, c, fs, sm, rx, w2⟩
      | true =>
        refine codeAny_handlers_suite ?_
        refine HandSPX.lands_againZ fl fun h4 fl4 up4 => ?_
        have J4 : Inv X pins σ' H' { s' with heap := h4 } := J.landed nb fl4.1 (up.trans up4) os ag
        obtain ⟨oe4, vs4, he4, hz4, hd4⟩ := fl4.there
        have S4 := J4.suite he4 hd4 na nL nF
        refine wpAny_mono ((su a oe4 cls d (X.pn ++ pins) hz4 ⟨_, hd4⟩).run [] _ _ H' _ S4 ⟨m, env, h, sm, bare_want hsb w⟩) (fun f s6 hsp => ?_) (fun _ _ z => False.elim z)
        cases f with
        | next => obtain ⟨σ6, H6, S6, q6⟩ := hsp; exact ⟨_, _, S6.unsuite ok, q6⟩
        | brk => obtain ⟨σ6, H6, S6, q6⟩ := hsp; exact ⟨_, _, S6.unsuite ok, q6⟩
        | cont => obtain ⟨σ6, H6, S6, q6⟩ := hsp; exact ⟨_, _, S6.unsuite ok, q6⟩
        | ret u => obtain ⟨v6, σ6, H6, S6, r6, q6⟩ := hsp; exact ⟨_, _, _, S6.unsuite ok, r6, q6⟩
  | @named x n i np hp b0 bs b hds hs hg hi hl su r ih =>
    rintro ⟨m, env, h, c, fs, sm, rx, w⟩
    cases hsb : P.sub c x with
    | none => simp only [exH, hsb] at w; exact no_wantS w
    | some q =>
      obtain ⟨v, ex, ev⟩ := asked (np := np) hg hsb rx
      have LM := PySem.W.exm_one (M := model X.prog X.w) J3.kIn LT ex
      refine wpAny_handleBy_cons (codeAny_handlers_test (ev (LM.here ?_))) (by intro q; cases q)
      cases q with
      | false =>
        have w2 : WantS g W m H' D (exH P C hs c fs env h) := by simp only [exH, hsb] at w; exact w
        exact ih ⟨m, env, h, c, fs, sm, rx, w2⟩
      | true =>
        refine codeAny_handlers_suite_as ?_
        refine HandSPX.lands_againZ fl fun h4 fl4 up4 => ?_
        have J4 : Inv X pins σ' H' { s' with heap := h4 } := J.landed nb fl4.1 (up.trans up4) os ag
        obtain ⟨oe4, vs4, he4, hz4, hd4⟩ := fl4.there
        have S4 := J4.suite he4 hd4 na nL nF
        refine store_ok (X := X.suite a ((a, oe4) :: (X.pn ++ pins))) (v := .ref a) S4 o.nd hi (.inl hl) rfl (fun s5 S5 => ?_) (.inr hl)
        refine wpAny_mono ((su a oe4 cls d c fs (X.pn ++ pins) hz4 ⟨_, hd4⟩).run [] s5 _ H' _ S5 ⟨m, env.set i none, h, ⟨sm.er.hold rx, sm.rel.up⟩, named_want (o.xi rfl).1 hsb w⟩) (fun f s6 hsp => ?_) (fun _ _ z => False.elim z)
        cases f with
        | next => obtain ⟨σ6, H6, S6, q6⟩ := hsp; exact gone_ok (S6.unsuite ok) o.nd hi hl fun s7 J7 => ⟨_, _, J7, q6⟩
        | brk => obtain ⟨σ6, H6, S6, q6⟩ := hsp; exact gone_ok (S6.unsuite ok) o.nd hi hl fun s7 J7 => ⟨_, _, J7, q6⟩
        | cont => obtain ⟨σ6, H6, S6, q6⟩ := hsp; exact gone_ok (S6.unsuite ok) o.nd hi hl fun s7 J7 => ⟨_, _, J7, q6⟩
        | ret u => obtain ⟨v6, σ6, H6, S6, r6, q6⟩ := hsp; exact gone_ok (S6.unsuite ok) o.nd hi hl fun s7 J7 => ⟨_, _, _, J7, r6, q6⟩
theorem st_try {body : List Stmt} {b : List S} {h0 : ExceptHandler} {hds : List ExceptHandler} {hs : List Hd} (o : Okx X g W P C N sc true) (hst : X.stack = X.env :: X.outer) (hf : X.env.frame = some X.env.locals)
    (hb : ∀ (W' : WX) (pn : List (Addr × Obj)) (xe : Value → Shared → Prop), Takes (X.tr pn xe) W' → PassesOwn (model X.prog X.w) X.A X.env xe → PSs (X.tr pn xe) body (RSs g W' P C b)) (hh : Hds X g P C (h0 :: hds) hs) :
    PS X (.Try body (h0 :: hds) [] [] pos) (RS g W P C (.try_ b hs)) := by
  refine ⟨fun pins s σ H D I ⟨m, env, h, sm, w⟩ => ?_⟩
  have ok := I.ok
  have hfr : X.A.frames = some (X.env :: X.outer) := by rw [ok.frames, hst]
  refine wpAny_Try_except ?_
  have wb : WantS g (wTry g W P C D hs) m H D (exSs P C b env h) := by
    simp only [exS] at w
    cases e : exSs P C b env h with
    | none => rw [e] at w; exact no_wantS w
    | some r =>
      rw [e] at w
      refine ⟨r, rfl, ?_⟩
      cases r with
      | exc c fs e1 h1 => exact fun m1 H1 σ1 cls d st er rx => ⟨m1, e1, h1, c, fs, ⟨er, st.rel⟩, rx, WantS.base w st⟩
      | next e1 h1 => obtain ⟨_, e2, w⟩ := w; cases e2; exact w
      | brk e1 h1 => obtain ⟨_, e2, w⟩ := w; cases e2; exact w
      | cont e1 h1 => obtain ⟨_, e2, w⟩ := w; cases e2; exact w
      | ret v h1 => obtain ⟨_, e2, w⟩ := w; cases e2; exact w
  refine wpAny_mono ((hb (wTry g W P C D hs) (X.pn ++ pins) (fun e s₁ => wpAny (model X.prog X.w) X.A (noteFrame e X.env) (fun _ s₂ => wpAny (model X.prog X.w) X.A (setFlight e none) (fun _ s₃ =>
    wpAny (model X.prog X.w) X.A (handleBy e X.env (h0 :: hds)) (SP X pins D) X.xe s₃) X.xe s₂) X.xe s₁) (fun u s' xx => ?_) PassesOwn.looking).run [] s σ H D (I.toTry _) ⟨m, env, h, sm, wb⟩) (fun f s1 hsp => ?_) (fun e s1 he => he)
  · obtain ⟨a, B, sI, pins', σ', H', cls, d, rfl, J', nb, up, sky, na, os, ag, w⟩ := xx
    have sky' : Sky B (X.env :: X.outer) a (Zc cls d) X.env.locals s'.heap := by rw [← hst]; exact sky
    show wpAny (model X.prog X.w) X.A (noteFrame (.ref a) X.env) _ _ _
    exact Sky.land Zc.steady hfr hf sky' fun h3 fl3 up3 => clauses o ok hst hf (J'.ofTry ok) nb (up.trans up3) fl3 na os ag hh w
  · cases f with
    | next => obtain ⟨σ', H', J', q⟩ := hsp; exact wpAny_execs_nil ⟨σ', H', J'.ofTry ok, q⟩
    | brk => obtain ⟨σ', H', J', q⟩ := hsp; exact ⟨σ', H', J'.ofTry ok, q⟩
    | cont => obtain ⟨σ', H', J', q⟩ := hsp; exact ⟨σ', H', J'.ofTry ok, q⟩
    | ret u => obtain ⟨v, σ', H', J', r, q⟩ := hsp; exact ⟨v, σ', H', J'.ofTry ok, r, q⟩
end
end MP
namespace MP
open PySem L2 PySem.Spec
open PyProof.Rows hiding St
/-! ### an error that is kept behind its suite: try: .. except X as n: y = n; the block's rest reads y -/
section
variable {X : Cx} {g : G} {W : WX} {P : Tx} {C : Cal} {N : List Str} {sc : Scope} {k : Bool} {pos p : Pos} {m m' : List Addr} {H H' : Hp} {h h' : Hm} {D : Ends} {env : Ev} {σ : St}
theorem unsuiteK {pins pn' : List (Addr × Obj)} {s : Shared} {a : Addr} {q : Addr × Obj} (I : Inv (X.suite a (q :: (X.pn ++ pins))) pn' σ H s) (ok : X.Ok) : Inv (X.tr (q :: (X.pn ++ pins)) X.xe) [] σ H s :=
  ⟨ok.toTry _ _, I.os, I.bare, I.base, I.loc, I.cell, I.free, I.freeC, fun p hp => I.pin p (by rw [List.append_nil] at hp; exact List.mem_append_left _ hp), I.hok, I.len⟩
theorem ofK {pins pn' : List (Addr × Obj)} {s : Shared} {q : Addr × Obj} (I : Inv (X.tr (q :: (X.pn ++ pins)) X.xe) pn' σ H s) (ok : X.Ok) : Inv X pins σ H s :=
  ⟨ok, I.os, I.bare, I.base, I.loc, I.cell, I.free, I.freeC, fun p hp => I.pin p (List.mem_append_left _ (List.mem_cons_of_mem _ hp)), I.hok, I.len⟩
/-- the error passes on -/
theorem pass_on {pins : List (Addr × Obj)} {B : Heap} {sI s' : Shared} {a : Addr} {cls : Value} {d : Option Addr} {h3 : Heap} {σ' : St} {H' : Hp} {Q : Flow → Shared → Prop} (tk : Takes X W) (hst : X.stack = X.env :: X.outer) (hf : X.env.frame = some X.env.locals)
    (J : Inv X pins σ' H' sI) (nb : ∀ b o, sI.heap.get? b = some o → b ∉ frs X.stack → B.get? b = some o) (up : sI.heap.UpToSlots h3) (fl : HandSPX.FlyingZ B (X.env :: X.outer) a (Zc cls d) h3) (na : H' a = none) (os : s'.os = sI.os) (ag : AllBare s'.gens)
    (w' : W cls d σ' H') : wpAny (model X.prog X.w) X.A (handleBy (.ref a) X.env []) Q X.xe { s' with heap := h3 } := by
  refine wpAny_handleBy_nil ?_
  obtain ⟨k1, k2, k3, oe, vs, T, oT, ts', he, hz, hd, h1, hr⟩ := id fl
  unfold PySem.passOn
  refine wpAny_bind (wpAny_field he hd h1 ?_)
  rw [if_neg (show ¬ ((Value.ref T == Value.none) = true) from by simp)]
  have fin : wpAny (model X.prog X.w) X.A (setFlight (.ref a) X.env.frame) (fun _ s4 => wpAny (model X.prog X.w) X.A (throw (.ref a) : Sem Flow) Q X.xe s4) X.xe { s' with heap := h3 } := by
    rw [hf]
    refine HandSPX.setFlight_upZ fl fun h4 hh4 up4 => wpAny_throw (tk _ _ ?_)
    exact ⟨a, B, sI, pins, σ', H', cls, d, rfl, J, nb, up.trans up4, .inr (.inr (by rw [hst]; exact hh4)), na, os, ag, w'⟩
  first
    | exact wpAny_bind (wpAny_pure (wpAny_bind fin))
    | exact wpAny_bind fin
theorem ER.kept (e : ER g m H env σ) {i j : Nat} {c : Str} {fs : List (Str × M)} {a : Addr} {cls : Value} {d : Option Addr} (hij : i ≠ j) (r : RX g m H c fs cls d) :
    ER (g.hold j c fs a cls d) m H ((env.set i none).set j none) (((σ.set i (some (.ref a))).set j (some (.ref a))).set i none) := by
  have l1 := e.len
  refine ⟨by simp [l1], fun n w q => ?_, fun n c' fs' a' cls' d' z q => ?_⟩
  · by_cases hj : j = n
    · subst hj
      by_cases hl : j < env.length
      · rw [List.getElem?_set_self (by simpa using hl)] at q; cases q
      · rw [List.getElem?_eq_none (by simp; omega)] at q; cases q
    · rw [List.getElem?_set_ne hj] at q
      by_cases hi : i = n
      · subst hi
        by_cases hl : i < env.length
        · rw [List.getElem?_set_self hl] at q; cases q
        · rw [List.getElem?_eq_none (by simp; omega)] at q; cases q
      · rw [List.getElem?_set_ne hi] at q
        rw [List.getElem?_set_ne hi, List.getElem?_set_ne hj, List.getElem?_set_ne hi]
        obtain ⟨x, e1, e2⟩ := e.val n w q
        exact ⟨x, e1, e2.up⟩
  · cases z
    have hl : j < env.length := by
      by_cases hl : j < env.length
      · exact hl
      · rw [List.getElem?_eq_none (by simp; omega)] at q; cases q
    refine ⟨?_, r.up⟩
    rw [List.getElem?_set_ne hij, List.getElem?_set_self (by simp; omega)]
/-- what the rest is run with: the place holds the error at j -/
def SufK (X : Cx) (g : G) (P : Tx) (C : Cal) (j : Nat) (rest : List Stmt) (r : List S) : Prop :=
  ∀ (a : Addr) (oe : Obj) (cls : Value) (d : Option Addr) (c : Str) (fs : List (Str × M)) (pn : List (Addr × Obj)), Zc cls d oe → (∃ vs, oe.data = .fields vs) → PSs (X.tr ((a, oe) :: pn) X.xe) rest (RSs (g.hold j c fs a cls d) W0 (P.hold j c fs) C r)
theorem b_tryk {body rest : List Stmt} {b r : List S} {x n y : Str} {i j : Nat} {np hp yp np2 ap : Pos} (o : Okx X g W P C N sc true) (hst : X.stack = X.env :: X.outer) (hf : X.env.frame = some X.env.locals) (fn : ∀ x, X.fn x = true)
    (hg : Gl X x) (hi : X.N[i]? = some n) (hl : X.env.scope.names.lookup n = some .local) (hj : X.N[j]? = some y) (hly : X.env.scope.names.lookup y = some .local) (hij : i ≠ j) (d1 : (n == ("__debug__" : Str)) = false) (d2 : (n == ("__classdict__" : Str)) = false)
    (hb : ∀ (W' : WX) (pn : List (Addr × Obj)) (xe : Value → Shared → Prop), Takes (X.tr pn xe) W' → PassesOwn (model X.prog X.w) X.A X.env xe → PSs (X.tr pn xe) body (RSs g W' P C b))
    (hr : PSs X rest (RSs g W P C r)) (hk : SufK X g P C j rest r) :
    PSs X (.Try body [.ExceptHandler (some (.Name x np)) (some n) [.Assign [.Name y yp] (.Name n np2) ap] hp] [] [] pos :: rest) (RSs g W P C [.tryk b x i j r]) := by
  refine ⟨fun pins s σ H D I ⟨m, env, h, sm, w⟩ => ?_⟩
  have ok := I.ok
  have hfr : X.A.frames = some (X.env :: X.outer) := by rw [ok.frames, hst]
  -- what the run behind the try is wanted to do
  let Q1 : Flow → Shared → Prop := fun f s1 => match f with
    | .next => wpAny (model X.prog X.w) X.A (execs rest X.env) (SP X pins D) X.xe s1
    | f => SP X pins D f s1
  have w0 : WantS g W m H D (exS P C (.tryk b x i j r) env h) := by
    simp only [exSs] at w
    obtain ⟨f, e, w⟩ := w
    cases es : exS P C (.tryk b x i j r) env h with
    | none => rw [es] at e; cases e
    | some f' =>
      rw [es] at e
      cases f' <;> (simp only [Option.some.injEq] at e; subst e; exact ⟨_, rfl, w⟩)
  let WK : WX := fun cls d σ1 H1 => ∃ m1 e1 h1 c fs, Sim g m1 H1 h1 e1 σ1 ∧ RX g m1 H1 c fs cls d ∧ WantS g W m1 H1 D (match P.sub c x with
      | some true => (match exSs (P.hold j c fs) C r ((e1.set i none).set j none) h1 with
        | some (.ret v h'') => some (.ret v h'')
        | _ => none)
      | some false => some (.exc c fs e1 h1)
      | none => none)
  have wb : WantS g WK m H { D with nx := RSs g W P C r D } (exSs P C b env h) := by
    simp only [exS] at w0
    cases e : exSs P C b env h with
    | none => rw [e] at w0; exact no_wantS w0
    | some r' =>
      rw [e] at w0
      refine ⟨r', rfl, ?_⟩
      cases r' with
      | exc c fs e1 h1 => exact fun m1 H1 σ1 cls d st er rx => ⟨m1, e1, h1, c, fs, ⟨er, st.rel⟩, rx, WantS.base w0 st⟩
      | next e1 h1 => exact fun m1 H1 σ1 st er => ⟨m1, e1, h1, ⟨er, st.rel⟩, WantS.base w0 st⟩
      | brk e1 h1 => obtain ⟨_, e2, w⟩ := w0; cases e2; exact w
      | cont e1 h1 => obtain ⟨_, e2, w⟩ := w0; cases e2; exact w
      | ret v h1 => obtain ⟨_, e2, w⟩ := w0; cases e2; exact w
  refine wpAny_execs_cons (wpAny_Try_except (Q := Q1) ?_)
  refine wpAny_mono ((hb WK (X.pn ++ pins) (fun e s₁ => wpAny (model X.prog X.w) X.A (noteFrame e X.env) (fun _ s₂ => wpAny (model X.prog X.w) X.A (setFlight e none) (fun _ s₃ =>
    wpAny (model X.prog X.w) X.A (handleBy e X.env [.ExceptHandler (some (.Name x np)) (some n) [.Assign [.Name y yp] (.Name n np2) ap] hp]) Q1 X.xe s₃) X.xe s₂) X.xe s₁) (fun u s' xx => ?_) PassesOwn.looking).run [] s σ H _ (I.toTry _) ⟨m, env, h, sm, wb⟩) (fun f s1 hsp => ?_) (fun e s1 he => he)
  · obtain ⟨a, B, sI, pins', σ', H', cls, d, rfl, J', nb, up, sky, na, os, ag, m1, e1, h1, c, fs, sm1, rx, w1⟩ := xx
    have sky' : Sky B (X.env :: X.outer) a (Zc cls d) X.env.locals s'.heap := by rw [← hst]; exact sky
    show wpAny (model X.prog X.w) X.A (noteFrame (.ref a) X.env) _ _ _
    refine Sky.land Zc.steady hfr hf sky' fun h3 fl up3 => ?_
    have J : Inv X pins σ' H' sI := J'.ofTry ok
    have up := up.trans up3
    have J3 : Inv X pins σ' H' { s' with heap := h3 } := J.landed nb fl.1 up os ag
    obtain ⟨oe3, vs3, he3, hz3, hd3⟩ := fl.there
    have apart : a ∉ frs (X.env :: X.outer) := fun hm => by
      obtain ⟨_, o', e', hnf⟩ := fl.2.2.1.mem hm
      rw [he3] at e'
      cases e'
      exact hnf _ hd3
    have nL : a ≠ X.env.locals := fun z => apart (List.mem_filterMap.mpr ⟨X.env, List.mem_cons_self, by rw [hf, z]⟩)
    have nF : a ∉ X.fs := fun hm => by
      obtain ⟨e, he, q⟩ := List.mem_filterMap.mp hm
      exact apart (List.mem_filterMap.mpr ⟨e, List.mem_cons_of_mem _ he, q⟩)
    have S3 := J3.suite he3 hd3 na nL nF
    have LT : PySem.W.Looks (model X.prog X.w) h3 (typeOf (.ref a)) cls := fun A Q E s k q => wpAny_typeOf_ref (k _ _ he3) (by rw [hz3.1]; exact q)
    cases hsb : P.sub c x with
    | none => simp only [hsb] at w1; exact no_wantS w1
    | some q =>
      obtain ⟨D', v, T⟩ := o.sub c x q hsb
      have ex : PySem.W.exmOne X.K cls v = some q := by
        obtain ⟨C', r1, r2, _⟩ := rx
        have ec := T.nm
        rw [← o.mg, r1] at ec
        cases ec
        rw [r2]; exact T.exm
      have ev : ∀ {Q E : Value → Shared → Prop}, Q v { s' with heap := h3 } → wpAny (model X.prog X.w) (X.A.mark (some (.ref a))) (eval (.Name x np) X.env) Q E { s' with heap := h3 } := fun {Q E} hq => by
        rcases T.cls.2 with hm | ⟨hm, hv, hnn⟩
        · exact ld_glob (X := X.suite a ((a, oe3) :: (X.pn ++ pins))) S3 hg hm hq T.cls.1
        · exact ld_blt (X := X.suite a ((a, oe3) :: (X.pn ++ pins))) S3 hg hm hv hq hnn T.cls.1
      have LM := PySem.W.exm_one (M := model X.prog X.w) J3.kIn LT ex
      refine wpAny_handleBy_cons (codeAny_handlers_test (ev (LM.here ?_))) (by intro q; cases q)
      cases q with
      | false =>
        simp only [hsb] at w1
        refine pass_on o.tk hst hf J nb up fl na os ag ?_
        obtain ⟨_, e, w1⟩ := w1
        cases e
        exact w1 m1 H' σ' cls d (Step.refl sm1.rel) sm1.er rx
      | true =>
        simp only [hsb] at w1
        refine codeAny_handlers_suite_as ?_
        refine HandSPX.lands_againZ fl fun h4 fl4 up4 => ?_
        have J4 : Inv X pins σ' H' { s' with heap := h4 } := J.landed nb fl4.1 (up.trans up4) os ag
        obtain ⟨oe4, vs4, he4, hz4, hd4⟩ := fl4.there
        have S4 := J4.suite he4 hd4 na nL nF
        refine store_ok (X := X.suite a ((a, oe4) :: (X.pn ++ pins))) (v := .ref a) S4 o.nd hi (.inl hl) rfl (fun s5 S5 => ?_) (.inr hl)
        have li : i < σ'.length := by rw [J.len]; exact (List.getElem?_eq_some_iff.mp hi).1
        have pv : PE (X.suite a ((a, oe4) :: (X.pn ++ pins))) (.Name n np2) (tVar i) := pe_var hi (.inl hl) d1 d2
        have pss := pss_one (ps_set (X := X.suite a ((a, oe4) :: (X.pn ++ pins))) (pos := ap) (pos' := yp) o.nd hj (.inl hly) pv rfl (.inr hly))
        refine wpAny_mono (pss.run [] s5 _ H' { nx := fun σ2 H2 => σ2 = (σ'.set i (some (.ref a))).set j (some (.ref a)) ∧ H2 = H', rt := fun _ _ => False, bk := fun _ _ => False, ct := fun _ _ => False } S5 ⟨.ref a, List.getElem?_set_self li, rfl, rfl⟩) (fun f s6 hsp => ?_) (fun _ _ z => False.elim z)
        cases f with
        | brk => obtain ⟨σ6, H6, S6, q6⟩ := hsp; exact q6.elim
        | cont => obtain ⟨σ6, H6, S6, q6⟩ := hsp; exact q6.elim
        | ret u => obtain ⟨v6, σ6, H6, S6, r6, q6⟩ := hsp; exact q6.elim
        | next =>
          obtain ⟨σ6, H6, S6, e6, e7⟩ := hsp
          rw [e6, e7] at S6
          refine gone_ok (X := X.tr ((a, oe4) :: (X.pn ++ pins)) X.xe) (unsuiteK S6 ok) o.nd hi hl fun s7 J7 => ?_
          show wpAny (model X.prog X.w) X.A (execs rest X.env) (SP X pins D) X.xe s7
          have w2 : WantS (g.hold j c fs a cls d) W0 m1 H' { D with nx := fun _ _ => False, bk := fun _ _ => False, ct := fun _ _ => False } (exSs (P.hold j c fs) C r ((e1.set i none).set j none) h1) := by
            cases e : exSs (P.hold j c fs) C r ((e1.set i none).set j none) h1 with
            | none => rw [e] at w1; exact no_wantS w1
            | some f =>
              rw [e] at w1
              cases f with
              | ret v h2 => obtain ⟨_, e2, w⟩ := w1; cases e2; exact ⟨_, rfl, fun m' H' x st r => w m' H' x st.dn r.dn⟩
              | _ => exact no_wantS w1
          refine wpAny_mono ((hk a oe4 cls d c fs (X.pn ++ pins) hz4 ⟨_, hd4⟩).run [] s7 _ H' _ J7 ⟨m1, _, h1, ⟨sm1.er.kept hij rx, sm1.rel.up⟩, w2⟩) (fun f s8 hsp => ?_) (fun _ _ z => z)
          cases f with
          | next => obtain ⟨σ6, H6, S6, q6⟩ := hsp; exact q6.elim
          | brk => obtain ⟨σ6, H6, S6, q6⟩ := hsp; exact q6.elim
          | cont => obtain ⟨σ6, H6, S6, q6⟩ := hsp; exact q6.elim
          | ret u => obtain ⟨v6, σ6, H6, S6, r6, q6⟩ := hsp; exact ⟨_, _, _, ofK S6 ok, r6, q6⟩
  · cases f with
    | next => obtain ⟨σ', H', J', q⟩ := hsp; exact wpAny_execs_nil (hr.run pins s1 σ' H' D (J'.ofTry ok) q)
    | brk => obtain ⟨σ', H', J', q⟩ := hsp; exact ⟨σ', H', J'.ofTry ok, q⟩
    | cont => obtain ⟨σ', H', J', q⟩ := hsp; exact ⟨σ', H', J'.ofTry ok, q⟩
    | ret u => obtain ⟨v, σ', H', J', r, q⟩ := hsp; exact ⟨v, σ', H', J'.ofTry ok, r, q⟩
end
end MP
namespace MP
open PySem L2
/-! ### every translated expression is simulated -/
structure IndE (n : Nat) : Prop where
  e : ∀ {X : Cx} {g : G} {W : WX} {P : Tx} {C : Cal} {N : List Str} {sc : Scope} {k : Bool} {x : Expr} {y : E}, Okx X g W P C N sc k → trE N sc k n x = some y → PE X x (RE g W P C y)
  es : ∀ {X : Cx} {g : G} {W : WX} {P : Tx} {C : Cal} {N : List Str} {sc : Scope} {k : Bool} {x : List Expr} {y : List E}, Okx X g W P C N sc k → trEs N sc k n x = some y → PA X x (RA g W P C y) ∧ x.all notStar = true ∧ x.length = y.length
  ks : ∀ {X : Cx} {g : G} {W : WX} {P : Tx} {C : Cal} {N : List Str} {sc : Scope} {k : Bool} {x : List Keyword} {y : List E}, Okx X g W P C N sc k → trKs N sc k n x = some y → PK X x (RA g W P C y) ∧ x.length = y.length
  j : ∀ {X : Cx} {g : G} {W : WX} {P : Tx} {C : Cal} {N : List Str} {sc : Scope} {k : Bool} {x : List Expr} {y : List E}, Okx X g W P C N sc k → trJ N sc k n x = some y → PJs X g W P C x y
  b : ∀ {X : Cx} {g : G} {W : WX} {P : Tx} {C : Cal} {N : List Str} {sc : Scope} {k : Bool} {op : BoolOp} {x : List Expr} {y : E} {pos : Pos}, Okx X g W P C N sc k → trB N sc k n op x = some y → PE X (.BoolOp op x pos) (RE g W P C y)
  t : ∀ {X : Cx} {g : G} {W : WX} {P : Tx} {C : Cal} {N : List Str} {sc : Scope} {k : Bool} {x : Expr} {y : E} {j : Nat}, Okx X g W P C N sc k → tstOk j x = true → trE N sc k n x = some y → PT X x (RT g W P C y)
  w : ∀ {X : Cx} {g : G} {W : WX} {P : Tx} {C : Cal} {N : List Str} {sc : Scope} {k : Bool} {op : BoolOp} {x : List Expr} {y : E} {pos : Pos} {j : Nat}, Okx X g W P C N sc k → x.all (tstOk j) = true → trB N sc k n op x = some y → PW X (.BoolOp op x pos) (RT g W P C y)
  l : ∀ {X : Cx} {g : G} {W : WX} {P : Tx} {C : Cal} {N : List Str} {sc : Scope} {k : Bool} {x : Expr} {y : LE}, Okx X g W P C N sc k → trL N sc k n x = some y → PE X x (RL g W P C y)
  i : ∀ {X : Cx} {g : G} {W : WX} {P : Tx} {C : Cal} {N : List Str} {sc : Scope} {k : Bool} {x tg : Expr} {y : IT}, Okx X g W P C N sc k → trI N sc k n x = some y → PI X tg x (RI g W P C y)
  z : ∀ {X : Cx} {g : G} {W : WX} {P : Tx} {C : Cal} {N : List Str} {sc : Scope} {k : Bool} {x tg : Expr} {y : IT}, Okx X g W P C N sc k → trZ N sc k n tg x = some y → PI X tg x (RI g W P C y)
  o : ∀ {X : Cx} {g : G} {W : WX} {P : Tx} {C : Cal} {N : List Str} {sc : Scope} {k : Bool} {x : Option Expr} {y : Option E}, Okx X g W P C N sc k → trO N sc k n x = some y → PO X x (RO g W P C y)
  c : ∀ {X : Cx} {g : G} {W : WX} {P : Tx} {C : Cal} {N : List Str} {sc : Scope} {k : Bool} {x : List Expr} {y : Option E}, Okx X g W P C N sc k → trC N sc k n x = some y → PTs X x (RTs g W P C y)
theorem map_ok {α β : Type} {f : α → β} {x : Option α} {y : β} (h : x.map f = some y) : ∃ a, x = some a ∧ f a = y := by
  cases x with
  | none => cases h
  | some a => exact ⟨a, rfl, Option.some.inj h⟩
section
variable {X : Cx} {g : G} {W : WX} {P : Tx} {C : Cal} {N : List Str} {sc : Scope} {k : Bool} {n : Nat}
theorem ie_call (I : IndE n) {f : Str} {p q : Pos} {es : List Expr} {y : E} (o : Okx X g W P C N sc k) (h : trE N sc k (n + 1) (.Call (.Name f p) es [] q) = some y) : PE X (.Call (.Name f p) es [] q) (RE g W P C y) := by
  simp only [trE] at h
  split at h
  · rename_i i hv
    split at h
    · rename_i hk
      obtain ⟨hk, hne⟩ := hk
      obtain ⟨l, e1, rfl⟩ := map_ok h
      obtain ⟨a, b, c⟩ := I.es o e1
      cases es with
      | nil => cases hne
      | cons e es => exact s_cal o hk hv b a
    · cases h
  · split at h
    · rename_i hg
      split at h
      · rename_i hf
        subst hf
        split at h
        · rename_i a c cp
          split at h
          · rename_i hc
            split at h
            · rename_i t ht
              split at h
              · rename_i ns
                obtain ⟨a', e1, rfl⟩ := map_ok h
                exact s_isi o hg hc ht ns (I.e o e1)
              · cases h
            · split at h
              · obtain ⟨i, e1, rfl⟩ := map_ok h
                exact s_isx o hg hc e1
              · cases h
          · cases h
        · cases h
      · split at h
        · rename_i hf
          subst hf
          split at h
          · split at h
            · rename_i ns
              obtain ⟨a', e1, rfl⟩ := map_ok h
              exact s_new (s_of o hg ns (I.e o e1))
            · cases h
          · cases h
        · split at h
          · rename_i hf
            subst hf
            split at h
            · split at h
              · rename_i ns
                obtain ⟨a', e1, rfl⟩ := map_ok h
                exact s_tupo o hg ns (I.e o e1)
              · cases h
            · cases h
          · split at h
            · rename_i hf
              subst hf
              split at h
              · split at h
                · rename_i hk
                  obtain ⟨hk, ns⟩ := hk
                  obtain ⟨a', e1, rfl⟩ := map_ok h
                  subst hk
                  exact s_dof o hg ns (I.e o e1)
                · cases h
              · cases h
            · split at h
              · rename_i hf
                subst hf
                split at h
                · split at h
                  · rename_i hk
                    obtain ⟨hk, ns⟩ := hk
                    obtain ⟨a', e1, rfl⟩ := map_ok h
                    subst hk
                    exact s_srt o hg ns (I.e o e1)
                  · cases h
                · cases h
              · split at h
                · rename_i hf
                  subst hf
                  split at h
                  · split at h
                    · rename_i hk
                      obtain ⟨hk, ns⟩ := hk
                      obtain ⟨a', e1, rfl⟩ := map_ok h
                      subst hk
                      exact s_all o hg ns (I.l o e1)
                    · cases h
                  · cases h
                · split at h
                  · rename_i hf
                    subst hf
                    split at h
                    · split at h
                      · rename_i hk
                        obtain ⟨hk, ns⟩ := hk
                        obtain ⟨a', e1, rfl⟩ := map_ok h
                        subst hk
                        exact s_any o hg ns (I.l o e1)
                      · cases h
                    · cases h
                  · split at h
                    · rename_i b hb
                      split at h
                      · rename_i hk
                        obtain ⟨hne, hk⟩ := hk
                        obtain ⟨l, e1, rfl⟩ := map_ok h
                        obtain ⟨a, bb, c⟩ := I.es o e1
                        cases es with
                        | nil => cases hne
                        | cons e es =>
                          rcases hk with hk | hk
                          · subst hk
                            exact s_bi o hg hb bb a
                          · subst hk
                            have : b = .repr := Option.some.inj (hb.symm.trans (show trBi "repr" = some .repr by decide +kernel))
                            subst this
                            exact s_repr o hg bb a
                      · cases h
                    · split at h
                      · rename_i hk
                        obtain ⟨l, e1, rfl⟩ := map_ok h
                        obtain ⟨a, bb, c⟩ := I.es o e1
                        cases es with
                        | nil =>
                          have : l = [] := List.eq_nil_of_length_eq_zero c.symm
                          subst this
                          exact s_call0 o hk hg
                        | cons e es => exact s_call o hk hg bb a
                      · cases h
    · cases h
theorem s_listc {elt it tg : Expr} {ifs : List Expr} {scope : Scope} {lp : Pos} {t : T} {s' : IT} {c : Option E} {e' : E} (o : Okx X g W P C N sc true) (hb : blkC N sc scope (ownOf N scope) = true) (ht : ∀ j ∈ slotsT t, j ∈ (ownOf N scope).map (·.2)) (hs : PI X tg it (RI g W P C s'))
    (hg : BlkG X scope tg (RG g t)) (hc : BlkT X scope ifs fun Wb => RTs g Wb P C c) (he : BlkE X scope elt fun Wb => RE g Wb P C e') (hset : notSet it = true) :
    PE X (.ListComp elt [⟨tg, it, ifs, 0⟩] scope lp) (RL g W P C (.lc ((ownOf N scope).map (·.2)) t s' c e')) := by
  obtain ⟨a2, a4⟩ := s_lc (c := c) (e' := e') o hb ht hs
  exact peI (pe_lcX (o.calm rfl) (o.tkf rfl) o.nd hs a2 hg hc he (notSet_ok hset)) a4
/-! ### targets -/
theorem ind_t : ∀ n, (∀ {X : Cx} {g : G} {W : WX} {P : Tx} {C : Cal} {N : List Str} {sc : Scope} {fb : Str → Bool} {x : Expr} {y : T}, Okx X g W P C N sc true → (∀ x, fb x = true → X.fn x = true ∨ sc.names.lookup x = some .local) → trT N sc fb n x = some y → PG X x (RG g y)) ∧
    (∀ {X : Cx} {g : G} {W : WX} {P : Tx} {C : Cal} {N : List Str} {sc : Scope} {fb : Str → Bool} {x : List Expr} {y : List T}, Okx X g W P C N sc true → (∀ x, fb x = true → X.fn x = true ∨ sc.names.lookup x = some .local) → trTs N sc fb n x = some y → PGs X x (RGs g y) ∧ x.all notStar = true ∧ x.length = y.length)
  | 0 => ⟨fun _ _ h => (by simp only [trT] at h; cases h), fun _ _ h => (by simp only [trTs] at h; cases h)⟩
  | n + 1 => by
    have I := ind_t n
    constructor
    · intro X g W P C N sc fb x y o hf h
      simp only [trT] at h
      split at h
      · split at h
        · rename_i hl
          obtain ⟨i, e1, rfl⟩ := map_ok h
          exact g_nm o e1 hl.1 (hf _ hl.2)
        · cases h
      · obtain ⟨l, e1, rfl⟩ := map_ok h
        obtain ⟨a, b, c⟩ := I.2 o hf e1
        exact g_tp o (o.calm rfl) b c a
      · cases h
    · intro X g W P C N sc fb x y o hf h
      cases x with
      | nil => simp only [trTs] at h; cases h; exact ⟨g_nil, rfl, rfl⟩
      | cons e es =>
        simp only [trTs] at h
        split at h
        · rename_i e1 e2
          split at h
          · rename_i hs
            cases h
            obtain ⟨a, b, c⟩ := I.2 o hf e2
            exact ⟨g_cons hs (I.1 o hf e1) a, by rw [List.all_cons, hs, b]; rfl, by simp [c]⟩
          · cases h
        · cases h
theorem fbC_ok {s : Shared} {H : Hp} {scope : Scope} {Ca : Addr} {cl : List (Str × Addr)} {fp : List Addr} {x : Str} {xe : Value → Shared → Prop} (h : fbC scope sc x = true) : (Cxb X s H scope (compEnvC scope cl Ca X.env) fp xe).fn x = true ∨ (relS scope sc).names.lookup x = some .local := by
  unfold fbC at h
  rw [Bool.or_eq_true] at h
  rcases h with y | y
  · exact .inr (eq_of_beq y)
  · exact .inl y
theorem fbC_ok0 {s : Shared} {H : Hp} {scope : Scope} {Ca : Addr} {cl : List (Str × Addr)} {fp : List Addr} {x : Str} (h : fbC scope sc x = true) : (X.blk s H scope (compEnvC scope cl Ca X.env) fp).fn x = true ∨ (relS scope sc).names.lookup x = some .local := by
  unfold fbC at h
  rw [Bool.or_eq_true] at h
  rcases h with y | y
  · exact .inr (eq_of_beq y)
  · exact .inl y
theorem slots_ok {vs : List Nat} {t : T} (h : ((slotsT t).all fun j => vs.contains j) = true) : ∀ j ∈ slotsT t, j ∈ vs := fun j hj => by
  have := List.all_eq_true.mp h j hj
  simpa using this
theorem ie_l (I : IndE n) {x : Expr} {y : LE} (o : Okx X g W P C N sc k) (h : trL N sc k (n + 1) x = some y) : PE X x (RL g W P C y) := by
  simp only [trL] at h
  split at h
  · obtain ⟨l, e1, rfl⟩ := map_ok h
    exact s_lst (I.es o e1).1
  · split at h
    · rename_i e1 e2 e3 e4
      split at h
      · rename_i hk
        obtain ⟨hk, h1, h4, h5⟩ := hk
        cases h
        subst hk
        exact s_listc o h1 (slots_ok h5) (I.z o e1) (fun s H Ca cl fp xe Wb tk tf => (ind_t n).1 (o.blk s H Ca cl fp tk tf) (fun x => fbC_ok) e2) (fun s H Ca cl fp xe Wb tk tf => I.c (o.blk s H Ca cl fp tk tf) e3) (fun s H Ca cl fp xe Wb tk tf => I.e (o.blk s H Ca cl fp tk tf) e4) h4
      · cases h
    · cases h
  · cases h
theorem ie_i (I : IndE n) {x tg : Expr} {y : IT} (o : Okx X g W P C N sc k) (h : trI N sc k (n + 1) x = some y) : PI X tg x (RI g W P C y) := by
  simp only [trI] at h
  split at h
  · split at h
    · rename_i hr
      obtain ⟨rfl, h1, h2, h3⟩ := hr
      obtain ⟨a', e4, rfl⟩ := map_ok h
      exact i_r o h2 h3 (I.e o e4)
    · obtain ⟨a', e4, rfl⟩ := map_ok h
      exact i_v o.K (I.e o e4)
  · obtain ⟨a', e4, rfl⟩ := map_ok h
    exact i_l (I.l o e4)
  · obtain ⟨a', e4, rfl⟩ := map_ok h
    exact i_l (I.l o e4)
  · obtain ⟨a', e4, rfl⟩ := map_ok h
    exact i_v o.K (I.e o e4)
theorem ie_z (I : IndE n) {x tg : Expr} {y : IT} (o : Okx X g W P C N sc k) (h : trZ N sc k (n + 1) tg x = some y) : PI X tg x (RI g W P C y) := by
  simp only [trZ] at h
  split at h
  · split at h
    · rename_i hr
      obtain ⟨rfl, h1, h2, h3, h4, h5⟩ := hr
      split at h
      · rename_i e1 e2
        cases h
        cases tg with
        | Tuple elts kk tp => exact i_zip o h2 h3 h4 (s_cons h3 (I.e o e1) (s_cons h4 (I.e o e2) s_nil))
        | _ => cases h5
      · cases h
    · exact I.i o h
  · split at h
    · rename_i hr
      obtain ⟨rfl, h1, h2, h3, h5⟩ := hr
      obtain ⟨a', e1, rfl⟩ := map_ok h
      cases tg with
      | Tuple elts kk tp => exact i_enu o h2 h3 (I.e o e1)
      | _ => cases h5
    · exact I.i o h
  · exact I.i o h
theorem ie_cmp (I : IndE n) {a : Expr} {ops : List CmpOp} {cs : List Expr} {q : Pos} {y : E} (o : Okx X g W P C N sc k) (h : trE N sc k (n + 1) (.Compare a ops cs q) = some y) : PE X (.Compare a ops cs q) (RE g W P C y) ∧ PT X (.Compare a ops cs q) (RT g W P C y) := by
  cases ops with
  | nil => simp [trE] at h
  | cons op ops =>
    cases ops with
    | nil =>
      cases cs with
      | nil => simp [trE] at h
      | cons b cs =>
        cases cs with
        | cons _ _ => simp [trE] at h
        | nil =>
          simp only [trE] at h
          split at h
          · split at h
            · rename_i hn
              obtain ⟨a', e1, rfl⟩ := map_ok h
              obtain ⟨j, p, rfl⟩ := isNone_ok hn
              exact ⟨s_isN (I.e o e1), t_isN (I.e o e1)⟩
            · split at h
              · rename_i hc
                obtain ⟨a', e1, rfl⟩ := map_ok h
                obtain ⟨j, p, rfl⟩ := constB_ok hc
                exact ⟨s_isB (I.e o e1), t_isB (I.e o e1)⟩
              · cases h
          · split at h
            · rename_i hn
              obtain ⟨a', e1, rfl⟩ := map_ok h
              obtain ⟨j, p, rfl⟩ := isNone_ok hn
              exact ⟨s_notN (I.e o e1), t_notN (I.e o e1)⟩
            · split at h
              · rename_i hc
                obtain ⟨a', e1, rfl⟩ := map_ok h
                obtain ⟨j, p, rfl⟩ := constB_ok hc
                exact ⟨s_notB (I.e o e1), t_notB (I.e o e1)⟩
              · cases h
          · split at h
            · rename_i e1 e2 e3
              split at h
              · rename_i hs
                cases h
                exact ⟨s_cmp e2 o.K o.w o.sys o.units (I.e o e1) (I.e o e3) hs, t_cmp e2 o.K o.w o.sys o.units (I.e o e1) (I.e o e3) hs⟩
              · cases h
            · cases h
    | cons op2 ops =>
      cases ops with
      | cons _ _ => simp [trE] at h
      | nil =>
        cases cs with
        | nil => simp [trE] at h
        | cons b cs =>
          cases cs with
          | nil => simp [trE] at h
          | cons c cs =>
            cases cs with
            | cons _ _ => simp [trE] at h
            | nil =>
              simp only [trE] at h
              split at h
              · rename_i e1 e2 e3 e4 e5
                split at h
                · rename_i hs
                  cases h
                  exact ⟨s_chn e2 e4 o.K o.w o.sys o.units (I.e o e1) (I.e o e3) (I.e o e5) hs.2, t_chn e2 e4 o.K o.w o.sys o.units (I.e o e1) (I.e o e3) (I.e o e5) hs.2⟩
                · cases h
              · cases h
theorem ie_sub (I : IndE n) {a i : Expr} {q : Pos} {y : E} (o : Okx X g W P C N sc k) (h : trE N sc k (n + 1) (.Subscript a i q) = some y) : PE X (.Subscript a i q) (RE g W P C y) := by
  simp only [trE] at h
  split at h
  · split at h
    · rename_i e1 e2 e3
      cases h
      exact s_sl o.K (I.e o e1) (I.o o e2) (I.o o e3)
    · cases h
  · split at h
    · split at h
      · rename_i e1 e2
        split at h
        · rename_i hs
          cases h
          exact s_ixl hs (s_lst (I.es o e1).1) (I.e o e2)
        · cases h
      · cases h
    · split at h
      · rename_i e1 e2
        split at h
        · rename_i hs
          cases h
          exact s_ix o.K o.w o.units hs (I.e o e1) (I.e o e2)
        · cases h
      · cases h
theorem ie_e (I : IndE n) {x : Expr} {y : E} (o : Okx X g W P C N sc k) (h : trE N sc k (n + 1) x = some y) : PE X x (RE g W P C y) := by
  cases x with
  | Constant c j p =>
    simp only [trE] at h
    split at h
    · cases h; exact s_con pe_non fun m H => by simp only [RM]
    · cases h; exact s_con pe_bl fun m H => by simp only [RM]
    · cases h; exact s_con pe_int fun m H => by simp only [RM]
    · cases h; exact s_con pe_str fun m H => by simp only [RM]
    · cases h
  | Name x p =>
    simp only [trE] at h
    split at h
    · rename_i hv; cases h; exact s_var o hv
    · split at h
      · rename_i hg; cases h; exact s_glo o hg
      · cases h
  | Tuple es j p => simp only [trE] at h; obtain ⟨l, e1, rfl⟩ := map_ok h; exact s_tup (I.es o e1).1 o.K
  | List es p => simp only [trE] at h; obtain ⟨l, e1, rfl⟩ := map_ok h; exact s_new (s_lst (I.es o e1).1)
  | Dict ks vs p =>
    cases ks with
    | nil =>
      cases vs with
      | nil => simp only [trE] at h; cases h; exact s_dic0
      | cons _ _ => simp [trE] at h
    | cons _ _ => simp [trE] at h
  | BinOp a op b p =>
    simp only [trE] at h
    split at h
    · rename_i e1 e2 e3; cases h; exact s_bin e2 o.K (I.e o e1) (I.e o e3)
    · cases h
  | UnaryOp op a p =>
    cases op with
    | USub => simp only [trE] at h; obtain ⟨l, e1, rfl⟩ := map_ok h; exact s_neg (I.e o e1)
    | Not => simp only [trE] at h; obtain ⟨l, e1, rfl⟩ := map_ok h; exact s_not o.K (I.e o e1)
    | _ => simp [trE] at h
  | BoolOp op es p => simp only [trE] at h; exact I.b o h
  | Compare a ops cs p => exact (ie_cmp I o h).1
  | IfExp t a b p =>
    simp only [trE] at h
    split at h
    · rename_i e1 e2 e3
      split at h
      · rename_i ht; cases h; exact s_ife (I.t o ht e1) (I.e o e2) (I.e o e3)
      · cases h
    · cases h
  | Subscript a i p => exact ie_sub I o h
  | Call f es ks p =>
    cases f with
    | Name f fp =>
      cases ks with
      | nil => exact ie_call I o h
      | cons kw kws =>
        simp only [trE] at h
        split at h
        · rename_i e1 e2 e3
          split at h
          · rename_i hk
            obtain ⟨a, b, c⟩ := I.es o e1
            obtain ⟨z, lz⟩ := I.ks o e2
            cases es with
            | nil =>
              split at h
              · split at h
                · rename_i hne
                  cases hne
                · cases h
              · split at h
                · rename_i hg
                  cases h
                  exact s_callk0' o hk hg e3 lz c z
                · cases h
            | cons e es =>
              split at h
              · rename_i hv
                split at h
                · cases h
                  exact s_calk o hk hv e3 lz b a z
                · cases h
              · split at h
                · rename_i hg
                  cases h
                  exact s_callk o hk hg e3 lz b a z
                · cases h
          · cases h
        · cases h
    | Attribute a f fp =>
      cases ks with
      | nil =>
        simp only [trE] at h
        split at h
        · rename_i hf
          subst hf
          split at h
          · split at h
            · rename_i e1 e2
              split at h
              · rename_i hc
                cases h
                exact s_dget (by have := o.units; omega) hc.1 hc.2.1 hc.2.2 (I.e o e1) (I.e o e2)
              · cases h
            · cases h
          · cases h
        · split at h
          · rename_i hf
            subst hf
            split at h
            · split at h
              · rename_i e1 e2
                split at h
                · rename_i hc
                  cases h
                  exact s_dpop hc.1 hc.2.1 hc.2.2 (I.e o e1) (I.e o e2)
                · cases h
              · cases h
            · split at h
              · rename_i e1 e2 e3
                split at h
                · rename_i hc
                  cases h
                  exact s_dpop2 hc.1 hc.2.1 hc.2.2.1 hc.2.2.2 (I.e o e1) (I.e o e2) (I.e o e3)
                · cases h
              · cases h
            · split at h
              · rename_i e1
                split at h
                · rename_i hc
                  cases h
                  exact s_lmt (.inr ⟨rfl, rfl⟩) hc.1 hc.2 (by decide) rfl rfl (I.e o e1) s_nil
                · cases h
              · cases h
            · cases h
          · split at h
            · rename_i b e1
              split at h
              · rename_i o' es' e2 e3
                split at h
                · rename_i hc
                  cases h
                  obtain ⟨pa, ns, len⟩ := I.es o e3
                  cases es with
                  | nil => cases hc.2.2.2
                  | cons e es => exact s_mt o e1 hc.1 hc.2.1 hc.2.2.1 ns (I.e o e2) pa
                · cases h
              · cases h
            · split at h
              · rename_i b e1
                split at h
                · rename_i o' es' e2 e3
                  split at h
                  · rename_i hc
                    cases h
                    obtain ⟨pa, ns, len⟩ := I.es o e3
                    exact s_lmt (.inl e1) hc.1 hc.2.1 hc.2.2 ns len (I.e o e2) pa
                  · cases h
                · cases h
              · split at h
                · rename_i o' es' e2 e3
                  split at h
                  · rename_i hc
                    cases h
                    obtain ⟨pa, ns, len⟩ := I.es o e3
                    exact s_meth o hc.1 hc.2.1 hc.2.2.1 (by simpa using hc.2.2.2) rfl ns len rfl (I.e o e2) pa k_nil
                  · cases h
                · cases h
      | cons kw kws =>
        simp only [trE] at h
        split at h
        · rename_i e1 e2 e3 e4
          split at h
          · rename_i hc
            cases h
            obtain ⟨pa, ns, len⟩ := I.es o e2
            obtain ⟨z, lz⟩ := I.ks o e3
            exact s_meth o hc.1 hc.2.1 hc.2.2.1 hc.2.2.2 e4 ns len lz (I.e o e1) pa z
          · cases h
        · cases h
    | _ => simp [trE] at h
  | Attribute a f p =>
    simp only [trE] at h
    split at h
    · obtain ⟨i, e1, rfl⟩ := map_ok h; exact s_exf o e1
    · split at h
      · rename_i ha
        obtain ⟨a', e1, rfl⟩ := map_ok h
        exact s_fld o ha (I.e o e1)
      · cases h
  | FormattedValue a c sp p =>
    cases sp with
    | some _ => simp [trE] at h
    | none =>
      simp only [trE] at h
      split at h
      · rename_i hc
        subst hc
        obtain ⟨a', e1, rfl⟩ := map_ok h
        exact s_fmt (I.e o e1)
      · cases h
  | JoinedStr vs p =>
    cases vs with
    | nil => simp [trE] at h
    | cons v1 vs =>
      cases vs with
      | nil => simp [trE] at h
      | cons v2 vs =>
        simp only [trE] at h
        obtain ⟨l, e1, rfl⟩ := map_ok h
        exact s_fst (I.j o e1)
  | ListComp a b c d =>
    simp only [trE] at h
    split at h
    · obtain ⟨l, e1, rfl⟩ := map_ok h; exact s_new (I.l o e1)
    · cases h
  | DictComp ka va gens scope p =>
    unfold trE at h
    split at h
    all_goals try (rename_i z; cases z; done)
    all_goals try (cases h; done)
    rename_i tg it q z
    cases z
    split at h
    · rename_i e1 e2 e3 e4
      split at h
      · rename_i hk
        obtain ⟨hk, h1, h4, h5⟩ := hk
        cases h
        subst hk
        obtain ⟨a2, a4⟩ := s_dc (it := ka) (tg := ka) (g := g) (W := W) (P := P) (C := C) o h1 (slots_ok h5)
        exact peI (pe_dc (o.calm rfl) o.nd (I.z o e1) a2 (fun s H Ca cl fp => (ind_t n).1 (o.blk0 s H Ca cl fp) (fun x => fbC_ok0) e2) (fun s H Ca cl fp => c_none) (fun s H Ca cl fp => I.e (o.blk0 s H Ca cl fp) e3) (fun s H Ca cl fp => I.e (o.blk0 s H Ca cl fp) e4) (notSet_ok h4)) a4
      · cases h
    · cases h
  | _ => simp [trE] at h
theorem ie_t (I : IndE n) {x : Expr} {y : E} {j : Nat} (o : Okx X g W P C N sc k) (ht : tstOk j x = true) (h : trE N sc k (n + 1) x = some y) : PT X x (RT g W P C y) := by
  cases j with
  | zero => simp [tstOk] at ht
  | succ j =>
    by_cases hp : plainT x = true
    · exact t_plain o.K hp (ie_e I o h)
    · cases x with
      | UnaryOp op a p =>
        cases op with
        | Not =>
          simp only [tstOk] at ht
          simp only [trE] at h
          obtain ⟨l, e1, rfl⟩ := map_ok h
          exact t_not (I.t o ht e1)
        | _ => exact absurd rfl hp
      | BoolOp op es p =>
        simp only [tstOk] at ht
        simp only [trE] at h
        exact (I.w o ht h).pt
      | Compare a ops cs p => exact (ie_cmp I o h).2
      | IfExp t a b p => simp [tstOk] at ht
      | _ => exact absurd rfl hp
theorem ind_e : ∀ n, IndE n
  | 0 => by
    constructor <;> intros <;> rename_i h <;> first | (simp only [trE] at h; cases h) | (simp only [trEs] at h; cases h) | (simp only [trKs] at h; cases h) | (simp only [trJ] at h; cases h) | (simp only [trB] at h; cases h) | (simp only [trL] at h; cases h) | (simp only [trI] at h; cases h) | (simp only [trZ] at h; cases h) | (simp only [trO] at h; cases h) | (simp only [trC] at h; cases h)
  | n + 1 => by
    have I := ind_e n
    refine ⟨fun o h => ie_e I o h, ?_, ?_, ?_, ?_, fun o ht h => ie_t I o ht h, ?_, fun o h => ie_l I o h, fun o h => ie_i I o h, fun o h => ie_z I o h, ?_, ?_⟩
    · intro X g W P C N sc k x y o h
      cases x with
      | nil => simp only [trEs] at h; cases h; exact ⟨s_nil, rfl, rfl⟩
      | cons e es =>
        simp only [trEs] at h
        split at h
        · rename_i e1 e2
          split at h
          · rename_i hs
            cases h
            obtain ⟨a, b, c⟩ := I.es o e2
            exact ⟨s_cons hs (I.e o e1) a, by rw [List.all_cons, hs, b]; rfl, by simp [c]⟩
          · cases h
        · cases h
    · intro X g W P C N sc k x y o h
      cases x with
      | nil => simp only [trKs] at h; cases h; exact ⟨k_nil, rfl⟩
      | cons w ws =>
        simp only [trKs] at h
        split at h
        · rename_i e1 e2
          cases h
          obtain ⟨a, b⟩ := I.ks o e2
          exact ⟨k_cons (I.e o e1) a, by simp [b]⟩
        · cases h
    · intro X g W P C N sc k x y o h
      cases x with
      | nil => simp only [trJ] at h; cases h; exact .nil
      | cons e es =>
        simp only [trJ] at h
        split at h
        · rename_i e1 e2
          cases h
          exact .cons (I.e o e1) (I.j o e2)
        · cases h
    · intro X g W P C N sc k op x y pos o h
      simp only [trB] at h
      split at h
      · exact pe_one (I.e o h)
      · split at h
        · rename_i e1 e2
          cases op with
          | And => cases h; exact s_and o.K (I.e o e1) (I.b o e2)
          | Or => cases h; exact s_or o.K (I.e o e1) (I.b o e2)
        · cases h
      · cases h
    · intro X g W P C N sc k op x y pos j o ht h
      simp only [trB] at h
      split at h
      · rw [List.all_cons, Bool.and_eq_true] at ht
        cases op with
        | And => exact pw_and1 (I.t o ht.1 h)
        | Or => exact pw_or1 (I.t o ht.1 h)
      · rw [List.all_cons, Bool.and_eq_true] at ht
        split at h
        · rename_i e1 e2
          cases op with
          | And => cases h; exact t_and (I.t o ht.1 e1) (I.w o ht.2 e2)
          | Or => cases h; exact t_or (I.t o ht.1 e1) (I.w o ht.2 e2)
        · cases h
      · cases h
    · intro X g W P C N sc k x y o h
      cases x with
      | none => simp only [trO] at h; cases h; exact o_none
      | some e => simp only [trO] at h; obtain ⟨l, e1, rfl⟩ := map_ok h; exact o_some (I.e o e1)
    · intro X g W P C N sc k x y o h
      simp only [trC] at h
      split at h
      · cases h; exact c_none
      · split at h
        · rename_i ht
          obtain ⟨l, e1, rfl⟩ := map_ok h
          exact c_some (I.t o ht e1)
        · cases h
      · cases h
end
end MP
namespace MP
open PySem L2
/-! ### statements: from the text's trees -/
/-- the value of a comprehension is stored by its own road -/
def swB (sc : Scope) (x : Str) (xp : Pos) (scope : Scope) (lp : Pos) : Bool :=
  (sc.names.lookup x == some .local) && xp.line == lp.line && !(scope.names.any fun (n, k) => n == x && (k == .local || k == .cell))
def parB (sc : Scope) (x y : Str) (px py : Pos) (a b : PySem.Expr) : Bool :=
  (sc.names.lookup x == some .local) && (sc.names.lookup y == some .local) && px.line == py.line && !(x == y) && notStar a && notStar b && !([a, b].all (foldedForSure 8)) && !([a, b].all (constantsAlone 8))
def notCall : PySem.Expr → Bool
  | .Call _ _ _ _ => false
  | _ => true
/-- try: .. except x as n: y = n -/
def keepOf (N : List Str) (sc : Scope) (k : Bool) : Stmt → Option (List Stmt × Str × Nat × Nat)
  | .Try b [.ExceptHandler (some (.Name x _)) (some n) [.Assign [.Name y _] (.Name n' _) _] _] [] [] _ => if k = true ∧ n' = n ∧ trGlo sc x = true ∧ (sc.names.lookup n == some .local) = true ∧ (sc.names.lookup y == some .local) = true ∧ (n == ("__debug__" : Str)) = false ∧ (n == ("__classdict__" : Str)) = false then (match slotOf N n, slotOf N y with
    | some i, some j => if i ≠ j then some (b, x, i, j) else none
    | _, _ => none) else none
  | _ => none
mutual
def trS (N : List Str) (sc : Scope) (k : Bool) : Nat → Stmt → Option S
  | 0, _ => none
  | n + 1, s => match s with
    | .Assign [t] e _ => (match t with
      | .Name x xp => if isLoc (sc.names.lookup x) = true then (match slotOf N x with
        | some i => (match e with
          | .ListComp elt gs scope lp => if k = true then (match trL N sc k n (.ListComp elt gs scope lp) with
            | some l => some (.asg (.nm i) (.new l))
            | none => none) else none
          | e => if notComp e = true then (trE N sc k n e).map (S.asg (.nm i)) else none)
        | none => none) else none
      | .Tuple es tn tp => if k = true then (match es, e with
        | [.Name x px, .Name y py], .Tuple [a, b] _ _ => (match slotOf N x, slotOf N y, trE N sc k n a, trE N sc k n b with
          | some i, some j, some a', some b' => if i ≠ j ∧ parB sc x y px py a b = true then some (.par i j a' b') else (match trTs N sc (fun _ => true) n es, trE N sc k n e with
            | some ts, some e' => if notTuple e = true then some (.asg (.tp ts) e') else none
            | _, _ => none)
          | _, _, _, _ => none)
        | es, e => (match trTs N sc (fun _ => true) n es, trE N sc k n e with
          | some ts, some e' => if notTuple e = true then some (.asg (.tp ts) e') else none
          | _, _ => none)) else none
      | .Subscript o i _ => (match trE N sc k n e, trE N sc k n o, trE N sc k n i with
        | some e', some o', some i' => if notSlice i = true ∧ notComp e = true then some (.seti o' i' e') else none
        | _, _, _ => none)
      | .Attribute o f _ => (match trE N sc k n e, trE N sc k n o with
        | some e', some o' => if notComp e = true then some (.setf o' f e') else none
        | _, _ => none)
      | _ => none)
    | .AugAssign (.Name x _) op e _ => (match slotOf N x, trOp op, trE N sc k n e with
      | some i, some op', some e' => if isLoc (sc.names.lookup x) = true ∧ op' ≠ .pow then some (.aug i op' e') else none
      | _, _, _ => none)
    | .AugAssign (.Attribute o f _) op e _ => (match trE N sc k n o, trOp op, trE N sc k n e with
      | some o', some op', some e' => if op' = .add ∨ op' = .sub then some (.augf o' f op' e') else none
      | _, _, _ => none)
    | .Delete [.Subscript o i _] _ => (match trE N sc k n o, trE N sc k n i with
      | some o', some i' => some (.del o' i')
      | _, _ => none)
    | .Expr e _ => (match e with
      | .Call (.Attribute o f ap) [a] [] cp => if f = "append" then (match trE N sc k n o, trE N sc k n a with
        | some o', some a' => if (ap.endLine == cp.line) = true ∧ notCall o = true ∧ notStar a = true then some (.app o' a') else none
        | _, _ => none) else (trE N sc k n e).map S.exp
      | e => if notComp e = true then (trE N sc k n e).map S.exp else none)
    | .Return none _ => some (.ret (.con .non))
    | .Return (some e) _ => (trE N sc k n e).map S.ret
    | .Pass _ => some .pass
    | .Break _ => some .brk
    | .Continue _ => some .cont
    | .If t a b _ => (match trE N sc k n t, trSs N sc k n a, trSs N sc k n b with
      | some t', some a', some b' => if tstOk n t = true then some (.ife t' a' b') else none
      | _, _, _ => none)
    | .While t b [] _ => (match trE N sc k n t, trSs N sc k n b with
      | some t', some b' => if tstOk n t = true ∧ k = true then some (.whl t' b') else none
      | _, _ => none)
    | .For tg it b [] _ => if k = true ∧ notSet it = true then (match trT N sc (fun _ => true) n tg, trZ N sc k n tg it, trSs N sc k n b with
      | some t, some i, some b' => some (.for_ t i b')
      | _, _, _ => none) else none
    | .Raise (some (.Call (.Name c _) es [] _)) none _ => if k = true ∧ trGlo sc c = true then (trEs N sc k n es).map (S.rai c) else none
    | .Try b (h :: hs) [] [] _ => if k = true then (match trSs N sc k n b, trHs N sc n (h :: hs) with
      | some b', some hs' => some (.try_ b' hs')
      | _, _ => none) else none
    | _ => none
def trSs (N : List Str) (sc : Scope) (k : Bool) : Nat → List Stmt → Option (List S)
  | 0, _ => none
  | _ + 1, [] => some []
  | n + 1, s :: ss => match keepOf N sc k s with
    | some (b, x, i, j) => (match trSs N sc k n b, trSs N sc false n ss with
      | some b', some r => some [.tryk b' x i j r]
      | _, _ => none)
    | none => match trS N sc k n s, trSs N sc k n ss with
      | some s', some l => some (s' :: l)
      | _, _ => none
def trHs (N : List Str) (sc : Scope) : Nat → List ExceptHandler → Option (List Hd)
  | 0, _ => none
  | _ + 1, [] => some []
  | n + 1, h :: hs => match h with
    | .ExceptHandler (some (.Name x _)) nm (s :: ss) _ => if trGlo sc x = true then (match trHs N sc n hs, trSs N sc false n (s :: ss), nm with
      | some l, some b, none => some (.mk x none b :: l)
      | some l, some b, some y => (match slotOf N y with
        | some i => if (sc.names.lookup y == some .local) = true then some (.mk x (some i) b :: l) else none
        | none => none)
      | _, _, _ => none) else none
    | _ => none
end
/-- what a statement's place gives beyond an expression's -/
structure Okb (X : Cx) (g : G) (W : WX) (P : Tx) (C : Cal) (N : List Str) (sc : Scope) (k : Bool) : Prop where
  o : Okx X g W P C N sc k
  own : k = true → PassesOwn (model X.prog X.w) X.A X.env X.xe
  fn : ∀ x, X.fn x = true
  bk : X.env.blockKind = .function
  stk : X.stack = X.env :: X.outer
  fr : X.env.frame = some X.env.locals
section
variable {X : Cx} {g : G} {W : WX} {P : Tx} {C : Cal} {N : List Str} {sc : Scope} {k : Bool} {n : Nat} {p q : Pos}
theorem sw_lc {elt : Expr} {gs : List Comprehension} {scope : Scope} {lp xp : Pos} {x : Str} {l : Nat} (o : Okb X g W P C N sc k) : swapsWith (.ListComp elt gs scope lp) (some (.Name x xp)) l X.env = pure (swB sc x xp scope lp) := by
  have e : swapsWith (.ListComp elt gs scope lp) (some (.Name x xp)) l X.env = pure (X.env.blockKind == .function && X.env.kindOf x == some .local && xp.line == lp.line && !(scope.names.any fun (n, k) => n == x && (k == .local || k == .cell))) := rfl
  rw [e, o.bk]
  have e2 : X.env.kindOf x = sc.names.lookup x := by show X.env.scope.names.lookup x = _; rw [o.o.sc]
  rw [e2]
  rfl
theorem par_lc {x y : Str} {a b : Expr} {px py tp vp : Pos} {tn vn : Nat} (o : Okb X g W P C N sc k) (h : parB sc x y px py a b = true) :
    swappedStores [.Tuple [.Name x px, .Name y py] tn tp] (.Tuple [a, b] vn vp) X.env = pure (some [x, y]) ∧ sc.names.lookup x = some .local ∧ sc.names.lookup y = some .local ∧ notStar a = true ∧ notStar b = true := by
  unfold parB at h
  simp only [Bool.and_eq_true, Bool.not_eq_true'] at h
  obtain ⟨⟨⟨⟨⟨⟨⟨h1, h2⟩, h3⟩, h4⟩, h5⟩, h6⟩, h7⟩, h8⟩ := h
  have k1 : sc.names.lookup x = some .local := eq_of_beq h1
  have k2 : sc.names.lookup y = some .local := eq_of_beq h2
  refine ⟨?_, k1, k2, h5, h6⟩
  have e1 : X.env.kindOf x = some .local := by show X.env.scope.names.lookup x = _; rw [o.o.sc]; exact k1
  have e2 : X.env.kindOf y = some .local := by show X.env.scope.names.lookup y = _; rw [o.o.sc]; exact k2
  have st : ([a, b].any fun | .Starred .. => true | _ => false) = false := by
    have s1 : ∀ {e : Expr}, notStar e = true → (match e with | .Starred .. => true | _ => false) = false := fun {e} h => by cases e <;> first | rfl | cases h
    simp only [List.any_cons, List.any_nil, Bool.or_false]
    rw [s1 h5, s1 h6]; rfl
  have nx : x ≠ y := by simpa using h4
  have ny : (y == x) = false := by simp; exact fun e => nx e.symm
  have ed : ([x, y] : List Str).eraseDups = [x, y] := by
    simp [List.eraseDups_cons, ny]
  have pl : (px.line == px.line) = true := by simp
  have pl2 : (py.line == px.line) = true := by
    have := eq_of_beq h3
    rw [this]; simp
  have ln : ∀ {x : Str} {p : Pos}, (Expr.Name x p).pos.line = p.line := rfl
  unfold swappedStores
  simp only [o.bk]
  simp only [List.length_cons, List.length_nil, pure_bind]
  refine (if_neg (by decide)).trans ?_
  refine (if_neg (fun z => Bool.false_ne_true (st.symm.trans z))).trans ?_
  have hd : (Option.map (fun x => x.pos.line) [Expr.Name x px, Expr.Name y py].head?).getD 0 = px.line := rfl
  rw [hd]
  have fm : [Expr.Name x px, Expr.Name y py].filterMap (fun
    | .Name id pos => if (X.env.kindOf id == some .local && pos.line == px.line) = true then some id else none
    | _ => none) = [x, y] := by
    simp [List.filterMap_cons, e1, e2, eq_of_beq pl2]
  refine (if_neg (fun z => ?_)).trans ?_
  · have z2 : ([x, y].length != 2 || ([x, y] : List Str).eraseDups.length != [x, y].length) = true := by
      rw [← fm]; exact z
    rw [ed] at z2
    simp at z2
  refine (if_neg (fun z => Bool.false_ne_true (h7.symm.trans z))).trans ?_
  refine (if_neg (fun z => Bool.false_ne_true (h8.symm.trans z))).trans ?_
  exact congrArg (fun l => (pure (some l) : Sem (Option (List Str)))) fm
end
end MP
namespace MP
open PySem L2
section
variable {X : Cx} {g : G} {W : WX} {P : Tx} {C : Cal} {N : List Str} {sc : Scope} {k : Bool} {n : Nat} {p q : Pos}
/-! ### the places of a try -/
theorem Okb.tr (o : Okb X g W P C N sc true) {W' : WX} {pn : List (Addr × Obj)} {xe : Value → Shared → Prop} (tk : Takes (X.tr pn xe) W') (ps : PassesOwn (model X.prog X.w) X.A X.env xe) : Okb (X.tr pn xe) g W' P C N sc true where
  o := { K := o.o.K, mg := o.o.mg, w := o.o.w, N := o.o.N, nd := o.o.nd, sc := o.o.sc, calm := o.o.calm, units := o.o.units, guards := o.o.guards, con := o.o.con, free := o.o.free, sys := o.o.sys, tk := tk, tkf := fun _ => TakesF.of tk o.stk o.fr, xi := o.o.xi, fns := o.o.fns, room := o.o.room, err := o.o.err, sub := o.o.sub, fld := o.o.fld, isc := o.o.isc
         ex := fun i c fs e => by rw [(o.o.xi rfl).2] at e; cases e }
  own := fun _ => ps
  fn := o.fn
  bk := o.bk
  stk := o.stk
  fr := o.fr
theorem Okb.bare (o : Okb X g W P C N sc true) {a : Addr} {oe : Obj} {pn : List (Addr × Obj)} : Okb (X.suite a ((a, oe) :: pn)) g W0 P C N sc false where
  o := { K := o.o.K, mg := o.o.mg, w := o.o.w, N := o.o.N, nd := o.o.nd, sc := o.o.sc, calm := fun z => (by cases z), units := o.o.units, guards := o.o.guards, con := o.o.con, free := o.o.free, sys := o.o.sys, tk := takes_none5, tkf := fun z => (by cases z), xi := fun z => (by cases z), fns := fun z => (by cases z), room := fun z => (by cases z)
         err := o.o.err, sub := o.o.sub, fld := o.o.fld, isc := o.o.isc, ex := fun i c fs e => by rw [(o.o.xi rfl).2] at e; cases e }
  own := fun z => by cases z
  fn := o.fn
  bk := o.bk
  stk := o.stk
  fr := o.fr
theorem Okb.named (o : Okb X g W P C N sc true) {a : Addr} {oe : Obj} {pn : List (Addr × Obj)} {i : Nat} {c : Str} {fs : List (Str × M)} {cls : Value} {d : Option Addr} (hz : Zc cls d oe) (hd : ∃ vs, oe.data = .fields vs) :
    Okb (X.suite a ((a, oe) :: pn)) (g.hold i c fs a cls d) W0 (P.hold i c fs) C N sc false where
  o := { K := o.o.K, mg := o.o.mg, w := o.o.w, N := o.o.N, nd := o.o.nd, sc := o.o.sc, calm := fun z => (by cases z), units := o.o.units, guards := o.o.guards
         con := fun x v e => by
          obtain ⟨u, w, e1, e2, e3⟩ := o.o.con x v e
          exact ⟨u, w, e1, e2, fun m H => (e3 m H).up⟩
         free := o.o.free, sys := o.o.sys, tk := takes_none5, tkf := fun z => (by cases z), xi := fun z => (by cases z), fns := fun z => (by cases z), room := fun z => (by cases z), err := o.o.err, sub := o.o.sub, fld := o.o.fld, isc := o.o.isc
         ex := fun j c' fs' e => by
          cases e
          exact ⟨a, oe, cls, d, List.mem_cons_self, hz, hd, rfl⟩ }
  own := fun z => by cases z
  fn := o.fn
  bk := o.bk
  stk := o.stk
  fr := o.fr
theorem Okb.weak (o : Okb X g W P C N sc true) : Okb X g W P C N sc false where
  o := { K := o.o.K, mg := o.o.mg, w := o.o.w, N := o.o.N, nd := o.o.nd, sc := o.o.sc, calm := fun z => (by cases z), units := o.o.units, guards := o.o.guards, con := o.o.con, free := o.o.free, sys := o.o.sys, tk := o.o.tk, tkf := fun z => (by cases z), xi := fun z => (by cases z), fns := fun z => (by cases z), room := fun z => (by cases z)
         err := o.o.err, sub := o.o.sub, fld := o.o.fld, isc := o.o.isc, ex := o.o.ex }
  own := fun z => by cases z
  fn := o.fn
  bk := o.bk
  stk := o.stk
  fr := o.fr
theorem Okb.kept (o : Okb X g W P C N sc true) {a : Addr} {oe : Obj} {pn : List (Addr × Obj)} {i : Nat} {c : Str} {fs : List (Str × M)} {cls : Value} {d : Option Addr} (hz : Zc cls d oe) (hd : ∃ vs, oe.data = .fields vs) :
    Okb (X.tr ((a, oe) :: pn) X.xe) (g.hold i c fs a cls d) W0 (P.hold i c fs) C N sc false where
  o := { K := o.o.K, mg := o.o.mg, w := o.o.w, N := o.o.N, nd := o.o.nd, sc := o.o.sc, calm := fun z => (by cases z), units := o.o.units, guards := o.o.guards
         con := fun x v e => by
          obtain ⟨u, w, e1, e2, e3⟩ := o.o.con x v e
          exact ⟨u, w, e1, e2, fun m H => (e3 m H).up⟩
         free := o.o.free, sys := o.o.sys, tk := takes_none5, tkf := fun z => (by cases z), xi := fun z => (by cases z), fns := fun z => (by cases z), room := fun z => (by cases z), err := o.o.err, sub := o.o.sub, fld := o.o.fld, isc := o.o.isc
         ex := fun j c' fs' e => by
          cases e
          exact ⟨a, oe, cls, d, List.mem_cons_self, hz, hd, rfl⟩ }
  own := fun z => by cases z
  fn := o.fn
  bk := o.bk
  stk := o.stk
  fr := o.fr
theorem Okb.fb (o : Okb X g W P C N sc k) : ∀ x, (fun _ : Str => true) x = true → X.fn x = true ∨ sc.names.lookup x = some .local := fun x _ => .inl (o.fn x)
/-! ### every translated statement is simulated -/
structure IndS (n : Nat) : Prop where
  s : ∀ {X : Cx} {g : G} {W : WX} {P : Tx} {C : Cal} {N : List Str} {sc : Scope} {k : Bool} {x : Stmt} {y : S}, Okb X g W P C N sc k → trS N sc k n x = some y → PS X x (RS g W P C y)
  ss : ∀ {X : Cx} {g : G} {W : WX} {P : Tx} {C : Cal} {N : List Str} {sc : Scope} {k : Bool} {x : List Stmt} {y : List S}, Okb X g W P C N sc k → trSs N sc k n x = some y → PSs X x (RSs g W P C y)
  hs : ∀ {X : Cx} {g : G} {W : WX} {P : Tx} {C : Cal} {N : List Str} {sc : Scope} {x : List ExceptHandler} {y : List Hd}, Okb X g W P C N sc true → trHs N sc n x = some y → Hds X g P C x y
theorem asg_lc {x : Str} {xp lp : Pos} {i : Nat} {elt : Expr} {gs : List Comprehension} {scope : Scope} {l : LE} (o : Okb X g W P C N sc true) (hx : slotOf N x = some i) (hl : isLoc (sc.names.lookup x) = true) (h : trL N sc true n (.ListComp elt gs scope lp) = some l) :
    PS X (.Assign [.Name x xp] (.ListComp elt gs scope lp) p) (RS g W P C (.asg (.nm i) (.new l))) := by
  have sw := sw_lc (elt := elt) (gs := gs) (scope := scope) (lp := lp) (xp := xp) (x := x) (l := p.line) o
  cases hb : swB sc x xp scope lp with
  | false =>
    rw [hb] at sw
    exact st_set o.o hx hl (o.fn _) sw (s_new ((ind_e n).l o.o h))
  | true =>
    rw [hb] at sw
    cases n with
    | zero => simp only [trL] at h; cases h
    | succ n =>
      have hloc : sc.names.lookup x = some .local := by
        unfold swB at hb
        simp only [Bool.and_eq_true] at hb
        exact eq_of_beq hb.1.1
      have I := ind_e n
      simp only [trL] at h
      split at h
      · rename_i z; cases z
      · rename_i z
        cases z
        split at h
        · rename_i e1 e2 e3 e4
          split at h
          · rename_i hk
            obtain ⟨hk, h1, h4, h5⟩ := hk
            cases h
            exact st_setLc o.o hx hloc sw h1 (slots_ok h5) (I.z o.o e1) (fun s H Ca cl fp xe Wb tk tf => (ind_t n).1 (o.o.blk s H Ca cl fp tk tf) (fun x => fbC_ok) e2) (fun s H Ca cl fp xe Wb tk tf => I.c (o.o.blk s H Ca cl fp tk tf) e3) (fun s H Ca cl fp xe Wb tk tf => I.e (o.o.blk s H Ca cl fp tk tf) e4) h4
          · cases h
        · cases h
      · cases h
theorem is_asg (I : IndS n) {ts : List Expr} {e : Expr} {y : S} (o : Okb X g W P C N sc k) (h : trS N sc k (n + 1) (.Assign ts e p) = some y) : PS X (.Assign ts e p) (RS g W P C y) := by
  cases ts with
  | nil => simp [trS] at h
  | cons t ts =>
    cases ts with
    | cons _ _ => simp [trS] at h
    | nil =>
      simp only [trS] at h
      split at h
      · split at h
        · rename_i hl
          split at h
          · rename_i i hx
            split at h
            · split at h
              · rename_i hk
                subst hk
                split at h
                · rename_i l e1
                  cases h
                  exact asg_lc o hx hl e1
                · cases h
              · cases h
            · split at h
              · rename_i hn
                obtain ⟨e', e1, rfl⟩ := map_ok h
                exact st_set o.o hx hl (o.fn _) (notComp_ok hn) ((ind_e n).e o.o e1)
              · cases h
          · cases h
        · cases h
      · split at h
        · rename_i hk
          subst hk
          split at h
          · split at h
            · rename_i e1 e2 e3 e4
              split at h
              · rename_i hp
                cases h
                obtain ⟨a1, a2, a3, a4, a5⟩ := par_lc o hp.2
                exact st_par o.o (o.o.calm rfl) e1 e2 hp.1 a2 a3 a4 a5 ((ind_e n).e o.o e3) ((ind_e n).e o.o e4) a1
              · split at h
                · rename_i e5 e6
                  split at h
                  · rename_i hp
                    cases h
                    obtain ⟨a, b, c⟩ := (ind_t n).2 o.o o.fb e5
                    exact st_unp (g_tp o.o (o.o.calm rfl) b c a) hp ((ind_e n).e o.o e6)
                  · cases h
                · cases h
            · cases h
          · split at h
            · rename_i e1 e2
              split at h
              · rename_i hp
                cases h
                obtain ⟨a, b, c⟩ := (ind_t n).2 o.o o.fb e1
                exact st_unp (g_tp o.o (o.o.calm rfl) b c a) hp ((ind_e n).e o.o e2)
              · cases h
            · cases h
        · cases h
      · split at h
        · rename_i e1 e2 e3
          split at h
          · rename_i hp
            cases h
            exact st_seti (by have := o.o.units; omega) hp.1 hp.2 ((ind_e n).e o.o e1) ((ind_e n).e o.o e2) ((ind_e n).e o.o e3) rfl
          · cases h
        · cases h
      · split at h
        · rename_i e1 e2
          split at h
          · rename_i hp
            cases h
            exact st_setf o.o hp ((ind_e n).e o.o e1) ((ind_e n).e o.o e2)
          · cases h
        · cases h
      · cases h
theorem is_for (I : IndS n) {tg it : Expr} {b : List Stmt} {y : S} (o : Okb X g W P C N sc k) (h : trS N sc k (n + 1) (.For tg it b [] p) = some y) : PS X (.For tg it b [] p) (RS g W P C y) := by
  simp only [trS] at h
  split at h
  · rename_i hk
    obtain ⟨hk, hset⟩ := hk
    subst hk
    split at h
    · rename_i t i b' e1 e2 e3
      cases h
      exact st_for (o.own rfl) (o.o.calm rfl) hset ((ind_e n).z o.o e2) ((ind_t n).1 o.o o.fb e1) (I.ss o e3)
    · cases h
  · cases h
theorem is_exp (I : IndS n) {e : Expr} {y : S} (o : Okb X g W P C N sc k) (h : trS N sc k (n + 1) (.Expr e p) = some y) : PS X (.Expr e p) (RS g W P C y) := by
  simp only [trS] at h
  split at h
  · split at h
    · rename_i hf
      subst hf
      split at h
      · rename_i e1 e2
        split at h
        · rename_i hc
          obtain ⟨h1, h2, h3⟩ := hc
          cases h
          refine st_app h1 ?_ h3 ((ind_e n).e o.o e1) ((ind_e n).e o.o e2)
          unfold notCall at h2
          exact h2
        · cases h
      · cases h
    · obtain ⟨e', e1, rfl⟩ := map_ok h
      exact st_exp rfl ((ind_e n).e o.o e1)
  · split at h
    · rename_i hn
      obtain ⟨e', e1, rfl⟩ := map_ok h
      exact st_exp hn ((ind_e n).e o.o e1)
    · cases h
theorem is_s (I : IndS n) {x : Stmt} {y : S} (o : Okb X g W P C N sc k) (h : trS N sc k (n + 1) x = some y) : PS X x (RS g W P C y) := by
  cases x with
  | Assign ts e p => exact is_asg I o h
  | AugAssign t op e p =>
    cases t with
    | Name x xp =>
      simp only [trS] at h
      split at h
      · rename_i e1 e2 e3
        split at h
        · rename_i hc
          cases h
          exact st_aug e2 hc.2 o.o e1 hc.1 (o.fn _) ((ind_e n).e o.o e3)
        · cases h
      · cases h
    | Attribute oe f ap =>
      simp only [trS] at h
      split at h
      · rename_i e1 e2 e3
        split at h
        · rename_i hc
          cases h
          exact st_augf e2 hc o.o ((ind_e n).e o.o e3) ((ind_e n).e o.o e1)
        · cases h
      · cases h
    | _ => simp [trS] at h
  | Delete ts p =>
    unfold trS at h
    split at h
    all_goals try (rename_i z; cases z; done)
    all_goals try (cases h; done)
    rename_i z
    cases z
    split at h
    · rename_i e1 e2
      cases h
      exact st_del ((ind_e n).e o.o e1) ((ind_e n).e o.o e2)
    · cases h
  | Expr e p => exact is_exp I o h
  | Return e p =>
    cases e with
    | none => simp only [trS] at h; cases h; exact st_retN
    | some e => simp only [trS] at h; obtain ⟨e', e1, rfl⟩ := map_ok h; exact st_ret ((ind_e n).e o.o e1)
  | Pass p => simp only [trS] at h; cases h; exact st_pass
  | Break p => simp only [trS] at h; cases h; exact st_brk
  | Continue p => simp only [trS] at h; cases h; exact st_cont
  | If t a b p =>
    simp only [trS] at h
    split at h
    · rename_i e1 e2 e3
      split at h
      · rename_i ht
        cases h
        exact st_if ((ind_e n).t o.o ht e1) (I.ss o e2) (I.ss o e3)
      · cases h
    · cases h
  | While t b el p =>
    cases el with
    | cons _ _ => simp [trS] at h
    | nil =>
      simp only [trS] at h
      split at h
      · rename_i e1 e2
        split at h
        · rename_i ht
          cases h
          exact st_while (o.own ht.2) ((ind_e n).t o.o ht.1 e1) (I.ss o e2)
        · cases h
      · cases h
  | For tg it b el p =>
    cases el with
    | cons _ _ => simp [trS] at h
    | nil => exact is_for I o h
  | Raise ex ca p =>
    cases ca with
    | some _ => simp [trS] at h
    | none =>
      cases ex with
      | none => simp [trS] at h
      | some ex =>
        cases ex with
        | Call f es ks q =>
          cases ks with
          | cons _ _ => simp [trS] at h
          | nil =>
            cases f with
            | Name c cp =>
              simp only [trS] at h
              split at h
              · rename_i hk
                obtain ⟨l, e1, rfl⟩ := map_ok h
                obtain ⟨a, b, c'⟩ := (ind_e n).es o.o e1
                cases es with
                | nil =>
                  have : l = [] := List.eq_nil_of_length_eq_zero c'.symm
                  subst this
                  exact rai_none o.o hk.1 hk.2
                | cons e es =>
                  cases l with
                  | nil => simp at c'
                  | cons e0 l => exact rai_some o.o hk.1 hk.2 b a
              · cases h
            | _ => simp [trS] at h
        | _ => simp [trS] at h
  | Try b hs el fi p =>
    cases el with
    | cons _ _ => simp [trS] at h
    | nil =>
      cases fi with
      | cons _ _ => simp [trS] at h
      | nil =>
        cases hs with
        | nil => simp [trS] at h
        | cons h0 hs =>
          simp only [trS] at h
          split at h
          · rename_i hk
            subst hk
            split at h
            · rename_i e1 e2
              cases h
              exact st_try o.o o.stk o.fr (fun W' pn xe tk ps => I.ss (o.tr tk ps) e1) (I.hs o e2)
            · cases h
          · cases h
  | _ => simp [trS] at h
theorem ind_s : ∀ n, IndS n
  | 0 => ⟨fun _ h => (by simp only [trS] at h; cases h), fun _ h => (by simp only [trSs] at h; cases h), fun _ h => (by simp only [trHs] at h; cases h)⟩
  | n + 1 => by
    have I := ind_s n
    refine ⟨fun o h => is_s I o h, ?_, ?_⟩
    · intro X g W P C N sc k x y o h
      cases x with
      | nil => simp only [trSs] at h; cases h; exact b_nil
      | cons s ss =>
        simp only [trSs] at h
        split at h
        · rename_i b x i j ek
          split at h
          · rename_i b' r e1 e2
            cases h
            unfold keepOf at ek
            split at ek
            · split at ek
              · rename_i hc
                obtain ⟨rfl, rfl, hg, hl, hly, d1, d2⟩ := hc
                split at ek
                · rename_i i' j' ei ej
                  split at ek
                  · rename_i hij
                    cases ek
                    exact b_tryk o.o o.stk o.fr o.fn (trGlo_ok o.o hg).1 (by rw [o.o.N]; exact slotOf_get ei) (by rw [o.o.sc]; exact eq_of_beq hl) (by rw [o.o.N]; exact slotOf_get ej) (by rw [o.o.sc]; exact eq_of_beq hly) hij d1 d2
                      (fun W' pn xe tk ps => I.ss (o.tr tk ps) e1) (I.ss o.weak e2) (fun a oe cls d c fs pn hz hd => I.ss (o.kept hz hd) e2)
                  · cases ek
                · cases ek
              · cases ek
            · cases ek
          · cases h
        · split at h
          · rename_i e1 e2; cases h; exact b_cons (I.s o e1) (I.ss o e2)
          · cases h
    · intro X g W P C N sc x y o h
      cases x with
      | nil => simp only [trHs] at h; cases h; exact .nil
      | cons e es =>
        simp only [trHs] at h
        split at h
        · split at h
          · rename_i hg
            split at h
            · rename_i e1 e2
              cases h
              exact .bare (trGlo_ok o.o hg).1 (fun a oe cls d pn hz hd => I.ss o.bare e2) (I.hs o e1)
            · rename_i e1 e2
              split at h
              · rename_i i hi
                split at h
                · rename_i hl
                  cases h
                  exact .named (trGlo_ok o.o hg).1 (by rw [o.o.N]; exact slotOf_get hi) (by show X.env.scope.names.lookup _ = _; rw [o.o.sc]; exact eq_of_beq hl) (fun a oe cls d c fs pn hz hd => I.ss (o.named hz hd) e2) (I.hs o e1)
                · cases h
              · cases h
            · cases h
          · cases h
        · cases h
end
end MP
namespace MP
open PySem L2
/-! ### what a call makes is forgotten if nothing leads to it -/
section
variable {g : G} {m m' e : List Addr} {H H' : Hp} {h h' : Hm}
mutual
theorem RM.bel : ∀ (x : M) (v : V), RM g m H x v → below m.length x = true
  | .non, _, _ => by simp [below]
  | .bl _, _, _ => by simp [below]
  | .int _, _, _ => by simp [below]
  | .str _, _, _ => by simp [below]
  | .glo _, _, _ => by simp [below]
  | .rod _, _, _ => by simp [below]
  | .tup xs, v, r => by
    simp only [RM] at r
    obtain ⟨a, vs, _, _, r⟩ := r
    simp only [below]
    exact RMs.bel xs vs r
  | .rol xs, v, r => by
    simp only [RM] at r
    obtain ⟨a, vs, _, _, r⟩ := r
    simp only [below]
    exact RMs.bel xs vs r
  | .ref i, v, r => by
    simp only [RM] at r
    obtain ⟨a, e, _⟩ := r
    simp only [below]
    have hi : i < m.length := by
      by_cases hi : i < m.length
      · exact hi
      · rw [List.getElem?_eq_none (by omega)] at e; cases e
    exact decide_eq_true hi
theorem RMs.bel : ∀ (xs : List M) (vs : List V), RMs g m H xs vs → belows m.length xs = true
  | [], _, _ => by simp [belows]
  | x :: xs, vs, r => by
    simp only [RMs] at r
    obtain ⟨v, t, rfl, r1, r2⟩ := r
    simp only [belows, Bool.and_eq_true]
    exact ⟨RM.bel x v r1, RMs.bel xs t r2⟩
end
mutual
theorem RM.cutM : ∀ (x : M) (v : V), RM g (m ++ e) H x v → below m.length x = true → RM g m H x v
  | .non, _, r, _ => by simpa [RM] using r
  | .bl _, _, r, _ => by simpa [RM] using r
  | .int _, _, r, _ => by simpa [RM] using r
  | .str _, _, r, _ => by simpa [RM] using r
  | .glo _, _, r, _ => by simpa [RM] using r
  | .rod _, _, r, _ => by simpa only [RM] using r
  | .tup xs, v, r, b => by
    simp only [RM] at r ⊢
    simp only [below] at b
    obtain ⟨a, vs, h1, h2, r⟩ := r
    exact ⟨a, vs, h1, h2, RMs.cutM xs vs r b⟩
  | .rol xs, v, r, b => by
    simp only [RM] at r ⊢
    simp only [below] at b
    obtain ⟨a, vs, h1, h2, r⟩ := r
    exact ⟨a, vs, h1, h2, RMs.cutM xs vs r b⟩
  | .ref i, v, r, b => by
    simp only [RM] at r ⊢
    simp only [below, decide_eq_true_eq] at b
    obtain ⟨a, e1, e2⟩ := r
    rw [List.getElem?_append_left b] at e1
    exact ⟨a, e1, e2⟩
theorem RMs.cutM : ∀ (xs : List M) (vs : List V), RMs g (m ++ e) H xs vs → belows m.length xs = true → RMs g m H xs vs
  | [], _, r, _ => by simpa [RMs] using r
  | x :: xs, vs, r, b => by
    simp only [RMs] at r ⊢
    simp only [belows, Bool.and_eq_true] at b
    obtain ⟨v, t, h1, r1, r2⟩ := r
    exact ⟨v, t, h1, RM.cutM x v r1 b.1, RMs.cutM xs t r2 b.2⟩
end
theorem RFs.cutM : ∀ (xs : List (Str × M)) (vs : List (Str × V)), RFs g (m ++ e) H xs vs → belowF m.length xs = true → RFs g m H xs vs
  | [], _, r, _ => by simpa [RFs] using r
  | x :: xs, vs, r, b => by
    simp only [RFs] at r ⊢
    simp only [belowF, Bool.and_eq_true] at b
    obtain ⟨v, t, h1, r1, r2⟩ := r
    exact ⟨v, t, h1, RM.cutM x.2 v r1 b.1, RFs.cutM xs t r2 b.2⟩
theorem RFs.bel : ∀ (xs : List (Str × M)) (vs : List (Str × V)), RFs g m H xs vs → belowF m.length xs = true
  | [], _, _ => by simp [belowF]
  | x :: xs, vs, r => by
    simp only [RFs] at r
    obtain ⟨v, t, rfl, r1, r2⟩ := r
    simp only [belowF, Bool.and_eq_true]
    exact ⟨RM.bel x.2 v r1, RFs.bel xs t r2⟩
theorem RKs.two : ∀ (xs : List (L2.Key × M)) (vs ws : List (L2.Key × V)), RKs g (m ++ e) H' xs ws → RKs g m H xs vs → RKs g m H' xs ws
  | [], _, _, r, _ => by simpa [RKs] using r
  | x :: xs, vs, ws, r, q => by
    simp only [RKs] at r q ⊢
    obtain ⟨v, t, h1, r1, r2⟩ := r
    obtain ⟨v', t', _, q1, q2⟩ := q
    exact ⟨v, t, h1, RM.cutM x.2 v r1 (RM.bel _ _ q1), RKs.two xs t' t r2 q2⟩
/-- an object that was there -/
theorem OR.two {o : O} {a : Addr} (r : OR g (m ++ e) H' o a) (q : OR g m H o a) : OR g m H' o a := by
  cases o with
  | lst xs =>
    obtain ⟨vs, h1, r1⟩ := r
    obtain ⟨ws, _, q1⟩ := q
    exact ⟨vs, h1, RMs.cutM xs vs r1 (RMs.bel xs ws q1)⟩
  | dic kvs =>
    obtain ⟨vs, h1, r1⟩ := r
    obtain ⟨ws, _, q1⟩ := q
    exact ⟨vs, h1, RKs.two kvs ws vs r1 q1⟩
  | ins c fs =>
    obtain ⟨C, dx, vs, h1, h2, h3, h4, r1⟩ := r
    obtain ⟨C', dx', ws, _, _, _, _, q1⟩ := q
    exact ⟨C, dx, vs, h1, h2, fun z => h3 (List.mem_append_left _ z), h4, RFs.cutM fs vs r1 (RFs.bel fs ws q1)⟩
theorem RKs.cutM : ∀ (xs : List (L2.Key × M)) (vs : List (L2.Key × V)), RKs g (m ++ e) H xs vs → belowK m.length xs = true → RKs g m H xs vs
  | [], _, r, _ => by simpa [RKs] using r
  | x :: xs, vs, r, b => by
    simp only [RKs] at r ⊢
    simp only [belowK, Bool.and_eq_true] at b
    obtain ⟨v, t, h1, r1, r2⟩ := r
    exact ⟨v, t, h1, RM.cutM x.2 v r1 b.1, RKs.cutM xs t r2 b.2⟩
theorem OR.cutB {o : O} {a : Addr} (r : OR g (m ++ e) H' o a) (b : belowO m.length o = true) : OR g m H' o a := by
  cases o with
  | lst xs =>
    obtain ⟨vs, h1, r1⟩ := r
    exact ⟨vs, h1, RMs.cutM xs vs r1 b⟩
  | dic kvs =>
    obtain ⟨vs, h1, r1⟩ := r
    exact ⟨vs, h1, RKs.cutM kvs vs r1 b⟩
  | ins c fs =>
    obtain ⟨C, dx, vs, h1, h2, h3, h4, r1⟩ := r
    exact ⟨C, dx, vs, h1, h2, fun z => h3 (List.mem_append_left _ z), h4, RFs.cutM fs vs r1 b⟩
theorem Step.trim (rel : HRel g m h H) (s : Step g m H h' m' H') (ht : apartM h h') : Step g m H (h'.take h.length) m H' ∧ ∃ e, m' = m ++ e := by
  obtain ⟨e, he, hn⟩ := s.pre
  subst he
  refine ⟨⟨⟨[], by simp, fun _ z => nomatch z⟩, s.frm, s.ext, s.rol, ⟨?_, rel.inj, fun i o ho => ?_⟩⟩, e, rfl⟩
  · rw [List.length_take, rel.len]
    have := ht.1
    omega
  · have hi : i < h.length := by
      by_cases hi : i < h.length
      · exact hi
      · rw [List.getElem?_eq_none (by rw [List.length_take]; omega)] at ho; cases ho
    have ho' : h'[i]? = some o := by
      rw [List.getElem?_take_of_lt hi] at ho
      exact ho
    obtain ⟨a, e1, r⟩ := s.rel.obj i o ho'
    have hm : i < m.length := by rw [rel.len]; exact hi
    rw [List.getElem?_append_left hm] at e1
    rcases ht.2 i o hi ho' with q | q
    · obtain ⟨a', e2, q⟩ := rel.obj i o q
      rw [e2] at e1
      obtain rfl := Option.some.inj e1
      exact ⟨_, e2, r.two q⟩
    · exact ⟨a, e1, r.cutB (by rw [rel.len]; exact q)⟩
end
/-! ### a def's end -/
section
variable {g : G} {m : List Addr} {H : Hp} {h : Hm} {E : XK}
theorem end_want {Q : VK} {o : Option Fl} (rel : HRel g m h H) (w : Want g E m H (RM g) (outOf h o) Q) : WantS g (fun cls d _ H => E cls d H) m H { nx := fun _ H' => Q .non H', rt := Q } o := by
  cases o with
  | none => obtain ⟨_, e, _⟩ := w; cases e
  | some r =>
    refine ⟨r, rfl, ?_⟩
    cases r with
    | brk e h1 => obtain ⟨_, e, _⟩ := w; cases e
    | cont e h1 => obtain ⟨_, e, _⟩ := w; cases e
    | ret v h1 =>
      obtain ⟨_, e, w⟩ := w
      cases e
      intro m' H' x st r
      by_cases c : below h.length v = true ∧ apartM h h1
      · obtain ⟨s2, e, rfl⟩ := st.trim rel c.2
        have ht : trim h h1 (below h.length v) = h1.take h.length := if_pos c
        rw [ht] at w
        exact w m H' x s2 (RM.cutM v x r (by rw [rel.len]; exact c.1))
      · have ht : trim h h1 (below h.length v) = h1 := if_neg c
        rw [ht] at w
        exact w m' H' x st r
    | next e1 h1 =>
      obtain ⟨_, e, w⟩ := w
      cases e
      intro m' H' σ' st er
      by_cases c : true = true ∧ apartM h h1
      · obtain ⟨s2, e, rfl⟩ := st.trim rel c.2
        have ht : trim h h1 true = h1.take h.length := if_pos c
        rw [ht] at w
        exact w m H' .non s2 (by simp only [RM])
      · have ht : trim h h1 true = h1 := if_neg c
        rw [ht] at w
        exact w m' H' .non st (by simp only [RM])
    | exc c fs e1 h1 =>
      obtain ⟨_, e, w⟩ := w
      cases e
      intro m' H' σ' cls d st er rx
      by_cases c : belowF h.length fs = true ∧ apartM h h1
      · obtain ⟨s2, e, rfl⟩ := st.trim rel c.2
        have ht : trim h h1 (belowF h.length fs) = h1.take h.length := if_pos c
        rw [ht] at w
        obtain ⟨C, r1, r2, r3⟩ := rx
        refine w m H' cls d s2 ⟨C, r1, r2, ?_⟩
        rcases r3 with r3 | ⟨dd, ws, q1, q2, q3, q4⟩
        · exact .inl r3
        · exact .inr ⟨dd, ws, q1, fun z => q2 (List.mem_append_left _ z), q3, RFs.cutM fs ws q4 (by rw [rel.len]; exact c.1)⟩
      · have ht : trim h h1 (belowF h.length fs) = h1 := if_neg c
        rw [ht] at w
        exact w m' H' cls d st rx
theorem er_start {N : List Str} {xs : List M} {vs : List V} (hx : g.xi = none) (r : RMs g m H xs vs) (hl : xs.length ≤ N.length) : ER g m H (xs.map some ++ List.replicate (N.length - xs.length) none) (start N vs) := by
  have hlen := r.length
  unfold L2.start
  refine ⟨by simp; omega, fun i v e => ?_, fun i c fs a cls d z => by rw [hx] at z; cases z⟩
  have hi : i < xs.length := by
    by_cases hi : i < xs.length
    · exact hi
    · rw [List.getElem?_append_right (by simpa using hi), List.getElem?_replicate] at e
      split at e <;> cases e
  rw [List.getElem?_append_left (by simpa using hi), List.getElem?_map] at e
  have : xs[i]? = some v := by
    cases q : xs[i]? with
    | none => rw [q] at e; cases e
    | some y => rw [q] at e; cases e; rfl
  obtain ⟨x, e1, e2⟩ := r.get this
  exact ⟨x, by rw [List.getElem?_append_left (by simp; omega), List.getElem?_map, e1]; rfl, e2⟩
end
/-! ### the module -/
/-- what a call binds: the values written, those of the keywords ks, the defaults -/
structure BindP (K : PySem.W.Frag) (fd : FuncData) (ps ks : List Str) (F : Fn) : Prop where
  ex : ∃ (ds : List Value) (dsV : List V), Vals dsV ds ∧ (∀ g m H, RMs g m H F.dfl dsV) ∧ ∀ (s : Shared) (us ws : List Value), K.In s.heap → ws.length = ks.length → us.length + ws.length + F.ko ≤ F.np → F.np ≤ us.length + ws.length + F.dfl.length →
    BindsTo s fd ⟨us, ks.zip ws⟩ (ps.zip (us ++ ws ++ ds.drop (us.length + ws.length + F.dfl.length - F.np)))
/-- what stands at a def's address -/
structure DefA (K : PySem.W.Frag) (a : Addr) (ks : List Str) (F : Fn) : Prop where
  ex : ∃ (nm : Str) (fd : FuncData) (qual : Str) (params : Arguments) (body : List Stmt) (scope : Scope) (dvs : List V) (kws : List (Str × V)) (N ps : List Str) (n : Nat), FunD K nm qual params body scope dvs kws a fd ∧ FnScope N ps scope ∧ BindP K fd ps ks F ∧
    trSs N scope true n body = some F.body ∧ F.np = ps.length ∧ F.ns = N.length
theorem DefA.kp {K : PySem.W.Frag} {a : Addr} {ks : List Str} {F : Fn} (T : DefA K a ks F) : PySem.W.keepIn K (.ref a) = true := by
  obtain ⟨nm, fd, qual, params, body, scope, dvs, kws, N, ps, n, FD, _⟩ := T.ex
  exact FD.kp
structure DefF (K : PySem.W.Frag) (mg : Str → Option Value) (f : Str) (ks : List Str) (F : Fn) : Prop where
  ex : ∃ a, mg f = some (.ref a) ∧ DefA K a ks F
/-- a def of plain parameters -/
theorem bindP_plain {K : PySem.W.Frag} {f qual : Str} {params : Arguments} {body : List Stmt} {scope : Scope} {kws : List (Str × V)} {a : Addr} {fd : FuncData} {ps : List Str} {F : Fn} (FD : FunD K f qual params body scope [] kws a fd) (pl : PlainA params ps) (nd : ps.Nodup) (hn : F.np = ps.length) (hd : F.dfl = []) : BindP K fd ps [] F := by
  obtain ⟨oc, od, dV, kV, doc, pm, an, cdv, ct, osl, rfl, lk, hcd, hD, _⟩ := FD.ex
  obtain rfl : dV = .none := by
    rcases hD with ⟨_, z⟩ | ⟨z, _⟩
    · exact z
    · exact absurd rfl z
  refine ⟨[], [], .nil, fun g m H => by rw [hd]; simp [RMs], fun s us ws X l1 l2 l3 => ?_⟩
  obtain rfl : ws = [] := List.eq_nil_of_length_eq_zero l1
  rw [hd] at l3
  simp at l2 l3 ⊢
  exact .of_eq (bind_plain pl nd us (by omega))
structure Mdl (prog : Program) (w : World) (K : PySem.W.Frag) (mg : Str → Option Value) (base : Heap) (P : Pg) : Prop where
  exv : P.exv = none
  sys : ∃ o, base.get? sysModules = some o
  con : ∀ x v, P.con x = some v → ∃ u y, mg x = some u ∧ RelV y u ∧ ∀ m H, RM ⟨K, mg, w, none⟩ m H v y
  free : ∀ x ∈ (["abs", "int", "repr", "str", "min", "max", "len", "isinstance", "list", "all", "range", "bool", "tuple", "dict", "zip", "enumerate", "sorted", "set", "sum", "any"] : List Str), mg x = none
  err : ∀ c fs, P.err c = some fs → ∃ D, ErC prog w K mg base c fs D
  sub : ∀ c x b, P.sub c x = some b → ∃ D v, SubC K mg c x b D v
  fns : ∀ f, P.fns f = true → ∃ F, P.df f = some F ∧ DefF K mg f [] F
  kws : ∀ q f ks, P.kw q = some (f, ks) → ∃ F, P.df q = some F ∧ DefF K mg f ks F
  fld : ∀ c f, P.fld c f = true → ∃ D, mg c = some (.ref D) ∧ Cls K D ∧ NoAttr K D f
  isc : ∀ d c b, P.isc d c = some b → ∃ D E, IscC K mg d c b D E
  mth : ∀ c f ks q, P.mth c f ks = some q → ∃ F D a, P.df q = some F ∧ mg c = some (.ref D) ∧ Cls K D ∧ Meth K D f a ∧ DefA K a ks F
  mak : ∀ c q, P.mak c = some q → ∃ F D a, P.df q = some F ∧ mg c = some (.ref D) ∧ Mk K D a ∧ DefA K a [] F
section
variable {prog : Program} {w : World} {K : PySem.W.Frag} {mg : Str → Option Value} {base : Heap} {P : Pg}
/-- one def: what its body does is what a call of it does -/
theorem call_oka {d : Nat} {a : Addr} {q : Str} {ks : List Str} {F : Fn} (Md : Mdl prog w K mg base P) (ih : FnsOk prog w ⟨K, mg, w, none⟩ base P.toTx (callF P d) (2 * d + 3)) (hF : P.df q = some F) (T : DefA K a ks F) : RunOk prog w ⟨K, mg, w, none⟩ base (callF P (d + 1)) (2 * (d + 1) + 3) a q ks := by
  obtain ⟨nm, fd, qual, params, body, scope, dvs, kws, N, ps, n, FD, S, bp, tr, e2, e3⟩ := T.ex
  intro A outer s H m h xs0 ys0 vs0 zs0 us0 ws0 Q E hr hgu e0 rel r1 rv1 r2 rv2 hlk wn
  obtain ⟨oc, od, dV, kV, doc, pm, an, cdv, ct, osl, rfl, lk, hcd, hD, _⟩ := FD.ex
  obtain ⟨ds, dsV, rd, rdM, bnd⟩ := bp.ex
  simp only [callF, hF] at wn
  by_cases hl : (xs0 ++ ys0).length + F.ko ≤ F.np ∧ F.np ≤ (xs0 ++ ys0).length + F.dfl.length ∧ F.np ≤ F.ns
  case neg => rw [if_neg hl] at wn; exact no_want wn
  rw [if_pos hl] at wn
  have lu : us0.length = xs0.length := by rw [← rv1.length, ← r1.length]
  have lw : ws0.length = ys0.length := by rw [← rv2.length, ← r2.length]
  have lxy : (xs0 ++ ys0).length = us0.length + ws0.length := by rw [List.length_append, lu, lw]
  have hb := fun X => bnd s us0 ws0 X (lw.trans hlk) (by omega) (by omega)
  have rr : RMs ⟨K, mg, w, none⟩ m H (xs0 ++ ys0 ++ F.dfl.drop ((xs0 ++ ys0).length + F.dfl.length - F.np)) (vs0 ++ zs0 ++ dsV.drop (us0.length + ws0.length + F.dfl.length - F.np)) := by
    rw [lxy]
    exact (r1.append r2).append ((rdM _ m H).drop _)
  have rv' : Vals (vs0 ++ zs0 ++ dsV.drop (us0.length + ws0.length + F.dfl.length - F.np)) (us0 ++ ws0 ++ ds.drop (us0.length + ws0.length + F.dfl.length - F.np)) := (rv1.append rv2).append (rd.drop _)
  have hlx' : (xs0 ++ ys0 ++ F.dfl.drop ((xs0 ++ ys0).length + F.dfl.length - F.np)).length = ps.length := by rw [List.length_append, List.length_drop]; omega
  generalize xs0 ++ ys0 ++ F.dfl.drop ((xs0 ++ ys0).length + F.dfl.length - F.np) = xs at wn rr hlx'
  generalize vs0 ++ zs0 ++ dsV.drop (us0.length + ws0.length + F.dfl.length - F.np) = vs at rr rv'
  generalize us0 ++ ws0 ++ ds.drop (us0.length + ws0.length + F.dfl.length - F.np) = us at hb rv'
  have r := rr
  have rv := rv'
  have hlx := hlx'
  rw [e2, e3, ← hlx] at wn
  have hlv : vs.length = ps.length := by rw [← r.length]; exact hlx
  have hlu : us.length = ps.length := by rw [← rv.length]; exact hlv
  have ndP : ps.Nodup := by rw [← S.pre]; exact S.nd.sublist (List.take_sublist _ _)
  have hpN : ps.length ≤ N.length := by have := congrArg List.length S.pre; rw [List.length_take] at this; omega
  have KX : K.In s.heap := e0.mod.kin.keeps fun b o e => (e0.bs b o e).1
  have lim : s.heap.NoLimit := e0.mod.nolimit.keeps fun b o e => (e0.bs b o e).1
  have hkind : ∀ y ∈ ps.zip us, scope.names.lookup y.1 = some .local ∨ (scope.names.lookup y.1 = some .cell ∧ ((cellsFrom (s.heap.objs.size + 1) scope.names []).lookup y.1).isSome = true) := fun y hy => by
    rcases S.par y.1 (List.of_mem_zip hy).1 with q | q
    · exact .inl q
    · exact .inr ⟨q, PySem.W.cellsFrom_some _ _ _ (.inl q)⟩
  refine codeAny_call_function hr.depth (KX _ _ lk) rfl S.co S.gen rfl (PySem.W.codeRec_of KX hcd) ?_
  refine hb KX _ _ _ _ (wpAny_newFunctionEnv_cells S.kind hkind fun env he s1 x => ?_)
  subst he
  refine ⟨lim.keeps x.toInCall.keep, codeAny_func ?_⟩
  have I : Inv (cxOf (CX prog w) prog w K mg base N qual scope a cdv A outer s H E) [] (start N vs) H s1 := inv_start S hr.hd e0 hlv rv x
  have ok : Okb (cxOf (CX prog w) prog w K mg base N qual scope a cdv A outer s H E) ⟨K, mg, w, none⟩ (fun cls d _ H => E cls d H) P.toTx (callF P d) N scope true := {
    o := { K := rfl, mg := rfl, w := rfl, N := rfl, nd := S.nd, sc := rfl, calm := fun _ => rfl
           units := by have := hr.un; show A.units + 3 + 250 < cLine; omega
           guards := hgu
           con := Md.con
           free := Md.free
           sys := Md.sys
           tk := takes_of rfl rfl rfl rfl
           tkf := fun _ => TakesF.of (takes_of rfl rfl rfl rfl) rfl rfl
           xi := fun _ => ⟨rfl, Md.exv⟩
           fns := fun _ => ⟨2 * d + 3, ih, (Room.mono hr (show 2 * d + 5 ≤ 2 * (d + 1) + 3 by omega)).deeper _⟩
           room := fun _ => ((Room.mono hr (show 2 * d + 5 ≤ 2 * (d + 1) + 3 by omega)).deeper _).mono (by omega)
           err := Md.err
           sub := Md.sub
           fld := Md.fld
           isc := Md.isc
           ex := fun i c fs e => by rw [Md.exv] at e; cases e }
    own := fun _ => passes_of rfl
    fn := fun _ => rfl
    bk := by show (if scope.kind.isAnnotationScope then ScopeKind.function else scope.kind) = _; rw [S.kind]; rfl
    stk := rfl
    fr := rfl }
  have run := ((ind_s n).ss ok tr).run [] s1 (start N vs) H _ I ⟨m, _, h, ⟨er_start rfl r (by omega), rel⟩, end_want rel wn⟩
  refine wpAny_mono run (fun fl s' hs => ?_) fun e s' hs => hs
  cases fl with
  | ret u => obtain ⟨v, σ', H', J, rv, q⟩ := hs; exact ⟨v, H', J.os, J.bare, J.base, J.hok, rv, q⟩
  | next => obtain ⟨σ', H', J, q⟩ := hs; exact ⟨V.non, H', J.os, J.bare, J.base, J.hok, rfl, q⟩
  | brk => obtain ⟨_, _, _, q⟩ := hs; exact False.elim q
  | cont => obtain ⟨_, _, _, q⟩ := hs; exact False.elim q
theorem call_okk {d : Nat} {q f : Str} {ks : List Str} {F : Fn} (Md : Mdl prog w K mg base P) (ih : FnsOk prog w ⟨K, mg, w, none⟩ base P.toTx (callF P d) (2 * d + 3)) (hF : P.df q = some F) (T : DefF K mg f ks F) : ∃ a, mg f = some (.ref a) ∧ PySem.W.keepIn K (.ref a) = true ∧ RunOk prog w ⟨K, mg, w, none⟩ base (callF P (d + 1)) (2 * (d + 1) + 3) a q ks := by
  obtain ⟨a, e1, T⟩ := T.ex
  exact ⟨a, e1, T.kp, call_oka Md ih hF T⟩
theorem call_ok {d : Nat} {f : Str} {F : Fn} (Md : Mdl prog w K mg base P) (ih : FnsOk prog w ⟨K, mg, w, none⟩ base P.toTx (callF P d) (2 * d + 3)) (hF : P.df f = some F) (T : DefF K mg f [] F) : ∃ a, mg f = some (.ref a) ∧ PySem.W.keepIn K (.ref a) = true ∧
    ∀ (A : Around) (outer : List Env) (s : Shared) (H : Hp) (m : List Addr) (h : Hm) (xs : List M) (vs : List V) (us : List Value) (Q : VK) (E : XK), Room (2 * (d + 1) + 3) A → A.guards = some [] → Env0 prog w K mg base A outer s H → HRel ⟨K, mg, w, none⟩ m h H → RMs ⟨K, mg, w, none⟩ m H xs vs → Vals vs us →
      Want ⟨K, mg, w, none⟩ E m H (RM ⟨K, mg, w, none⟩) (callF P (d + 1) f xs h) Q → codeAny (model prog w) A (.call (.ref a) ⟨us, []⟩) (CR (CX prog w) outer prog w H s Q E) s := by
  obtain ⟨a, e1, e2, go⟩ := call_okk Md ih hF T
  exact ⟨a, e1, e2, fun A outer s H m h xs vs us Q E hr hgu e0 rel r rv wn => go A outer s H m h xs [] vs [] us [] Q E hr hgu e0 rel r rv (by simp [RMs]) .nil rfl (by rw [List.append_nil]; exact wn)⟩
theorem run0 {a : Addr} {n : Nat} {q : Str} {ks : List Str} : RunOk prog w ⟨K, mg, w, none⟩ base (callF P 0) n a q ks := fun A outer s H m h xs ys vs zs us ws Q E _ _ _ _ _ _ _ _ _ wn => by obtain ⟨_, e, _⟩ := wn; cases e
theorem fns_ok (Md : Mdl prog w K mg base P) : ∀ d, FnsOk prog w ⟨K, mg, w, none⟩ base P.toTx (callF P d) (2 * d + 3)
  | 0 => ⟨fun f hf => by
    obtain ⟨F, e1, T⟩ := Md.fns f hf
    obtain ⟨a, e2, T⟩ := T.ex
    exact ⟨a, e2, T.kp, fun A outer s H m h xs vs us Q E _ _ _ _ _ _ wn => by obtain ⟨_, e, _⟩ := wn; cases e⟩, fun q f ks hf => by
    obtain ⟨F, e1, T⟩ := Md.kws q f ks hf
    obtain ⟨a, e2, T⟩ := T.ex
    exact ⟨a, e2, T.kp, run0⟩, fun c f ks q hf => by
    obtain ⟨F, D, a, e1, e2, e3, e4, T⟩ := Md.mth c f ks q hf
    exact ⟨D, a, e2, e3, e4, run0⟩, fun c q hf => by
    obtain ⟨F, D, a, e1, e2, e3, T⟩ := Md.mak c q hf
    exact ⟨D, a, e2, e3, run0⟩⟩
  | d + 1 => ⟨fun f hf => by
    obtain ⟨F, e1, T⟩ := Md.fns f hf
    exact call_ok Md (fns_ok Md d) e1 T, fun q f ks hf => by
    obtain ⟨F, e1, T⟩ := Md.kws q f ks hf
    exact call_okk Md (fns_ok Md d) e1 T, fun c f ks q hf => by
    obtain ⟨F, D, a, e1, e2, e3, e4, T⟩ := Md.mth c f ks q hf
    exact ⟨D, a, e2, e3, e4, call_oka Md (fns_ok Md d) e1 T⟩, fun c q hf => by
    obtain ⟨F, D, a, e1, e2, e3, T⟩ := Md.mak c q hf
    exact ⟨D, a, e2, e3, call_oka Md (fns_ok Md d) e1 T⟩⟩
end
end MP
namespace MP
open PySem L2 PySem.Spec
open PyProof.Rows hiding St
/-! ### the law's own call -/
theorem rms_ints {g : G} {m : List Addr} {H : Hp} : ∀ ns : List Int, RMs g m H (ns.map M.int) (ns.map V.int)
  | [] => by simp [RMs]
  | n :: ns => by
    simp only [List.map_cons, RMs, RM]
    exact ⟨_, _, rfl, rfl, rms_ints ns⟩
section
variable {prog : Program} {w : World} {K : PySem.W.Frag} {mg mb : Str → Option Value} {P : Pg} {d : Nat} {f : Str} {F : Fn} {fa a : Addr} {s : Shared} {vs : List Value} {ns : List Int}
/-- what is known of the heap behind the top, and of the script in it -/
structure Place (K : PySem.W.Frag) (mg mb : Str → Option Value) (s : Shared) (a : Addr) (vs : List Value) (ns : List Int) : Prop where
  kin : K.In s.heap
  nsm : s.heap.Ns mainGlobals mg
  bl : s.heap.Ns builtinsNs mb
  blt : ∀ x : Str, x ≠ "__name__" → mb x = bootBuiltins x
  lim : s.heap.NoLimit
  gen : s.gens = #[]
  sys : ∃ (o : Obj) (es : Array DictEntry) (n : Nat), s.heap.get? sysModules = some o ∧ o.data = .dict es n
  at_ : s.heap.get? a = some { cls := .type "list", data := .seq vs.toArray }
  its : IntsAre vs ns
  len : ns.length ≤ sizeLine
theorem law_by {H : Hp} (pl : Place K mg mb s a vs ns) (hr : Room (2 * (d + 1) + 3) callerA) (hf : mg f = some (.ref fa)) (Md : ∀ base : Heap, K.In base → base.Ns mainGlobals mg → (∃ o, base.get? sysModules = some o) → Mdl prog w K mg base P) (hF : P.df f = some F) (T : DefF K mg f [] F)
    {h' : Hm} (run : callF P (d + 1) f [.rol (ns.map M.int)] [] = some (.ok (.bl true) h')) (hO : Only H) (hS : RoL K H a (ns.map V.int)) (hok : HOk prog w H s.heap) (hA : ∀ b, H b ≠ none → b = a) (hK : H a ≠ none → K.lookup a = none) :
    codeAny (model prog w) callerA (.call (.ref fa) ⟨[.ref a], []⟩) (fun r s' => r = .ok (.ret (.bool true)) ∧ OldK s.heap s'.heap ∧ s'.os = s.os ∧ AllBare s'.gens) s := by
  have out : ∀ {b : Addr} {o : Obj} {es : Array DictEntry} {ep : Nat}, s.heap.get? b = some o → o.data = .dict es ep → H b = none := fun {b o es ep} e dd => by
    cases q : H b with
    | none => rfl
    | some u =>
      obtain rfl := hA b (by rw [q]; simp)
      rw [pl.at_] at e
      cases e
      cases (show Data.seq vs.toArray _ = Data.dict es ep from dd)
  have nsK : ∀ {b : Addr} {m : Str → Option Value}, s.heap.Ns b m → (hidT s.heap H).Ns b m := fun {b m} ⟨o, es, ep, e, dd, r⟩ => ⟨o, es, ep, hidT_get e (out e dd), dd, r⟩
  have hKb : K.In (hidT s.heap H) := fun b o e => hidT_get (pl.kin b o e) (by
    cases q : H b with
    | none => rfl
    | some u =>
      obtain rfl := hA b (by rw [q]; simp)
      rw [hK (by rw [q]; simp)] at e
      cases e)
  have hM : Mod K mg (hidT s.heap H) := ⟨hKb, nsK pl.nsm, ⟨mb, nsK pl.bl, pl.blt⟩, let ⟨mc, h1, h2⟩ := pl.lim; ⟨mc, nsK h1, h2⟩⟩
  have e0 : Env0 prog w K mg (hidT s.heap H) callerA [] s H := ⟨rfl, hM, fun b o e => of_hidT e, Nat.le_of_eq (hidT_size _ _), trivial, fun b hb => absurd (show b ∈ ([] : List Addr) from hb) (by simp), hok, .of_eq pl.gen⟩
  have Mb := Md _ hKb (nsK pl.nsm) (let ⟨o, es, n, e, dd⟩ := pl.sys; ⟨o, hidT_get e (out e dd)⟩)
  obtain ⟨fa', e1, _, go⟩ := call_ok (d := d) Mb (fns_ok Mb d) hF T
  obtain rfl : fa = fa' := by rw [hf] at e1; cases e1; rfl
  have rel : HRel ⟨K, mg, w, none⟩ [] [] H := ⟨rfl, fun i j a e => by simp at e, fun i o e => by simp at e⟩
  have rm : RMs ⟨K, mg, w, none⟩ [] H [.rol (ns.map M.int)] [.ref a] := by
    simp only [RMs, RM]
    exact ⟨_, _, rfl, ⟨a, _, rfl, hS, rms_ints ns⟩, rfl⟩
  refine codeAny_mono (go callerA [] s H [] [] [.rol (ns.map M.int)] [.ref a] [.ref a] (fun v _ => v = .bl true) (fun _ _ _ => False) hr rfl e0 rel rm (.cons rfl .nil) ?_) fun r s' hh => ?_
  · rw [run]
    exact ⟨_, rfl, fun m' H' b st r => by simpa [RM] using r⟩
  · cases r with
    | error e => obtain ⟨_, _, _, _, _, _, _, _, _, _, _, _, z⟩ := hh; exact z.elim
    | ok fl =>
      cases fl with
      | next => exact False.elim hh
      | brk => exact False.elim hh
      | cont => exact False.elim hh
      | ret u =>
        obtain ⟨v, H', os, bare, un, hok', r', q⟩ := hh
        obtain rfl : v = .bl true := q
        obtain rfl : u = Value.bool true := r'
        refine ⟨rfl, OldK.of_keep fun b o e => ?_, os, bare⟩
        cases q : H b with
        | none => exact un.keep b o e q (by intro z; exact absurd (show b ∈ ([] : List Addr) from z) (by simp)) (by simp)
        | some u =>
          rcases hO b with z | ⟨ob, xs, z⟩
          · rw [q] at z; cases z
          · obtain ⟨e1, _⟩ := hok b _ z
            obtain ⟨e2, _⟩ := hok' b _ (un.frzs b ob _ z)
            rw [e] at e1
            cases e1
            exact e2
end
end MP
namespace MP
open PySem L2 PySem.Spec He
open PyProof.Rows hiding St
/-! ### what the Hook tells of classes of errors -/
def oexB (K : PySem.W.Frag) (C : Addr) : Bool := (match K.lookup C with
  | some ⟨.type t, _, .cls cd, sl⟩ => (match cd.mro, sl.toList with
    | .ref C' :: bm, [_, _, _, _, some (.builtin n), _] => C' == C && n == "ValueError.__new__" && !cd.hasDel && cd.hasDict && t == "type" && PySem.HandSPX.refsVE bm
    | _, _ => false)
  | _ => false) && eqO (PySem.W.findIn K (.ref C) "__setattr__") (some (some (.builtin "object.__setattr__")))
theorem oexB_ok {K : PySem.W.Frag} {C : Addr} (h : oexB K C = true) (h1 : PySem.W.subIn K (.ref C) (.type "BaseException") = some true) (h2 : PySem.W.typeIn K (.ref C) = some (.type "type")) (h3 : PySem.W.keepIn K (.ref C) = true) : OexC K C := by
  obtain ⟨q, h4⟩ := ba h
  refine ⟨?_, eqO_ok h4, h1, h2, h3⟩
  split at q
  · rename_i t dd cd sl ho
    split at q
    · rename_i C' bm k0 k1 k2 k3 n k5 hm hs
      simp only [Bool.and_eq_true, beq_iff_eq, Bool.not_eq_true'] at q
      obtain ⟨⟨⟨⟨⟨rfl, rfl⟩, hdel⟩, hdc⟩, rfl⟩, ht⟩ := q
      obtain ⟨nm, bs, mro, ns, qn, hd, sn, sub, ab, col, del⟩ := cd
      dsimp only at hm hdel hdc
      subst hm hdel hdc
      have hsl : sl = #[k0, k1, k2, k3, some (.builtin "ValueError.__new__"), k5] := by
        obtain ⟨l⟩ := sl
        simp only at hs
        rw [hs]
      subst hsl
      exact ⟨nm, qn, ns, bs, bm, sn, sub, ab, col, dd, k0, k1, k2, k3, k5, ho, ht⟩
    · cases q
  · cases q
/-- a class of errors of the text: without own __init__; with one that keeps its fields -/
inductive ErrD where
  | plain (c : Str) (B newId initId : String) (bmB : List Value)
  | own (c self : Str) (fs : List Str) (d : DefD)
def ErrD.name : ErrD → Str
  | .plain c _ _ _ _ => c
  | .own c _ _ _ => c
def ErrD.flds : ErrD → List Str
  | .plain _ _ _ _ _ => []
  | .own _ _ fs _ => fs
def erB (K : PySem.W.Frag) (C : Addr) : Bool := PySem.W.keepIn K (.ref C) && (xfB K C && decide (PySem.W.typeIn K (.ref C) = some (.type "type")))
def ErrD.ok (K : PySem.W.Frag) : ErrD → Bool
  | .plain c _ nI _ bmB => erB K (ga K c) && PySem.W.excIn K (ga K c) bmB nI
  | .own c _ fs d => erB K (ga K c) && (oexB K (ga K c) && ((fs.all fun f => eqO (PySem.W.findIn K (.ref (ga K c)) f) (some none)) && (eqO (PySem.W.findIn K (.ref (ga K c)) "__init__") (some (some (.ref (fAd K d.at_)))) && decide (PySem.W.typeIn K (.ref (fAd K d.at_)) = some (.type "function")))))
/-- the stores of an own __init__ -/
def initBody (self : Str) : List Str → List Stmt → Bool
  | [], [] => true
  | f :: fs, .Assign [.Attribute (.Name x _) a _] (.Name y _) _ :: ss => decide (x = self) && (decide (a = f) && (decide (y = f) && initBody self fs ss))
  | _, _ => false
def fnScB (N ps : List Str) (sc : Scope) : Bool := (match sc.kind with
  | .function => true
  | _ => false) && (!sc.isCoroutine && (!sc.isGenerator && (decide N.Nodup && (decide (N.take ps.length = ps) && ((ps.all fun x => isLoc (sc.names.lookup x)) && sc.names.all fun y => (match y.2 with
  | .free => false
  | _ => true))))))
theorem fnScB_ok {N ps : List Str} {sc : Scope} (h : fnScB N ps sc = true) : FnScope N ps sc := by
  unfold fnScB at h
  obtain ⟨h1, h⟩ := ba h
  obtain ⟨h2, h⟩ := ba h
  obtain ⟨h3, h⟩ := ba h
  obtain ⟨h4, h⟩ := ba h
  obtain ⟨h5, h⟩ := ba h
  obtain ⟨h6, h7⟩ := ba h
  refine ⟨?_, by simpa using h2, by simpa using h3, of_decide_eq_true h4, of_decide_eq_true h5, fun x hx => isLoc_ok (List.all_eq_true.mp h6 x hx), fun y hy z => ?_⟩
  · split at h1
    · assumption
    · cases h1
  · have := List.all_eq_true.mp h7 y hy
    rw [z] at this
    cases this
def plainB (p : Arguments) (ps : List Str) : Bool := p.posonlyargs.isEmpty && (decide (p.args.map (·.arg) = ps) && (p.vararg.isNone && (p.kwonlyargs.isEmpty && p.kwarg.isNone)))
theorem plainB_ok {p : Arguments} {ps : List Str} (h : plainB p ps = true) : PlainA p ps := by
  unfold plainB at h
  obtain ⟨h1, h⟩ := ba h
  obtain ⟨h2, h⟩ := ba h
  obtain ⟨h3, h⟩ := ba h
  obtain ⟨h4, h5⟩ := ba h
  exact ⟨List.isEmpty_iff.mp h1, of_decide_eq_true h2, Option.isNone_iff_eq_none.mp h3, List.isEmpty_iff.mp h4, Option.isNone_iff_eq_none.mp h5⟩
/-- the text of an own __init__ -/
def initB (self : Str) (fs : List Str) (d : DefD) : Bool := fnScB (self :: fs) (self :: fs) d.scope && (plainB d.params (self :: fs) && (initBody self fs d.body && (d.dfl.isEmpty && (d.kwd.isEmpty && (decide (fs.length = 1) && ((self :: fs).all fun x => !(x == ("__debug__" : Str)) && !(x == ("__classdict__" : Str))))))))
section
variable {prog : Program} {w : World} {K : PySem.W.Frag} {mg : Str → Option Value} {base : Heap}
theorem FunD.plainB {x qual : Str} {params : Arguments} {body : List Stmt} {scope : Scope} {kws : List (Str × V)} {f : Addr} {fd : FuncData} {ps : List Str} (F : FunD K x qual params body scope [] kws f fd) (pl : PlainA params ps) (nd : ps.Nodup) : Binds K fd ps [] :=
  F.bindsN fun kV doc pm an cdv ct us hl => bind_plain pl nd us hl
theorem visL {sc : Scope} {x : Str} (h : sc.names.lookup x = some .local ∨ sc.names.lookup x = some .cell) : Vis sc x := h.elim .inl fun z => .inr (.inl z)
theorem init_one {qual sf f : Str} {params : Arguments} {scope : Scope} {fI C : Addr} {fd : FuncData} {p1 p2 p3 p4 : Pos} (O : OexC K C) (no : PySem.W.findIn K (.ref C) f = some none) (S : FnScope [sf, f] [sf, f] scope) (n1 : (sf == ("__debug__" : Str)) = false) (n2 : (sf == ("__classdict__" : Str)) = false) (n3 : (f == ("__debug__" : Str)) = false) (n4 : (f == ("__classdict__" : Str)) = false)
    (F : FunD K "__init__" qual params [.Assign [.Attribute (.Name sf p1) f p2] (.Name f p3) p4] scope [] [] fI fd) : FnOk prog w K mg base (CX prog w) 1 fI fd [sf, f] (initSp C [f]) := by
  refine F.ok S (fun vs H Q E h => ?_) fun cdv A outer s H vs Q E hr h => ?_
  · obtain ⟨a, ys, rfl, hl, _⟩ := h
    simp [hl]
  · obtain ⟨a, ys, rfl, hl, ha, hq⟩ := h
    obtain ⟨y, rfl⟩ : ∃ y, ys = [y] := by
      cases ys with
      | nil => simp at hl
      | cons y ys =>
        cases ys with
        | nil => exact ⟨y, rfl⟩
        | cons _ _ => simp at hl
    refine ⟨_, pss_one (ps_ost (pe_var (i := 0) rfl (visL (S.par sf (by simp))) n1 n2) (pe_var (i := 1) rfl (visL (S.par f (by simp))) n3 n4)), ?_⟩
    exact ⟨y, rfl, .ref a, rfl, a, C, rfl, O, no, .inl ⟨ha, fun dx h1 h2 => hq dx h1 h2⟩⟩
theorem initBody_nil {self : Str} {body : List Stmt} (h : initBody self [] body = true) : body = [] := by
  cases body with
  | nil => rfl
  | cons _ _ => simp [initBody] at h
theorem initBody_one {self f : Str} {body : List Stmt} (h : initBody self [f] body = true) : ∃ p1 p2 p3 p4, body = [.Assign [.Attribute (.Name self p1) f p2] (.Name f p3) p4] := by
  unfold initBody at h
  split at h
  · rename_i z; cases z
  · rename_i z
    obtain ⟨j1, h⟩ := ba h
    obtain ⟨j2, h⟩ := ba h
    obtain ⟨j3, j4⟩ := ba h
    cases z
    rw [of_decide_eq_true j1, of_decide_eq_true j2, of_decide_eq_true j3, initBody_nil j4]
    exact ⟨_, _, _, _, rfl⟩
  · cases h
theorem err_ok {h : Heap} {e : ErrD} (X : K.In h) (G : h.Ns mainGlobals mg) (hg : (Fa.glo e.name).ok K = true) (ho : e.ok K = true)
    (hm : match e with
      | .plain _ B nI iI bmB => ExcBaseFacts B nI iI bmB
      | .own c self fs d => initB self fs d = true ∧ d.name = ("__init__" : Str) ∧ ∃ fd, FunD K d.name d.qual d.params d.body d.scope (d.dvs K) (d.kws K) (fAd K d.at_) fd) : ErC prog w K mg base e.name e.flds (ga K e.name) := by
  cases e with
  | plain c B nI iI bmB =>
    obtain ⟨h1, h2⟩ := ba ho
    obtain ⟨h3, h4⟩ := ba h1
    obtain ⟨h5, h6⟩ := ba h4
    exact ⟨glo_ok X G hg, h3, xfB_ok h5, of_decide_eq_true h6, fun f hf => (by cases hf), .inl ⟨rfl, B, nI, iI, bmB, hm, h2⟩⟩
  | own c self fs d =>
    obtain ⟨h1, h2⟩ := ba ho
    obtain ⟨h3, h4⟩ := ba h1
    obtain ⟨h5, h6⟩ := ba h4
    obtain ⟨h7, h8⟩ := ba h2
    obtain ⟨h9, h10⟩ := ba h8
    obtain ⟨h11, h12⟩ := ba h10
    obtain ⟨hi, hn, fd, FD⟩ := hm
    have ty := of_decide_eq_true h6
    have xf := xfB_ok h5
    have O := oexB_ok h7 xf.exC ty h3
    have no : ∀ f ∈ fs, PySem.W.findIn K (.ref (ga K c)) f = some none := fun f hf => eqO_ok (List.all_eq_true.mp h9 f hf)
    unfold initB at hi
    obtain ⟨i1, hi⟩ := ba hi
    obtain ⟨i2, hi⟩ := ba hi
    obtain ⟨i3, hi⟩ := ba hi
    obtain ⟨i4, hi⟩ := ba hi
    obtain ⟨i5, hi⟩ := ba hi
    obtain ⟨i6, i7⟩ := ba hi
    have S := fnScB_ok i1
    have pl := plainB_ok i2
    obtain ⟨at_, nm, qual, params, body, scope, dfl, kwd⟩ := d
    dsimp only at hn S pl i3 i4 i5 FD h11 h12
    subst hn
    obtain rfl := List.isEmpty_iff.mp i4
    obtain rfl := List.isEmpty_iff.mp i5
    have FD' : FunD K "__init__" qual params body scope [] [] (fAd K at_) fd := FD
    have nd : (self :: fs).Nodup := S.nd
    refine ⟨glo_ok X G hg, h3, xf, ty, no, .inr ⟨fun z => ?_, ?_, O, fAd K at_, fd, self :: fs, eqO_ok h11, of_decide_eq_true h12, FunD.plainB FD' pl nd, ?_⟩⟩
    · have z' : fs = [] := z
      subst z'
      simp at i6
    · have := of_decide_eq_true i6
      show fs.length ≤ 1000
      omega
    · obtain ⟨f, rfl⟩ : ∃ f, fs = [f] := by
        have := of_decide_eq_true i6
        cases fs with
        | nil => simp at this
        | cons f fs =>
          cases fs with
          | nil => exact ⟨f, rfl⟩
          | cons _ _ => simp at this
      simp only [List.all_cons, List.all_nil, Bool.and_true, Bool.and_eq_true, Bool.not_eq_true'] at i7
      obtain ⟨⟨n1, n2⟩, n3, n4⟩ := i7
      have body_eq := initBody_one i3
      obtain ⟨p1, p2, p3, p4, rfl⟩ := body_eq
      exact init_one O (no f (by simp)) S n1 n2 n3 n4 FD'
/-! ### what stands under what -/
structure SubD where
  c : Str
  x : Str
  t : Option String
  b : Bool
def SubD.v (K : PySem.W.Frag) (d : SubD) : Value := match d.t with
  | some T => .type T
  | none => .ref (ga K d.x)
def excB (K : PySem.W.Frag) (D : Addr) : Bool := eqO (PySem.W.findIn K (.ref D) "__getattribute__") (some (some (.builtin "BaseException.__getattribute__"))) && (eqO (PySem.W.findIn K (.ref D) "__getattr__") (some none) && (decide (PySem.W.subIn K (.ref D) (.type "BaseException") = some true) &&
  (PySem.W.hasDictIn K D && (eqO (PySem.W.findIn K (.ref D) "__class__") (some (some (.builtin "object.__class__"))) && (eqO (PySem.W.specialIn K (.builtin "object.__class__") "__get__") (some (some (.builtin "getset_descriptor.__get__"))) &&
    (decide (PySem.W.takesIn K (.builtin "object.__class__") = some true) && decide (PySem.W.mroIn K D (.type "object") = some true)))))))
theorem excB_ok {D : Addr} (h : excB K D = true) : ExcC K D := by
  unfold excB at h
  obtain ⟨h1, h⟩ := ba h
  obtain ⟨h2, h⟩ := ba h
  obtain ⟨h3, h⟩ := ba h
  obtain ⟨h4, h⟩ := ba h
  obtain ⟨h5, h⟩ := ba h
  obtain ⟨h6, h⟩ := ba h
  obtain ⟨h7, h8⟩ := ba h
  exact ⟨eqO_ok h1, eqO_ok h2, of_decide_eq_true h3, h4, eqO_ok h5, eqO_ok h6, of_decide_eq_true h7, of_decide_eq_true h8⟩
def SubD.ok (K : PySem.W.Frag) (d : SubD) : Bool := excB K (ga K d.c) && (decide (PySem.W.exmOne K (.ref (ga K d.c)) (d.v K) = some d.b) && decide (PySem.W.kitOne K (.ref (ga K d.c)) (d.v K) = some d.b))
theorem sub_ok {h : Heap} {d : SubD} (X : K.In h) (G : h.Ns mainGlobals mg) (hg : (Fa.glo d.c).ok K = true) (ho : d.ok K = true) (hdb : (d.x == ("__debug__" : Str)) = false)
    (hx : match d.t with
      | some T => (Fa.free d.x).ok K = true ∧ bootBuiltins d.x = some (.type T) ∧ d.x ≠ "__name__"
      | none => (Fa.glo d.x).ok K = true) : SubC K mg d.c d.x d.b (ga K d.c) (d.v K) := by
  obtain ⟨h1, h2⟩ := ba ho
  obtain ⟨h3, h4⟩ := ba h2
  obtain ⟨c, x, t, b⟩ := d
  cases t with
  | some T => exact ⟨glo_ok X G hg, ⟨hdb, .inr ⟨free_ok X G hx.1, hx.2.1, hx.2.2⟩⟩, ⟨.ty T, rfl, fun u z => z⟩, of_decide_eq_true h3, of_decide_eq_true h4, excB_ok h1⟩
  | none => exact ⟨glo_ok X G hg, ⟨hdb, .inl (glo_ok X G hx)⟩, ⟨.ref (ga K x), rfl, fun u z => z⟩, of_decide_eq_true h3, of_decide_eq_true h4, excB_ok h1⟩
end
end MP
namespace MP
open PySem L2 PySem.Spec He
open PyProof.Rows hiding St
/-! ### a module as data -/
structure Dd where
  name : Str
  st : Stmt
  N : List Str
  fn : Fn
  dv : List Dv
  kv : List (Str × Dv)
  /-- a method: its class, its bare name -/
  cl : Option (Str × Str)
def Dd.nm (d : Dd) : Str := match d.cl with
  | none => d.name
  | some p => p.2
def Dd.at_ (d : Dd) : Str × Option Str := match d.cl with
  | none => (d.name, none)
  | some p => (p.1, some p.2)
def Dd.d (d : Dd) : DefD := ⟨d.at_, d.nm, d.name, defArgs d.st, defBody d.st, defScope d.st, d.dv, d.kv⟩
/-- a def as it is called by keywords -/
structure Kd where
  d : Dd
  ks : List Str
  dfl : List M
def Kd.q (e : Kd) : Str := kwN e.d.name e.ks
def Kd.fn (e : Kd) : Fn := { e.d.fn with dfl := e.dfl, ko := 0 }
/-- what the def's calls bind -/
def BindD (d : Dd) (ks : List Str) (F : Fn) : Prop := ∀ (K : PySem.W.Frag) (a : Addr) (fd : FuncData), FunD K d.nm d.name (defArgs d.st) (defBody d.st) (defScope d.st) (d.dv.map (Dv.v K)) (d.kv.map fun q => (q.1, q.2.v K)) a fd → BindP K fd (d.N.take F.np) ks F
/-- a constant of the module: a value, or a dict by texts -/
inductive Cs where
  | c (c : Cn)
  | d (kvs : List (Str × Cn))
def Cs.m : Cs → M
  | Cs.c k => k.m
  | Cs.d kvs => .rod kvs
mutual
def cnB (K : PySem.W.Frag) : Cn → Value → Bool
  | .non, .none => true
  | .bl b, .bool c => b == c
  | .int i, .int j _ => decide (i = j)
  | .str x, .str y _ => decide (x = y)
  | .glo x, .ref a => eqO (PySem.W.nsIn K mainGlobals x) (some (some (.ref a)))
  | .tup xs, .ref a => (match K.lookup a with
    | some ⟨.type c, _, .seq its _, _⟩ => decide (c = "tuple") && (decide (its.size ≤ sizeLine) && cnsB K xs its.toList)
    | _ => false)
  | _, _ => false
def cnsB (K : PySem.W.Frag) : List Cn → List Value → Bool
  | [], [] => true
  | x :: xs, u :: us => cnB K x u && cnsB K xs us
  | _, _ => false
end
def entB (K : PySem.W.Frag) : List (Str × Cn) → List DictEntry → Bool
  | [], [] => true
  | p :: ps, e :: es => (match e.key with
    | .str z _ => decide (z = p.1)
    | _ => false) && (cnB K p.2 e.val && entB K ps es)
  | _, _ => false
def csB (K : PySem.W.Frag) (x : Str) : Cs → Bool
  | .c c => (match PySem.W.nsIn K mainGlobals x with
    | some (some u) => cnB K c u
    | _ => false)
  | .d kvs => eqO (PySem.W.nsIn K mainGlobals x) (some (some (.ref (ga K x)))) && (match K.lookup (ga K x) with
    | some ⟨_, _, .dict es _, _⟩ => entB K kvs es.toList
    | _ => false)
section
variable {K : PySem.W.Frag} {h : Heap} {mg : Str → Option Value}
mutual
theorem cnB_ok (X : K.In h) (G : h.Ns mainGlobals mg) : ∀ (c : Cn) (u : Value), cnB K c u = true → ∃ v, RelV v u ∧ CnR K mg c v
  | .non, u, e => by cases u <;> first | exact ⟨.non, rfl, by simp [CnR]⟩ | (simp [cnB] at e)
  | .bl b, u, e => by
    cases u <;> first | (simp [cnB] at e; done) | skip
    rename_i c
    simp only [cnB] at e
    obtain rfl : b = c := eq_of_beq e
    exact ⟨.bl b, rfl, by simp [CnR]⟩
  | .int i, u, e => by
    cases u <;> first | (simp [cnB] at e; done) | skip
    rename_i j t
    simp only [cnB] at e
    obtain rfl := of_decide_eq_true e
    exact ⟨.int i, ⟨t, rfl⟩, by simp [CnR]⟩
  | .str i, u, e => by
    cases u <;> first | (simp [cnB] at e; done) | skip
    rename_i j t
    simp only [cnB] at e
    obtain rfl := of_decide_eq_true e
    exact ⟨.str i, ⟨t, rfl⟩, by simp [CnR]⟩
  | .glo x, u, e => by
    cases u <;> first | (simp [cnB] at e; done) | skip
    rename_i a
    simp only [cnB] at e
    exact ⟨.ref a, rfl, by simp only [CnR]; exact ⟨a, PySem.W.mg_of X G (eqO_ok e), rfl⟩⟩
  | .tup xs, u, e => by
    cases u <;> first | (simp [cnB] at e; done) | skip
    rename_i a
    simp only [cnB] at e
    split at e
    · rename_i c od its n sl q
      obtain ⟨h1, h2⟩ := ba e
      obtain ⟨h3, h4⟩ := ba h2
      obtain ⟨vs, r1, r2⟩ := cnsB_ok X G xs its.toList h4
      refine ⟨.ref a, rfl, ?_⟩
      simp only [CnR]
      exact ⟨a, vs, rfl, fun H => .inr ⟨_, its, n, q, congrArg Value.type (of_decide_eq_true h1), rfl, of_decide_eq_true h3, r1⟩, r2⟩
    · cases e
theorem cnsB_ok (X : K.In h) (G : h.Ns mainGlobals mg) : ∀ (c : List Cn) (u : List Value), cnsB K c u = true → ∃ v, Vals v u ∧ CnRs K mg c v
  | [], [], _ => ⟨[], .nil, by simp [CnRs]⟩
  | [], _ :: _, e => by simp [cnsB] at e
  | _ :: _, [], e => by simp [cnsB] at e
  | x :: xs, u :: us, e => by
    simp only [cnsB] at e
    obtain ⟨h1, h2⟩ := ba e
    obtain ⟨v, r1, q1⟩ := cnB_ok X G x u h1
    obtain ⟨vs, r2, q2⟩ := cnsB_ok X G xs us h2
    exact ⟨v :: vs, .cons r1 r2, by simp only [CnRs]; exact ⟨v, vs, rfl, q1, q2⟩⟩
end
theorem entB_ok (X : K.In h) (G : h.Ns mainGlobals mg) (z : Str) : ∀ (kvs : List (Str × Cn)) (es : List DictEntry), entB K kvs es = true → es.any (·.refKey) = false ∧ match kvs.lookup z with
    | some c => ∃ e v, es.find? (·.key.isStr z) = some e ∧ RelV v e.val ∧ CnR K mg c v
    | none => es.find? (·.key.isStr z) = none
  | [], [], _ => ⟨rfl, rfl⟩
  | [], _ :: _, e => by simp [entB] at e
  | _ :: _, [], e => by simp [entB] at e
  | (k, c) :: ps, en :: es, e => by
    simp only [entB] at e
    obtain ⟨h1, h2⟩ := ba e
    obtain ⟨h3, h4⟩ := ba h2
    obtain ⟨i1, i2⟩ := entB_ok X G z ps es h4
    split at h1
    · rename_i y t ey
      obtain rfl := of_decide_eq_true h1
      have rk : en.refKey = false := by unfold DictEntry.refKey; rw [ey]
      refine ⟨by rw [List.any_cons, rk, i1]; rfl, ?_⟩
      have is : en.key.isStr z = (z == y) := by rw [ey]; show (y == z) = (z == y); exact Bool.beq_comm
      cases hz : (z == y) with
      | true =>
        rw [List.lookup_cons, hz]
        dsimp only
        obtain ⟨v, r1, r2⟩ := cnB_ok X G c en.val h3
        exact ⟨en, v, by rw [List.find?_cons, is, hz], r1, r2⟩
      | false =>
        rw [List.lookup_cons, hz, List.find?_cons, is, hz]
        exact i2
    · cases h1
end
/-- a plain class of the text: its fields, may it be made, of which classes its instances are -/
structure ClsD where
  name : Str
  flds : List Str
  mkb : Bool
  iscs : List (Str × Bool)
def ClsD.fa (c : ClsD) : List Fa := (Fa.glo c.name :: Fa.cls c.name :: (if c.mkb = true then [Fa.mkr c.name] else [])) ++ (c.flds.map (Fa.noat c.name) ++ c.iscs.map fun p => Fa.glo p.1)
def tyNs : List String := ["NoneType", "bool", "int", "str", "tuple", "list", "dict"]
def iscB (K : PySem.W.Frag) (D E : Addr) (b : Bool) : Bool := eqO (PySem.W.findIn K (.ref D) "__class__") (some (some (.builtin "object.__class__"))) && (eqO (PySem.W.specialIn K (.builtin "object.__class__") "__get__") (some (some (.builtin "getset_descriptor.__get__"))) &&
  (decide (PySem.W.takesIn K (.builtin "object.__class__") = some true) && (decide (PySem.W.mroIn K D (.type "object") = some true) && (decide (PySem.W.kitOne K (.ref D) (.ref E) = some b) && ((tyNs.all fun n => decide (PySem.W.kitOne K (.type n) (.ref E) = some false)) && tyNs.all fun n => decide (PySem.W.kitOne K (.ref D) (.type n) = some false))))))
theorem iscB_ok {K : PySem.W.Frag} {mg : Str → Option Value} {d c : Str} {D E : Addr} {b : Bool} (h : iscB K D E b = true) (h1 : mg d = some (.ref D)) (h2 : mg c = some (.ref E)) (h3 : Cls K D) : IscC K mg d c b D E := by
  unfold iscB at h
  obtain ⟨a1, h⟩ := ba h
  obtain ⟨a2, h⟩ := ba h
  obtain ⟨a3, h⟩ := ba h
  obtain ⟨a4, h⟩ := ba h
  obtain ⟨a5, h⟩ := ba h
  obtain ⟨a6, a7⟩ := ba h
  exact ⟨h1, h2, h3, eqO_ok a1, eqO_ok a2, of_decide_eq_true a3, of_decide_eq_true a4, of_decide_eq_true a5, fun n hn => of_decide_eq_true (List.all_eq_true.mp a6 n hn), fun n hn => of_decide_eq_true (List.all_eq_true.mp a7 n hn)⟩
def ClsD.ok (K : PySem.W.Frag) (c : ClsD) : Bool := c.iscs.all fun p => iscB K (ga K c.name) (ga K p.1) p.2
structure Txt where
  defs : List Dd
  errs : List ErrD
  subs : List SubD
  cons : List (Str × Cs)
  kws : List Kd
  cls : List ClsD
def blts : List Str := ["abs", "int", "repr", "str", "min", "max", "len", "isinstance", "list", "all", "range", "bool", "tuple", "dict", "zip", "enumerate", "sorted", "set", "sum", "any"]
def Txt.isD (T : Txt) (f : Str) : Bool := T.defs.any fun d => d.name == f && d.cl.isNone
def clB (d : Dd) (c f : Str) : Bool := match d.cl with
  | some p => p.1 == c && p.2 == f
  | none => false
def Txt.cl (T : Txt) (c : Str) : Option ClsD := T.cls.find? fun d => d.name == c
def pgOf (T : Txt) : Pg where
  con := fun x => match T.cons.find? fun p => p.1 == x with
    | some p => some p.2.m
    | none => if T.isD x = true then some (.glo x) else none
  fns := T.isD
  sub := fun c x => (T.subs.find? fun d => d.c == c && d.x == x).map (·.b)
  err := fun c => (T.errs.find? fun e => e.name == c).map (·.flds)
  exv := none
  kw := fun q => match T.kws.find? fun e => e.q == q with
    | some e => if e.d.cl.isNone = true then some (e.d.name, e.ks) else none
    | none => none
  fld := fun c f => match T.cl c with
    | some d => d.flds.contains f
    | none => false
  mth := fun c f ks => match T.cl c with
    | some _ => if ks = [] then (T.defs.find? fun d => clB d c f).map (·.name) else (T.kws.find? fun e => clB e.d c f && decide (e.ks = ks)).map (·.q)
    | none => none
  mak := fun c => match T.cl c with
    | some d => if d.mkb = true then (T.defs.find? fun d => clB d c "__init__").map (·.name) else none
    | none => none
  isc := fun d c => match T.cl d with
    | some d => d.iscs.lookup c
    | none => none
  df := fun f => match T.defs.find? fun d => d.name == f with
    | some d => some d.fn
    | none => (T.kws.find? fun e => e.q == f).map (·.fn)
def ErrD.ds : ErrD → List DefD
  | .plain _ _ _ _ _ => []
  | .own _ _ _ d => [d]
def SubD.fa (d : SubD) : Fa := match d.t with
  | some _ => .free d.x
  | none => .glo d.x
def Dd.fa (d : Dd) : Fa := match d.cl with
  | none => .glo d.name
  | some p => .meth p.1 p.2
def Txt.fa (T : Txt) : List Fa := T.defs.map Dd.fa ++ (T.errs.map (fun e => Fa.glo e.name) ++ (blts.map Fa.free ++ (T.subs.map (fun d => Fa.glo d.c) ++ (T.subs.map SubD.fa ++ T.cls.flatMap ClsD.fa))))
/-- the dicts of the module -/
def Cs.tab (x : Str) : Cs → List Tab
  | .c _ => []
  | .d kvs => [(fun K => ga K x, kvs.map (·.1))]
def Txt.ts (T : Txt) : List Tab := T.cons.flatMap fun p => p.2.tab p.1
def Txt.fn (T : Txt) : List DefD := T.defs.map Dd.d ++ T.errs.flatMap ErrD.ds
def Txt.ex (T : Txt) (K : PySem.W.Frag) : Bool := ((T.errs.all fun e => e.ok K) && T.subs.all fun d => d.ok K) && ((T.cons.all fun p => csB K p.1 p.2) && T.cls.all fun c => c.ok K)
def Dd.good (d : Dd) : Bool := fnScB d.N (d.N.take d.fn.np) (defScope d.st) && (decide (d.fn.ns = d.N.length) && decide (d.fn.np ≤ d.N.length))
def Dd.plain (d : Dd) : Bool := plainB (defArgs d.st) (d.N.take d.fn.np) && (d.fn.dfl.isEmpty && d.dv.isEmpty)
def ErrD.good : ErrD → Bool
  | .plain _ _ _ _ _ => true
  | .own _ self fs d => initB self fs d && decide (d.name = ("__init__" : Str))
def SubD.good (d : SubD) : Bool := !(d.x == ("__debug__" : Str)) && (match d.t with
  | some T => decide (bootBuiltins d.x = some (.type T)) && decide (d.x ≠ ("__name__" : Str))
  | none => true)
def Txt.good (T : Txt) : Bool := (T.defs.all Dd.good) && ((T.errs.all ErrD.good) && (T.subs.all SubD.good && ((T.kws.all fun e => T.defs.all fun d => !(d.name == e.q)) && (decide (T.defs.map (·.name)).Nodup && decide (T.kws.map (·.q)).Nodup))))
/-- what every call binds -/
def Txt.bnd (T : Txt) : Prop := (∀ d ∈ T.defs, d.plain = true ∨ BindD d [] d.fn) ∧ ∀ e ∈ T.kws, e.d ∈ T.defs ∧ BindD e.d e.ks e.fn
def ErrD.base : ErrD → Prop
  | .plain _ B nI iI bmB => ExcBaseFacts B nI iI bmB
  | .own _ _ _ _ => True
/-- the text's defs are the machine's -/
def Txt.tr (T : Txt) : Prop := ∀ d ∈ T.defs, ∃ n, trSs d.N (defScope d.st) true n (defBody d.st) = some d.fn.body
theorem find_ok {α : Type} {p : α → Bool} {l : List α} {a : α} (h : l.find? p = some a) : a ∈ l ∧ p a = true := ⟨List.mem_of_find?_eq_some h, List.find?_some h⟩
section
variable {T : Txt} {prog : Program} {w : World} {K : PySem.W.Frag} {mg : Str → Option Value} {base h : Heap}
theorem fa_mem {f : Fa} {T : Txt} (c : SaysD T.fa T.fn K) (hf : f ∈ T.fa) : f.ok K = true := c.facts hf
theorem def_memA (c : SaysD T.fa T.fn K) (good : T.good = true) (tr : T.tr) {d : Dd} (hd : d ∈ T.defs) {ks : List Str} {F : Fn} (e1 : F.np = d.fn.np) (e2 : F.ns = d.fn.ns) (e3 : F.body = d.fn.body) (hb : (d.plain = true ∧ ks = [] ∧ F = d.fn) ∨ BindD d ks F) : DefA K (fAd K d.at_) ks F := by
  obtain ⟨h1, _⟩ := ba good
  have hg := List.all_eq_true.mp h1 d hd
  unfold Dd.good at hg
  obtain ⟨g1, hg⟩ := ba hg
  obtain ⟨g3, g5⟩ := ba hg
  obtain ⟨fd, FD⟩ := c.defs (d := d.d) (List.mem_append_left _ (List.mem_map_of_mem hd))
  obtain ⟨n, tn⟩ := tr d hd
  have S := fnScB_ok g1
  have hn : d.fn.np = (d.N.take d.fn.np).length := by
    rw [List.length_take]
    have := of_decide_eq_true g5
    omega
  have FD' : FunD K d.nm d.name (defArgs d.st) (defBody d.st) (defScope d.st) (d.dv.map (Dv.v K)) (d.kv.map fun q => (q.1, q.2.v K)) (fAd K d.at_) fd := FD
  have bp : BindP K fd (d.N.take d.fn.np) ks F := by
    rcases hb with ⟨pl, rfl, rfl⟩ | hb
    · unfold Dd.plain at pl
      obtain ⟨p1, pl⟩ := ba pl
      obtain ⟨p2, p3⟩ := ba pl
      rw [List.isEmpty_iff.mp p3] at FD'
      exact bindP_plain FD' (plainB_ok p1) (by rw [← S.pre]; exact S.nd.sublist (List.take_sublist _ _)) hn (List.isEmpty_iff.mp p2)
    · have := hb K _ fd FD
      rw [e1] at this
      exact this
  exact ⟨d.nm, fd, d.name, defArgs d.st, defBody d.st, defScope d.st, _, _, d.N, d.N.take d.fn.np, n, FD, S, bp, by rw [e3]; exact tn, by rw [e1]; exact hn, by rw [e2]; exact of_decide_eq_true g3⟩
theorem def_fa (c : SaysD T.fa T.fn K) {d : Dd} (hd : d ∈ T.defs) : d.fa.ok K = true := fa_mem (f := d.fa) c (List.mem_append_left _ (List.mem_map_of_mem hd))
theorem def_glo (c : SaysD T.fa T.fn K) (X : K.In h) (G : h.Ns mainGlobals mg) {d : Dd} (hd : d ∈ T.defs) (hc : d.cl.isNone = true) : mg d.name = some (.ref (ga K d.name)) := by
  have := def_fa c hd
  unfold Dd.fa at this
  rw [Option.isNone_iff_eq_none.mp hc] at this
  exact glo_ok X G this
theorem def_mem (c : SaysD T.fa T.fn K) (X : K.In h) (G : h.Ns mainGlobals mg) (good : T.good = true) (tr : T.tr) {d : Dd} (hd : d ∈ T.defs) (hc : d.cl.isNone = true) {ks : List Str} {F : Fn} (e1 : F.np = d.fn.np) (e2 : F.ns = d.fn.ns) (e3 : F.body = d.fn.body) (hb : (d.plain = true ∧ ks = [] ∧ F = d.fn) ∨ BindD d ks F) : DefF K mg d.name ks F := by
  have A := def_memA c good tr hd e1 e2 e3 hb
  unfold Dd.at_ at A
  rw [Option.isNone_iff_eq_none.mp hc] at A
  exact ⟨ga K d.name, def_glo c X G hd hc, A⟩
theorem find_nodup {α : Type} {k : α → Str} : ∀ {l : List α}, (l.map k).Nodup → ∀ {a : α}, a ∈ l → l.find? (fun b => k b == k a) = some a
  | [], _, a, h => by cases h
  | b :: l, nd, a, h => by
    rw [List.map_cons, List.nodup_cons] at nd
    rw [List.find?_cons]
    rcases List.mem_cons.mp h with rfl | h
    · simp
    · have : (k b == k a) = false := by
        rw [beq_eq_false_iff_ne]
        intro z
        exact nd.1 (by rw [z]; exact List.mem_map_of_mem h)
      rw [this]
      exact find_nodup nd.2 h
theorem df_def (good : T.good = true) {d : Dd} (hd : d ∈ T.defs) : (pgOf T).df d.name = some d.fn := by
  obtain ⟨_, g2⟩ := ba good
  obtain ⟨_, g3⟩ := ba g2
  obtain ⟨_, g4⟩ := ba g3
  obtain ⟨_, g5⟩ := ba g4
  obtain ⟨g6, g7⟩ := ba g5
  show (match T.defs.find? fun d' => d'.name == d.name with
    | some d => some d.fn
    | none => (T.kws.find? fun e : Kd => e.q == d.name).map Kd.fn) = _
  rw [find_nodup (k := fun d : Dd => d.name) (of_decide_eq_true g6) hd]
theorem df_kw (good : T.good = true) {e : Kd} (he : e ∈ T.kws) : (pgOf T).df e.q = some e.fn := by
  obtain ⟨_, g2⟩ := ba good
  obtain ⟨_, g3⟩ := ba g2
  obtain ⟨_, g4⟩ := ba g3
  obtain ⟨g4, g5⟩ := ba g4
  obtain ⟨g6, g7⟩ := ba g5
  have nd := List.all_eq_true.mp g4 e he
  show (match T.defs.find? fun d => d.name == e.q with
    | some d => some d.fn
    | none => (T.kws.find? fun e' : Kd => e'.q == e.q).map Kd.fn) = _
  cases w : T.defs.find? fun d => d.name == e.q with
  | some d =>
    obtain ⟨m1, m2⟩ := find_ok w
    have := List.all_eq_true.mp nd d m1
    rw [m2] at this
    cases this
  | none =>
    show (T.kws.find? fun e' : Kd => e'.q == e.q).map Kd.fn = _
    rw [find_nodup (k := fun d : Kd => d.q) (of_decide_eq_true g7) he]
    rfl
theorem clB_ok {d : Dd} {cc f : Str} (h : clB d cc f = true) : d.cl = some (cc, f) := by
  unfold clB at h
  split at h
  · rename_i p hp
    obtain ⟨h1, h2⟩ := ba h
    rw [hp, ← eq_of_beq h1, ← eq_of_beq h2]
  · cases h
theorem cls_fa (c : SaysD T.fa T.fn K) {d : ClsD} (hd : d ∈ T.cls) {f : Fa} (hf : f ∈ d.fa) : f.ok K = true := fa_mem c (List.mem_append_right _ (List.mem_append_right _ (List.mem_append_right _ (List.mem_append_right _ (List.mem_append_right _ (List.mem_flatMap.mpr ⟨d, hd, hf⟩))))))
theorem meth_fa (c : SaysD T.fa T.fn K) {d : Dd} (hd : d ∈ T.defs) {cc f : Str} (hc : d.cl = some (cc, f)) : Meth K (ga K cc) f (fAd K d.at_) := by
  have := def_fa c hd
  unfold Dd.fa at this
  rw [hc] at this
  have e : fAd K d.at_ = ma K (ga K cc) f := by unfold Dd.at_; rw [hc]; rfl
  rw [e]
  exact meth_ok this
theorem mdl_of (c : SaysD T.fa T.fn K) (tb : ∀ t ∈ T.ts, ∃ es n, KDict K w (t.1 K) es n) (ex0 : T.ex K = true) (X : K.In h) (G : h.Ns mainGlobals mg) (good : T.good = true) (tr : T.tr) (hb : ∀ e ∈ T.errs, e.base) (bn : T.bnd) (sy : ∃ o, base.get? sysModules = some o) : Mdl prog w K mg base (pgOf T) :=
  have ex : ((T.errs.all fun e => e.ok K) && T.subs.all fun d => d.ok K) = true := (ba ex0).1
  {
  exv := rfl
  sys := sy
  con := fun x v e => by
    have e : (match T.cons.find? fun p => p.1 == x with
      | some p => some p.2.m
      | none => if T.isD x = true then some (M.glo x) else none) = some v := e
    cases q : T.cons.find? fun p => p.1 == x with
    | some p =>
      rw [q] at e
      cases e
      obtain ⟨hm, hx⟩ := find_ok q
      obtain ⟨y, cn⟩ := p
      obtain rfl : y = x := eq_of_beq hx
      have f : csB K y cn = true := List.all_eq_true.mp (ba (ba ex0).2).1 (y, cn) hm
      cases cn with
      | c cc =>
        simp only [csB] at f
        split at f
        · rename_i u eu
          obtain ⟨v, r1, r2⟩ := cnB_ok X G cc u f
          exact ⟨u, v, PySem.W.mg_of X G eu, r1, fun m H => CnR.rm (g := ⟨K, mg, w, none⟩) cc v r2⟩
        · cases f
      | d kvs =>
        simp only [csB] at f
        obtain ⟨f1, f2⟩ := ba f
        have gl := PySem.W.mg_of X G (eqO_ok f1)
        obtain ⟨es, n, D⟩ := tb (fun K => ga K y, kvs.map (·.1)) (List.mem_flatMap.mpr ⟨(y, .d kvs), hm, by simp [Cs.tab]⟩)
        have D : KDict K w (ga K y) es n := D
        rw [D.at_] at f2
        dsimp only at f2
        refine ⟨_, .ref (ga K y), gl, rfl, fun m H => ?_⟩
        simp only [Cs.m, RM]
        refine ⟨_, rfl, ⟨es, n, D⟩, fun z => ?_⟩
        obtain ⟨q1, q2⟩ := entB_ok X G z kvs es.toList f2
        cases hz : kvs.lookup z with
        | none =>
          rw [hz] at q2
          show PySem.W.nsIn K (ga K y) z = some none
          unfold PySem.W.nsIn
          rw [D.at_]
          dsimp only
          rw [q2]
          dsimp only
          rw [if_neg (by rw [q1]; exact Bool.false_ne_true)]
        | some cc =>
          rw [hz] at q2
          obtain ⟨en, v, e1, e2, e3⟩ := q2
          refine ⟨en.val, v, ?_, e2, e3⟩
          unfold PySem.W.nsIn
          rw [D.at_]
          dsimp only
          rw [e1]
    | none =>
      rw [q] at e
      dsimp only at e
      split at e
      · rename_i hd
        cases e
        obtain ⟨d, hm, hx⟩ := List.any_eq_true.mp hd
        obtain ⟨hx, hc⟩ := ba hx
        obtain rfl : d.name = x := eq_of_beq hx
        have gl := def_glo c X G hm hc
        exact ⟨_, .ref (ga K d.name), gl, rfl, fun m H => by simp only [RM]; exact ⟨_, gl, rfl⟩⟩
      · cases e
  free := fun x hx => free_ok X G (fa_mem (f := .free x) c (List.mem_append_right _ (List.mem_append_right _ (List.mem_append_left _ (List.mem_map_of_mem hx)))))
  err := fun cc fs e => by
    obtain ⟨d, e1, rfl⟩ := map_ok (show (T.errs.find? fun e => e.name == cc).map (·.flds) = some fs from e)
    obtain ⟨hm, hx⟩ := find_ok e1
    obtain rfl : d.name = cc := eq_of_beq hx
    obtain ⟨_, g2⟩ := ba good
    obtain ⟨g3, _⟩ := ba g2
    have gd := List.all_eq_true.mp g3 d hm
    obtain ⟨x1, _⟩ := ba ex
    refine ⟨_, err_ok X G (fa_mem (f := .glo d.name) c (List.mem_append_right _ (List.mem_append_left _ (List.mem_map_of_mem (f := fun e : ErrD => Fa.glo e.name) hm)))) (List.all_eq_true.mp x1 d hm) ?_⟩
    cases d with
    | plain cn B nI iI bmB => exact hb _ hm
    | own cn self fs d =>
      obtain ⟨q1, q2⟩ := ba gd
      exact ⟨q1, of_decide_eq_true q2, c.defs (d := d) (List.mem_append_right _ (List.mem_flatMap.mpr ⟨_, hm, by simp [ErrD.ds]⟩))⟩
  sub := fun cc x b e => by
    obtain ⟨d, e1, rfl⟩ := map_ok (show (T.subs.find? fun d => d.c == cc && d.x == x).map (·.b) = some b from e)
    obtain ⟨hm, hx⟩ := find_ok e1
    obtain ⟨hx1, hx2⟩ := ba hx
    obtain rfl : d.c = cc := eq_of_beq hx1
    obtain rfl : d.x = x := eq_of_beq hx2
    obtain ⟨_, g2⟩ := ba good
    obtain ⟨_, g3⟩ := ba g2
    obtain ⟨g3, _⟩ := ba g3
    have gd := List.all_eq_true.mp g3 d hm
    unfold SubD.good at gd
    obtain ⟨q1, q2⟩ := ba gd
    obtain ⟨_, x2⟩ := ba ex
    have f1 := fa_mem (f := .glo d.c) c (List.mem_append_right _ (List.mem_append_right _ (List.mem_append_right _ (List.mem_append_left _ (List.mem_map_of_mem (f := fun d : SubD => Fa.glo d.c) hm)))))
    have f2 := fa_mem (f := d.fa) c (List.mem_append_right _ (List.mem_append_right _ (List.mem_append_right _ (List.mem_append_right _ (List.mem_append_left _ (List.mem_map_of_mem hm))))))
    refine ⟨_, _, sub_ok X G f1 (List.all_eq_true.mp x2 d hm) (by simpa using q1) ?_⟩
    obtain ⟨dc, dx, dt, db⟩ := d
    cases dt with
    | some t =>
      obtain ⟨q3, q4⟩ := ba q2
      exact ⟨f2, of_decide_eq_true q3, of_decide_eq_true q4⟩
    | none => exact f2
  fns := fun f hf => by
    obtain ⟨d, hm, hx⟩ := List.any_eq_true.mp (show T.isD f = true from hf)
    obtain ⟨hx, hc⟩ := ba hx
    obtain rfl : d.name = f := eq_of_beq hx
    exact ⟨d.fn, df_def good hm, def_mem c X G good tr hm hc rfl rfl rfl ((bn.1 d hm).imp (fun z => ⟨z, rfl, rfl⟩) id)⟩
  kws := fun q f ks hq => by
    have hq : (match T.kws.find? fun e => e.q == q with
      | some e => if e.d.cl.isNone = true then some (e.d.name, e.ks) else none
      | none => none) = some (f, ks) := hq
    split at hq
    · rename_i e e1
      split at hq
      · rename_i hc
        cases hq
        obtain ⟨hm, hx⟩ := find_ok e1
        obtain rfl : e.q = q := eq_of_beq hx
        obtain ⟨b1, b2⟩ := bn.2 e hm
        exact ⟨e.fn, df_kw good hm, def_mem c X G good tr b1 hc rfl rfl rfl (.inr b2)⟩
      · cases hq
    · cases hq
  fld := fun cc f e0 => by
    have e : (match T.cl cc with
      | some d => d.flds.contains f
      | none => false) = true := e0
    clear e0
    split at e
    · rename_i d e1
      obtain ⟨hm, hx⟩ := find_ok e1
      obtain rfl : d.name = cc := eq_of_beq hx
      refine ⟨_, glo_ok X G (cls_fa c hm (f := .glo d.name) (by simp [ClsD.fa])), cls_ok (cls_fa c hm (f := .cls d.name) (by simp [ClsD.fa])), noat_ok (cls_fa c hm (f := .noat d.name f) ?_)⟩
      refine List.mem_append_right _ (List.mem_append_left _ (List.mem_map_of_mem ?_))
      simpa using e
    · cases e
  isc := fun dd cc b e0 => by
    have e : (match T.cl dd with
      | some d => d.iscs.lookup cc
      | none => none) = some b := e0
    clear e0
    split at e
    · rename_i d e1
      obtain ⟨hm, hx⟩ := find_ok e1
      obtain rfl : d.name = dd := eq_of_beq hx
      have hmem : (cc, b) ∈ d.iscs := by
        clear e1 hx
        revert e
        generalize d.iscs = l
        induction l with
        | nil => intro e; cases e
        | cons p l ih =>
          intro e
          obtain ⟨p1, p2⟩ := p
          rw [List.lookup_cons] at e
          split at e
          · rename_i hp
            cases e
            rw [eq_of_beq hp]
            exact List.mem_cons_self
          · exact List.mem_cons_of_mem _ (ih e)
      have ok := List.all_eq_true.mp (List.all_eq_true.mp (ba (ba ex0).2).2 d hm) (cc, b) hmem
      exact ⟨_, _, iscB_ok ok (glo_ok X G (cls_fa c hm (f := .glo d.name) (by simp [ClsD.fa]))) (glo_ok X G (cls_fa c hm (f := .glo cc) (List.mem_append_right _ (List.mem_append_right _ (List.mem_map_of_mem (f := fun p : Str × Bool => Fa.glo p.1) hmem))))) (cls_ok (cls_fa c hm (f := .cls d.name) (by simp [ClsD.fa])))⟩
    · cases e
  mth := fun cc f ks q e0 => by
    have e : (match T.cl cc with
      | some _ => if ks = [] then (T.defs.find? fun d => clB d cc f).map (·.name) else (T.kws.find? fun e => clB e.d cc f && decide (e.ks = ks)).map (·.q)
      | none => none) = some q := e0
    clear e0
    split at e
    · rename_i d e1
      obtain ⟨hm, hx⟩ := find_ok e1
      obtain rfl : d.name = cc := eq_of_beq hx
      have f1 := glo_ok X G (cls_fa c hm (f := .glo d.name) (by simp [ClsD.fa]))
      have f2 := cls_ok (cls_fa c hm (f := .cls d.name) (by simp [ClsD.fa]))
      split at e
      · rename_i hks
        subst hks
        obtain ⟨dd, e2, rfl⟩ := map_ok e
        obtain ⟨hm2, hx2⟩ := find_ok e2
        exact ⟨dd.fn, _, _, df_def good hm2, f1, f2, meth_fa c hm2 (clB_ok hx2), def_memA c good tr hm2 rfl rfl rfl ((bn.1 dd hm2).imp (fun z => ⟨z, rfl, rfl⟩) id)⟩
      · obtain ⟨ee, e2, rfl⟩ := map_ok e
        obtain ⟨hm2, hx2⟩ := find_ok e2
        obtain ⟨hx4, hx3⟩ := ba hx2
        obtain rfl := of_decide_eq_true hx3
        obtain ⟨b1, b2⟩ := bn.2 ee hm2
        exact ⟨ee.fn, _, _, df_kw good hm2, f1, f2, meth_fa c b1 (clB_ok hx4), def_memA c good tr b1 rfl rfl rfl (.inr b2)⟩
    · cases e
  mak := fun cc q e0 => by
    have e : (match T.cl cc with
      | some d => if d.mkb = true then (T.defs.find? fun d => clB d cc "__init__").map (·.name) else none
      | none => none) = some q := e0
    clear e0
    split at e
    · rename_i d e1
      obtain ⟨hm, hx⟩ := find_ok e1
      obtain rfl : d.name = cc := eq_of_beq hx
      split at e
      · rename_i hmk
        obtain ⟨dd, e2, rfl⟩ := map_ok e
        obtain ⟨hm2, hx2⟩ := find_ok e2
        have ea : fAd K dd.at_ = ma K (ga K d.name) "__init__" := by unfold Dd.at_; rw [clB_ok hx2]; rfl
        have A := def_memA c good tr hm2 rfl rfl rfl ((bn.1 dd hm2).imp (fun z => ⟨z, rfl, rfl⟩) id)
        rw [ea] at A
        exact ⟨dd.fn, _, _, df_def good hm2, glo_ok X G (cls_fa c hm (f := .glo d.name) (by simp [ClsD.fa])), mkr_ok (cls_fa c hm (f := .mkr d.name) (by simp [ClsD.fa, hmk])), A⟩
      · cases e
    · cases e }
end
/-! ### from the machine's run to the law -/
/-- the table of modules is there -/
def sysB (g : Addr → Option Obj) : Bool := match g sysModules with
  | some ⟨_, _, .dict _ _, _⟩ => true
  | _ => false
def obsY (n : Nat) (fa : List Fa) (fn : List DefD) (ts : List Tab) (tf : List Defn) (ex : PySem.W.Frag → Bool) (g : Addr → Option Obj) : AlX × Bool := (obsX n fa fn ts tf ex g, sysB g)
def hookY (n : Nat) (fa : List Fa) (fn : List DefD) (ts : List Tab) (tf : List Defn) (ex : PySem.W.Frag → Bool) : PySem.W.Hook where
  α := AlX × Bool
  obs := fun s => obsY n fa fn ts tf ex s.heap.get?
  val := fun w => (valX fn ts w, true)
  says := fun w h => (He.hookX n fa fn ts tf ex).says w h ∧ ∃ (o : Obj) (es : Array DictEntry) (m : Nat), h.get? sysModules = some o ∧ o.data = .dict es m
  of := fun w s e => by
    have e1 : obsX n fa fn ts tf ex s.heap.get? = valX fn ts w := congrArg (fun z : AlX × Bool => z.1) e
    have e2 : sysB s.heap.get? = true := congrArg (fun z : AlX × Bool => z.2) e
    refine ⟨(He.hookX n fa fn ts tf ex).of w s e1, ?_⟩
    unfold sysB at e2
    split at e2
    · rename_i es m _ q
      exact ⟨_, es, m, q, rfl⟩
    · cases e2
  keeps := fun w h h' x k => ⟨(He.hookX n fa fn ts tf ex).keeps w h h' x.1 k, let ⟨o, es, m, e, d⟩ := x.2; ⟨o, es, m, k _ _ e, d⟩⟩
theorem obsY_eq {n : Nat} {fa : List Fa} {fn : List DefD} {ts : List Tab} {tf : List Defn} {ex : PySem.W.Frag → Bool} {g : Addr → Option Obj} {s : Shared} (h : ∀ a, g a = s.heap.get? a) : obsY n fa fn ts tf ex g = (hookY n fa fn ts tf ex).obs s := by
  have e : g = s.heap.get? := funext h
  rw [e] <;> rfl
abbrev Txt.hook (T : Txt) (n : Nat) : PySem.W.Hook := hookY n T.fa T.fn T.ts [] T.ex
theorem law_at {prog : Program} {w : World} {K : PySem.W.Frag} {mg mb : Str → Option Value} {P : Pg} {d : Nat} {f : Str} {F : Fn} {fa a : Addr} {s : Shared} {vs : List Value} {ns : List Int} (pl : Place K mg mb s a vs ns) (hr : Room (2 * (d + 1) + 3) callerA) (hf : mg f = some (.ref fa))
    (Md : ∀ base : Heap, K.In base → base.Ns mainGlobals mg → (∃ o, base.get? sysModules = some o) → Mdl prog w K mg base P) (hF : P.df f = some F) (T : DefF K mg f [] F) {h' : Hm} (run : callF P (d + 1) f [.rol (ns.map M.int)] [] = some (.ok (.bl true) h')) :
    codeAny (model prog w) callerA (.call (.ref fa) ⟨[.ref a], []⟩) (fun r s' => r = .ok (.ret (.bool true)) ∧ OldK s.heap s'.heap ∧ s'.os = s.os ∧ AllBare s'.gens) s := by
  have rv := vals_ints pl.its
  have lenV := pl.its.length
  cases hk : K.lookup a with
  | some o =>
    have e := pl.kin a o hk
    rw [pl.at_] at e
    cases e
    refine law_by (H := fun _ => none) pl hr hf Md hF T run (fun _ => .inl rfl) (.inr ⟨_, vs.toArray, _, hk, rfl, rfl, rfl, by rw [List.size_toArray, lenV]; exact pl.len, by simpa using rv⟩) (fun b u z => by have z' : (none : Option HO) = some u := z; cases z') (fun b z => absurd rfl z) fun z => absurd rfl z
  | none =>
    refine law_by (H := fun b => if b = a then some (.frz { cls := .type "list", data := .seq vs.toArray } (.lst (ns.map V.int))) else none) pl hr hf Md hF T run (fun b => ?_) (.inl ⟨{ cls := .type "list", data := .seq vs.toArray }, if_pos rfl⟩) (fun b u z => ?_) (fun b z => ?_) fun _ => hk
    · by_cases hb : b = a
      · exact .inr ⟨_, _, if_pos hb⟩
      · exact .inl (if_neg hb)
    · by_cases hb : b = a
      · have z' := (if_pos hb).symm.trans z
        cases z'
        subst hb
        exact ⟨pl.at_, by rw [List.length_map]; exact pl.len, vs, _, rv, pl.at_⟩
      · have z' := (if_neg hb).symm.trans z
        cases z'
    · by_cases hb : b = a
      · exact hb
      · exact absurd (if_neg hb) z
theorem walk_mp {l : PySem.W.OpenLaw} {T : Txt} {n dep m : Nat} {q : Program} {loose : List Str} {XP : (Str → Option Value) → Heap → Prop} {d : DefRec} {D : Dd} (hn : l.most = some n) (hn2 : n ≤ sizeLine) (hdf : d.params.defaults = []) (hr : Room (2 * (dep + 1) + 3) callerA)
    (good : T.good = true) (tr : T.tr) (hb : ∀ e ∈ T.errs, e.base) (bn : T.bnd) (hD : D ∈ T.defs) (hDc : D.cl.isNone = true) (hnm : d.name = D.name) (hdf2 : (pgOf T).df D.name = some D.fn)
    (run : ∀ ns : List Int, ns.length ≤ n → (∀ k ∈ ns, Builtin.Int.intBits k ≤ 1048576) → ∃ h', callF (pgOf T) (dep + 1) D.name [.rol (ns.map M.int)] [] = some (.ok (.bl true) h')) :
    PySem.W.WalkO q loose XP (T.hook m).says l.row.toRowW d [] (fun f vs => PySem.call f vs) := by
  refine Att.attach_callB hn hdf fun w s₀ s₁ mg mb fa o pm cd doc a vs ns G Y ho hd hcd hmg hobj hints hlen hbits hg => ?_
  obtain ⟨⟨K, KX, c⟩, sy⟩ := Y
  obtain ⟨h', e⟩ := run ns hlen hbits
  rw [hnm] at hmg
  exact law_at ⟨KX, G.T.g, G.T.b, G.T.builtins, G.T.nolimit, hg, sy, hobj, hints, Nat.le_trans hlen hn2⟩ hr hmg (fun base X Gb sb => mdl_of c.t.d (fun t ht => by
      obtain ⟨i, hi, e⟩ := List.mem_iff_getElem.mp ht
      exact c.t.tab i (t := t) (by rw [List.getElem?_eq_getElem hi, e])) c.more X Gb good tr hb bn sb) hdf2 (def_mem c.t.d KX G.T.g good tr hD hDc rfl rfl rfl ((bn.1 D hD).imp (fun z => ⟨z, rfl, rfl⟩) id)) e
end MP
namespace MP
open PySem L2 He
/-! ### what calls bind -/
/-- keyword-only parameters, all of them lacking -/
theorem BindD.ko {d : Dd} {F : Fn} (n : Nat) (hd : d.dv = []) (hk : d.kv ≠ []) (hn : n + d.kv.length = F.np) (hN : F.np ≤ d.N.length) (hko : F.ko = d.kv.length) (hfd : F.dfl.length = d.kv.length) (hrm : ∀ K g m H, RMs g m H F.dfl (d.kv.map fun q => q.2.v K))
    (h : ∀ (D : Addr) (doc pm : Value) (an : Option Addr) (cdv ct : Value) (us ks : List Value), us.length = n → ks.length = d.kv.length →
      KwChain D ((d.kv.map (·.1)).zip ks) (bindArgs (PySem.W.fnOf d.nm d.name (defArgs d.st) (defBody d.st) (defScope d.st) .none (.ref D) doc pm an cdv ct) ⟨us, []⟩) ((d.N.take F.np).zip (us ++ ks))) : BindD d [] F := by
  intro K a fd FD
  rw [hd] at FD
  have hl : (d.N.take F.np).length = F.np := by rw [List.length_take]; omega
  obtain ⟨ds, rv, hb⟩ := FunD.binds0 (ps := d.N.take F.np) FD n (by simpa using hk) (by rw [hl, List.length_map]; exact hn) (fun D doc pm an cdv ct us ks l1 l2 => by
    have := h D doc pm an cdv ct us ks l1 (by simpa using l2)
    rw [List.map_map]
    exact this)
  have lds : ds.length = d.kv.length := by rw [← rv.length]; simp
  refine ⟨ds, d.kv.map (fun q => q.2.v K), ?_, hrm K, fun s us ws X l1 l2 l3 => ?_⟩
  · rw [List.map_map] at rv
    exact rv
  · obtain rfl : ws = [] := List.eq_nil_of_length_eq_zero l1
    have e : us.length + ([] : List Value).length + F.dfl.length - F.np = 0 := by simp at l2 ⊢; omega
    rw [e, List.append_nil, List.drop_zero]
    exact hb s us X (by rw [List.length_append, hl, lds]; simp at l2 l3; omega)
/-- no defaults left: keywords written -/
theorem BindD.kw {d : Dd} {ks : List Str} {F : Fn} (n : Nat) (hd : d.dv = []) (hfd : F.dfl = []) (hn : n + ks.length = F.np)
    (h : ∀ (kV doc pm : Value) (an : Option Addr) (cdv ct : Value) (us ws : List Value), us.length = n → ws.length = ks.length →
      bindArgs (PySem.W.fnOf d.nm d.name (defArgs d.st) (defBody d.st) (defScope d.st) .none kV doc pm an cdv ct) ⟨us, ks.zip ws⟩ = pure ((d.N.take F.np).zip (us ++ ws))) : BindD d ks F := by
  intro K a fd FD
  obtain ⟨oc, od, dV, kV, doc, pm, an, cdv, ct, osl, rfl, lk, hcd, hD, _⟩ := FD.ex
  obtain rfl : dV = .none := by
    rcases hD with ⟨_, z⟩ | ⟨z, _⟩
    · exact z
    · rw [hd] at z; exact absurd rfl z
  refine ⟨[], [], .nil, fun g m H => by rw [hfd]; simp [RMs], fun s us ws X l1 l2 l3 => ?_⟩
  rw [List.drop_nil, List.append_nil]
  rw [hfd] at l3
  exact .of_eq (h kV doc pm an cdv ct us ws (by simp at l3; omega) l1)
/-- a parameter without a value: no such call -/
theorem BindD.no {d : Dd} {F : Fn} (hfd : F.dfl = []) (hk : 0 < F.ko) : BindD d [] F := by
  intro K a fd FD
  refine ⟨[], [], .nil, fun g m H => by rw [hfd]; simp [RMs], fun s us ws X l1 l2 l3 => ?_⟩
  rw [hfd] at l3
  simp at l3
  omega
/-- defaults of plain parameters -/
theorem BindD.pos {d : Dd} {F : Fn} (hd : d.dv ≠ []) (hN : F.np ≤ d.N.length) (hle : d.dv.length ≤ F.np) (hfd : F.dfl.length = d.dv.length) (hrm : ∀ K g m H, RMs g m H F.dfl (d.dv.map (Dv.v K)))
    (h : ∀ (j : Nat) (T : Addr) (kV doc pm : Value) (an : Option Addr) (cdv ct : Value) (us its : List Value), us.length + (d.dv.length - j) = F.np → j ≤ d.dv.length → its.length = d.dv.length →
      ∃ k, bindArgs (PySem.W.fnOf d.nm d.name (defArgs d.st) (defBody d.st) (defScope d.st) (.ref T) kV doc pm an cdv ct) ⟨us, []⟩ = seqItems? (.ref T) >>= k ∧ k (some its.toArray) = pure ((d.N.take F.np).zip (us ++ its.drop j))) : BindD d [] F := by
  intro K a fd FD
  have hl : (d.N.take F.np).length = F.np := by rw [List.length_take]; omega
  obtain ⟨oc, od, dV, kV, doc, pm, an, cdv, ct, osl, rfl, lk, hcd, hD, hK⟩ := FD.ex
  rcases hD with ⟨e, _⟩ | ⟨_, T, o, its, m, rfl, lT, oT, rT⟩
  · exact absurd (by simpa using e) hd
  · have li : its.length = d.dv.length := by rw [← rT.length]; simp
    refine ⟨its, d.dv.map (Dv.v K), rT, hrm K, fun s us ws X l1 l2 l3 => ?_⟩
    obtain rfl : ws = [] := List.eq_nil_of_length_eq_zero l1
    rw [List.append_nil]
    simp only [List.length_nil, Nat.add_zero] at l2 l3 ⊢
    obtain ⟨k, e1, e2⟩ := h (us.length + F.dfl.length - F.np) T kV doc pm an cdv ct us its (by omega) (by omega) li
    refine BindsTo.of_looks fun M => ?_
    show PySem.W.Looks M s.heap (bindArgs (PySem.W.fnOf d.nm d.name (defArgs d.st) (defBody d.st) (defScope d.st) (.ref T) kV doc pm an cdv ct) ⟨us, []⟩) _
    rw [e1]
    exact looks_items X lT oT (.of_pure e2)
theorem len1 {α : Type} {l : List α} (h : l.length = 1) : ∃ a, l = [a] := List.length_eq_one_iff.mp h
theorem len2 {α : Type} {l : List α} (h : l.length = 2) : ∃ a b, l = [a, b] := match l, h with
  | [a, b], _ => ⟨a, b, rfl⟩
theorem len3 {α : Type} {l : List α} (h : l.length = 3) : ∃ a b c, l = [a, b, c] := match l, h with
  | [a, b, c], _ => ⟨a, b, c, rfl⟩
end MP
namespace MP
open PySem
/-! ### the machine's runs, plainly -/
structure Has (P : Pg) (f : Str) (F : Fn) : Prop where
  df : P.df f = some F
  fn : P.fns f = true
theorem callF_eq {P : Pg} {d : Nat} {f : Str} {F : Fn} {xs : List M} {h : Hm} (hF : P.df f = some F) (hl : xs.length = F.np) (hd : F.dfl = []) (hn : F.np ≤ F.ns) (hk : F.ko = 0 := by rfl) : callF P (d + 1) f xs h = outOf h (exSs P.toTx (callF P d) F.body (xs.map some ++ List.replicate (F.ns - F.np) none) h) := by
  simp only [callF, hF]
  rw [if_pos ⟨by omega, by omega, hn⟩, hd]
  simp
theorem trim_len {h h1 : Hm} {b : Bool} (e : h1.length = h.length) : trim h h1 b = h1 := by
  unfold trim
  split
  · rw [← e, List.take_length]
  · rfl
theorem trim_app {h e : Hm} : trim h (h ++ e) true = h := by
  unfold trim
  rw [if_pos ⟨rfl, by simp, fun i o hi ho => .inl (by rw [List.getElem?_append_left hi] at ho; exact ho)⟩]
  simp
theorem trim_self {h : Hm} {b : Bool} : trim h h b = h := trim_len rfl
/-- one place changed, more made -/
theorem trim_set {h e : Hm} {t : Nat} {o : O} (hb : belowO h.length o = true) : trim h (h.set t o ++ e) true = h.set t o := by
  have hl : (h.set t o).length = h.length := by simp
  have ap : apartM h (h.set t o ++ e) := by
    refine ⟨by simp, fun i o' hi ho => ?_⟩
    rw [List.getElem?_append_left (by rw [hl]; exact hi)] at ho
    by_cases c : t = i
    · subst c
      rw [List.getElem?_set_self hi] at ho
      cases ho
      exact .inr hb
    · rw [List.getElem?_set_ne c] at ho
      exact .inl ho
  unfold trim
  rw [if_pos ⟨rfl, ap⟩, ← hl, List.take_left']
  rfl
theorem mulOk_l {i j : Int} (h : i.natAbs < 2 ^ 64) : mulOk i j = true := by unfold mulOk; simp [h]
theorem mulOk_r {i j : Int} (h : j.natAbs < 2 ^ 64) : mulOk i j = true := by unfold mulOk; simp [h]
/-! ### one step -/
section
variable {P : Tx} {C : Cal} {s : S} {ss : List S} {env env' : Ev} {h h' h1 : Hm} {v : M} {t : Ev → Hm → Option (Out Bool)} {b : Ev → Hm → Option Fl}
theorem run_next (e : exS P C s env h = some (.next env' h')) : exSs P C (s :: ss) env h = exSs P C ss env' h' := by simp only [exSs, e]
theorem run_ret (e : exS P C s env h = some (.ret v h')) : exSs P C (s :: ss) env h = some (.ret v h') := by simp only [exSs, e]
theorem run_exc {c : Str} {fs : List (Str × M)} (e : exS P C s env h = some (.exc c fs env' h')) : exSs P C (s :: ss) env h = some (.exc c fs env' h') := by simp only [exSs, e]
theorem run_brk (e : exS P C s env h = some (.brk env' h')) : exSs P C (s :: ss) env h = some (.brk env' h') := by simp only [exSs, e]
theorem run_cont (e : exS P C s env h = some (.cont env' h')) : exSs P C (s :: ss) env h = some (.cont env' h') := by simp only [exSs, e]
theorem run_nil : exSs P C [] env h = some (.next env h) := by simp only [exSs]
theorem whl_t (ht : t env h = some (.ok true h1)) (hb : b env h1 = some (.next env' h')) : whl t b env h = whl t b env' h' := by
  rw [whl_eq, ht]
  simp only [bindF_ok, if_true, hb]
theorem whl_f (ht : t env h = some (.ok false h1)) : whl t b env h = some (.next env h1) := by
  rw [whl_eq, ht]
  rfl
theorem whl_r (ht : t env h = some (.ok true h1)) (hb : b env h1 = some (.ret v h')) : whl t b env h = some (.ret v h') := by
  rw [whl_eq, ht]
  simp only [bindF_ok, if_true, hb]
theorem run_whl {e : E} {bs : List S} : exS P C (.whl e bs) env h = whl (evT P C e) (exSs P C bs) env h := by simp only [exS]
/-- an if, its test known -/
theorem run_if {e : E} {as bs : List S} {k : Bool} (ht : evT P C e env h = some (.ok k h1)) : exS P C (.ife e as bs) env h = if k = true then exSs P C as env h1 else exSs P C bs env h1 := by simp only [exS, ht, bindF_ok]
end
/-! ### the tape -/
def F_draw : Fn := ⟨2, 5, [], 0,
  [.ife (.cmp .gt (.ix (.var 0) (.con (.int 2))) (.con (.int 0)))
     [.asg (.nm 2) (.bin .mod (.ix (.var 0) (.con (.int 2))) (.var 1)),
      .seti (.var 0) (.con (.int 2)) (.bin .fdiv (.ix (.var 0) (.con (.int 2))) (.var 1)),
      .ret (.var 2)]
     [],
   .asg (.nm 3) (.con (.int 0)),
   .ife (.cmp .lt (.ix (.var 0) (.con (.int 1))) (.bi .len [(.ix (.var 0) (.con (.int 0)))]))
     [.asg (.nm 3) (.ix (.ix (.var 0) (.con (.int 0))) (.ix (.var 0) (.con (.int 1))))]
     [],
   .seti (.var 0) (.con (.int 1)) (.bin .add (.ix (.var 0) (.con (.int 1))) (.con (.int 1))),
   .ife (.cmp .ge (.var 3) (.bin .pow (.con (.int 10)) (.con (.int 18))))
     [.seti (.var 0) (.con (.int 2)) (.bin .fdiv (.var 3) (.var 1)),
      .ret (.bin .mod (.var 3) (.var 1))]
     [],
   .asg (.nm 4) (.bin .add (.bin .add (.bin .add (.bin .mul (.ix (.var 0) (.con (.int 3))) (.con (.int 48271))) (.bin .mod (.var 3) (.con (.int 2147483647)))) (.bin .mul (.con (.int 7919)) (.ix (.var 0) (.con (.int 1))))) (.con (.int 11))),
   .seti (.var 0) (.con (.int 3)) (.bin .mod (.var 4) (.con (.int 2147483647))),
   .ret (.bin .mod (.bin .mod (.bin .pow (.ix (.var 0) (.con (.int 3))) (.con (.int 5))) (.con (.int 2147483647))) (.var 1))]⟩
structure Tape (h : Hm) (t : Nat) : Prop where
  ex : ∃ (c : Nat) (xs : List Int) (i r s : Int), h[t]? = some (.lst [.ref c, .int i, .int r, .int s]) ∧ c < t ∧ h[c]? = some (.lst (xs.map M.int)) ∧ 0 ≤ i ∧ 0 ≤ s ∧ s < 2147483647
theorem get_set {h : Hm} {t : Nat} {o o' : O} (e : h[t]? = some o) : (h.set t o')[t]? = some o' := by
  have hl : t < h.length := by
    by_cases hl : t < h.length
    · exact hl
    · rw [List.getElem?_eq_none (by omega)] at e; cases e
  exact List.getElem?_set_self hl
theorem get_other {h : Hm} {t c : Nat} {o' : O} (n : c ≠ t) : (h.set t o')[c]? = h[c]? := List.getElem?_set_ne (fun e => n e.symm)
theorem set_set {h : Hm} {t : Nat} {a b : O} : (h.set t a).set t b = h.set t b := List.set_set ..
theorem atI_map {xs : List Int} {i : Int} (h0 : 0 ≤ i) (h1 : i < xs.length) : ∃ c, L2.atI (xs.map M.int) i = some (.int c) := by
  have hi : i.toNat < xs.length := by omega
  refine ⟨xs[i.toNat], ?_⟩
  unfold L2.atI L2.ixN
  have hl : (List.map M.int xs).length = xs.length := by simp
  rw [hl]
  simp [h0, h1, hi]
theorem at4_0 {a b c e : M} : L2.atI [a, b, c, e] 0 = some a := rfl
theorem at4_1 {a b c e : M} : L2.atI [a, b, c, e] 1 = some b := rfl
theorem at4_2 {a b c e : M} : L2.atI [a, b, c, e] 2 = some c := rfl
theorem at4_3 {a b c e : M} : L2.atI [a, b, c, e] 3 = some e := rfl
/-- behind the cell's reading -/
def drawRest : List S := F_draw.body.drop 3
theorem draw_rest {P : Tx} {C : Cal} {h : Hm} {t : Nat} {many cell : Int} (T : Tape h t) (hm : 0 < many) (hm2 : many.natAbs.log2 < 9000) :
    ∃ (r : Int) (o : O), exSs P C drawRest [some (.ref t), some (.int many), none, some (.int cell), none] h = some (.ret (.int r) (h.set t o)) ∧ 0 ≤ r ∧ r < many ∧ Tape (h.set t o) t := by
  obtain ⟨c, xs, i, r, s, e1, nc, e2, hi, hs, hs2⟩ := T.ex
  have e3 : ∀ o', (h.set t o')[t]? = some o' := fun o' => get_set e1
  by_cases hc : (10 : Int) ^ 18 ≤ cell
  · refine ⟨cell % many, .lst [.ref c, .int (i + 1), .int (cell / many), .int s], ?_, Int.emod_nonneg _ (by omega), Int.emod_lt_of_pos _ hm, ⟨c, xs, i + 1, cell / many, s, get_set e1, nc, by rw [get_other (Nat.ne_of_lt nc)]; exact e2, by omega, hs, hs2⟩⟩
    have hc' : (1000000000000000000 : Int) ≤ cell := by simpa using hc
    simp [drawRest, F_draw, exSs, exS, evE, evEs, evT, ixM, itemsM, e1, e3, L2.atI, cmpM, truth, hc', binM, binI, hm, hm2, asgT, asgN, setM, L2.ixN]
  · have hc' : ¬ (1000000000000000000 : Int) ≤ cell := by simpa using hc
    let m := s * 48271 + cell % 2147483647 + 7919 * (i + 1) + 11
    have m1 : 0 ≤ m % 2147483647 := Int.emod_nonneg _ (by omega)
    have m2 : m % 2147483647 < 2147483647 := Int.emod_lt_of_pos _ (by omega)
    refine ⟨(m % 2147483647) ^ 5 % 2147483647 % many, .lst [.ref c, .int (i + 1), .int r, .int (m % 2147483647)], ?_, Int.emod_nonneg _ (by omega), Int.emod_lt_of_pos _ hm, ⟨c, xs, i + 1, r, m % 2147483647, get_set e1, nc, by rw [get_other (Nat.ne_of_lt nc)]; exact e2, by omega, m1, m2⟩⟩
    have m3 : (m % 2147483647).natAbs < 18446744073709551616 := by omega
    have mu1 : mulOk s 48271 = true := mulOk_r (by decide)
    have mu2 : mulOk 7919 (i + 1) = true := mulOk_l (by decide)
    simp only [m] at m3
    simp [drawRest, F_draw, exSs, exS, evE, evEs, evT, ixM, itemsM, e1, e3, L2.atI, cmpM, truth, hc', binM, binI, hm, hm2, asgT, asgN, setM, L2.ixN, mu1, mu2, m3, m]
theorem draw_ok {P : Pg} {d : Nat} {h : Hm} {t : Nat} {many : Int} (hF : Has P "_law_draw" F_draw) (T : Tape h t) (hm : 0 < many) (hm2 : many.natAbs.log2 < 9000) :
    ∃ (r : Int) (o : O), callF P (d + 1) "_law_draw" [.ref t, .int many] h = some (.ok (.int r) (h.set t o)) ∧ 0 ≤ r ∧ r < many ∧ Tape (h.set t o) t := by
  obtain ⟨c, xs, i, r, s, e1, nc, e2, hi, hs, hs2⟩ := T.ex
  rw [callF_eq hF.df rfl rfl (by decide)]
  by_cases hr : 0 < r
  · refine ⟨r % many, .lst [.ref c, .int i, .int (r / many), .int s], ?_, Int.emod_nonneg _ (by omega), Int.emod_lt_of_pos _ hm, ⟨c, xs, i, r / many, s, get_set e1, nc, by rw [get_other (Nat.ne_of_lt nc)]; exact e2, hi, hs, hs2⟩⟩
    simp [F_draw, exSs, exS, evE, evEs, evT, ixM, itemsM, e1, L2.atI, cmpM, truth, hr, binM, binI, hm, hm2, asgT, asgN, setM, L2.ixN, outOf, below]
    exact trim_len (by simp)
  · have key : ∃ cell : Int, exSs P.toTx (callF P d) F_draw.body ([M.ref t, M.int many].map some ++ List.replicate (F_draw.ns - F_draw.np) none) h = exSs P.toTx (callF P d) drawRest [some (.ref t), some (.int many), none, some (.int cell), none] h := by
      by_cases hl : i < xs.length
      · obtain ⟨cell, ec⟩ := atI_map hi hl
        refine ⟨cell, ?_⟩
        simp [drawRest, F_draw, exSs, exS, evE, evEs, evT, ixM, itemsM, e1, e2, cmpM, truth, hr, binM, binI, asgT, asgN, biM, lenM, lenD, hl, ec, at4_0, at4_1, at4_2]
      · refine ⟨0, ?_⟩
        simp [drawRest, F_draw, exSs, exS, evE, evEs, evT, ixM, itemsM, e1, e2, L2.atI, cmpM, truth, hr, binM, binI, asgT, asgN, L2.ixN, biM, lenM, lenD, hl]
    obtain ⟨cell, ek⟩ := key
    obtain ⟨r', o, er, h1, h2, h3⟩ := draw_rest (P := P.toTx) (C := callF P d) (cell := cell) T hm hm2
    refine ⟨r', o, ?_, h1, h2, h3⟩
    rw [ek, er]
    simp only [outOf, below]
    rw [trim_len (by simp)]
end MP
namespace MP
open PySem
/-! ### lowest terms -/
theorem gcd_pos {n d : Int} (h : 0 < d) : 0 < Int.gcd n d := Int.gcd_pos_of_ne_zero_right _ (by omega)
theorem low_pos {n d : Int} (h : 0 < d) : 0 < d / Int.gcd n d := by
  have g : (0 : Int) < Int.gcd n d := by exact_mod_cast gcd_pos (n := n) h
  have e : d / Int.gcd n d * Int.gcd n d = d := Int.ediv_mul_cancel (Int.gcd_dvd_right n d)
  by_cases c : 0 < d / Int.gcd n d
  · exact c
  · have := Int.mul_le_mul_of_nonneg_right (show d / Int.gcd n d ≤ 0 by omega) (Int.le_of_lt g)
    rw [e] at this
    omega
theorem dvd_left {a b c : Int} (h : a ∣ b * c) (g : Int.gcd a c = 1) : a ∣ b := by
  have h' := Int.natAbs_dvd_natAbs.mpr h
  rw [Int.natAbs_mul] at h'
  exact Int.natAbs_dvd_natAbs.mp (Nat.Coprime.dvd_of_dvd_mul_right (by rw [Int.gcd_eq_natAbs_gcd_natAbs] at g; exact g) h')
theorem low_unique {n d p q : Int} (hd : 0 < d) (hq : 0 < q) (hg : Int.gcd p q = 1) (e : n * q = p * d) : n / Int.gcd n d = p ∧ d / Int.gcd n d = q := by
  have g0 := gcd_pos (n := n) hd
  have g : (0 : Int) < Int.gcd n d := by exact_mod_cast g0
  have e1 : n / Int.gcd n d * Int.gcd n d = n := Int.ediv_mul_cancel (Int.gcd_dvd_left n d)
  have e2 : d / Int.gcd n d * Int.gcd n d = d := Int.ediv_mul_cancel (Int.gcd_dvd_right n d)
  have co : Int.gcd (n / Int.gcd n d) (d / Int.gcd n d) = 1 := Int.gcd_ediv_gcd_ediv_gcd g0
  have hd' := low_pos (n := n) hd
  generalize hn' : n / Int.gcd n d = n' at *
  generalize hd'' : d / Int.gcd n d = d' at *
  generalize hgg : ((Int.gcd n d : Nat) : Int) = gg at *
  have e3 : n' * q = p * d' := by
    have : (n' * q) * gg = (p * d') * gg := by
      rw [Int.mul_assoc, Int.mul_comm q, ← Int.mul_assoc, e1, Int.mul_assoc p, e2]
      exact e
    exact (Int.mul_eq_mul_right_iff (by omega)).mp this
  have d1 : d' ∣ q := by
    have : d' ∣ q * n' := ⟨p, by rw [Int.mul_comm q, e3, Int.mul_comm]⟩
    exact dvd_left this (by rw [Int.gcd_comm]; exact co)
  have d2 : q ∣ d' := by
    have : q ∣ d' * p := ⟨n', by rw [Int.mul_comm d', ← e3, Int.mul_comm]⟩
    exact dvd_left this (by rw [Int.gcd_comm]; exact hg)
  have eq := Int.dvd_antisymm (by omega) (by omega) d1 d2
  subst eq
  exact ⟨(Int.mul_eq_mul_right_iff (by omega)).mp e3, rfl⟩
theorem gcd_step {x y : Int} (hx : 0 ≤ x) (hy : 0 < y) : Int.gcd y (x % y) = Int.gcd x y := by
  rw [Int.gcd_eq_natAbs_gcd_natAbs, Int.gcd_eq_natAbs_gcd_natAbs, Int.natAbs_emod_of_nonneg hx]
  rw [Nat.gcd_comm x.natAbs, Nat.gcd_rec y.natAbs x.natAbs, Nat.gcd_comm]
theorem log2_le {a b : Nat} (h : a ≤ b) : a.log2 ≤ b.log2 := by
  by_cases ha : a = 0
  · subst ha; simp
  · exact (Nat.le_log2 (by omega)).mpr (Nat.le_trans (Nat.log2_self_le ha) h)
/-! ### the text's defs -/
def G_is_integer : Fn := ⟨1, 1, [], 0,
  [.ret (.and (.isi (.var 0) .int) (.not (.isi (.var 0) .bool)))]⟩
def G_common_divisor : Fn := ⟨2, 2, [], 0,
  [.par 0 1 (.bi .abs [(.var 0)]) (.bi .abs [(.var 1)]),
   .whl (.cmp .ne (.var 1) (.con (.int 0)))
     [.par 0 1 (.var 1) (.bin .mod (.var 0) (.var 1))],
   .ret (.var 0)]⟩
def G_is_rational : Fn := ⟨1, 1, [], 0,
  [.ife (.or (.not (.isi (.var 0) .tuple)) (.or (.cmp .ne (.bi .len [(.var 0)]) (.con (.int 2))) (.or (.not (.call "is_integer" [(.ix (.var 0) (.con (.int 0)))])) (.not (.call "is_integer" [(.ix (.var 0) (.con (.int 1)))])))))
     [.ret (.con (.bl false))]
     [],
   .ret (.and (.cmp .ge (.ix (.var 0) (.con (.int 1))) (.con (.int 1))) (.cmp .eq (.call "common_divisor" [(.ix (.var 0) (.con (.int 0))), (.ix (.var 0) (.con (.int 1)))]) (.con (.int 1))))]⟩
def G_lowest : Fn := ⟨2, 3, [], 0,
  [.asg (.nm 2) (.call "common_divisor" [(.var 0), (.var 1)]),
   .ret (.tup [(.bin .fdiv (.var 0) (.var 2)), (.bin .fdiv (.var 1) (.var 2))])]⟩
def G_law_lowest : Fn := ⟨2, 5, [], 0,
  [.asg (.nm 2) (.bi .abs [(.var 0)]),
   .asg (.nm 3) (.var 1),
   .whl (.cmp .gt (.var 3) (.con (.int 0)))
     [.asg (.nm 4) (.bin .mod (.var 2) (.var 3)),
      .asg (.nm 2) (.var 3),
      .asg (.nm 3) (.var 4)],
   .ret (.tup [(.bin .fdiv (.var 0) (.var 2)), (.bin .fdiv (.var 1) (.var 2))])]⟩
section
variable {P : Pg} {d : Nat} {h : Hm}
abbrev rat (p q : Int) : M := .tup [.int p, .int q]
theorem integ_ok (F1 : Has P "is_integer" G_is_integer) {v : M} {t : Ty} (ht : tyM h v = some t) : callF P (d + 1) "is_integer" [v] h = some (.ok (.bl (decide (t = .int))) h) := by
  rw [callF_eq F1.df rfl rfl (by decide)]
  simp only [G_is_integer, exSs, exS, evE, List.map_cons, List.map_nil, List.cons_append, List.nil_append, List.getElem?_cons_zero, bindO_ok, ht, bindF_ok, truth]
  cases t <;> simp [tyIs, outOf, below, trim_self]
theorem div_loop {C : Cal} {T : Tx} : ∀ (n : Nat) (x y : Int), 0 ≤ x → 0 ≤ y → y.toNat = n →
    whl (evT T C (.cmp .ne (.var 1) (.con (.int 0)))) (exSs T C [.par 0 1 (.var 1) (.bin .mod (.var 0) (.var 1))]) [some (.int x), some (.int y)] h = some (.next [some (.int (Int.gcd x y)), some (.int 0)] h) := by
  intro n
  induction n using Nat.strongRecOn with
  | ind n ih =>
    intro x y hx hy hn
    by_cases h0 : y = 0
    · subst h0
      refine (whl_f (h1 := h) (by simp [evT, evE, cmpM, eqD, truth])).trans ?_
      simp
      omega
    · have hy' : 0 < y := by omega
      have m1 := Int.emod_nonneg x (show y ≠ 0 by omega)
      have m2 := Int.emod_lt_of_pos x hy'
      refine (whl_t (h1 := h) (env' := [some (.int y), some (.int (x % y))]) (h' := h) (by simp [evT, evE, cmpM, eqD, truth, h0]) (by simp [exSs, exS, evE, binM, binI, hy'])).trans ?_
      rw [ih (x % y).toNat (by omega) y (x % y) hy m1 rfl, gcd_step hx hy']
theorem div_ok (F2 : Has P "common_divisor" G_common_divisor) {a b : Int} : callF P (d + 1) "common_divisor" [.int a, .int b] h = some (.ok (.int (Int.gcd a b)) h) := by
  rw [callF_eq F2.df rfl rfl (by decide)]
  have L := div_loop (C := callF P d) (T := P.toTx) (h := h) b.natAbs a.natAbs b.natAbs (by omega) (by omega) (by omega)
  have ab : ∀ i : Int, (if i < 0 then -i else i) = (i.natAbs : Int) := fun i => by split <;> omega
  have e : exSs P.toTx (callF P d) G_common_divisor.body ([M.int a, M.int b].map some ++ List.replicate (G_common_divisor.ns - G_common_divisor.np) none) h = some (.ret (.int (Int.gcd a b)) h) := by
    refine (run_next (env' := [some (.int a.natAbs), some (.int b.natAbs)]) (h' := h) (by simp [G_common_divisor, exS, evE, evEs, biM, absM, ab])).trans ?_
    refine (run_next (run_whl.trans L)).trans ?_
    refine (run_ret (v := .int (Int.gcd a b)) (h' := h) (by simp [exS, evE, Int.gcd_eq_natAbs_gcd_natAbs])).trans rfl
  rw [e]
  simp [outOf, below, trim_self]
end
end MP
namespace MP
open PySem
/-! ### sizes -/
def Sm (k : Nat) (n : Int) : Prop := n.natAbs < 2 ^ k
theorem Sm.mono {a b : Nat} {n : Int} (h : Sm a n) (e : a ≤ b) : Sm b n := Nat.lt_of_lt_of_le h (Nat.pow_le_pow_right (by decide) e)
theorem Sm.neg {a : Nat} {n : Int} (h : Sm a n) : Sm a (-n) := by unfold Sm; rw [Int.natAbs_neg]; exact h
theorem Sm.add {a : Nat} {m n : Int} (h : Sm a m) (g : Sm a n) : Sm (a + 1) (m + n) := by
  unfold Sm at *
  have := Int.natAbs_add_le m n
  rw [Nat.pow_succ]
  omega
theorem Sm.sub {a : Nat} {m n : Int} (h : Sm a m) (g : Sm a n) : Sm (a + 1) (m - n) := by
  rw [Int.sub_eq_add_neg]; exact h.add g.neg
theorem Sm.mul {a b : Nat} {m n : Int} (h : Sm a m) (g : Sm b n) : Sm (a + b) (m * n) := by
  unfold Sm at *
  rw [Int.natAbs_mul, Nat.pow_add]
  exact Nat.mul_lt_mul_of_lt_of_lt h g
theorem Sm.log {a : Nat} {n : Int} (h : Sm a n) (ha : 0 < a) : n.natAbs.log2 < a := by
  by_cases h0 : n.natAbs = 0
  · rw [h0]; simpa using ha
  · exact (Nat.log2_lt h0).mpr h
theorem Sm.mulOk {a b : Nat} {m n : Int} (h : Sm a m) (g : Sm b n) (ha : 0 < a) (hb : 0 < b) (e : a + b < 1000000) : MP.mulOk m n = true := by
  unfold MP.mulOk
  have := h.log ha
  have := g.log hb
  simp
  omega
theorem Sm.ediv {a : Nat} {n g : Int} (h : Sm a n) (hg : 0 < g) (dv : g ∣ n) : Sm a (n / g) := by
  unfold Sm at *
  have e : n / g * g = n := Int.ediv_mul_cancel dv
  have e2 : (n / g).natAbs * g.natAbs = n.natAbs := by rw [← Int.natAbs_mul, e]
  have : (n / g).natAbs ≤ (n / g).natAbs * g.natAbs := Nat.le_mul_of_pos_right _ (by omega)
  omega
theorem Sm.gcd {a : Nat} {n d : Int} (h : Sm a d) (hd : 0 < d) : Sm a (Int.gcd n d) := by
  unfold Sm at *
  have : Int.gcd n d ≤ d.natAbs := Nat.le_of_dvd (by omega) (by rw [Int.gcd_eq_natAbs_gcd_natAbs]; exact Nat.gcd_dvd_right _ _)
  simp
  omega
/-! ### defs -/
def G_check_rationals : Fn := ⟨2, 3, [], 0,
  [.for_ (.nm 2) (.v (.tup [(.var 0), (.var 1)]))
     [.ife (.not (.call "is_rational" [(.var 2)]))
        [.rai "BadNumber" [(.var 2)]]
        []]]⟩
def G_sum_of : Fn := ⟨2, 2, [], 0,
  [.ret (.call "lowest" [(.bin .add (.bin .mul (.ix (.var 0) (.con (.int 0))) (.ix (.var 1) (.con (.int 1)))) (.bin .mul (.ix (.var 1) (.con (.int 0))) (.ix (.var 0) (.con (.int 1))))), (.bin .mul (.ix (.var 0) (.con (.int 1))) (.ix (.var 1) (.con (.int 1))))])]⟩
def G_negative : Fn := ⟨1, 1, [], 0,
  [.ret (.tup [(.neg (.ix (.var 0) (.con (.int 0)))), (.ix (.var 0) (.con (.int 1)))])]⟩
def G_product_of : Fn := ⟨2, 2, [], 0,
  [.ret (.call "lowest" [(.bin .mul (.ix (.var 0) (.con (.int 0))) (.ix (.var 1) (.con (.int 0)))), (.bin .mul (.ix (.var 0) (.con (.int 1))) (.ix (.var 1) (.con (.int 1))))])]⟩
def G_quotient_of : Fn := ⟨2, 3, [], 0,
  [.asg (.nm 2) (.ife (.cmp .gt (.ix (.var 1) (.con (.int 0))) (.con (.int 0))) (.con (.int 1)) (.neg (.con (.int 1)))),
   .ret (.call "lowest" [(.bin .mul (.bin .mul (.var 2) (.ix (.var 0) (.con (.int 0)))) (.ix (.var 1) (.con (.int 1)))), (.bin .mul (.ix (.var 0) (.con (.int 1))) (.bi .abs [(.ix (.var 1) (.con (.int 0)))]))])]⟩
def G_order_of : Fn := ⟨2, 4, [], 0,
  [.par 2 3 (.bin .mul (.ix (.var 0) (.con (.int 0))) (.ix (.var 1) (.con (.int 1)))) (.bin .mul (.ix (.var 1) (.con (.int 0))) (.ix (.var 0) (.con (.int 1)))),
   .ret (.bin .sub (.bi .int [(.cmp .gt (.var 2) (.var 3))]) (.bi .int [(.cmp .lt (.var 2) (.var 3))]))]⟩
structure Arith0 (P : Pg) : Prop where
  f1 : Has P "is_integer" G_is_integer
  f2 : Has P "common_divisor" G_common_divisor
  f3 : Has P "is_rational" G_is_rational
structure Arith (P : Pg) : Prop extends Arith0 P where
  f4 : Has P "lowest" G_lowest
theorem at2_0 {α : Type} {a b : α} : L2.atI [a, b] 0 = some a := rfl
theorem at2_1 {α : Type} {a b : α} : L2.atI [a, b] 1 = some b := rfl
theorem two_le : (2 : Nat) ≤ sizeLine := by decide
section
variable {P : Pg} {d : Nat} {h : Hm}
abbrev low (n m : Int) : M := rat (n / Int.gcd n m) (m / Int.gcd n m)
theorem fdiv_ok {n g : Int} (hg : 0 < g) (hs : Sm 9000 g) : binI .fdiv n g = some (n / g) := by
  unfold binI
  have := hs.log (by decide)
  simp [hg, this]
theorem lowest_ok (A : Arith P) {n m : Int} (hm : 0 < m) (hs : Sm 9000 m) : callF P (d + 2) "lowest" [.int n, .int m] h = some (.ok (low n m) h) := by
  rw [callF_eq A.f4.df rfl rfl (by decide)]
  have g1 : (0 : Int) < Int.gcd n m := by exact_mod_cast gcd_pos (n := n) hm
  have e1 := fdiv_ok (n := n) g1 (hs.gcd hm)
  have e2 := fdiv_ok (n := m) g1 (hs.gcd hm)
  have dv := div_ok (P := P) (d := d) (h := h) A.f2 (a := n) (b := m)
  simp [G_lowest, exSs, exS, evE, evEs, A.f2.fn, dv, asgT, asgN, binM, e1, e2, outOf, below, belows, trim_self, two_le]
theorem law_loop {C : Cal} {T : Tx} {n m : Int} : ∀ (k : Nat) (x y : Int) (z : Option M), 0 ≤ x → 0 ≤ y → y.toNat = k → ∃ z', 
    whl (evT T C (.cmp .gt (.var 3) (.con (.int 0)))) (exSs T C [.asg (.nm 4) (.bin .mod (.var 2) (.var 3)), .asg (.nm 2) (.var 3), .asg (.nm 3) (.var 4)]) [some (.int n), some (.int m), some (.int x), some (.int y), z] h = some (.next [some (.int n), some (.int m), some (.int (Int.gcd x y)), some (.int 0), z'] h) := by
  intro k
  induction k using Nat.strongRecOn with
  | ind k ih =>
    intro x y z hx hy hn
    by_cases h0 : y = 0
    · subst h0
      refine ⟨z, (whl_f (h1 := h) (by simp [evT, evE, cmpM, eqD, truth])).trans ?_⟩
      simp
      omega
    · have hy' : 0 < y := by omega
      have m1 := Int.emod_nonneg x (show y ≠ 0 by omega)
      have m2 := Int.emod_lt_of_pos x hy'
      obtain ⟨z', e⟩ := ih (x % y).toNat (by omega) y (x % y) (some (.int (x % y))) hy m1 rfl
      refine ⟨z', (whl_t (h1 := h) (env' := [some (.int n), some (.int m), some (.int y), some (.int (x % y)), some (.int (x % y))]) (h' := h) (by simp [evT, evE, cmpM, eqD, truth, hy']) (by simp [exSs, exS, evE, binM, binI, hy', asgT, asgN])).trans ?_⟩
      rw [e, gcd_step hx hy']
theorem law_lowest_ok (F : Has P "_law_lowest" G_law_lowest) {n m : Int} (hm : 0 < m) (hs : Sm 9000 m) : callF P (d + 1) "_law_lowest" [.int n, .int m] h = some (.ok (low n m) h) := by
  rw [callF_eq F.df rfl rfl (by decide)]
  have g1 : (0 : Int) < Int.gcd n m := by exact_mod_cast gcd_pos (n := n) hm
  have e1 := fdiv_ok (n := n) g1 (hs.gcd hm)
  have e2 := fdiv_ok (n := m) g1 (hs.gcd hm)
  have ab : ∀ i : Int, (if i < 0 then -i else i) = (i.natAbs : Int) := fun i => by split <;> omega
  obtain ⟨z', L⟩ := law_loop (C := callF P d) (T := P.toTx) (h := h) (n := n) (m := m) m.toNat n.natAbs m none (by omega) (by omega) rfl
  have e : exSs P.toTx (callF P d) G_law_lowest.body ([M.int n, M.int m].map some ++ List.replicate (G_law_lowest.ns - G_law_lowest.np) none) h = some (.ret (low n m) h) := by
    refine (run_next (env' := [some (.int n), some (.int m), some (.int n.natAbs), none, none]) (h' := h) (by simp [G_law_lowest, exS, evE, evEs, biM, absM, ab, asgT, asgN])).trans ?_
    refine (run_next (env' := [some (.int n), some (.int m), some (.int n.natAbs), some (.int m), none]) (h' := h) (by simp [exS, evE, asgT, asgN])).trans ?_
    refine (run_next (run_whl.trans L)).trans ?_
    have eg : (Int.gcd (n.natAbs : Int) m) = Int.gcd n m := by simp [Int.gcd_eq_natAbs_gcd_natAbs]
    refine (run_ret (v := low n m) (h' := h) ?_)
    rw [eg]
    simp [exS, evE, evEs, binM, e1, e2, two_le]
  rw [e]
  simp [outOf, below, belows, trim_self]
/-! ### what is a rational -/
theorem israt_ok (A : Arith0 P) {p q : Int} : callF P (d + 2) "is_rational" [rat p q] h = some (.ok (.bl (decide (1 ≤ q) && decide (Int.gcd p q = 1))) h) := by
  rw [callF_eq A.f3.df rfl rfl (by decide)]
  have i1 := integ_ok (P := P) (d := d) (h := h) A.f1 (v := .int p) rfl
  have i2 := integ_ok (P := P) (d := d) (h := h) A.f1 (v := .int q) rfl
  have dv := div_ok (P := P) (d := d) (h := h) A.f2 (a := p) (b := q)
  by_cases hq : 1 ≤ q
  · simp [G_is_rational, exSs, exS, evE, evEs, evT, tyM, tyIs, truth, biM, lenM, lenD, cmpM, eqD, ixM, itemsM, at2_0, at2_1, A.f1.fn, A.f2.fn, i1, i2, dv, hq, outOf, below, trim_self]
    norm_cast
  · simp [G_is_rational, exSs, exS, evE, evEs, evT, tyM, tyIs, truth, biM, lenM, lenD, cmpM, eqD, ixM, itemsM, at2_0, at2_1, A.f1.fn, A.f2.fn, i1, i2, dv, hq, outOf, below, trim_self]
theorem israt_ty (A : Arith0 P) {v : M} {t : Ty} (ht : tyM h v = some t) (hn : t ≠ .tuple) : callF P (d + 2) "is_rational" [v] h = some (.ok (.bl false) h) := by
  rw [callF_eq A.f3.df rfl rfl (by decide)]
  have e : tyIs t .tuple = false := by cases t <;> first | rfl | exact absurd rfl hn
  simp [G_is_rational, exSs, exS, evE, evEs, evT, ht, e, truth, outOf, below, trim_self]
theorem israt_len (A : Arith0 P) {xs : List M} (hn : xs.length ≠ 2) : callF P (d + 2) "is_rational" [.tup xs] h = some (.ok (.bl false) h) := by
  rw [callF_eq A.f3.df rfl rfl (by decide)]
  have hn' : ¬ ((xs.length : Int) = 2) := by omega
  simp [G_is_rational, exSs, exS, evE, evEs, evT, tyM, tyIs, truth, biM, lenM, lenD, cmpM, eqD, hn', outOf, below, trim_self]
theorem israt_two (A : Arith0 P) {x y : M} {t u : Ty} (hx : tyM h x = some t) (hy : tyM h y = some u) (hn : t ≠ .int ∨ u ≠ .int) : callF P (d + 2) "is_rational" [.tup [x, y]] h = some (.ok (.bl false) h) := by
  rw [callF_eq A.f3.df rfl rfl (by decide)]
  have i1 := integ_ok (P := P) (d := d) (h := h) A.f1 (v := x) hx
  have i2 := integ_ok (P := P) (d := d) (h := h) A.f1 (v := y) hy
  by_cases ht : t = .int
  · have hu : u ≠ .int := hn.resolve_left (fun z => z ht)
    simp [G_is_rational, exSs, exS, evE, evEs, evT, tyM, tyIs, truth, biM, lenM, lenD, cmpM, eqD, ixM, itemsM, at2_0, at2_1, A.f1.fn, A.f2.fn, i1, i2, ht, hu, outOf, below, trim_self]
  · simp [G_is_rational, exSs, exS, evE, evEs, evT, tyM, tyIs, truth, biM, lenM, lenD, cmpM, eqD, ixM, itemsM, at2_0, at2_1, A.f1.fn, A.f2.fn, i1, i2, ht, outOf, below, trim_self]
end
end MP
namespace MP
open PySem
def G_add : Fn := ⟨2, 2, [], 0,
  [.exp (.call "check_rationals" [(.var 0), (.var 1)]),
   .ret (.call "sum_of" [(.var 0), (.var 1)])]⟩
def G_subtract : Fn := ⟨2, 2, [], 0,
  [.exp (.call "check_rationals" [(.var 0), (.var 1)]),
   .ret (.call "sum_of" [(.var 0), (.call "negative" [(.var 1)])])]⟩
def G_multiply : Fn := ⟨2, 2, [], 0,
  [.exp (.call "check_rationals" [(.var 0), (.var 1)]),
   .ret (.call "product_of" [(.var 0), (.var 1)])]⟩
def G_divide : Fn := ⟨2, 2, [], 0,
  [.exp (.call "check_rationals" [(.var 0), (.var 1)]),
   .ife (.cmp .eq (.ix (.var 1) (.con (.int 0))) (.con (.int 0)))
     [.rai "DivisionByZero" []]
     [],
   .ret (.call "quotient_of" [(.var 0), (.var 1)])]⟩
def G_compare : Fn := ⟨2, 2, [], 0,
  [.exp (.call "check_rationals" [(.var 0), (.var 1)]),
   .ret (.call "order_of" [(.var 0), (.var 1)])]⟩
structure Arith2 (P : Pg) : Prop extends Arith P where
  c1 : Has P "check_rationals" G_check_rationals
  c2 : Has P "sum_of" G_sum_of
  c3 : Has P "negative" G_negative
  c4 : Has P "product_of" G_product_of
  c5 : Has P "quotient_of" G_quotient_of
  c6 : Has P "order_of" G_order_of
  a1 : Has P "add" G_add
  a2 : Has P "subtract" G_subtract
  a3 : Has P "multiply" G_multiply
  a4 : Has P "divide" G_divide
  a5 : Has P "compare" G_compare
  e1 : P.err "BadNumber" = some [("given" : Str)]
  e2 : P.err "DivisionByZero" = some []
/-- a rational of at most k bits each part -/
structure Rq (k : Nat) (p q : Int) : Prop where
  pos : 0 < q
  co : Int.gcd p q = 1
  sp : Sm k p
  sq : Sm k q
section
variable {P : Pg} {d : Nat} {h : Hm}
/-- what is_rational says of a value, at every depth -/
def SaysR (P : Pg) (h : Hm) (v : M) (b : Bool) : Prop := ∀ d, callF P (d + 2) "is_rational" [v] h = some (.ok (.bl b) h)
theorem saysR_rat (A : Arith P) {k : Nat} {p q : Int} (r : Rq k p q) : SaysR P h (rat p q) true := fun d => by
  rw [israt_ok A.toArith0, r.co, decide_eq_true (show 1 ≤ q from r.pos)]; rfl
theorem check_ok (A : Arith2 P) {a b : M} (ha : SaysR P h a true) (hb : SaysR P h b true) : callF P (d + 3) "check_rationals" [a, b] h = some (.ok .non h) := by
  rw [callF_eq A.c1.df rfl rfl (by decide)]
  simp [G_check_rationals, exSs, exS, evI, evE, evEs, evT, iterM, itemsM, guardM, forGo, kept, asgT, asgN, A.f3.fn, ha d, hb d, truth, outOf, trim_self, two_le]
theorem check_bad1 (A : Arith2 P) {a b : M} (ha : SaysR P h a false) : callF P (d + 3) "check_rationals" [a, b] h = some (.exc "BadNumber" [("given", a)] h) := by
  rw [callF_eq A.c1.df rfl rfl (by decide)]
  simp [G_check_rationals, exSs, exS, evI, evE, evEs, evT, iterM, itemsM, guardM, forGo, kept, asgT, asgN, A.f3.fn, A.e1, ha d, truth, outOf, trim_self, two_le]
theorem check_bad2 (A : Arith2 P) {a b : M} (ha : SaysR P h a true) (hb : SaysR P h b false) : callF P (d + 3) "check_rationals" [a, b] h = some (.exc "BadNumber" [("given", b)] h) := by
  rw [callF_eq A.c1.df rfl rfl (by decide)]
  simp [G_check_rationals, exSs, exS, evI, evE, evEs, evT, iterM, itemsM, guardM, forGo, kept, asgT, asgN, A.f3.fn, A.e1, ha d, hb d, truth, outOf, trim_self, two_le]
/-! ### sums, products, quotients, orders -/
variable {p q r s : Int} {k l : Nat}
theorem sum_ok (A : Arith2 P) (x : Rq k p q) (y : Rq l r s) (hk : k + l < 9000) (k0 : 0 < k) (l0 : 0 < l) : callF P (d + 3) "sum_of" [rat p q, rat r s] h = some (.ok (low (p * s + r * q) (q * s)) h) := by
  rw [callF_eq A.c2.df rfl rfl (by decide)]
  have L := lowest_ok (P := P) (d := d) (h := h) A.toArith (n := p * s + r * q) (m := q * s) (Int.mul_pos x.pos y.pos) ((x.sq.mul y.sq).mono (by omega))
  have m1 := x.sp.mulOk y.sq k0 l0 (by omega)
  have m2 := y.sp.mulOk x.sq l0 k0 (by omega)
  have m3 := x.sq.mulOk y.sq k0 l0 (by omega)
  simp [G_sum_of, exSs, exS, evE, evEs, ixM, itemsM, at2_0, at2_1, binM, binI, m1, m2, m3, A.f4.fn, L, outOf, below, belows, trim_self]
theorem prod_ok (A : Arith2 P) (x : Rq k p q) (y : Rq l r s) (hk : k + l < 9000) (k0 : 0 < k) (l0 : 0 < l) : callF P (d + 3) "product_of" [rat p q, rat r s] h = some (.ok (low (p * r) (q * s)) h) := by
  rw [callF_eq A.c4.df rfl rfl (by decide)]
  have L := lowest_ok (P := P) (d := d) (h := h) A.toArith (n := p * r) (m := q * s) (Int.mul_pos x.pos y.pos) ((x.sq.mul y.sq).mono (by omega))
  have m1 := x.sp.mulOk y.sp k0 l0 (by omega)
  have m3 := x.sq.mulOk y.sq k0 l0 (by omega)
  simp [G_product_of, exSs, exS, evE, evEs, ixM, itemsM, at2_0, at2_1, binM, binI, m1, m3, A.f4.fn, L, outOf, below, belows, trim_self]
theorem neg_ok (A : Arith2 P) : callF P (d + 1) "negative" [rat p q] h = some (.ok (rat (-p) q) h) := by
  rw [callF_eq A.c3.df rfl rfl (by decide)]
  simp [G_negative, exSs, exS, evE, evEs, ixM, itemsM, at2_0, at2_1, outOf, below, belows, trim_self, two_le]
def sgn (r : Int) : Int := if 0 < r then 1 else -1
theorem quot_ok (A : Arith2 P) (x : Rq k p q) (y : Rq l r s) (hr : r ≠ 0) (hk : k + l < 9000) (k0 : 0 < k) (l0 : 0 < l) : callF P (d + 3) "quotient_of" [rat p q, rat r s] h = some (.ok (low (sgn r * p * s) (q * r.natAbs)) h) := by
  rw [callF_eq A.c5.df rfl rfl (by decide)]
  have ab : (if r < 0 then -r else r) = (r.natAbs : Int) := by split <;> omega
  have hp : (0 : Int) < r.natAbs := by omega
  have sa : Sm l (r.natAbs : Int) := by unfold Sm; simpa [Sm] using y.sp
  have L := lowest_ok (P := P) (d := d) (h := h) A.toArith (n := sgn r * p * s) (m := q * r.natAbs) (Int.mul_pos x.pos hp) ((x.sq.mul sa).mono (by omega))
  have s1 : Sm 1 (sgn r) := by unfold sgn Sm; split <;> decide
  have m1 : mulOk (sgn r) p = true := mulOk_l (by unfold sgn; split <;> decide)
  have m2 := ((s1.mul x.sp).mono (b := k + 1) (by omega)).mulOk y.sq (by omega) l0 (by omega)
  have m3 := x.sq.mulOk sa k0 l0 (by omega)
  by_cases h0 : 0 < r
  · have e : sgn r = 1 := if_pos h0
    rw [e] at L m1 m2
    rw [e]
    simp [G_quotient_of, exSs, exS, evE, evEs, evT, ixM, itemsM, at2_0, at2_1, cmpM, truth, h0, asgT, asgN, binM, binI, m1, m2, m3, biM, absM, ab, A.f4.fn] 
    simp at L m2
    simp [L, m2, outOf, below, belows, trim_self]
  · have e : sgn r = -1 := if_neg h0
    rw [e] at L m1 m2
    rw [e]
    simp [G_quotient_of, exSs, exS, evE, evEs, evT, ixM, itemsM, at2_0, at2_1, cmpM, truth, h0, asgT, asgN, binM, binI, m1, m2, m3, biM, absM, ab, A.f4.fn]
    simp at L m2
    simp [L, m2, outOf, below, belows, trim_self]
def ord (l r : Int) : Int := (if r < l then 1 else 0) - (if l < r then 1 else 0)
theorem order_ok (A : Arith2 P) (x : Rq k p q) (y : Rq l r s) (hk : k + l < 9000) (k0 : 0 < k) (l0 : 0 < l) : callF P (d + 1) "order_of" [rat p q, rat r s] h = some (.ok (.int (ord (p * s) (r * q))) h) := by
  rw [callF_eq A.c6.df rfl rfl (by decide)]
  have m1 := x.sp.mulOk y.sq k0 l0 (by omega)
  have m2 := y.sp.mulOk x.sq l0 k0 (by omega)
  simp [G_order_of, exSs, exS, evE, evEs, ixM, itemsM, at2_0, at2_1, binM, binI, m1, m2, cmpM, biM, intM, ord, outOf, below, trim_self]
/-! ### the five -/
theorem add_ok (A : Arith2 P) (x : Rq k p q) (y : Rq l r s) (hk : k + l < 9000) (k0 : 0 < k) (l0 : 0 < l) : callF P (d + 4) "add" [rat p q, rat r s] h = some (.ok (low (p * s + r * q) (q * s)) h) := by
  rw [callF_eq A.a1.df rfl rfl (by decide)]
  have c := check_ok (P := P) (d := d) (h := h) A (saysR_rat A.toArith x) (saysR_rat A.toArith y)
  have e := sum_ok (P := P) (d := d) (h := h) A x y hk k0 l0
  simp [G_add, exSs, exS, evE, evEs, A.c1.fn, A.c2.fn, c, e, outOf, below, belows, trim_self]
theorem Rq.neg (x : Rq k p q) : Rq k (-p) q := ⟨x.pos, by rw [Int.neg_gcd]; exact x.co, x.sp.neg, x.sq⟩
theorem subt_ok (A : Arith2 P) (x : Rq k p q) (y : Rq l r s) (hk : k + l < 9000) (k0 : 0 < k) (l0 : 0 < l) : callF P (d + 4) "subtract" [rat p q, rat r s] h = some (.ok (low (p * s + -r * q) (q * s)) h) := by
  rw [callF_eq A.a2.df rfl rfl (by decide)]
  have c := check_ok (P := P) (d := d) (h := h) A (saysR_rat A.toArith x) (saysR_rat A.toArith y)
  have n := neg_ok (P := P) (d := d + 2) (h := h) A (p := r) (q := s)
  have e := sum_ok (P := P) (d := d) (h := h) A x y.neg hk k0 l0
  simp [G_subtract, exSs, exS, evE, evEs, A.c1.fn, A.c2.fn, A.c3.fn, c, n, e, outOf, below, belows, trim_self]
theorem mul_ok (A : Arith2 P) (x : Rq k p q) (y : Rq l r s) (hk : k + l < 9000) (k0 : 0 < k) (l0 : 0 < l) : callF P (d + 4) "multiply" [rat p q, rat r s] h = some (.ok (low (p * r) (q * s)) h) := by
  rw [callF_eq A.a3.df rfl rfl (by decide)]
  have c := check_ok (P := P) (d := d) (h := h) A (saysR_rat A.toArith x) (saysR_rat A.toArith y)
  have e := prod_ok (P := P) (d := d) (h := h) A x y hk k0 l0
  simp [G_multiply, exSs, exS, evE, evEs, A.c1.fn, A.c4.fn, c, e, outOf, below, belows, trim_self]
theorem div_ok2 (A : Arith2 P) (x : Rq k p q) (y : Rq l r s) (hr : r ≠ 0) (hk : k + l < 9000) (k0 : 0 < k) (l0 : 0 < l) : callF P (d + 4) "divide" [rat p q, rat r s] h = some (.ok (low (sgn r * p * s) (q * r.natAbs)) h) := by
  rw [callF_eq A.a4.df rfl rfl (by decide)]
  have c := check_ok (P := P) (d := d) (h := h) A (saysR_rat A.toArith x) (saysR_rat A.toArith y)
  have e := quot_ok (P := P) (d := d) (h := h) A x y hr hk k0 l0
  simp [G_divide, exSs, exS, evE, evEs, evT, ixM, itemsM, at2_0, cmpM, eqD, truth, hr, A.c1.fn, A.c5.fn, c, e, outOf, below, belows, trim_self]
theorem div_zero (A : Arith2 P) (x : Rq k p q) (y : Rq l 0 s) : callF P (d + 4) "divide" [rat p q, rat 0 s] h = some (.exc "DivisionByZero" [] h) := by
  rw [callF_eq A.a4.df rfl rfl (by decide)]
  have c := check_ok (P := P) (d := d) (h := h) A (saysR_rat A.toArith x) (saysR_rat A.toArith y)
  simp [G_divide, exSs, exS, evE, evEs, evT, ixM, itemsM, at2_0, cmpM, eqD, truth, A.c1.fn, c, A.e2, outOf, belowF, trim_self]
theorem cmp_ok (A : Arith2 P) (x : Rq k p q) (y : Rq l r s) (hk : k + l < 9000) (k0 : 0 < k) (l0 : 0 < l) : callF P (d + 4) "compare" [rat p q, rat r s] h = some (.ok (.int (ord (p * s) (r * q))) h) := by
  rw [callF_eq A.a5.df rfl rfl (by decide)]
  have c := check_ok (P := P) (d := d) (h := h) A (saysR_rat A.toArith x) (saysR_rat A.toArith y)
  have e := order_ok (P := P) (d := d + 2) (h := h) A x y hk k0 l0
  simp [G_compare, exSs, exS, evE, evEs, A.c1.fn, A.c6.fn, c, e, outOf, below, trim_self]
/-- each of the five refuses what is no rational -/
theorem five_bad (A : Arith2 P) {f : Str} (hf : f ∈ (["add", "subtract", "multiply", "divide", "compare"] : List Str)) {a b v : M} (c : callF P (d + 3) "check_rationals" [a, b] h = some (.exc "BadNumber" [("given", v)] h)) :
    callF P (d + 4) f [a, b] h = some (.exc "BadNumber" [("given", v)] h) := by
  simp only [List.mem_cons, List.not_mem_nil, or_false] at hf
  rcases hf with rfl | rfl | rfl | rfl | rfl
  · rw [callF_eq A.a1.df rfl rfl (by decide)]; simp [G_add, exSs, exS, evE, evEs, A.c1.fn, c, outOf, trim_self]
  · rw [callF_eq A.a2.df rfl rfl (by decide)]; simp [G_subtract, exSs, exS, evE, evEs, A.c1.fn, c, outOf, trim_self]
  · rw [callF_eq A.a3.df rfl rfl (by decide)]; simp [G_multiply, exSs, exS, evE, evEs, A.c1.fn, c, outOf, trim_self]
  · rw [callF_eq A.a4.df rfl rfl (by decide)]; simp [G_divide, exSs, exS, evE, evEs, A.c1.fn, c, outOf, trim_self]
  · rw [callF_eq A.a5.df rfl rfl (by decide)]; simp [G_compare, exSs, exS, evE, evEs, A.c1.fn, c, outOf, trim_self]
end
end MP
namespace MP
open PySem
/-! ### comprehensions and loops, plainly -/
section
variable {P : Tx} {C : Cal} {env : Ev} {h h1 : Hm}
theorem guard_kept {x : M} : kept h (guardM h x) := by
  unfold kept guardM
  intro g hg
  split at hg
  · split at hg
    · rename_i o e
      simp at hg
      subst hg
      exact e
    · cases hg
  · cases hg
/-- one turn of a comprehension -/
noncomputable def lcTurn (P : Tx) (C : Cal) (env : Ev) (vs : List Nat) (t : T) (c : Option E) (e : E) (y : M) (h2 : Hm) : Option (Out (Option M)) := match asgT t y (wipeM env vs) with
  | some env2 => bindO (evC P C c env2 h2) fun k h3 => if k = true then bindO (evE P C e env2 h3) fun z h4 => some (.ok (some z) h4) else some (.ok none h3)
  | none => none
theorem lcGo_pure {f : M → Hm → Option (Out (Option M))} {o : M → Option M} : ∀ {xs acc : List M}, (∀ y ∈ xs, f y h = some (.ok (o y) h)) → acc.length + xs.length ≤ sizeLine → lcGo f xs acc h = some (.ok (acc ++ xs.filterMap o) h)
  | [], acc, _, _ => by simp [lcGo]
  | x :: xs, acc, hf, hl => by
    have e := hf x (by simp)
    have ih := fun acc' hl' => lcGo_pure (f := f) (o := o) (xs := xs) (acc := acc') (fun y hy => hf y (by simp [hy])) hl'
    simp at hl
    simp only [lcGo, e]
    cases q : o x with
    | none =>
      simp only [List.filterMap_cons, q]
      exact ih acc (by omega)
    | some y =>
      simp only [List.filterMap_cons, q]
      rw [if_pos (by omega), ih (acc ++ [y]) (by simp; omega)]
      simp
theorem lc_ok {vs : List Nat} {t : T} {s : IT} {e : E} {c : Option E} {xs : List M} {gs : List (Nat × O)} {o : M → Option M} (hs : evI P C s env h = some (.ok (xs, gs) h1)) (hk : kept h1 gs) (hl : xs.length ≤ sizeLine) (hf : ∀ y ∈ xs, lcTurn P C env vs t c e y h1 = some (.ok (o y) h1)) :
    evL P C (.lc vs t s c e) env h = some (.ok (xs.filterMap o) h1) := by
  simp only [evL, hs, bindO_ok]
  rw [lcGo_pure (o := o) (h := h1) (fun y hy => ?_) (by simpa using hl)]
  · simp only [bindO_ok, List.nil_append]
    rw [if_pos hk]
  · rw [if_pos hk]
    exact hf y hy
/-- a for that keeps a word -/
theorem for_inv {f : M → Ev → Hm → Option Fl} {gs : List (Nat × O)} {I : Ev → Hm → Prop} (hk : ∀ env h, I env h → kept h gs) : ∀ {xs : List M}, (∀ x ∈ xs, ∀ env h, I env h → ∃ env' h', f x env h = some (.next env' h') ∧ I env' h') → ∀ {env : Ev} {h : Hm}, I env h →
    ∃ env' h', forGo f gs xs env h = some (.next env' h') ∧ I env' h'
  | [], _, env, h, i => ⟨env, h, by simp only [forGo]; rw [if_pos (hk env h i)], i⟩
  | x :: xs, st, env, h, i => by
    obtain ⟨e1, h1, q, i1⟩ := st x (by simp) env h i
    obtain ⟨e2, h2, q2, i2⟩ := for_inv hk (xs := xs) (fun y hy => st y (by simp [hy])) i1
    refine ⟨e2, h2, ?_, i2⟩
    simp only [forGo]
    rw [if_pos (hk env h i), q]
    exact q2
/-! ### nodes by their parts -/
theorem ev_cmp {op : Cop} {a b : E} {x y : M} {k : Bool} {h2 : Hm} (ha : evE P C a env h = some (.ok x h1)) (hb : evE P C b env h1 = some (.ok y h2)) (hc : cmpM h2 op x y = some k) : evE P C (.cmp op a b) env h = some (.ok (.bl k) h2) := by
  rw [evE, ha, bindO_ok, hb, bindO_ok, hc]; rfl
theorem ev_new {l : LE} {xs : List M} (hl : evL P C l env h = some (.ok xs h1)) : evE P C (.new l) env h = some (.ok (.ref h1.length) (h1 ++ [.lst xs])) := by
  rw [evE, hl]; rfl
theorem ev_not {a : E} {x : M} {k : Bool} (ha : evE P C a env h = some (.ok x h1)) (ht : truth h1 x = some k) : evE P C (.not a) env h = some (.ok (.bl (!k)) h1) := by
  rw [evE, ha, bindO_ok, ht]
theorem ev_and_t {a b : E} {x : M} (ha : evE P C a env h = some (.ok x h1)) (ht : truth h1 x = some true) : evE P C (.and a b) env h = evE P C b env h1 := by
  rw [evE, ha, bindO_ok, ht]
theorem ev_and_f {a b : E} {x : M} (ha : evE P C a env h = some (.ok x h1)) (ht : truth h1 x = some false) : evE P C (.and a b) env h = some (.ok x h1) := by
  rw [evE, ha, bindO_ok, ht]
theorem ev_or_f {a b : E} {x : M} (ha : evE P C a env h = some (.ok x h1)) (ht : truth h1 x = some false) : evE P C (.or a b) env h = evE P C b env h1 := by
  rw [evE, ha, bindO_ok, ht]
theorem ev_or_t {a b : E} {x : M} (ha : evE P C a env h = some (.ok x h1)) (ht : truth h1 x = some true) : evE P C (.or a b) env h = some (.ok x h1) := by
  rw [evE, ha, bindO_ok, ht]
theorem ev_call {f : Str} {es : List E} {xs : List M} (hf : P.fns f = true) (ha : evEs P C es env h = some (.ok xs h1)) : evE P C (.call f es) env h = C f xs h1 := by
  rw [evE, if_pos hf, ha, bindO_ok]
theorem ev_t {a : E} {x : M} {k : Bool} (ha : evE P C a env h = some (.ok x h1)) (ht : truth h1 x = some k) : evT P C a env h = some (.ok k h1) := by
  unfold evT
  rw [ha, bindO_ok, ht]; rfl
theorem run_retE {a : E} {x : M} (ha : evE P C a env h = some (.ok x h1)) : exS P C (.ret a) env h = some (.ret x h1) := by
  rw [exS, ha]; rfl
theorem run_asg {t : T} {a : E} {x : M} {env' : Ev} (ha : evE P C a env h = some (.ok x h1)) (ht : asgT t x env = some env') : exS P C (.asg t a) env h = some (.next env' h1) := by
  rw [exS, ha, bindF_ok, ht]
theorem run_if_f {a : E} {as : List S} (ht : evT P C a env h = some (.ok false h1)) : exS P C (.ife a as []) env h = some (.next env h1) := by
  rw [run_if ht]
  simp [exSs]
theorem kept_nil : kept h [] := fun g hg => by cases hg
/-- one turn of a for -/
noncomputable def forTurn (P : Tx) (C : Cal) (t : T) (bs : List S) (x : M) (env : Ev) (h : Hm) : Option Fl := match asgT t x env with
  | some env' => exSs P C bs env' h
  | none => none
theorem run_for {t : T} {it : IT} {bs : List S} {xg : List M × List (Nat × O)} (hi : evI P C it env h = some (.ok xg h1)) : exS P C (.for_ t it bs) env h = forGo (forTurn P C t bs) xg.2 xg.1 env h1 := by
  simp only [exS, hi, bindF_ok]
  rfl
theorem turn_ok {t : T} {bs : List S} {x : M} {env' : Ev} (e : asgT t x env = some env') : forTurn P C t bs x env h = exSs P C bs env' h := by
  unfold forTurn
  rw [e]
end
/-! ### heaps that grow -/
theorem get_app {h e : Hm} {a : Nat} {o : O} (x : h[a]? = some o) : (h ++ e)[a]? = some o := by
  have hl : a < h.length := by
    by_cases hl : a < h.length
    · exact hl
    · rw [List.getElem?_eq_none (by omega)] at x; cases x
  rw [List.getElem?_append_left hl]
  exact x
theorem Tape.app {h e : Hm} {t : Nat} (T : Tape h t) : Tape (h ++ e) t := by
  obtain ⟨c, xs, i, r, s, e1, nc, e2, hi, hs, hs2⟩ := T.ex
  exact ⟨c, xs, i, r, s, get_app e1, nc, get_app e2, hi, hs, hs2⟩
theorem get_len {h e : Hm} {o : O} : (h ++ o :: e)[h.length]? = some o := by simp
end MP
namespace MP
open PySem
/-! ### how long what is shown is -/
theorem str_len (s : String) : (Str.ofString s).length = s.length := by
  rw [Str.ofString_eq_toList]
  show ((s.toList.map Char.toNat).toArray).size = _
  rw [List.size_toArray, List.length_map, String.length_toList]
theorem int_shown {k : Nat} {i : Int} (h : Sm k i) (hk : 0 < k) : (PyData.int i).shown.length ≤ k + 1 := by
  have hlt : i.natAbs < 10 ^ k := Nat.lt_of_lt_of_le h (Nat.pow_le_pow_left (by decide) k)
  have e := (Nat.length_repr_le_iff (n := i.natAbs) hk).mpr hlt
  show (Str.ofString (toString i)).length ≤ _
  rw [str_len]
  cases i with
  | ofNat n =>
    have : toString (Int.ofNat n) = n.repr := rfl
    rw [this]
    have e' : n.repr.length ≤ k := by simpa using e
    omega
  | negSucc n =>
    have : toString (Int.negSucc n) = "-" ++ (n + 1).repr := rfl
    rw [this, String.length_append]
    have e' : (n + 1).repr.length ≤ k := by simpa using e
    have : "-".length = 1 := by decide
    omega
theorem int_showable {k : Nat} {i : Int} (h : Sm k i) (hk : 0 < k) (hk2 : k ≤ 1920) : (PyData.int i).showable = true := by
  have := h.log hk
  simp [PyData.showable]
  omega
theorem join_len (ts : List Str) : (Str.join ", " ts).length ≤ piled ts := by
  cases ts with
  | nil => simp [Str.join, piled]; rfl
  | cons x r =>
    have := join_length_add (x :: r) (by simp)
    omega
theorem tuple_len (ts : List Str) : (tupleText ts).length ≤ piled ts + 3 := by
  unfold tupleText
  rw [strLen_append, strLen_append]
  have := join_len ts
  have a : (("(" : Str)).length = 1 := by decide +kernel
  have b : ((if ts.length == 1 then ",)" else ")" : String) : Str).length ≤ 2 := by split <;> decide +kernel
  omega
theorem from_len : ∀ (ts : List Str) (k : Nat) (acc : Str), (textFrom k acc ts).length ≤ acc.length + piled ts
  | [], k, acc => by simp [textFrom, piled]
  | t :: r, k, acc => by
    have ih := from_len r (k + 1) (acc ++ (if k > 0 then ", " else "" : String) ++ t)
    have e : textFrom k acc (t :: r) = textFrom (k + 1) (acc ++ (if k > 0 then ", " else "" : String) ++ t) r := rfl
    rw [e, piled_cons]
    rw [strLen_append, strLen_append] at ih
    have b : ((if k > 0 then ", " else "" : String) : Str).length ≤ 2 := by split <;> decide +kernel
    omega
theorem list_len (ts : List Str) : (listText ts).length ≤ piled ts + 2 := by
  unfold listText
  rw [strLen_append]
  have := from_len ts 0 "["
  have a : (("[" : Str)).length = 1 := by decide +kernel
  have b : (("]" : Str)).length = 1 := by decide +kernel
  omega
theorem str_shown {x : Str} (h : PyData.strOk x = true) : (PyData.str x).shown.length ≤ 10 * x.length + 2 := by
  refine StrLaws.reprText_len x fun c hc => ?_
  have := Array.all_eq_true_iff_forall_mem.mp h c (by simpa using hc)
  have := of_decide_eq_true this
  omega
/-- n bounds what is shown -/
structure Shw (n : Nat) (d : PyData) : Prop where
  len : d.shown.length ≤ n
  ok : d.showable = true
structure Shws (n : Nat) (ds : List PyData) : Prop where
  len : piled (PyData.shownAll ds) ≤ n
  ok : PyData.showableAll ds = true
theorem Shw.mono {a b : Nat} {d : PyData} (h : Shw a d) (e : a ≤ b) : Shw b d := ⟨Nat.le_trans h.len e, h.ok⟩
theorem shw_int {k : Nat} {i : Int} (h : Sm k i) (hk : 0 < k) (hk2 : k ≤ 1920) : Shw (k + 1) (.int i) := ⟨int_shown h hk, int_showable h hk hk2⟩
theorem shw_str {x : Str} (h : PyData.strOk x = true) : Shw (10 * x.length + 2) (.str x) := ⟨str_shown h, rfl⟩
theorem shw_none : Shw 4 .none := ⟨by decide +kernel, rfl⟩
theorem shw_bool {b : Bool} : Shw 5 (.bool b) := ⟨by cases b <;> decide +kernel, rfl⟩
theorem shw_dict0 : Shw 2 (.dict []) := ⟨by decide +kernel, rfl⟩
theorem shws_nil : Shws 0 [] := ⟨by simp [PyData.shownAll, piled], rfl⟩
theorem shws_cons {a b : Nat} {d : PyData} {ds : List PyData} (h : Shw a d) (g : Shws b ds) : Shws (a + 2 + b) (d :: ds) := by
  refine ⟨?_, ?_⟩
  · simp only [PyData.shownAll]
    rw [piled_cons]
    have := h.len
    have := g.len
    omega
  · simp only [PyData.showableAll]
    rw [h.ok, g.ok]; rfl
theorem shw_tuple {n : Nat} {ds : List PyData} (h : Shws n ds) : Shw (n + 3) (.tuple ds) := by
  refine ⟨?_, ?_⟩
  · have := tuple_len (PyData.shownAll ds)
    have := h.len
    simp only [PyData.shown]
    omega
  · simp only [PyData.showable]
    exact h.ok
theorem shw_list {n : Nat} {ds : List PyData} (h : Shws n ds) : Shw (n + 2) (.list ds) := by
  refine ⟨?_, ?_⟩
  · have := list_len (PyData.shownAll ds)
    have := h.len
    simp only [PyData.shown]
    omega
  · simp only [PyData.showable]
    exact h.ok
theorem repr_shw {h : Hm} {v : M} {n : Nat} {e : PyData} (hd : dat h deepR v = some e) (hs : Shw n e) (hn : n ≤ 16777216) : reprD h v = some (.str e.shown) := by
  have hz : sizeLine = 16777216 := by decide
  unfold reprD
  rw [hd]
  simp only
  rw [if_pos ⟨hs.ok, Nat.le_trans hs.len (by rw [hz]; exact hn)⟩]
end MP
namespace MP
open PySem
/-! ### the second form of the draw -/
def F_draw2 : Fn := ⟨2, 5, [], 0,
  [.ife (.cmp .gt (.ix (.var 0) (.con (.int 2))) (.con (.int 0)))
     [.asg (.nm 2) (.bin .mod (.ix (.var 0) (.con (.int 2))) (.var 1)),
      .seti (.var 0) (.con (.int 2)) (.bin .fdiv (.ix (.var 0) (.con (.int 2))) (.var 1)),
      .ret (.var 2)]
     [],
   .asg (.nm 3) (.con (.int 0)),
   .ife (.cmp .lt (.ix (.var 0) (.con (.int 1))) (.bi .len [(.ix (.var 0) (.con (.int 0)))]))
     [.asg (.nm 3) (.ix (.ix (.var 0) (.con (.int 0))) (.ix (.var 0) (.con (.int 1))))]
     [],
   .seti (.var 0) (.con (.int 1)) (.bin .add (.ix (.var 0) (.con (.int 1))) (.con (.int 1))),
   .ife (.cmp .ge (.var 3) (.bin .pow (.con (.int 10)) (.con (.int 18))))
     [.seti (.var 0) (.con (.int 2)) (.bin .fdiv (.var 3) (.var 1)),
      .ret (.bin .mod (.var 3) (.var 1))]
     [],
   .asg (.nm 4) (.bin .add (.bin .add (.bin .mod (.var 3) (.con (.int 2147483647))) (.bin .mul (.con (.int 7919)) (.ix (.var 0) (.con (.int 1))))) (.con (.int 11))),
   .seti (.var 0) (.con (.int 3)) (.bin .mod (.bin .add (.bin .mul (.ix (.var 0) (.con (.int 3))) (.con (.int 48271))) (.var 4)) (.con (.int 2147483647))),
   .ret (.bin .mod (.bin .mod (.bin .pow (.ix (.var 0) (.con (.int 3))) (.con (.int 5))) (.con (.int 2147483647))) (.var 1))]⟩
def drawRest2 : List S := F_draw2.body.drop 3
theorem draw_rest2 {P : Tx} {C : Cal} {h : Hm} {t : Nat} {many cell : Int} (T : Tape h t) (hm : 0 < many) (hm2 : many.natAbs.log2 < 9000) :
    ∃ (r : Int) (o : O), exSs P C drawRest2 [some (.ref t), some (.int many), none, some (.int cell), none] h = some (.ret (.int r) (h.set t o)) ∧ 0 ≤ r ∧ r < many ∧ Tape (h.set t o) t := by
  obtain ⟨c, xs, i, r, s, e1, nc, e2, hi, hs, hs2⟩ := T.ex
  have e3 : ∀ o', (h.set t o')[t]? = some o' := fun o' => get_set e1
  by_cases hc : (10 : Int) ^ 18 ≤ cell
  · refine ⟨cell % many, .lst [.ref c, .int (i + 1), .int (cell / many), .int s], ?_, Int.emod_nonneg _ (by omega), Int.emod_lt_of_pos _ hm, ⟨c, xs, i + 1, cell / many, s, get_set e1, nc, by rw [get_other (Nat.ne_of_lt nc)]; exact e2, by omega, hs, hs2⟩⟩
    have hc' : (1000000000000000000 : Int) ≤ cell := by simpa using hc
    simp [drawRest2, F_draw2, exSs, exS, evE, evEs, evT, ixM, itemsM, e1, e3, L2.atI, cmpM, truth, hc', binM, binI, hm, hm2, asgT, asgN, setM, L2.ixN]
  · have hc' : ¬ (1000000000000000000 : Int) ≤ cell := by simpa using hc
    let m := s * 48271 + (cell % 2147483647 + 7919 * (i + 1) + 11)
    have m1 : 0 ≤ m % 2147483647 := Int.emod_nonneg _ (by omega)
    have m2 : m % 2147483647 < 2147483647 := Int.emod_lt_of_pos _ (by omega)
    refine ⟨(m % 2147483647) ^ 5 % 2147483647 % many, .lst [.ref c, .int (i + 1), .int r, .int (m % 2147483647)], ?_, Int.emod_nonneg _ (by omega), Int.emod_lt_of_pos _ hm, ⟨c, xs, i + 1, r, m % 2147483647, get_set e1, nc, by rw [get_other (Nat.ne_of_lt nc)]; exact e2, by omega, m1, m2⟩⟩
    have m3 : (m % 2147483647).natAbs < 18446744073709551616 := by omega
    have mu1 : mulOk s 48271 = true := mulOk_r (by decide)
    have mu2 : mulOk 7919 (i + 1) = true := mulOk_l (by decide)
    simp only [m] at m3
    simp [drawRest2, F_draw2, exSs, exS, evE, evEs, evT, ixM, itemsM, e1, e3, L2.atI, cmpM, truth, hc', binM, binI, hm, hm2, asgT, asgN, setM, L2.ixN, mu1, mu2, m3, m]
/-- what a draw keeps, whatever its form -/
def Draws (P : Pg) : Prop := ∀ {d : Nat} {h : Hm} {t : Nat} {many : Int}, Tape h t → 0 < many → many.natAbs.log2 < 9000 →
  ∃ (r : Int) (o : O), callF P (d + 1) "_law_draw" [.ref t, .int many] h = some (.ok (.int r) (h.set t o)) ∧ 0 ≤ r ∧ r < many ∧ Tape (h.set t o) t
theorem draws1 {P : Pg} (hF : Has P "_law_draw" F_draw) : Draws P := fun T hm hm2 => draw_ok hF T hm hm2
theorem draws2 {P : Pg} (hF : Has P "_law_draw" F_draw2) : Draws P := by
  intro d h t many T hm hm2
  obtain ⟨c, xs, i, r, s, e1, nc, e2, hi, hs, hs2⟩ := T.ex
  rw [callF_eq hF.df rfl rfl (by decide)]
  by_cases hr : 0 < r
  · refine ⟨r % many, .lst [.ref c, .int i, .int (r / many), .int s], ?_, Int.emod_nonneg _ (by omega), Int.emod_lt_of_pos _ hm, ⟨c, xs, i, r / many, s, get_set e1, nc, by rw [get_other (Nat.ne_of_lt nc)]; exact e2, hi, hs, hs2⟩⟩
    simp [F_draw2, exSs, exS, evE, evEs, evT, ixM, itemsM, e1, L2.atI, cmpM, truth, hr, binM, binI, hm, hm2, asgT, asgN, setM, L2.ixN, outOf, below]
    exact trim_len (by simp)
  · have key : ∃ cell : Int, exSs P.toTx (callF P d) F_draw2.body ([M.ref t, M.int many].map some ++ List.replicate (F_draw2.ns - F_draw2.np) none) h = exSs P.toTx (callF P d) drawRest2 [some (.ref t), some (.int many), none, some (.int cell), none] h := by
      by_cases hl : i < xs.length
      · obtain ⟨cell, ec⟩ := atI_map hi hl
        refine ⟨cell, ?_⟩
        simp [drawRest2, F_draw2, exSs, exS, evE, evEs, evT, ixM, itemsM, e1, e2, cmpM, truth, hr, binM, binI, asgT, asgN, biM, lenM, lenD, hl, ec, at4_0, at4_1, at4_2]
      · refine ⟨0, ?_⟩
        simp [drawRest2, F_draw2, exSs, exS, evE, evEs, evT, ixM, itemsM, e1, e2, L2.atI, cmpM, truth, hr, binM, binI, asgT, asgN, L2.ixN, biM, lenM, lenD, hl]
    obtain ⟨cell, ek⟩ := key
    obtain ⟨r', o, er, h1, h2, h3⟩ := draw_rest2 (P := P.toTx) (C := callF P d) (cell := cell) T hm hm2
    refine ⟨r', o, ?_, h1, h2, h3⟩
    rw [ek, er]
    simp only [outOf, below]
    rw [trim_len (by simp)]
/-! ### a comprehension whose turns keep a word -/
theorem lcGo_inv {f : M → Hm → Option (Out (Option M))} {I : Hm → Prop} {R : M → Prop} : ∀ {xs acc : List M} {h : Hm}, (∀ y ∈ xs, ∀ h, I h → ∃ z h', f y h = some (.ok (some z) h') ∧ R z ∧ I h') → I h → (∀ z ∈ acc, R z) → acc.length + xs.length ≤ sizeLine →
    ∃ zs h', lcGo f xs acc h = some (.ok zs h') ∧ (∀ z ∈ zs, R z) ∧ zs.length = acc.length + xs.length ∧ I h'
  | [], acc, h, _, i, ha, _ => ⟨acc, h, by simp [lcGo], ha, by simp, i⟩
  | x :: xs, acc, h, hf, i, ha, hl => by
    obtain ⟨z, h1, e, rz, i1⟩ := hf x (by simp) h i
    simp at hl
    obtain ⟨zs, h2, e2, r2, l2, i2⟩ := lcGo_inv (xs := xs) (acc := acc ++ [z]) (fun y hy => hf y (by simp [hy])) i1 (fun w hw => by
      rcases List.mem_append.mp hw with q | q
      · exact ha w q
      · simp at q; rw [q]; exact rz) (by simp; omega)
    refine ⟨zs, h2, ?_, r2, by simp at l2 ⊢; omega, i2⟩
    simp only [lcGo, e]
    rw [if_pos (by omega)]
    exact e2
theorem lc_inv {P : Tx} {C : Cal} {env : Ev} {h h1 : Hm} {vs : List Nat} {t : T} {s : IT} {e : E} {c : Option E} {xs : List M} {gs : List (Nat × O)} {I : Hm → Prop} {R : M → Prop} (hs : evI P C s env h = some (.ok (xs, gs) h1)) (hk : ∀ h, I h → kept h gs) (hl : xs.length ≤ sizeLine) (hi : I h1)
    (hf : ∀ y ∈ xs, ∀ h, I h → ∃ z h', lcTurn P C env vs t c e y h = some (.ok (some z) h') ∧ R z ∧ I h') : ∃ zs h', evL P C (.lc vs t s c e) env h = some (.ok zs h') ∧ (∀ z ∈ zs, R z) ∧ zs.length = xs.length ∧ I h' := by
  have E0 : evL P C (.lc vs t s c e) env h = bindO (lcGo (fun y h2 => open Classical in if kept h2 gs then lcTurn P C env vs t c e y h2 else none) xs [] h1) fun ys h2 => open Classical in if kept h2 gs then some (.ok ys h2) else none := by
    simp only [evL, hs, bindO_ok]
    rfl
  obtain ⟨zs, h', q, r, l, i⟩ := lcGo_inv (f := fun y h2 => open Classical in if kept h2 gs then lcTurn P C env vs t c e y h2 else none) (I := I) (R := R) (xs := xs) (acc := []) (h := h1) (fun y hy h i => by
    rw [if_pos (hk h i)]
    exact hf y hy h i) hi (by simp) (by simpa using hl)
  refine ⟨zs, h', ?_, r, by simpa using l, i⟩
  rw [E0, q]
  simp only [bindO_ok]
  rw [if_pos (hk h' i)]
inductive All2 (R : M → M → Prop) : List M → List M → Prop
  | nil : All2 R [] []
  | cons {x y : M} {xs ys : List M} (h : R x y) (t : All2 R xs ys) : All2 R (x :: xs) (y :: ys)
theorem lcGo_rel {f : M → Hm → Option (Out (Option M))} {I : Hm → Prop} {R : M → M → Prop} : ∀ {xs acc : List M} {h : Hm}, (∀ y ∈ xs, ∀ h, I h → ∃ z h', f y h = some (.ok (some z) h') ∧ R y z ∧ I h') → I h → acc.length + xs.length ≤ sizeLine →
    ∃ ws h', lcGo f xs acc h = some (.ok (acc ++ ws) h') ∧ All2 R xs ws ∧ I h'
  | [], acc, h, _, i, _ => ⟨[], h, by simp [lcGo], .nil, i⟩
  | x :: xs, acc, h, hf, i, hl => by
    obtain ⟨z, h1, e, rz, i1⟩ := hf x (by simp) h i
    simp at hl
    obtain ⟨ws, h2, e2, r2, i2⟩ := lcGo_rel (xs := xs) (acc := acc ++ [z]) (fun y hy => hf y (by simp [hy])) i1 (by simp; omega)
    refine ⟨z :: ws, h2, ?_, .cons rz r2, i2⟩
    simp only [lcGo, e]
    rw [if_pos (by omega), e2]
    simp
theorem lc_rel {P : Tx} {C : Cal} {env : Ev} {h h1 : Hm} {vs : List Nat} {t : T} {s : IT} {e : E} {c : Option E} {xs : List M} {gs : List (Nat × O)} {I : Hm → Prop} {R : M → M → Prop} (hs : evI P C s env h = some (.ok (xs, gs) h1)) (hk : ∀ h, I h → kept h gs) (hl : xs.length ≤ sizeLine) (hi : I h1)
    (hf : ∀ y ∈ xs, ∀ h, I h → ∃ z h', lcTurn P C env vs t c e y h = some (.ok (some z) h') ∧ R y z ∧ I h') : ∃ zs h', evL P C (.lc vs t s c e) env h = some (.ok zs h') ∧ All2 R xs zs ∧ I h' := by
  have E0 : evL P C (.lc vs t s c e) env h = bindO (lcGo (fun y h2 => open Classical in if kept h2 gs then lcTurn P C env vs t c e y h2 else none) xs [] h1) fun ys h2 => open Classical in if kept h2 gs then some (.ok ys h2) else none := by
    simp only [evL, hs, bindO_ok]
    rfl
  obtain ⟨zs, h', q, r, i⟩ := lcGo_rel (f := fun y h2 => open Classical in if kept h2 gs then lcTurn P C env vs t c e y h2 else none) (I := I) (R := R) (xs := xs) (acc := []) (h := h1) (fun y hy h i => by
    rw [if_pos (hk h i)]
    exact hf y hy h i) hi (by simpa using hl)
  refine ⟨zs, h', ?_, r, i⟩
  rw [E0, q]
  simp only [bindO_ok, List.nil_append]
  rw [if_pos (hk h' i)]
end MP
namespace MP
open PySem
/-! ### names -/
def lowC (c : Nat) : Bool := decide (97 ≤ c) && decide (c ≤ 122)
def sgnC (c : Nat) : Bool := lowC c || (decide (48 ≤ c) && decide (c ≤ 57))
/-- the signs of a name -/
structure NameL (l : List Nat) : Prop where
  ne : l ≠ []
  hd : ∀ c, l.head? = some c → lowC c = true
  al : ∀ c ∈ l, sgnC c = true
  len : l.length ≤ 12
abbrev SG : Str := "abcdefghijklmnopqrstuvwxyz0123456789"
theorem SG_at {j : Int} (h0 : 0 ≤ j) (h1 : j < 36) : ∃ c, L2.atI SG.cps.toList j = some c ∧ sgnC c = true ∧ (j < 26 → lowC c = true) := by
  have key : ∀ n : Fin 36, ∃ c, SG.cps.toList[n.val]? = some c ∧ sgnC c = true ∧ (n.val < 26 → lowC c = true) := by
    intro n
    have e : SG.cps.toList = (List.range 26).map (97 + ·) ++ (List.range 10).map (48 + ·) := by decide +kernel
    rw [e]
    revert n
    decide +kernel
  have hl : SG.cps.toList.length = 36 := by decide +kernel
  obtain ⟨c, e, h2, h3⟩ := key ⟨j.toNat, by omega⟩
  refine ⟨c, ?_, h2, fun h => h3 (by show j.toNat < 26; omega)⟩
  unfold L2.atI L2.ixN
  rw [hl]
  simp only [h0, if_true]
  rw [if_pos (by omega)]
  exact e
theorem rep_S {n : Int} (h : 0 ≤ n) : repS (SX.S [97]) n = SX.S (List.replicate n.toNat 97) := by
  have key : ∀ (k : Nat) (a : Array Nat), ((List.replicate k (#[97] : Array Nat)).foldl (· ++ ·) a).toList = a.toList ++ List.replicate k 97 := by
    intro k
    induction k with
    | zero => intro a; simp
    | succ k ih => intro a; rw [List.replicate_succ, List.foldl_cons, ih]; simp [List.replicate_succ]
  unfold repS
  by_cases h1 : n < 1
  · have : n = 0 := by omega
    subst this
    rfl
  · rw [if_neg h1]
    by_cases h2 : n = 1
    · subst h2; rfl
    · have h3 : (n == 1 || (SX.S [97]).length == 0) = false := by simp [h2, Str.length]
      rw [h3]
      simp only [Bool.false_eq_true, if_false]
      exact congrArg Str.mk (Array.ext' (by rw [key]; simp))
theorem log_lt {m : Int} (h0 : 0 ≤ m) (h1 : m < 1000) : m.natAbs.log2 < 9000 := by
  have : Sm 10 m := by unfold Sm; omega
  exact Nat.lt_of_lt_of_le (this.log (by decide)) (by decide)
theorem tape_lt {h : Hm} {t : Nat} (T : Tape h t) : t < h.length := by
  obtain ⟨c, xs, i, r, s, e1, _⟩ := T.ex
  by_cases hl : t < h.length
  · exact hl
  · rw [List.getElem?_eq_none (by omega)] at e1; cases e1
theorem tape_below {h : Hm} {t : Nat} {o : O} (T : Tape (h.set t o) t) : belowO h.length o = true := by
  have ht := tape_lt T
  rw [List.length_set] at ht
  obtain ⟨c, xs, i, r, s, e1, nc, e2, _⟩ := T.ex
  rw [List.getElem?_set_self ht] at e1
  cases e1
  have hc : c < h.length := by
    by_cases hl : c < h.length
    · exact hl
    · rw [List.getElem?_eq_none (by simp; omega)] at e2; cases e2
  simp [belowO, belows, below, hc]
def G_law_name : Fn := ⟨1, 6, [], 0,
  [.asg (.nm 1) (.con (.str "abcdefghijklmnopqrstuvwxyz0123456789")),
   .asg (.nm 2) (.bin .add (.con (.int 1)) (.call "_law_draw" [(.var 0), (.con (.int 12))])),
   .ife (.cmp .eq (.call "_law_draw" [(.var 0), (.con (.int 2))]) (.con (.int 0)))
     [.asg (.nm 3) (.call "_law_draw" [(.var 0), (.var 2)]),
      .asg (.nm 4) (.ix (.var 1) (.call "_law_draw" [(.var 0), (.bin .add (.con (.int 26)) (.bin .mul (.con (.int 10)) (.bi .int [(.cmp .gt (.var 3) (.con (.int 0)))])))])),
      .ret (.bin .add (.bin .add (.bin .mul (.con (.str "a")) (.var 3)) (.var 4)) (.bin .mul (.con (.str "a")) (.bin .sub (.bin .sub (.var 2) (.con (.int 1))) (.var 3))))]
     [],
   .ret (.mt .join (.con (.str "")) [(.new (.lc [5] (.nm 5) (.rng (.var 2)) none (.ix (.var 1) (.call "_law_draw" [(.var 0), (.bin .add (.con (.int 26)) (.bin .mul (.con (.int 10)) (.bi .int [(.cmp .gt (.var 5) (.con (.int 0)))])))]))))])]⟩
theorem a_S : ("a" : Str) = SX.S [97] := by decide +kernel
theorem rep_a {n : Int} (h : 0 ≤ n) : repS "a" n = SX.S (List.replicate n.toNat 97) := by rw [a_S]; exact rep_S h
theorem a_len : ("a" : Str).length = 1 := by decide +kernel
theorem log26 (b : Bool) : ((26 : Int) + 10 * (if b = true then 1 else 0)).natAbs.log2 < 9000 := by cases b <;> decide
theorem signs_of {R : M → M → Prop} (hR : ∀ y z, R y z → ∃ c, z = M.str ⟨#[c]⟩ ∧ sgnC c = true ∧ (y = M.int 0 → lowC c = true)) : ∀ {xs zs : List M}, All2 R xs zs → ∃ cs : List Nat, zs = cs.map (fun c => M.str (SX.S [c])) ∧ cs.length = xs.length ∧ (∀ c ∈ cs, sgnC c = true) ∧ (xs.head? = some (.int 0) → ∀ c, cs.head? = some c → lowC c = true)
  | _, _, .nil => ⟨[], rfl, rfl, by simp, by simp⟩
  | _, _, .cons h t => by
    obtain ⟨c, rfl, sc, lc⟩ := hR _ _ h
    obtain ⟨cs, rfl, hl, ha, _⟩ := signs_of hR t
    refine ⟨c :: cs, rfl, by simp [hl], fun x hx => ?_, fun hh x hx => ?_⟩
    · rcases List.mem_cons.mp hx with e | e
      · rw [e]; exact sc
      · exact ha x e
    · simp at hh hx
      rw [← hx]
      exact lc hh
theorem strs_signs : ∀ cs : List Nat, strMs (cs.map (fun c => M.str (SX.S [c]))) = some (cs.map fun c => SX.S [c])
  | [] => rfl
  | c :: cs => by simp [strMs, strs_signs cs]
theorem joinL_signs : ∀ cs : List Nat, TL.joinL [] (cs.map fun c => [c]) = cs
  | [] => rfl
  | [c] => rfl
  | c :: c2 :: cs => by
    have ih := joinL_signs (c2 :: cs)
    show [c] ++ ([] ++ TL.joinL [] ((c2 :: cs).map fun c => [c])) = _
    rw [ih]
    rfl
theorem join_signs (cs : List Nat) : Txt.join "" (cs.map fun c => SX.S [c]) = SX.S cs := by
  have e := SX.join_S [] (cs.map fun c => [c])
  rw [joinL_signs, List.map_map] at e
  have e0 : ("" : Str) = SX.S [] := by decide +kernel
  rw [e0]
  exact e
theorem name_ok {P : Pg} {d : Nat} {h : Hm} {t : Nat} (D : Draws P) (fd : P.fns "_law_draw" = true) (hF : P.df "_law_name" = some G_law_name) (T : Tape h t) :
    ∃ (l : List Nat) (o : O), callF P (d + 2) "_law_name" [.ref t] h = some (.ok (.str (SX.S l)) (h.set t o)) ∧ NameL l ∧ Tape (h.set t o) t := by
  rw [callF_eq hF rfl rfl (by decide)]
  obtain ⟨r1, o1, c1, r10, r11, T1⟩ := D (d := d) (many := 12) T (by decide) (by decide)
  obtain ⟨r2, o2, c2, r20, r21, T2⟩ := D (d := d) (many := 2) T1 (by decide) (by decide)
  rw [set_set] at c2 T2
  have q0 : exSs P.toTx (callF P (d + 1)) G_law_name.body ([M.ref t].map some ++ List.replicate (G_law_name.ns - G_law_name.np) none) h =
      exSs P.toTx (callF P (d + 1)) (G_law_name.body.drop 2) [some (.ref t), some (.str SG), some (.int (1 + r1)), none, none, none] (h.set t o1) := by
    refine (run_next (env' := [some (.ref t), some (.str SG), none, none, none, none]) (h' := h) (by simp [G_law_name, exS, evE, asgT, asgN])).trans ?_
    exact (run_next (by simp [exS, evE, evEs, fd, c1, binM, binI, asgT, asgN])).trans rfl
  by_cases hz : r2 = 0
  · subst hz
    obtain ⟨r3, o3, c3, r30, r31, T3⟩ := D (d := d) (many := 1 + r1) T2 (by omega) (log_lt (by omega) (by omega))
    obtain ⟨r4, o4, c4, r40, r41, T4⟩ := D (d := d) (many := 26 + 10 * (if decide (0 < r3) = true then 1 else 0)) T3 (by split <;> omega) (log26 _)
    rw [set_set] at c3 T3 c4 T4
    rw [set_set] at c4 T4
    obtain ⟨c, ec, sc, lc⟩ := SG_at r40 (by have := r41; split at this <;> omega)
    have hz : sizeLine = 16777216 := by decide
    refine ⟨List.replicate r3.toNat 97 ++ [c] ++ List.replicate (r1 - r3).toNat 97, o4, ?_, ?_, T4⟩
    · rw [q0]
      have e : exSs P.toTx (callF P (d + 1)) (G_law_name.body.drop 2) [some (.ref t), some (.str SG), some (.int (1 + r1)), none, none, none] (h.set t o1) = some (.ret (.str (SX.S (List.replicate r3.toNat 97 ++ [c] ++ List.replicate (r1 - r3).toNat 97))) (h.set t o4)) := by
        refine run_ret ?_
        rw [run_if (k := true) (h1 := h.set t o2) (by simp [evT, evE, evEs, fd, c2, cmpM, eqD, truth])]
        refine (run_next (env' := [some (.ref t), some (.str SG), some (.int (1 + r1)), some (.int r3), none, none]) (h' := h.set t o3) (by simp [exS, evE, evEs, fd, c3, asgT, asgN])).trans ?_
        refine (run_next (env' := [some (.ref t), some (.str SG), some (.int (1 + r1)), some (.int r3), some (.str ⟨#[c]⟩), none]) (h' := h.set t o4) ?_).trans ?_
        · have lsg : SG.length ≤ sizeLine := by decide +kernel
          have m10 : mulOk 10 (if 0 < r3 then 1 else 0) = true := mulOk_l (by decide)
          simp at c4
          simp [exS, evE, evEs, fd, cmpM, biM, intM, binM, binI, m10, c4, ixM, lsg, ec, asgT, asgN]
        · refine run_ret (run_retE ?_)
          have n1 : (1 + r1 - 1 - r3).toNat = (r1 - r3).toNat := by congr 1; omega
          have g1 : -(2 ^ 62) ≤ r3 ∧ r3 < 2 ^ 62 ∧ ("a" : Str).length * r3.toNat ≤ sizeLine := ⟨by omega, by omega, by rw [a_len, hz]; omega⟩
          have g2 : -(2 ^ 62) ≤ 1 + r1 - 1 - r3 ∧ 1 + r1 - 1 - r3 < 2 ^ 62 ∧ ("a" : Str).length * (1 + r1 - 1 - r3).toNat ≤ sizeLine := ⟨by omega, by omega, by rw [a_len, hz]; omega⟩
          have x1 : binM .mul (.str "a") (.int r3) (h.set t o4) = some (.ok (.str (SX.S (List.replicate r3.toNat 97))) (h.set t o4)) := by
            simp only [binM]; rw [if_pos g1, rep_a r30]
          have x2 : binM .mul (.str "a") (.int (1 + r1 - 1 - r3)) (h.set t o4) = some (.ok (.str (SX.S (List.replicate (r1 - r3).toNat 97))) (h.set t o4)) := by
            simp only [binM]; rw [if_pos g2, rep_a (by omega), n1]
          have x3 : binM .add (.str (SX.S (List.replicate r3.toNat 97))) (.str ⟨#[c]⟩) (h.set t o4) = some (.ok (.str (SX.S (List.replicate r3.toNat 97 ++ [c]))) (h.set t o4)) := by
            simp only [binM]
            rw [if_pos (by rw [SX.S_len, hz]; simp [Str.length]; omega)]
            rw [← SX.S_cat]
          have x4 : binM .add (.str (SX.S (List.replicate r3.toNat 97 ++ [c]))) (.str (SX.S (List.replicate (r1 - r3).toNat 97))) (h.set t o4) = some (.ok (.str (SX.S (List.replicate r3.toNat 97 ++ [c] ++ List.replicate (r1 - r3).toNat 97))) (h.set t o4)) := by
            simp only [binM]
            rw [if_pos (by rw [SX.S_len, SX.S_len, hz]; simp; omega)]
            rw [SX.S_cat]
          simp only [evE, List.getElem?_cons_succ, List.getElem?_cons_zero, bindO_ok, x1, x3]
          have y1 : binM .sub (.int (1 + r1)) (.int 1) (h.set t o4) = some (.ok (.int (1 + r1 - 1)) (h.set t o4)) := rfl
          have y2 : binM .sub (.int (1 + r1 - 1)) (.int r3) (h.set t o4) = some (.ok (.int (1 + r1 - 1 - r3)) (h.set t o4)) := rfl
          simp only [y1, y2, bindO_ok, x2, x4]
      rw [e]
      simp only [outOf, below]
      rw [trim_len (by simp)]
    · refine ⟨by simp, fun c' hc => ?_, fun c' hc => ?_, by simp; omega⟩
      · by_cases z : r3 = 0
        · subst z
          simp at hc
          subst hc
          exact lc (by simpa using r41)
        · obtain ⟨k, hk⟩ : ∃ k, r3.toNat = k + 1 := ⟨r3.toNat - 1, by omega⟩
          rw [hk, List.replicate_succ] at hc
          simp at hc
          subst hc
          decide
      · simp only [List.mem_append, List.mem_replicate, List.mem_cons, List.not_mem_nil, or_false] at hc
        rcases hc with (⟨_, rfl⟩ | rfl) | ⟨_, rfl⟩
        · decide
        · exact sc
        · decide
  · have q1 : exSs P.toTx (callF P (d + 1)) (G_law_name.body.drop 2) [some (.ref t), some (.str SG), some (.int (1 + r1)), none, none, none] (h.set t o1) =
        exSs P.toTx (callF P (d + 1)) (G_law_name.body.drop 3) [some (.ref t), some (.str SG), some (.int (1 + r1)), none, none, none] (h.set t o2) :=
      (run_next (run_if_f (by simp [evT, evE, evEs, fd, c2, cmpM, eqD, truth, hz]))).trans rfl
    have hz2 : sizeLine = 16777216 := by decide
    have lsg : SG.length ≤ sizeLine := by decide +kernel
    obtain ⟨zs, h', eL, al, o3, rfl, T3⟩ := lc_rel (P := P.toTx) (C := callF P (d + 1)) (env := [some (.ref t), some (.str SG), some (.int (1 + r1)), none, none, none]) (h := h.set t o2) (h1 := h.set t o2) (vs := [5]) (t := .nm 5) (s := .rng (.var 2)) (c := none)
      (e := .ix (.var 1) (.call "_law_draw" [(.var 0), (.bin .add (.con (.int 26)) (.bin .mul (.con (.int 10)) (.bi .int [(.cmp .gt (.var 5) (.con (.int 0)))])))])) (xs := (List.range (1 + r1).toNat).map fun i => M.int (i : Nat)) (gs := [])
      (I := fun h' => ∃ o, h' = h.set t o ∧ Tape h' t) (R := fun y z => ∃ c, z = M.str ⟨#[c]⟩ ∧ sgnC c = true ∧ (y = M.int 0 → lowC c = true))
      (by simp [evI, evE]; omega) (fun h' _ => kept_nil) (by simp; omega) ⟨o2, rfl, T2⟩ (by
        rintro y hy h' ⟨o, rfl, T'⟩
        obtain ⟨k, hk, rfl⟩ := List.mem_map.mp hy
        obtain ⟨r4, o4, c4, r40, r41, T4⟩ := D (d := d) (many := 26 + 10 * (if decide (0 < (k : Int)) = true then 1 else 0)) T' (by split <;> omega) (log26 _)
        rw [set_set] at c4 T4
        obtain ⟨c, ec, sc, lc⟩ := SG_at r40 (by have := r41; split at this <;> omega)
        refine ⟨.str ⟨#[c]⟩, h.set t o4, ?_, ⟨c, rfl, sc, fun z => lc ?_⟩, o4, rfl, T4⟩
        · have m10 : mulOk 10 (if 0 < (k : Int) then 1 else 0) = true := mulOk_l (by decide)
          simp at c4 m10
          simp [lcTurn, asgT, asgN, wipeM, evC, evE, evEs, fd, cmpM, biM, intM, binM, binI, m10, c4, ixM, lsg, ec]
        · have : k = 0 := by
            have := M.int.inj z
            omega
          subst this
          simpa using r41)
    obtain ⟨cs, rfl, hl, ha, hh⟩ := signs_of (fun y z h => h) al
    have hlen : cs.length = (1 + r1).toNat := by simpa using hl
    refine ⟨cs, o3, ?_, ⟨fun z => ?_, fun c hc => hh ?_ c hc, ha, by omega⟩, T3⟩
    · rw [q0, q1]
      have e : exSs P.toTx (callF P (d + 1)) (G_law_name.body.drop 3) [some (.ref t), some (.str SG), some (.int (1 + r1)), none, none, none] (h.set t o2) = some (.ret (.str (SX.S cs)) (h.set t o3 ++ [.lst (cs.map (fun c => M.str (SX.S [c])))])) := by
        refine run_ret (run_retE ?_)
        have N := ev_new eL
        have lens : ((cs.map fun c => SX.S [c]).map (·.length)).sum = cs.length := by
          have : ∀ l : List Nat, ((l.map fun c => SX.S [c]).map (·.length)).sum = l.length := by
            intro l
            induction l with
            | nil => rfl
            | cons c l ih => simp only [List.map_cons, List.sum_cons, ih, SX.S_len, List.length_cons, List.length_nil]; omega
          exact this cs
        have l0 : ("" : Str).length = 0 := by decide +kernel
        rw [evE]
        simp only [evE, bindO_ok, evEs] at N ⊢
        rw [N]
        simp only [bindO_ok, mtM, itemsM]
        rw [show (h.set t o3 ++ [O.lst (cs.map fun c => M.str (SX.S [c]))])[(h.set t o3).length]? = some (.lst (cs.map fun c => M.str (SX.S [c]))) from get_len]
        simp only [strs_signs]
        rw [if_pos (by rw [lens, l0, List.length_map]; omega), join_signs]
      rw [e]
      simp only [outOf, below]
      rw [trim_set (tape_below T3)]
    · subst z
      simp at hlen
      omega
    · obtain ⟨k, hk⟩ : ∃ k, (1 + r1).toNat = k + 1 := ⟨r1.toNat, by omega⟩
      rw [hk, List.range_succ_eq_map]
      rfl
end MP
namespace MP
open PySem
/-! ### rationals drawn, second form -/
theorem rq_low {n m : Int} {k : Nat} (hm : 0 < m) (sn : Sm k n) (sm : Sm k m) : Rq k (n / Int.gcd n m) (m / Int.gcd n m) := by
  have g0 := gcd_pos (n := n) hm
  have g : (0 : Int) < Int.gcd n m := by exact_mod_cast g0
  exact ⟨low_pos hm, Int.gcd_ediv_gcd_ediv_gcd g0, sn.ediv g (Int.gcd_dvd_left n m), sm.ediv g (Int.gcd_dvd_right n m)⟩
theorem log_of {m : Int} (k : Nat) (h : Sm k m) (hk : 0 < k) (e : k ≤ 9000) : m.natAbs.log2 < 9000 := Nat.lt_of_lt_of_le (h.log hk) e
def G_law_rational2 : Fn := ⟨2, 5, [], 0,
  [.asg (.nm 2) (.call "_law_draw" [(.var 0), (.bin .add (.con (.int 6)) (.bin .mul (.con (.int 2)) (.bi .int [(.var 1)])))]),
   .ife (.cmp .lt (.var 2) (.con (.int 4)))
     [.ret (.tup [(.bin .sub (.call "_law_draw" [(.var 0), (.con (.int 15))]) (.con (.int 7))), (.con (.int 1))])]
     [],
   .ife (.cmp .lt (.var 2) (.con (.int 6)))
     [.ret (.call "_law_lowest" [(.bin .sub (.call "_law_draw" [(.var 0), (.con (.int 401))]) (.con (.int 200))), (.bin .add (.con (.int 1)) (.call "_law_draw" [(.var 0), (.con (.int 12))]))])]
     [],
   .ife (.cmp .eq (.var 2) (.con (.int 6)))
     [.asg (.nm 3) (.bin .sub (.call "_law_draw" [(.var 0), (.bin .add (.bin .mul (.con (.int 2)) (.bin .pow (.con (.int 10)) (.con (.int 18)))) (.con (.int 1)))]) (.bin .pow (.con (.int 10)) (.con (.int 18)))),
      .ret (.call "_law_lowest" [(.var 3), (.bin .add (.con (.int 1)) (.call "_law_draw" [(.var 0), (.bin .pow (.con (.int 10)) (.con (.int 18)))]))])]
     [],
   .asg (.nm 4) (.bin .sub (.bin .pow (.con (.int 10)) (.con (.int 40))) (.call "_law_draw" [(.var 0), (.con (.int 3))])),
   .ret (.ixl (.lst [(.tup [(.var 4), (.con (.int 1))]), (.tup [(.bin .sub (.con (.int 0)) (.var 4)), (.con (.int 1))]), (.tup [(.con (.int 1)), (.var 4)]), (.tup [(.neg (.con (.int 1))), (.var 4)])]) (.call "_law_draw" [(.var 0), (.con (.int 4))]))]⟩
theorem rational2_ok {P : Pg} {d : Nat} {h : Hm} {t : Nat} (D : Draws P) (fd : P.fns "_law_draw" = true) (hLow : Has P "_law_lowest" G_law_lowest) (hF : P.df "_law_rational" = some G_law_rational2) (T : Tape h t) : ∃ (p q : Int) (o : O), callF P (d + 2) "_law_rational" [.ref t, .bl true] h = some (.ok (rat p q) (h.set t o)) ∧ Rq 140 p q ∧ Tape (h.set t o) t := by
  rw [callF_eq hF rfl rfl (by decide)]
  obtain ⟨r, o, e1, r0, r1, T1⟩ := D (d := d) (many := 8) T (by decide) (by decide)
  have fin : ∀ {v : M} {o' : O}, exSs P.toTx (callF P (d + 1)) G_law_rational2.body ([M.ref t, M.bl true].map some ++ List.replicate (G_law_rational2.ns - G_law_rational2.np) none) h = some (.ret v (h.set t o')) →
      outOf h (exSs P.toTx (callF P (d + 1)) G_law_rational2.body ([M.ref t, M.bl true].map some ++ List.replicate (G_law_rational2.ns - G_law_rational2.np) none) h) = some (.ok v (h.set t o')) := by
    intro v o' e
    rw [e]
    simp only [outOf]
    rw [trim_len (by simp)]
  have m2 : mulOk 2 1 = true := by decide
  have s0 : exS P.toTx (callF P (d + 1)) (.asg (.nm 2) (.call "_law_draw" [(.var 0), (.bin .add (.con (.int 6)) (.bin .mul (.con (.int 2)) (.bi .int [(.var 1)])))])) [some (.ref t), some (.bl true), none, none, none] h = some (.next [some (.ref t), some (.bl true), some (.int r), none, none] (h.set t o)) := by
    simp [exS, evE, evEs, fd, biM, intM, binM, binI, m2, e1, asgT, asgN]
  by_cases c1 : r < 4
  · obtain ⟨x, o2, e2, x0, x1, T2⟩ := D (d := d) (many := 15) T1 (by decide) (by decide)
    rw [set_set] at e2 T2
    refine ⟨x - 7, 1, o2, fin ?_, ⟨by decide, by simp, (show Sm 140 (x - 7) by unfold Sm; omega), (by unfold Sm; decide)⟩, T2⟩
    refine (run_next s0).trans ?_
    refine run_ret ?_
    rw [run_if (k := true) (h1 := h.set t o) (by simp [evT, evE, cmpM, c1, truth])]
    simp [exSs, exS, evE, evEs, fd, e2, binM, binI, two_le]
  · refine (?_ : _)
    by_cases c2 : r < 6
    · obtain ⟨x, o2, e2, x0, x1, T2⟩ := D (d := d) (many := 401) T1 (by decide) (by decide)
      obtain ⟨y, o3, e3, y0, y1, T3⟩ := D (d := d) (many := 12) T2 (by decide) (by decide)
      rw [set_set] at e2 T2 e3 T3
      rw [set_set] at e3 T3
      have s2 : Sm 140 (1 + y) := by unfold Sm; omega
      have L := law_lowest_ok (P := P) (d := d) (h := h.set t o3) hLow (n := x - 200) (m := 1 + y) (by omega) (s2.mono (by decide))
      refine ⟨_, _, o3, fin ?_, rq_low (n := x - 200) (m := 1 + y) (by omega) (by unfold Sm; omega) s2, T3⟩
      refine (run_next s0).trans ?_
      refine (run_next (env' := [some (.ref t), some (.bl true), some (.int r), none, none]) (h' := h.set t o) ?_).trans ?_
      · rw [run_if (k := false) (h1 := h.set t o) (by simp [evT, evE, cmpM, c1, truth])]; simp [exSs]
      refine run_ret ?_
      rw [run_if (k := true) (h1 := h.set t o) (by simp [evT, evE, cmpM, c2, truth])]
      simp [exSs, exS, evE, evEs, fd, hLow.fn, e2, e3, L, binM, binI, two_le]
    · have q1 : exSs P.toTx (callF P (d + 1)) G_law_rational2.body ([M.ref t, M.bl true].map some ++ List.replicate (G_law_rational2.ns - G_law_rational2.np) none) h = exSs P.toTx (callF P (d + 1)) (G_law_rational2.body.drop 3) [some (.ref t), some (.bl true), some (.int r), none, none] (h.set t o) := by
        refine (run_next s0).trans ?_
        refine (run_next (env' := [some (.ref t), some (.bl true), some (.int r), none, none]) (h' := h.set t o) ?_).trans ?_
        · rw [run_if (k := false) (h1 := h.set t o) (by simp [evT, evE, cmpM, c1, truth])]; simp [exSs]
        refine (run_next (env' := [some (.ref t), some (.bl true), some (.int r), none, none]) (h' := h.set t o) ?_).trans ?_
        · rw [run_if (k := false) (h1 := h.set t o) (by simp [evT, evE, cmpM, c2, truth])]; simp [exSs]
        rfl
      by_cases c3 : r = 6
      · obtain ⟨x, o2, e2, x0, x1, T2⟩ := D (d := d) (many := 2000000000000000001) T1 (by decide) (by decide)
        obtain ⟨y, o3, e3, y0, y1, T3⟩ := D (d := d) (many := 1000000000000000000) T2 (by decide) (by decide)
        rw [set_set] at e2 T2 e3 T3
        rw [set_set] at e3 T3
        have s2 : Sm 140 (1 + y) := by unfold Sm; omega
        have L := law_lowest_ok (P := P) (d := d) (h := h.set t o3) hLow (n := x - 1000000000000000000) (m := 1 + y) (by omega) (s2.mono (by decide))
        refine ⟨_, _, o3, fin ?_, rq_low (n := x - 1000000000000000000) (m := 1 + y) (by omega) (by unfold Sm; omega) s2, T3⟩
        rw [q1]
        refine run_ret ?_
        have m3 : mulOk 2 1000000000000000000 = true := by decide
        rw [run_if (k := true) (h1 := h.set t o) (by simp [evT, evE, cmpM, eqD, c3, truth])]
        simp [exSs, exS, evE, evEs, fd, hLow.fn, e2, e3, L, binM, binI, m3, two_le, asgT, asgN]
      · obtain ⟨x, o2, e2, x0, x1, T2⟩ := D (d := d) (many := 3) T1 (by decide) (by decide)
        obtain ⟨y, o3, e3, y0, y1, T3⟩ := D (d := d) (many := 4) T2 (by decide) (by decide)
        rw [set_set] at e2 T2 e3 T3
        rw [set_set] at e3 T3
        have q2 : exSs P.toTx (callF P (d + 1)) (G_law_rational2.body.drop 3) [some (.ref t), some (.bl true), some (.int r), none, none] (h.set t o) = exSs P.toTx (callF P (d + 1)) (G_law_rational2.body.drop 5) [some (.ref t), some (.bl true), some (.int r), none, some (.int (10000000000000000000000000000000000000000 - x))] (h.set t o2) := by
          refine (run_next (env' := [some (.ref t), some (.bl true), some (.int r), none, none]) (h' := h.set t o) ?_).trans ?_
          · rw [run_if (k := false) (h1 := h.set t o) (by simp [evT, evE, cmpM, eqD, c3, truth])]; simp [exSs]
          refine (run_next ?_).trans rfl
          simp [exS, evE, evEs, fd, e2, binM, binI, asgT, asgN]
        generalize hE : (10000000000000000000000000000000000000000 - x : Int) = edge at q2
        have sE : Sm 140 edge := by unfold Sm; omega
        have pE : 0 < edge := by omega
        have one : Sm 140 1 := by unfold Sm; decide
        have s4 : (4 : Nat) ≤ sizeLine := by decide
        have hy : y = 0 ∨ y = 1 ∨ y = 2 ∨ y = 3 := by omega
        rcases hy with rfl | rfl | rfl | rfl
        · refine ⟨edge, 1, o3, fin ?_, ⟨by decide, by simp, sE, one⟩, T3⟩
          rw [q1, q2]
          refine run_ret ?_
          simp [exS, evE, evEs, evL, fd, e3, binM, binI, two_le, s4, at4_0, at4_1, at4_2, at4_3]
        · refine ⟨-edge, 1, o3, fin ?_, ⟨by decide, by simp, sE.neg, one⟩, T3⟩
          rw [q1, q2]
          refine run_ret ?_
          simp [exS, evE, evEs, evL, fd, e3, binM, binI, two_le, s4, at4_0, at4_1, at4_2, at4_3]
        · refine ⟨1, edge, o3, fin ?_, ⟨pE, by simp, one, sE⟩, T3⟩
          rw [q1, q2]
          refine run_ret ?_
          simp [exS, evE, evEs, evL, fd, e3, binM, binI, two_le, s4, at4_0, at4_1, at4_2, at4_3]
        · refine ⟨-1, edge, o3, fin ?_, ⟨pE, by simp, one.neg, sE⟩, T3⟩
          rw [q1, q2]
          refine run_ret ?_
          simp [exS, evE, evEs, evL, fd, e3, binM, binI, two_le, s4, at4_0, at4_1, at4_2, at4_3]
end MP
namespace MP
open PySem
/-! ### texts by their signs -/
theorem tl_S (l : List Nat) : (SX.S l).cps.toList = l := by simp [SX.S]
theorem S_tl (x : Str) : x = SX.S x.cps.toList := by cases x; simp [SX.S]
theorem sz : sizeLine = 16777216 := by decide
theorem ix_S {h : Hm} {l : List Nat} {j : Int} {c : Nat} (hl : l.length ≤ 100000) (e : L2.atI l j = some c) : ixM h (.str (SX.S l)) (.int j) = some (.str (SX.S [c])) := by
  simp only [ixM]
  rw [if_pos (by rw [SX.S_len, sz]; omega), e]
  rfl
theorem sl_S {h : Hm} {l : List Nat} {lo hi : Option Int} (hl : l.length ≤ 100000) : slM h (.str (SX.S l)) lo hi = some (.ok (.str (SX.S (cut l lo hi))) h) := by
  simp only [slM]
  rw [if_pos (by rw [SX.S_len, sz]; omega)]
theorem add_S {h : Hm} {a b : List Nat} (hl : a.length + b.length ≤ 100000) : binM .add (.str (SX.S a)) (.str (SX.S b)) h = some (.ok (.str (SX.S (a ++ b))) h) := by
  simp only [binM]
  rw [if_pos (by rw [SX.S_len, SX.S_len, sz]; omega), SX.S_cat]
theorem len_S {h : Hm} {l : List Nat} (hl : l.length ≤ 100000) : lenM h [.str (SX.S l)] = some (.int l.length) := by
  simp only [lenM, lenD]
  rw [if_pos (by rw [SX.S_len, sz]; omega), SX.S_len]
theorem at_in {α : Type} {l : List α} {j : Int} (h0 : 0 ≤ j) (h1 : j < l.length) : ∃ c, L2.atI l j = some c ∧ c ∈ l := by
  have hi : j.toNat < l.length := by omega
  refine ⟨l[j.toNat], ?_, List.getElem_mem _⟩
  unfold L2.atI L2.ixN
  simp [h0, h1, hi]
theorem at_0 {α : Type} {c : α} {r : List α} : L2.atI (c :: r) 0 = some c := by
  unfold L2.atI L2.ixN
  simp
/-- signs that a text may hold -/
def okL (l : List Nat) : Prop := ∀ c ∈ l, c < 1114112
theorem okL_str {l : List Nat} (h : okL l) : PyData.strOk (SX.S l) = true := by
  unfold PyData.strOk
  rw [← Array.all_toList]
  exact List.all_eq_true.mpr fun c hc => decide_eq_true (h c hc)
theorem okL_app {a b : List Nat} (h : okL a) (g : okL b) : okL (a ++ b) := fun c hc => (List.mem_append.mp hc).elim (h c) (g c)
theorem cutL_mem {l : List Nat} {lo hi : Option Int} {c : Nat} (h : c ∈ cut l lo hi) : c ∈ l := List.mem_of_mem_drop (List.mem_of_mem_take h)
theorem okL_cut {l : List Nat} {lo hi : Option Int} (h : okL l) : okL (cut l lo hi) := fun c hc => h c (cutL_mem hc)
theorem cutL_len {l : List Nat} {lo hi : Option Int} : (cut l lo hi).length ≤ l.length := by
  unfold cut
  rw [List.length_take, List.length_drop]
  omega
theorem name_okL {l : List Nat} (h : NameL l) : okL l := fun c hc => by
  have := h.al c hc
  unfold sgnC lowC at this
  simp at this
  omega
end MP
namespace MP
open PySem
/-! ### rationals drawn, first form; the tape laid -/
def G_law_rational1 : Fn := ⟨2, 4, [], 0,
  [.asg (.nm 2) (.call "_law_draw" [(.var 0), (.bin .add (.con (.int 6)) (.bin .mul (.con (.int 2)) (.bi .int [(.var 1)])))]),
   .ife (.cmp .lt (.var 2) (.con (.int 4)))
     [.ret (.tup [(.bin .sub (.call "_law_draw" [(.var 0), (.con (.int 15))]) (.con (.int 7))), (.con (.int 1))])]
     [],
   .ife (.cmp .lt (.var 2) (.con (.int 6)))
     [.ret (.call "_law_lowest" [(.bin .sub (.call "_law_draw" [(.var 0), (.con (.int 401))]) (.con (.int 200))), (.bin .add (.con (.int 1)) (.call "_law_draw" [(.var 0), (.con (.int 12))]))])]
     [],
   .ife (.cmp .eq (.var 2) (.con (.int 6)))
     [.ret (.call "_law_lowest" [(.bin .sub (.call "_law_draw" [(.var 0), (.bin .add (.bin .mul (.con (.int 2)) (.bin .pow (.con (.int 10)) (.con (.int 18)))) (.con (.int 1)))]) (.bin .pow (.con (.int 10)) (.con (.int 18)))), (.bin .add (.con (.int 1)) (.call "_law_draw" [(.var 0), (.bin .pow (.con (.int 10)) (.con (.int 18)))]))])]
     [],
   .asg (.nm 3) (.bin .sub (.bin .pow (.con (.int 10)) (.con (.int 40))) (.call "_law_draw" [(.var 0), (.con (.int 3))])),
   .ret (.ixl (.lst [(.tup [(.var 3), (.con (.int 1))]), (.tup [(.bin .sub (.con (.int 0)) (.var 3)), (.con (.int 1))]), (.tup [(.con (.int 1)), (.var 3)]), (.tup [(.neg (.con (.int 1))), (.var 3)])]) (.call "_law_draw" [(.var 0), (.con (.int 4))]))]⟩
/-- within the limit -/
def InL (p q : Int) : Prop := (p.natAbs : Int) ≤ 10000000000000000000000000000000000000000 ∧ q ≤ 10000000000000000000000000000000000000000
theorem inL {p q : Int} (a : (p.natAbs : Int) ≤ 10000000000000000000000000000000000000000) (b : q ≤ 10000000000000000000000000000000000000000) : InL p q := ⟨a, b⟩
theorem inL_low {n m : Int} (hm : 0 < m) (a : (n.natAbs : Int) ≤ 10000000000000000000000000000000000000000) (b : m ≤ 10000000000000000000000000000000000000000) : InL (n / (Int.gcd n m : Int)) (m / (Int.gcd n m : Int)) := by
  have g0 : 0 < (Int.gcd n m : Int) := by exact_mod_cast Nat.pos_of_ne_zero fun z => by have := Int.gcd_eq_zero_iff.mp z; omega
  have d1 : (Int.gcd n m : Int) ∣ n := Int.gcd_dvd_left ..
  have d2 : (Int.gcd n m : Int) ∣ m := Int.gcd_dvd_right ..
  generalize (Int.gcd n m : Int) = g at *
  obtain ⟨x, rfl⟩ := d1
  obtain ⟨y, rfl⟩ := d2
  rw [Int.mul_ediv_cancel_left _ (by omega), Int.mul_ediv_cancel_left _ (by omega)]
  rw [Int.natAbs_mul] at a
  have g1 : 1 ≤ g.natAbs := by omega
  have k1 : x.natAbs ≤ g.natAbs * x.natAbs := Nat.le_mul_of_pos_left _ g1
  have y0 : 0 < y := by
    rcases Int.lt_or_le 0 y with z | z
    · exact z
    · have := Int.mul_nonpos_of_nonneg_of_nonpos (Int.le_of_lt g0) z; omega
  have k2 : y ≤ g * y := by
    have z := Int.mul_le_mul_of_nonneg_right (show (1 : Int) ≤ g by omega) (Int.le_of_lt y0)
    rw [Int.one_mul] at z
    exact z
  exact ⟨by omega, by omega⟩
theorem rational1_lim {P : Pg} {d : Nat} {h : Hm} {t : Nat} (D : Draws P) (fd : P.fns "_law_draw" = true) (hLow : Has P "_law_lowest" G_law_lowest) (hF : P.df "_law_rational" = some G_law_rational1) (T : Tape h t) : ∃ (p q : Int) (o : O), callF P (d + 2) "_law_rational" [.ref t, .bl true] h = some (.ok (rat p q) (h.set t o)) ∧ Rq 140 p q ∧ InL p q ∧ Tape (h.set t o) t := by
  rw [callF_eq hF rfl rfl (by decide)]
  obtain ⟨r, o, e1, r0, r1, T1⟩ := D (d := d) (many := 8) T (by decide) (by decide)
  have fin : ∀ {v : M} {o' : O}, exSs P.toTx (callF P (d + 1)) G_law_rational1.body ([M.ref t, M.bl true].map some ++ List.replicate (G_law_rational1.ns - G_law_rational1.np) none) h = some (.ret v (h.set t o')) →
      outOf h (exSs P.toTx (callF P (d + 1)) G_law_rational1.body ([M.ref t, M.bl true].map some ++ List.replicate (G_law_rational1.ns - G_law_rational1.np) none) h) = some (.ok v (h.set t o')) := by
    intro v o' e
    rw [e]
    simp only [outOf]
    rw [trim_len (by simp)]
  have m2 : mulOk 2 1 = true := by decide
  have s0 : exS P.toTx (callF P (d + 1)) (.asg (.nm 2) (.call "_law_draw" [(.var 0), (.bin .add (.con (.int 6)) (.bin .mul (.con (.int 2)) (.bi .int [(.var 1)])))])) [some (.ref t), some (.bl true), none, none] h = some (.next [some (.ref t), some (.bl true), some (.int r), none] (h.set t o)) := by
    simp [exS, evE, evEs, fd, biM, intM, binM, binI, m2, e1, asgT, asgN]
  by_cases c1 : r < 4
  · obtain ⟨x, o2, e2, x0, x1, T2⟩ := D (d := d) (many := 15) T1 (by decide) (by decide)
    rw [set_set] at e2 T2
    refine ⟨x - 7, 1, o2, fin ?_, ⟨by decide, by simp, (show Sm 140 (x - 7) by unfold Sm; omega), (by unfold Sm; decide)⟩, inL (by omega) (by omega), T2⟩
    refine (run_next s0).trans ?_
    refine run_ret ?_
    rw [run_if (k := true) (h1 := h.set t o) (by simp [evT, evE, cmpM, c1, truth])]
    simp [exSs, exS, evE, evEs, fd, e2, binM, binI, two_le]
  · refine (?_ : _)
    by_cases c2 : r < 6
    · obtain ⟨x, o2, e2, x0, x1, T2⟩ := D (d := d) (many := 401) T1 (by decide) (by decide)
      obtain ⟨y, o3, e3, y0, y1, T3⟩ := D (d := d) (many := 12) T2 (by decide) (by decide)
      rw [set_set] at e2 T2 e3 T3
      rw [set_set] at e3 T3
      have s2 : Sm 140 (1 + y) := by unfold Sm; omega
      have L := law_lowest_ok (P := P) (d := d) (h := h.set t o3) hLow (n := x - 200) (m := 1 + y) (by omega) (s2.mono (by decide))
      refine ⟨_, _, o3, fin ?_, rq_low (n := x - 200) (m := 1 + y) (by omega) (by unfold Sm; omega) s2, inL_low (by omega) (by omega) (by omega), T3⟩
      refine (run_next s0).trans ?_
      refine (run_next (env' := [some (.ref t), some (.bl true), some (.int r), none]) (h' := h.set t o) ?_).trans ?_
      · rw [run_if (k := false) (h1 := h.set t o) (by simp [evT, evE, cmpM, c1, truth])]; simp [exSs]
      refine run_ret ?_
      rw [run_if (k := true) (h1 := h.set t o) (by simp [evT, evE, cmpM, c2, truth])]
      simp [exSs, exS, evE, evEs, fd, hLow.fn, e2, e3, L, binM, binI, two_le]
    · have q1 : exSs P.toTx (callF P (d + 1)) G_law_rational1.body ([M.ref t, M.bl true].map some ++ List.replicate (G_law_rational1.ns - G_law_rational1.np) none) h = exSs P.toTx (callF P (d + 1)) (G_law_rational1.body.drop 3) [some (.ref t), some (.bl true), some (.int r), none] (h.set t o) := by
        refine (run_next s0).trans ?_
        refine (run_next (env' := [some (.ref t), some (.bl true), some (.int r), none]) (h' := h.set t o) ?_).trans ?_
        · rw [run_if (k := false) (h1 := h.set t o) (by simp [evT, evE, cmpM, c1, truth])]; simp [exSs]
        refine (run_next (env' := [some (.ref t), some (.bl true), some (.int r), none]) (h' := h.set t o) ?_).trans ?_
        · rw [run_if (k := false) (h1 := h.set t o) (by simp [evT, evE, cmpM, c2, truth])]; simp [exSs]
        rfl
      by_cases c3 : r = 6
      · obtain ⟨x, o2, e2, x0, x1, T2⟩ := D (d := d) (many := 2000000000000000001) T1 (by decide) (by decide)
        obtain ⟨y, o3, e3, y0, y1, T3⟩ := D (d := d) (many := 1000000000000000000) T2 (by decide) (by decide)
        rw [set_set] at e2 T2 e3 T3
        rw [set_set] at e3 T3
        have s2 : Sm 140 (1 + y) := by unfold Sm; omega
        have L := law_lowest_ok (P := P) (d := d) (h := h.set t o3) hLow (n := x - 1000000000000000000) (m := 1 + y) (by omega) (s2.mono (by decide))
        refine ⟨_, _, o3, fin ?_, rq_low (n := x - 1000000000000000000) (m := 1 + y) (by omega) (by unfold Sm; omega) s2, inL_low (by omega) (by omega) (by omega), T3⟩
        rw [q1]
        refine run_ret ?_
        have m3 : mulOk 2 1000000000000000000 = true := by decide
        rw [run_if (k := true) (h1 := h.set t o) (by simp [evT, evE, cmpM, eqD, c3, truth])]
        simp [exSs, exS, evE, evEs, fd, hLow.fn, e2, e3, L, binM, binI, m3, two_le]
      · obtain ⟨x, o2, e2, x0, x1, T2⟩ := D (d := d) (many := 3) T1 (by decide) (by decide)
        obtain ⟨y, o3, e3, y0, y1, T3⟩ := D (d := d) (many := 4) T2 (by decide) (by decide)
        rw [set_set] at e2 T2 e3 T3
        rw [set_set] at e3 T3
        have q2 : exSs P.toTx (callF P (d + 1)) (G_law_rational1.body.drop 3) [some (.ref t), some (.bl true), some (.int r), none] (h.set t o) = exSs P.toTx (callF P (d + 1)) (G_law_rational1.body.drop 5) [some (.ref t), some (.bl true), some (.int r), some (.int (10000000000000000000000000000000000000000 - x))] (h.set t o2) := by
          refine (run_next (env' := [some (.ref t), some (.bl true), some (.int r), none]) (h' := h.set t o) ?_).trans ?_
          · rw [run_if (k := false) (h1 := h.set t o) (by simp [evT, evE, cmpM, eqD, c3, truth])]; simp [exSs]
          refine (run_next ?_).trans rfl
          simp [exS, evE, evEs, fd, e2, binM, binI, asgT, asgN]
        generalize hE : (10000000000000000000000000000000000000000 - x : Int) = edge at q2
        have sE : Sm 140 edge := by unfold Sm; omega
        have pE : 0 < edge := by omega
        have one : Sm 140 1 := by unfold Sm; decide
        have s4 : (4 : Nat) ≤ sizeLine := by decide
        have hy : y = 0 ∨ y = 1 ∨ y = 2 ∨ y = 3 := by omega
        rcases hy with rfl | rfl | rfl | rfl
        · refine ⟨edge, 1, o3, fin ?_, ⟨by decide, by simp, sE, one⟩, inL (by omega) (by omega), T3⟩
          rw [q1, q2]
          refine run_ret ?_
          simp [exS, evE, evEs, evL, fd, e3, binM, binI, two_le, s4, at4_0, at4_1, at4_2, at4_3]
        · refine ⟨-edge, 1, o3, fin ?_, ⟨by decide, by simp, sE.neg, one⟩, inL (by omega) (by omega), T3⟩
          rw [q1, q2]
          refine run_ret ?_
          simp [exS, evE, evEs, evL, fd, e3, binM, binI, two_le, s4, at4_0, at4_1, at4_2, at4_3]
        · refine ⟨1, edge, o3, fin ?_, ⟨pE, by simp, one, sE⟩, inL (by omega) (by omega), T3⟩
          rw [q1, q2]
          refine run_ret ?_
          simp [exS, evE, evEs, evL, fd, e3, binM, binI, two_le, s4, at4_0, at4_1, at4_2, at4_3]
        · refine ⟨-1, edge, o3, fin ?_, ⟨pE, by simp, one.neg, sE⟩, inL (by omega) (by omega), T3⟩
          rw [q1, q2]
          refine run_ret ?_
          simp [exS, evE, evEs, evL, fd, e3, binM, binI, two_le, s4, at4_0, at4_1, at4_2, at4_3]
theorem rational1_ok {P : Pg} {d : Nat} {h : Hm} {t : Nat} (D : Draws P) (fd : P.fns "_law_draw" = true) (hLow : Has P "_law_lowest" G_law_lowest) (hF : P.df "_law_rational" = some G_law_rational1) (T : Tape h t) : ∃ (p q : Int) (o : O), callF P (d + 2) "_law_rational" [.ref t, .bl true] h = some (.ok (rat p q) (h.set t o)) ∧ Rq 140 p q ∧ Tape (h.set t o) t := by
  obtain ⟨p, q, o, e, r, _, T⟩ := rational1_lim (d := d) D fd hLow hF T
  exact ⟨p, q, o, e, r, T⟩
theorem cut_map {α β : Type} {f : α → β} {xs : List α} {lo hi : Option Int} : cut (xs.map f) lo hi = (cut xs lo hi).map f := by
  unfold cut
  simp [List.map_drop, List.map_take]
def G_law_tape : Fn := ⟨1, 1, [], 0,
  [.ret (.new (.lst [(.new (.of (.sl (.var 0) none (some (.con (.int 63)))))), (.con (.int 0)), (.con (.int 0)), (.con (.int 17))]))]⟩
theorem tape_ok {P : Pg} {d : Nat} {ns : List Int} (hF : P.df "_law_tape" = some G_law_tape) : ∃ h', callF P (d + 1) "_law_tape" [.rol (ns.map M.int)] [] = some (.ok (.ref 2) h') ∧ Tape h' 2 := by
  rw [callF_eq hF rfl rfl (by decide)]
  refine ⟨[.lst ((cut ns none (some 63)).map M.int), .lst ((cut ns none (some 63)).map M.int), .lst [.ref 1, .int 0, .int 0, .int 17]], ?_, ⟨1, cut ns none (some 63), 0, 0, 17, rfl, by decide, rfl, by decide, by decide, by decide⟩⟩
  have s4 : (4 : Nat) ≤ sizeLine := by decide
  simp [G_law_tape, exSs, exS, evE, evEs, evL, evO, slM, itemsM, cut_map, s4, outOf, below, trim]
end MP
namespace MP
open PySem
/-! ### digits -/
/-- a number's digits, filled up to w signs -/
def padL (n w : Nat) : List Nat := List.replicate (w - (TL.numL n).length) 48 ++ TL.numL n
theorem padL_digits (n w : Nat) : ∀ c ∈ padL n w, 48 ≤ c ∧ c ≤ 57 := by
  intro c hc
  rcases List.mem_append.mp hc with h | h
  · have := (List.mem_replicate.mp h).2
    omega
  · exact TL.numL_digits n c h
theorem padL_len (n w : Nat) : w ≤ (padL n w).length ∧ 1 ≤ (padL n w).length := by
  have : 1 ≤ (TL.numL n).length := List.length_pos_iff.mpr (TL.numL_ne n)
  unfold padL
  rw [List.length_append, List.length_replicate]
  omega
theorem padL_le {n w k : Nat} (hk : 0 < k) (hw : w ≤ k) (h : n < 10 ^ k) : (padL n w).length ≤ k := by
  have := TL.numL_len hk h
  unfold padL
  rw [List.length_append, List.length_replicate]
  omega
theorem padL_fold (n w : Nat) : (padL n w).foldl (fun (t : Int) (c : Nat) => t * 10 + ((c : Int) - 48)) 0 = (n : Int) := by
  have z : ∀ k : Nat, (List.replicate k 48).foldl (fun (t : Int) (c : Nat) => t * 10 + ((c : Int) - 48)) 0 = 0 := by
    intro k
    induction k with
    | zero => rfl
    | succ k ih => rw [List.replicate_succ, List.foldl_cons]; exact ih
  unfold padL
  rw [List.foldl_append, z]
  exact TL.fold_num n
theorem numL_head : ∀ (n : Nat), 1 ≤ n → ∀ c, (TL.numL n).head? = some c → c ≠ 48 := by
  intro n
  induction n using Nat.strongRecOn with
  | _ n ih =>
    intro h c hc
    by_cases h10 : n < 10
    · rw [TL.numL_lt h10] at hc
      simp at hc
      omega
    · rw [TL.numL_step (by omega)] at hc
      have ne := TL.numL_ne (n / 10)
      cases q : TL.numL (n / 10) with
      | nil => exact absurd q ne
      | cons a r =>
        rw [q] at hc
        simp at hc
        subst hc
        exact ih (n / 10) (by omega) (by omega) a (by rw [q]; rfl)
/-- no zero ahead -/
theorem padL_head {n w : Nat} (h : w < (padL n w).length) (hw : 1 ≤ w) : ∀ c, (padL n w).head? = some c → c ≠ 48 := by
  have l : w < (TL.numL n).length := by
    unfold padL at h
    rw [List.length_append, List.length_replicate] at h
    omega
  have e : padL n w = TL.numL n := by
    unfold padL
    rw [show w - (TL.numL n).length = 0 by omega]
    rfl
  rw [e]
  refine numL_head n ?_
  by_cases z : n = 0
  · subst z
    rw [TL.numL_lt (by decide)] at l
    simp at l
    omega
  · omega
theorem zfill_ok (n w : Nat) : Txt.zfill (SX.S (TL.numL n)) (w : Int) = SX.S (padL n w) := by
  unfold Txt.zfill
  rw [SX.S_len]
  by_cases h : (w : Int) ≤ ((TL.numL n).length : Int)
  · rw [if_pos h]
    unfold padL
    rw [show w - (TL.numL n).length = 0 by omega]
    rfl
  · rw [if_neg h]
    have e : ∃ c r, TL.numL n = c :: r ∧ 48 ≤ c ∧ c ≤ 57 := by
      cases q : TL.numL n with
      | nil => exact absurd q (TL.numL_ne n)
      | cons c r => exact ⟨c, r, rfl, TL.numL_digits n c (by rw [q]; simp)⟩
    obtain ⟨c, r, e, c1, c2⟩ := e
    have hz : zfilled (SX.S (TL.numL n)) ((w : Int).toNat - (TL.numL n).length) = Builtin.Str.padded (SX.S (TL.numL n)) ((w : Int).toNat - (TL.numL n).length) 0 48 := by
      unfold zfilled
      have : (SX.S (TL.numL n)).cps[0]? = some c := by rw [e]; rfl
      rw [this]
      split
      · rename_i q; cases q; omega
      · rename_i q; cases q; omega
      · rfl
    refine hz.trans ?_
    unfold Builtin.Str.padded padL
    exact congrArg Str.mk (by apply Array.ext'; simp [SX.S])
theorem cut_to_neg {l : List Nat} {k : Nat} (hk : 0 < k) (h : k ≤ l.length) : cut l none (some (-(k : Int))) = l.take (l.length - k) := by
  have e : HT.sIx l.length l.length (some (-(k : Int))) = l.length - k := by
    unfold HT.sIx
    simp only
    rw [if_pos (by omega)]
    omega
  unfold cut
  rw [e]
  simp [HT.sIx]
theorem cut_from_neg {l : List Nat} {k : Nat} (hk : 0 < k) (h : k ≤ l.length) : cut l (some (-(k : Int))) none = l.drop (l.length - k) := by
  have e : HT.sIx l.length 0 (some (-(k : Int))) = l.length - k := by
    unfold HT.sIx
    simp only
    rw [if_pos (by omega)]
    omega
  unfold cut
  rw [e]
  have : HT.sIx l.length l.length none = l.length := rfl
  rw [this, List.take_of_length_le (by simp)]
theorem cut_to_1 {c : Nat} {l : List Nat} : cut (c :: l) none (some 1) = [c] := by
  have e : HT.sIx (c :: l).length (c :: l).length (some 1) = 1 := by
    unfold HT.sIx
    simp
    try omega
  unfold cut
  rw [e]
  simp [HT.sIx]
theorem cut_from_1 {c : Nat} {l : List Nat} : cut (c :: l) (some 1) none = l := by
  have e : HT.sIx (c :: l).length 0 (some 1) = 1 := by
    unfold HT.sIx
    simp
    try omega
  unfold cut
  rw [e]
  have : HT.sIx (c :: l).length (c :: l).length none = (c :: l).length := rfl
  rw [this]
  simp
/-- the ten digits -/
abbrev DG : Str := "0123456789"
theorem DG_S : DG = SX.S [48, 49, 50, 51, 52, 53, 54, 55, 56, 57] := by decide +kernel
theorem DG_in {c : Nat} (h : 48 ≤ c ∧ c ≤ 57) : (!(Builtin.Str.occurrences DG (SX.S [c]) 0 DG.length 1).isEmpty) = true := by
  rw [DG_S, SX.in_one]
  simp
  omega
theorem DG_ix {c : Nat} (h : 48 ≤ c ∧ c ≤ 57) : ∃ r, Builtin.Str.occurrences DG (SX.S [c]) 0 DG.length 1 = (c - 48) :: r := by
  have k : ∀ n : Fin 10, ∃ r, Builtin.Str.occurrences DG (SX.S [48 + n.val]) 0 DG.length 1 = n.val :: r := by
    intro n
    have : (Builtin.Str.occurrences DG (SX.S [48 + n.val]) 0 DG.length 1).head? = some n.val := by
      revert n
      decide +kernel
    cases q : Builtin.Str.occurrences DG (SX.S [48 + n.val]) 0 DG.length 1 with
    | nil => rw [q] at this; cases this
    | cons a r => rw [q] at this; simp at this; exact ⟨r, by rw [this]⟩
  obtain ⟨r, e⟩ := k ⟨c - 48, by omega⟩
  refine ⟨r, ?_⟩
  have : 48 + (c - 48) = c := by omega
  simp only [this] at e
  exact e
end MP
namespace MP
open PySem
/-! ### flat things, and what is shown of them -/
def Flt (x : M) : Prop := x = .non ∨ (∃ b, x = .bl b) ∨ (∃ i, x = .int i ∧ Sm 200 i) ∨ ∃ l, x = .str (SX.S l) ∧ okL l ∧ l.length ≤ 250
theorem flt_ty {x : M} (f : Flt x) : ∃ t, ∀ h, tyM h x = some t := by
  rcases f with rfl | ⟨b, rfl⟩ | ⟨i, rfl, _⟩ | ⟨l, rfl, _⟩
  · exact ⟨.none, fun _ => rfl⟩
  · exact ⟨.bool, fun _ => rfl⟩
  · exact ⟨.int, fun _ => rfl⟩
  · exact ⟨.str, fun _ => rfl⟩
theorem flt_dat {x : M} (f : Flt x) : ∃ e, Shw 2510 e ∧ ∀ h n, dat h (n + 1) x = some e := by
  rcases f with rfl | ⟨b, rfl⟩ | ⟨i, rfl, s⟩ | ⟨l, rfl, ok, hl⟩
  · exact ⟨_, shw_none.mono (by decide), fun _ _ => by simp [dat]⟩
  · exact ⟨_, (shw_bool (b := b)).mono (by decide), fun _ _ => by simp [dat]⟩
  · exact ⟨_, (shw_int s (by decide) (by decide)).mono (by decide), fun _ _ => by simp [dat]⟩
  · refine ⟨_, (shw_str (okL_str ok)).mono ?_, fun _ _ => by simp [dat]⟩
    rw [SX.S_len]
    omega
theorem flts_dat : ∀ {xs : List M}, (∀ x ∈ xs, Flt x) → ∃ es, Shws (xs.length * 2512) es ∧ ∀ h n, xs.length < n → dats h n xs = some es
  | [], _ => ⟨[], by simpa using shws_nil, fun h n hn => by
    obtain ⟨m, rfl⟩ : ∃ m, n = m + 1 := ⟨n - 1, by simp at hn; omega⟩
    simp [dats]⟩
  | x :: xs, hf => by
    obtain ⟨e, s, q⟩ := flt_dat (hf x (by simp))
    obtain ⟨es, ss, qs⟩ := flts_dat (xs := xs) fun y hy => hf y (by simp [hy])
    refine ⟨e :: es, ?_, fun h n hn => ?_⟩
    · have := shws_cons s ss
      have k : 2510 + 2 + xs.length * 2512 = (x :: xs).length * 2512 := by simp; omega
      rw [k] at this
      exact this
    · simp at hn
      obtain ⟨m, rfl⟩ : ∃ m, n = m + 1 + 1 := ⟨n - 2, by omega⟩
      simp only [dats, q, qs h (m + 1) (by omega)]
inductive Thing (h : Hm) : M → Prop
  | flt {v : M} (f : Flt v) : Thing h v
  | tup {xs : List M} (f : ∀ x ∈ xs, Flt x) (hl : xs.length ≤ 4) : Thing h (.tup xs)
  | lst {a : Nat} {xs : List M} (e : h[a]? = some (.lst xs)) (f : ∀ x ∈ xs, Flt x) (hl : xs.length ≤ 4) : Thing h (.ref a)
  | dic {a : Nat} (e : h[a]? = some (.dic [])) : Thing h (.ref a)
theorem Thing.app {h e : Hm} {v : M} (t : Thing h v) : Thing (h ++ e) v := by
  cases t with
  | flt f => exact .flt f
  | tup f hl => exact .tup f hl
  | lst q f hl => exact .lst (get_app q) f hl
  | dic q => exact .dic (get_app q)
theorem Thing.ty {h : Hm} {v : M} (t : Thing h v) : ∃ k, tyM h v = some k := by
  cases t with
  | flt f => exact (flt_ty f).imp fun k hk => hk h
  | tup f hl => exact ⟨_, rfl⟩
  | lst q f hl => exact ⟨.list, by simp [tyM, q]⟩
  | dic q => exact ⟨.dict, by simp [tyM, q]⟩
/-- what repr shows, now and later -/
theorem Thing.rep {h : Hm} {v : M} (t : Thing h v) : ∃ x : Str, ∀ e, reprD (h ++ e) v = some (.str x) := by
  cases t with
  | flt f =>
    obtain ⟨d, s, q⟩ := flt_dat f
    exact ⟨_, fun e => repr_shw (q _ 119) s (by decide)⟩
  | tup f hl =>
    obtain ⟨ds, s, q⟩ := flts_dat f
    refine ⟨_, fun e => repr_shw (e := .tuple ds) ?_ (shw_tuple s) (by omega)⟩
    show dat _ (119 + 1) _ = _
    simp only [dat]
    rw [q _ 119 (by omega)]
    rfl
  | lst g f hl =>
    obtain ⟨ds, s, q⟩ := flts_dat f
    refine ⟨_, fun e => repr_shw (e := .list ds) ?_ (shw_list s) (by omega)⟩
    show dat _ (119 + 1) _ = _
    simp only [dat, get_app g]
    rw [q _ 119 (by omega)]
    rfl
  | @dic a g =>
    refine ⟨_, fun e => repr_shw (e := .dict []) ?_ (shw_dict0) (by decide)⟩
    show dat _ (119 + 1) _ = _
    simp only [dat, get_app g]
theorem set_app {h e : Hm} {t : Nat} {o : O} (ht : t < h.length) : (h ++ e).set t o = h.set t o ++ e := by
  rw [List.set_append_left _ _ ht]
theorem trim_no {h h' : Hm} : trim h h' false = h' := by
  unfold trim
  rw [if_neg (by simp)]
theorem str_ok (s : String) : okL (Str.ofString s).cps.toList := by
  rw [Str.ofString_eq_toList]
  intro c hc
  simp at hc
  obtain ⟨x, _, rfl⟩ := hc
  have := x.valid
  have h2 : x.val.toNat.isValidChar := this
  show x.val.toNat < _
  rcases h2 with h2 | h2 <;> omega
theorem flt_int {i : Int} (h : Sm 200 i) : Flt (.int i) := .inr (.inr (.inl ⟨i, rfl, h⟩))
theorem flt_bl {b : Bool} : Flt (.bl b) := .inr (.inl ⟨b, rfl⟩)
theorem flt_S {x : Str} (h : okL x.cps.toList) (hl : x.cps.toList.length ≤ 250) : Flt (.str x) := .inr (.inr (.inr ⟨x.cps.toList, by rw [← S_tl x], h, hl⟩))
theorem flt_strI {i : Int} (h : Sm 140 i) : Flt (.str (toString i)) := by
  refine flt_S (str_ok _) ?_
  have := int_shown h (by decide)
  have e : (Str.ofString (toString i)).cps.toList.length = (PyData.int i).shown.length := by
    show _ = (Str.ofString (toString i)).cps.size
    simp
  omega
theorem two_flt {x y : M} (a : Flt x) (b : Flt y) : ∀ z ∈ [x, y], Flt z := fun z hz => by
  simp at hz
  rcases hz with rfl | rfl
  · exact a
  · exact b
/-- a thing made from the tape -/
structure Made (h : Hm) (t : Nat) (v : M) (h' : Hm) : Prop where
  ex : ∃ o e, h' = h.set t o ++ e ∧ (e = [] ∨ below h.length v = false)
  tape : Tape h' t
  th : Thing h' v
theorem Made.trim {h h' : Hm} {t : Nat} {v : M} (m : Made h t v h') : MP.trim h h' (below h.length v) = h' := by
  obtain ⟨o, e, rfl, z | z⟩ := m.ex
  · subst z
    exact trim_len (by simp)
  · rw [z, trim_no]
theorem Made.one {h : Hm} {t : Nat} {v : M} {o : O} (T : Tape (h.set t o) t) (th : Thing (h.set t o) v) : Made h t v (h.set t o) := ⟨⟨o, [], by simp, .inl rfl⟩, T, th⟩
theorem Made.up {h h' : Hm} {t : Nat} {v : M} {o : O} (m : Made (h.set t o) t v h') : Made h t v h' := by
  obtain ⟨o2, e, rfl, z⟩ := m.ex
  exact ⟨⟨o2, e, by rw [set_set], by simpa using z⟩, m.tape, m.th⟩
theorem eqD_rat {h : Hm} {a b c e : Int} : eqD h (rat a b) (rat c e) = some (decide (a = c) && decide (b = e)) := by
  simp [eqD, deep, dat, dats, PyData.canLay0, PyData.canLayAll0, PyData.eqv, PyData.eqvAll]
  rfl
section
variable {P : Tx} {C : Cal} {env : Ev} {h h1 h2 : Hm}
theorem ev_callk {f : Str} {ks : List Str} {es zs : List E} {xs ys : List M} (hk : P.kw (kwN f ks) = some (f, ks)) (ha : evEs P C es env h = some (.ok xs h1)) (hz : evEs P C zs env h1 = some (.ok ys h2)) : evE P C (.callk f es ks zs) env h = C (kwN f ks) (xs ++ ys) h2 := by
  rw [evE, if_pos hk, ha, bindO_ok, hz, bindO_ok]
theorem ev_calk {i : Nat} {f : Str} {ks : List Str} {es zs : List E} {xs ys : List M} (he : env[i]? = some (some (.glo f))) (hk : P.kw (kwN f ks) = some (f, ks)) (ha : evEs P C es env h = some (.ok xs h1)) (hz : evEs P C zs env h1 = some (.ok ys h2)) : evE P C (.calk i es ks zs) env h = C (kwN f ks) (xs ++ ys) h2 := by
  rw [evE]
  simp only [he]
  rw [if_pos hk, ha, bindO_ok, hz, bindO_ok]
end
theorem Rq.mono {a b : Nat} {p q : Int} (x : Rq a p q) (h : a ≤ b) : Rq b p q := ⟨x.pos, x.co, x.sp.mono h, x.sq.mono h⟩
end MP
namespace MP
open PySem
/-! ### exact arithmetic without the checks -/
structure Ops (P : Pg) : Prop where
  f2 : Has P "common_divisor" G_common_divisor
  f4 : Has P "lowest" G_lowest
  c2 : Has P "sum_of" G_sum_of
  c3 : Has P "negative" G_negative
  c4 : Has P "product_of" G_product_of
  c5 : Has P "quotient_of" G_quotient_of
  c6 : Has P "order_of" G_order_of
section
variable {P : Pg} {d : Nat} {h : Hm}
theorem lowest1_ok (A : Ops P) {n m : Int} (hm : 0 < m) (hs : Sm 9000 m) : callF P (d + 2) "lowest" [.int n, .int m] h = some (.ok (low n m) h) := by
  rw [callF_eq A.f4.df rfl rfl (by decide)]
  have g1 : (0 : Int) < Int.gcd n m := by exact_mod_cast gcd_pos (n := n) hm
  have e1 := fdiv_ok (n := n) g1 (hs.gcd hm)
  have e2 := fdiv_ok (n := m) g1 (hs.gcd hm)
  have dv := div_ok (P := P) (d := d) (h := h) A.f2 (a := n) (b := m)
  simp [G_lowest, exSs, exS, evE, evEs, A.f2.fn, dv, asgT, asgN, binM, e1, e2, outOf, below, belows, trim_self, two_le]
variable {p q r s : Int} {k l : Nat}
theorem sum1_ok (A : Ops P) (x : Rq k p q) (y : Rq l r s) (hk : k + l < 9000) (k0 : 0 < k) (l0 : 0 < l) : callF P (d + 3) "sum_of" [rat p q, rat r s] h = some (.ok (low (p * s + r * q) (q * s)) h) := by
  rw [callF_eq A.c2.df rfl rfl (by decide)]
  have L := lowest1_ok (P := P) (d := d) (h := h) A (n := p * s + r * q) (m := q * s) (Int.mul_pos x.pos y.pos) ((x.sq.mul y.sq).mono (by omega))
  have m1 := x.sp.mulOk y.sq k0 l0 (by omega)
  have m2 := y.sp.mulOk x.sq l0 k0 (by omega)
  have m3 := x.sq.mulOk y.sq k0 l0 (by omega)
  simp [G_sum_of, exSs, exS, evE, evEs, ixM, itemsM, at2_0, at2_1, binM, binI, m1, m2, m3, A.f4.fn, L, outOf, below, belows, trim_self]
theorem prod1_ok (A : Ops P) (x : Rq k p q) (y : Rq l r s) (hk : k + l < 9000) (k0 : 0 < k) (l0 : 0 < l) : callF P (d + 3) "product_of" [rat p q, rat r s] h = some (.ok (low (p * r) (q * s)) h) := by
  rw [callF_eq A.c4.df rfl rfl (by decide)]
  have L := lowest1_ok (P := P) (d := d) (h := h) A (n := p * r) (m := q * s) (Int.mul_pos x.pos y.pos) ((x.sq.mul y.sq).mono (by omega))
  have m1 := x.sp.mulOk y.sp k0 l0 (by omega)
  have m3 := x.sq.mulOk y.sq k0 l0 (by omega)
  simp [G_product_of, exSs, exS, evE, evEs, ixM, itemsM, at2_0, at2_1, binM, binI, m1, m3, A.f4.fn, L, outOf, below, belows, trim_self]
theorem neg1_ok (A : Ops P) : callF P (d + 1) "negative" [rat p q] h = some (.ok (rat (-p) q) h) := by
  rw [callF_eq A.c3.df rfl rfl (by decide)]
  simp [G_negative, exSs, exS, evE, evEs, ixM, itemsM, at2_0, at2_1, outOf, below, belows, trim_self, two_le]
theorem quot1_ok (A : Ops P) (x : Rq k p q) (y : Rq l r s) (hr : r ≠ 0) (hk : k + l < 9000) (k0 : 0 < k) (l0 : 0 < l) : callF P (d + 3) "quotient_of" [rat p q, rat r s] h = some (.ok (low (sgn r * p * s) (q * r.natAbs)) h) := by
  rw [callF_eq A.c5.df rfl rfl (by decide)]
  have ab : (if r < 0 then -r else r) = (r.natAbs : Int) := by split <;> omega
  have hp : (0 : Int) < r.natAbs := by omega
  have sa : Sm l (r.natAbs : Int) := by unfold Sm; simpa [Sm] using y.sp
  have L := lowest1_ok (P := P) (d := d) (h := h) A (n := sgn r * p * s) (m := q * r.natAbs) (Int.mul_pos x.pos hp) ((x.sq.mul sa).mono (by omega))
  have s1 : Sm 1 (sgn r) := by unfold sgn Sm; split <;> decide
  have m1 : mulOk (sgn r) p = true := mulOk_l (by unfold sgn; split <;> decide)
  have m2 := ((s1.mul x.sp).mono (b := k + 1) (by omega)).mulOk y.sq (by omega) l0 (by omega)
  have m3 := x.sq.mulOk sa k0 l0 (by omega)
  by_cases h0 : 0 < r
  · have e : sgn r = 1 := if_pos h0
    rw [e] at L m1 m2
    rw [e]
    simp [G_quotient_of, exSs, exS, evE, evEs, evT, ixM, itemsM, at2_0, at2_1, cmpM, truth, h0, asgT, asgN, binM, binI, m1, m2, m3, biM, absM, ab, A.f4.fn] 
    simp at L m2
    simp [L, m2, outOf, below, belows, trim_self]
  · have e : sgn r = -1 := if_neg h0
    rw [e] at L m1 m2
    rw [e]
    simp [G_quotient_of, exSs, exS, evE, evEs, evT, ixM, itemsM, at2_0, at2_1, cmpM, truth, h0, asgT, asgN, binM, binI, m1, m2, m3, biM, absM, ab, A.f4.fn]
    simp at L m2
    simp [L, m2, outOf, below, belows, trim_self]
theorem order1_ok (A : Ops P) (x : Rq k p q) (y : Rq l r s) (hk : k + l < 9000) (k0 : 0 < k) (l0 : 0 < l) : callF P (d + 1) "order_of" [rat p q, rat r s] h = some (.ok (.int (ord (p * s) (r * q))) h) := by
  rw [callF_eq A.c6.df rfl rfl (by decide)]
  have m1 := x.sp.mulOk y.sq k0 l0 (by omega)
  have m2 := y.sp.mulOk x.sq l0 k0 (by omega)
  simp [G_order_of, exSs, exS, evE, evEs, ixM, itemsM, at2_0, at2_1, binM, binI, m1, m2, cmpM, biM, intM, ord, outOf, below, trim_self]
end
end MP
namespace MP
open PySem
/-! ### the machine's equations, as rules -/
section
variable {P : Tx} {C : Cal}
@[simp] theorem q_evE_1 {v x1_ h} : evE P C (.con v) x1_ h = some (.ok v h) := by rw [evE] <;> rfl
@[simp] theorem q_evE_2 {i env h} : evE P C (.var i) env h = match env[i]? with
    | some (some v) => some (.ok v h)
    | _ => none := by rw [evE] <;> rfl
@[simp] theorem q_evE_3 {x x1_ h} : evE P C (.glo x) x1_ h = okv (P.con x) h := by rw [evE] <;> rfl
@[simp] theorem q_evE_4 {es env h} : evE P C (.tup es) env h = bindO (evEs P C es env h) fun xs h1 => if xs.length ≤ sizeLine then some (.ok (.tup xs) h1) else none := by rw [evE] <;> rfl
@[simp] theorem q_evE_5 {l env h} : evE P C (.new l) env h = bindO (evL P C l env h) fun xs h1 => some (.ok (.ref h1.length) (h1 ++ [.lst xs])) := by rw [evE] <;> rfl
@[simp] theorem q_evE_6 {x1_ h} : evE P C (.dic0) x1_ h = some (.ok (.ref h.length) (h ++ [.dic []])) := by rw [evE] <;> rfl
@[simp] theorem q_evE_7 {op a b env h} : evE P C (.bin op a b) env h = bindO (evE P C a env h) fun x h1 => bindO (evE P C b env h1) fun y h2 => binM op x y h2 := by rw [evE] <;> rfl
@[simp] theorem q_evE_8 {a env h} : evE P C (.neg a) env h = bindO (evE P C a env h) fun x h1 => match x with
    | .int i => some (.ok (.int (-i)) h1)
    | _ => none := by rw [evE] <;> rfl
@[simp] theorem q_evE_9 {op a b env h} : evE P C (.cmp op a b) env h = bindO (evE P C a env h) fun x h1 => bindO (evE P C b env h1) fun y h2 => okv ((cmpM h2 op x y).map M.bl) h2 := by rw [evE] <;> rfl
@[simp] theorem q_evE_10 {o1 o2 a b c env h} : evE P C (.chn o1 o2 a b c) env h = bindO (evE P C a env h) fun x h1 => bindO (evE P C b env h1) fun y h2 => match cmpM h2 o1 x y with
    | some true => bindO (evE P C c env h2) fun z h3 => okv ((cmpM h3 o2 y z).map M.bl) h3
    | some false => some (.ok (.bl false) h2)
    | none => none := by rw [evE] <;> rfl
@[simp] theorem q_evE_11 {a env h} : evE P C (.isN a) env h = bindO (evE P C a env h) fun x h1 => match x with
    | .non => some (.ok (.bl true) h1)
    | _ => some (.ok (.bl false) h1) := by rw [evE] <;> rfl
@[simp] theorem q_evE_12 {a env h} : evE P C (.notN a) env h = bindO (evE P C a env h) fun x h1 => match x with
    | .non => some (.ok (.bl false) h1)
    | _ => some (.ok (.bl true) h1) := by rw [evE] <;> rfl
@[simp] theorem q_evE_13 {n c a env h} : evE P C (.isB n c a) env h = bindO (evE P C a env h) fun x h1 => some (.ok (.bl (isBM c x == n)) h1) := by rw [evE] <;> rfl
@[simp] theorem q_evE_14 {a env h} : evE P C (.not a) env h = bindO (evE P C a env h) fun x h1 => match truth h1 x with
    | some b => some (.ok (.bl (!b)) h1)
    | none => none := by rw [evE] <;> rfl
@[simp] theorem q_evE_15 {a b env h} : evE P C (.and a b) env h = bindO (evE P C a env h) fun x h1 => match truth h1 x with
    | some true => evE P C b env h1
    | some false => some (.ok x h1)
    | none => none := by rw [evE] <;> rfl
@[simp] theorem q_evE_16 {a b env h} : evE P C (.or a b) env h = bindO (evE P C a env h) fun x h1 => match truth h1 x with
    | some true => some (.ok x h1)
    | some false => evE P C b env h1
    | none => none := by rw [evE] <;> rfl
@[simp] theorem q_evE_17 {t a b env h} : evE P C (.ife t a b) env h = bindO (evE P C t env h) fun x h1 => match truth h1 x with
    | some true => evE P C a env h1
    | some false => evE P C b env h1
    | none => none := by rw [evE] <;> rfl
@[simp] theorem q_evE_18 {a i env h} : evE P C (.ix a i) env h = bindO (evE P C a env h) fun x h1 => bindO (evE P C i env h1) fun j h2 => okv (ixM h2 x j) h2 := by rw [evE] <;> rfl
@[simp] theorem q_evE_19 {l i env h} : evE P C (.ixl l i) env h = bindO (evL P C l env h) fun xs h1 => bindO (evE P C i env h1) fun j h2 => match j with
    | .int j => okv (L2.atI xs j) h2
    | _ => none := by rw [evE] <;> rfl
@[simp] theorem q_evE_20 {a lo hi env h} : evE P C (.sl a lo hi) env h = bindO (evE P C a env h) fun x h1 => bindO (evO P C lo env h1) fun i h2 => bindO (evO P C hi env h2) fun j h3 => slM h3 x i j := by rw [evE] <;> rfl
@[simp] theorem q_evE_21 {f es env h} : evE P C (.call f es) env h = if P.fns f = true then bindO (evEs P C es env h) fun xs h1 => C f xs h1 else match P.mak f with
    | some q => bindO (evEs P C es env h) fun xs h1 => makM C f q xs h1
    | none => none := by rw [evE] <;> rfl
@[simp] theorem q_evE_22 {i es env h} : evE P C (.cal i es) env h = match env[i]? with
    | some (some (.glo f)) => if P.fns f = true then bindO (evEs P C es env h) fun xs h1 => C f xs h1 else none
    | _ => none := by rw [evE] <;> rfl
@[simp] theorem q_evE_23 {f es ks zs env h} : evE P C (.callk f es ks zs) env h = if P.kw (kwN f ks) = some (f, ks) then bindO (evEs P C es env h) fun xs h1 => bindO (evEs P C zs env h1) fun ys h2 => C (kwN f ks) (xs ++ ys) h2 else none := by rw [evE] <;> rfl
@[simp] theorem q_evE_24 {i es ks zs env h} : evE P C (.calk i es ks zs) env h = match env[i]? with
    | some (some (.glo f)) => if P.kw (kwN f ks) = some (f, ks) then bindO (evEs P C es env h) fun xs h1 => bindO (evEs P C zs env h1) fun ys h2 => C (kwN f ks) (xs ++ ys) h2 else none
    | _ => none := by rw [evE] <;> rfl
@[simp] theorem q_evE_25 {b es env h} : evE P C (.bi b es) env h = bindO (evEs P C es env h) fun xs h1 => okw (biM h1 b xs) h1 (match lenI P h1 b xs with
    | some q => lenO (C q xs h1)
    | none => none) := by rw [evE] <;> rfl
@[simp] theorem q_evE_26 {b o es env h} : evE P C (.mt b o es) env h = bindO (evE P C o env h) fun x h1 => match x with
    | .str a => bindO (evEs P C es env h1) fun xs h2 => mtM b a xs h2
    | _ => none := by rw [evE] <;> rfl
@[simp] theorem q_evE_27 {a c env h} : evE P C (.isi a c) env h = bindO (evE P C a env h) fun x h1 => match tyM h1 x with
    | some t => some (.ok (.bl (tyIs t c)) h1)
    | none => none := by rw [evE] <;> rfl
@[simp] theorem q_evE_28 {i c env h} : evE P C (.isx i c) env h = match env[i]? with
    | some none => match P.exv with
      | some (j, d, _) => if i = j then okv ((P.sub d c).map M.bl) h else none
      | none => none
    | some (some x) => okv ((iscM P h c x).map M.bl) h
    | none => none := by rw [evE] <;> rfl
@[simp] theorem q_evE_29 {i f env h} : evE P C (.exf i f) env h = match env[i]? with
    | some none => match P.exv with
      | some (j, d, fs) => match P.err d with
        | some ns => if i = j ∧ f ∈ ns then okv (fs.lookup f) h else none
        | none => none
      | none => none
    | some (some x) => okv (fldM P h x f) h
    | none => none := by rw [evE] <;> rfl
@[simp] theorem q_evE_30 {o f env h} : evE P C (.fld o f) env h = bindO (evE P C o env h) fun x h1 => okv (fldM P h1 x f) h1 := by rw [evE] <;> rfl
@[simp] theorem q_evE_31 {o f es ks zs env h} : evE P C (.meth o f es ks zs) env h = bindO (evE P C o env h) fun x h1 => match insM h1 x with
    | some (c, fs) => match P.mth c f ks, fs.lookup f with
      | some q, none => bindO (evEs P C es env h1) fun xs h2 => bindO (evEs P C zs env h2) fun ys h3 => C q (x :: (xs ++ ys)) h3
      | _, _ => none
    | none => none := by rw [evE] <;> rfl
@[simp] theorem q_evE_32 {l env h} : evE P C (.all l) env h = bindO (evL P C l env h) fun xs h1 => okv ((allB xs).map M.bl) h1 := by rw [evE] <;> rfl
@[simp] theorem q_evE_33 {l env h} : evE P C (.any l) env h = bindO (evL P C l env h) fun xs h1 => okv ((anyB xs).map M.bl) h1 := by rw [evE] <;> rfl
@[simp] theorem q_evE_34 {b o es env h} : evE P C (.lmt b o es) env h = bindO (evE P C o env h) fun x h1 => if isLst h1 x = true then bindO (evEs P C es env h1) fun xs h2 => lmM h2 b x xs else none := by rw [evE] <;> rfl
@[simp] theorem q_evE_35 {e env h} : evE P C (.fmt e) env h = bindO (evE P C e env h) fun x h1 => okv (fmtM x) h1 := by rw [evE] <;> rfl
@[simp] theorem q_evE_36 {es env h} : evE P C (.fst es) env h = bindO (evF P C es Str.empty env h) fun x h1 => some (.ok (.str x) h1) := by rw [evE] <;> rfl
@[simp] theorem q_evE_37 {e env h} : evE P C (.tupo e) env h = bindO (evE P C e env h) fun x h1 => okv ((itemsM h1 x).map M.tup) h1 := by rw [evE] <;> rfl
@[simp] theorem q_evE_38 {e env h} : evE P C (.dof e) env h = bindO (evE P C e env h) fun x h1 => match x with
    | .ref a => match h1[a]? with
      | some (.lst xs) => match pairsM xs with
        | some kvs => some (.ok (.ref h1.length) (h1 ++ [.dic (mergeD [] kvs)]))
        | none => none
      | _ => none
    | _ => none := by rw [evE] <;> rfl
@[simp] theorem q_evE_39 {e env h} : evE P C (.srt e) env h = bindO (evE P C e env h) fun x h1 => match srtM h1 x with
    | some ss => if ss.length < 64 then some (.ok (.ref h1.length) (h1 ++ [.lst ((srtS ss).map M.str)])) else none
    | none => none := by rw [evE] <;> rfl
@[simp] theorem q_evE_40 {o e env h} : evE P C (.dget o e) env h = bindO (evE P C o env h) fun x h1 => if isDic h1 x = true then bindO (evE P C e env h1) fun y h2 => okv (dGet h2 x y) h2 else none := by rw [evE] <;> rfl
@[simp] theorem q_evE_41 {o e env h} : evE P C (.dpop o e) env h = bindO (evE P C o env h) fun x h1 => if isDic h1 x = true then bindO (evE P C e env h1) fun y h2 => dPop h2 x y none else none := by rw [evE] <;> rfl
@[simp] theorem q_evE_42 {o e f env h} : evE P C (.dpop2 o e f) env h = bindO (evE P C o env h) fun x h1 => if isDic h1 x = true then bindO (evE P C e env h1) fun y h2 => bindO (evE P C f env h2) fun z h3 => dPop h3 x y (some z) else none := by rw [evE] <;> rfl
@[simp] theorem q_evEs_43 {x1_ h} : evEs P C [] x1_ h = some (.ok [] h) := by rw [evEs] <;> rfl
@[simp] theorem q_evEs_44 {e es env h} : evEs P C (e :: es) env h = bindO (evE P C e env h) fun x h1 => bindO (evEs P C es env h1) fun xs h2 => some (.ok (x :: xs) h2) := by rw [evEs] <;> rfl
@[simp] theorem q_evF_45 {acc x2_ h} : evF P C [] acc x2_ h = some (.ok acc h) := by rw [evF] <;> rfl
@[simp] theorem q_evF_46 {e es acc env h} : evF P C (e :: es) acc env h = bindO (evE P C e env h) fun x h1 => match x with
    | .str y => if (acc ++ y).length ≤ sizeLine then evF P C es (acc ++ y) env h1 else none
    | _ => none := by rw [evF] <;> rfl
@[simp] theorem q_evO_47 {x1_ h} : evO P C none x1_ h = some (.ok none h) := by rw [evO] <;> rfl
@[simp] theorem q_evO_48 {e env h} : evO P C (some e) env h = bindO (evE P C e env h) fun x h1 => match x with
    | .int i => some (.ok (some i) h1)
    | _ => none := by rw [evO] <;> rfl
@[simp] theorem q_evL_49 {es env h} : evL P C (.lst es) env h = bindO (evEs P C es env h) fun xs h1 => if xs.length ≤ sizeLine then some (.ok xs h1) else none := by rw [evL] <;> rfl
@[simp] theorem q_evL_50 {e env h} : evL P C (.of e) env h = bindO (evE P C e env h) fun x h1 => okv (itemsM h1 x) h1 := by rw [evL] <;> rfl
@[simp] theorem q_evI_51 {e env h} : evI P C (.v e) env h = bindO (evE P C e env h) fun x h1 => match iterM h1 x with
    | some xs => some (.ok (xs, guardM h1 x) h1)
    | none => none := by rw [evI] <;> rfl
@[simp] theorem q_evI_52 {l env h} : evI P C (.l l) env h = bindO (evL P C l env h) fun xs h1 => some (.ok (xs, []) h1) := by rw [evI] <;> rfl
@[simp] theorem q_evI_53 {e env h} : evI P C (.rng e) env h = bindO (evE P C e env h) fun x h1 => match x with
    | .int j => if -(2 ^ 62) ≤ j ∧ j < 2 ^ 62 then some (.ok ((List.range j.toNat).map fun i => .int (i : Nat), []) h1) else none
    | _ => none := by rw [evI] <;> rfl
@[simp] theorem q_evI_54 {a b env h} : evI P C (.zip a b) env h = bindO (evE P C a env h) fun x h1 => bindO (evE P C b env h1) fun y h2 => match rowM h2 x, rowM h2 y with
    | some (p, xs), some (q, ys) => if p = q then some (.ok (List.zipWith (fun x y => M.tup [x, y]) xs ys, guardM h2 x ++ guardM h2 y) h2) else none
    | _, _ => none := by rw [evI] <;> rfl
@[simp] theorem q_evI_55 {e env h} : evI P C (.enu e) env h = bindO (evE P C e env h) fun x h1 => match rowM h1 x with
    | some (_, xs) => some (.ok (enuM 0 xs, guardM h1 x) h1)
    | none => none := by rw [evI] <;> rfl
@[simp] theorem q_evC_56 {x1_ h} : evC P C none x1_ h = some (.ok true h) := by rw [evC] <;> rfl
@[simp] theorem q_evC_57 {e env h} : evC P C (some e) env h = bindO (evE P C e env h) fun x h1 => okv (truth h1 x) h1 := by rw [evC] <;> rfl
@[simp] theorem q_exS_58 {t e env h} : exS P C (.asg t e) env h = bindF env (evE P C e env h) fun x h1 => match asgT t x env with
    | some env' => some (.next env' h1)
    | none => none := by rw [exS] <;> rfl
@[simp] theorem q_exS_59 {i j a b env h} : exS P C (.par i j a b) env h = bindF env (evE P C a env h) fun x h1 => bindF env (evE P C b env h1) fun y h2 => if i < env.length ∧ j < env.length then some (.next ((env.set i (some x)).set j (some y)) h2) else none := by rw [exS] <;> rfl
@[simp] theorem q_exS_60 {o i e env h} : exS P C (.seti o i e) env h = bindF env (evE P C e env h) fun v h1 => bindF env (evE P C o env h1) fun x h2 => bindF env (evE P C i env h2) fun j h3 => match setM h3 x j v with
    | some h4 => some (.next env h4)
    | none => none := by rw [exS] <;> rfl
@[simp] theorem q_exS_61 {i op e env h} : exS P C (.aug i op e) env h = match env[i]? with
    | some (some x) => bindF env (evE P C e env h) fun y h1 => match x, y with
      | .int a, .int b => match binI op a b with
        | some c => some (.next (env.set i (some (.int c))) h1)
        | none => none
      | _, _ => none
    | _ => none := by rw [exS] <;> rfl
@[simp] theorem q_exS_62 {e env h} : exS P C (.exp e) env h = bindF env (evE P C e env h) fun _ h1 => some (.next env h1) := by rw [exS] <;> rfl
@[simp] theorem q_exS_63 {o e env h} : exS P C (.app o e) env h = bindF env (evE P C o env h) fun x h1 => if isLst h1 x = true then bindF env (evE P C e env h1) fun v h2 => match appM h2 x v with
    | some h3 => some (.next env h3)
    | none => none else none := by rw [exS] <;> rfl
@[simp] theorem q_exS_64 {o f e env h} : exS P C (.setf o f e) env h = bindF env (evE P C e env h) fun v h1 => bindF env (evE P C o env h1) fun x h2 => match setfM P h2 x f v with
    | some h3 => some (.next env h3)
    | none => none := by rw [exS] <;> rfl
@[simp] theorem q_exS_65 {o f op e env h} : exS P C (.augf o f op e) env h = bindF env (evE P C o env h) fun x h1 => match fldM P h1 x f with
    | some (.int a) => bindF env (evE P C e env h1) fun y h2 => match y with
      | .int b => (match augI op a b with
        | some z => if clsM h1 x = clsM h2 x then (match setfM P h2 x f (.int z) with
          | some h3 => some (.next env h3)
          | none => none) else none
        | none => none)
      | _ => none
    | _ => none := by rw [exS] <;> rfl
@[simp] theorem q_exS_66 {o i env h} : exS P C (.del o i) env h = bindF env (evE P C o env h) fun x h1 => bindF env (evE P C i env h1) fun j h2 => match delM h2 x j with
    | some h3 => some (.next env h3)
    | none => none := by rw [exS] <;> rfl
@[simp] theorem q_exS_67 {e env h} : exS P C (.ret e) env h = bindF env (evE P C e env h) fun x h1 => some (.ret x h1) := by rw [exS] <;> rfl
@[simp] theorem q_exS_68 {env h} : exS P C (.pass) env h = some (.next env h) := by rw [exS] <;> rfl
@[simp] theorem q_exS_69 {env h} : exS P C (.brk) env h = some (.brk env h) := by rw [exS] <;> rfl
@[simp] theorem q_exS_70 {env h} : exS P C (.cont) env h = some (.cont env h) := by rw [exS] <;> rfl
@[simp] theorem q_exS_71 {t a b env h} : exS P C (.ife t a b) env h = bindF env (evT P C t env h) fun k h1 => if k = true then exSs P C a env h1 else exSs P C b env h1 := by rw [exS] <;> rfl
@[simp] theorem q_exS_72 {c es env h} : exS P C (.rai c es) env h = match P.err c with
    | some fs => if es.length = fs.length then bindF env (evEs P C es env h) fun xs h1 => if xs.length = fs.length then some (.exc c (fs.zip xs).reverse env h1) else none else none
    | none => none := by rw [exS] <;> rfl
@[simp] theorem q_exS_73 {b hs env h} : exS P C (.try_ b hs) env h = match exSs P C b env h with
    | some (.exc c fs env' h') => exH P C hs c fs env' h'
    | r => r := by rw [exS] <;> rfl
@[simp] theorem q_exS_74 {b x i j r env h} : exS P C (.tryk b x i j r) env h = match exSs P C b env h with
    | some (.exc c fs env' h') => (match P.sub c x with
      | some true => (match exSs { P with exv := some (j, c, fs) } C r ((env'.set i none).set j none) h' with
        | some (.ret v h'') => some (.ret v h'')
        | _ => none)
      | some false => some (.exc c fs env' h')
      | none => none)
    | some (.next env' h') => exSs P C r env' h'
    | r => r := by rw [exS] <;> rfl
@[simp] theorem q_exSs_75 {env h} : exSs P C [] env h = some (.next env h) := by rw [exSs] <;> rfl
@[simp] theorem q_exSs_76 {s ss env h} : exSs P C (s :: ss) env h = match exS P C s env h with
    | some (.next env' h') => exSs P C ss env' h'
    | r => r := by rw [exSs] <;> rfl
@[simp] theorem q_exH_77 {c fs env h} : exH P C [] c fs env h = some (.exc c fs env h) := by rw [exH.eq_def] <;> rfl
@[simp] theorem q_exH_78 {x i b hs c fs env h} : exH P C (.mk x i b :: hs) c fs env h = match P.sub c x with
    | some true => match i with
      | none => match exSs P C b env h with
        | some (.exc ..) => none
        | r => r
      | some i => match exSs { P with exv := some (i, c, fs) } C b (env.set i none) h with
        | some (.next env' h') => some (.next (env'.set i none) h')
        | some (.brk env' h') => some (.brk (env'.set i none) h')
        | some (.cont env' h') => some (.cont (env'.set i none) h')
        | some (.ret v h') => some (.ret v h')
        | _ => none
    | some false => exH P C hs c fs env h
    | none => none := by rw [exH.eq_def] <;> rfl
@[simp] theorem q_evT {e env h} : evT P C e env h = bindO (evE P C e env h) fun x h1 => okv (truth h1 x) h1 := rfl
end
end MP
namespace MP
open PySem
/-! ### names and values known, in any program that has these defs -/
def G_is_within_limit : Fn := ⟨1, 1, [], 0,
  [.ret (.and (.cmp .le (.bi .abs [(.ix (.var 0) (.con (.int 0)))]) (.glo "LIMIT")) (.cmp .le (.ix (.var 0) (.con (.int 1))) (.glo "LIMIT")))]⟩
def G_is_name : Fn := ⟨1, 2, [], 0,
  [.ife (.or (.not (.isi (.var 0) .str)) (.or (.not (.chn .le .le (.con (.int 1)) (.bi .len [(.var 0)]) (.glo "MOST_NAME"))) (.cmp .notin (.ix (.var 0) (.con (.int 0))) (.glo "LETTERS"))))
     [.ret (.con (.bl false))]
     [],
   .ret (.all (.lc [1] (.nm 1) (.v (.var 0)) none (.cmp .isin (.var 1) (.glo "SIGNS"))))]⟩
def G_is_value : Fn := ⟨2, 2, [], 0,
  [.ife (.isN (.var 0))
     [.ret (.con (.bl true))]
     [],
   .ife (.cmp .eq (.var 1) (.con (.str "number")))
     [.ret (.and (.call "is_rational" [(.var 0)]) (.call "is_within_limit" [(.var 0)]))]
     [],
   .ife (.cmp .eq (.var 1) (.con (.str "word")))
     [.ret (.call "is_name" [(.var 0)])]
     [],
   .ret (.isi (.var 0) .bool)]⟩
def G_value_kind : Fn := ⟨1, 2, [], 0,
  [.ife (.isN (.var 0))
     [.ret (.con .non)]
     [],
   .for_ (.nm 1) (.v (.glo "KINDS"))
     [.ife (.call "is_value" [(.var 0), (.var 1)])
        [.ret (.var 1)]
        []],
   .ret (.con .non)]⟩
class LibV0 (P : Pg) : Prop where
  ar : Arith0 P
  wl : Has P "is_within_limit" G_is_within_limit
  isn : Has P "is_name" G_is_name
  c1 : P.con "LETTERS" = some (.str "abcdefghijklmnopqrstuvwxyz")
  c2 : P.con "SIGNS" = some (.str SG)
  c3 : P.con "LIMIT" = some (.int 10000000000000000000000000000000000000000)
  c4 : P.con "MOST_NAME" = some (.int 12)
class LibV (P : Pg) : Prop extends LibV0 P where
  isv : Has P "is_value" G_is_value
  c5 : P.con "KINDS" = some (.tup [.str "number", .str "word", .str "flag"])
def LIM : Int := 10000000000000000000000000000000000000000
def inLim (p q : Int) : Bool := decide ((p.natAbs : Int) ≤ LIM) && decide (q ≤ LIM)
theorem absI (i : Int) : (if i < 0 then -i else i) = (i.natAbs : Int) := by split <;> omega
def occ (j i : Str) : Bool := !(Builtin.Str.occurrences j i 0 j.length 1).isEmpty
abbrev LT26 : Str := "abcdefghijklmnopqrstuvwxyz"
def isNm (l : List Nat) : Bool := match l with
  | [] => false
  | c :: r => decide ((c :: r).length ≤ 12) && (occ LT26 (SX.S [c]) && (c :: r).all fun c => occ SG (SX.S [c]))
theorem allB_map {α : Type} {f : α → Bool} : ∀ l : List α, allB (l.map fun c => M.bl (f c)) = some (l.all f)
  | [] => rfl
  | c :: l => by simp [allB, allB_map l]
section
variable {P : Pg} [LV : LibV0 P] {d : Nat} {h : Hm}
theorem within_ok {p q : Int} : callF P (d + 1) "is_within_limit" [rat p q] h = some (.ok (.bl (inLim p q)) h) := by
  rw [callF_eq LV.wl.df rfl rfl (by decide)]
  by_cases h1 : (p.natAbs : Int) ≤ 10000000000000000000000000000000000000000
  · simp [G_is_within_limit, exSs, exS, evE, evEs, biM, absM, absI, ixM, itemsM, at2_0, at2_1, cmpM, LV.c3, truth, h1, outOf, below, trim_self, inLim, LIM]
    rfl
  · simp [G_is_within_limit, exSs, exS, evE, evEs, biM, absM, absI, ixM, itemsM, at2_0, at2_1, cmpM, LV.c3, truth, h1, outOf, below, trim_self, inLim, LIM]
theorem signs_lc {C : Cal} {k : Nat} {env : Ev} {l : List Nat} {e : E} {v : Nat} (hl : l.length ≤ 1000) (ev : env[v]? = some (some (.str (SX.S l)))) (hk : k < env.length)
    (he : ∀ c, evE P.toTx C e ((env.set k none).set k (some (.str (SX.S [c])))) h = some (.ok (.str SG) h)) :
    evL P.toTx C (.lc [k] (.nm k) (.v (.var v)) none (.cmp .isin (.var k) e)) env h = some (.ok (l.map fun c => .bl (occ SG (SX.S [c]))) h) := by
  refine (lc_ok (xs := l.map fun c => .str (SX.S [c])) (gs := []) (h1 := h) (o := fun y => match y with | .str x => some (.bl (occ SG x)) | _ => none) ?_ kept_nil (by simp [sz]; omega) ?_).trans ?_
  · simp [evI, evE, ev, iterM, guardM, tl_S, SX.S]
  · rintro y hy
    obtain ⟨c, _, rfl⟩ := List.mem_map.mp hy
    have a : asgT (.nm k) (.str (SX.S [c])) (wipeM env [k]) = some ((env.set k none).set k (some (.str (SX.S [c])))) := by simp [asgT, asgN, wipeM, hk]
    simp only [lcTurn, a, evC, bindO_ok, if_true]
    rw [ev_cmp (x := .str (SX.S [c])) (y := .str SG) (h1 := h) (h2 := h) (k := occ SG (SX.S [c])) (by simp [evE, hk]) (he c) (by simp [cmpM, inM, occ])]
    rfl
  · rw [List.filterMap_map]
    have : ∀ l : List Nat, List.filterMap ((fun y => match y with | M.str x => some (M.bl (occ SG x)) | _ => none) ∘ fun c => M.str (SX.S [c])) l = l.map fun c => M.bl (occ SG (SX.S [c])) := by
      intro l
      induction l with
      | nil => rfl
      | cons c l ih => simp [ih]
    rw [this]
theorem isname_ty {v : M} {t : Ty} (ht : tyM h v = some t) (hn : t ≠ .str) : callF P (d + 1) "is_name" [v] h = some (.ok (.bl false) h) := by
  rw [callF_eq LV.isn.df rfl rfl (by decide)]
  have e : tyIs t .str = false := by cases t <;> first | rfl | exact absurd rfl hn
  simp [G_is_name, exSs, exS, evE, evEs, evT, ht, e, truth, outOf, below, trim_self]
theorem isname_str {l : List Nat} (hl : l.length ≤ 1000) : callF P (d + 1) "is_name" [.str (SX.S l)] h = some (.ok (.bl (isNm l)) h) := by
  rw [callF_eq LV.isn.df rfl rfl (by decide)]
  have e1 : lenM h [.str (SX.S l)] = some (.int l.length) := len_S (by omega)
  have L := signs_lc (P := P) (C := callF P d) (h := h) (k := 1) (env := [some (.str (SX.S l)), none]) (l := l) (e := .glo "SIGNS") (v := 0) hl rfl (by simp) (fun c => by simp [evE, LV.c2])
  cases l with
  | nil => simp [G_is_name, exSs, exS, evE, evEs, evT, tyM, tyIs, truth, biM, e1, cmpM, LV.c4, outOf, below, trim_self, isNm]
  | cons c r =>
    by_cases h2 : (c :: r).length ≤ 12
    · have e3 : ixM h (.str (SX.S (c :: r))) (.int 0) = some (.str (SX.S [c])) := ix_S (by omega) at_0
      have h3 : ((c :: r).length : Int) ≤ 12 := by omega
      have h4 : (1 : Int) ≤ ((c :: r).length : Int) := by simp; omega
      have o : cmpM h .notin (.str (SX.S [c])) (.str LT26) = some (!occ LT26 (SX.S [c])) := by simp [cmpM, inM, occ]
      have t1 : evE P.toTx (callF P d) (.or (.not (.isi (.var 0) .str)) (.or (.not (.chn .le .le (.con (.int 1)) (.bi .len [(.var 0)]) (.glo "MOST_NAME"))) (.cmp .notin (.ix (.var 0) (.con (.int 0))) (.glo "LETTERS")))) [some (.str (SX.S (c :: r))), none] h = some (.ok (.bl (!occ LT26 (SX.S [c]))) h) := by
        refine (ev_or_f (x := .bl false) (h1 := h) (by simp [evE, tyM, tyIs, truth]) rfl).trans ?_
        refine (ev_or_f (x := .bl false) (h1 := h) ?_ rfl).trans ?_
        · refine ev_not (x := .bl true) (h1 := h) (k := true) ?_ rfl
          simp only [evE, evEs, List.getElem?_cons_zero, bindO_ok, biM, e1, okv_some, okw_some, cmpM, LV.c4]
          simp only [h4, decide_true, bindO_ok, Option.map_some, okv_some, h3]
        · exact ev_cmp (x := .str (SX.S [c])) (y := .str LT26) (h1 := h) (h2 := h) (by simp only [evE, List.getElem?_cons_zero, bindO_ok, e3, okv_some]) (by simp [evE, LV.c1]) o
      have e : exSs P.toTx (callF P d) G_is_name.body ([M.str (SX.S (c :: r))].map some ++ List.replicate (G_is_name.ns - G_is_name.np) none) h = some (.ret (.bl (isNm (c :: r))) h) := by
        cases q : occ LT26 (SX.S [c]) with
        | false =>
          rw [q] at t1
          refine run_ret ?_
          refine (run_if (k := true) (h1 := h) (ev_t t1 rfl)).trans ?_
          simp only [if_true]
          refine run_ret (run_retE ?_)
          simp [evE, isNm, q]
        | true =>
          rw [q] at t1
          refine (run_next (run_if_f (h1 := h) (ev_t t1 rfl))).trans ?_
          refine run_ret (run_retE ?_)
          rw [evE, show evL P.toTx (callF P d) _ _ h = _ from L]
          simp only [bindO_ok, allB_map, Option.map_some, okv_some, isNm, q, h2, decide_true, Bool.true_and]
      rw [e]
      simp [outOf, below, trim_self]
    · have h3 : ¬ ((c :: r).length : Int) ≤ 12 := by omega
      have h4 : (1 : Int) ≤ ((c :: r).length : Int) := by simp; omega
      have n : isNm (c :: r) = false := by simp only [isNm, h2, decide_false, Bool.false_and]
      have t1 : evE P.toTx (callF P d) (.or (.not (.isi (.var 0) .str)) (.or (.not (.chn .le .le (.con (.int 1)) (.bi .len [(.var 0)]) (.glo "MOST_NAME"))) (.cmp .notin (.ix (.var 0) (.con (.int 0))) (.glo "LETTERS")))) [some (.str (SX.S (c :: r))), none] h = some (.ok (.bl true) h) := by
        refine (ev_or_f (x := .bl false) (h1 := h) (by simp [evE, tyM, tyIs, truth]) rfl).trans ?_
        refine (ev_or_t (x := .bl true) (h1 := h) ?_ rfl)
        refine ev_not (x := .bl false) (h1 := h) (k := false) ?_ rfl
        simp only [evE, evEs, List.getElem?_cons_zero, bindO_ok, biM, e1, okv_some, okw_some, cmpM, LV.c4]
        simp only [h4, decide_true, bindO_ok, Option.map_some, okv_some, h3, decide_false]
      have e : exSs P.toTx (callF P d) G_is_name.body ([M.str (SX.S (c :: r))].map some ++ List.replicate (G_is_name.ns - G_is_name.np) none) h = some (.ret (.bl (isNm (c :: r))) h) := by
        refine run_ret ?_
        refine (run_if (k := true) (h1 := h) (ev_t t1 rfl)).trans ?_
        simp only [if_true]
        refine run_ret (run_retE ?_)
        simp [evE, n]
      rw [e]
      simp [outOf, below, trim_self]
end
variable {P : Pg} [LV : LibV P]
theorem isval_none {h : Hm} {k : Str} {d : Nat} : callF P (d + 1) "is_value" [.non, .str k] h = some (.ok (.bl true) h) := by
  rw [callF_eq LV.isv.df rfl rfl (by decide)]
  simp [G_is_value, exSs, exS, evE, evT, truth, outOf, below, trim_self]
theorem isN_false {P : Tx} {C : Cal} {env : Ev} {h : Hm} {v : M} {i : Nat} (e : env[i]? = some (some v)) (hn : v ≠ .non) : evE P C (.isN (.var i)) env h = some (.ok (.bl false) h) := by
  simp only [evE, e, bindO_ok]
theorem isval_num_f {h : Hm} {v : M} {d : Nat} (hn : v ≠ .non) (hr : callF P (d + 2) "is_rational" [v] h = some (.ok (.bl false) h)) : callF P (d + 3) "is_value" [v, .str "number"] h = some (.ok (.bl false) h) := by
  rw [callF_eq LV.isv.df rfl rfl (by decide)]
  have e : exSs P.toTx (callF P (d + 2)) G_is_value.body ([v, M.str "number"].map some ++ List.replicate (G_is_value.ns - G_is_value.np) none) h = some (.ret (.bl false) h) := by
    refine (run_next (run_if_f (h1 := h) (ev_t (isN_false (v := v) rfl hn) rfl))).trans ?_
    refine run_ret ((run_if (k := true) (h1 := h) (by simp [evT, evE, cmpM, eqD, truth])).trans ?_)
    simp [exSs, exS, evE, evEs, LV.ar.f3.fn, hr, truth]
  rw [e]
  simp [outOf, below, trim_self]
theorem isval_num_t {h : Hm} {p q : Int} {d : Nat} (hr : callF P (d + 2) "is_rational" [rat p q] h = some (.ok (.bl true) h)) : callF P (d + 3) "is_value" [rat p q, .str "number"] h = some (.ok (.bl (inLim p q)) h) := by
  rw [callF_eq LV.isv.df rfl rfl (by decide)]
  have w := within_ok (P := P) (d := d + 1) (h := h) (p := p) (q := q)
  have e : exSs P.toTx (callF P (d + 2)) G_is_value.body ([rat p q, M.str "number"].map some ++ List.replicate (G_is_value.ns - G_is_value.np) none) h = some (.ret (.bl (inLim p q)) h) := by
    refine (run_next (run_if_f (h1 := h) (ev_t (isN_false (v := rat p q) rfl (by simp)) rfl))).trans ?_
    refine run_ret ((run_if (k := true) (h1 := h) (by simp [evT, evE, cmpM, eqD, truth])).trans ?_)
    simp [exSs, exS, evE, evEs, LV.ar.f3.fn, LV.wl.fn, hr, truth, w]
  rw [e]
  simp [outOf, below, trim_self]
theorem isval_word {h : Hm} {v : M} {b : Bool} {d : Nat} (hn : v ≠ .non) (hr : callF P (d + 1) "is_name" [v] h = some (.ok (.bl b) h)) : callF P (d + 2) "is_value" [v, .str "word"] h = some (.ok (.bl b) h) := by
  rw [callF_eq LV.isv.df rfl rfl (by decide)]
  have n1 : ¬ (("word" : Str) = "number") := by decide +kernel
  have e : exSs P.toTx (callF P (d + 1)) G_is_value.body ([v, M.str "word"].map some ++ List.replicate (G_is_value.ns - G_is_value.np) none) h = some (.ret (.bl b) h) := by
    refine (run_next (run_if_f (h1 := h) (ev_t (isN_false (v := v) rfl hn) rfl))).trans ?_
    refine (run_next (run_if_f (h1 := h) (by simp [evT, evE, cmpM, eqD, truth, n1]))).trans ?_
    refine run_ret ((run_if (k := true) (h1 := h) (by simp [evT, evE, cmpM, eqD, truth])).trans ?_)
    simp [exSs, exS, evE, evEs, LV.isn.fn, hr]
  rw [e]
  simp [outOf, below, trim_self]
theorem isval_flag {h : Hm} {v : M} {k : Ty} {d : Nat} (hn : v ≠ .non) (hk : tyM h v = some k) : callF P (d + 1) "is_value" [v, .str "flag"] h = some (.ok (.bl (tyIs k .bool)) h) := by
  rw [callF_eq LV.isv.df rfl rfl (by decide)]
  have n1 : ¬ (("flag" : Str) = "number") := by decide +kernel
  have n2 : ¬ (("flag" : Str) = "word") := by decide +kernel
  have e : exSs P.toTx (callF P d) G_is_value.body ([v, M.str "flag"].map some ++ List.replicate (G_is_value.ns - G_is_value.np) none) h = some (.ret (.bl (tyIs k .bool)) h) := by
    refine (run_next (run_if_f (h1 := h) (ev_t (isN_false (v := v) rfl hn) rfl))).trans ?_
    refine (run_next (run_if_f (h1 := h) (by simp [evT, evE, cmpM, eqD, truth, n1]))).trans ?_
    refine (run_next (run_if_f (h1 := h) (by simp [evT, evE, cmpM, eqD, truth, n2]))).trans ?_
    exact run_ret (run_retE (by simp [evE, hk]))
  rw [e]
  simp [outOf, below, trim_self]
/-! ### kinds of values -/
inductive Kn where | num | wrd | flg
  deriving DecidableEq
def Kn.nm : Kn → Str
  | .num => "number"
  | .wrd => "word"
  | .flg => "flag"
/-- values of which is_value is asked -/
inductive Vd (h : Hm) : M → Prop
  | non : Vd h .non
  | bl {b : Bool} : Vd h (.bl b)
  | int {i : Int} : Vd h (.int i)
  | str {l : List Nat} (hl : l.length ≤ 1000) : Vd h (.str (SX.S l))
  | tup {xs : List M} (f : ∀ x ∈ xs, ∃ t, tyM h x = some t) : Vd h (.tup xs)
  | lst {a : Nat} {xs : List M} (e : h[a]? = some (.lst xs)) : Vd h (.ref a)
  | dic {a : Nat} {xs : List (L2.Key × M)} (e : h[a]? = some (.dic xs)) : Vd h (.ref a)
theorem tyM_app {h e : Hm} {v : M} {t : Ty} (x : tyM h v = some t) : tyM (h ++ e) v = some t := by
  cases v with
  | ref a =>
    simp only [tyM] at x ⊢
    cases q : h[a]? with
    | none => rw [q] at x; cases x
    | some o => rw [get_app q]; rw [q] at x; exact x
  | _ => exact x
theorem Vd.ty {h : Hm} {v : M} (x : Vd h v) : ∃ t, tyM h v = some t := by
  cases x with
  | non => exact ⟨_, rfl⟩
  | bl => exact ⟨_, rfl⟩
  | int => exact ⟨_, rfl⟩
  | str _ => exact ⟨_, rfl⟩
  | tup _ => exact ⟨_, rfl⟩
  | lst e => exact ⟨.list, by simp [tyM, e]⟩
  | dic e => exact ⟨.dict, by simp [tyM, e]⟩
theorem Vd.app {h e : Hm} {v : M} (x : Vd h v) : Vd (h ++ e) v := by
  cases x with
  | non => exact .non
  | bl => exact .bl
  | int => exact .int
  | str hl => exact .str hl
  | tup f => exact .tup fun x hx => (f x hx).imp fun t ht => tyM_app ht
  | lst e => exact .lst (get_app e)
  | dic e => exact .dic (get_app e)
def ratB (p q : Int) : Bool := (decide (1 ≤ q) && decide (Int.gcd p q = 1)) && inLim p q
def vkM : M → Option Kn
  | .bl _ => some .flg
  | .str s => if isNm s.cps.toList = true then some .wrd else none
  | .tup [.int p, .int q] => if ratB p q = true then some .num else none
  | _ => none
theorem vk_str {l : List Nat} : vkM (.str (SX.S l)) = if isNm l = true then some .wrd else none := by
  simp only [vkM, tl_S]
theorem tup_cases (xs : List M) : (∃ p q, xs = [.int p, .int q]) ∨ (vkM (.tup xs) = none ∧ ((xs.length ≠ 2) ∨ ∃ x y, xs = [x, y] ∧ ((∀ p, x ≠ .int p) ∨ ∀ q, y ≠ .int q))) := by
  match xs with
  | [] => exact .inr ⟨rfl, .inl (by simp)⟩
  | [x] => exact .inr ⟨by cases x <;> rfl, .inl (by simp)⟩
  | x :: y :: z :: r => exact .inr ⟨by cases x <;> first | rfl | (cases y <;> rfl), .inl (by simp)⟩
  | [x, y] =>
    cases x with
    | int p =>
      cases y with
      | int q => exact .inl ⟨p, q, rfl⟩
      | _ => exact .inr ⟨rfl, .inr ⟨_, _, rfl, .inr fun q z => by cases z⟩⟩
    | _ => exact .inr ⟨rfl, .inr ⟨_, _, rfl, .inl fun q z => by cases z⟩⟩
theorem ty_int {h : Hm} {v : M} {t : Ty} (e : tyM h v = some t) (hn : ∀ i, v ≠ .int i) : t ≠ .int := by
  cases v with
  | int i => exact absurd rfl (hn i)
  | ref a =>
    simp only [tyM] at e
    split at e <;> cases e <;> decide
  | _ => simp [tyM] at e <;> (subst e; decide)
theorem ty_bool {h : Hm} {v : M} {t : Ty} (e : tyM h v = some t) : tyIs t .bool = (match v with | .bl _ => true | _ => false) := by
  cases v with
  | ref a =>
    simp only [tyM] at e
    split at e <;> cases e <;> rfl
  | _ => simp [tyM] at e <;> (subst e; rfl)
section
variable {d : Nat} {h : Hm}
theorem isv_num {v : M} (x : Vd h v) (hn : v ≠ .non) : callF P (d + 3) "is_value" [v, .str "number"] h = some (.ok (.bl (decide (vkM v = some .num))) h) := by
  have no : ∀ {t : Ty}, tyM h v = some t → t ≠ .tuple → vkM v ≠ some .num → callF P (d + 3) "is_value" [v, .str "number"] h = some (.ok (.bl (decide (vkM v = some .num))) h) := fun ht hn' hv => by
    rw [decide_eq_false hv]
    exact isval_num_f hn (israt_ty LV.ar ht hn')
  cases x with
  | non => exact absurd rfl hn
  | bl => exact no rfl (by decide) (by simp [vkM])
  | int => exact no rfl (by decide) (by simp [vkM])
  | @str l hl => exact no rfl (by decide) (by rw [vk_str]; split <;> simp)
  | lst e => exact no (t := .list) (by simp [tyM, e]) (by decide) (by simp [vkM])
  | dic e => exact no (t := .dict) (by simp [tyM, e]) (by decide) (by simp [vkM])
  | @tup xs f =>
    rcases tup_cases xs with ⟨p, q, rfl⟩ | ⟨hv, c⟩
    · have R := israt_ok (P := P) (d := d) (h := h) LV.ar (p := p) (q := q)
      cases c : (decide (1 ≤ q) && decide (Int.gcd p q = 1)) with
      | true =>
        rw [c] at R
        rw [isval_num_t R]
        simp only [vkM, ratB, c, Bool.true_and]
        cases inLim p q <;> simp
      | false =>
        rw [c] at R
        rw [isval_num_f hn R]
        simp only [vkM, ratB, c, Bool.false_and]
        simp
    · rw [hv, decide_eq_false (by simp)]
      refine isval_num_f hn ?_
      rcases c with c | ⟨x, y, rfl, c⟩
      · exact israt_len LV.ar c
      · obtain ⟨t, ht⟩ := f x (by simp)
        obtain ⟨u, hu⟩ := f y (by simp)
        exact israt_two LV.ar ht hu (c.imp (fun z => ty_int ht z) fun z => ty_int hu z)
theorem isv_wrd {v : M} (x : Vd h v) (hn : v ≠ .non) : callF P (d + 2) "is_value" [v, .str "word"] h = some (.ok (.bl (decide (vkM v = some .wrd))) h) := by
  have no : ∀ {t : Ty}, tyM h v = some t → t ≠ .str → vkM v ≠ some .wrd → callF P (d + 2) "is_value" [v, .str "word"] h = some (.ok (.bl (decide (vkM v = some .wrd))) h) := fun ht hn' hv => by
    rw [decide_eq_false hv]
    exact isval_word hn (isname_ty ht hn')
  cases x with
  | non => exact absurd rfl hn
  | bl => exact no rfl (by decide) (by simp [vkM])
  | int => exact no rfl (by decide) (by simp [vkM])
  | lst e => exact no (t := .list) (by simp [tyM, e]) (by decide) (by simp [vkM])
  | dic e => exact no (t := .dict) (by simp [tyM, e]) (by decide) (by simp [vkM])
  | @tup xs f =>
    refine no rfl (by decide) ?_
    rcases tup_cases xs with ⟨p, q, rfl⟩ | ⟨hv, c⟩
    · simp only [vkM]; split <;> simp
    · rw [hv]; simp
  | @str l hl =>
    rw [isval_word hn (isname_str hl), vk_str]
    cases isNm l <;> simp
theorem isv_flg {v : M} (x : Vd h v) (hn : v ≠ .non) : callF P (d + 1) "is_value" [v, .str "flag"] h = some (.ok (.bl (decide (vkM v = some .flg))) h) := by
  obtain ⟨t, ht⟩ := x.ty
  rw [isval_flag hn ht, ty_bool ht]
  congr 3
  cases x with
  | non => exact absurd rfl hn
  | bl => simp [vkM]
  | int => simp [vkM]
  | @str l hl =>
    show false = _
    rw [vk_str]
    cases isNm l <;> simp
  | lst e => simp [vkM]
  | dic e => simp [vkM]
  | @tup xs f =>
    show false = _
    rcases tup_cases xs with ⟨p, q, rfl⟩ | ⟨hv, c⟩
    · simp only [vkM]; by_cases c : ratB p q = true <;> simp [c]
    · rw [hv]; simp
end
/-! ### value_kind -/
def knM : Option Kn → M
  | none => .non
  | some k => .str k.nm
section
variable {d : Nat} {h : Hm}
theorem vk_turn {C : Cal} {v : M} {k : Kn} {b : Bool} {e1 : Option M} (e : C "is_value" [v, .str k.nm] h = some (.ok (.bl b) h)) :
    forTurn P.toTx C (.nm 1) [.ife (.call "is_value" [(.var 0), (.var 1)]) [.ret (.var 1)] []] (.str k.nm) [some v, e1] h = if b = true then some (.ret (.str k.nm) h) else some (.next [some v, some (.str k.nm)] h) := by
  rw [turn_ok (env' := [some v, some (.str k.nm)]) (by simp [asgT, asgN])]
  have t : evT P.toTx C (.call "is_value" [(.var 0), (.var 1)]) [some v, some (.str k.nm)] h = some (.ok b h) := by
    refine ev_t (x := .bl b) ?_ rfl
    rw [ev_call LV.isv.fn (xs := [v, .str k.nm]) (h1 := h) (by simp [evEs, evE])]
    exact e
  cases b with
  | true => exact run_ret ((run_if t).trans (by simp [exSs, exS, evE]))
  | false => exact (run_next (run_if_f t)).trans run_nil
theorem value_kind_ok (hvk : P.df "value_kind" = some G_value_kind) {v : M} (x : Vd h v) : callF P (d + 4) "value_kind" [v] h = some (.ok (knM (vkM v)) h) := by
  rw [callF_eq hvk rfl rfl (by decide)]
  show outOf h (exSs P.toTx (callF P (d + 3)) G_value_kind.body [some v, none] h) = _
  by_cases hn : v = .non
  · subst hn
    simp [G_value_kind, exSs, exS, evE, evT, truth, outOf, below, trim_self, vkM, knM]
  · have b : below h.length (knM (vkM v)) = true := by cases vkM v <;> rfl
    have r : exSs P.toTx (callF P (d + 3)) G_value_kind.body [some v, none] h = some (.ret (knM (vkM v)) h) := by
      refine (run_next (run_if_f (h1 := h) (ev_t (isN_false (v := v) rfl hn) rfl))).trans ?_
      have i : evI P.toTx (callF P (d + 3)) (.v (.glo "KINDS")) [some v, none] h = some (.ok ([.str "number", .str "word", .str "flag"], []) h) := by simp [evI, evE, LV.c5, iterM, itemsM, guardM]
      have t1 := fun e1 => vk_turn (P := P) (C := callF P (d + 3)) (k := .num) (e1 := e1) (isv_num (d := d) x hn)
      have t2 := fun e1 => vk_turn (P := P) (C := callF P (d + 3)) (k := .wrd) (e1 := e1) (isv_wrd (d := d + 1) x hn)
      have t3 := fun e1 => vk_turn (P := P) (C := callF P (d + 3)) (k := .flg) (e1 := e1) (isv_flg (d := d + 2) x hn)
      simp only [Kn.nm] at t1 t2 t3
      cases q : vkM v with
      | none =>
        rw [q] at t1 t2 t3
        simp only [reduceCtorEq, decide_false, Bool.false_eq_true, if_false] at t1 t2 t3
        refine (run_next (env' := [some v, some (.str "flag")]) (h' := h) ?_).trans (run_ret (run_retE (by simp [evE, knM])))
        rw [run_for i]
        simp only [forGo, t1, t2, t3]
        simp [kept_nil]
      | some k =>
        rw [q] at t1 t2 t3
        refine run_ret ?_
        rw [run_for i]
        simp only [Option.some.injEq] at t1 t2 t3
        cases k with
        | num =>
          simp only [reduceCtorEq, decide_false, decide_true, Bool.false_eq_true, if_false, if_true] at t1 t2 t3
          simp only [forGo, t1]
          simp [kept_nil, knM, Kn.nm]
        | wrd =>
          simp only [reduceCtorEq, decide_false, decide_true, Bool.false_eq_true, if_false, if_true] at t1 t2 t3
          simp only [forGo, t1, t2]
          simp [kept_nil, knM, Kn.nm]
        | flg =>
          simp only [reduceCtorEq, decide_false, decide_true, Bool.false_eq_true, if_false, if_true] at t1 t2 t3
          simp only [forGo, t1, t2, t3]
          simp [kept_nil, knM, Kn.nm]
    rw [r]
    simp only [outOf, b, trim_self]
end
end MP
namespace MP
open PySem
/-! ### fresh names -/
def G_law_fresh : Fn := ⟨2, 4, [], 0,
  [.asg (.nm 2) (.call "_law_name" [(.var 0)]),
   .ife (.cmp .notin (.var 2) (.var 1))
     [.ret (.var 2)]
     [],
   .for_ (.nm 3) (.v (.con (.str "abcdefghijklmnopqrstuvwxyz0123456789")))
     [.ife (.cmp .notin (.bin .add (.sl (.var 2) none (some (.con (.int 11)))) (.var 3)) (.var 1))
        [.ret (.bin .add (.sl (.var 2) none (some (.con (.int 11)))) (.var 3))]
        []],
   .ret (.var 2)]⟩
class LibN (P : Pg) : Prop where
  dr : Draws P
  fnD : P.fns "_law_draw" = true
  nm : Has P "_law_name" G_law_name
  fr : Has P "_law_fresh" G_law_fresh
theorem Tape.cutE {h e : Hm} {t : Nat} (ht : t < h.length) (T : Tape (h ++ e) t) : Tape h t := by
  obtain ⟨c, xs, i, r, s, e1, nc, e2, hi, hs, hs2⟩ := T.ex
  rw [List.getElem?_append_left ht] at e1
  rw [List.getElem?_append_left (by omega)] at e2
  exact ⟨c, xs, i, r, s, e1, nc, e2, hi, hs, hs2⟩
theorem nodup_sub {α : Type} [DecidableEq α] : ∀ {l1 l2 : List α}, l1.Nodup → (∀ x ∈ l1, x ∈ l2) → l1.length ≤ l2.length
  | [], _, _, _ => by simp
  | x :: xs, l2, nd, hs => by
    rw [List.nodup_cons] at nd
    have hx := hs x (by simp)
    have ih := nodup_sub (l1 := xs) (l2 := l2.erase x) nd.2 fun y hy => (List.mem_erase_of_ne fun z => nd.1 (by rw [← z]; exact hy)).mpr (hs y (by simp [hy]))
    have := List.length_erase_of_mem hx
    have : 0 < l2.length := List.length_pos_of_mem hx
    simp only [List.length_cons]
    omega
abbrev nmsM (ns : List (List Nat)) : List M := ns.map fun l => .str (SX.S l)
theorem flats_nms : ∀ ns : List (List Nat), flatMs (nmsM ns) = some (ns.map fun l => L2.V.str (SX.S l))
  | [] => rfl
  | n :: ns => by simp [flatMs, flatM, flats_nms ns]
theorem inN {h : Hm} {a : Nat} {ns : List (List Nat)} {l : List Nat} (g : h[a]? = some (.lst (nmsM ns))) : inM h (.str (SX.S l)) (.ref a) = some (decide (l ∈ ns)) := by
  simp only [inM, itemsM, g, flatM, flats_nms]
  congr 1
  unfold L2.inV
  clear g
  induction ns with
  | nil => simp
  | cons n ns ih =>
    simp only [List.map_cons, List.any_cons, ih]
    have : L2.eqV (.str (SX.S n)) (.str (SX.S l)) = decide (n = l) := SX.S_beq_eq
    rw [this]
    by_cases c : n = l
    · simp [c]
    · have : ¬ (l = n) := fun z => c z.symm
      simp [c, this]
section
variable {P : Pg} [LN : LibN P] {d : Nat} {h : Hm} {t a : Nat}
theorem fr_loop {P : Pg} {C : Cal} {l11 l : List Nat} {ns : List (List Nat)} (g : h[a]? = some (.lst (nmsM ns))) (hl : l11.length ≤ 11) (hc : cut l none (some 11) = l11) (ll : l.length ≤ 12) : ∀ (cs : List Nat) (e3 : Option M), (∃ c ∈ cs, l11 ++ [c] ∉ ns) →
    ∃ c ∈ cs, l11 ++ [c] ∉ ns ∧ forGo (forTurn P.toTx C (.nm 3) [.ife (.cmp .notin (.bin .add (.sl (.var 2) none (some (.con (.int 11)))) (.var 3)) (.var 1)) [.ret (.bin .add (.sl (.var 2) none (some (.con (.int 11)))) (.var 3))] []]) [] (cs.map fun c => M.str (SX.S [c])) [some (.ref t), some (.ref a), some (.str (SX.S l)), e3] h = some (.ret (.str (SX.S (l11 ++ [c]))) h)
  | [], e3, ⟨c, hc, _⟩ => by cases hc
  | c :: cs, e3, hx => by
    have s1 : slM h (.str (SX.S l)) none (some 11) = some (.ok (.str (SX.S l11)) h) := by rw [sl_S (by omega), hc]
    have a1 : binM .add (.str (SX.S l11)) (.str (SX.S [c])) h = some (.ok (.str (SX.S (l11 ++ [c]))) h) := add_S (by simp; omega)
    have ca : evE P.toTx C (.bin .add (.sl (.var 2) none (some (.con (.int 11)))) (.var 3)) [some (.ref t), some (.ref a), some (.str (SX.S l)), some (.str (SX.S [c]))] h = some (.ok (.str (SX.S (l11 ++ [c]))) h) := by
      simp only [evE, evO, List.getElem?_cons_succ, List.getElem?_cons_zero, bindO_ok, s1, a1]
    have v1 : evE P.toTx C (.var 1) [some (.ref t), some (.ref a), some (.str (SX.S l)), some (.str (SX.S [c]))] h = some (.ok (.ref a) h) := by simp [evE]
    have ni : cmpM h .notin (.str (SX.S (l11 ++ [c]))) (.ref a) = some (!decide (l11 ++ [c] ∈ ns)) := by simp only [cmpM, inN g, Option.map_some]
    have tt := ev_cmp ca v1 ni
    by_cases m : l11 ++ [c] ∈ ns
    · have hx' : ∃ c ∈ cs, l11 ++ [c] ∉ ns := by
        obtain ⟨c', h1, h2⟩ := hx
        rcases List.mem_cons.mp h1 with z | z
        · rw [z] at h2; exact absurd m h2
        · exact ⟨c', z, h2⟩
      obtain ⟨c', h1, h2, h3⟩ := fr_loop (P := P) g hl hc ll cs (some (.str (SX.S [c]))) hx'
      refine ⟨c', by simp [h1], h2, ?_⟩
      have tn : forTurn P.toTx C (.nm 3) [.ife (.cmp .notin (.bin .add (.sl (.var 2) none (some (.con (.int 11)))) (.var 3)) (.var 1)) [.ret (.bin .add (.sl (.var 2) none (some (.con (.int 11)))) (.var 3))] []] (M.str (SX.S [c])) [some (.ref t), some (.ref a), some (.str (SX.S l)), e3] h = some (.next [some (.ref t), some (.ref a), some (.str (SX.S l)), some (.str (SX.S [c]))] h) := by
        rw [turn_ok (env' := [some (.ref t), some (.ref a), some (.str (SX.S l)), some (.str (SX.S [c]))]) (by simp [asgT, asgN])]
        exact (run_next (run_if_f (ev_t tt (by simp [truth, m])))).trans run_nil
      rw [List.map_cons]
      simp only [forGo]
      rw [if_pos kept_nil, tn]
      exact h3
    · refine ⟨c, by simp, m, ?_⟩
      have tn : forTurn P.toTx C (.nm 3) [.ife (.cmp .notin (.bin .add (.sl (.var 2) none (some (.con (.int 11)))) (.var 3)) (.var 1)) [.ret (.bin .add (.sl (.var 2) none (some (.con (.int 11)))) (.var 3))] []] (M.str (SX.S [c])) [some (.ref t), some (.ref a), some (.str (SX.S l)), e3] h = some (.ret (.str (SX.S (l11 ++ [c]))) h) := by
        rw [turn_ok (env' := [some (.ref t), some (.ref a), some (.str (SX.S l)), some (.str (SX.S [c]))]) (by simp [asgT, asgN])]
        exact run_ret ((run_if (k := true) (ev_t tt (by simp [truth, m]))).trans (run_ret (run_retE ca)))
      rw [List.map_cons]
      simp only [forGo]
      rw [if_pos kept_nil, tn]
abbrev SGs : List Nat := SG.cps.toList
theorem SGs_nd : SGs.Nodup := by decide +kernel
theorem SGs_len : SGs.length = 36 := by decide +kernel
theorem SGs_ok : ∀ c ∈ SGs, sgnC c = true := by decide +kernel
theorem cut_len11 {l : List Nat} : (cut l none (some 11)).length ≤ 11 := by
  unfold cut
  rw [List.length_take]
  have : HT.sIx l.length l.length (some 11) ≤ 11 := by
    unfold HT.sIx
    simp
    omega
  omega
/-- signs of a name, as far as they are shown -/
abbrev NmO (l : List Nat) : Prop := NameL l
theorem cut_take11 {l : List Nat} : cut l none (some 11) = l.take 11 := by
  unfold cut HT.sIx
  simp
theorem mem_cut {α : Type} {l : List α} {lo hi : Option Int} {x : α} (h : x ∈ cut l lo hi) : x ∈ l := by
  unfold cut at h
  exact List.mem_of_mem_drop (List.mem_of_mem_take h)
theorem fresh_ok {ns : List (List Nat)} (T : Tape h t) (hat : a ≠ t) (g : h[a]? = some (.lst (nmsM ns))) (hn : ns.length ≤ 30) : ∃ (l : List Nat) (o : O), callF P (d + 3) "_law_fresh" [.ref t, .ref a] h = some (.ok (.str (SX.S l)) (h.set t o)) ∧ l ∉ ns ∧ NmO l ∧ Tape (h.set t o) t := by
  rw [callF_eq LN.fr.df rfl rfl (by decide)]
  obtain ⟨l, o, e1, nl, T1⟩ := name_ok (d := d) LN.dr LN.fnD LN.nm.df T
  have g1 : (h.set t o)[a]? = some (.lst (nmsM ns)) := by rw [get_other hat]; exact g
  have s0 : ∀ {R : Option Fl}, exSs P.toTx (callF P (d + 2)) (G_law_fresh.body.drop 1) [some (.ref t), some (.ref a), some (.str (SX.S l)), none] (h.set t o) = R → exSs P.toTx (callF P (d + 2)) G_law_fresh.body [some (.ref t), some (.ref a), none, none] h = R := by
    intro R er
    refine (run_next (run_asg (x := .str (SX.S l)) (h1 := h.set t o) (env' := [some (.ref t), some (.ref a), some (.str (SX.S l)), none]) ?_ (by simp [asgT, asgN]))).trans er
    rw [ev_call LN.nm.fn (xs := [.ref t]) (h1 := h) (by simp [evEs, evE])]
    exact e1
  have fin : ∀ {l' : List Nat}, exSs P.toTx (callF P (d + 2)) G_law_fresh.body [some (.ref t), some (.ref a), none, none] h = some (.ret (.str (SX.S l')) (h.set t o)) → outOf h (exSs P.toTx (callF P (d + 2)) G_law_fresh.body ([M.ref t, M.ref a].map some ++ List.replicate (G_law_fresh.ns - G_law_fresh.np) none) h) = some (.ok (.str (SX.S l')) (h.set t o)) := by
    intro l' e
    show outOf h (exSs P.toTx (callF P (d + 2)) G_law_fresh.body [some (.ref t), some (.ref a), none, none] h) = _
    rw [e]
    simp only [outOf]
    rw [trim_len (by simp)]
  have v2 : evE P.toTx (callF P (d + 2)) (.var 2) [some (.ref t), some (.ref a), some (.str (SX.S l)), none] (h.set t o) = some (.ok (.str (SX.S l)) (h.set t o)) := by simp [evE]
  have v1 : evE P.toTx (callF P (d + 2)) (.var 1) [some (.ref t), some (.ref a), some (.str (SX.S l)), none] (h.set t o) = some (.ok (.ref a) (h.set t o)) := by simp [evE]
  have tt := ev_cmp v2 v1 (show cmpM (h.set t o) .notin (.str (SX.S l)) (.ref a) = some (!decide (l ∈ ns)) by simp only [cmpM, inN g1, Option.map_some])
  by_cases m : l ∈ ns
  · have ex : ∃ c ∈ SGs, cut l none (some 11) ++ [c] ∉ ns := by
      refine Classical.byContradiction fun no => ?_
      have all : ∀ x ∈ SGs.map (fun c => cut l none (some 11) ++ [c]), x ∈ ns := by
        intro x hx
        obtain ⟨c, hc, rfl⟩ := List.mem_map.mp hx
        exact Classical.byContradiction fun q => no ⟨c, hc, q⟩
      have nd : (SGs.map (fun c => cut l none (some 11) ++ [c])).Nodup := by
        unfold List.Nodup
        rw [List.pairwise_map]
        refine List.Pairwise.imp (fun {x y} hxy e => hxy ?_) SGs_nd
        have := List.append_cancel_left e
        simpa using this
      have := nodup_sub nd all
      rw [List.length_map, SGs_len] at this
      omega
    obtain ⟨c, hc, nm, lp⟩ := fr_loop (P := P) (h := h.set t o) (t := t) (C := callF P (d + 2)) g1 cut_len11 rfl nl.len SGs none ex
    have no : NmO (cut l none (some 11) ++ [c]) := by
      refine ⟨by simp, fun y hy => ?_, fun x hx => ?_, by have := cut_len11 (l := l); simp; omega⟩
      · rw [cut_take11] at hy
        cases el : l with
        | nil => exact absurd el nl.ne
        | cons z r =>
          rw [el] at hy
          simp at hy
          subst hy
          exact nl.hd _ (by rw [el]; rfl)
      · rcases List.mem_append.mp hx with z | z
        · exact nl.al x (mem_cut z)
        · simp at z; subst z; exact SGs_ok _ hc
    refine ⟨cut l none (some 11) ++ [c], o, fin (s0 ?_), nm, no, T1⟩
    refine (run_next (run_if_f (ev_t tt (by simp [truth, m])))).trans ?_
    refine run_ret ((run_for (xg := (SGs.map fun c => M.str (SX.S [c]), [])) (h1 := h.set t o) ?_).trans lp)
    simp [evI, evE, iterM, guardM, SX.S]
  · refine ⟨l, o, fin (s0 ?_), m, nl, T1⟩
    refine run_ret ((run_if (k := true) (ev_t tt (by simp [truth, m]))).trans ?_)
    exact run_ret (ss := []) (run_retE v2)
end
end MP
namespace MP
open PySem
/-! ### columns drawn -/
def G_law_columns : Fn := ⟨4, 9, [], 0,
  [.asg (.nm 4) (.new (.of (.var 3))),
   .asg (.nm 5) (.new (.lst [])),
   .asg (.nm 6) (.new (.of (.var 1))),
   .for_ (.nm 7) (.rng (.call "_law_draw" [(.var 0), (.bin .add (.var 2) (.con (.int 1)))]))
     [.app (.var 6) (.ixl (.lst [(.con (.str "number")), (.con (.str "word")), (.con (.str "flag"))]) (.call "_law_draw" [(.var 0), (.con (.int 3))]))],
   .for_ (.nm 8) (.v (.var 6))
     [.app (.var 4) (.call "_law_fresh" [(.var 0), (.var 4)]),
      .app (.var 5) (.tup [(.ix (.var 4) (.neg (.con (.int 1)))), (.var 8)])],
   .ret (.tupo (.var 5))]⟩
theorem three_le : (3 : Nat) ≤ sizeLine := by decide
abbrev Cols := List (List Nat × Kn)
def colM (c : List Nat × Kn) : M := .tup [.str (SX.S c.1), .str c.2.nm]
def colsM (cols : Cols) : M := .tup (cols.map colM)
theorem kinds_at : ∀ r : Int, 0 ≤ r → r < 3 → ∃ k : Kn, L2.atI [M.str "number", .str "word", .str "flag"] r = some (.str k.nm) := by
  intro r r0 r1
  have hr : r = 0 ∨ r = 1 ∨ r = 2 := by omega
  rcases hr with rfl | rfl | rfl
  · exact ⟨.num, rfl⟩
  · exact ⟨.wrd, rfl⟩
  · exact ⟨.flg, rfl⟩
theorem at_last {α : Type} {xs : List α} {x : α} : L2.atI (xs ++ [x]) (-1) = some x := by
  have e : L2.ixN (xs ++ [x]).length (-1) = some xs.length := by
    unfold L2.ixN
    rw [if_neg (by decide), List.length_append]
    simp
    try omega
  unfold L2.atI
  rw [e]
  simp
section
variable {P : Pg} [LN : LibN P] {d : Nat} {h : Hm} {t : Nat}
/-- the lists that are filled: names, columns, kinds -/
abbrev St (h : Hm) (t : Nat) (o : O) (ns : List (List Nat)) (cs : Cols) (ks : List Kn) : Hm := h.set t o ++ [.lst (nmsM ns), .lst (cs.map colM), .lst (ks.map fun k => .str k.nm)]
theorem St_set {o o' : O} {ns : List (List Nat)} {cs : Cols} {ks : List Kn} (ht : t < h.length) : (St h t o ns cs ks).set t o' = St h t o' ns cs ks := by
  show (h.set t o ++ _).set t o' = _
  rw [set_app (by simpa using ht), set_set]
theorem St_0 {o : O} {ns : List (List Nat)} {cs : Cols} {ks : List Kn} : (St h t o ns cs ks)[h.length]? = some (.lst (nmsM ns)) := by
  rw [List.getElem?_append_right (by simp)]
  simp
theorem St_1 {o : O} {ns : List (List Nat)} {cs : Cols} {ks : List Kn} : (St h t o ns cs ks)[h.length + 1]? = some (.lst (cs.map colM)) := by
  rw [List.getElem?_append_right (by simp)]
  simp
theorem St_2 {o : O} {ns : List (List Nat)} {cs : Cols} {ks : List Kn} : (St h t o ns cs ks)[h.length + 2]? = some (.lst (ks.map fun k => .str k.nm)) := by
  rw [List.getElem?_append_right (by simp)]
  simp
theorem St_s0 {o o2 : O} {ns : List (List Nat)} {cs : Cols} {ks : List Kn} : (St h t o ns cs ks).set h.length o2 = h.set t o ++ [o2, .lst (cs.map colM), .lst (ks.map fun k => .str k.nm)] := by
  show (h.set t o ++ _).set h.length o2 = _
  rw [List.set_append_right _ _ (by simp)]
  simp
theorem St_s1 {o o2 : O} {ns : List (List Nat)} {cs : Cols} {ks : List Kn} : (St h t o ns cs ks).set (h.length + 1) o2 = h.set t o ++ [.lst (nmsM ns), o2, .lst (ks.map fun k => .str k.nm)] := by
  show (h.set t o ++ _).set (h.length + 1) o2 = _
  rw [List.set_append_right _ _ (by simp)]
  simp
theorem St_s2 {o o2 : O} {ns : List (List Nat)} {cs : Cols} {ks : List Kn} : (St h t o ns cs ks).set (h.length + 2) o2 = h.set t o ++ [.lst (nmsM ns), .lst (cs.map colM), o2] := by
  show (h.set t o ++ _).set (h.length + 2) o2 = _
  rw [List.set_append_right _ _ (by simp)]
  simp
abbrev envC (ld tk : M) (mn : Int) (h : Hm) (t : Nat) (e7 e8 : Option M) : Ev := [some (.ref t), some ld, some (.int mn), some tk, some (.ref h.length), some (.ref (h.length + 1)), some (.ref (h.length + 2)), e7, e8]
theorem run_app {P : Tx} {C : Cal} {env : Ev} {h h1 h2 h3 : Hm} {o e : E} {x v : M} (ho : evE P C o env h = some (.ok x h1)) (hl : isLst h1 x = true) (he : evE P C e env h1 = some (.ok v h2)) (ha : appM h2 x v = some h3) : exS P C (.app o e) env h = some (.next env h3) := by
  rw [exS, ho, bindF_ok, if_pos hl, he, bindF_ok, ha]
theorem kloop {ld tk : M} {mn : Int} (ht : t < h.length) {ns : List (List Nat)} : ∀ (xs : List M) (ks : List Kn) (o : O) (e7 : Option M), Tape (St h t o ns [] ks) t → ks.length + xs.length ≤ 20 → ∃ (ks' : List Kn) (o' : O) (e7' : Option M), forGo (forTurn P.toTx (callF P (d + 3)) (.nm 7) [.app (.var 6) (.ixl (.lst [(.con (.str "number")), (.con (.str "word")), (.con (.str "flag"))]) (.call "_law_draw" [(.var 0), (.con (.int 3))]))]) [] xs (envC ld tk mn h t e7 none) (St h t o ns [] ks) = some (.next (envC ld tk mn h t e7' none) (St h t o' ns [] ks')) ∧ ks'.length = ks.length + xs.length ∧ Tape (St h t o' ns [] ks') t ∧ ks <+: ks'
  | [], ks, o, e7, T, _ => ⟨ks, o, e7, by simp only [forGo]; rw [if_pos kept_nil], rfl, T, List.prefix_refl _⟩
  | x :: xs, ks, o, e7, T, hl => by
    obtain ⟨y, o2, c2, y0, y1, T2⟩ := LN.dr (d := d + 2) (many := 3) T (by decide) (by decide)
    rw [St_set ht] at c2 T2
    obtain ⟨k, ek⟩ := kinds_at y y0 y1
    have T3 : Tape (St h t o2 ns [] (ks ++ [k])) t := (T2.cutE (by simpa using ht)).app
    simp at hl
    obtain ⟨ks', o', e7', e, len, T', pf⟩ := kloop ht xs (ks ++ [k]) o2 (some x) T3 (by simp; omega)
    refine ⟨ks', o', e7', ?_, by rw [len]; simp; omega, T', (List.prefix_append ks [k]).trans pf⟩
    have tn : forTurn P.toTx (callF P (d + 3)) (.nm 7) [.app (.var 6) (.ixl (.lst [(.con (.str "number")), (.con (.str "word")), (.con (.str "flag"))]) (.call "_law_draw" [(.var 0), (.con (.int 3))]))] x (envC ld tk mn h t e7 none) (St h t o ns [] ks) = some (.next (envC ld tk mn h t (some x) none) (St h t o2 ns [] (ks ++ [k]))) := by
      rw [turn_ok (env' := envC ld tk mn h t (some x) none) (by simp [asgT, asgN])]
      have v6 : evE P.toTx (callF P (d + 3)) (.var 6) (envC ld tk mn h t (some x) none) (St h t o ns [] ks) = some (.ok (.ref (h.length + 2)) (St h t o ns [] ks)) := by simp [evE]
      have il : isLst (St h t o ns [] ks) (.ref (h.length + 2)) = true := by simp only [isLst, St_2]
      have dd : evE P.toTx (callF P (d + 3)) (.call "_law_draw" [(.var 0), (.con (.int 3))]) (envC ld tk mn h t (some x) none) (St h t o ns [] ks) = some (.ok (.int y) (St h t o2 ns [] ks)) := by
        rw [ev_call LN.fnD (xs := [.ref t, .int 3]) (h1 := St h t o ns [] ks) (by simp [evEs, evE])]
        exact c2
      have LL : evL P.toTx (callF P (d + 3)) (.lst [(.con (.str "number")), (.con (.str "word")), (.con (.str "flag"))]) (envC ld tk mn h t (some x) none) (St h t o ns [] ks) = some (.ok [.str "number", .str "word", .str "flag"] (St h t o ns [] ks)) := by simp [evL, evEs, evE, three_le]
      have ei : evE P.toTx (callF P (d + 3)) (.ixl (.lst [(.con (.str "number")), (.con (.str "word")), (.con (.str "flag"))]) (.call "_law_draw" [(.var 0), (.con (.int 3))])) (envC ld tk mn h t (some x) none) (St h t o ns [] ks) = some (.ok (.str k.nm) (St h t o2 ns [] ks)) := by
        rw [evE, LL, bindO_ok, dd, bindO_ok]
        simp only [ek, okv_some]
      have am : appM (St h t o2 ns [] ks) (.ref (h.length + 2)) (.str k.nm) = some (St h t o2 ns [] (ks ++ [k])) := by
        simp only [appM, St_2]
        rw [if_pos (by rw [List.length_map, sz]; omega), St_s2]
        simp
      exact (run_next (run_app v6 il ei am)).trans run_nil
    simp only [forGo]
    rw [if_pos kept_nil, tn]
    exact e
theorem cloop {ld tk : M} {mn : Int} (ht : t < h.length) {ks : List Kn} {pre : List (List Nat)} (hk : ks.length ≤ 20) : ∀ (xs : List Kn) (ns : List (List Nat)) (cs : Cols) (o : O) (e7 e8 : Option M), Tape (St h t o ns cs ks) t → ns = pre ++ cs.map (·.1) → ns.Nodup → (∀ c ∈ cs, NmO c.1) → ns.length + xs.length ≤ 30 →
    ∃ (cs' : Cols) (o' : O) (e8' : Option M), forGo (forTurn P.toTx (callF P (d + 3)) (.nm 8) [.app (.var 4) (.call "_law_fresh" [(.var 0), (.var 4)]), .app (.var 5) (.tup [(.ix (.var 4) (.neg (.con (.int 1)))), (.var 8)])]) [(h.length + 2, .lst (ks.map fun k => .str k.nm))] (xs.map fun k => M.str k.nm) (envC ld tk mn h t e7 e8) (St h t o ns cs ks) = some (.next (envC ld tk mn h t e7 e8') (St h t o' (pre ++ cs'.map (·.1)) cs' ks)) ∧ (pre ++ cs'.map (·.1)).Nodup ∧ (∀ c ∈ cs', NmO c.1) ∧ cs'.length = cs.length + xs.length ∧ Tape (St h t o' (pre ++ cs'.map (·.1)) cs' ks) t ∧ cs'.map (·.2) = cs.map (·.2) ++ xs
  | [], ns, cs, o, e7, e8, T, e, nd, no, _ => by
    subst e
    refine ⟨cs, o, e8, ?_, nd, no, rfl, T, by simp⟩
    have kp : kept (St h t o (pre ++ cs.map (·.1)) cs ks) [(h.length + 2, .lst (ks.map fun k => .str k.nm))] := fun z hz => by simp at hz; subst hz; exact St_2
    simp only [List.map_nil, forGo]
    rw [if_pos kp]
  | k :: xs, ns, cs, o, e7, e8, T, e, nd, no, hl => by
    simp at hl
    have kp : kept (St h t o ns cs ks) [(h.length + 2, .lst (ks.map fun k => .str k.nm))] := fun z hz => by simp at hz; subst hz; exact St_2
    obtain ⟨l, o2, c2, ln, lo, T2⟩ := fresh_ok (P := P) (d := d) (a := h.length) T (by omega) St_0 (by omega)
    rw [St_set ht] at c2 T2
    have T3 : Tape (St h t o2 (ns ++ [l]) (cs ++ [(l, k)]) ks) t := (T2.cutE (by simpa using ht)).app
    have nd2 : (ns ++ [l]).Nodup := by
      rw [List.nodup_append]
      refine ⟨nd, by simp, fun x hx y hy => ?_⟩
      simp at hy
      subst hy
      exact fun z => ln (by rw [← z]; exact hx)
    obtain ⟨cs', o', e8', ee, nd', no', len, T', kk⟩ := cloop (pre := pre) ht hk xs (ns ++ [l]) (cs ++ [(l, k)]) o2 e7 (some (.str k.nm)) T3 (by rw [e]; simp) nd2 (fun c hc => by
      rcases List.mem_append.mp hc with z | z
      · exact no c z
      · simp at z; subst z; exact lo) (by simp; omega)
    refine ⟨cs', o', e8', ?_, nd', no', by rw [len]; simp; omega, T', by rw [kk]; simp⟩
    have lcs : cs.length ≤ ns.length := by rw [e]; simp
    have tn : forTurn P.toTx (callF P (d + 3)) (.nm 8) [.app (.var 4) (.call "_law_fresh" [(.var 0), (.var 4)]), .app (.var 5) (.tup [(.ix (.var 4) (.neg (.con (.int 1)))), (.var 8)])] (M.str k.nm) (envC ld tk mn h t e7 e8) (St h t o ns cs ks) = some (.next (envC ld tk mn h t e7 (some (.str k.nm))) (St h t o2 (ns ++ [l]) (cs ++ [(l, k)]) ks)) := by
      rw [turn_ok (env' := envC ld tk mn h t e7 (some (.str k.nm))) (by simp [asgT, asgN])]
      have v4 : ∀ hh, evE P.toTx (callF P (d + 3)) (.var 4) (envC ld tk mn h t e7 (some (.str k.nm))) hh = some (.ok (.ref h.length) hh) := fun hh => by simp [evE]
      have v5 : ∀ hh, evE P.toTx (callF P (d + 3)) (.var 5) (envC ld tk mn h t e7 (some (.str k.nm))) hh = some (.ok (.ref (h.length + 1)) hh) := fun hh => by simp [evE]
      have il : isLst (St h t o ns cs ks) (.ref h.length) = true := by simp only [isLst, St_0]
      have fr : evE P.toTx (callF P (d + 3)) (.call "_law_fresh" [(.var 0), (.var 4)]) (envC ld tk mn h t e7 (some (.str k.nm))) (St h t o ns cs ks) = some (.ok (.str (SX.S l)) (St h t o2 ns cs ks)) := by
        rw [ev_call LN.fr.fn (xs := [.ref t, .ref h.length]) (h1 := St h t o ns cs ks) (by simp [evEs, evE])]
        exact c2
      have am : appM (St h t o2 ns cs ks) (.ref h.length) (.str (SX.S l)) = some (St h t o2 (ns ++ [l]) cs ks) := by
        simp only [appM, St_0]
        rw [if_pos (by rw [List.length_map, sz]; omega), St_s0]
        simp
      refine (run_next (run_app (v4 _) il fr am)).trans ?_
      have il2 : isLst (St h t o2 (ns ++ [l]) cs ks) (.ref (h.length + 1)) = true := by simp only [isLst, St_1]
      have ng : evE P.toTx (callF P (d + 3)) (.neg (.con (.int 1))) (envC ld tk mn h t e7 (some (.str k.nm))) (St h t o2 (ns ++ [l]) cs ks) = some (.ok (.int (-1)) (St h t o2 (ns ++ [l]) cs ks)) := by simp [evE]
      have al : L2.atI (nmsM (ns ++ [l])) (-1) = some (.str (SX.S l)) := by
        rw [show nmsM (ns ++ [l]) = nmsM ns ++ [.str (SX.S l)] by simp]
        exact at_last
      have ix : evE P.toTx (callF P (d + 3)) (.ix (.var 4) (.neg (.con (.int 1)))) (envC ld tk mn h t e7 (some (.str k.nm))) (St h t o2 (ns ++ [l]) cs ks) = some (.ok (.str (SX.S l)) (St h t o2 (ns ++ [l]) cs ks)) := by
        rw [evE, v4, bindO_ok, ng, bindO_ok]
        simp only [ixM, St_0, al, okv_some]
      have v8 : evE P.toTx (callF P (d + 3)) (.var 8) (envC ld tk mn h t e7 (some (.str k.nm))) (St h t o2 (ns ++ [l]) cs ks) = some (.ok (.str k.nm) (St h t o2 (ns ++ [l]) cs ks)) := by simp [evE]
      have tp : evE P.toTx (callF P (d + 3)) (.tup [(.ix (.var 4) (.neg (.con (.int 1)))), (.var 8)]) (envC ld tk mn h t e7 (some (.str k.nm))) (St h t o2 (ns ++ [l]) cs ks) = some (.ok (colM (l, k)) (St h t o2 (ns ++ [l]) cs ks)) := by
        rw [evE, evEs, ix, bindO_ok, evEs, v8, bindO_ok, evEs]
        simp [two_le, colM]
      have am2 : appM (St h t o2 (ns ++ [l]) cs ks) (.ref (h.length + 1)) (colM (l, k)) = some (St h t o2 (ns ++ [l]) (cs ++ [(l, k)]) ks) := by
        simp only [appM, St_1]
        rw [if_pos (by rw [List.length_map, sz]; omega), St_s1]
        simp
      exact (run_next (run_app (v5 _) il2 tp am2)).trans run_nil
    rw [List.map_cons]
    simp only [forGo]
    rw [if_pos kp, tn]
    exact ee
theorem rng2_ok {P : Tx} {C : Cal} {env : Ev} {h h1 : Hm} {e : E} {z : Int} (he : evE P C e env h = some (.ok (.int z) h1)) (h0 : 0 ≤ z) (hz : z ≤ 100000) : evI P C (.rng e) env h = some (.ok ((List.range z.toNat).map fun i => M.int (i : Nat), []) h1) := by
  rw [evI, he]
  simp only [bindO_ok]
  rw [if_pos ⟨by omega, by omega⟩]
theorem belows_cols {n : Nat} : ∀ cs : Cols, belows n (cs.map colM) = true
  | [] => rfl
  | c :: cs => by
    simp only [List.map_cons, belows, belows_cols cs, colM, below, Bool.and_true]
theorem itemsM_app {h e : Hm} {v : M} {xs : List M} (q : itemsM h v = some xs) : itemsM (h ++ e) v = some xs := by
  cases v with
  | ref a =>
    simp only [itemsM] at q ⊢
    split at q
    · rename_i ys hy
      cases q
      rw [get_app hy]
    · cases q
  | tup ys => exact q
  | rol ys => exact q
  | _ => cases q
theorem columns_ok {ld tk : M} {mn : Int} {ks0 : List Kn} {ns0 : List (List Nat)} (LC : Has P "_law_columns" G_law_columns) (T : Tape h t) (hld : itemsM h ld = some (ks0.map fun k => .str k.nm)) (htk : itemsM h tk = some (nmsM ns0)) (nd0 : ns0.Nodup) (m0 : 0 ≤ mn) (m1 : mn ≤ 9) (l1 : ks0.length ≤ 9) (l2 : ns0.length ≤ 10) :
    ∃ (cols : Cols) (o : O), callF P (d + 4) "_law_columns" [.ref t, ld, .int mn, tk] h = some (.ok (colsM cols) (h.set t o)) ∧ (ns0 ++ cols.map (·.1)).Nodup ∧ (∀ c ∈ cols, NmO c.1) ∧ cols.length ≤ ks0.length + mn.toNat ∧ ks0 <+: cols.map (·.2) ∧ Tape (h.set t o) t := by
  rw [callF_eq LC.df rfl rfl (by decide)]
  have ht := tape_lt T
  have eh : h = h.set t h[t] := by rw [List.set_getElem_self]
  have e0 : h ++ [O.lst (nmsM ns0), O.lst [], O.lst (ks0.map fun k => .str k.nm)] = St h t h[t] ns0 [] ks0 := by
    show _ = h.set t h[t] ++ _
    rw [← eh]
    rfl
  have T0 : Tape (St h t h[t] ns0 [] ks0) t := by
    rw [← e0]
    exact T.app
  obtain ⟨r, o1, c1, r0, r1, T1⟩ := LN.dr (d := d + 2) (many := mn + 1) T0 (by omega) (by
    have : (mn + 1).natAbs.log2 < 9000 := log_lt (by omega) (by omega)
    exact this)
  rw [St_set ht] at c1 T1
  obtain ⟨ks, o2, e7, k1, kl, T2, pf⟩ := kloop (P := P) (ld := ld) (tk := tk) (mn := mn) (d := d) ht ((List.range r.toNat).map fun i => M.int (i : Nat)) ks0 o1 none T1 (by simp; omega)
  have kl' : ks.length ≤ ks0.length + mn.toNat := by rw [kl]; simp; omega
  obtain ⟨cs, o3, e8, k2, nd, no, cl, T3, kk⟩ := cloop (P := P) (ld := ld) (tk := tk) (mn := mn) (d := d) ht (ks := ks) (pre := ns0) (by omega) ks ns0 [] o2 e7 none T2 (by simp) nd0 (by simp) (by omega)
  have Ts : Tape (h.set t o3) t := T3.cutE (by simpa using ht)
  refine ⟨cs, o3, ?_, nd, no, by rw [cl]; simp; omega, by rw [kk]; simpa using pf, Ts⟩
  show outOf h (exSs P.toTx (callF P (d + 3)) G_law_columns.body [some (.ref t), some ld, some (.int mn), some tk, none, none, none, none, none] h) = _
  have e : exSs P.toTx (callF P (d + 3)) G_law_columns.body [some (.ref t), some ld, some (.int mn), some tk, none, none, none, none, none] h = some (.ret (colsM cs) (St h t o3 (ns0 ++ cs.map (·.1)) cs ks)) := by
    refine (run_next (env' := [some (.ref t), some ld, some (.int mn), some tk, some (.ref h.length), none, none, none, none]) (h' := h ++ [.lst (nmsM ns0)]) (by simp [htk, asgT, asgN])).trans ?_
    refine (run_next (env' := [some (.ref t), some ld, some (.int mn), some tk, some (.ref h.length), some (.ref (h.length + 1)), none, none, none]) (h' := h ++ [.lst (nmsM ns0), .lst []]) (by simp [asgT, asgN])).trans ?_
    refine (run_next (env' := envC ld tk mn h t none none) (h' := St h t h[t] ns0 [] ks0) ?_).trans ?_
    · rw [← e0]
      simp [itemsM_app hld, asgT, asgN]
    refine (run_next ((run_for (xg := ((List.range r.toNat).map fun i => M.int (i : Nat), [])) (h1 := St h t o1 ns0 [] ks0) ?_).trans k1)).trans ?_
    · refine rng2_ok ?_ r0 (by omega)
      rw [ev_call LN.fnD (xs := [.ref t, .int (mn + 1)]) (h1 := St h t h[t] ns0 [] ks0) (by simp [evEs, evE, binM, binI])]
      exact c1
    refine (run_next ((run_for (xg := (ks.map fun k => M.str k.nm, [(h.length + 2, .lst (ks.map fun k => .str k.nm))])) (h1 := St h t o2 ns0 [] ks) ?_).trans k2)).trans ?_
    · have v6 : evE P.toTx (callF P (d + 3)) (.var 6) (envC ld tk mn h t e7 none) (St h t o2 ns0 [] ks) = some (.ok (.ref (h.length + 2)) (St h t o2 ns0 [] ks)) := by simp [evE]
      rw [evI, v6]
      simp only [bindO_ok, iterM, itemsM, St_2, guardM]
    refine run_ret (run_retE ?_)
    have v5 : evE P.toTx (callF P (d + 3)) (.var 5) (envC ld tk mn h t e7 e8) (St h t o3 (ns0 ++ cs.map (·.1)) cs ks) = some (.ok (.ref (h.length + 1)) (St h t o3 (ns0 ++ cs.map (·.1)) cs ks)) := by simp [evE]
    rw [evE, v5, bindO_ok]
    simp only [itemsM, St_1, Option.map_some, okv_some, colsM]
  rw [e]
  have bl : below h.length (colsM cs) = true := belows_cols cs
  simp only [outOf, bl]
  rw [trim_set (tape_below Ts)]
end
end MP
namespace MP
open PySem
/-! ### what stays while the tape is read and things are made -/
/-- S: the places that may change -/
structure Kp (S : Nat → Prop) (h h' : Hm) : Prop where
  len : h.length ≤ h'.length
  get : ∀ i, i < h.length → ¬ S i → h'[i]? = h[i]?
/-- one place alone -/
abbrev On (t : Nat) : Nat → Prop := fun i => i = t
/-- one place more -/
abbrev Or1 (S : Nat → Prop) (a : Nat) : Nat → Prop := fun i => S i ∨ i = a
theorem get_lt {h : Hm} {a : Nat} {o : O} (e : h[a]? = some o) : a < h.length := (List.getElem?_eq_some_iff.mp e).1
section
variable {S : Nat → Prop} {t : Nat} {h h1 h2 h3 : Hm}
theorem Kp.refl : Kp S h h := ⟨Nat.le_refl _, fun _ _ _ => rfl⟩
theorem Kp.trans (a : Kp S h h1) (b : Kp S h1 h2) : Kp S h h2 := ⟨Nat.le_trans a.len b.len, fun i hi ht => (b.get i (Nat.lt_of_lt_of_le hi a.len) ht).trans (a.get i hi ht)⟩
theorem Kp.at {a : Nat} {o : O} (k : Kp S h h1) (e : h[a]? = some o) (ha : ¬ S a) : h1[a]? = some o := by rw [k.get a (get_lt e) ha]; exact e
theorem Kp.set {o : O} {a : Nat} (ha : S a) : Kp S h (h.set a o) := ⟨by simp, fun i _ hi => get_other fun z => hi (by rw [z]; exact ha)⟩
theorem Kp.on {o : O} : Kp (On t) h (h.set t o) := Kp.set rfl
theorem Kp.more {S' : Nat → Prop} (k : Kp S h h1) (f : ∀ i, S i → S' i) : Kp S' h h1 := ⟨k.len, fun i hi hs => k.get i hi fun z => hs (f i z)⟩
theorem Kp.app {e : Hm} : Kp S h (h ++ e) := ⟨by simp, fun i hi _ => List.getElem?_append_left hi⟩
/-- a place that was not there -/
theorem Kp.put {a : Nat} {o : O} (k : Kp S h h1) (ha : h.length ≤ a) : Kp S h (h1.set a o) := ⟨by rw [List.length_set]; exact k.len, fun i hi ht => by rw [get_other (by omega)]; exact k.get i hi ht⟩
theorem trim_cases (b : Bool) : trim h h1 b = h1 ∨ (trim h h1 b = h1.take h.length ∧ b = true ∧ apartM h h1) := by
  unfold trim
  split
  · rename_i c
    exact .inr ⟨rfl, c⟩
  · exact .inl rfl
theorem Kp.trim {b : Bool} (k : Kp S h h1) : Kp S h (trim h h1 b) := by
  rcases trim_cases (h := h) (h1 := h1) b with e | ⟨e, _, ap⟩
  · rw [e]; exact k
  · rw [e]
    refine ⟨by rw [List.length_take]; have := ap.1; omega, fun i hi ht => ?_⟩
    rw [List.getElem?_take_of_lt hi]
    exact k.get i hi ht
theorem trim_at {b : Bool} {a : Nat} {o : O} (e : h1[a]? = some o) (ha : a < h.length) : (trim h h1 b)[a]? = some o := by
  rcases trim_cases (h := h) (h1 := h1) b with q | ⟨q, _, ap⟩
  · rw [q]; exact e
  · rw [q, List.getElem?_take_of_lt ha]; exact e
theorem Tape.trim {b : Bool} (T : Tape h1 t) (ht : t < h.length) : Tape (MP.trim h h1 b) t := by
  obtain ⟨c, xs, i, r, s, e1, nc, e2, x⟩ := T.ex
  exact ⟨c, xs, i, r, s, trim_at e1 ht, nc, trim_at e2 (by omega), x⟩
theorem Tape.put {a : Nat} {o : O} (T : Tape h t) (ha : t < a) : Tape (h.set a o) t := by
  obtain ⟨c, xs, i, r, s, e1, nc, e2, x⟩ := T.ex
  exact ⟨c, xs, i, r, s, by rw [get_other (by omega)]; exact e1, nc, by rw [get_other (by omega)]; exact e2, x⟩
theorem Draws.kp {P : Pg} {d : Nat} {many : Int} (D : Draws P) (T : Tape h t) (m0 : 0 < many) (m1 : many.natAbs.log2 < 9000) : ∃ r h', callF P (d + 1) "_law_draw" [.ref t, .int many] h = some (.ok (.int r) h') ∧ 0 ≤ r ∧ r < many ∧ Tape h' t ∧ Kp (On t) h h' ∧ h'.length = h.length := by
  obtain ⟨r, o, c, r0, r1, T1⟩ := D (d := d) T m0 m1
  exact ⟨r, _, c, r0, r1, T1, Kp.on, by simp⟩
/-! ### data, now and later -/
/-- v shows the same data as long as its places stay: fuel f, size b -/
def Dat (S : Nat → Prop) (h : Hm) (f b : Nat) (v : M) : Prop := ∃ D, Shw b D ∧ ∀ h', Kp S h h' → ∀ n, dat h' (n + f) v = some D
theorem Dat.kp {f b : Nat} {v : M} (d : Dat S h f b v) (k : Kp S h h1) : Dat S h1 f b v := let ⟨D, s, q⟩ := d; ⟨D, s, fun h' k' n => q h' (k.trans k') n⟩
theorem Dat.mono {f b f' b' : Nat} {v : M} (d : Dat S h f b v) (hf : f ≤ f') (hb : b ≤ b') : Dat S h f' b' v := let ⟨D, s, q⟩ := d; ⟨D, s.mono hb, fun h' k n => by
  have := q h' k (n + (f' - f))
  rw [show n + (f' - f) + f = n + f' by omega] at this
  exact this⟩
theorem Dat.rep {f b : Nat} {v : M} (d : Dat S h f b v) (hf : f ≤ 120) (hb : b ≤ 16777216) : ∃ s : Str, ∀ h', Kp S h h' → reprD h' v = some (.str s) := by
  obtain ⟨D, s, q⟩ := d
  refine ⟨D.shown, fun h' k => repr_shw ?_ s hb⟩
  have := q h' k (120 - f)
  rw [show 120 - f + f = deepR by unfold deepR; omega] at this
  exact this
/-- rows of data -/
def Dats (S : Nat → Prop) (h : Hm) (f b : Nat) (xs : List M) : Prop := ∃ Ds, Shws b Ds ∧ ∀ h', Kp S h h' → ∀ n, dats h' (n + f) xs = some Ds
theorem Dats.nil {f : Nat} (hf : 0 < f) : Dats S h f 0 [] := ⟨[], shws_nil, fun h' _ n => by
  obtain ⟨m, e⟩ : ∃ m, n + f = m + 1 := ⟨n + f - 1, by omega⟩
  rw [e]; rfl⟩
theorem Dats.cons {f b c : Nat} {x : M} {xs : List M} (d : Dat S h f b x) (ds : Dats S h f c xs) : Dats S h (f + 1) (b + 2 + c) (x :: xs) := by
  obtain ⟨D, s, q⟩ := d
  obtain ⟨Ds, ss, qs⟩ := ds
  refine ⟨D :: Ds, shws_cons s ss, fun h' k n => ?_⟩
  show dats h' ((n + f) + 1) (x :: xs) = _
  simp only [dats, q h' k n, qs h' k n]
theorem Dats.mono {f b f' b' : Nat} {xs : List M} (d : Dats S h f b xs) (hf : f ≤ f') (hb : b ≤ b') : Dats S h f' b' xs := let ⟨D, s, q⟩ := d; ⟨D, ⟨Nat.le_trans s.len hb, s.ok⟩, fun h' k n => by
  have := q h' k (n + (f' - f))
  rw [show n + (f' - f) + f = n + f' by omega] at this
  exact this⟩
theorem Dats.all {f b : Nat} (hf : 0 < f) : ∀ {xs : List M}, (∀ x ∈ xs, Dat S h f b x) → Dats S h (f + xs.length) (xs.length * (b + 2)) xs
  | [], _ => (Dats.nil hf).mono (by simp) (by simp)
  | x :: xs, d => by
    have ih := Dats.all hf (xs := xs) fun y hy => d y (by simp [hy])
    have := Dats.cons ((d x (by simp)).mono (Nat.le_add_right f xs.length) (Nat.le_refl _)) ih
    refine this.mono (by simp; omega) ?_
    simp only [List.length_cons]
    rw [Nat.add_mul]
    omega
theorem Dats.kp {f b : Nat} {v : List M} (d : Dats S h f b v) (k : Kp S h h1) : Dats S h1 f b v := let ⟨D, s, q⟩ := d; ⟨D, s, fun h' k' n => q h' (k.trans k') n⟩
theorem Dat.tup {f b : Nat} {xs : List M} (d : Dats S h f b xs) : Dat S h (f + 1) (b + 3) (.tup xs) := by
  obtain ⟨Ds, s, q⟩ := d
  refine ⟨.tuple Ds, shw_tuple s, fun h' k n => ?_⟩
  show dat h' ((n + f) + 1) _ = _
  simp only [dat, q h' k n, Option.map_some]
theorem Dat.lst {f b : Nat} {xs : List M} {a : Nat} (d : Dats S h f b xs) (e : h[a]? = some (.lst xs)) (ha : ¬ S a) : Dat S h (f + 1) (b + 3) (.ref a) := by
  obtain ⟨Ds, s, q⟩ := d
  refine ⟨.list Ds, (shw_list s).mono (by omega), fun h' k n => ?_⟩
  show dat h' ((n + f) + 1) _ = _
  simp only [dat, k.at e ha, q h' k n, Option.map_some]
theorem Dat.dic0 {a : Nat} (e : h[a]? = some (.dic [])) (ha : ¬ S a) : Dat S h 1 2 (.ref a) := ⟨.dict [], shw_dict0, fun h' k n => by
  show dat h' (n + 1) _ = _
  simp only [dat, k.at e ha]⟩
theorem Dat.flt {v : M} (f : Flt v) : Dat S h 1 2510 v := by
  obtain ⟨D, s, q⟩ := flt_dat f
  exact ⟨D, s, fun h' _ n => q h' n⟩
theorem Dats.repr {f b : Nat} {xs : List M} (ds : Dats S h f b xs) (hf : f + 1 ≤ 120) (hb : b + 2 ≤ 16777216) : ∃ s : Str, ∀ H a, Kp S h H → H[a]? = some (.lst xs) → reprD H (.ref a) = some (.str s) := by
  obtain ⟨Ds, ss, q⟩ := ds
  refine ⟨(PyData.list Ds).shown, fun H a k e => repr_shw ?_ (shw_list ss) hb⟩
  have := q H k (119 - f)
  rw [show 119 - f + f = 119 by omega] at this
  show dat H (119 + 1) _ = _
  simp only [dat, e, this, Option.map_some]
/-! ### leaves: flat things, rows of them -/
def Lf (S : Nat → Prop) (h : Hm) (v : M) : Prop := Thing h v ∧ ∀ a, v = .ref a → ¬ S a
theorem Lf.kp {v : M} (l : Lf S h v) (k : Kp S h h1) : Lf S h1 v := by
  refine ⟨?_, l.2⟩
  obtain ⟨th, ne⟩ := l
  cases th with
  | flt f => exact .flt f
  | tup f hl => exact .tup f hl
  | lst e f hl => exact .lst (k.at e (ne _ rfl)) f hl
  | dic e => exact .dic (k.at e (ne _ rfl))
theorem Lf.flt {v : M} (f : Flt v) : Lf S h v := ⟨.flt f, fun a e => by subst e; rcases f with z | ⟨_, z⟩ | ⟨_, z, _⟩ | ⟨_, z, _⟩ <;> cases z⟩
theorem Lf.less {S' : Nat → Prop} {v : M} (l : Lf S h v) (f : ∀ i, S' i → S i) : Lf S' h v := ⟨l.1, fun a e z => l.2 a e (f a z)⟩
/-- nothing leads to a place that is not there -/
theorem Lf.fresh {v : M} (l : Lf S h v) {S' : Nat → Prop} (f : ∀ i, S' i → S i ∨ h.length ≤ i) : Lf S' h v := ⟨l.1, fun a e z => by
  rcases f a z with z | z
  · exact l.2 a e z
  · obtain ⟨th, _⟩ := l
    subst e
    cases th with
    | flt f => rcases f with z | ⟨_, z⟩ | ⟨_, z, _⟩ | ⟨_, z, _⟩ <;> cases z
    | lst e f hl => have := get_lt e; omega
    | dic e => have := get_lt e; omega⟩
theorem Lf.trim {v : M} (l : Lf S h1 v) : Lf S (MP.trim h h1 (below h.length v)) v := by
  refine ⟨?_, l.2⟩
  obtain ⟨th, ne⟩ := l
  cases th with
  | flt f => exact .flt f
  | tup f hl => exact .tup f hl
  | @lst a xs e f hl =>
    by_cases c : a < h.length
    · exact .lst (trim_at e c) f hl
    · simp only [below, c, decide_false, trim_no]
      exact .lst e f hl
  | @dic a e =>
    by_cases c : a < h.length
    · exact .dic (trim_at e c)
    · simp only [below, c, decide_false, trim_no]
      exact .dic e
theorem Lf.dat {v : M} (l : Lf S h v) : Dat S h 7 10060 v := by
  obtain ⟨th, ne⟩ := l
  cases th with
  | flt f => exact (Dat.flt f).mono (by omega) (by omega)
  | @tup xs f hl => exact (Dat.tup (Dats.all (by omega) fun x hx => Dat.flt (f x hx))).mono (by omega) (by omega)
  | @lst a xs e f hl => exact (Dat.lst (Dats.all (by omega) fun x hx => Dat.flt (f x hx)) e (ne _ rfl)).mono (by omega) (by omega)
  | @dic a e => exact (Dat.dic0 e (ne _ rfl)).mono (by omega) (by omega)
theorem Lf.ty {v : M} (l : Lf S h v) : ∃ k, tyM h v = some k := l.1.ty
/-- a leaf is a text, or of another type -/
theorem Lf.cases {v : M} (l : Lf S h v) : (∃ s, v = .str (SX.S s) ∧ okL s ∧ s.length ≤ 250) ∨ ∃ k, tyM h v = some k ∧ k ≠ .str ∧ ∀ s, v ≠ .str s := by
  obtain ⟨th, ne⟩ := l
  cases th with
  | flt f =>
    rcases f with rfl | ⟨b, rfl⟩ | ⟨i, rfl, _⟩ | ⟨s, rfl, ok, hl⟩
    · exact .inr ⟨.none, rfl, by decide, by simp⟩
    · exact .inr ⟨.bool, rfl, by decide, by simp⟩
    · exact .inr ⟨.int, rfl, by decide, by simp⟩
    · exact .inl ⟨s, rfl, ok, hl⟩
  | tup f hl => exact .inr ⟨.tuple, rfl, by decide, by simp⟩
  | lst e f hl => exact .inr ⟨.list, by simp [tyM, e], by decide, by simp⟩
  | dic e => exact .inr ⟨.dict, by simp [tyM, e], by decide, by simp⟩
/-- no places at all -/
theorem Lf.free {v : M} {n : Nat} (l : Lf (· < n) h v) (b : below n v = true) {S' : Nat → Prop} {h' : Hm} : Lf S' h' v := by
  obtain ⟨th, ne⟩ := l
  cases th with
  | flt f => exact .flt f
  | tup f hl => exact ⟨.tup f hl, by simp⟩
  | @lst a xs e f hl =>
    rw [below] at b
    exact absurd (of_decide_eq_true b) (ne a rfl)
  | @dic a e =>
    rw [below] at b
    exact absurd (of_decide_eq_true b) (ne a rfl)
/-- a call in which the last values are the defaults -/
theorem callF_dfl {P : Pg} {d : Nat} {f : Str} {F : Fn} {xs : List M} {h : Hm} (hF : P.df f = some F) (hl : xs.length + F.dfl.length = F.np) (hn : F.np ≤ F.ns) (hk : F.ko ≤ F.dfl.length := by decide) : callF P (d + 1) f xs h = outOf h (exSs P.toTx (callF P d) F.body ((xs ++ F.dfl).map some ++ List.replicate (F.ns - F.np) none) h) := by
  simp only [callF, hF]
  rw [if_pos ⟨by omega, by omega, hn⟩]
  rw [show xs.length + F.dfl.length - F.np = 0 by omega, List.drop_zero]
/-- a call in which every value is written, though some have defaults -/
theorem callF_all {P : Pg} {d : Nat} {f : Str} {F : Fn} {xs : List M} {h : Hm} (hF : P.df f = some F) (hl : xs.length = F.np) (hn : F.np ≤ F.ns) (hk : F.ko = 0 := by rfl) : callF P (d + 1) f xs h = outOf h (exSs P.toTx (callF P d) F.body (xs.map some ++ List.replicate (F.ns - F.np) none) h) := by
  simp only [callF, hF]
  rw [if_pos ⟨by omega, by omega, hn⟩]
  rw [show xs.length + F.dfl.length - F.np = F.dfl.length by omega, List.drop_length, List.append_nil]
theorem lc_nil {P : Tx} {C : Cal} {env : Ev} {h h1 : Hm} {vs : List Nat} {t : T} {s : IT} {e : E} {c : Option E} {gs : List (Nat × O)} (hs : evI P C s env h = some (.ok ([], gs) h1)) (hk : kept h1 gs) : evL P C (.lc vs t s c e) env h = some (.ok [] h1) := by
  have := lc_ok (P := P) (C := C) (env := env) (vs := vs) (t := t) (s := s) (e := e) (c := c) (o := fun _ => none) hs hk (by simp) (by simp)
  simpa using this
@[simp] theorem set_last {h : Hm} {o o' : O} : (h ++ [o]).set h.length o' = h ++ [o'] := by
  rw [List.set_append_right _ _ (Nat.le_refl _)]
  simp
@[simp] theorem get_last {h : Hm} {o : O} : (h ++ [o])[h.length]? = some o := get_len
@[simp] theorem get_lc0 {h e : Hm} {a : O} : (h ++ a :: e)[h.length]? = some a := by simp
@[simp] theorem get_lc1 {h e : Hm} {a b : O} : (h ++ a :: b :: e)[h.length + 1]? = some b := by rw [List.getElem?_append_right (by omega)]; simp
@[simp] theorem get_lc2 {h e : Hm} {a b c : O} : (h ++ a :: b :: c :: e)[h.length + 2]? = some c := by rw [List.getElem?_append_right (by omega)]; simp
@[simp] theorem get_lc3 {h e : Hm} {a b c f : O} : (h ++ a :: b :: c :: f :: e)[h.length + 3]? = some f := by rw [List.getElem?_append_right (by omega)]; simp
@[simp] theorem set_lc0 {h e : Hm} {a o : O} : (h ++ a :: e).set h.length o = h ++ o :: e := by rw [List.set_append_right _ _ (Nat.le_refl _)]; simp
@[simp] theorem set_lc1 {h e : Hm} {a b o : O} : (h ++ a :: b :: e).set (h.length + 1) o = h ++ a :: o :: e := by rw [List.set_append_right _ _ (by omega)]; simp
@[simp] theorem set_lc2 {h e : Hm} {a b c o : O} : (h ++ a :: b :: c :: e).set (h.length + 2) o = h ++ a :: b :: o :: e := by rw [List.set_append_right _ _ (by omega)]; simp
@[simp] theorem ofS_inj {a b : String} : Str.ofString a = Str.ofString b ↔ a = b := by
  constructor
  · intro h
    rw [Str.ofString_eq_toList, Str.ofString_eq_toList] at h
    have h2 := congrArg (fun s : Str => s.cps.toList) h
    simp at h2
    have : a.toList = b.toList := by
      apply (List.map_inj_right (f := fun c : Char => c.val.toNat) ?_).mp h2
      intro x y e
      exact Char.ext (UInt32.toNat_inj.mp e)
    exact String.toList_inj.mp this
  · rintro rfl; rfl
@[simp] theorem lkp {α : Type} {a b : String} {x : α} {r : List (Str × α)} : List.lookup (Str.ofString a) ((Str.ofString b, x) :: r) = if a = b then some x else List.lookup (Str.ofString a) r := by
  rw [List.lookup_cons]
  by_cases c : a = b
  · subst c; simp
  · have : (Str.ofString a == Str.ofString b) = false := by simpa using c
    rw [this, if_neg c]
@[simp] theorem nlt1 {n k : Nat} : decide (n + k < n) = false := by simp
/-! ### more rules -/
@[simp] theorem q_asg_nm {i : Nat} {v : M} {env : Ev} : asgT (.nm i) v env = asgN i v env := by rw [asgT]
@[simp] theorem q_asg_tp {ts : List T} {xs : List M} {env : Ev} : asgT (.tp ts) (.tup xs) env = asgTs ts xs env := by rw [asgT]
@[simp] theorem q_asgs_nil {env : Ev} : asgTs [] [] env = some env := by rw [asgTs]
@[simp] theorem q_asgs_cons {t : T} {ts : List T} {x : M} {xs : List M} {env : Ev} : asgTs (t :: ts) (x :: xs) env = match asgT t x env with
    | some env' => asgTs ts xs env'
    | none => none := by rw [asgTs] <;> rfl
@[simp] theorem q_tr_bl {b : Bool} : truth h (.bl b) = some b := rfl
@[simp] theorem q_tr_non : truth h .non = some false := rfl
@[simp] theorem q_tr_int {i : Int} : truth h (.int i) = some (i != 0) := rfl
@[simp] theorem q_eq {x y : M} : cmpM h .eq x y = eqD h x y := rfl
@[simp] theorem q_ne {x y : M} : cmpM h .ne x y = (eqD h x y).map not := rfl
@[simp] theorem q_in {x y : M} : cmpM h .isin x y = inM h x y := rfl
@[simp] theorem q_nin {x y : M} : cmpM h .notin x y = (inM h x y).map not := rfl
@[simp] theorem q_lt {i j : Int} : cmpM h .lt (.int i) (.int j) = some (decide (i < j)) := rfl
@[simp] theorem q_le {i j : Int} : cmpM h .le (.int i) (.int j) = some (decide (i ≤ j)) := rfl
@[simp] theorem q_gt {i j : Int} : cmpM h .gt (.int i) (.int j) = some (decide (j < i)) := rfl
@[simp] theorem q_ge {i j : Int} : cmpM h .ge (.int i) (.int j) = some (decide (j ≤ i)) := rfl
@[simp] theorem q_eqi {i j : Int} : eqD h (.int i) (.int j) = some (decide (i = j)) := rfl
@[simp] theorem q_eqs {i j : Str} : eqD h (.str i) (.str j) = some (decide (i = j)) := rfl
@[simp] theorem q_eqb {i j : Bool} : eqD h (.bl i) (.bl j) = some (decide (i = j)) := rfl
@[simp] theorem q_bi {op : Bop} {i j : Int} : binM op (.int i) (.int j) h = okv ((binI op i j).map M.int) h := rfl
@[simp] theorem q_badd {i j : Int} : binI .add i j = some (i + j) := rfl
@[simp] theorem q_bsub {i j : Int} : binI .sub i j = some (i - j) := rfl
@[simp] theorem q_repr {x : M} : biM h .repr [x] = reprD h x := rfl
@[simp] theorem q_len {x : M} : biM h .len [x] = lenD h x := rfl
@[simp] theorem q_lent {xs : List M} : lenD h (.tup xs) = some (.int xs.length) := rfl
@[simp] theorem q_ixt {xs : List M} {i : Int} : ixM h (.tup xs) (.int i) = L2.atI xs i := rfl
@[simp] theorem q_le3 : (3 : Nat) ≤ sizeLine := by decide
@[simp] theorem q_le2 : (2 : Nat) ≤ sizeLine := by decide
@[simp] theorem q_le1 : (1 : Nat) ≤ sizeLine := by decide
@[simp] theorem q_le4 : (4 : Nat) ≤ sizeLine := by decide
@[simp] theorem q_out_ret {v : M} : outOf h (some (.ret v h1)) = some (.ok v (trim h h1 (below h.length v))) := rfl
@[simp] theorem q_out_next {e : Ev} : outOf h (some (.next e h1)) = some (.ok .non (trim h h1 true)) := rfl
@[simp] theorem q_out_exc {c : Str} {fs : List (Str × M)} {e : Ev} : outOf h (some (.exc c fs e h1)) = some (.exc c fs (trim h h1 (belowF h.length fs))) := rfl
@[simp] theorem q_at0 {α : Type} {a : α} {r : List α} : L2.atI (a :: r) 0 = some a := at_0
@[simp] theorem q_tis_none_bool : tyIs .none .bool = false := rfl
@[simp] theorem q_tis_none_int : tyIs .none .int = false := rfl
@[simp] theorem q_tis_none_str : tyIs .none .str = false := rfl
@[simp] theorem q_tis_none_tuple : tyIs .none .tuple = false := rfl
@[simp] theorem q_tis_none_list : tyIs .none .list = false := rfl
@[simp] theorem q_tis_none_dict : tyIs .none .dict = false := rfl
@[simp] theorem q_tis_bool_bool : tyIs .bool .bool = true := rfl
@[simp] theorem q_tis_bool_int : tyIs .bool .int = true := rfl
@[simp] theorem q_tis_bool_str : tyIs .bool .str = false := rfl
@[simp] theorem q_tis_bool_tuple : tyIs .bool .tuple = false := rfl
@[simp] theorem q_tis_bool_list : tyIs .bool .list = false := rfl
@[simp] theorem q_tis_bool_dict : tyIs .bool .dict = false := rfl
@[simp] theorem q_tis_int_bool : tyIs .int .bool = false := rfl
@[simp] theorem q_tis_int_int : tyIs .int .int = true := rfl
@[simp] theorem q_tis_int_str : tyIs .int .str = false := rfl
@[simp] theorem q_tis_int_tuple : tyIs .int .tuple = false := rfl
@[simp] theorem q_tis_int_list : tyIs .int .list = false := rfl
@[simp] theorem q_tis_int_dict : tyIs .int .dict = false := rfl
@[simp] theorem q_tis_str_bool : tyIs .str .bool = false := rfl
@[simp] theorem q_tis_str_int : tyIs .str .int = false := rfl
@[simp] theorem q_tis_str_str : tyIs .str .str = true := rfl
@[simp] theorem q_tis_str_tuple : tyIs .str .tuple = false := rfl
@[simp] theorem q_tis_str_list : tyIs .str .list = false := rfl
@[simp] theorem q_tis_str_dict : tyIs .str .dict = false := rfl
@[simp] theorem q_tis_tuple_bool : tyIs .tuple .bool = false := rfl
@[simp] theorem q_tis_tuple_int : tyIs .tuple .int = false := rfl
@[simp] theorem q_tis_tuple_str : tyIs .tuple .str = false := rfl
@[simp] theorem q_tis_tuple_tuple : tyIs .tuple .tuple = true := rfl
@[simp] theorem q_tis_tuple_list : tyIs .tuple .list = false := rfl
@[simp] theorem q_tis_tuple_dict : tyIs .tuple .dict = false := rfl
@[simp] theorem q_tis_list_bool : tyIs .list .bool = false := rfl
@[simp] theorem q_tis_list_int : tyIs .list .int = false := rfl
@[simp] theorem q_tis_list_str : tyIs .list .str = false := rfl
@[simp] theorem q_tis_list_tuple : tyIs .list .tuple = false := rfl
@[simp] theorem q_tis_list_list : tyIs .list .list = true := rfl
@[simp] theorem q_tis_list_dict : tyIs .list .dict = false := rfl
@[simp] theorem q_tis_dict_bool : tyIs .dict .bool = false := rfl
@[simp] theorem q_tis_dict_int : tyIs .dict .int = false := rfl
@[simp] theorem q_tis_dict_str : tyIs .dict .str = false := rfl
@[simp] theorem q_tis_dict_tuple : tyIs .dict .tuple = false := rfl
@[simp] theorem q_tis_dict_list : tyIs .dict .list = false := rfl
@[simp] theorem q_tis_dict_dict : tyIs .dict .dict = true := rfl
@[simp] theorem q_ty_non : tyM h .non = some .none := rfl
@[simp] theorem q_ty_bl {b : Bool} : tyM h (.bl b) = some .bool := rfl
@[simp] theorem q_ty_int {b : Int} : tyM h (.int b) = some .int := rfl
@[simp] theorem q_ty_str {b : Str} : tyM h (.str b) = some .str := rfl
@[simp] theorem q_ty_tup {b : List M} : tyM h (.tup b) = some .tuple := rfl
@[simp] theorem q_bel_non {n : Nat} : below n .non = true := by rw [below] <;> simp
@[simp] theorem q_bel_bl {n : Nat} {b : Bool} : below n (.bl b) = true := by rw [below] <;> simp
@[simp] theorem q_bel_int {n : Nat} {b : Int} : below n (.int b) = true := by rw [below] <;> simp
@[simp] theorem q_bel_str {n : Nat} {b : Str} : below n (.str b) = true := by rw [below] <;> simp
@[simp] theorem q_bel_ref {n a : Nat} : below n (.ref a) = decide (a < n) := by rw [below]
@[simp] theorem q_bel_tup {n : Nat} {xs : List M} : below n (.tup xs) = belows n xs := by rw [below]
@[simp] theorem q_bels_nil {n : Nat} : belows n [] = true := by rw [belows]
@[simp] theorem q_bels_cons {n : Nat} {x : M} {xs : List M} : belows n (x :: xs) = (below n x && belows n xs) := by rw [belows]
@[simp] theorem q_trim_self {b : Bool} : trim h h b = h := trim_self
@[simp] theorem q_trim_app {e : Hm} : trim h (h ++ e) true = h := trim_app
@[simp] theorem q_trim_no : trim h h1 false = h1 := trim_no
end
end MP
namespace MP
open PySem
/-! ### expressions drawn -/
def G_law_leaf : Fn := ⟨3, 6, [], 0,
  [.asg (.nm 3) (.new (.lc [4, 5] (.tp [(.nm 4), (.nm 5)]) (.v (.var 1)) (some (.cmp .eq (.var 5) (.var 2))) (.var 4))),
   .ife (.and (.var 3) (.cmp .gt (.call "_law_draw" [(.var 0), (.con (.int 4))]) (.con (.int 0))))
     [.ret (.tup [(.con (.str "column")), (.ix (.var 3) (.call "_law_draw" [(.var 0), (.bi .len [(.var 3)])]))])]
     [],
   .ife (.cmp .eq (.var 2) (.con (.str "number")))
     [.ret (.tup [(.con (.str "value")), (.call "_law_rational" [(.var 0), (.con (.bl false))])])]
     [],
   .ife (.cmp .eq (.var 2) (.con (.str "flag")))
     [.ret (.tup [(.con (.str "value")), (.cmp .eq (.call "_law_draw" [(.var 0), (.con (.int 2))]) (.con (.int 1)))])]
     [],
   .ret (.tup [(.con (.str "value")), (.ixl (.lst [(.con (.str "a")), (.con (.str "b")), (.con (.str "ab")), (.con (.str "b0"))]) (.call "_law_draw" [(.var 0), (.con (.int 4))]))])]⟩
def G_law_expr : Fn := ⟨4, 10, [], 0,
  [.asg (.nm 4) (.call "_law_draw" [(.var 0), (.con (.int 9))]),
   .asg (.nm 5) (.bin .sub (.var 3) (.con (.int 1))),
   .ife (.or (.cmp .le (.var 3) (.con (.int 1))) (.cmp .lt (.var 4) (.con (.int 2))))
     [.ret (.call "_law_leaf" [(.var 0), (.var 1), (.var 2)])]
     [],
   .ife (.cmp .eq (.var 4) (.con (.int 2)))
     [.asg (.nm 6) (.call "_law_expression" [(.var 0), (.var 1), (.con (.str "flag")), (.var 5)]),
      .asg (.nm 7) (.call "_law_expression" [(.var 0), (.var 1), (.var 2), (.var 5)]),
      .ret (.tup [(.con (.str "if")), (.var 6), (.var 7), (.call "_law_expression" [(.var 0), (.var 1), (.var 2), (.var 5)])])]
     [],
   .ife (.cmp .eq (.var 2) (.con (.str "word")))
     [.ret (.call "_law_leaf" [(.var 0), (.var 1), (.var 2)])]
     [],
   .ife (.cmp .eq (.var 2) (.con (.str "number")))
     [.asg (.nm 8) (.ixl (.lst [(.con (.str "plus")), (.con (.str "minus")), (.con (.str "times")), (.con (.str "over"))]) (.call "_law_draw" [(.var 0), (.con (.int 4))])),
      .asg (.nm 7) (.call "_law_expression" [(.var 0), (.var 1), (.con (.str "number")), (.var 5)]),
      .ret (.tup [(.var 8), (.var 7), (.call "_law_expression" [(.var 0), (.var 1), (.con (.str "number")), (.var 5)])])]
     [],
   .ife (.cmp .eq (.var 4) (.con (.int 3)))
     [.ret (.tup [(.con (.str "not")), (.call "_law_expression" [(.var 0), (.var 1), (.con (.str "flag")), (.var 5)])])]
     [],
   .asg (.nm 9) (.ixl (.lst [(.con (.str "number")), (.con (.str "word")), (.con (.str "flag"))]) (.call "_law_draw" [(.var 0), (.con (.int 3))])),
   .ife (.cmp .eq (.var 4) (.con (.int 4)))
     [.ret (.tup [(.con (.str "missing")), (.call "_law_expression" [(.var 0), (.var 1), (.var 9), (.var 5)])])]
     [],
   .ife (.cmp .eq (.var 4) (.con (.int 5)))
     [.asg (.nm 7) (.call "_law_expression" [(.var 0), (.var 1), (.var 9), (.var 5)]),
      .ret (.tup [(.con (.str "same")), (.var 7), (.call "_law_expression" [(.var 0), (.var 1), (.var 9), (.var 5)])])]
     [],
   .ife (.cmp .lt (.var 4) (.con (.int 8)))
     [.asg (.nm 7) (.call "_law_expression" [(.var 0), (.var 1), (.con (.str "number")), (.var 5)]),
      .ret (.tup [(.con (.str "less")), (.var 7), (.call "_law_expression" [(.var 0), (.var 1), (.con (.str "number")), (.var 5)])])]
     [],
   .asg (.nm 8) (.ixl (.lst [(.con (.str "both")), (.con (.str "either"))]) (.call "_law_draw" [(.var 0), (.con (.int 2))])),
   .asg (.nm 7) (.call "_law_expression" [(.var 0), (.var 1), (.con (.str "flag")), (.var 5)]),
   .ret (.tup [(.var 8), (.var 7), (.call "_law_expression" [(.var 0), (.var 1), (.con (.str "flag")), (.var 5)])])]⟩
class LibE (P : Pg) : Prop where
  dr : Draws P
  fnD : P.fns "_law_draw" = true
  low : Has P "_law_lowest" G_law_lowest
  rt : Has P "_law_rational" G_law_rational2
  lf : Has P "_law_leaf" G_law_leaf
  ex : Has P "_law_expression" G_law_expr
section
variable {P : Pg} [LE : LibE P] {d t : Nat} {h : Hm}
theorem rat_ok (w : Bool) (T : Tape h t) : ∃ p q h', callF P (d + 2) "_law_rational" [.ref t, .bl w] h = some (.ok (rat p q) h') ∧ Rq 140 p q ∧ InL p q ∧ Kp (On t) h h' ∧ Tape h' t ∧ h'.length = h.length := by
  rw [callF_eq LE.rt.df rfl rfl (by decide)]
  show ∃ p q h', outOf h (exSs P.toTx (callF P (d + 1)) G_law_rational2.body [some (.ref t), some (.bl w), none, none, none] h) = some (.ok (rat p q) h') ∧ _
  have fnD := LE.fnD
  have fnL := LE.low.fn
  have m20 : binI .mul 2 0 = some 0 := rfl
  have m21 : binI .mul 2 1 = some 2 := rfl
  have p18 : binI .pow 10 18 = some 1000000000000000000 := by decide +kernel
  have p40 : binI .pow 10 40 = some 10000000000000000000000000000000000000000 := by decide +kernel
  have m18 : binI .mul 2 1000000000000000000 = some 2000000000000000000 := by decide +kernel
  obtain ⟨M, hM, M6, M8⟩ : ∃ M : Int, (6 + if w = true then 2 else 0 : Int) = M ∧ 6 ≤ M ∧ M ≤ 8 := ⟨_, rfl, by split <;> omega, by split <;> omega⟩
  have eM : binI .mul 2 (if w = true then 1 else 0) = some (M - 6) := by rw [← hM]; cases w <;> rfl
  obtain ⟨r, h1, c1, r0, r1, T1, K1, l1⟩ := Draws.kp (@LibE.dr P _) (d := d) (many := M) T (by omega) (log_lt (by omega) (by omega))
  have e6 : 6 + (M - 6) = M := by omega
  have pre : ∀ R, exSs P.toTx (callF P (d + 1)) (G_law_rational2.body.drop 1) [some (.ref t), some (.bl w), some (.int r), none, none] h1 = R → exSs P.toTx (callF P (d + 1)) G_law_rational2.body [some (.ref t), some (.bl w), none, none, none] h = R := by
    intro R e
    refine (run_next (env' := [some (.ref t), some (.bl w), some (.int r), none, none]) (h' := h1) ?_).trans e
    simp [fnD, biM, intM, eM, e6, c1, asgN]
  have fin : ∀ (p q : Int) (h' : Hm), exSs P.toTx (callF P (d + 1)) (G_law_rational2.body.drop 1) [some (.ref t), some (.bl w), some (.int r), none, none] h1 = some (.ret (rat p q) h') → Rq 140 p q → InL p q → Kp (On t) h1 h' → Tape h' t → h'.length = h1.length →
      ∃ p q h', outOf h (exSs P.toTx (callF P (d + 1)) G_law_rational2.body [some (.ref t), some (.bl w), none, none, none] h) = some (.ok (rat p q) h') ∧ Rq 140 p q ∧ InL p q ∧ Kp (On t) h h' ∧ Tape h' t ∧ h'.length = h.length := by
    intro p q h' e x y K T l
    refine ⟨p, q, h', ?_, x, y, K1.trans K, T, by omega⟩
    rw [pre _ e]
    simp only [q_out_ret]
    rw [trim_len (by omega)]
  have sm : ∀ {z : Int}, (z.natAbs : Int) ≤ 10000000000000000000000000000000000000000 → Sm 140 z := fun {z} hz => by
    unfold Sm
    have : (10000000000000000000000000000000000000000 : Nat) < 2 ^ 140 := by decide +kernel
    omega
  have one : ∀ z : Int, Int.gcd z 1 = 1 := fun z => by simp
  by_cases a4 : r < 4
  · obtain ⟨x, h2, c2, x0, x1, T2, K2, l2⟩ := Draws.kp (@LibE.dr P _) (d := d) (many := 15) T1 (by decide) (by decide)
    refine fin (x - 7) 1 h2 (by simp [G_law_rational2, a4, fnD, c2]) ⟨by omega, one _, sm (by omega), sm (by decide)⟩ ⟨by omega, by decide⟩ K2 T2 l2
  · by_cases a6 : r < 6
    · obtain ⟨x, h2, c2, x0, x1, T2, K2, l2⟩ := Draws.kp (@LibE.dr P _) (d := d) (many := 401) T1 (by decide) (by decide)
      obtain ⟨y, h3, c3, y0, y1, T3, K3, l3⟩ := Draws.kp (@LibE.dr P _) (d := d) (many := 12) T2 (by decide) (by decide)
      have lw := law_lowest_ok (d := d) (h := h3) LE.low (n := x - 200) (m := 1 + y) (by omega) (by unfold Sm; have : (12 : Nat) < 2 ^ 9000 := Nat.lt_of_lt_of_le (show 12 < 2 ^ 4 by decide) (Nat.pow_le_pow_right (by decide) (by decide)); omega)
      refine fin ((x - 200) / (Int.gcd (x - 200) (1 + y) : Int)) ((1 + y) / (Int.gcd (x - 200) (1 + y) : Int)) h3 (by simp [G_law_rational2, a4, a6, fnD, c2, c3, fnL, lw, low]) (rq_low (n := x - 200) (m := 1 + y) (by omega) (sm (by omega)) (sm (by omega))) (inL_low (by omega) (by omega) (by omega)) (K2.trans K3) T3 (by omega)
    · by_cases a7 : r = 6
      · obtain ⟨x, h2, c2, x0, x1, T2, K2, l2⟩ := Draws.kp (@LibE.dr P _) (d := d) (many := 2000000000000000001) T1 (by decide) (by decide +kernel)
        obtain ⟨y, h3, c3, y0, y1, T3, K3, l3⟩ := Draws.kp (@LibE.dr P _) (d := d) (many := 1000000000000000000) T2 (by decide) (by decide +kernel)
        have lw := law_lowest_ok (d := d) (h := h3) LE.low (n := x - 1000000000000000000) (m := 1 + y) (by omega) (by unfold Sm; have : (1000000000000000001 : Nat) < 2 ^ 9000 := Nat.lt_of_lt_of_le (show 1000000000000000001 < 2 ^ 64 by decide) (Nat.pow_le_pow_right (by decide) (by decide)); omega)
        subst a7
        refine fin ((x - 1000000000000000000) / (Int.gcd (x - 1000000000000000000) (1 + y) : Int)) ((1 + y) / (Int.gcd (x - 1000000000000000000) (1 + y) : Int)) h3 (by simp [G_law_rational2, fnD, p18, m18, c2, c3, fnL, lw, low, asgN]) (rq_low (n := x - 1000000000000000000) (m := 1 + y) (by omega) (sm (by omega)) (sm (by omega))) (inL_low (by omega) (by omega) (by omega)) (K2.trans K3) T3 (by omega)
      · obtain ⟨x, h2, c2, x0, x1, T2, K2, l2⟩ := Draws.kp (@LibE.dr P _) (d := d) (many := 3) T1 (by decide) (by decide)
        obtain ⟨y, h3, c3, y0, y1, T3, K3, l3⟩ := Draws.kp (@LibE.dr P _) (d := d) (many := 4) T2 (by decide) (by decide)
        obtain ⟨z, hz⟩ : ∃ z : Int, z = 10000000000000000000000000000000000000000 - x := ⟨_, rfl⟩
        have run : ∀ v, L2.atI [rat z 1, rat (0 - z) 1, rat 1 z, rat (-1) z] y = some v → exSs P.toTx (callF P (d + 1)) (G_law_rational2.body.drop 1) [some (.ref t), some (.bl w), some (.int r), none, none] h1 = some (.ret v h3) := fun v ev => by
          simp [rat] at ev
          simp [G_law_rational2, a4, a6, a7, fnD, p40, c2, c3, asgN, ← hz, ev]
        have g1 : ∀ z : Int, Int.gcd 1 z = 1 := fun z => by simp
        have hy : y = 0 ∨ y = 1 ∨ y = 2 ∨ y = 3 := by omega
        rcases hy with rfl | rfl | rfl | rfl
        · exact fin z 1 h3 (run _ rfl) ⟨by omega, one _, sm (by omega), sm (by decide)⟩ ⟨by omega, by decide⟩ (K2.trans K3) T3 (by omega)
        · exact fin (0 - z) 1 h3 (run _ rfl) ⟨by omega, one _, sm (by omega), sm (by decide)⟩ ⟨by omega, by decide⟩ (K2.trans K3) T3 (by omega)
        · exact fin 1 z h3 (run _ rfl) ⟨by omega, g1 _, sm (by decide), sm (by omega)⟩ ⟨by decide, by omega⟩ (K2.trans K3) T3 (by omega)
        · exact fin (-1) z h3 (run _ rfl) ⟨by omega, by rw [Int.neg_gcd]; exact g1 _, sm (by decide), sm (by omega)⟩ ⟨by decide, by omega⟩ (K2.trans K3) T3 (by omega)
end
/-! ### kinds of values, words of operators -/
inductive Val : Kn → M → Prop
  | num {p q : Int} (x : Rq 140 p q) (y : InL p q) : Val .num (rat p q)
  | wrd {l : List Nat} (ok : NmO l) (nm : isNm l = true) : Val .wrd (.str (SX.S l))
  | flg {b : Bool} : Val .flg (.bl b)
inductive Wk where | plus | minus | times | over | less | same | both | either | not | mis | ife
  deriving DecidableEq
def Wk.nm : Wk → Str
  | .plus => "plus" | .minus => "minus" | .times => "times" | .over => "over" | .less => "less" | .same => "same" | .both => "both" | .either => "either" | .not => "not" | .mis => "missing" | .ife => "if"
def Wk.ar : Wk → Nat
  | .not => 1 | .mis => 1 | .ife => 3 | _ => 2
@[simp] theorem kn_num : Kn.num.nm = "number" := rfl
@[simp] theorem kn_wrd : Kn.wrd.nm = "word" := rfl
@[simp] theorem kn_flg : Kn.flg.nm = "flag" := rfl
@[simp] theorem wk_not : Wk.not.nm = "not" := rfl
@[simp] theorem wk_mis : Wk.mis.nm = "missing" := rfl
@[simp] theorem wk_ife : Wk.ife.nm = "if" := rfl
@[simp] theorem wk_same : Wk.same.nm = "same" := rfl
@[simp] theorem wk_less : Wk.less.nm = "less" := rfl
/-- expressions, of depth n at most; Q: what is known of columns -/
inductive Ex (Q : List Nat → Prop) : Nat → M → Prop
  | col {n : Nat} {l : List Nat} (q : Q l) : Ex Q (n + 1) (.tup [.str "column", .str (SX.S l)])
  | val {n : Nat} {k : Kn} {v : M} (x : Val k v) : Ex Q (n + 1) (.tup [.str "value", v])
  | op {n : Nat} {w : Wk} {es : List M} (hl : es.length = w.ar) (x : ∀ e ∈ es, Ex Q n e) : Ex Q (n + 1) (.tup (.str w.nm :: es))
theorem Ex.mono {Q : List Nat → Prop} {n m : Nat} {e : M} (x : Ex Q n e) (h : n ≤ m) : Ex Q m e := by
  induction x generalizing m with
  | col q => obtain ⟨k, rfl⟩ : ∃ k, m = k + 1 := ⟨m - 1, by omega⟩; exact .col q
  | val x => obtain ⟨k, rfl⟩ : ∃ k, m = k + 1 := ⟨m - 1, by omega⟩; exact .val x
  | op hl x ih => obtain ⟨k, rfl⟩ : ∃ k, m = k + 1 := ⟨m - 1, by omega⟩; exact .op hl fun e he => ih e he (by omega)
section
variable {P : Pg} [LE : LibE P] {d t : Nat} {h : Hm} {cols : Cols} {Q : List Nat → Prop}
def sameN (cols : Cols) (k : Kn) : List (List Nat) := (cols.filter fun c => decide (c.2 = k)).map (·.1)
theorem same_mem {k : Kn} {nm : List Nat} (hm : nm ∈ sameN cols k) : (nm, k) ∈ cols := by
  unfold sameN at hm
  obtain ⟨c, hc, rfl⟩ := List.mem_map.mp hm
  obtain ⟨h1, h2⟩ := List.mem_filter.mp hc
  have := of_decide_eq_true h2
  rw [← this]
  exact h1
theorem Kn.inj {a b : Kn} (e : a.nm = b.nm) : a = b := by cases a <;> cases b <;> first | rfl | (simp [Kn.nm] at e)
theorem same_lc {C : Cal} {k : Kn} (hl : cols.length ≤ 20) : evL P.toTx C (.lc [4, 5] (.tp [(.nm 4), (.nm 5)]) (.v (.var 1)) (some (.cmp .eq (.var 5) (.var 2))) (.var 4)) [some (.ref t), some (colsM cols), some (.str k.nm), none, none, none] h = some (.ok ((sameN cols k).map fun l => .str (SX.S l)) h) := by
  refine (lc_ok (xs := cols.map colM) (gs := []) (h1 := h) (o := fun y => match y with | .tup [.str nm, .str kk] => if kk = k.nm then some (.str nm) else none | _ => none) ?_ kept_nil (by simp [sz]; omega) ?_).trans ?_
  · simp [iterM, itemsM, colsM, guardM]
  · intro y hy
    obtain ⟨c, _, rfl⟩ := List.mem_map.mp hy
    by_cases e : c.2.nm = k.nm
    · simp [lcTurn, wipeM, asgN, colM, e]
    · simp [lcTurn, wipeM, asgN, colM, e]
  · congr 2
    unfold sameN
    clear hl
    induction cols with
    | nil => rfl
    | cons c cs ih =>
      simp only [List.map_cons, List.filterMap_cons, List.filter_cons]
      by_cases e : c.2 = k
      · have e' : c.2.nm = k.nm := by rw [e]
        simp only [colM, e', if_true, e, decide_true, List.map_cons]
        rw [← ih]
      · have e' : ¬ (c.2.nm = k.nm) := fun z => e (Kn.inj z)
        simp only [colM, e', if_false, decide_eq_false e]
        exact ih
theorem leaf_ok {k : Kn} (hl : cols.length ≤ 20) (hq : ∀ c ∈ cols, Q c.1) (T : Tape h t) : ∃ e h', callF P (d + 3) "_law_leaf" [.ref t, colsM cols, .str k.nm] h = some (.ok e h') ∧ Ex Q 1 e ∧ Kp (On t) h h' ∧ Tape h' t := by
  have ht := tape_lt T
  rw [callF_eq LE.lf.df rfl rfl (by decide)]
  show ∃ e h', outOf h (exSs P.toTx (callF P (d + 2)) G_law_leaf.body [some (.ref t), some (colsM cols), some (.str k.nm), none, none, none] h) = some (.ok e h') ∧ _
  have L := same_lc (P := P) (h := h) (t := t) (C := callF P (d + 2)) (k := k) hl
  have fnD := LE.fnD
  have fnR := LE.rt.fn
  generalize hs : (sameN cols k).map (fun l => M.str (SX.S l)) = ss at L
  have fin : ∀ (e : M) (h' : Hm), exSs P.toTx (callF P (d + 2)) G_law_leaf.body [some (.ref t), some (colsM cols), some (.str k.nm), none, none, none] h = some (.ret e h') → Ex Q 1 e → Kp (On t) h h' → Tape h' t → ∃ e h', outOf h (exSs P.toTx (callF P (d + 2)) G_law_leaf.body [some (.ref t), some (colsM cols), some (.str k.nm), none, none, none] h) = some (.ok e h') ∧ Ex Q 1 e ∧ Kp (On t) h h' ∧ Tape h' t := by
    intro e h' r x K T
    exact ⟨e, _, by rw [r, q_out_ret], x, K.trim, T.trim ht⟩
  have T0 : Tape (h ++ [.lst ss]) t := T.app
  -- the rest, where no column is taken
  have rest : ∀ (h2 : Hm), Kp (On t) h h2 → Tape h2 t → (∀ R, exSs P.toTx (callF P (d + 2)) (G_law_leaf.body.drop 2) [some (.ref t), some (colsM cols), some (.str k.nm), some (.ref h.length), none, none] h2 = R → exSs P.toTx (callF P (d + 2)) G_law_leaf.body [some (.ref t), some (colsM cols), some (.str k.nm), none, none, none] h = R) → ∃ e h', outOf h (exSs P.toTx (callF P (d + 2)) G_law_leaf.body [some (.ref t), some (colsM cols), some (.str k.nm), none, none, none] h) = some (.ok e h') ∧ Ex Q 1 e ∧ Kp (On t) h h' ∧ Tape h' t := by
    intro h2 K2 T2 pre
    cases k with
    | num =>
      obtain ⟨p, q, h3, c3, x, y, K3, T3, l3⟩ := rat_ok (P := P) (d := d) false T2
      exact fin _ h3 (pre _ (by simp [G_law_leaf, Kn.nm, fnR, c3])) (.val (.num x y)) (K2.trans K3) T3
    | flg =>
      obtain ⟨r, h3, c3, r0, r1, T3, K3, l3⟩ := Draws.kp (@LibE.dr P _) (d := d + 1) (many := 2) T2 (by decide) (by decide)
      exact fin _ h3 (pre _ (by simp [G_law_leaf, Kn.nm, fnD, c3])) (.val (.flg (b := decide (r = 1)))) (K2.trans K3) T3
    | wrd =>
      obtain ⟨r, h3, c3, r0, r1, T3, K3, l3⟩ := Draws.kp (@LibE.dr P _) (d := d + 1) (many := 4) T2 (by decide) (by decide)
      have hr : r = 0 ∨ r = 1 ∨ r = 2 ∨ r = 3 := by omega
      have word : ∀ (s : Str) (l : List Nat), s = SX.S l → NmO l → isNm l = true → L2.atI [M.str "a", .str "b", .str "ab", .str "b0"] r = some (.str s) → _ := fun s l es no ni at_ =>
        fin (.tup [.str "value", .str s]) h3 (pre _ (by simp [G_law_leaf, Kn.nm, fnD, c3, at_])) (by rw [es]; exact .val (.wrd no ni)) (K2.trans K3) T3
      have nmo : ∀ l : List Nat, (l.all fun c => sgnC c) = true → l.length ≤ 12 → (match l with | [] => false | c :: _ => lowC c) = true → NmO l := fun l a b e => by
        cases l with
        | nil => cases e
        | cons c r => exact ⟨by simp, fun y hy => by simp at hy; subst hy; exact e, fun c hc => List.all_eq_true.mp a c hc, b⟩
      rcases hr with rfl | rfl | rfl | rfl
      · exact word "a" [97] (by decide +kernel) (nmo _ (by decide) (by decide) (by decide)) (by decide +kernel) rfl
      · exact word "b" [98] (by decide +kernel) (nmo _ (by decide) (by decide) (by decide)) (by decide +kernel) rfl
      · exact word "ab" [97, 98] (by decide +kernel) (nmo _ (by decide) (by decide) (by decide)) (by decide +kernel) rfl
      · exact word "b0" [98, 48] (by decide +kernel) (nmo _ (by decide) (by decide) (by decide)) (by decide +kernel) rfl
  cases hz : sameN cols k with
  | nil =>
    have : ss = [] := by rw [← hs, hz]; rfl
    subst this
    refine rest (h ++ [.lst []]) Kp.app T0 fun R e => ?_
    rw [← e]
    simp [G_law_leaf, L, asgN, truth]
  | cons n0 ns =>
    have ne : ss.isEmpty = false := by rw [← hs, hz]; rfl
    have ln : ss.length = (n0 :: ns).length := by rw [← hs, hz]; simp
    have hle : ss.length ≤ 20 := by
      rw [← hs]
      unfold sameN
      simp
      exact Nat.le_trans (List.length_filter_le _ _) hl
    obtain ⟨r, h2, c2, r0, r1, T2, K2, l2⟩ := Draws.kp (@LibE.dr P _) (d := d + 1) (many := 4) T0 (by decide) (by decide)
    have g0 : h2[h.length]? = some (.lst ss) := K2.at get_last (by show ¬ _ = t; omega)
    have tr : truth (h ++ [.lst ss]) (.ref h.length) = some true := by simp [truth, ne]
    by_cases hr : 0 < r
    · obtain ⟨j, h3, c3, j0, j1, T3, K3, l3⟩ := Draws.kp (@LibE.dr P _) (d := d + 1) (many := ss.length) T2 (by rw [ln]; simp) (log_lt (by omega) (by omega))
      have g3 : h3[h.length]? = some (.lst ss) := K3.at g0 (by show ¬ _ = t; omega)
      obtain ⟨v, ev, mv⟩ := at_in (l := ss) (j := j) j0 j1
      obtain ⟨l, ml, rfl⟩ : ∃ l, l ∈ sameN cols k ∧ M.str (SX.S l) = v := by
        rw [← hs] at mv
        obtain ⟨l, ml, e⟩ := List.mem_map.mp mv
        exact ⟨l, ml, e⟩
      have ix : ixM h3 (.ref h.length) (.int j) = some (.str (SX.S l)) := by simp only [ixM, g3, ev]
      have le : lenD h2 (.ref h.length) = some (.int ss.length) := by simp [lenD, g0]
      exact fin _ h3 (by simp [G_law_leaf, L, asgN, tr, fnD, c2, hr, le, c3, ix]) (.col (hq _ (same_mem ml))) (Kp.app.trans (K2.trans K3)) T3
    · refine rest h2 (Kp.app.trans K2) T2 fun R e => ?_
      rw [← e]
      simp [G_law_leaf, L, asgN, tr, fnD, c2, hr]
theorem expr_ok (hl : cols.length ≤ 20) (hq : ∀ c ∈ cols, Q c.1) : ∀ (n : Nat) {h : Hm} {k : Kn} {z : Int}, Tape h t → z = (n + 1 : Nat) → ∃ e h', callF P (d + 4 + n) "_law_expression" [.ref t, colsM cols, .str k.nm, .int z] h = some (.ok e h') ∧ Ex Q (n + 1) e ∧ Kp (On t) h h' ∧ Tape h' t := by
  intro n
  induction n with
  | zero =>
    intro h k z T ez
    have ht := tape_lt T
    subst ez
    rw [show d + 4 + 0 = (d + 3) + 1 from rfl, callF_eq LE.ex.df rfl rfl (by decide)]
    show ∃ e h', outOf h (exSs P.toTx (callF P (d + 3)) G_law_expr.body [some (.ref t), some (colsM cols), some (.str k.nm), some (.int 1), none, none, none, none, none, none] h) = some (.ok e h') ∧ _
    obtain ⟨r, h1, c1, r0, r1, T1, K1, l1⟩ := Draws.kp (@LibE.dr P _) (d := d + 2) (many := 9) T (by decide) (by decide)
    obtain ⟨e, h2, c2, x, K2, T2⟩ := leaf_ok (P := P) (d := d) (k := k) hl hq T1
    have fnD := LE.fnD
    have fnL := LE.lf.fn
    refine ⟨e, trim h h2 (below h.length e), ?_, x, (K1.trans K2).trim, T2.trim ht⟩
    rw [show exSs P.toTx (callF P (d + 3)) G_law_expr.body [some (.ref t), some (colsM cols), some (.str k.nm), some (.int 1), none, none, none, none, none, none] h = some (.ret e h2) by simp [G_law_expr, fnD, c1, asgN, fnL, c2]]
    rfl
  | succ n ih =>
    intro h k z T ez
    have ht := tape_lt T
    have fnD := LE.fnD
    have fnL := LE.lf.fn
    have fnE := LE.ex.fn
    rw [show d + 4 + (n + 1) = (d + 4 + n) + 1 from rfl, callF_eq LE.ex.df rfl rfl (by decide)]
    show ∃ e h', outOf h (exSs P.toTx (callF P (d + 4 + n)) G_law_expr.body [some (.ref t), some (colsM cols), some (.str k.nm), some (.int z), none, none, none, none, none, none] h) = some (.ok e h') ∧ _
    obtain ⟨r, h1, c1, r0, r1, T1, K1, l1⟩ := Draws.kp (@LibE.dr P _) (d := d + 3 + n) (many := 9) T (by decide) (by decide)
    rw [show d + 3 + n + 1 = d + 4 + n by omega] at c1
    have z1 : ¬ z ≤ 1 := by omega
    have zl : z - 1 = (n + 1 : Nat) := by omega
    obtain ⟨y, ey⟩ : ∃ y, z - 1 = y := ⟨_, rfl⟩
    rw [ey] at zl
    have sub : ∀ {h : Hm} (k : Kn), Tape h t → ∃ e h', callF P (d + 4 + n) "_law_expression" [.ref t, colsM cols, .str k.nm, .int y] h = some (.ok e h') ∧ Ex Q (n + 1) e ∧ Kp (On t) h h' ∧ Tape h' t := fun k T => ih T zl
    have leaf : ∀ {h : Hm} (k : Kn), Tape h t → ∃ e h', callF P (d + 4 + n) "_law_leaf" [.ref t, colsM cols, .str k.nm] h = some (.ok e h') ∧ Ex Q 1 e ∧ Kp (On t) h h' ∧ Tape h' t := fun {h} k T => by
      obtain ⟨e, h', c, x⟩ := leaf_ok (P := P) (d := d + 1 + n) (k := k) hl hq T
      exact ⟨e, h', by rw [show d + 4 + n = d + 1 + n + 3 by omega]; exact c, x⟩
    have drw : ∀ {h : Hm} {many : Int}, Tape h t → 0 < many → many < 1000 → ∃ r h', callF P (d + 4 + n) "_law_draw" [.ref t, .int many] h = some (.ok (.int r) h') ∧ 0 ≤ r ∧ r < many ∧ Tape h' t ∧ Kp (On t) h h' ∧ h'.length = h.length := fun {h many} T m0 m1 => by
      have := Draws.kp (@LibE.dr P _) (d := d + 3 + n) (many := many) T m0 (log_lt (by omega) m1)
      rw [show d + 3 + n + 1 = d + 4 + n by omega] at this
      exact this
    have fin : ∀ (e : M) (h' : Hm), exSs P.toTx (callF P (d + 4 + n)) G_law_expr.body [some (.ref t), some (colsM cols), some (.str k.nm), some (.int z), none, none, none, none, none, none] h = some (.ret e h') → Ex Q (n + 1 + 1) e → Kp (On t) h1 h' → Tape h' t → ∃ e h', outOf h (exSs P.toTx (callF P (d + 4 + n)) G_law_expr.body [some (.ref t), some (colsM cols), some (.str k.nm), some (.int z), none, none, none, none, none, none] h) = some (.ok e h') ∧ Ex Q (n + 1 + 1) e ∧ Kp (On t) h h' ∧ Tape h' t := by
      intro e h' rr x K T
      exact ⟨e, _, by rw [rr, q_out_ret], x, (K1.trans K).trim, T.trim ht⟩
    have two : ∀ (w : Wk) {a b : M}, w.ar = 2 → Ex Q (n + 1) a → Ex Q (n + 1) b → Ex Q (n + 1 + 1) (.tup [.str w.nm, a, b]) := fun w {a b} hw xa xb => .op (es := [a, b]) (by simp [hw]) fun e he => by simp at he; rcases he with rfl | rfl; exact xa; exact xb
    have pre : ∀ R, exSs P.toTx (callF P (d + 4 + n)) (G_law_expr.body.drop 2) [some (.ref t), some (colsM cols), some (.str k.nm), some (.int z), some (.int r), some (.int y), none, none, none, none] h1 = R → exSs P.toTx (callF P (d + 4 + n)) G_law_expr.body [some (.ref t), some (colsM cols), some (.str k.nm), some (.int z), none, none, none, none, none, none] h = R := by
      intro R e
      rw [← e]
      refine (run_next (env' := [some (.ref t), some (colsM cols), some (.str k.nm), some (.int z), some (.int r), none, none, none, none, none]) (h' := h1) (by simp [fnD, c1, asgN])).trans (run_next ?_)
      simp [ey, asgN]
    generalize hL : colsM cols = cM at *
    by_cases r2 : r < 2
    · obtain ⟨e, h2, c2, x, K2, T2⟩ := leaf k T1
      exact fin e h2 (pre _ (by simp [G_law_expr, z1, r2, fnL, c2])) (x.mono (by omega)) K2 T2
    · by_cases r3 : r = 2
      · obtain ⟨a, h2, c2, xa, K2, T2⟩ := sub .flg T1
        obtain ⟨b, h3, c3, xb, K3, T3⟩ := sub k T2
        obtain ⟨c, h4, c4, xc, K4, T4⟩ := sub k T3
        simp only [kn_num, kn_wrd, kn_flg] at c2
        refine fin (.tup [.str Wk.ife.nm, a, b, c]) h4 (pre _ (by subst r3; simp [G_law_expr, z1, fnE, c2, c3, c4, asgN])) (.op (w := .ife) (es := [a, b, c]) rfl fun e he => ?_) (K2.trans (K3.trans K4)) T4
        simp at he
        rcases he with rfl | rfl | rfl
        · exact xa
        · exact xb
        · exact xc
      · cases k with
        | wrd =>
          obtain ⟨e, h2, c2, x, K2, T2⟩ := leaf .wrd T1
          simp only [kn_num, kn_wrd, kn_flg] at c2
          exact fin e h2 (pre _ (by simp [G_law_expr, z1, r2, r3, fnL, c2])) (x.mono (by omega)) K2 T2
        | num =>
          obtain ⟨j, h2, c2, j0, j1, T2, K2, _⟩ := drw (many := 4) T1 (by decide) (by decide)
          obtain ⟨a, h3, c3, xa, K3, T3⟩ := sub .num T2
          obtain ⟨b, h4, c4, xb, K4, T4⟩ := sub .num T3
          simp only [kn_num, kn_wrd, kn_flg] at c3 c4
          have KK := K2.trans (K3.trans K4)
          have go : ∀ w : Wk, w.ar = 2 → L2.atI [M.str "plus", .str "minus", .str "times", .str "over"] j = some (.str w.nm) → _ := fun w hw e =>
            fin (.tup [.str w.nm, a, b]) h4 (pre _ (by simp [G_law_expr, z1, r2, r3, fnD, fnE, c2, c3, c4, asgN, e])) (two w hw xa xb) KK T4
          have hj : j = 0 ∨ j = 1 ∨ j = 2 ∨ j = 3 := by omega
          rcases hj with rfl | rfl | rfl | rfl
          · exact go .plus rfl rfl
          · exact go .minus rfl rfl
          · exact go .times rfl rfl
          · exact go .over rfl rfl
        | flg =>
          by_cases r4 : r = 3
          · obtain ⟨a, h2, c2, xa, K2, T2⟩ := sub .flg T1
            simp only [kn_num, kn_wrd, kn_flg] at c2
            exact fin (.tup [.str Wk.not.nm, a]) h2 (pre _ (by subst r4; simp [G_law_expr, z1, fnE, c2, asgN])) (.op (w := .not) (es := [a]) rfl fun e he => by simp at he; subst he; exact xa) K2 T2
          · obtain ⟨j, h2, c2, j0, j1, T2, K2, _⟩ := drw (many := 3) T1 (by decide) (by decide)
            obtain ⟨kk, ek⟩ := kinds_at j j0 j1
            by_cases r5 : r = 4
            · obtain ⟨a, h3, c3, xa, K3, T3⟩ := sub kk T2
              exact fin (.tup [.str Wk.mis.nm, a]) h3 (pre _ (by subst r5; simp [G_law_expr, z1, fnD, fnE, c2, c3, asgN, ek])) (.op (w := .mis) (es := [a]) rfl fun e he => by simp at he; subst he; exact xa) (K2.trans K3) T3
            · by_cases r6 : r = 5
              · obtain ⟨a, h3, c3, xa, K3, T3⟩ := sub kk T2
                obtain ⟨b, h4, c4, xb, K4, T4⟩ := sub kk T3
                exact fin (.tup [.str Wk.same.nm, a, b]) h4 (pre _ (by subst r6; simp [G_law_expr, z1, fnD, fnE, c2, c3, c4, asgN, ek])) (two .same rfl xa xb) (K2.trans (K3.trans K4)) T4
              · by_cases r7 : r < 8
                · obtain ⟨a, h3, c3, xa, K3, T3⟩ := sub .num T2
                  obtain ⟨b, h4, c4, xb, K4, T4⟩ := sub .num T3
                  simp only [kn_num, kn_wrd, kn_flg] at c3 c4
                  exact fin (.tup [.str Wk.less.nm, a, b]) h4 (pre _ (by simp [G_law_expr, z1, r2, r3, r4, r5, r6, r7, fnD, fnE, c2, c3, c4, asgN, ek])) (two .less rfl xa xb) (K2.trans (K3.trans K4)) T4
                · obtain ⟨i, h3, c3, i0, i1, T3, K3, _⟩ := drw (many := 2) T2 (by decide) (by decide)
                  obtain ⟨a, h4, c4, xa, K4, T4⟩ := sub .flg T3
                  obtain ⟨b, h5, c5, xb, K5, T5⟩ := sub .flg T4
                  simp only [kn_num, kn_wrd, kn_flg] at c4 c5
                  have go : ∀ w : Wk, w.ar = 2 → L2.atI [M.str "both", .str "either"] i = some (.str w.nm) → _ := fun w hw e =>
                    fin (.tup [.str w.nm, a, b]) h5 (pre _ (by simp [G_law_expr, z1, r2, r3, r4, r5, r6, r7, fnD, fnE, c2, c3, c4, c5, asgN, ek, e])) (two w hw xa xb) (K2.trans (K3.trans (K4.trans K5))) T5
                  have hi : i = 0 ∨ i = 1 := by omega
                  rcases hi with rfl | rfl
                  · exact go .both rfl rfl
                  · exact go .either rfl rfl
end
end MP
namespace MP
open PySem L2 He

def top (i : Nat) : Stmt := PySem.Challenge.pw_liveclaims_k76_forms_of_expressions.main.body.getD i (.Pass ⟨0, 0, 0, 0⟩)
def inner (i j : Nat) : Stmt := match top i with
  | .ClassDef _ _ _ b _ _ _ _ _ _ _ => b.getD j (.Pass ⟨0, 0, 0, 0⟩)
  | s => s
def F_show_number : Fn := ⟨1, 1, [], 0,
  [.ret (.ife (.cmp .eq (.ix (.var 0) (.con (.int 1))) (.con (.int 1))) (.bi .str [(.ix (.var 0) (.con (.int 0)))]) (.fst [(.fmt (.ix (.var 0) (.con (.int 0)))), (.con (.str "/")), (.fmt (.ix (.var 0) (.con (.int 1))))]))]⟩
def D_show_number : Dd := ⟨"show_number", top 1, ["number"], F_show_number, [], [], none⟩
def F_show_value : Fn := ⟨1, 1, [], 0,
  [.ife (.isB true true (.var 0))
     [.ret (.con (.str "#yes"))]
     [],
   .ife (.isB true false (.var 0))
     [.ret (.con (.str "#no"))]
     [],
   .ret (.ife (.isi (.var 0) .str) (.bin .add (.con (.str "'")) (.var 0)) (.call "show_number" [(.var 0)]))]⟩
def D_show_value : Dd := ⟨"show_value", top 2, ["value"], F_show_value, [], [], none⟩
def F_show_expression : Fn := ⟨1, 2, [], 0,
  [.ife (.cmp .eq (.ix (.var 0) (.con (.int 0))) (.con (.str "column")))
     [.ret (.ix (.var 0) (.con (.int 1)))]
     [],
   .ife (.cmp .eq (.ix (.var 0) (.con (.int 0))) (.con (.str "value")))
     [.ret (.bin .add (.con (.str "=")) (.call "show_value" [(.ix (.var 0) (.con (.int 1)))]))]
     [],
   .ret (.bin .add (.bin .add (.con (.str "(")) (.mt .join (.con (.str " ")) [(.bin .add (.new (.lst [(.ix (.var 0) (.con (.int 0)))])) (.new (.lc [1] (.nm 1) (.v (.sl (.var 0) (some (.con (.int 1))) none)) none (.call "show_expression" [(.var 1)]))))])) (.con (.str ")")))]⟩
def D_show_expression : Dd := ⟨"show_expression", top 3, ["expression", "operand"], F_show_expression, [], [], none⟩
def F_is_integer : Fn := ⟨1, 1, [], 0,
  [.ret (.and (.isi (.var 0) .int) (.not (.isi (.var 0) .bool)))]⟩
def D_is_integer : Dd := ⟨"is_integer", top 7, ["value"], F_is_integer, [], [], none⟩
def B_common_divisor_0 : List S :=
  [.par 0 1 (.var 1) (.bin .mod (.var 0) (.var 1))]
def F_common_divisor : Fn := ⟨2, 2, [], 0,
  [.par 0 1 (.bi .abs [(.var 0)]) (.bi .abs [(.var 1)]),
   .whl (.cmp .ne (.var 1) (.con (.int 0))) B_common_divisor_0,
   .ret (.var 0)]⟩
def D_common_divisor : Dd := ⟨"common_divisor", top 8, ["a", "b"], F_common_divisor, [], [], none⟩
def F_is_rational : Fn := ⟨1, 1, [], 0,
  [.ife (.or (.not (.isi (.var 0) .tuple)) (.or (.cmp .ne (.bi .len [(.var 0)]) (.con (.int 2))) (.or (.not (.call "is_integer" [(.ix (.var 0) (.con (.int 0)))])) (.not (.call "is_integer" [(.ix (.var 0) (.con (.int 1)))])))))
     [.ret (.con (.bl false))]
     [],
   .ret (.and (.cmp .ge (.ix (.var 0) (.con (.int 1))) (.con (.int 1))) (.cmp .eq (.call "common_divisor" [(.ix (.var 0) (.con (.int 0))), (.ix (.var 0) (.con (.int 1)))]) (.con (.int 1))))]⟩
def D_is_rational : Dd := ⟨"is_rational", top 9, ["value"], F_is_rational, [], [], none⟩
def F_is_name : Fn := ⟨1, 2, [], 0,
  [.ife (.or (.not (.isi (.var 0) .str)) (.or (.not (.chn .le .le (.con (.int 1)) (.bi .len [(.var 0)]) (.glo "MOST_NAME"))) (.cmp .notin (.ix (.var 0) (.con (.int 0))) (.glo "LETTERS"))))
     [.ret (.con (.bl false))]
     [],
   .ret (.all (.lc [1] (.nm 1) (.v (.var 0)) none (.cmp .isin (.var 1) (.glo "SIGNS"))))]⟩
def D_is_name : Dd := ⟨"is_name", top 15, ["value", "sign"], F_is_name, [], [], none⟩
def F_is_within_limit : Fn := ⟨1, 1, [], 0,
  [.ret (.and (.cmp .le (.bi .abs [(.ix (.var 0) (.con (.int 0)))]) (.glo "LIMIT")) (.cmp .le (.ix (.var 0) (.con (.int 1))) (.glo "LIMIT")))]⟩
def D_is_within_limit : Dd := ⟨"is_within_limit", top 16, ["number"], F_is_within_limit, [], [], none⟩
def F_read_integer : Fn := ⟨1, 2, [], 0,
  [.ife (.or (.not (.chn .le .le (.con (.int 1)) (.bi .len [(.var 0)]) (.glo "MOST_DIGITS"))) (.not (.all (.lc [1] (.nm 1) (.v (.var 0)) none (.cmp .isin (.var 1) (.glo "DIGITS"))))))
     [.ret (.con .non)]
     [],
   .ret (.ife (.and (.cmp .eq (.ix (.var 0) (.con (.int 0))) (.con (.str "0"))) (.cmp .ne (.var 0) (.con (.str "0")))) (.con .non) (.bi .int [(.var 0)]))]⟩
def D_read_integer : Dd := ⟨"read_integer", top 22, ["text", "sign"], F_read_integer, [], [], none⟩
def F_read_number : Fn := ⟨1, 7, [], 0,
  [.asg (.tp [(.nm 1), (.nm 2), (.nm 3)]) (.mt .partition (.var 0) [(.con (.str "/"))]),
   .asg (.nm 4) (.call "read_integer" [(.ife (.mt .startswith (.var 1) [(.con (.str "-"))]) (.sl (.var 1) (some (.con (.int 1))) none) (.var 1))]),
   .asg (.nm 5) (.ife (.cmp .ne (.var 2) (.con (.str ""))) (.call "read_integer" [(.var 3)]) (.con (.int 1))),
   .ife (.or (.isN (.var 4)) (.or (.isN (.var 5)) (.or (.and (.cmp .ne (.var 2) (.con (.str ""))) (.cmp .lt (.var 5) (.con (.int 2)))) (.cmp .eq (.var 1) (.con (.str "-0"))))))
     [.ret (.con .non)]
     [],
   .asg (.nm 6) (.tup [(.ife (.mt .startswith (.var 1) [(.con (.str "-"))]) (.neg (.var 4)) (.var 4)), (.var 5)]),
   .ret (.ife (.and (.call "is_rational" [(.var 6)]) (.call "is_within_limit" [(.var 6)])) (.var 6) (.con .non))]⟩
def D_read_number : Dd := ⟨"read_number", top 23, ["text", "above", "slash", "below", "size", "bottom", "found"], F_read_number, [], [], none⟩
def F_read_leaf : Fn := ⟨1, 2, [], 0,
  [.ife (.call "is_name" [(.var 0)])
     [.ret (.tup [(.con (.str "column")), (.var 0)])]
     [],
   .ife (.cmp .isin (.var 0) (.tup [(.con (.str "=#yes")), (.con (.str "=#no"))]))
     [.ret (.tup [(.con (.str "value")), (.cmp .eq (.var 0) (.con (.str "=#yes")))])]
     [],
   .ife (.mt .startswith (.var 0) [(.con (.str "='"))])
     [.ret (.ife (.call "is_name" [(.sl (.var 0) (some (.con (.int 2))) none)]) (.tup [(.con (.str "value")), (.sl (.var 0) (some (.con (.int 2))) none)]) (.con .non))]
     [],
   .asg (.nm 1) (.ife (.mt .startswith (.var 0) [(.con (.str "="))]) (.call "read_number" [(.sl (.var 0) (some (.con (.int 1))) none)]) (.con .non)),
   .ret (.ife (.isN (.var 1)) (.con .non) (.tup [(.con (.str "value")), (.var 1)]))]⟩
def D_read_leaf : Dd := ⟨"read_leaf", top 24, ["token", "number"], F_read_leaf, [], [], none⟩
def F_FormReader____init__ : Fn := ⟨2, 2, [], 0,
  [.setf (.var 0) "text" (.var 1),
   .setf (.var 0) "at" (.con (.int 0))]⟩
def D_FormReader____init__ : Dd := ⟨"FormReader.__init__", inner 25 0, ["self", "text"], F_FormReader____init__, [], [], (some ("FormReader", "__init__"))⟩
def F_FormReader__expect : Fn := ⟨2, 2, [], 0,
  [.ife (.or (.cmp .ge (.exf 0 "at") (.bi .len [(.exf 0 "text")])) (.cmp .ne (.ix (.exf 0 "text") (.exf 0 "at")) (.var 1)))
     [.rai "BadText" [(.exf 0 "at")]]
     [],
   .augf (.var 0) "at" .add (.con (.int 1))]⟩
def D_FormReader__expect : Dd := ⟨"FormReader.expect", inner 25 1, ["self", "sign"], F_FormReader__expect, [], [], (some ("FormReader", "expect"))⟩
def B_FormReader__token_0 : List S :=
  [.augf (.var 0) "at" .add (.con (.int 1))]
def F_FormReader__token : Fn := ⟨1, 2, [], 0,
  [.asg (.nm 1) (.exf 0 "at"),
   .whl (.and (.cmp .lt (.exf 0 "at") (.bi .len [(.exf 0 "text")])) (.cmp .notin (.ix (.exf 0 "text") (.exf 0 "at")) (.con (.str " ()")))) B_FormReader__token_0,
   .ret (.sl (.exf 0 "text") (some (.var 1)) (some (.exf 0 "at")))]⟩
def D_FormReader__token : Dd := ⟨"FormReader.token", inner 25 2, ["self", "begin"], F_FormReader__token, [], [], (some ("FormReader", "token"))⟩
def B_FormReader__form_0 : List S :=
  [.exp (.meth (.var 0) "expect" [(.con (.str " "))] [] []),
   .app (.var 6) (.meth (.var 0) "form" [(.bin .add (.var 1) (.con (.int 1)))] [] [])]
def F_FormReader__form : Fn := ⟨2, 8, [], 0,
  [.asg (.nm 2) (.exf 0 "at"),
   .ife (.or (.cmp .gt (.var 1) (.glo "MOST_DEPTH")) (.cmp .ge (.var 2) (.bi .len [(.exf 0 "text")])))
     [.rai "BadText" [(.var 2)]]
     [],
   .ife (.cmp .ne (.ix (.exf 0 "text") (.var 2)) (.con (.str "(")))
     [.asg (.nm 3) (.call "read_leaf" [(.meth (.var 0) "token" [] [] [])]),
      .ife (.isN (.var 3))
        [.rai "BadText" [(.var 2)]]
        [],
      .ret (.var 3)]
     [],
   .augf (.var 0) "at" .add (.con (.int 1)),
   .asg (.nm 4) (.exf 0 "at"),
   .asg (.nm 5) (.meth (.var 0) "token" [] [] []),
   .ife (.cmp .notin (.var 5) (.glo "OPERANDS"))
     [.rai "BadText" [(.var 4)]]
     [],
   .asg (.nm 6) (.new (.lst [])),
   .for_ (.nm 7) (.v (.ix (.glo "OPERANDS") (.var 5))) B_FormReader__form_0,
   .exp (.meth (.var 0) "expect" [(.con (.str ")"))] [] []),
   .ret (.bin .add (.tup [(.var 5)]) (.tupo (.var 6)))]⟩
def D_FormReader__form : Dd := ⟨"FormReader.form", inner 25 3, ["self", "depth", "begin", "found", "word_at", "word", "operands", "kind"], F_FormReader__form, [], [], (some ("FormReader", "form"))⟩
def F_read_expression : Fn := ⟨1, 3, [], 0,
  [.ife (.not (.isi (.var 0) .str))
     [.rai "BadText" [(.con (.int 0))]]
     [],
   .asg (.nm 1) (.call "FormReader" [(.var 0)]),
   .asg (.nm 2) (.meth (.var 1) "form" [(.con (.int 1))] [] []),
   .ife (.cmp .lt (.exf 1 "at") (.bi .len [(.var 0)]))
     [.rai "BadText" [(.exf 1 "at")]]
     [],
   .ret (.var 2)]⟩
def D_read_expression : Dd := ⟨"read_expression", top 26, ["text", "reader", "found"], F_read_expression, [], [], none⟩
def F__law_tape : Fn := ⟨1, 1, [], 0,
  [.ret (.new (.lst [(.new (.of (.sl (.var 0) none (some (.con (.int 63)))))), (.con (.int 0)), (.con (.int 0)), (.con (.int 17))]))]⟩
def D__law_tape : Dd := ⟨"_law_tape", top 28, ["_law_script"], F__law_tape, [], [], none⟩
def F__law_draw : Fn := ⟨2, 5, [], 0,
  [.ife (.cmp .gt (.ix (.var 0) (.con (.int 2))) (.con (.int 0)))
     [.asg (.nm 2) (.bin .mod (.ix (.var 0) (.con (.int 2))) (.var 1)),
      .seti (.var 0) (.con (.int 2)) (.bin .fdiv (.ix (.var 0) (.con (.int 2))) (.var 1)),
      .ret (.var 2)]
     [],
   .asg (.nm 3) (.con (.int 0)),
   .ife (.cmp .lt (.ix (.var 0) (.con (.int 1))) (.bi .len [(.ix (.var 0) (.con (.int 0)))]))
     [.asg (.nm 3) (.ix (.ix (.var 0) (.con (.int 0))) (.ix (.var 0) (.con (.int 1))))]
     [],
   .seti (.var 0) (.con (.int 1)) (.bin .add (.ix (.var 0) (.con (.int 1))) (.con (.int 1))),
   .ife (.cmp .ge (.var 3) (.bin .pow (.con (.int 10)) (.con (.int 18))))
     [.seti (.var 0) (.con (.int 2)) (.bin .fdiv (.var 3) (.var 1)),
      .ret (.bin .mod (.var 3) (.var 1))]
     [],
   .asg (.nm 4) (.bin .add (.bin .add (.bin .mod (.var 3) (.con (.int 2147483647))) (.bin .mul (.con (.int 7919)) (.ix (.var 0) (.con (.int 1))))) (.con (.int 11))),
   .seti (.var 0) (.con (.int 3)) (.bin .mod (.bin .add (.bin .mul (.ix (.var 0) (.con (.int 3))) (.con (.int 48271))) (.var 4)) (.con (.int 2147483647))),
   .ret (.bin .mod (.bin .mod (.bin .pow (.ix (.var 0) (.con (.int 3))) (.con (.int 5))) (.con (.int 2147483647))) (.var 1))]⟩
def D__law_draw : Dd := ⟨"_law_draw", top 29, ["_law_tape_here", "_law_many", "_law_digit", "_law_cell", "_law_near"], F__law_draw, [], [], none⟩
def B__law_lowest_0 : List S :=
  [.asg (.nm 4) (.bin .mod (.var 2) (.var 3)),
   .asg (.nm 2) (.var 3),
   .asg (.nm 3) (.var 4)]
def F__law_lowest : Fn := ⟨2, 5, [], 0,
  [.asg (.nm 2) (.bi .abs [(.var 0)]),
   .asg (.nm 3) (.var 1),
   .whl (.cmp .gt (.var 3) (.con (.int 0))) B__law_lowest_0,
   .ret (.tup [(.bin .fdiv (.var 0) (.var 2)), (.bin .fdiv (.var 1) (.var 2))])]⟩
def D__law_lowest : Dd := ⟨"_law_lowest", top 30, ["_law_n", "_law_d", "_law_a", "_law_b", "_law_rest"], F__law_lowest, [], [], none⟩
def F__law_rational : Fn := ⟨2, 5, [], 0,
  [.asg (.nm 2) (.call "_law_draw" [(.var 0), (.bin .add (.con (.int 6)) (.bin .mul (.con (.int 2)) (.bi .int [(.var 1)])))]),
   .ife (.cmp .lt (.var 2) (.con (.int 4)))
     [.ret (.tup [(.bin .sub (.call "_law_draw" [(.var 0), (.con (.int 15))]) (.con (.int 7))), (.con (.int 1))])]
     [],
   .ife (.cmp .lt (.var 2) (.con (.int 6)))
     [.ret (.call "_law_lowest" [(.bin .sub (.call "_law_draw" [(.var 0), (.con (.int 401))]) (.con (.int 200))), (.bin .add (.con (.int 1)) (.call "_law_draw" [(.var 0), (.con (.int 12))]))])]
     [],
   .ife (.cmp .eq (.var 2) (.con (.int 6)))
     [.asg (.nm 3) (.bin .sub (.call "_law_draw" [(.var 0), (.bin .add (.bin .mul (.con (.int 2)) (.bin .pow (.con (.int 10)) (.con (.int 18)))) (.con (.int 1)))]) (.bin .pow (.con (.int 10)) (.con (.int 18)))),
      .ret (.call "_law_lowest" [(.var 3), (.bin .add (.con (.int 1)) (.call "_law_draw" [(.var 0), (.bin .pow (.con (.int 10)) (.con (.int 18)))]))])]
     [],
   .asg (.nm 4) (.bin .sub (.bin .pow (.con (.int 10)) (.con (.int 40))) (.call "_law_draw" [(.var 0), (.con (.int 3))])),
   .ret (.ixl (.lst [(.tup [(.var 4), (.con (.int 1))]), (.tup [(.bin .sub (.con (.int 0)) (.var 4)), (.con (.int 1))]), (.tup [(.con (.int 1)), (.var 4)]), (.tup [(.neg (.con (.int 1))), (.var 4)])]) (.call "_law_draw" [(.var 0), (.con (.int 4))]))]⟩
def D__law_rational : Dd := ⟨"_law_rational", top 31, ["_law_tape_here", "_law_wide", "_law_size", "_law_number", "_law_edge"], F__law_rational, [], [], none⟩
def F__law_name : Fn := ⟨1, 6, [], 0,
  [.asg (.nm 1) (.con (.str "abcdefghijklmnopqrstuvwxyz0123456789")),
   .asg (.nm 2) (.bin .add (.con (.int 1)) (.call "_law_draw" [(.var 0), (.con (.int 12))])),
   .ife (.cmp .eq (.call "_law_draw" [(.var 0), (.con (.int 2))]) (.con (.int 0)))
     [.asg (.nm 3) (.call "_law_draw" [(.var 0), (.var 2)]),
      .asg (.nm 4) (.ix (.var 1) (.call "_law_draw" [(.var 0), (.bin .add (.con (.int 26)) (.bin .mul (.con (.int 10)) (.bi .int [(.cmp .gt (.var 3) (.con (.int 0)))])))])),
      .ret (.bin .add (.bin .add (.bin .mul (.con (.str "a")) (.var 3)) (.var 4)) (.bin .mul (.con (.str "a")) (.bin .sub (.bin .sub (.var 2) (.con (.int 1))) (.var 3))))]
     [],
   .ret (.mt .join (.con (.str "")) [(.new (.lc [5] (.nm 5) (.rng (.var 2)) none (.ix (.var 1) (.call "_law_draw" [(.var 0), (.bin .add (.con (.int 26)) (.bin .mul (.con (.int 10)) (.bi .int [(.cmp .gt (.var 5) (.con (.int 0)))])))]))))])]⟩
def D__law_name : Dd := ⟨"_law_name", top 32, ["_law_tape_here", "_law_letters", "_law_size", "_law_place", "_law_sign", "_law_k"], F__law_name, [], [], none⟩
def B__law_fresh_0 : List S :=
  [.ife (.cmp .notin (.bin .add (.sl (.var 2) none (some (.con (.int 11)))) (.var 3)) (.var 1))
     [.ret (.bin .add (.sl (.var 2) none (some (.con (.int 11)))) (.var 3))]
     []]
def F__law_fresh : Fn := ⟨2, 4, [], 0,
  [.asg (.nm 2) (.call "_law_name" [(.var 0)]),
   .ife (.cmp .notin (.var 2) (.var 1))
     [.ret (.var 2)]
     [],
   .for_ (.nm 3) (.v (.con (.str "abcdefghijklmnopqrstuvwxyz0123456789"))) B__law_fresh_0,
   .ret (.var 2)]⟩
def D__law_fresh : Dd := ⟨"_law_fresh", top 33, ["_law_tape_here", "_law_taken", "_law_name_here", "_law_letter"], F__law_fresh, [], [], none⟩
def B__law_columns_0 : List S :=
  [.app (.var 6) (.ixl (.lst [(.con (.str "number")), (.con (.str "word")), (.con (.str "flag"))]) (.call "_law_draw" [(.var 0), (.con (.int 3))]))]
def B__law_columns_1 : List S :=
  [.app (.var 4) (.call "_law_fresh" [(.var 0), (.var 4)]),
   .app (.var 5) (.tup [(.ix (.var 4) (.neg (.con (.int 1)))), (.var 8)])]
def F__law_columns : Fn := ⟨4, 9, [], 0,
  [.asg (.nm 4) (.new (.of (.var 3))),
   .asg (.nm 5) (.new (.lst [])),
   .asg (.nm 6) (.new (.of (.var 1))),
   .for_ (.nm 7) (.rng (.call "_law_draw" [(.var 0), (.bin .add (.var 2) (.con (.int 1)))])) B__law_columns_0,
   .for_ (.nm 8) (.v (.var 6)) B__law_columns_1,
   .ret (.tupo (.var 5))]⟩
def D__law_columns : Dd := ⟨"_law_columns", top 34, ["_law_tape_here", "_law_lead", "_law_many", "_law_taken", "_law_names", "_law_columns_here", "_law_kinds", "_law_k", "_law_kind"], F__law_columns, [], [], none⟩
def F__law_leaf : Fn := ⟨3, 6, [], 0,
  [.asg (.nm 3) (.new (.lc [4, 5] (.tp [(.nm 4), (.nm 5)]) (.v (.var 1)) (some (.cmp .eq (.var 5) (.var 2))) (.var 4))),
   .ife (.and (.var 3) (.cmp .gt (.call "_law_draw" [(.var 0), (.con (.int 4))]) (.con (.int 0))))
     [.ret (.tup [(.con (.str "column")), (.ix (.var 3) (.call "_law_draw" [(.var 0), (.bi .len [(.var 3)])]))])]
     [],
   .ife (.cmp .eq (.var 2) (.con (.str "number")))
     [.ret (.tup [(.con (.str "value")), (.call "_law_rational" [(.var 0), (.con (.bl false))])])]
     [],
   .ife (.cmp .eq (.var 2) (.con (.str "flag")))
     [.ret (.tup [(.con (.str "value")), (.cmp .eq (.call "_law_draw" [(.var 0), (.con (.int 2))]) (.con (.int 1)))])]
     [],
   .ret (.tup [(.con (.str "value")), (.ixl (.lst [(.con (.str "a")), (.con (.str "b")), (.con (.str "ab")), (.con (.str "b0"))]) (.call "_law_draw" [(.var 0), (.con (.int 4))]))])]⟩
def D__law_leaf : Dd := ⟨"_law_leaf", top 35, ["_law_tape_here", "_law_columns_here", "_law_kind", "_law_same", "_law_name_here", "_law_other"], F__law_leaf, [], [], none⟩
def F__law_expression : Fn := ⟨4, 10, [], 0,
  [.asg (.nm 4) (.call "_law_draw" [(.var 0), (.con (.int 9))]),
   .asg (.nm 5) (.bin .sub (.var 3) (.con (.int 1))),
   .ife (.or (.cmp .le (.var 3) (.con (.int 1))) (.cmp .lt (.var 4) (.con (.int 2))))
     [.ret (.call "_law_leaf" [(.var 0), (.var 1), (.var 2)])]
     [],
   .ife (.cmp .eq (.var 4) (.con (.int 2)))
     [.asg (.nm 6) (.call "_law_expression" [(.var 0), (.var 1), (.con (.str "flag")), (.var 5)]),
      .asg (.nm 7) (.call "_law_expression" [(.var 0), (.var 1), (.var 2), (.var 5)]),
      .ret (.tup [(.con (.str "if")), (.var 6), (.var 7), (.call "_law_expression" [(.var 0), (.var 1), (.var 2), (.var 5)])])]
     [],
   .ife (.cmp .eq (.var 2) (.con (.str "word")))
     [.ret (.call "_law_leaf" [(.var 0), (.var 1), (.var 2)])]
     [],
   .ife (.cmp .eq (.var 2) (.con (.str "number")))
     [.asg (.nm 8) (.ixl (.lst [(.con (.str "plus")), (.con (.str "minus")), (.con (.str "times")), (.con (.str "over"))]) (.call "_law_draw" [(.var 0), (.con (.int 4))])),
      .asg (.nm 7) (.call "_law_expression" [(.var 0), (.var 1), (.con (.str "number")), (.var 5)]),
      .ret (.tup [(.var 8), (.var 7), (.call "_law_expression" [(.var 0), (.var 1), (.con (.str "number")), (.var 5)])])]
     [],
   .ife (.cmp .eq (.var 4) (.con (.int 3)))
     [.ret (.tup [(.con (.str "not")), (.call "_law_expression" [(.var 0), (.var 1), (.con (.str "flag")), (.var 5)])])]
     [],
   .asg (.nm 9) (.ixl (.lst [(.con (.str "number")), (.con (.str "word")), (.con (.str "flag"))]) (.call "_law_draw" [(.var 0), (.con (.int 3))])),
   .ife (.cmp .eq (.var 4) (.con (.int 4)))
     [.ret (.tup [(.con (.str "missing")), (.call "_law_expression" [(.var 0), (.var 1), (.var 9), (.var 5)])])]
     [],
   .ife (.cmp .eq (.var 4) (.con (.int 5)))
     [.asg (.nm 7) (.call "_law_expression" [(.var 0), (.var 1), (.var 9), (.var 5)]),
      .ret (.tup [(.con (.str "same")), (.var 7), (.call "_law_expression" [(.var 0), (.var 1), (.var 9), (.var 5)])])]
     [],
   .ife (.cmp .lt (.var 4) (.con (.int 8)))
     [.asg (.nm 7) (.call "_law_expression" [(.var 0), (.var 1), (.con (.str "number")), (.var 5)]),
      .ret (.tup [(.con (.str "less")), (.var 7), (.call "_law_expression" [(.var 0), (.var 1), (.con (.str "number")), (.var 5)])])]
     [],
   .asg (.nm 8) (.ixl (.lst [(.con (.str "both")), (.con (.str "either"))]) (.call "_law_draw" [(.var 0), (.con (.int 2))])),
   .asg (.nm 7) (.call "_law_expression" [(.var 0), (.var 1), (.con (.str "flag")), (.var 5)]),
   .ret (.tup [(.var 8), (.var 7), (.call "_law_expression" [(.var 0), (.var 1), (.con (.str "flag")), (.var 5)])])]⟩
def D__law_expression : Dd := ⟨"_law_expression", top 36, ["_law_tape_here", "_law_columns_here", "_law_kind", "_law_depth", "_law_turn", "_law_low", "_law_test", "_law_left", "_law_word", "_law_some"], F__law_expression, [], [], none⟩
def F__law_value_words : Fn := ⟨1, 1, [], 0,
  [.ife (.isi (.var 0) .bool)
     [.ret (.ixl (.lst [(.con (.str "#no")), (.con (.str "#yes"))]) (.bi .int [(.var 0)]))]
     [],
   .ife (.isi (.var 0) .str)
     [.ret (.bin .add (.con (.str "'")) (.var 0))]
     [],
   .ret (.ife (.cmp .eq (.ix (.var 0) (.con (.int 1))) (.con (.int 1))) (.bi .str [(.ix (.var 0) (.con (.int 0)))]) (.bin .add (.bin .add (.bi .str [(.ix (.var 0) (.con (.int 0)))]) (.con (.str "/"))) (.bi .str [(.ix (.var 0) (.con (.int 1)))])))]⟩
def D__law_value_words : Dd := ⟨"_law_value_words", top 37, ["_law_thing"], F__law_value_words, [], [], none⟩
def F__law_form : Fn := ⟨1, 2, [], 0,
  [.ife (.cmp .eq (.ix (.var 0) (.con (.int 0))) (.con (.str "column")))
     [.ret (.ix (.var 0) (.con (.int 1)))]
     [],
   .ife (.cmp .eq (.ix (.var 0) (.con (.int 0))) (.con (.str "value")))
     [.ret (.bin .add (.con (.str "=")) (.call "_law_value_words" [(.ix (.var 0) (.con (.int 1)))]))]
     [],
   .ret (.bin .add (.bin .add (.con (.str "(")) (.mt .join (.con (.str " ")) [(.bin .add (.new (.lst [(.ix (.var 0) (.con (.int 0)))])) (.new (.lc [1] (.nm 1) (.v (.sl (.var 0) (some (.con (.int 1))) none)) none (.call "_law_form" [(.var 1)]))))])) (.con (.str ")")))]⟩
def D__law_form : Dd := ⟨"_law_form", top 38, ["_law_expression_here", "_law_operand"], F__law_form, [], [], none⟩
def B__law_deep_0 : List S :=
  [.asg (.nm 5) (.tup [(.con (.str "value")), (.call "_law_rational" [(.var 0), (.con (.bl true))])]),
   .asg (.nm 6) (.tup [(.con (.str "value")), (.call "_law_name" [(.var 0)])]),
   .asg (.nm 7) (.new (.lst [(.tup [(.con (.str "not")), (.var 3)]), (.tup [(.con (.str "either")), (.var 3), (.tup [(.con (.str "same")), (.var 5), (.var 5)])])])),
   .asg (.nm 7) (.bin .add (.var 7) (.new (.lst [(.tup [(.con (.str "if")), (.var 3), (.var 3), (.tup [(.con (.str "value")), (.con (.bl true))])]), (.tup [(.con (.str "both")), (.tup [(.con (.str "same")), (.var 6), (.var 6)]), (.var 3)])]))),
   .asg (.nm 3) (.ix (.var 7) (.call "_law_draw" [(.var 0), (.con (.int 4))]))]
def F__law_deep : Fn := ⟨3, 8, [], 0,
  [.asg (.nm 3) (.call "_law_leaf" [(.var 0), (.var 1), (.con (.str "flag"))]),
   .for_ (.nm 4) (.rng (.bin .sub (.var 2) (.con (.int 1)))) B__law_deep_0,
   .ret (.var 3)]⟩
def D__law_deep : Dd := ⟨"_law_deep", top 39, ["_law_tape_here", "_law_columns_here", "_law_depth", "_law_found", "_law_turn", "_law_number", "_law_word", "_law_more"], F__law_deep, [], [], none⟩
def B_law_0 : List S :=
  [.asg (.nm 7) (.bi .repr [(.var 6)]),
   .asg (.nm 8) (.call "show_expression" [(.var 6)]),
   .ife (.or (.cmp .ne (.var 8) (.call "_law_form" [(.var 6)])) (.or (.cmp .ne (.bi .repr [(.call "read_expression" [(.var 8)])]) (.var 7)) (.cmp .ne (.bi .repr [(.var 6)]) (.var 7))))
     [.ret (.con (.bl false))]
     []]
def B_law_1 : List S :=
  [.asg (.nm 4) (.new (.lc [5] (.nm 5) (.l (.lst [(.con (.str "number")), (.con (.str "word")), (.con (.str "flag"))])) none (.call "_law_expression" [(.var 1), (.var 2), (.var 5), (.con (.int 5))]))),
   .app (.var 4) (.call "_law_deep" [(.var 1), (.var 2), (.bin .add (.con (.int 1)) (.call "_law_draw" [(.var 1), (.con (.int 7))]))]),
   .asg (.nm 4) (.bin .add (.var 4) (.new (.lst [(.tup [(.con (.str "value")), (.call "_law_rational" [(.var 1), (.con (.bl true))])]), (.tup [(.con (.str "value")), (.call "_law_name" [(.var 1)])])]))),
   .app (.var 4) (.tup [(.con (.str "column")), (.call "_law_name" [(.var 1)])]),
   .for_ (.nm 6) (.v (.var 4)) B_law_0]
def F_law : Fn := ⟨1, 10, [], 0,
  [.asg (.nm 1) (.call "_law_tape" [(.var 0)]),
   .asg (.nm 2) (.call "_law_columns" [(.var 1), (.tup [(.con (.str "number"))]), (.con (.int 6)), (.tup [])]),
   .for_ (.nm 3) (.rng (.con (.int 6))) B_law_1,
   .asg (.nm 9) (.tup [(.con (.str "plus")), (.tup [(.con (.str "column")), (.con (.str "a"))]), (.tup [(.con (.str "value")), (.tup [(.con (.int 1)), (.con (.int 2))])])]),
   .ret (.cmp .eq (.call "show_expression" [(.tup [(.con (.str "less")), (.var 9), (.tup [(.con (.str "value")), (.tup [(.neg (.con (.int 3))), (.con (.int 1))])])])]) (.con (.str "(less (plus a =1/2) =-3)")))]⟩
def D_law : Dd := ⟨"law", top 40, ["_law_script", "_law_tape_here", "_law_columns_here", "_law_turn", "_law_some", "_law_kind", "_law_expression_here", "_law_kept", "_law_text", "_law_sum_now"], F_law, [], [], none⟩
def dds : List Dd := [D_show_number, D_show_value, D_show_expression, D_is_integer, D_common_divisor, D_is_rational, D_is_name, D_is_within_limit, D_read_integer, D_read_number, D_read_leaf, D_FormReader____init__, D_FormReader__expect, D_FormReader__token, D_FormReader__form, D_read_expression] ++ [D__law_tape, D__law_draw, D__law_lowest, D__law_rational, D__law_name, D__law_fresh, D__law_columns, D__law_leaf, D__law_expression, D__law_value_words, D__law_form, D__law_deep, D_law]
def kds : List Kd := []
-- KDS []
-- NPL []
def clds : List ClsD := [⟨"FormReader", ["text", "at"], true, [("FormReader", true)]⟩]
-- NAMES ['show_number', 'show_value', 'show_expression', 'is_integer', 'common_divisor', 'is_rational', 'is_name', 'is_within_limit', 'read_integer', 'read_number', 'read_leaf', 'FormReader.__init__', 'FormReader.expect', 'FormReader.token', 'FormReader.form', 'read_expression', '_law_tape', '_law_draw', '_law_lowest', '_law_rational', '_law_name', '_law_fresh', '_law_columns', '_law_leaf', '_law_expression', '_law_value_words', '_law_form', '_law_deep', 'law']

def eds : List ErrD := [
  .own "BadText" "self" ["position"] ⟨("BadText", some "__init__"), "__init__", "BadText.__init__", defArgs (inner 5 0), defBody (inner 5 0), defScope (inner 5 0), [], []⟩]
def sds : List SubD := []
def cds : List (Str × Cs) := [("LETTERS", .c (.str "abcdefghijklmnopqrstuvwxyz")),
  ("SIGNS", .c (.str "abcdefghijklmnopqrstuvwxyz0123456789")),
  ("LIMIT", .c (.int 10000000000000000000000000000000000000000)),
  ("MOST_NAME", .c (.int 12)),
  ("MOST_DEPTH", .c (.int 8)),
  ("OPERANDS", .d [("plus", .tup [.str "number", .str "number"]), ("minus", .tup [.str "number", .str "number"]), ("times", .tup [.str "number", .str "number"]), ("over", .tup [.str "number", .str "number"]), ("less", .tup [.str "number", .str "number"]), ("same", .tup [.str "any", .str "alike"]), ("both", .tup [.str "flag", .str "flag"]), ("either", .tup [.str "flag", .str "flag"]), ("not", .tup [.str "flag"]), ("missing", .tup [.str "any"]), ("if", .tup [.str "flag", .str "any", .str "alike"])]),
  ("DIGITS", .c (.str "0123456789")),
  ("MOST_DIGITS", .c (.int 41))]
def txt : Txt := ⟨dds, eds, sds, cds, kds, clds⟩
abbrev pg : Pg := pgOf txt
theorem tr_show_number : trSs D_show_number.N (defScope D_show_number.st) true 60 (defBody D_show_number.st) = some D_show_number.fn.body := by kernel_rfl
theorem tr_show_value : trSs D_show_value.N (defScope D_show_value.st) true 60 (defBody D_show_value.st) = some D_show_value.fn.body := by kernel_rfl
theorem tr_show_expression : trSs D_show_expression.N (defScope D_show_expression.st) true 60 (defBody D_show_expression.st) = some D_show_expression.fn.body := by kernel_rfl
theorem tr_is_integer : trSs D_is_integer.N (defScope D_is_integer.st) true 60 (defBody D_is_integer.st) = some D_is_integer.fn.body := by kernel_rfl
theorem tr_common_divisor : trSs D_common_divisor.N (defScope D_common_divisor.st) true 60 (defBody D_common_divisor.st) = some D_common_divisor.fn.body := by kernel_rfl
theorem tr_is_rational : trSs D_is_rational.N (defScope D_is_rational.st) true 60 (defBody D_is_rational.st) = some D_is_rational.fn.body := by kernel_rfl
theorem tr_is_name : trSs D_is_name.N (defScope D_is_name.st) true 60 (defBody D_is_name.st) = some D_is_name.fn.body := by kernel_rfl
theorem tr_is_within_limit : trSs D_is_within_limit.N (defScope D_is_within_limit.st) true 60 (defBody D_is_within_limit.st) = some D_is_within_limit.fn.body := by kernel_rfl
theorem tr_read_integer : trSs D_read_integer.N (defScope D_read_integer.st) true 60 (defBody D_read_integer.st) = some D_read_integer.fn.body := by kernel_rfl
theorem tr_read_number : trSs D_read_number.N (defScope D_read_number.st) true 60 (defBody D_read_number.st) = some D_read_number.fn.body := by kernel_rfl
theorem tr_read_leaf : trSs D_read_leaf.N (defScope D_read_leaf.st) true 60 (defBody D_read_leaf.st) = some D_read_leaf.fn.body := by kernel_rfl
theorem tr_FormReader____init__ : trSs D_FormReader____init__.N (defScope D_FormReader____init__.st) true 60 (defBody D_FormReader____init__.st) = some D_FormReader____init__.fn.body := by kernel_rfl
theorem tr_FormReader__expect : trSs D_FormReader__expect.N (defScope D_FormReader__expect.st) true 60 (defBody D_FormReader__expect.st) = some D_FormReader__expect.fn.body := by kernel_rfl
theorem tr_FormReader__token : trSs D_FormReader__token.N (defScope D_FormReader__token.st) true 60 (defBody D_FormReader__token.st) = some D_FormReader__token.fn.body := by kernel_rfl
theorem tr_FormReader__form : trSs D_FormReader__form.N (defScope D_FormReader__form.st) true 60 (defBody D_FormReader__form.st) = some D_FormReader__form.fn.body := by kernel_rfl
theorem tr_read_expression : trSs D_read_expression.N (defScope D_read_expression.st) true 60 (defBody D_read_expression.st) = some D_read_expression.fn.body := by kernel_rfl
theorem tr__law_tape : trSs D__law_tape.N (defScope D__law_tape.st) true 60 (defBody D__law_tape.st) = some D__law_tape.fn.body := by kernel_rfl
theorem tr__law_draw : trSs D__law_draw.N (defScope D__law_draw.st) true 60 (defBody D__law_draw.st) = some D__law_draw.fn.body := by kernel_rfl
theorem tr__law_lowest : trSs D__law_lowest.N (defScope D__law_lowest.st) true 60 (defBody D__law_lowest.st) = some D__law_lowest.fn.body := by kernel_rfl
theorem tr__law_rational : trSs D__law_rational.N (defScope D__law_rational.st) true 60 (defBody D__law_rational.st) = some D__law_rational.fn.body := by kernel_rfl
theorem tr__law_name : trSs D__law_name.N (defScope D__law_name.st) true 60 (defBody D__law_name.st) = some D__law_name.fn.body := by kernel_rfl
theorem tr__law_fresh : trSs D__law_fresh.N (defScope D__law_fresh.st) true 60 (defBody D__law_fresh.st) = some D__law_fresh.fn.body := by kernel_rfl
theorem tr__law_columns : trSs D__law_columns.N (defScope D__law_columns.st) true 60 (defBody D__law_columns.st) = some D__law_columns.fn.body := by kernel_rfl
theorem tr__law_leaf : trSs D__law_leaf.N (defScope D__law_leaf.st) true 60 (defBody D__law_leaf.st) = some D__law_leaf.fn.body := by kernel_rfl
theorem tr__law_expression : trSs D__law_expression.N (defScope D__law_expression.st) true 60 (defBody D__law_expression.st) = some D__law_expression.fn.body := by kernel_rfl
theorem tr__law_value_words : trSs D__law_value_words.N (defScope D__law_value_words.st) true 60 (defBody D__law_value_words.st) = some D__law_value_words.fn.body := by kernel_rfl
theorem tr__law_form : trSs D__law_form.N (defScope D__law_form.st) true 60 (defBody D__law_form.st) = some D__law_form.fn.body := by kernel_rfl
theorem tr__law_deep : trSs D__law_deep.N (defScope D__law_deep.st) true 60 (defBody D__law_deep.st) = some D__law_deep.fn.body := by kernel_rfl
theorem tr_law : trSs D_law.N (defScope D_law.st) true 60 (defBody D_law.st) = some D_law.fn.body := by kernel_rfl
theorem tr_all : txt.tr := by
  intro d hd
  simp only [txt, dds, List.mem_append, List.mem_cons, List.not_mem_nil, or_false, or_assoc] at hd
  rcases hd with rfl | rfl | rfl | rfl | rfl | rfl | rfl | rfl | rfl | rfl | rfl | rfl | rfl | rfl | rfl | rfl | rfl | rfl | rfl | rfl | rfl | rfl | rfl | rfl | rfl | rfl | rfl | rfl | rfl
  · exact ⟨60, tr_show_number⟩
  · exact ⟨60, tr_show_value⟩
  · exact ⟨60, tr_show_expression⟩
  · exact ⟨60, tr_is_integer⟩
  · exact ⟨60, tr_common_divisor⟩
  · exact ⟨60, tr_is_rational⟩
  · exact ⟨60, tr_is_name⟩
  · exact ⟨60, tr_is_within_limit⟩
  · exact ⟨60, tr_read_integer⟩
  · exact ⟨60, tr_read_number⟩
  · exact ⟨60, tr_read_leaf⟩
  · exact ⟨60, tr_FormReader____init__⟩
  · exact ⟨60, tr_FormReader__expect⟩
  · exact ⟨60, tr_FormReader__token⟩
  · exact ⟨60, tr_FormReader__form⟩
  · exact ⟨60, tr_read_expression⟩
  · exact ⟨60, tr__law_tape⟩
  · exact ⟨60, tr__law_draw⟩
  · exact ⟨60, tr__law_lowest⟩
  · exact ⟨60, tr__law_rational⟩
  · exact ⟨60, tr__law_name⟩
  · exact ⟨60, tr__law_fresh⟩
  · exact ⟨60, tr__law_columns⟩
  · exact ⟨60, tr__law_leaf⟩
  · exact ⟨60, tr__law_expression⟩
  · exact ⟨60, tr__law_value_words⟩
  · exact ⟨60, tr__law_form⟩
  · exact ⟨60, tr__law_deep⟩
  · exact ⟨60, tr_law⟩
theorem bnd_all : txt.bnd := by
  constructor
  · intro d hd
    simp only [txt, dds, List.mem_append, List.mem_cons, List.not_mem_nil, or_false, or_assoc] at hd
    rcases hd with rfl | rfl | rfl | rfl | rfl | rfl | rfl | rfl | rfl | rfl | rfl | rfl | rfl | rfl | rfl | rfl | rfl | rfl | rfl | rfl | rfl | rfl | rfl | rfl | rfl | rfl | rfl | rfl | rfl
    · exact .inl (by decide +kernel)
    · exact .inl (by decide +kernel)
    · exact .inl (by decide +kernel)
    · exact .inl (by decide +kernel)
    · exact .inl (by decide +kernel)
    · exact .inl (by decide +kernel)
    · exact .inl (by decide +kernel)
    · exact .inl (by decide +kernel)
    · exact .inl (by decide +kernel)
    · exact .inl (by decide +kernel)
    · exact .inl (by decide +kernel)
    · exact .inl (by decide +kernel)
    · exact .inl (by decide +kernel)
    · exact .inl (by decide +kernel)
    · exact .inl (by decide +kernel)
    · exact .inl (by decide +kernel)
    · exact .inl (by decide +kernel)
    · exact .inl (by decide +kernel)
    · exact .inl (by decide +kernel)
    · exact .inl (by decide +kernel)
    · exact .inl (by decide +kernel)
    · exact .inl (by decide +kernel)
    · exact .inl (by decide +kernel)
    · exact .inl (by decide +kernel)
    · exact .inl (by decide +kernel)
    · exact .inl (by decide +kernel)
    · exact .inl (by decide +kernel)
    · exact .inl (by decide +kernel)
    · exact .inl (by decide +kernel)
  · intro e he
    simp [txt, kds] at he
theorem good_all : txt.good = true := by decide +kernel
abbrev hk : PySem.W.Hook := txt.hook 5
def looseN : List Str := (["show_number", "show_value", "show_expression", "BadText", "is_integer", "common_divisor", "is_rational", "LETTERS", "SIGNS", "LIMIT", "MOST_NAME", "is_name", "is_within_limit", "MOST_DEPTH", "OPERANDS", "DIGITS"] : List Str) ++ (["MOST_DIGITS", "read_integer", "read_number", "read_leaf", "FormReader", "read_expression", "_law_tape", "_law_draw", "_law_lowest", "_law_rational", "_law_name", "_law_fresh", "_law_columns", "_law_leaf", "_law_expression", "_law_value_words"] : List Str) ++ (["_law_form", "_law_deep"] : List Str)
def ob (s : PySem.W.SharedT) : He.AlX × Bool := obsY 5 txt.fa txt.fn txt.ts [] txt.ex (HandSHeadRun.getT s)
theorem ob_eq (s : PySem.W.SharedT) : ob s = hk.obs s.abs := obsY_eq (HandSHeadRun.getT_eq s)
theorem topRun0 (w : World) : HandSHeadRun.RunEq (PySem.W.OpenLaw.row PySem.Challenge.rw_liveclaims_k76_forms_of_expressions) (PySem.W.view (PySem.W.OpenLaw.row PySem.Challenge.rw_liveclaims_k76_forms_of_expressions).prog [40]) hk ob 4000 looseN (w.withFollow "special-get-raises" false) := by
  intro os
  kernel_rfl
theorem topRun1 (w : World) : HandSHeadRun.RunEq (PySem.W.OpenLaw.row PySem.Challenge.rw_liveclaims_k76_forms_of_expressions) (PySem.W.view (PySem.W.OpenLaw.row PySem.Challenge.rw_liveclaims_k76_forms_of_expressions).prog [40]) hk ob 4000 looseN (w.withFollow "special-get-raises" true) := by
  intro os
  kernel_rfl
theorem topRun (w : World) : HandSHeadRun.RunEq (PySem.W.OpenLaw.row PySem.Challenge.rw_liveclaims_k76_forms_of_expressions) (PySem.W.view (PySem.W.OpenLaw.row PySem.Challenge.rw_liveclaims_k76_forms_of_expressions).prog [40]) hk ob 4000 looseN w := PySem.W.byRow2 "special-get-raises" (P := fun w => HandSHeadRun.RunEq (PySem.W.OpenLaw.row PySem.Challenge.rw_liveclaims_k76_forms_of_expressions) (PySem.W.view (PySem.W.OpenLaw.row PySem.Challenge.rw_liveclaims_k76_forms_of_expressions).prog [40]) hk ob 4000 looseN w) topRun0 topRun1 w
theorem df_show_number : pg.df "show_number" = some F_show_number := by kernel_rfl
theorem df_show_value : pg.df "show_value" = some F_show_value := by kernel_rfl
theorem df_show_expression : pg.df "show_expression" = some F_show_expression := by kernel_rfl
theorem df_is_integer : pg.df "is_integer" = some F_is_integer := by kernel_rfl
theorem df_common_divisor : pg.df "common_divisor" = some F_common_divisor := by kernel_rfl
theorem df_is_rational : pg.df "is_rational" = some F_is_rational := by kernel_rfl
theorem df_is_name : pg.df "is_name" = some F_is_name := by kernel_rfl
theorem df_is_within_limit : pg.df "is_within_limit" = some F_is_within_limit := by kernel_rfl
theorem df_read_integer : pg.df "read_integer" = some F_read_integer := by kernel_rfl
theorem df_read_number : pg.df "read_number" = some F_read_number := by kernel_rfl
theorem df_read_leaf : pg.df "read_leaf" = some F_read_leaf := by kernel_rfl
theorem df_FormReader____init__ : pg.df "FormReader.__init__" = some F_FormReader____init__ := by kernel_rfl
theorem df_FormReader__expect : pg.df "FormReader.expect" = some F_FormReader__expect := by kernel_rfl
theorem df_FormReader__token : pg.df "FormReader.token" = some F_FormReader__token := by kernel_rfl
theorem df_FormReader__form : pg.df "FormReader.form" = some F_FormReader__form := by kernel_rfl
theorem df_read_expression : pg.df "read_expression" = some F_read_expression := by kernel_rfl
theorem df__law_tape : pg.df "_law_tape" = some F__law_tape := by kernel_rfl
theorem df__law_draw : pg.df "_law_draw" = some F__law_draw := by kernel_rfl
theorem df__law_lowest : pg.df "_law_lowest" = some F__law_lowest := by kernel_rfl
theorem df__law_rational : pg.df "_law_rational" = some F__law_rational := by kernel_rfl
theorem df__law_name : pg.df "_law_name" = some F__law_name := by kernel_rfl
theorem df__law_fresh : pg.df "_law_fresh" = some F__law_fresh := by kernel_rfl
theorem df__law_columns : pg.df "_law_columns" = some F__law_columns := by kernel_rfl
theorem df__law_leaf : pg.df "_law_leaf" = some F__law_leaf := by kernel_rfl
theorem df__law_expression : pg.df "_law_expression" = some F__law_expression := by kernel_rfl
theorem df__law_value_words : pg.df "_law_value_words" = some F__law_value_words := by kernel_rfl
theorem df__law_form : pg.df "_law_form" = some F__law_form := by kernel_rfl
theorem df__law_deep : pg.df "_law_deep" = some F__law_deep := by kernel_rfl
theorem df_law : pg.df "law" = some F_law := by kernel_rfl
theorem errs_all : ∀ e ∈ txt.errs, e.base := by
  intro e he
  simp only [txt, eds, List.mem_cons, List.not_mem_nil, or_false] at he
  rcases he with rfl
  · exact trivial
theorem top_name : (HandSHeadRun.topDef (PySem.W.OpenLaw.row PySem.Challenge.rw_liveclaims_k76_forms_of_expressions).prog 40).name = D_law.name := by kernel_rfl
/-- the law, by the machine's run -/
theorem law_of (dep : Nat) (hd : dep ≤ 100) (run : ∀ ns : List Int, ns.length ≤ 63 → (∀ k ∈ ns, Builtin.Int.intBits k ≤ 1048576) → ∃ h', callF pg (dep + 1) D_law.name [.rol (ns.map M.int)] [] = some (.ok (.bl true) h')) : PySem.Challenge.rw_liveclaims_k76_forms_of_expressions.Holds := by
  w_on; o_law
  refine HandSHeadRun.head_any (r := (PySem.W.OpenLaw.row PySem.Challenge.rw_liveclaims_k76_forms_of_expressions)) (q := PySem.W.view (PySem.W.OpenLaw.row PySem.Challenge.rw_liveclaims_k76_forms_of_expressions).prog [40]) (H := hk) (ob := ob) (M := 4000) (loose := looseN) (d := HandSHeadRun.topDef (PySem.W.OpenLaw.row PySem.Challenge.rw_liveclaims_k76_forms_of_expressions).prog 40) (kwd := []) ob_eq
    (by kernel_rfl) (fun s => by kernel_rfl) topRun (by kernel_rfl) (by kernel_rfl) (by kernel_rfl) (by rfl) (by first | assumption | decide +kernel) (by decide +kernel) ⟨rfl, rfl, rfl, rfl, rfl, by decide +kernel⟩ ?hw ?hc
  case hw => w_witness2
  case hc => exact walk_mp (T := txt) (n := 63) (dep := dep) (m := 5) (D := D_law) rfl (by decide) (by kernel_rfl) ⟨rfl, by show 1 + 300 + 3 * (2 * (dep + 1) + 3) + 5 < 1000; omega, by show 4 + 16 * (2 * (dep + 1) + 3) + 200 < 9900; omega⟩ good_all tr_all errs_all bnd_all (by simp [txt, dds]) rfl top_name df_law run
@[simp] theorem fn_show_number : pg.fns "show_number" = true := by kernel_rfl
@[simp] theorem fn_show_value : pg.fns "show_value" = true := by kernel_rfl
@[simp] theorem fn_show_expression : pg.fns "show_expression" = true := by kernel_rfl
@[simp] theorem fn_is_integer : pg.fns "is_integer" = true := by kernel_rfl
@[simp] theorem fn_common_divisor : pg.fns "common_divisor" = true := by kernel_rfl
@[simp] theorem fn_is_rational : pg.fns "is_rational" = true := by kernel_rfl
@[simp] theorem fn_is_name : pg.fns "is_name" = true := by kernel_rfl
@[simp] theorem fn_is_within_limit : pg.fns "is_within_limit" = true := by kernel_rfl
@[simp] theorem fn_read_integer : pg.fns "read_integer" = true := by kernel_rfl
@[simp] theorem fn_read_number : pg.fns "read_number" = true := by kernel_rfl
@[simp] theorem fn_read_leaf : pg.fns "read_leaf" = true := by kernel_rfl
@[simp] theorem mth_FormReader____init__ : pg.mth "FormReader" "__init__" [] = some "FormReader.__init__" := by kernel_rfl
@[simp] theorem mth_FormReader__expect : pg.mth "FormReader" "expect" [] = some "FormReader.expect" := by kernel_rfl
@[simp] theorem mth_FormReader__token : pg.mth "FormReader" "token" [] = some "FormReader.token" := by kernel_rfl
@[simp] theorem mth_FormReader__form : pg.mth "FormReader" "form" [] = some "FormReader.form" := by kernel_rfl
@[simp] theorem fn_read_expression : pg.fns "read_expression" = true := by kernel_rfl
@[simp] theorem fn__law_tape : pg.fns "_law_tape" = true := by kernel_rfl
@[simp] theorem fn__law_draw : pg.fns "_law_draw" = true := by kernel_rfl
@[simp] theorem fn__law_lowest : pg.fns "_law_lowest" = true := by kernel_rfl
@[simp] theorem fn__law_rational : pg.fns "_law_rational" = true := by kernel_rfl
@[simp] theorem fn__law_name : pg.fns "_law_name" = true := by kernel_rfl
@[simp] theorem fn__law_fresh : pg.fns "_law_fresh" = true := by kernel_rfl
@[simp] theorem fn__law_columns : pg.fns "_law_columns" = true := by kernel_rfl
@[simp] theorem fn__law_leaf : pg.fns "_law_leaf" = true := by kernel_rfl
@[simp] theorem fn__law_expression : pg.fns "_law_expression" = true := by kernel_rfl
@[simp] theorem fn__law_value_words : pg.fns "_law_value_words" = true := by kernel_rfl
@[simp] theorem fn__law_form : pg.fns "_law_form" = true := by kernel_rfl
@[simp] theorem fn__law_deep : pg.fns "_law_deep" = true := by kernel_rfl
@[simp] theorem fn_law : pg.fns "law" = true := by kernel_rfl
@[simp] theorem con_LETTERS : pg.con "LETTERS" = some (.str "abcdefghijklmnopqrstuvwxyz") := by kernel_rfl
@[simp] theorem con_SIGNS : pg.con "SIGNS" = some (.str "abcdefghijklmnopqrstuvwxyz0123456789") := by kernel_rfl
@[simp] theorem con_LIMIT : pg.con "LIMIT" = some (.int 10000000000000000000000000000000000000000) := by kernel_rfl
@[simp] theorem con_MOST_NAME : pg.con "MOST_NAME" = some (.int 12) := by kernel_rfl
@[simp] theorem con_MOST_DEPTH : pg.con "MOST_DEPTH" = some (.int 8) := by kernel_rfl
@[simp] theorem con_OPERANDS : pg.con "OPERANDS" = some (.rod [("plus", .tup [.str "number", .str "number"]), ("minus", .tup [.str "number", .str "number"]), ("times", .tup [.str "number", .str "number"]), ("over", .tup [.str "number", .str "number"]), ("less", .tup [.str "number", .str "number"]), ("same", .tup [.str "any", .str "alike"]), ("both", .tup [.str "flag", .str "flag"]), ("either", .tup [.str "flag", .str "flag"]), ("not", .tup [.str "flag"]), ("missing", .tup [.str "any"]), ("if", .tup [.str "flag", .str "any", .str "alike"])]) := by kernel_rfl
@[simp] theorem con_DIGITS : pg.con "DIGITS" = some (.str "0123456789") := by kernel_rfl
@[simp] theorem con_MOST_DIGITS : pg.con "MOST_DIGITS" = some (.int 41) := by kernel_rfl
@[simp] theorem fld_FormReader_text : pg.fld "FormReader" "text" = true := by kernel_rfl
@[simp] theorem fld_FormReader_at : pg.fld "FormReader" "at" = true := by kernel_rfl
@[simp] theorem mak_FormReader : pg.mak "FormReader" = some "FormReader.__init__" := by kernel_rfl
@[simp] theorem nfn_FormReader : pg.fns "FormReader" = false := by kernel_rfl
@[simp] theorem isc_FormReader_FormReader : pg.isc "FormReader" "FormReader" = some true := by kernel_rfl
@[simp] theorem err_BadText : pg.err "BadText" = some (["position"] : List Str) := by kernel_rfl
theorem eq_show_number {d : Nat} {h : Hm} {a0 : M} : callF pg (d + 1) "show_number" [a0] h = outOf h (exSs pg.toTx (callF pg d) F_show_number.body [some a0] h) := by
  rw [callF_eq df_show_number rfl rfl (by decide)]
  rfl
theorem eq_show_value {d : Nat} {h : Hm} {a0 : M} : callF pg (d + 1) "show_value" [a0] h = outOf h (exSs pg.toTx (callF pg d) F_show_value.body [some a0] h) := by
  rw [callF_eq df_show_value rfl rfl (by decide)]
  rfl
theorem eq_show_expression {d : Nat} {h : Hm} {a0 : M} : callF pg (d + 1) "show_expression" [a0] h = outOf h (exSs pg.toTx (callF pg d) F_show_expression.body [some a0, none] h) := by
  rw [callF_eq df_show_expression rfl rfl (by decide)]
  rfl
theorem eq_is_integer {d : Nat} {h : Hm} {a0 : M} : callF pg (d + 1) "is_integer" [a0] h = outOf h (exSs pg.toTx (callF pg d) F_is_integer.body [some a0] h) := by
  rw [callF_eq df_is_integer rfl rfl (by decide)]
  rfl
theorem eq_common_divisor {d : Nat} {h : Hm} {a0 a1 : M} : callF pg (d + 1) "common_divisor" [a0, a1] h = outOf h (exSs pg.toTx (callF pg d) F_common_divisor.body [some a0, some a1] h) := by
  rw [callF_eq df_common_divisor rfl rfl (by decide)]
  rfl
theorem eq_is_rational {d : Nat} {h : Hm} {a0 : M} : callF pg (d + 1) "is_rational" [a0] h = outOf h (exSs pg.toTx (callF pg d) F_is_rational.body [some a0] h) := by
  rw [callF_eq df_is_rational rfl rfl (by decide)]
  rfl
theorem eq_is_name {d : Nat} {h : Hm} {a0 : M} : callF pg (d + 1) "is_name" [a0] h = outOf h (exSs pg.toTx (callF pg d) F_is_name.body [some a0, none] h) := by
  rw [callF_eq df_is_name rfl rfl (by decide)]
  rfl
theorem eq_is_within_limit {d : Nat} {h : Hm} {a0 : M} : callF pg (d + 1) "is_within_limit" [a0] h = outOf h (exSs pg.toTx (callF pg d) F_is_within_limit.body [some a0] h) := by
  rw [callF_eq df_is_within_limit rfl rfl (by decide)]
  rfl
theorem eq_read_integer {d : Nat} {h : Hm} {a0 : M} : callF pg (d + 1) "read_integer" [a0] h = outOf h (exSs pg.toTx (callF pg d) F_read_integer.body [some a0, none] h) := by
  rw [callF_eq df_read_integer rfl rfl (by decide)]
  rfl
theorem eq_read_number {d : Nat} {h : Hm} {a0 : M} : callF pg (d + 1) "read_number" [a0] h = outOf h (exSs pg.toTx (callF pg d) F_read_number.body [some a0, none, none, none, none, none, none] h) := by
  rw [callF_eq df_read_number rfl rfl (by decide)]
  rfl
theorem eq_read_leaf {d : Nat} {h : Hm} {a0 : M} : callF pg (d + 1) "read_leaf" [a0] h = outOf h (exSs pg.toTx (callF pg d) F_read_leaf.body [some a0, none] h) := by
  rw [callF_eq df_read_leaf rfl rfl (by decide)]
  rfl
theorem eq_FormReader____init__ {d : Nat} {h : Hm} {a0 a1 : M} : callF pg (d + 1) "FormReader.__init__" [a0, a1] h = outOf h (exSs pg.toTx (callF pg d) F_FormReader____init__.body [some a0, some a1] h) := by
  rw [callF_eq df_FormReader____init__ rfl rfl (by decide)]
  rfl
theorem eq_FormReader__expect {d : Nat} {h : Hm} {a0 a1 : M} : callF pg (d + 1) "FormReader.expect" [a0, a1] h = outOf h (exSs pg.toTx (callF pg d) F_FormReader__expect.body [some a0, some a1] h) := by
  rw [callF_eq df_FormReader__expect rfl rfl (by decide)]
  rfl
theorem eq_FormReader__token {d : Nat} {h : Hm} {a0 : M} : callF pg (d + 1) "FormReader.token" [a0] h = outOf h (exSs pg.toTx (callF pg d) F_FormReader__token.body [some a0, none] h) := by
  rw [callF_eq df_FormReader__token rfl rfl (by decide)]
  rfl
theorem eq_FormReader__form {d : Nat} {h : Hm} {a0 a1 : M} : callF pg (d + 1) "FormReader.form" [a0, a1] h = outOf h (exSs pg.toTx (callF pg d) F_FormReader__form.body [some a0, some a1, none, none, none, none, none, none] h) := by
  rw [callF_eq df_FormReader__form rfl rfl (by decide)]
  rfl
theorem eq_read_expression {d : Nat} {h : Hm} {a0 : M} : callF pg (d + 1) "read_expression" [a0] h = outOf h (exSs pg.toTx (callF pg d) F_read_expression.body [some a0, none, none] h) := by
  rw [callF_eq df_read_expression rfl rfl (by decide)]
  rfl
theorem eq__law_tape {d : Nat} {h : Hm} {a0 : M} : callF pg (d + 1) "_law_tape" [a0] h = outOf h (exSs pg.toTx (callF pg d) F__law_tape.body [some a0] h) := by
  rw [callF_eq df__law_tape rfl rfl (by decide)]
  rfl
theorem eq__law_draw {d : Nat} {h : Hm} {a0 a1 : M} : callF pg (d + 1) "_law_draw" [a0, a1] h = outOf h (exSs pg.toTx (callF pg d) F__law_draw.body [some a0, some a1, none, none, none] h) := by
  rw [callF_eq df__law_draw rfl rfl (by decide)]
  rfl
theorem eq__law_lowest {d : Nat} {h : Hm} {a0 a1 : M} : callF pg (d + 1) "_law_lowest" [a0, a1] h = outOf h (exSs pg.toTx (callF pg d) F__law_lowest.body [some a0, some a1, none, none, none] h) := by
  rw [callF_eq df__law_lowest rfl rfl (by decide)]
  rfl
theorem eq__law_rational {d : Nat} {h : Hm} {a0 a1 : M} : callF pg (d + 1) "_law_rational" [a0, a1] h = outOf h (exSs pg.toTx (callF pg d) F__law_rational.body [some a0, some a1, none, none, none] h) := by
  rw [callF_eq df__law_rational rfl rfl (by decide)]
  rfl
theorem eq__law_name {d : Nat} {h : Hm} {a0 : M} : callF pg (d + 1) "_law_name" [a0] h = outOf h (exSs pg.toTx (callF pg d) F__law_name.body [some a0, none, none, none, none, none] h) := by
  rw [callF_eq df__law_name rfl rfl (by decide)]
  rfl
theorem eq__law_fresh {d : Nat} {h : Hm} {a0 a1 : M} : callF pg (d + 1) "_law_fresh" [a0, a1] h = outOf h (exSs pg.toTx (callF pg d) F__law_fresh.body [some a0, some a1, none, none] h) := by
  rw [callF_eq df__law_fresh rfl rfl (by decide)]
  rfl
theorem eq__law_columns {d : Nat} {h : Hm} {a0 a1 a2 a3 : M} : callF pg (d + 1) "_law_columns" [a0, a1, a2, a3] h = outOf h (exSs pg.toTx (callF pg d) F__law_columns.body [some a0, some a1, some a2, some a3, none, none, none, none, none] h) := by
  rw [callF_eq df__law_columns rfl rfl (by decide)]
  rfl
theorem eq__law_leaf {d : Nat} {h : Hm} {a0 a1 a2 : M} : callF pg (d + 1) "_law_leaf" [a0, a1, a2] h = outOf h (exSs pg.toTx (callF pg d) F__law_leaf.body [some a0, some a1, some a2, none, none, none] h) := by
  rw [callF_eq df__law_leaf rfl rfl (by decide)]
  rfl
theorem eq__law_expression {d : Nat} {h : Hm} {a0 a1 a2 a3 : M} : callF pg (d + 1) "_law_expression" [a0, a1, a2, a3] h = outOf h (exSs pg.toTx (callF pg d) F__law_expression.body [some a0, some a1, some a2, some a3, none, none, none, none, none, none] h) := by
  rw [callF_eq df__law_expression rfl rfl (by decide)]
  rfl
theorem eq__law_value_words {d : Nat} {h : Hm} {a0 : M} : callF pg (d + 1) "_law_value_words" [a0] h = outOf h (exSs pg.toTx (callF pg d) F__law_value_words.body [some a0] h) := by
  rw [callF_eq df__law_value_words rfl rfl (by decide)]
  rfl
theorem eq__law_form {d : Nat} {h : Hm} {a0 : M} : callF pg (d + 1) "_law_form" [a0] h = outOf h (exSs pg.toTx (callF pg d) F__law_form.body [some a0, none] h) := by
  rw [callF_eq df__law_form rfl rfl (by decide)]
  rfl
theorem eq__law_deep {d : Nat} {h : Hm} {a0 a1 a2 : M} : callF pg (d + 1) "_law_deep" [a0, a1, a2] h = outOf h (exSs pg.toTx (callF pg d) F__law_deep.body [some a0, some a1, some a2, none, none, none, none, none] h) := by
  rw [callF_eq df__law_deep rfl rfl (by decide)]
  rfl
theorem eq_law {d : Nat} {h : Hm} {a0 : M} : callF pg (d + 1) "law" [a0] h = outOf h (exSs pg.toTx (callF pg d) F_law.body [some a0, none, none, none, none, none, none, none, none, none] h) := by
  rw [callF_eq df_law rfl rfl (by decide)]
  rfl
instance libV0 : LibV0 pg := ⟨⟨⟨df_is_integer, fn_is_integer⟩, ⟨df_common_divisor, fn_common_divisor⟩, ⟨df_is_rational, fn_is_rational⟩⟩, ⟨df_is_within_limit, fn_is_within_limit⟩, ⟨df_is_name, fn_is_name⟩, con_LETTERS, con_SIGNS, con_LIMIT, con_MOST_NAME⟩
theorem draws : Draws pg := draws2 ⟨df__law_draw, fn__law_draw⟩
instance libN : LibN pg := ⟨draws, fn__law_draw, ⟨df__law_name, fn__law_name⟩, ⟨df__law_fresh, fn__law_fresh⟩⟩
end MP
namespace MP
open PySem
/-! ### names are names -/
theorem low_occ : ∀ c : Nat, c < 123 → lowC c = true → occ LT26 (SX.S [c]) = true := by decide +kernel
theorem sgn_occ : ∀ c : Nat, c < 123 → sgnC c = true → occ SG (SX.S [c]) = true := by decide +kernel
theorem sgn_lt {c : Nat} (h : sgnC c = true) : c < 123 := by
  unfold sgnC lowC at h
  simp at h
  omega
theorem low_lt {c : Nat} (h : lowC c = true) : c < 123 := by
  unfold lowC at h
  simp at h
  omega
theorem NameL.isNm {l : List Nat} (n : NameL l) : MP.isNm l = true := by
  cases l with
  | nil => exact absurd rfl n.ne
  | cons c r =>
    have h1 := n.hd c rfl
    simp only [MP.isNm, decide_eq_true n.len, low_occ c (low_lt h1) h1, Bool.true_and]
    exact List.all_eq_true.mpr fun x hx => sgn_occ x (sgn_lt (n.al x hx)) (n.al x hx)
/-! ### numbers as texts -/
def intL (i : Int) : List Nat := if i < 0 then 45 :: TL.numL i.natAbs else TL.numL i.natAbs
theorem ofS_app (a b : String) : Str.ofString (a ++ b) = Str.ofString a ++ Str.ofString b := by
  apply TL.ext_tl
  rw [TL.tl_append]
  show (Str.ofString (a ++ b)).cps.toList = (Str.ofString a).cps.toList ++ (Str.ofString b).cps.toList
  simp [Str.ofString_eq_toList]
theorem str_int (i : Int) : (Str.ofString (toString i)) = SX.S (intL i) := by
  cases i with
  | ofNat n =>
    have e : intL (Int.ofNat n) = TL.numL n := by
      unfold intL
      rw [if_neg (by simp)]
      rfl
    rw [e]
    exact SX.num_S n
  | negSucc n =>
    have e : (toString (Int.negSucc n)) = "-" ++ toString (((n + 1 : Nat)) : Int) := rfl
    rw [e, ofS_app, SX.num_S]
    have m : Str.ofString "-" = SX.S [45] := by decide +kernel
    rw [m, SX.S_cat]
    have h1 : Int.negSucc n < 0 := by omega
    simp [intL, h1]
theorem intL_len {i : Int} {k : Nat} (hk : 0 < k) (h : i.natAbs < 10 ^ k) : (intL i).length ≤ k + 1 := by
  have := TL.numL_len hk h
  unfold intL
  split <;> simp <;> omega
def ratL (p q : Int) : List Nat := if q = 1 then intL p else intL p ++ 47 :: TL.numL q.natAbs
def valL : M → List Nat
  | .bl b => if b = true then [35, 121, 101, 115] else [35, 110, 111]
  | .str x => 39 :: x.cps.toList
  | .tup [.int p, .int q] => ratL p q
  | _ => []
/-- the form, to a depth of n -/
def fmL : Nat → M → List Nat
  | n + 1, .tup (.str s :: es) => if s = "column" then (match es with
      | [.str x] => x.cps.toList
      | _ => []) else if s = "value" then (match es with
      | [v] => 61 :: valL v
      | _ => []) else 40 :: (s.cps.toList ++ ((es.map fun e => 32 :: fmL n e).flatten ++ [41]))
  | _, _ => []
theorem fm_col {n : Nat} {l : List Nat} : fmL (n + 1) (.tup [.str "column", .str (SX.S l)]) = l := by simp [fmL, tl_S]
theorem fm_val {n : Nat} {v : M} : fmL (n + 1) (.tup [.str "value", v]) = 61 :: valL v := by simp [fmL]
def Wk.l : Wk → List Nat := fun w => w.nm.cps.toList
theorem wk_nc (w : Wk) : w.nm ≠ "column" ∧ w.nm ≠ "value" := by cases w <;> simp [Wk.nm]
theorem fm_op {n : Nat} {w : Wk} {es : List M} : fmL (n + 1) (.tup (.str w.nm :: es)) = 40 :: (w.l ++ ((es.map fun e => 32 :: fmL n e).flatten ++ [41])) := by
  simp only [fmL, wk_nc w, if_false, Wk.l]
def Bl : Nat → Nat
  | 0 => 0
  | n + 1 => 3 * Bl n + 130
theorem InL.pow {p q : Int} (x : InL p q) : p.natAbs < 10 ^ 41 ∧ q.natAbs < 10 ^ 41 ∨ q < 0 := by
  have : (10000000000000000000000000000000000000000 : Nat) < 10 ^ 41 := by decide +kernel
  obtain ⟨a, b⟩ := x
  by_cases c : q < 0
  · exact .inr c
  · exact .inl ⟨by omega, by omega⟩
theorem ratL_len {p q : Int} (x : InL p q) (hq : 0 < q) : (ratL p q).length ≤ 90 := by
  rcases x.pow with ⟨a, b⟩ | c
  · have h1 := intL_len (k := 41) (by omega) a
    have h2 := TL.numL_len (k := 41) (by omega) b
    unfold ratL
    split <;> simp <;> omega
  · omega
theorem valL_len {k : Kn} {v : M} (x : Val k v) : (valL v).length ≤ 90 := by
  cases x with
  | num x y => exact ratL_len y x.pos
  | wrd ok nm => have := ok.len; simp [valL, tl_S]; omega
  | @flg b => cases b <;> simp [valL]
theorem wk_len (w : Wk) : w.l.length ≤ 7 := by cases w <;> decide +kernel
theorem fm_len {Q : List Nat → Prop} (hQ : ∀ l, Q l → l.length ≤ 12) {n : Nat} {e : M} (x : Ex Q n e) : (fmL n e).length ≤ Bl n := by
  induction x with
  | col q => rw [fm_col]; have := hQ _ q; simp [Bl]; omega
  | val x => rw [fm_val]; have := valL_len x; simp [Bl]; omega
  | @op n w es hl x ih =>
    rw [fm_op]
    have h3 : es.length ≤ 3 := by rw [hl]; cases w <;> simp [Wk.ar]
    have h7 := wk_len w
    have : ∀ es : List M, (∀ e ∈ es, (fmL n e).length ≤ Bl n) → ((es.map fun e => 32 :: fmL n e).flatten).length ≤ es.length * (Bl n + 1) := by
      intro es he
      induction es with
      | nil => simp
      | cons a b ihb =>
        have h1 := he a (by simp)
        have h2 := ihb fun e hb => he e (by simp [hb])
        simp only [List.map_cons, List.flatten_cons, List.length_append, List.length_cons] at h2 ⊢
        rw [Nat.add_mul]
        omega
    have t := this es ih
    have t2 : es.length * (Bl n + 1) ≤ 3 * (Bl n + 1) := Nat.mul_le_mul_right _ h3
    simp only [List.length_cons, List.length_append, List.length_nil, Bl]
    omega
end MP
namespace MP
open PySem
theorem cut_tail {α : Type} {c : α} {l : List α} : cut (c :: l) (some 1) none = l := by
  unfold cut HT.sIx
  simp
theorem cat_S {h : Hm} {a b : List Nat} (hl : a.length + b.length ≤ 8000000) : binM .add (.str (SX.S a)) (.str (SX.S b)) h = some (.ok (.str (SX.S (a ++ b))) h) := by
  simp only [binM, SX.S_len]
  rw [if_pos (by rw [sz]; omega), SX.S_cat]
theorem log_small {i : Int} (h : i.natAbs < 10 ^ 41) : i.natAbs.log2 < 1920 := by
  have h2 : i.natAbs < 2 ^ 1920 := Nat.lt_of_lt_of_le h (by
    have : (10 : Nat) ^ 41 ≤ 2 ^ 164 := by decide +kernel
    exact Nat.le_trans this (Nat.pow_le_pow_right (by decide) (by decide)))
  by_cases z : i.natAbs = 0
  · rw [z]; decide
  · exact (Nat.log2_lt z).mpr h2
theorem str_rep (i : Int) : Str.ofString i.repr = SX.S (intL i) := by
  have := str_int i
  simpa using this
section
variable {d : Nat} {h : Hm}
theorem show_number_ok {p q : Int} (x : InL p q) (hq : 0 < q) : callF pg (d + 1) "show_number" [rat p q] h = some (.ok (.str (SX.S (ratL p q))) h) := by
  rw [eq_show_number]
  obtain ⟨a, b⟩ : p.natAbs < 10 ^ 41 ∧ q.natAbs < 10 ^ 41 := by
    rcases x.pow with z | z
    · exact z
    · omega
  have la := log_small a
  have lb := log_small b
  have at1 : L2.atI [M.int p, M.int q] 1 = some (.int q) := rfl
  by_cases c : q = 1
  · subst c
    simp [F_show_number, rat, at1, biM, strM, la, str_rep, ratL]
  · have i1 := intL_len (k := 41) (by omega) a
    have i2 := TL.numL_len (k := 41) (by omega) b
    have iq : intL q = TL.numL q.natAbs := by unfold intL; rw [if_neg (by omega)]
    have sl : ("/" : Str) = SX.S [47] := by decide +kernel
    have s0 : Str.empty = SX.S [] := rfl
    have f1 : fmtM (.int p) = some (.str (SX.S (intL p))) := by simp [fmtM, la, str_rep]
    have f2 : fmtM (.int q) = some (.str (SX.S (intL q))) := by simp [fmtM, lb, str_rep]
    have z1 : (Str.empty ++ SX.S (intL p)).length ≤ sizeLine := by rw [s0, SX.S_cat, SX.S_len, sz]; simp; omega
    have z2 : (Str.empty ++ SX.S (intL p) ++ ("/" : Str)).length ≤ sizeLine := by rw [s0, sl, SX.S_cat, SX.S_cat, SX.S_len, sz]; simp; omega
    have z3 : (Str.empty ++ SX.S (intL p) ++ ("/" : Str) ++ SX.S (intL q)).length ≤ sizeLine := by rw [s0, sl, SX.S_cat, SX.S_cat, SX.S_cat, SX.S_len, sz, iq]; simp; omega
    have fin : Str.empty ++ SX.S (intL p) ++ ("/" : Str) ++ SX.S (intL q) = SX.S (ratL p q) := by
      rw [s0, sl, SX.S_cat, SX.S_cat, SX.S_cat, iq]
      simp [ratL, c]
    have zR : (SX.S (ratL p q)).length ≤ sizeLine := by rw [← fin]; exact z3
    generalize SX.S (intL p) = A at *
    generalize SX.S (intL q) = B at *
    generalize SX.S (ratL p q) = R at *
    simp [F_show_number, rat, at1, c, f1, f2, z1, z2, fin, zR]
theorem show_value_ok {k : Kn} {v : M} (x : Val k v) : callF pg (d + 2) "show_value" [v] h = some (.ok (.str (SX.S (valL v))) h) := by
  rw [eq_show_value]
  cases x with
  | num x y =>
    have := show_number_ok (d := d) (h := h) y x.pos
    simp only [rat] at this
    simp [F_show_value, rat, isBM, this, valL]
  | @wrd l ok nm =>
    have q : ("'" : Str) = SX.S [39] := by decide +kernel
    have b : binM .add (.str "'") (.str (SX.S l)) h = some (.ok (.str (SX.S (39 :: l))) h) := by rw [q, cat_S (by have := ok.len; simp; omega)]; rfl
    have e : valL (.str (SX.S l)) = 39 :: l := by simp [valL, tl_S]
    rw [e]
    generalize SX.S l = A at *
    generalize SX.S (39 :: l) = B at *
    simp [F_show_value, isBM, b]
  | @flg b =>
    cases b
    · have e : (("#no" : Str)) = SX.S (valL (.bl false)) := by decide +kernel
      rw [← e]
      simp [F_show_value, isBM]
    · have e : (("#yes" : Str)) = SX.S (valL (.bl true)) := by decide +kernel
      rw [← e]
      simp [F_show_value, isBM]
theorem words_ok {k : Kn} {v : M} (x : Val k v) : callF pg (d + 1) "_law_value_words" [v] h = some (.ok (.str (SX.S (valL v))) h) := by
  rw [eq__law_value_words]
  cases x with
  | @num p q x y =>
    obtain ⟨a, b⟩ : p.natAbs < 10 ^ 41 ∧ q.natAbs < 10 ^ 41 := by
      rcases y.pow with z | z
      · exact z
      · have := x.pos; omega
    have la := log_small a
    have lb := log_small b
    have at1 : L2.atI [M.int p, M.int q] 1 = some (.int q) := rfl
    have i1 := intL_len (k := 41) (by omega) a
    have i2 := TL.numL_len (k := 41) (by omega) b
    have hq := x.pos
    have iq : intL q = TL.numL q.natAbs := by unfold intL; rw [if_neg (by omega)]
    have f1 : strM [.int p] = some (.str (SX.S (intL p))) := by simp [strM, la, str_rep]
    have f2 : strM [.int q] = some (.str (SX.S (intL q))) := by simp [strM, lb, str_rep]
    by_cases c : q = 1
    · have e : valL (rat p q) = intL p := by simp [rat, valL, ratL, c]
      rw [e]
      subst c
      generalize SX.S (intL p) = A at *
      simp [F__law_value_words, rat, at1, biM, f1]
    · have e : valL (rat p q) = intL p ++ [47] ++ intL q := by simp [rat, valL, ratL, c, iq]
      have sl : ("/" : Str) = SX.S [47] := by decide +kernel
      have b1 : binM .add (.str (SX.S (intL p))) (.str "/") h = some (.ok (.str (SX.S (intL p ++ [47]))) h) := by rw [sl, cat_S (by simp; omega)]
      have b2 : binM .add (.str (SX.S (intL p ++ [47]))) (.str (SX.S (intL q))) h = some (.ok (.str (SX.S (intL p ++ [47] ++ intL q))) h) := by rw [cat_S (by rw [iq]; simp; omega)]
      rw [e]
      generalize SX.S (intL p ++ [47] ++ intL q) = D at *
      generalize SX.S (intL p ++ [47]) = E at *
      generalize SX.S (intL p) = A at *
      generalize SX.S (intL q) = B at *
      simp [F__law_value_words, rat, at1, biM, f1, f2, c, b1, b2]
  | @wrd l ok nm =>
    have q : ("'" : Str) = SX.S [39] := by decide +kernel
    have b : binM .add (.str "'") (.str (SX.S l)) h = some (.ok (.str (SX.S (39 :: l))) h) := by rw [q, cat_S (by have := ok.len; simp; omega)]; rfl
    have e : valL (.str (SX.S l)) = 39 :: l := by simp [valL, tl_S]
    rw [e]
    generalize SX.S l = A at *
    generalize SX.S (39 :: l) = B at *
    simp [F__law_value_words, b]
  | @flg b =>
    cases b
    · have e : (("#no" : Str)) = SX.S (valL (.bl false)) := by decide +kernel
      rw [← e]
      simp [F__law_value_words, biM, intM]
    · have e : (("#yes" : Str)) = SX.S (valL (.bl true)) := by decide +kernel
      have at1 : L2.atI [M.str "#no", M.str "#yes"] 1 = some (.str "#yes") := rfl
      rw [← e]
      simp [F__law_value_words, biM, intM, at1]
/-! ### forms -/
theorem joinL_flat {s : Nat} : ∀ (w : List Nat) (ls : List (List Nat)), TL.joinL [s] (w :: ls) = w ++ (ls.map fun l => s :: l).flatten
  | w, [] => by simp [TL.joinL]
  | w, l :: ls => by
    show w ++ ([s] ++ TL.joinL [s] (l :: ls)) = _
    rw [joinL_flat l ls]
    simp
theorem strMs_S : ∀ ls : List (List Nat), strMs (ls.map fun l => M.str (SX.S l)) = some (ls.map SX.S)
  | [] => rfl
  | l :: ls => by simp [strMs, strMs_S ls]
theorem wk_S (w : Wk) : w.nm = SX.S w.l := by simp [Wk.l, SX.S]
theorem sum_len (ls : List (List Nat)) : ((ls.map SX.S).map (·.length)).sum = ls.flatten.length := by
  induction ls with
  | nil => rfl
  | cons l ls ih => simp only [List.map_cons, List.sum_cons, ih, SX.S_len, List.flatten_cons, List.length_append]
/-- " ".join of a list -/
theorem join_ok {a : Nat} {ls : List (List Nat)} (g : h[a]? = some (.lst (ls.map fun l => M.str (SX.S l)))) (hl : ls.flatten.length + ls.length ≤ 8000000) : mtM .join " " [.ref a] h = some (.ok (.str (SX.S (TL.joinL [32] ls))) h) := by
  have s : (" " : Str) = SX.S [32] := by decide +kernel
  simp only [mtM, itemsM, g, strMs_S]
  rw [if_pos (by rw [sum_len, s, SX.S_len, List.length_map]; show _ + _ * 1 ≤ _; omega), s, SX.join_S]
end
end MP
namespace MP
open PySem
theorem Bl_mono {n m : Nat} (h : n ≤ m) : Bl n ≤ Bl m := by
  induction h with
  | refl => exact Nat.le_refl _
  | step _ ih => exact Nat.le_trans ih (by simp [Bl]; omega)
theorem Bl8 : Bl 8 ≤ 2000000 := by decide
theorem forms_len {Q : List Nat → Prop} (hQ : ∀ l, Q l → l.length ≤ 12) {n : Nat} (hn : n + 1 ≤ 8) {w : Wk} {es : List M} (hl : es.length = w.ar) (x : ∀ e ∈ es, Ex Q n e) : (fmL (n + 1) (.tup (.str w.nm :: es))).length ≤ 2000000 := Nat.le_trans (fm_len hQ (.op hl x)) (Nat.le_trans (Bl_mono hn) Bl8)
theorem flat_le {n : Nat} {w : Wk} : ∀ es : List M, ((w.l :: es.map (fmL n)).flatten).length + es.length = w.l.length + ((es.map fun e => 32 :: fmL n e).flatten).length
  | [] => by simp
  | e :: es => by
    have := flat_le (n := n) (w := w) es
    simp only [List.map_cons, List.flatten_cons, List.length_append, List.length_cons] at this ⊢
    omega
section
variable {Q : List Nat → Prop} {d : Nat} {h : Hm}
theorem show_ok (hQ : ∀ l, Q l → l.length ≤ 12) {n : Nat} {e : M} (x : Ex Q n e) : ∀ (d : Nat) (h : Hm), n ≤ 8 → callF pg (d + n + 2) "show_expression" [e] h = some (.ok (.str (SX.S (fmL n e))) h) := by
  induction x with
  | @col n l q =>
    intro d h hn
    have at1 : ∀ a b : M, L2.atI [a, b] 1 = some b := fun _ _ => rfl
    rw [show d + (n + 1) + 2 = (d + n + 2) + 1 by omega, eq_show_expression, fm_col]
    simp [F_show_expression, at1]
  | @val n k v x =>
    intro d h hn
    have at1 : ∀ a b : M, L2.atI [a, b] 1 = some b := fun _ _ => rfl
    have sv := show_value_ok (d := d + n) (h := h) x
    have q : ("=" : Str) = SX.S [61] := by decide +kernel
    have b : binM .add (.str "=") (.str (SX.S (valL v))) h = some (.ok (.str (SX.S (61 :: valL v))) h) := by rw [q, cat_S (by have := valL_len x; simp; omega)]; rfl
    rw [show d + (n + 1) + 2 = (d + n + 2) + 1 by omega, eq_show_expression, fm_val]
    generalize SX.S (61 :: valL v) = A at *
    generalize SX.S (valL v) = B at *
    simp [F_show_expression, at1, sv, b]
  | @op n w es hl x ih =>
    intro d h hn
    have fl := forms_len hQ hn hl x
    rw [show d + (n + 1) + 2 = (d + n + 2) + 1 by omega, eq_show_expression]
    have sl : ∀ H : Hm, slM H (.tup (.str w.nm :: es)) (some 1) none = some (.ok (.tup es) H) := fun H => by simp only [slM, cut_tail]
    have L : evL pg.toTx (callF pg (d + n + 2)) (.lc [1] (.nm 1) (.v (.sl (.var 0) (some (.con (.int 1))) none)) none (.call "show_expression" [(.var 1)])) [some (.tup (.str w.nm :: es)), none] (h ++ [.lst [.str w.nm]]) = some (.ok (es.map fun e => .str (SX.S (fmL n e))) (h ++ [.lst [.str w.nm]])) := by
      refine (lc_ok (xs := es) (gs := []) (h1 := h ++ [.lst [.str w.nm]]) (o := fun e => some (.str (SX.S (fmL n e)))) (by simp [sl, iterM, itemsM, guardM]) kept_nil (by rw [hl, sz]; cases w <;> decide) ?_).trans ?_
      · intro y hy
        have c := ih y hy d (h ++ [.lst [.str w.nm]]) (by omega)
        generalize SX.S (fmL n y) = A at *
        simp [lcTurn, wipeM, asgN, c]
      · simp
    have l3 : es.length ≤ 3 := by rw [hl]; cases w <;> simp [Wk.ar]
    have ba : binM .add (.ref h.length) (.ref (h.length + 1)) (h ++ [.lst [.str w.nm], .lst (es.map fun e => .str (SX.S (fmL n e)))]) = some (.ok (.ref (h.length + 2)) (h ++ [.lst [.str w.nm], .lst (es.map fun e => .str (SX.S (fmL n e))), .lst (.str w.nm :: es.map fun e => .str (SX.S (fmL n e)))])) := by
      simp only [binM, get_lc0, get_lc1]
      rw [if_pos (by rw [sz]; simp; omega)]
      simp
    have jo := join_ok (h := h ++ [.lst [.str w.nm], .lst (es.map fun e => .str (SX.S (fmL n e))), .lst (.str w.nm :: es.map fun e => .str (SX.S (fmL n e)))]) (a := h.length + 2) (ls := w.l :: es.map (fmL n)) (by rw [get_lc2, wk_S w]; simp) (by
      have := flat_le (n := n) (w := w) es
      rw [fm_op] at fl
      simp only [List.length_cons, List.length_append, List.length_map] at fl this ⊢
      omega)
    rw [joinL_flat, List.map_map] at jo
    have e1 : w.l ++ (es.map ((fun l => 32 :: l) ∘ fmL n)).flatten = w.l ++ (es.map fun e => 32 :: fmL n e).flatten := rfl
    rw [e1] at jo
    have fo := fm_op (n := n) (w := w) (es := es)
    have p1 : ∀ H : Hm, binM .add (.str "(") (.str (SX.S (w.l ++ (es.map fun e => 32 :: fmL n e).flatten))) H = some (.ok (.str (SX.S (40 :: (w.l ++ (es.map fun e => 32 :: fmL n e).flatten)))) H) := fun H => by
      rw [show ("(" : Str) = SX.S [40] by decide +kernel, cat_S (by rw [fo] at fl; simp only [List.length_cons, List.length_append, List.length_nil] at fl ⊢; omega)]
      rfl
    have p2 : ∀ H : Hm, binM .add (.str (SX.S (40 :: (w.l ++ (es.map fun e => 32 :: fmL n e).flatten)))) (.str ")") H = some (.ok (.str (SX.S (fmL (n + 1) (.tup (.str w.nm :: es))))) H) := fun H => by
      rw [show (")" : Str) = SX.S [41] by decide +kernel, cat_S (by rw [fo] at fl; simp only [List.length_cons, List.length_append, List.length_nil] at fl ⊢; omega), fo]
      simp
    obtain ⟨n1, n2⟩ := wk_nc w
    generalize SX.S (fmL (n + 1) (.tup (.str w.nm :: es))) = R at *
    generalize SX.S (40 :: (w.l ++ (es.map fun e => 32 :: fmL n e).flatten)) = R1 at *
    generalize SX.S (w.l ++ (es.map fun e => 32 :: fmL n e).flatten) = R2 at *
    generalize (es.map fun e => M.str (SX.S (fmL n e))) = fs at *
    generalize w.nm = W at *
    simp [F_show_expression, n1, n2, L, ba, jo, p1, p2]
theorem form_ok (hQ : ∀ l, Q l → l.length ≤ 12) {n : Nat} {e : M} (x : Ex Q n e) : ∀ (d : Nat) (h : Hm), n ≤ 8 → callF pg (d + n + 2) "_law_form" [e] h = some (.ok (.str (SX.S (fmL n e))) h) := by
  induction x with
  | @col n l q =>
    intro d h hn
    have at1 : ∀ a b : M, L2.atI [a, b] 1 = some b := fun _ _ => rfl
    rw [show d + (n + 1) + 2 = (d + n + 2) + 1 by omega, eq__law_form, fm_col]
    simp [F__law_form, at1]
  | @val n k v x =>
    intro d h hn
    have at1 : ∀ a b : M, L2.atI [a, b] 1 = some b := fun _ _ => rfl
    have sv := words_ok (d := d + n + 1) (h := h) x
    have q : ("=" : Str) = SX.S [61] := by decide +kernel
    have b : binM .add (.str "=") (.str (SX.S (valL v))) h = some (.ok (.str (SX.S (61 :: valL v))) h) := by rw [q, cat_S (by have := valL_len x; simp; omega)]; rfl
    rw [show d + (n + 1) + 2 = (d + n + 2) + 1 by omega, eq__law_form, fm_val]
    generalize SX.S (61 :: valL v) = A at *
    generalize SX.S (valL v) = B at *
    simp [F__law_form, at1, sv, b]
  | @op n w es hl x ih =>
    intro d h hn
    have fl := forms_len hQ hn hl x
    rw [show d + (n + 1) + 2 = (d + n + 2) + 1 by omega, eq__law_form]
    have sl : ∀ H : Hm, slM H (.tup (.str w.nm :: es)) (some 1) none = some (.ok (.tup es) H) := fun H => by simp only [slM, cut_tail]
    have L : evL pg.toTx (callF pg (d + n + 2)) (.lc [1] (.nm 1) (.v (.sl (.var 0) (some (.con (.int 1))) none)) none (.call "_law_form" [(.var 1)])) [some (.tup (.str w.nm :: es)), none] (h ++ [.lst [.str w.nm]]) = some (.ok (es.map fun e => .str (SX.S (fmL n e))) (h ++ [.lst [.str w.nm]])) := by
      refine (lc_ok (xs := es) (gs := []) (h1 := h ++ [.lst [.str w.nm]]) (o := fun e => some (.str (SX.S (fmL n e)))) (by simp [sl, iterM, itemsM, guardM]) kept_nil (by rw [hl, sz]; cases w <;> decide) ?_).trans ?_
      · intro y hy
        have c := ih y hy d (h ++ [.lst [.str w.nm]]) (by omega)
        generalize SX.S (fmL n y) = A at *
        simp [lcTurn, wipeM, asgN, c]
      · simp
    have l3 : es.length ≤ 3 := by rw [hl]; cases w <;> simp [Wk.ar]
    have ba : binM .add (.ref h.length) (.ref (h.length + 1)) (h ++ [.lst [.str w.nm], .lst (es.map fun e => .str (SX.S (fmL n e)))]) = some (.ok (.ref (h.length + 2)) (h ++ [.lst [.str w.nm], .lst (es.map fun e => .str (SX.S (fmL n e))), .lst (.str w.nm :: es.map fun e => .str (SX.S (fmL n e)))])) := by
      simp only [binM, get_lc0, get_lc1]
      rw [if_pos (by rw [sz]; simp; omega)]
      simp
    have jo := join_ok (h := h ++ [.lst [.str w.nm], .lst (es.map fun e => .str (SX.S (fmL n e))), .lst (.str w.nm :: es.map fun e => .str (SX.S (fmL n e)))]) (a := h.length + 2) (ls := w.l :: es.map (fmL n)) (by rw [get_lc2, wk_S w]; simp) (by
      have := flat_le (n := n) (w := w) es
      rw [fm_op] at fl
      simp only [List.length_cons, List.length_append, List.length_map] at fl this ⊢
      omega)
    rw [joinL_flat, List.map_map] at jo
    have e1 : w.l ++ (es.map ((fun l => 32 :: l) ∘ fmL n)).flatten = w.l ++ (es.map fun e => 32 :: fmL n e).flatten := rfl
    rw [e1] at jo
    have fo := fm_op (n := n) (w := w) (es := es)
    have p1 : ∀ H : Hm, binM .add (.str "(") (.str (SX.S (w.l ++ (es.map fun e => 32 :: fmL n e).flatten))) H = some (.ok (.str (SX.S (40 :: (w.l ++ (es.map fun e => 32 :: fmL n e).flatten)))) H) := fun H => by
      rw [show ("(" : Str) = SX.S [40] by decide +kernel, cat_S (by rw [fo] at fl; simp only [List.length_cons, List.length_append, List.length_nil] at fl ⊢; omega)]
      rfl
    have p2 : ∀ H : Hm, binM .add (.str (SX.S (40 :: (w.l ++ (es.map fun e => 32 :: fmL n e).flatten)))) (.str ")") H = some (.ok (.str (SX.S (fmL (n + 1) (.tup (.str w.nm :: es))))) H) := fun H => by
      rw [show (")" : Str) = SX.S [41] by decide +kernel, cat_S (by rw [fo] at fl; simp only [List.length_cons, List.length_append, List.length_nil] at fl ⊢; omega), fo]
      simp
    obtain ⟨n1, n2⟩ := wk_nc w
    generalize SX.S (fmL (n + 1) (.tup (.str w.nm :: es))) = R at *
    generalize SX.S (40 :: (w.l ++ (es.map fun e => 32 :: fmL n e).flatten)) = R1 at *
    generalize SX.S (w.l ++ (es.map fun e => 32 :: fmL n e).flatten) = R2 at *
    generalize (es.map fun e => M.str (SX.S (fmL n e))) = fs at *
    generalize w.nm = W at *
    simp [F__law_form, n1, n2, L, ba, jo, p1, p2]
end
end MP
namespace MP
open PySem
/-! ### texts begin, texts are parted -/
theorem st_S {a b : List Nat} (hb : b ≠ []) : Txt.startswith (SX.S a) (SX.S b) = (a.take b.length == b) := by
  have key := TL.at_iff (x := SX.S a) (y := SX.S b) (by simpa [TL.tl] using hb) 0
  have e1 : Txt.startswith (SX.S a) (SX.S b) = true ↔ StrLaws.At (SX.S a) (SX.S b) (SX.S a).length 0 := by
    unfold Txt.startswith StrLaws.At
    simp
  rw [Bool.eq_iff_iff, e1, key]
  simp [TL.pre, TL.tl]
theorem in_S {h : Hm} {a : List Nat} {c : Nat} : inM h (.str (SX.S [c])) (.str (SX.S a)) = some (decide (c ∈ a)) := by
  simp only [inM, SX.in_one]
theorem ixS {h : Hm} {l : List Nat} {i : Nat} {c : Nat} (hl : l.length ≤ 8000000) (e : l[i]? = some c) : ixM h (.str (SX.S l)) (.int (i : Nat)) = some (.str (SX.S [c])) := by
  have hi : i < l.length := (List.getElem?_eq_some_iff.mp e).1
  have a : L2.atI l (i : Nat) = some c := by
    unfold L2.atI L2.ixN
    rw [if_pos (by omega), if_pos (by omega)]
    simpa using e
  simp only [ixM, SX.S_len]
  rw [if_pos (by rw [sz]; omega), a]
  rfl
theorem lenS {h : Hm} {l : List Nat} (hl : l.length ≤ 8000000) : lenD h (.str (SX.S l)) = some (.int l.length) := by
  simp only [lenD, SX.S_len]
  rw [if_pos (by rw [sz]; omega)]
theorem slS {h : Hm} {l : List Nat} {lo hi : Option Int} (hl : l.length ≤ 8000000) : slM h (.str (SX.S l)) lo hi = some (.ok (.str (SX.S (cut l lo hi))) h) := by
  simp only [slM, SX.S_len]
  rw [if_pos (by rw [sz]; omega)]
@[simp] theorem q_bint {h : Hm} {xs : List M} : biM h .int xs = intM xs := rfl
/-! ### whole numbers read -/
theorem DG_in' {c : Nat} (h : 48 ≤ c ∧ c ≤ 57) : ∀ hh : Hm, inM hh (.str (SX.S [c])) (.str "0123456789") = some true := fun hh => by
  rw [show ("0123456789" : Str) = SX.S [48, 49, 50, 51, 52, 53, 54, 55, 56, 57] by decide +kernel, in_S]
  congr 1
  simp
  omega
section
variable {d : Nat} {h : Hm}
theorem numL_dig {n c : Nat} (hc : c ∈ TL.numL n) : 48 ≤ c ∧ c ≤ 57 := TL.numL_digits n c hc
theorem allB_true : ∀ n : Nat, allB (List.replicate n (M.bl true)) = some true
  | 0 => rfl
  | n + 1 => by simp [List.replicate_succ, allB, allB_true n]
theorem readint_ok {n : Nat} (hn : n < 10 ^ 41) : callF pg (d + 1) "read_integer" [.str (SX.S (TL.numL n))] h = some (.ok (.int n) h) := by
  rw [eq_read_integer]
  have l41 := TL.numL_len (n := n) (k := 41) (by omega) hn
  have ne := TL.numL_ne n
  have L : evL pg.toTx (callF pg d) (.lc [1] (.nm 1) (.v (.var 0)) none (.cmp .isin (.var 1) (.glo "DIGITS"))) [some (.str (SX.S (TL.numL n))), none] h = some (.ok (List.replicate (TL.numL n).length (.bl true)) h) := by
    refine (lc_ok (xs := (TL.numL n).map fun c => .str (SX.S [c])) (gs := []) (h1 := h) (o := fun _ => some (.bl true)) ?_ kept_nil (by simp [sz]; omega) ?_).trans ?_
    · simp [iterM, guardM, SX.S]
    · intro y hy
      obtain ⟨c, hc, rfl⟩ := List.mem_map.mp hy
      have i := DG_in' (numL_dig hc) h
      generalize SX.S [c] = A at *
      simp [lcTurn, wipeM, asgN, i]
    · congr 2
      generalize TL.numL n = l
      induction l with
      | nil => rfl
      | cons c l ih => simp [List.replicate_succ] at ih ⊢; exact ih
  have ab := allB_true (TL.numL n).length
  have le := lenS (h := h) (l := TL.numL n) (by omega)
  have p1 : (1 : Int) ≤ (TL.numL n).length := by
    have := List.length_pos_iff.mpr ne
    omega
  have p2 : ((TL.numL n).length : Int) ≤ 41 := by omega
  have it : intM [.str (SX.S (TL.numL n))] = some (.int n) := by
    have := SX.int_S (a := TL.numL n) (List.all_eq_true.mpr fun c hc => by have := numL_dig hc; simp; omega) ne (by omega)
    simp only [intM, SX.S_len, this, TL.numL_val, Option.map_some]
    rw [if_pos (by omega)]
  obtain ⟨c, r, ec⟩ : ∃ c r, TL.numL n = c :: r := by
    cases q : TL.numL n with
    | nil => exact absurd q ne
    | cons c r => exact ⟨c, r, rfl⟩
  have ix := ixS (h := h) (l := TL.numL n) (i := 0) (c := c) (by omega) (by rw [ec]; rfl)
  have z0 : ("0" : Str) = SX.S [48] := by decide +kernel
  -- a nought ahead means nought
  have lead : SX.S [c] = ("0" : Str) → SX.S (TL.numL n) = ("0" : Str) := fun e => by
    rw [z0] at e ⊢
    have ec0 : c = 48 := by simpa using SX.S_inj e
    by_cases hz : n = 0
    · subst hz; rw [TL.numL_lt (by decide)]
    · exact absurd ec0 (numL_head n (by omega) c (by rw [ec]; rfl))
  have ix' : ixM h (.str (SX.S (TL.numL n))) (.int 0) = some (.str (SX.S [c])) := ix
  by_cases e : SX.S [c] = ("0" : Str)
  · have e2 := lead e
    generalize SX.S (TL.numL n) = X at *
    generalize SX.S [c] = Y at *
    generalize ((TL.numL n).length : Int) = z at *
    generalize List.replicate (TL.numL n).length (M.bl true) = bs at *
    subst e2 e
    simp [F_read_integer, le, p1, p2, L, ab, ix', it]
  · generalize SX.S (TL.numL n) = X at *
    generalize SX.S [c] = Y at *
    generalize ((TL.numL n).length : Int) = z at *
    generalize List.replicate (TL.numL n).length (M.bl true) = bs at *
    simp [F_read_integer, le, p1, p2, L, ab, ix', e, it]
theorem startsD {a : List Nat} : Txt.startswith (SX.S a) "-" = decide (a.head? = some 45) := by
  rw [show ("-" : Str) = SX.S [45] by decide +kernel, st_S (by simp)]
  cases a with
  | nil => rfl
  | cons c r =>
    by_cases h : c = 45
    · subst h; simp
    · simp [h]
theorem intL_head {p : Int} : decide ((intL p).head? = some 45) = decide (p < 0) := by
  unfold intL
  by_cases h : p < 0
  · simp [h]
  · rw [if_neg h]
    cases q : TL.numL p.natAbs with
    | nil => exact absurd q (TL.numL_ne _)
    | cons c r =>
      have := numL_dig (n := p.natAbs) (c := c) (by rw [q]; simp)
      have h45 : c ≠ 45 := by omega
      simp [h, h45]
theorem sl_free {p : Int} : (47 : Nat) ∉ intL p := by
  have := TL.numL_free (n := p.natAbs) (s := 47) (.inl (by decide))
  unfold intL
  split
  · simp [this]
  · exact this
theorem part1 {p : Int} : Txt.partition (SX.S (intL p)) "/" = (SX.S (intL p), ("" : Str), ("" : Str)) := by
  rw [show ("/" : Str) = SX.S [47] by decide +kernel, SX.partition_none (by simp) (SX.par_head_none sl_free), show ("" : Str) = SX.S [] by decide +kernel]
theorem part2 {p : Int} {l : List Nat} : Txt.partition (SX.S (intL p ++ 47 :: l)) "/" = (SX.S (intL p), ("/" : Str), SX.S l) := by
  rw [show ("/" : Str) = SX.S [47] by decide +kernel]
  exact SX.partition_some (a := intL p ++ 47 :: l) (b := [47]) (p := intL p) (q := l) (by simp) (SX.par_head (c := 47) (sep := []) l sl_free)
theorem minus0 {p : Int} : SX.S (intL p) ≠ ("-0" : Str) := by
  rw [show ("-0" : Str) = SX.S [45, 48] by decide +kernel]
  intro e
  have e := SX.S_inj e
  unfold intL at e
  split at e
  · rename_i h
    have e1 : TL.numL p.natAbs = [48] := by simpa using e
    exact numL_head p.natAbs (by omega) 48 (by rw [e1]; rfl) rfl
  · have := numL_dig (n := p.natAbs) (c := 45) (by rw [e]; simp)
    omega
theorem inLim_ok {p q : Int} (y : InL p q) : inLim p q = true := by
  simp [inLim, LIM, y.1, y.2]
theorem readnum_ok {p q : Int} (x : Rq 140 p q) (y : InL p q) : callF pg (d + 3) "read_number" [.str (SX.S (ratL p q))] h = some (.ok (rat p q) h) := by
  rw [eq_read_number]
  obtain ⟨a, b⟩ : p.natAbs < 10 ^ 41 ∧ q.natAbs < 10 ^ 41 := by
    rcases y.pow with z | z
    · exact z
    · have := x.pos; omega
  have hq := x.pos
  have i1 := intL_len (k := 41) (by omega) a
  have i2 := TL.numL_len (k := 41) (by omega) b
  have r1 := readint_ok (d := d + 1) (h := h) a
  have r2 := readint_ok (d := d + 1) (h := h) b
  have rl := ratL_len y hq
  have ir := israt_ok (d := d) (h := h) (P := pg) libV0.ar (p := p) (q := q)
  have iw := within_ok (P := pg) (d := d + 1) (h := h) (p := p) (q := q)
  rw [inLim_ok y] at iw
  have g1 : (decide (1 ≤ q) && decide (Int.gcd p q = 1)) = true := by rw [x.co]; simp; omega
  rw [g1] at ir
  simp only [rat] at ir iw ⊢
  have sw := (startsD (a := intL p)).trans intL_head
  have sl1 : p < 0 → slM h (.str (SX.S (intL p))) (some 1) none = some (.ok (.str (SX.S (TL.numL p.natAbs))) h) := fun hp => by
    rw [slS (by omega)]
    have : cut (intL p) (some 1) none = TL.numL p.natAbs := by
      unfold intL
      rw [if_pos hp]
      exact cut_tail
    rw [this]
  have nl : ¬ p < 0 → SX.S (intL p) = SX.S (TL.numL p.natAbs) := fun hp => by unfold intL; rw [if_neg hp]
  have m0 := minus0 (p := p)
  have bq : (q.natAbs : Int) = q := by omega
  have len1 : (SX.S (ratL p q)).length ≤ sizeLine := by rw [SX.S_len, sz]; omega
  have e1 : ((("/" : Str)).length == 0) = false := by decide +kernel
  by_cases c : q = 1
  · have er : ratL p q = intL p := by simp [ratL, c]
    rw [er] at len1 ⊢
    have pa := part1 (p := p)
    have mt : mtM .partition (SX.S (intL p)) [.str "/"] h = some (.ok (.tup [.str (SX.S (intL p)), .str "", .str ""]) h) := by
      simp only [mtM, pa]
      rw [if_pos ⟨e1, len1⟩]
    by_cases hp : p < 0
    · have s1 := sl1 hp
      have sn : mtM .startswith (SX.S (intL p)) [.str "-"] h = some (.ok (.bl true) h) := by simp [mtM, sw, hp]
      have pn : -(p.natAbs : Int) = p := by omega
      generalize SX.S (intL p) = X at *
      generalize SX.S (TL.numL p.natAbs) = Y at *
      generalize (p.natAbs : Int) = N at *
      subst c
      simp [F_read_number, mt, asgN, sn, s1, r1, m0, pn, ir, iw]
    · have sn : mtM .startswith (SX.S (intL p)) [.str "-"] h = some (.ok (.bl false) h) := by simp [mtM, sw, hp]
      have pn : (p.natAbs : Int) = p := by omega
      rw [← nl hp, pn] at r1
      generalize SX.S (intL p) = X at *
      subst c
      simp [F_read_number, mt, asgN, sn, r1, m0, ir, iw]
  · have er : ratL p q = intL p ++ 47 :: TL.numL q.natAbs := by simp [ratL, c]
    rw [er] at len1 ⊢
    have pa := part2 (p := p) (l := TL.numL q.natAbs)
    have mt : mtM .partition (SX.S (intL p ++ 47 :: TL.numL q.natAbs)) [.str "/"] h = some (.ok (.tup [.str (SX.S (intL p)), .str "/", .str (SX.S (TL.numL q.natAbs))]) h) := by
      simp only [mtM, pa]
      rw [if_pos ⟨e1, len1⟩]
    have q2 : ¬ q < 2 := by omega
    rw [bq] at r2
    by_cases hp : p < 0
    · have s1 := sl1 hp
      have sn : mtM .startswith (SX.S (intL p)) [.str "-"] h = some (.ok (.bl true) h) := by simp [mtM, sw, hp]
      have pn : -(p.natAbs : Int) = p := by omega
      generalize SX.S (intL p ++ 47 :: TL.numL q.natAbs) = Z at *
      generalize SX.S (intL p) = X at *
      generalize SX.S (TL.numL p.natAbs) = Y at *
      generalize SX.S (TL.numL q.natAbs) = W at *
      generalize (p.natAbs : Int) = N at *
      simp [F_read_number, mt, asgN, sn, s1, r1, r2, m0, pn, ir, iw, q2]
    · have sn : mtM .startswith (SX.S (intL p)) [.str "-"] h = some (.ok (.bl false) h) := by simp [mtM, sw, hp]
      have pn : (p.natAbs : Int) = p := by omega
      rw [← nl hp, pn] at r1
      generalize SX.S (intL p ++ 47 :: TL.numL q.natAbs) = Z at *
      generalize SX.S (intL p) = X at *
      generalize SX.S (TL.numL q.natAbs) = W at *
      simp [F_read_number, mt, asgN, sn, r1, r2, m0, ir, iw, q2]
end
end MP
namespace MP
open PySem
/-! ### tokens -/
/-- signs that end a token -/
def stopC (c : Nat) : Bool := decide (c = 32) || (decide (c = 40) || decide (c = 41))
theorem in_stop {h : Hm} {c : Nat} : inM h (.str (SX.S [c])) (.str " ()") = some (stopC c) := by
  rw [show (" ()" : Str) = SX.S [32, 40, 41] by decide +kernel, in_S]
  simp [stopC]
/-- the rest begins with a sign that ends a token, or there is none -/
def Ends (l : List Nat) : Prop := ∀ c, l.head? = some c → stopC c = true
abbrev rd (T : List Nat) (i : Nat) : O := .ins "FormReader" [("text", .str (SX.S T)), ("at", .int (i : Nat))]
abbrev tkC : E := .and (.cmp .lt (.exf 0 "at") (.bi .len [(.exf 0 "text")])) (.cmp .notin (.ix (.exf 0 "text") (.exf 0 "at")) (.con (.str " ()")))
section
variable {d : Nat} {H : Hm} {a i : Nat} {T : List Nat}
theorem f_text (g : H[a]? = some (rd T i)) : fldM pg.toTx H (.ref a) "text" = some (.str (SX.S T)) := by simp [fldM, insM, g]
theorem f_at (g : H[a]? = some (rd T i)) : fldM pg.toTx H (.ref a) "at" = some (.int (i : Nat)) := by simp [fldM, insM, g]
theorem s_at {z : Int} (g : H[a]? = some (rd T i)) (hz : z = (i + 1 : Nat)) : setfM pg.toTx H (.ref a) "at" (.int z) = some (H.set a (rd T (i + 1))) := by
  subst hz
  simp [setfM, g, putFM, rd]
theorem tok_loop (hT : T.length ≤ 8000000) {b : M} : ∀ (w : List Nat) (i : Nat) (H : Hm) (post : List Nat), H[a]? = some (rd T i) → T.drop i = w ++ post → (∀ c ∈ w, stopC c = false) → Ends post →
    whl (evT pg.toTx (callF pg d) tkC) (exSs pg.toTx (callF pg d) B_FormReader__token_0) [some (.ref a), some b] H = some (.next [some (.ref a), some b] (H.set a (rd T (i + w.length))))
  | [], i, H, post, g, e, hw, he => by
    have ft := f_text g
    have fa := f_at g
    have le := lenS (h := H) hT
    have hs : H.set a (rd T (i + 0)) = H := by
      rw [Nat.add_zero]
      have hl := get_lt g
      have : H[a] = rd T i := by rw [List.getElem?_eq_getElem hl] at g; exact Option.some.inj g
      rw [← this]
      exact List.set_getElem_self hl
    rw [List.length_nil, hs]
    refine whl_f (h1 := H) ?_
    cases post with
    | nil =>
      have hi : ¬ ((i : Int) < T.length) := by
        have := congrArg List.length e
        simp at this
        omega
      generalize SX.S T = X at *
      simp [ft, fa, le, hi]
    | cons c r =>
      have hc := he c rfl
      have ei : T[i]? = some c := by
        have : (T.drop i)[0]? = some c := by rw [e]; rfl
        simpa using this
      have hi : (i : Int) < T.length := by have := (List.getElem?_eq_some_iff.mp ei).1; omega
      have ix := ixS (h := H) hT ei
      have is := in_stop (h := H) (c := c)
      rw [hc] at is
      generalize SX.S T = X at *
      generalize SX.S [c] = Y at *
      generalize ((i : Nat) : Int) = z at *
      simp [ft, fa, le, hi, ix, is]
  | c :: w, i, H, post, g, e, hw, he => by
    have ft := f_text g
    have fa := f_at g
    have le := lenS (h := H) hT
    have ei : T[i]? = some c := by
      have : (T.drop i)[0]? = some c := by rw [e]; rfl
      simpa using this
    have hi : (i : Int) < T.length := by have := (List.getElem?_eq_some_iff.mp ei).1; omega
    have ix := ixS (h := H) hT ei
    have is := in_stop (h := H) (c := c)
    rw [hw c (by simp)] at is
    have e' : T.drop (i + 1) = w ++ post := by
      have := congrArg (List.drop 1) e
      simpa [List.drop_drop, Nat.add_comm] using this
    have ih := tok_loop hT (b := b) w (i + 1) (H.set a (rd T (i + 1))) post (get_set g) e' (fun x hx => hw x (by simp [hx])) he
    rw [set_set] at ih
    have sa := s_at (z := (i : Int) + 1) g (by omega)
    have hcl : clsM H (.ref a) = some "FormReader" := by simp [clsM, insM, g]
    refine (whl_t (h1 := H) (env' := [some (.ref a), some b]) (h' := H.set a (rd T (i + 1))) ?_ ?_).trans (ih.trans (by rw [List.length_cons, Nat.add_assoc, Nat.add_comm 1]))
    · generalize SX.S T = X at *
      generalize SX.S [c] = Y at *
      generalize ((i : Nat) : Int) = z at *
      simp [ft, fa, le, hi, ix, is]
    · generalize H.set a (rd T (i + 1)) = H2 at *
      generalize ((i : Nat) : Int) = z at *
      simp [B_FormReader__token_0, fa, augI, sa]
theorem tok_ok (hT : T.length ≤ 8000000) {w post : List Nat} (g : H[a]? = some (rd T i)) (i0 : i ≤ T.length) (e : T.drop i = w ++ post) (hw : ∀ c ∈ w, stopC c = false) (he : Ends post) : callF pg (d + 1) "FormReader.token" [.ref a] H = some (.ok (.str (SX.S w)) (H.set a (rd T (i + w.length)))) := by
  rw [eq_FormReader__token]
  have lp := tok_loop (d := d) hT (b := .int (i : Nat)) w i H post g e hw he
  rw [← run_whl] at lp
  have fa := f_at g
  have ft2 := f_text (get_set (o' := rd T (i + w.length)) g)
  have fa2 := f_at (get_set (o' := rd T (i + w.length)) g)
  have sl := slS (h := H.set a (rd T (i + w.length))) (l := T) (lo := some (i : Int)) (hi := some ((i + w.length : Nat) : Int)) hT
  have cu : cut T (some (i : Int)) (some ((i + w.length : Nat) : Int)) = w := by
    have hl := congrArg List.length e
    simp at hl
    unfold cut
    rw [HT.sIx_nat, HT.sIx_nat, Nat.min_eq_left i0, Nat.min_eq_left (by omega), e, Nat.add_sub_cancel_left]
    simp
  rw [cu] at sl
  have hl : (H.set a (rd T (i + w.length))).length = H.length := by simp
  have tr := trim_len (b := true) hl
  generalize H.set a (rd T (i + w.length)) = H2 at *
  generalize SX.S T = X at *
  generalize SX.S w = Y at *
  generalize ((i + w.length : Nat) : Int) = z2 at *
  generalize ((i : Nat) : Int) = z at *
  simp [F_FormReader__token, fa, asgN, lp, ft2, fa2, sl, tr]
end
end MP
namespace MP
open PySem
/-! ### leaves -/
theorem sgn_stop {c : Nat} (h : sgnC c = true) : stopC c = false := by
  unfold sgnC lowC at h
  simp at h
  unfold stopC
  simp
  omega
theorem NameL.stop {l : List Nat} (n : NameL l) : ∀ c ∈ l, stopC c = false := fun c hc => sgn_stop (n.al c hc)
theorem intL_sg {p : Int} {c : Nat} (h : c ∈ intL p) : c = 45 ∨ (48 ≤ c ∧ c ≤ 57) := by
  unfold intL at h
  split at h
  · rcases List.mem_cons.mp h with e | e
    · exact .inl e
    · exact .inr (numL_dig e)
  · exact .inr (numL_dig h)
theorem ratL_sg {p q : Int} {c : Nat} (h : c ∈ ratL p q) : c = 45 ∨ c = 47 ∨ (48 ≤ c ∧ c ≤ 57) := by
  unfold ratL at h
  split at h
  · rcases intL_sg h with e | e
    · exact .inl e
    · exact .inr (.inr e)
  · rcases List.mem_append.mp h with e | e
    · rcases intL_sg e with e | e
      · exact .inl e
      · exact .inr (.inr e)
    · rcases List.mem_cons.mp e with e | e
      · exact .inr (.inl e)
      · exact .inr (.inr (numL_dig e))
theorem ratL_cons (p q : Int) : ∃ c r, ratL p q = c :: r := by
  have : ∃ c r, intL p = c :: r := by
    unfold intL
    split
    · exact ⟨_, _, rfl⟩
    · cases e : TL.numL p.natAbs with
      | nil => exact absurd e (TL.numL_ne _)
      | cons c r => exact ⟨c, r, rfl⟩
  obtain ⟨c, r, e⟩ := this
  unfold ratL
  split
  · exact ⟨c, r, e⟩
  · exact ⟨c, _, by rw [e]; rfl⟩
theorem val_stop {k : Kn} {v : M} (x : Val k v) : ∀ c ∈ 61 :: valL v, stopC c = false := by
  intro c hc
  rcases List.mem_cons.mp hc with rfl | hc
  · decide
  · cases x with
    | num x y =>
      have := ratL_sg (p := _) (q := _) hc
      unfold stopC
      simp
      omega
    | wrd ok nm =>
      simp only [valL, tl_S] at hc
      rcases List.mem_cons.mp hc with rfl | hc
      · decide
      · exact ok.stop c hc
    | @flg b =>
      cases b
      · have : ∀ c ∈ valL (.bl false), stopC c = false := by decide
        exact this c hc
      · have : ∀ c ∈ valL (.bl true), stopC c = false := by decide
        exact this c hc
theorem nm61 {r : List Nat} : isNm (61 :: r) = false := by
  have : occ LT26 (SX.S [61]) = false := by decide +kernel
  simp [isNm, this]
section
variable {d : Nat} {h : Hm}
theorem leaf_col {l : List Nat} (n : NameL l) : callF pg (d + 2) "read_leaf" [.str (SX.S l)] h = some (.ok (.tup [.str "column", .str (SX.S l)]) h) := by
  rw [eq_read_leaf]
  have i := isname_str (P := pg) (d := d) (h := h) (l := l) (by have := n.len; omega)
  rw [n.isNm] at i
  generalize SX.S l = X at *
  simp [F_read_leaf, i]
theorem yes_S : ("=#yes" : Str) = SX.S [61, 35, 121, 101, 115] := by decide +kernel
theorem no_S : ("=#no" : Str) = SX.S [61, 35, 110, 111] := by decide +kernel
theorem S_ne {c : Nat} {r r' : List Nat} {b c' : Nat} (h : c ≠ c') : SX.S (b :: c :: r) ≠ SX.S (b :: c' :: r') := fun e => by
  have := SX.S_inj e
  simp at this
  exact h this.1
theorem in_two {x a b : Str} : inM h (.str x) (.tup [.str a, .str b]) = some (decide (x = a ∨ x = b)) := by
  simp only [inM, itemsM, flatM, flatMs, L2.inV]
  simp [L2.inV, L2.eqV]
  rw [show (a == x) = decide (x = a) by rw [Bool.eq_iff_iff, beq_iff_eq, decide_eq_true_iff]; exact ⟨Eq.symm, Eq.symm⟩, show (b == x) = decide (x = b) by rw [Bool.eq_iff_iff, beq_iff_eq, decide_eq_true_iff]; exact ⟨Eq.symm, Eq.symm⟩]
theorem leaf_val {k : Kn} {v : M} (x : Val k v) : callF pg (d + 4) "read_leaf" [.str (SX.S (61 :: valL v))] h = some (.ok (.tup [.str "value", v]) h) := by
  rw [eq_read_leaf]
  have vl := valL_len x
  have i := isname_str (P := pg) (d := d + 2) (h := h) (l := 61 :: valL v) (by simp; omega)
  rw [nm61] at i
  cases x with
  | @flg b =>
    cases b with
    | true =>
      have e : SX.S (61 :: valL (.bl true)) = "=#yes" := by decide +kernel
      rw [e] at i ⊢
      simp [F_read_leaf, i, in_two]
    | false =>
      have e : SX.S (61 :: valL (.bl false)) = "=#no" := by decide +kernel
      rw [e] at i ⊢
      simp [F_read_leaf, i, in_two]
  | @wrd l ok nm =>
    simp only [valL, tl_S] at i vl ⊢
    have i2 := isname_str (P := pg) (d := d + 2) (h := h) (l := l) (by have := ok.len; omega)
    rw [nm] at i2
    have n1 : SX.S (61 :: 39 :: l) ≠ ("=#yes" : Str) := by rw [yes_S]; exact S_ne (by decide)
    have n2 : SX.S (61 :: 39 :: l) ≠ ("=#no" : Str) := by rw [no_S]; exact S_ne (by decide)
    have st : mtM .startswith (SX.S (61 :: 39 :: l)) [.str "='"] h = some (.ok (.bl true) h) := by
      have : Txt.startswith (SX.S (61 :: 39 :: l)) "='" = true := by
        rw [show ("='" : Str) = SX.S [61, 39] by decide +kernel, st_S (by simp)]
        simp
      simp [mtM, this]
    have sl : slM h (.str (SX.S (61 :: 39 :: l))) (some 2) none = some (.ok (.str (SX.S l)) h) := by
      rw [slS (by have := ok.len; simp; omega)]
      have : cut (61 :: 39 :: l) (some 2) none = l := by unfold cut HT.sIx; simp
      rw [this]
    generalize SX.S (61 :: 39 :: l) = X at *
    generalize SX.S l = Y at *
    simp [F_read_leaf, i, in_two, n1, n2, st, sl, i2]
  | @num p q x y =>
    have ev : valL (rat p q) = ratL p q := rfl
    rw [ev] at i vl ⊢
    obtain ⟨c, r, ec⟩ := ratL_cons p q
    have hc := ratL_sg (p := p) (q := q) (c := c) (by rw [ec]; simp)
    have rn := readnum_ok (d := d) (h := h) x y
    rw [ec] at i vl rn ⊢
    have n1 : SX.S (61 :: c :: r) ≠ ("=#yes" : Str) := by rw [yes_S]; exact S_ne (by omega)
    have n2 : SX.S (61 :: c :: r) ≠ ("=#no" : Str) := by rw [no_S]; exact S_ne (by omega)
    have st : mtM .startswith (SX.S (61 :: c :: r)) [.str "='"] h = some (.ok (.bl false) h) := by
      have : Txt.startswith (SX.S (61 :: c :: r)) "='" = false := by
        rw [show ("='" : Str) = SX.S [61, 39] by decide +kernel, st_S (by simp)]
        have h39 : c ≠ 39 := by omega
        simp [h39]
      simp [mtM, this]
    have st2 : mtM .startswith (SX.S (61 :: c :: r)) [.str "="] h = some (.ok (.bl true) h) := by
      have : Txt.startswith (SX.S (61 :: c :: r)) "=" = true := by
        rw [show ("=" : Str) = SX.S [61] by decide +kernel, st_S (by simp)]
        simp
      simp [mtM, this]
    have sl : slM h (.str (SX.S (61 :: c :: r))) (some 1) none = some (.ok (.str (SX.S (c :: r))) h) := by
      rw [slS (by simp at vl ⊢; omega), cut_tail]
    generalize SX.S (61 :: c :: r) = X at *
    generalize SX.S (c :: r) = Y at *
    simp only [rat] at rn ⊢
    simp [F_read_leaf, i, in_two, n1, n2, st, st2, sl, rn, asgN]
end
/-! ### one sign -/
section
variable {d : Nat} {H : Hm} {a i : Nat} {T : List Nat}
theorem expect_ok (hT : T.length ≤ 8000000) {c : Nat} (g : H[a]? = some (rd T i)) (e : T[i]? = some c) : callF pg (d + 1) "FormReader.expect" [.ref a, .str (SX.S [c])] H = some (.ok .non (H.set a (rd T (i + 1)))) := by
  rw [eq_FormReader__expect]
  have ft := f_text g
  have fa := f_at g
  have le := lenS (h := H) hT
  have hi : ¬ (T.length : Int) ≤ i := by have := (List.getElem?_eq_some_iff.mp e).1; omega
  have ix := ixS (h := H) hT e
  have sa := s_at (z := (i : Int) + 1) g (by omega)
  have tr := trim_len (b := true) (h := H) (h1 := H.set a (rd T (i + 1))) (by simp)
  have hcl : clsM H (.ref a) = some "FormReader" := by simp [clsM, insM, g]
  generalize H.set a (rd T (i + 1)) = H2 at *
  generalize SX.S T = X at *
  generalize SX.S [c] = Y at *
  generalize ((i : Nat) : Int) = z at *
  simp [F_FormReader__expect, ft, fa, le, hi, ix, augI, sa, tr]
end
end MP
namespace MP
open PySem
/-! ### forms read -/
def OPS : List (Str × Cn) := [("plus", .tup [.str "number", .str "number"]), ("minus", .tup [.str "number", .str "number"]), ("times", .tup [.str "number", .str "number"]), ("over", .tup [.str "number", .str "number"]), ("less", .tup [.str "number", .str "number"]), ("same", .tup [.str "any", .str "alike"]), ("both", .tup [.str "flag", .str "flag"]), ("either", .tup [.str "flag", .str "flag"]), ("not", .tup [.str "flag"]), ("missing", .tup [.str "any"]), ("if", .tup [.str "flag", .str "any", .str "alike"])]
theorem con_ops : pg.con "OPERANDS" = some (.rod OPS) := con_OPERANDS
theorem ops_in (h : Hm) (w : Wk) : inM h (.str w.nm) (.rod OPS) = some true := by
  cases w <;> simp [inM, itemsM, inK, OPS, Wk.nm]
theorem ops_ix (h : Hm) (w : Wk) : ∃ ks, ixM h (.rod OPS) (.str w.nm) = some (.tup ks) ∧ ks.length = w.ar := by
  cases w <;> simp [ixM, OPS, Wk.nm, Wk.ar, Cn.m, Cn.ms]
theorem wk_stop (w : Wk) : ∀ c ∈ w.l, stopC c = false := by cases w <;> decide +kernel
theorem ex_below {Q : List Nat → Prop} {n : Nat} {e : M} (x : Ex Q n e) : ∀ k, below k e = true := by
  induction x with
  | col q => intro k; rfl
  | val x => intro k; cases x <;> rfl
  | @op n w es hl x ih =>
    intro k
    have : ∀ es : List M, (∀ e ∈ es, below k e = true) → belows k es = true := by
      intro es he
      induction es with
      | nil => rfl
      | cons a b ihb => simp [he a (by simp), ihb fun e hb => he e (by simp [hb])]
    simp [this es fun e he => ih e he k]
section
variable {Q : List Nat → Prop} {d : Nat} {H : Hm} {a b i n : Nat} {T : List Nat}
/-- that one form is read: what the walk over the operands needs -/
def Rds (T : List Nat) (a n d : Nat) (z : Int) (e : M) : Prop := ∀ (H : Hm) (i : Nat) (post : List Nat), H[a]? = some (rd T i) → T.drop i = fmL n e ++ post → Ends post → callF pg d "FormReader.form" [.ref a, .int z] H = some (.ok e (H.set a (rd T (i + (fmL n e).length))))
theorem drop_more {i : Nat} {l post : List Nat} (e : T.drop i = l ++ post) : T.drop (i + l.length) = post := by
  rw [← List.drop_drop, e]
  simp
theorem cl_rd (g : H[a]? = some (rd T i)) : insM H (.ref a) = some (("FormReader" : Str), ([(("text" : Str), M.str (SX.S T)), (("at" : Str), M.int (i : Nat))] : List (Str × M))) := by simp [insM, g]
theorem form_loop (hT : T.length ≤ 8000000) {z : Int} (hab : a ≠ b) {v2 v3 v4 v5 : Option M} : ∀ (es ks : List M) (k : Option M) (H : Hm) (i : Nat) (ops : List M) (post : List Nat), ks.length = es.length → (∀ e ∈ es, Rds T a n (d + 1) (z + 1) e) → H[a]? = some (rd T i) → H[b]? = some (.lst ops) → ops.length + es.length ≤ 3 → T.drop i = (es.map fun e => 32 :: fmL n e).flatten ++ 41 :: post →
    ∃ k', forGo (forTurn pg.toTx (callF pg (d + 1)) (.nm 7) B_FormReader__form_0) [] ks [some (.ref a), some (.int z), v2, v3, v4, v5, some (.ref b), k] H = some (.next [some (.ref a), some (.int z), v2, v3, v4, v5, some (.ref b), k'] ((H.set a (rd T (i + ((es.map fun e => 32 :: fmL n e).flatten).length))).set b (.lst (ops ++ es))))
  | [], [], k, H, i, ops, post, hl, he, ga, gb, l3, e => by
    refine ⟨k, ?_⟩
    have s1 : H.set a (rd T i) = H := by
      have hl := get_lt ga
      have : H[a] = rd T i := by rw [List.getElem?_eq_getElem hl] at ga; exact Option.some.inj ga
      rw [← this]
      exact List.set_getElem_self hl
    have s2 : H.set b (.lst ops) = H := by
      have hl := get_lt gb
      have : H[b] = .lst ops := by rw [List.getElem?_eq_getElem hl] at gb; exact Option.some.inj gb
      rw [← this]
      exact List.set_getElem_self hl
    simp only [List.map_nil, List.flatten_nil, List.length_nil, Nat.add_zero, List.append_nil, forGo]
    rw [if_pos kept_nil, s1, s2]
  | e1 :: es, k1 :: ks, k, H, i, ops, post, hl, he, ga, gb, l3, e => by
    have e0 : T[i]? = some 32 := by
      have : (T.drop i)[0]? = some 32 := by rw [e]; rfl
      simpa using this
    have x1 := expect_ok (d := d) hT ga e0
    have ga1 := get_set (o' := rd T (i + 1)) ga
    have d1 : T.drop (i + 1) = fmL n e1 ++ ((es.map fun e => 32 :: fmL n e).flatten ++ 41 :: post) := by
      have := congrArg (List.drop 1) e
      simpa [List.drop_drop, Nat.add_comm] using this
    have en : Ends ((es.map fun e => 32 :: fmL n e).flatten ++ 41 :: post) := by
      intro c hc
      cases es with
      | nil => simp at hc; subst hc; rfl
      | cons e2 es => simp at hc; subst hc; rfl
    have x2 := he e1 (by simp) (H.set a (rd T (i + 1))) (i + 1) _ ga1 d1 en
    rw [set_set] at x2
    have ga2 := get_set (o' := rd T (i + 1 + (fmL n e1).length)) ga
    have gb1 : (H.set a (rd T (i + 1)))[b]? = some (.lst ops) := by rw [List.getElem?_set_ne hab]; exact gb
    have gb2 : (H.set a (rd T (i + 1 + (fmL n e1).length)))[b]? = some (.lst ops) := by rw [List.getElem?_set_ne hab]; exact gb
    have ap : appM (H.set a (rd T (i + 1 + (fmL n e1).length))) (.ref b) e1 = some ((H.set a (rd T (i + 1 + (fmL n e1).length))).set b (.lst (ops ++ [e1]))) := by
      simp only [appM, gb2]
      rw [if_pos (by rw [sz]; simp at l3; omega)]
    have ga3 : ((H.set a (rd T (i + 1 + (fmL n e1).length))).set b (.lst (ops ++ [e1])))[a]? = some (rd T (i + 1 + (fmL n e1).length)) := by rw [List.getElem?_set_ne (Ne.symm hab)]; exact ga2
    have gb3 := get_set (o' := .lst (ops ++ [e1])) gb2
    obtain ⟨k', r⟩ := form_loop hT hab (v2 := v2) (v3 := v3) (v4 := v4) (v5 := v5) es ks (some k1) _ _ _ post (by simpa using hl) (fun e h => he e (by simp [h])) ga3 gb3 (by simp at l3 ⊢; omega) (drop_more d1)
    refine ⟨k', ?_⟩
    have fin : (((H.set a (rd T (i + 1 + (fmL n e1).length))).set b (.lst (ops ++ [e1]))).set a (rd T (i + 1 + (fmL n e1).length + ((es.map fun e => 32 :: fmL n e).flatten).length))).set b (.lst (ops ++ [e1] ++ es)) = (H.set a (rd T (i + (((e1 :: es).map fun e => 32 :: fmL n e).flatten).length))).set b (.lst (ops ++ e1 :: es)) := by
      rw [List.set_comm _ _ (Ne.symm hab), set_set, set_set]
      have : i + 1 + (fmL n e1).length + ((es.map fun e => 32 :: fmL n e).flatten).length = i + (((e1 :: es).map fun e => 32 :: fmL n e).flatten).length := by simp; omega
      rw [this]
      simp
    rw [fin] at r
    simp only [forGo]
    rw [if_pos kept_nil, turn_ok (env' := [some (.ref a), some (.int z), v2, v3, v4, v5, some (.ref b), some k1]) rfl]
    have tt : exSs pg.toTx (callF pg (d + 1)) B_FormReader__form_0 [some (.ref a), some (.int z), v2, v3, v4, v5, some (.ref b), some k1] H = some (.next [some (.ref a), some (.int z), v2, v3, v4, v5, some (.ref b), some k1] ((H.set a (rd T (i + 1 + (fmL n e1).length))).set b (.lst (ops ++ [e1])))) := by
      have i1 := cl_rd ga
      have i2 := cl_rd ga1
      have il : isLst (H.set a (rd T (i + 1))) (.ref b) = true := by simp [isLst, gb1]
      rw [show SX.S [32] = (" " : Str) by decide +kernel] at x1
      generalize (H.set a (rd T (i + 1 + (fmL n e1).length))).set b (.lst (ops ++ [e1])) = H3 at *
      generalize H.set a (rd T (i + 1 + (fmL n e1).length)) = H2 at *
      generalize H.set a (rd T (i + 1)) = H1 at *
      generalize SX.S T = X at *
      generalize ((i : Nat) : Int) = zi at *
      simp [B_FormReader__form_0, i1, i2, x1, x2, il, ap]
    rw [tt]
    exact r
end
end MP
namespace MP
open PySem
section
variable {Q : List Nat → Prop} {d : Nat} {H : Hm} {a b i n : Nat} {T : List Nat}
theorem form_leaf (hT : T.length ≤ 8000000) {w post : List Nat} {es : List M} {c : Nat} {r : List Nat} {z : Int} (ew : w = c :: r) (hw : ∀ c ∈ w, stopC c = false) (lf : ∀ H, callF pg (d + 1) "read_leaf" [.str (SX.S w)] H = some (.ok (.tup es) H)) (hz : z ≤ 8) (g : H[a]? = some (rd T i)) (e : T.drop i = w ++ post) (he : Ends post) :
    callF pg (d + 2) "FormReader.form" [.ref a, .int z] H = some (.ok (.tup es) (H.set a (rd T (i + w.length)))) := by
  rw [eq_FormReader__form]
  have ei : T[i]? = some c := by
    have : (T.drop i)[0]? = some c := by rw [e, ew]; rfl
    simpa using this
  have hi := (List.getElem?_eq_some_iff.mp ei).1
  have ft := f_text g
  have fa := f_at g
  have le := lenS (h := H) hT
  have ix := ixS (h := H) hT ei
  have tk := tok_ok (d := d) hT g (by omega) e hw he
  have l1 := lf (H.set a (rd T (i + w.length)))
  have hi2 : ¬ (T.length : Int) ≤ i := by omega
  have hz2 : ¬ (8 : Int) < z := by omega
  have n40 : SX.S [c] ≠ ("(" : Str) := by
    rw [show ("(" : Str) = SX.S [40] by decide +kernel]
    intro q
    have q := SX.S_inj q
    simp at q
    subst q
    have := hw 40 (by rw [ew]; simp)
    exact absurd this (by decide)
  have i1 := cl_rd g
  have tr := fun b => trim_len (b := b) (h := H) (h1 := H.set a (rd T (i + w.length))) (by simp)
  generalize H.set a (rd T (i + w.length)) = H2 at *
  generalize SX.S T = X at *
  generalize SX.S [c] = Y at *
  generalize SX.S w = W at *
  generalize ((i : Nat) : Int) = zi at *
  simp [F_FormReader__form, ft, fa, le, hi2, hz2, ix, n40, i1, tk, l1, asgN, tr]
theorem read_form (hT : T.length ≤ 8000000) (hQ : ∀ l, Q l → NameL l) {e : M} (x : Ex Q n e) : ∀ (d : Nat) (z : Int), z + n ≤ 9 → Rds T a n (d + n + 4) z e := by
  induction x with
  | @col n l q =>
    intro d z hz H i post g e he
    rw [fm_col] at e ⊢
    have nm := hQ l q
    obtain ⟨c, r, ew⟩ : ∃ c r, l = c :: r := by
      cases l with
      | nil => exact absurd rfl nm.ne
      | cons c r => exact ⟨c, r, rfl⟩
    have := form_leaf (d := d + n + 3) (z := z) (es := [.str "column", .str (SX.S l)]) hT ew nm.stop (fun H => leaf_col (d := d + n + 2) nm) (by omega) g e he
    rw [show d + (n + 1) + 4 = d + n + 3 + 2 by omega]
    exact this
  | @val n k v x =>
    intro d z hz H i post g e he
    rw [fm_val] at e ⊢
    have := form_leaf (d := d + n + 3) (z := z) (es := [.str "value", v]) hT rfl (val_stop x) (fun H => leaf_val (d := d + n) x) (by omega) g e he
    rw [show d + (n + 1) + 4 = d + n + 3 + 2 by omega]
    exact this
  | @op n w es hl x ih =>
    intro d z hz H i post g e he
    have bl := ex_below (Ex.op hl x)
    rw [fm_op] at e ⊢
    rw [show d + (n + 1) + 4 = (d + n + 4) + 1 by omega, eq_FormReader__form]
    generalize eF : (es.map fun e => 32 :: fmL n e).flatten = F at *
    have ei : T[i]? = some 40 := by
      have : (T.drop i)[0]? = some 40 := by rw [e]; rfl
      simpa using this
    have hi := (List.getElem?_eq_some_iff.mp ei).1
    have ft := f_text g
    have fa := f_at g
    have le := lenS (h := H) hT
    have ix := ixS (h := H) hT ei
    have hi2 : ¬ (T.length : Int) ≤ i := by omega
    have hz2 : ¬ (8 : Int) < z := by omega
    have sa := s_at (z := (i : Int) + 1) g (by omega)
    -- past the bracket
    have g1 := get_set (o' := rd T (i + 1)) g
    have d1 : T.drop (i + 1) = w.l ++ (F ++ 41 :: post) := by
      have := congrArg (List.drop 1) e
      simpa [List.drop_drop, Nat.add_comm] using this
    have hF : ∀ c, (F ++ 41 :: post).head? = some c → stopC c = true := by
      intro c hc
      cases es with
      | nil => simp at eF; subst eF; simp at hc; subst hc; rfl
      | cons e2 es => simp at eF; subst eF; simp at hc; subst hc; rfl
    have tk := tok_ok (d := d + n + 3) hT g1 (by omega) d1 (wk_stop w) hF
    rw [set_set, ← wk_S] at tk
    have d2 := drop_more d1
    have g2 := get_set (o' := rd T (i + 1 + w.l.length)) g
    obtain ⟨ks, kx, kl⟩ := ops_ix (H.set a (rd T (i + 1 + w.l.length)) ++ [O.lst []]) w
    have ki := ops_in (H.set a (rd T (i + 1 + w.l.length))) w
    have ha := get_lt g
    have hlen : (H.set a (rd T (i + 1 + w.l.length))).length = H.length := by simp
    have l3 : es.length ≤ 3 := by rw [hl]; cases w <;> simp [Wk.ar]
    obtain ⟨k', lp⟩ := form_loop (d := d + n + 3) (n := n) (a := a) (b := H.length) (z := z) (v2 := some (.int (i : Nat))) (v3 := none) (v4 := some (.int ((i + 1 : Nat) : Int))) (v5 := some (.str w.nm)) hT (by omega) es ks none (H.set a (rd T (i + 1 + w.l.length)) ++ [O.lst []]) (i + 1 + w.l.length) [] post (by omega) (fun e1 h1 => ih e1 h1 d (z + 1) (by omega)) (get_app g2) (by rw [← hlen]; exact get_last) (by simp; exact l3) (by rw [eF]; exact d2)
    rw [eF] at lp
    have hp : ((H.set a (rd T (i + 1 + w.l.length)) ++ [O.lst []]).set a (rd T (i + 1 + w.l.length + F.length))).set H.length (.lst ([] ++ es)) = H.set a (rd T (i + 1 + w.l.length + F.length)) ++ [O.lst es] := by
      rw [List.set_append_left _ _ (by simp; exact ha), set_set, List.set_append_right _ _ (by simp)]
      simp
    rw [hp] at lp
    have d3 := drop_more d2
    have e3 : T[i + 1 + w.l.length + F.length]? = some 41 := by
      have : (T.drop (i + 1 + w.l.length + F.length))[0]? = some 41 := by rw [d3]; rfl
      simpa using this
    have g3 : (H.set a (rd T (i + 1 + w.l.length + F.length)) ++ [O.lst es])[a]? = some (rd T (i + 1 + w.l.length + F.length)) := get_app (get_set g)
    have x3 := expect_ok (d := d + n + 3) hT g3 e3
    have hp2 : (H.set a (rd T (i + 1 + w.l.length + F.length)) ++ [O.lst es]).set a (rd T (i + 1 + w.l.length + F.length + 1)) = H.set a (rd T (i + (40 :: (w.l ++ (F ++ [41]))).length)) ++ [O.lst es] := by
      rw [List.set_append_left _ _ (by simp; exact ha), set_set]
      congr 3
      simp
      omega
    rw [hp2] at x3
    have g4 : (H.set a (rd T (i + (40 :: (w.l ++ (F ++ [41]))).length)) ++ [O.lst es])[H.length]? = some (.lst es) := by
      have := get_last (h := H.set a (rd T (i + (40 :: (w.l ++ (F ++ [41]))).length))) (o := .lst es)
      simpa using this
    have tr : trim H (H.set a (rd T (i + (40 :: (w.l ++ (F ++ [41]))).length)) ++ [O.lst es]) true = H.set a (rd T (i + (40 :: (w.l ++ (F ++ [41]))).length)) := trim_set rfl
    have bb := bl H.length
    have s4 : 1 + es.length ≤ sizeLine := by rw [sz]; omega
    have i1 := cl_rd g1
    have i3 := cl_rd g3
    have fa1 := f_at g1
    rw [show SX.S [41] = (")" : Str) by decide +kernel] at x3
    rw [show SX.S [40] = ("(" : Str) by decide +kernel] at ix
    rw [show ((i + 1 : Nat) : Int) = (i : Int) + 1 by omega] at lp fa1
    have lp2 : exS pg.toTx (callF pg (d + n + 4)) (.for_ (.nm 7) (.v (.ix (.glo "OPERANDS") (.var 5))) B_FormReader__form_0) [some (.ref a), some (.int z), some (.int (i : Nat)), none, some (.int ((i : Int) + 1)), some (.str w.nm), some (.ref H.length), none] (H.set a (rd T (i + 1 + w.l.length)) ++ [O.lst []]) = _ := (run_for (xg := (ks, [])) (h1 := H.set a (rd T (i + 1 + w.l.length)) ++ [O.lst []]) (by simp [-con_OPERANDS, con_ops, kx, iterM, itemsM, guardM])).trans lp
    generalize H.set a (rd T (i + (40 :: (w.l ++ (F ++ [41]))).length)) = H5 at *
    generalize H.set a (rd T (i + 1 + w.l.length + F.length)) ++ [O.lst es] = H4 at *
    generalize H.set a (rd T (i + 1 + w.l.length)) = H3 at *
    generalize H.set a (rd T (i + 1)) = H1 at *
    generalize SX.S T = X at *
    generalize ((i : Nat) : Int) = zi at *
    generalize w.nm = W at *
    simp [F_FormReader__form, ft, fa, le, hi2, hz2, ix, i1, sa, fa1, augI, tk, asgN, -con_OPERANDS, con_ops, ki, lp2, hlen, i3, x3, itemsM, g4, binM, s4, tr, bb]
end
end MP
namespace MP
open PySem
section
variable {Q : List Nat → Prop} {d n : Nat} {h : Hm} {T : List Nat}
theorem init_ok : callF pg (d + 1) "FormReader.__init__" [.ref h.length, .str (SX.S T)] (h ++ [.ins "FormReader" []]) = some (.ok .non (h ++ [rd T 0])) := by
  rw [eq_FormReader____init__]
  have s1 : setfM pg.toTx (h ++ [.ins "FormReader" []]) (.ref h.length) "text" (.str (SX.S T)) = some (h ++ [.ins "FormReader" [("text", .str (SX.S T))]]) := by
    simp [setfM, putFM]
  have s2 : setfM pg.toTx (h ++ [.ins "FormReader" [("text", .str (SX.S T))]]) (.ref h.length) "at" (.int 0) = some (h ++ [rd T 0]) := by
    simp [setfM, putFM, rd]
  have tr := trim_len (b := true) (h := h ++ [O.ins "FormReader" []]) (h1 := h ++ [rd T 0]) (by simp)
  generalize h ++ [rd T 0] = H2 at *
  generalize h ++ [O.ins "FormReader" [("text", .str (SX.S T))]] = H1 at *
  generalize h ++ [O.ins "FormReader" []] = H0 at *
  generalize SX.S T = X at *
  simp [F_FormReader____init__, s1, s2, tr]
theorem readex_ok (hQ : ∀ l, Q l → NameL l) (hn : n ≤ 8) {e : M} (x : Ex Q n e) : callF pg (d + n + 5) "read_expression" [.str (SX.S (fmL n e))] h = some (.ok e h) := by
  rw [eq_read_expression]
  have fl : (fmL n e).length ≤ 2000000 := Nat.le_trans (fm_len (fun l q => (hQ l q).len) x) (Nat.le_trans (Bl_mono hn) Bl8)
  have ii := init_ok (d := d + n + 3) (h := h) (T := fmL n e)
  have g0 : (h ++ [rd (fmL n e) 0])[h.length]? = some (rd (fmL n e) 0) := get_last
  have rf := read_form (T := fmL n e) (a := h.length) (by omega) hQ x d 1 (by omega) (h ++ [rd (fmL n e) 0]) 0 [] g0 (by simp) (fun c hc => by simp at hc)
  have e1 : (h ++ [rd (fmL n e) 0]).set h.length (rd (fmL n e) (0 + (fmL n e).length)) = h ++ [rd (fmL n e) (fmL n e).length] := by
    rw [List.set_append_right _ _ (by simp), Nat.zero_add]
    simp
  rw [e1] at rf
  have g1 : (h ++ [rd (fmL n e) (fmL n e).length])[h.length]? = some (rd (fmL n e) (fmL n e).length) := get_last
  have fa := f_at g1
  have le := lenS (h := h ++ [rd (fmL n e) (fmL n e).length]) (l := fmL n e) (by omega)
  have i1 := cl_rd g0
  have tr := trim_app (h := h) (e := [rd (fmL n e) (fmL n e).length])
  have bb := ex_below x h.length
  generalize h ++ [rd (fmL n e) (fmL n e).length] = H2 at *
  generalize h ++ [rd (fmL n e) 0] = H1 at *
  generalize ((fmL n e).length : Int) = z at *
  generalize SX.S (fmL n e) = X at *
  simp [F_read_expression, makM, ii, asgN, i1, rf, fa, le, bb, tr]
end
end MP
namespace MP
open PySem
instance libE : LibE pg := ⟨draws, fn__law_draw, ⟨df__law_lowest, fn__law_lowest⟩, ⟨df__law_rational, fn__law_rational⟩, ⟨df__law_leaf, fn__law_leaf⟩, ⟨df__law_expression, fn__law_expression⟩⟩
/-! ### expressions as data -/
section
variable {S : Nat → Prop} {h : Hm}
theorem dat_str {x : Str} (o : PyData.strOk x = true) (l : x.length ≤ 12) : Dat S h 1 122 (.str x) := ⟨.str x, (shw_str o).mono (by omega), fun h' _ n => rfl⟩
theorem dat_int {i : Int} (s : Sm 140 i) : Dat S h 1 141 (.int i) := ⟨.int i, shw_int s (by omega) (by omega), fun h' _ n => rfl⟩
theorem dat_bl {b : Bool} : Dat S h 1 5 (.bl b) := ⟨.bool b, shw_bool, fun h' _ n => rfl⟩
theorem val_dat {k : Kn} {v : M} (x : Val k v) : Dat S h 4 289 v := by
  cases x with
  | @num p q x y =>
    have a := Dats.all (S := S) (h := h) (f := 1) (b := 141) (by omega) (xs := [.int p, .int q]) (fun v hv => by
      simp at hv
      rcases hv with rfl | rfl
      · exact dat_int x.sp
      · exact dat_int x.sq)
    exact (Dat.tup a).mono (by simp) (by simp)
  | wrd ok nm => exact (dat_str (okL_str (name_okL ok)) (by rw [SX.S_len]; exact ok.len)).mono (by omega) (by omega)
  | flg => exact dat_bl.mono (by omega) (by omega)
def Be : Nat → Nat
  | 0 => 500
  | n + 1 => 3 * Be n + 140
theorem Be_ge (n : Nat) : 500 ≤ Be n := by
  induction n with
  | zero => exact Nat.le_refl _
  | succ n ih => simp only [Be]; omega
theorem wk_dat (w : Wk) : Dat S h 1 122 (.str w.nm) := by cases w <;> exact dat_str (by decide +kernel) (by decide +kernel)
theorem ex_dat {Q : List Nat → Prop} (hQ : ∀ l, Q l → NameL l) {n : Nat} {e : M} (x : Ex Q n e) : Dat S h (4 + 5 * n) (Be n) e := by
  induction x with
  | @col n l q =>
    have nm := hQ l q
    have a := Dats.all (S := S) (h := h) (f := 1) (b := 122) (by omega) (xs := [.str "column", .str (SX.S l)]) (fun v hv => by
      simp at hv
      rcases hv with rfl | rfl
      · exact dat_str (by decide +kernel) (by decide +kernel)
      · exact dat_str (okL_str (name_okL nm)) (by rw [SX.S_len]; exact nm.len))
    exact (Dat.tup a).mono (by simp <;> omega) (by have := Be_ge (n + 1); simp; omega)
  | @val n k v x =>
    have a := Dats.cons (dat_str (S := S) (h := h) (x := "value") (by decide +kernel) (by decide +kernel) |>.mono (show 1 ≤ 5 by omega) (Nat.le_refl _)) (Dats.cons (val_dat (S := S) (h := h) x) ((Dats.nil (f := 4) (by omega))))
    exact (Dat.tup a).mono (by omega) (by have := Be_ge (n + 1); omega)
  | @op n w es hl x ih =>
    have a := Dats.all (S := S) (h := h) (by omega) ih
    have b := Dats.cons ((wk_dat (S := S) (h := h) w).mono (show 1 ≤ 4 + 5 * n + es.length by omega) (Nat.le_refl _)) a
    have l3 : es.length ≤ 3 := by rw [hl]; cases w <;> simp [Wk.ar]
    have m : es.length * (Be n + 2) ≤ 3 * (Be n + 2) := Nat.mul_le_mul_right _ l3
    exact (Dat.tup b).mono (by omega) (by simp only [Be]; omega)
theorem ex_repr {Q : List Nat → Prop} (hQ : ∀ l, Q l → NameL l) {n : Nat} (hn : n ≤ 8) {e : M} (x : Ex Q n e) : ∃ s : Str, ∀ h', reprD h' e = some (.str s) := by
  have d := ex_dat (S := fun _ => True) (h := []) hQ (x.mono hn)
  obtain ⟨s, q⟩ := d.rep (by omega) (by decide)
  exact ⟨s, fun h' => q h' ⟨by simp, fun i hi => by simp at hi⟩⟩
end
/-! ### deep forms drawn -/
section
variable {Q : List Nat → Prop} {d t : Nat} {h : Hm} {cols : Cols}
theorem deep_turn (hQ : ∀ l, NameL l → Q l) {m : Nat} {e : M} (T : Tape h t) (x : Ex Q (m + 2) e) {v1 v2 v4 v5 v6 v7 : Option M} :
    ∃ e' h' f5 f6 f7, exSs pg.toTx (callF pg (d + 2)) B__law_deep_0 [some (.ref t), v1, v2, some e, v4, v5, v6, v7] h = some (.next [some (.ref t), v1, v2, some e', v4, f5, f6, f7] h') ∧ Ex Q (m + 3) e' ∧ Kp (On t) h h' ∧ Tape h' t := by
  obtain ⟨p, q, h1, c1, rq, il, K1, T1, l1⟩ := rat_ok (P := pg) (d := d) true T
  obtain ⟨l, o, c2, nm, T2⟩ := name_ok (P := pg) (d := d) draws fn__law_draw df__law_name T1
  have K2 : Kp (On t) h (h1.set t o) := K1.trans Kp.on
  generalize h1.set t o = h2 at *
  obtain ⟨N, eN⟩ : ∃ N, N = M.tup [.str "value", rat p q] := ⟨_, rfl⟩
  obtain ⟨W, eW⟩ : ∃ W, W = M.tup [.str "value", .str (SX.S l)] := ⟨_, rfl⟩
  have xN : Ex Q (m + 1) N := by rw [eN]; exact .val (.num rq il)
  have xW : Ex Q (m + 1) W := by rw [eW]; exact .val (.wrd nm nm.isNm)
  have two : ∀ (w : Wk) {n : Nat} {a b : M}, w.ar = 2 → Ex Q n a → Ex Q n b → Ex Q (n + 1) (.tup [.str w.nm, a, b]) := fun w {n a b} hw xa xb => .op (es := [a, b]) (by simp [hw]) fun e he => by simp at he; rcases he with rfl | rfl; exact xa; exact xb
  obtain ⟨A, eA⟩ : ∃ A, A = M.tup [.str "not", e] := ⟨_, rfl⟩
  obtain ⟨B, eB⟩ : ∃ A, A = M.tup [.str "either", e, .tup [.str "same", N, N]] := ⟨_, rfl⟩
  obtain ⟨C, eC⟩ : ∃ A, A = M.tup [.str "if", e, e, .tup [.str "value", .bl true]] := ⟨_, rfl⟩
  obtain ⟨D, eD⟩ : ∃ A, A = M.tup [.str "both", .tup [.str "same", W, W], e] := ⟨_, rfl⟩
  have xA : Ex Q (m + 3) A := by rw [eA]; exact .op (w := .not) (es := [e]) rfl fun y hy => by simp at hy; subst hy; exact x
  have xB : Ex Q (m + 3) B := by rw [eB]; exact two .either rfl x (two .same rfl xN xN)
  have xC : Ex Q (m + 3) C := by
    rw [eC]
    refine .op (w := .ife) (es := [e, e, .tup [.str "value", .bl true]]) rfl fun y hy => ?_
    simp at hy
    rcases hy with rfl | rfl
    · exact x
    · exact .val .flg
  have xD : Ex Q (m + 3) D := by rw [eD]; exact two .both rfl (two .same rfl xW xW) x
  have ba : binM .add (.ref h2.length) (.ref (h2.length + 1)) (h2 ++ [.lst [A, B], .lst [C, D]]) = some (.ok (.ref (h2.length + 2)) (h2 ++ [.lst [A, B], .lst [C, D], .lst [A, B, C, D]])) := by
    simp only [binM, get_lc0, get_lc1]
    rw [if_pos (by rw [sz]; simp)]
    simp
  obtain ⟨r, h4, c4, r0, r1, T4, K4, l4⟩ := draws.kp (d := d + 1) (many := 4) (T2.app (e := [.lst [A, B], .lst [C, D], .lst [A, B, C, D]])) (by decide) (by decide)
  have ht := tape_lt T2
  have g4 : h4[h2.length + 2]? = some (.lst [A, B, C, D]) := K4.at get_lc2 (by show ¬ _ = t; omega)
  obtain ⟨e', ee, he⟩ := at_in (l := [A, B, C, D]) (j := r) r0 (by simpa using r1)
  have ix : ixM h4 (.ref (h2.length + 2)) (.int r) = some e' := by simp [ixM, itemsM, g4, ee]
  refine ⟨e', h4, some N, some W, some (.ref (h2.length + 2)), ?_, ?_, (K2.trans Kp.app).trans K4, T4⟩
  · generalize SX.S l = L at *
    simp only [rat] at c1 eN
    simp [B__law_deep_0, c1, c2, asgN, ← eN, ← eW, ← eA, ← eB, ← eC, ← eD, ba, c4, ix]
  · simp at he
    rcases he with rfl | rfl | rfl | rfl
    · exact xA
    · exact xB
    · exact xC
    · exact xD
theorem deep_loop (hQ : ∀ l, NameL l → Q l) {v1 v2 : Option M} : ∀ (xs : List M) (m : Nat) (e : M) (h : Hm) (v4 v5 v6 v7 : Option M), Tape h t → Ex Q (m + 2) e →
    ∃ e' h' f4 f5 f6 f7, forGo (forTurn pg.toTx (callF pg (d + 2)) (.nm 4) B__law_deep_0) [] xs [some (.ref t), v1, v2, some e, v4, v5, v6, v7] h = some (.next [some (.ref t), v1, v2, some e', f4, f5, f6, f7] h') ∧ Ex Q (m + 2 + xs.length) e' ∧ Kp (On t) h h' ∧ Tape h' t
  | [], m, e, h, v4, v5, v6, v7, T, x => ⟨e, h, v4, v5, v6, v7, by simp only [forGo]; rw [if_pos kept_nil], x, Kp.refl, T⟩
  | y :: ys, m, e, h, v4, v5, v6, v7, T, x => by
    obtain ⟨e1, h1, f5, f6, f7, c1, x1, K1, T1⟩ := deep_turn (d := d) hQ (m := m) T x (v1 := v1) (v2 := v2) (v4 := some y) (v5 := v5) (v6 := v6) (v7 := v7)
    obtain ⟨e2, h2, g4, g5, g6, g7, c2, x2, K2, T2⟩ := deep_loop hQ (v1 := v1) (v2 := v2) ys (m + 1) e1 h1 (some y) f5 f6 f7 T1 (x1.mono (by omega))
    refine ⟨e2, h2, g4, g5, g6, g7, ?_, x2.mono (by simp; omega), K1.trans K2, T2⟩
    simp only [forGo]
    rw [if_pos kept_nil, turn_ok (env' := [some (.ref t), v1, v2, some e, some y, v5, v6, v7]) rfl, c1]
    exact c2
theorem deep_ok (hQ : ∀ l, NameL l → Q l) (hl : cols.length ≤ 20) (hq : ∀ c ∈ cols, Q c.1) {z : Int} (z0 : 1 ≤ z) (z1 : z ≤ 7) (T : Tape h t) : ∃ e h', callF pg (d + 4) "_law_deep" [.ref t, colsM cols, .int z] h = some (.ok e h') ∧ Ex Q 8 e ∧ Kp (On t) h h' ∧ Tape h' t := by
  have ht := tape_lt T
  rw [eq__law_deep]
  obtain ⟨e, h1, c1, x1, K1, T1⟩ := leaf_ok (P := pg) (d := d) (k := .flg) hl hq T
  simp only [kn_flg] at c1
  obtain ⟨e2, h2, f4, f5, f6, f7, lp, x2, K2, T2⟩ := deep_loop (d := d + 1) hQ (v1 := some (colsM cols)) (v2 := some (.int z)) ((List.range (z - 1).toNat).map fun i => M.int (i : Nat)) 0 e h1 none none none none T1 (x1.mono (by omega))
  have hm : evE pg.toTx (callF pg (d + 3)) (.bin .sub (.var 2) (.con (.int 1))) [some (.ref t), some (colsM cols), some (.int z), some e, none, none, none, none] h1 = some (.ok (.int (z - 1)) h1) := by simp
  have fr := (run_for (P := pg.toTx) (C := callF pg (d + 3)) (t := .nm 4) (bs := B__law_deep_0) (rng2_ok hm (by omega) (by omega))).trans lp
  refine ⟨e2, trim h h2 (below h.length e2), ?_, x2.mono (by simp; omega), (K1.trans K2).trim, T2.trim ht⟩
  generalize colsM cols = cM at *
  simp [F__law_deep, c1, asgN, fr]
end
end MP
namespace MP
open PySem
section
variable {d t : Nat} {h : Hm} {cols : Cols}
theorem check_turn {e : M} (x : Ex NameL 8 e) {v0 v1 v2 v3 v4 v5 v7 v8 v9 : Option M} : ∃ f7 f8, exSs pg.toTx (callF pg (d + 13)) B_law_0 [v0, v1, v2, v3, v4, v5, some e, v7, v8, v9] h = some (.next [v0, v1, v2, v3, v4, v5, some e, f7, f8, v9] h) := by
  obtain ⟨s, hs⟩ := ex_repr (fun l n => n) (Nat.le_refl 8) x
  have r := hs h
  have so := show_ok (fun l (n : NameL l) => n.len) x (d + 3) h (Nat.le_refl 8)
  have fo := form_ok (fun l (n : NameL l) => n.len) x (d + 3) h (Nat.le_refl 8)
  have ro := readex_ok (d := d) (h := h) (fun l (n : NameL l) => n) (Nat.le_refl 8) x
  rw [show d + 3 + 8 + 2 = d + 13 by omega] at so fo
  rw [show d + 8 + 5 = d + 13 by omega] at ro
  refine ⟨some (.str s), some (.str (SX.S (fmL 8 e))), ?_⟩
  generalize SX.S (fmL 8 e) = X at *
  simp [B_law_0, r, so, fo, ro, asgN]
theorem all2_mem {p : M → Prop} {xs zs : List M} (al : All2 (fun _ z => p z) xs zs) : ∀ z ∈ zs, p z := by
  induction al with
  | nil => intro z hz; cases hz
  | cons a _ ih =>
    intro z hz
    rcases List.mem_cons.mp hz with rfl | hz
    · exact a
    · exact ih z hz
theorem kinds_lc (hl : cols.length ≤ 20) (hq : ∀ c ∈ cols, NameL c.1) (T : Tape h t) {v0 v3 v4 v5 v6 v7 v8 v9 : Option M} : ∃ zs h', evL pg.toTx (callF pg (d + 13)) (.lc [5] (.nm 5) (.l (.lst [(.con (.str "number")), (.con (.str "word")), (.con (.str "flag"))])) none (.call "_law_expression" [(.var 1), (.var 2), (.var 5), (.con (.int 5))])) [v0, some (.ref t), some (colsM cols), v3, v4, v5, v6, v7, v8, v9] h = some (.ok zs h') ∧ zs.length = 3 ∧ (∀ e ∈ zs, Ex NameL 8 e) ∧ Kp (On t) h h' ∧ Tape h' t := by
  obtain ⟨zs, h', e, al, K, T'⟩ := lc_rel (P := pg.toTx) (C := callF pg (d + 13)) (env := [v0, some (.ref t), some (colsM cols), v3, v4, v5, v6, v7, v8, v9]) (vs := [5]) (t := .nm 5) (s := .l (.lst [(.con (.str "number")), (.con (.str "word")), (.con (.str "flag"))])) (c := none) (e := .call "_law_expression" [(.var 1), (.var 2), (.var 5), (.con (.int 5))]) (h := h) (h1 := h) (xs := [.str "number", .str "word", .str "flag"]) (gs := []) (I := fun h' => Kp (On t) h h' ∧ Tape h' t) (R := fun _ z => Ex NameL 8 z) (by simp [iterM, itemsM, guardM]) (fun _ _ => kept_nil) (by rw [sz]; decide) ⟨Kp.refl, T⟩ (by
    intro y hy h1 ⟨K1, T1⟩
    obtain ⟨k, rfl⟩ : ∃ k : Kn, y = .str k.nm := by
      simp at hy
      rcases hy with rfl | rfl | rfl
      · exact ⟨.num, rfl⟩
      · exact ⟨.wrd, rfl⟩
      · exact ⟨.flg, rfl⟩
    obtain ⟨e, h2, c, x, K2, T2⟩ := expr_ok (P := pg) (d := d + 5) (Q := NameL) hl hq 4 (k := k) (z := 5) T1 rfl
    rw [show d + 5 + 4 + 4 = d + 13 by omega] at c
    refine ⟨e, h2, ?_, x.mono (by omega), K1.trans K2, T2⟩
    generalize colsM cols = cM at *
    simp [lcTurn, wipeM, asgN, c])
  refine ⟨zs, h', e, ?_, ?_, K, T'⟩
  · cases al with
    | cons _ al => cases al with
      | cons _ al => cases al with
        | cons _ al => cases al; rfl
  · intro z hz
    exact all2_mem al z hz
theorem turn_law (hl : cols.length ≤ 20) (hq : ∀ c ∈ cols, NameL c.1) (T : Tape h t) {v0 v3 v4 v5 v6 v7 v8 v9 : Option M} : ∃ f4 f5 f6 f7 f8 h', exSs pg.toTx (callF pg (d + 13)) B_law_1 [v0, some (.ref t), some (colsM cols), v3, v4, v5, v6, v7, v8, v9] h = some (.next [v0, some (.ref t), some (colsM cols), v3, f4, f5, f6, f7, f8, v9] h') ∧ Tape h' t := by
  obtain ⟨zs, h1, e1, z3, xz, K1, T1⟩ := kinds_lc (d := d) (v0 := v0) (v3 := v3) (v4 := v4) (v5 := v5) (v6 := v6) (v7 := v7) (v8 := v8) (v9 := v9) hl hq T
  have ht1 := tape_lt T1
  -- the deep one
  obtain ⟨r, h2, c2, r0, r1, T2, K2, l2⟩ := draws.kp (d := d + 12) (many := 7) (T1.app (e := [.lst zs])) (by decide) (by decide)
  obtain ⟨ed, h3, c3, x3, K3, T3⟩ := deep_ok (d := d + 9) (Q := NameL) (fun l n => n) hl hq (z := 1 + r) (by omega) (by omega) T2
  rw [show d + 9 + 4 = d + 13 by omega] at c3
  have g0 : (h1 ++ [.lst zs])[h1.length]? = some (.lst zs) := get_last
  have nt : ¬ On t h1.length := by show ¬ _ = t; omega
  have g3 : h3[h1.length]? = some (.lst zs) := K3.at (K2.at g0 nt) nt
  have ap3 : appM h3 (.ref h1.length) ed = some (h3.set h1.length (.lst (zs ++ [ed]))) := by
    simp only [appM, g3]
    rw [if_pos (by rw [sz]; omega)]
  have T3' : Tape (h3.set h1.length (.lst (zs ++ [ed]))) t := T3.put (by omega)
  have g4 := get_set (o' := .lst (zs ++ [ed])) g3
  generalize eh4 : h3.set h1.length (.lst (zs ++ [ed])) = h4 at *
  -- two values
  obtain ⟨p, q, h5, c5, rq, il, K5, T5, l5⟩ := rat_ok (P := pg) (d := d + 11) true T3'
  obtain ⟨l, o, c6, nm, T6⟩ := name_ok (P := pg) (d := d + 11) draws fn__law_draw df__law_name T5
  have K6 : Kp (On t) h4 (h5.set t o) := K5.trans Kp.on
  generalize h5.set t o = h6 at *
  have g6 : h6[h1.length]? = some (.lst (zs ++ [ed])) := K6.at g4 nt
  obtain ⟨N, eN⟩ : ∃ N, N = M.tup [.str "value", rat p q] := ⟨_, rfl⟩
  obtain ⟨W, eW⟩ : ∃ W, W = M.tup [.str "value", .str (SX.S l)] := ⟨_, rfl⟩
  have xN : Ex NameL 8 N := by rw [eN]; exact .val (.num rq il)
  have xW : Ex NameL 8 W := by rw [eW]; exact .val (.wrd nm nm.isNm)
  have ba : binM .add (.ref h1.length) (.ref h6.length) (h6 ++ [.lst [N, W]]) = some (.ok (.ref (h6.length + 1)) (h6 ++ [O.lst [N, W], O.lst (zs ++ [ed] ++ [N, W])])) := by
    simp only [binM, get_app g6, get_last]
    rw [if_pos (by rw [sz]; simp; omega)]
    simp
  -- a column
  obtain ⟨l7, o7, c7, nm7, T7⟩ := name_ok (P := pg) (d := d + 11) (h := h6 ++ [.lst [N, W], .lst (zs ++ [ed] ++ [N, W])]) draws fn__law_draw df__law_name T6.app
  have ht6 := tape_lt T6
  have gl : (h6 ++ [O.lst [N, W], O.lst (zs ++ [ed] ++ [N, W])])[h6.length + 1]? = some (.lst (zs ++ [ed] ++ [N, W])) := get_lc1
  have g7 : ((h6 ++ [O.lst [N, W], O.lst (zs ++ [ed] ++ [N, W])]).set t o7)[h6.length + 1]? = some (.lst (zs ++ [ed] ++ [N, W])) := by
    rw [get_other (by omega)]
    exact gl
  have il7 : isLst (h6 ++ [O.lst [N, W], O.lst (zs ++ [ed] ++ [N, W])]) (.ref (h6.length + 1)) = true := by simp only [isLst, gl]
  generalize (h6 ++ [O.lst [N, W], O.lst (zs ++ [ed] ++ [N, W])]) = h7a at *
  generalize h7a.set t o7 = h7 at *
  obtain ⟨Z, eZ⟩ : ∃ W, W = M.tup [.str "column", .str (SX.S l7)] := ⟨_, rfl⟩
  have xZ : Ex NameL 8 Z := by rw [eZ]; exact .col nm7
  have ap7 : appM h7 (.ref (h6.length + 1)) Z = some (h7.set (h6.length + 1) (.lst (zs ++ [ed] ++ [N, W] ++ [Z]))) := by
    simp only [appM, g7]
    rw [if_pos (by rw [sz]; simp; omega)]
  have T8 : Tape (h7.set (h6.length + 1) (.lst (zs ++ [ed] ++ [N, W] ++ [Z]))) t := T7.put (by omega)
  have g8 := get_set (o' := .lst (zs ++ [ed] ++ [N, W] ++ [Z])) g7
  generalize h7.set (h6.length + 1) (.lst (zs ++ [ed] ++ [N, W] ++ [Z])) = h8 at *
  have xs : ∀ e ∈ zs ++ [ed] ++ [N, W] ++ [Z], Ex NameL 8 e := by
    intro e he
    simp at he
    rcases he with he | rfl | rfl | rfl | rfl
    · exact xz e he
    · exact x3
    · exact xN
    · exact xW
    · exact xZ
  -- each is shown and read
  obtain ⟨env', h', lp, I⟩ := for_inv (f := forTurn pg.toTx (callF pg (d + 13)) (.nm 6) B_law_0) (gs := [(h6.length + 1, .lst (zs ++ [ed] ++ [N, W] ++ [Z]))]) (I := fun env h => (∃ f6 f7 f8, env = [v0, some (.ref t), some (colsM cols), v3, some (.ref (h6.length + 1)), v5, f6, f7, f8, v9]) ∧ h = h8) (fun _ h i z hz => by simp only [List.mem_singleton] at hz; subst hz; rw [i.2]; exact g8) (xs := zs ++ [ed] ++ [N, W] ++ [Z]) (by
    rintro x hx env h ⟨⟨f6, f7, f8, rfl⟩, rfl⟩
    obtain ⟨k7, k8, q⟩ := check_turn (d := d) (h := h) (xs x hx) (v0 := v0) (v1 := some (.ref t)) (v2 := some (colsM cols)) (v3 := v3) (v4 := some (.ref (h6.length + 1))) (v5 := v5) (v7 := f7) (v8 := f8) (v9 := v9)
    refine ⟨_, _, ?_, ⟨some x, k7, k8, rfl⟩, rfl⟩
    rw [turn_ok (env' := [v0, some (.ref t), some (colsM cols), v3, some (.ref (h6.length + 1)), v5, some x, f7, f8, v9]) rfl]
    exact q) (env := [v0, some (.ref t), some (colsM cols), v3, some (.ref (h6.length + 1)), v5, v6, v7, v8, v9]) (h := h8) ⟨⟨v6, v7, v8, rfl⟩, rfl⟩
  obtain ⟨⟨f6, f7, f8, rfl⟩, rfl⟩ := I
  generalize zs ++ [ed] ++ [N, W] ++ [Z] = ws at *
  have fr := (run_for (P := pg.toTx) (C := callF pg (d + 13)) (t := .nm 6) (it := .v (.var 4)) (bs := B_law_0) (env := [v0, some (.ref t), some (colsM cols), v3, some (.ref (h6.length + 1)), v5, v6, v7, v8, v9]) (h := h') (h1 := h') (xg := (ws, [(h6.length + 1, .lst ws)])) (by simp [iterM, itemsM, guardM, g8])).trans lp
  refine ⟨some (.ref (h6.length + 1)), v5, f6, f7, f8, h', ?_, T8⟩
  have il1 : isLst (h1 ++ [.lst zs]) (.ref h1.length) = true := by simp only [isLst, g0]
  generalize colsM cols = cM at *
  simp only [rat] at c5 eN
  generalize SX.S l = L at *
  generalize SX.S l7 = L7 at *
  simp [B_law_1, e1, asgN, il1, c2, c3, ap3, c5, c6, ← eN, ← eW, ba, il7, c7, ← eZ, ap7, fr]
end
end MP
namespace MP
open PySem
theorem tape0 {d : Nat} {ns : List Int} : ∃ h', callF pg (d + 1) "_law_tape" [.rol (ns.map M.int)] [] = some (.ok (.ref 2) h') ∧ Tape h' 2 := by
  rw [eq__law_tape]
  refine ⟨[.lst ((cut ns none (some 63)).map M.int), .lst ((cut ns none (some 63)).map M.int), .lst [.ref 1, .int 0, .int 0, .int 17]], ?_, ⟨1, cut ns none (some 63), 0, 0, 17, rfl, by decide, rfl, by decide, by decide, by decide⟩⟩
  simp [F__law_tape, slM, itemsM, cut_map]
/-- the one form that the law names -/
def oneE : M := .tup [.str "less", .tup [.str "plus", .tup [.str "column", .str "a"], .tup [.str "value", .tup [.int 1, .int 2]]], .tup [.str "value", .tup [.int (-3), .int 1]]]
theorem one_ex : Ex NameL 8 oneE := by
  have nmA : NameL [97] := ⟨by simp, by decide, by decide, by simp⟩
  have A : Ex NameL 6 (.tup [.str "column", .str "a"]) := by
    rw [show ("a" : Str) = SX.S [97] by decide +kernel]
    exact .col nmA
  have sm : ∀ z : Int, z.natAbs < 8 → Sm 140 z := fun z hz => by
    unfold Sm
    have : (8 : Nat) ≤ 2 ^ 140 := by decide +kernel
    omega
  have B : Ex NameL 6 (.tup [.str "value", .tup [.int 1, .int 2]]) := .val (.num ⟨by decide, by decide, sm _ (by decide), sm _ (by decide)⟩ ⟨by decide, by decide⟩)
  have C : Ex NameL 7 (.tup [.str "value", .tup [.int (-3), .int 1]]) := .val (.num ⟨by decide, by decide, sm _ (by decide), sm _ (by decide)⟩ ⟨by decide, by decide⟩)
  have P : Ex NameL 7 (.tup [.str "plus", .tup [.str "column", .str "a"], .tup [.str "value", .tup [.int 1, .int 2]]]) := .op (w := .plus) (es := [_, _]) rfl fun e he => by
    simp at he
    rcases he with rfl | rfl
    · exact A
    · exact B
  exact .op (w := .less) (es := [_, _]) rfl fun e he => by
    simp at he
    rcases he with rfl | rfl
    · exact P
    · exact C
theorem one_fm : SX.S (fmL 8 oneE) = ("(less (plus a =1/2) =-3)" : Str) := by decide +kernel
theorem law_run (ns : List Int) : ∃ h', callF pg (30 + 1) D_law.name [.rol (ns.map M.int)] [] = some (.ok (.bl true) h') := by
  show ∃ h', callF pg (30 + 1) "law" [.rol (ns.map M.int)] [] = some (.ok (.bl true) h')
  rw [eq_law]
  obtain ⟨h1, c1, T1⟩ := tape0 (d := 29) (ns := ns)
  obtain ⟨cols, o, c2, nd, no, cl, pf, T2⟩ := columns_ok (P := pg) (d := 26) (h := h1) (ld := .tup [.str "number"]) (tk := .tup []) (mn := 6) (ks0 := [.num]) (ns0 := []) ⟨df__law_columns, fn__law_columns⟩ T1 (by simp [itemsM, Kn.nm]) (by simp [itemsM]) (by simp) (by omega) (by omega) (by simp) (by simp)
  have cl' : cols.length ≤ 20 := by simp at cl; omega
  generalize h1.set 2 o = h2 at *
  obtain ⟨env', h', lp, I⟩ := for_inv (f := forTurn pg.toTx (callF pg 30) (.nm 3) B_law_1) (gs := []) (I := fun env h => (∃ f3 f4 f5 f6 f7 f8, env = [some (.rol (ns.map M.int)), some (.ref 2), some (colsM cols), f3, f4, f5, f6, f7, f8, none]) ∧ Tape h 2) (fun _ _ _ => kept_nil) (xs := (List.range (6 : Int).toNat).map fun i => M.int (i : Nat)) (by
    rintro x hx env h ⟨⟨f3, f4, f5, f6, f7, f8, rfl⟩, T⟩
    obtain ⟨g4, g5, g6, g7, g8, h', q, T'⟩ := turn_law (d := 17) cl' no T (v0 := some (.rol (ns.map M.int))) (v3 := some x) (v4 := f4) (v5 := f5) (v6 := f6) (v7 := f7) (v8 := f8) (v9 := none)
    refine ⟨_, h', ?_, ⟨some x, g4, g5, g6, g7, g8, rfl⟩, T'⟩
    rw [turn_ok (env' := [some (.rol (ns.map M.int)), some (.ref 2), some (colsM cols), some x, f4, f5, f6, f7, f8, none]) rfl]
    exact q) (env := [some (.rol (ns.map M.int)), some (.ref 2), some (colsM cols), none, none, none, none, none, none, none]) (h := h2) ⟨⟨none, none, none, none, none, none, rfl⟩, T2⟩
  have hm : evE pg.toTx (callF pg 30) (.con (.int 6)) [some (.rol (ns.map M.int)), some (.ref 2), some (colsM cols), none, none, none, none, none, none, none] h2 = some (.ok (.int 6) h2) := by simp
  have fr := (run_for (P := pg.toTx) (C := callF pg 30) (t := .nm 3) (bs := B_law_1) (rng2_ok hm (by omega) (by omega))).trans lp
  obtain ⟨⟨f3, f4, f5, f6, f7, f8, rfl⟩, T'⟩ := I
  have so := show_ok (fun l (n : NameL l) => n.len) one_ex 20 h' (Nat.le_refl 8)
  rw [one_fm] at so
  unfold oneE at so
  refine ⟨trim [] h' true, ?_⟩
  generalize colsM cols = cM at *
  simp [F_law, c1, c2, asgN, fr, so]
end MP
theorem PySem.Challenge.cw_liveclaims_k76_forms_of_expressions_holds : PySem.Challenge.rw_liveclaims_k76_forms_of_expressions.Holds :=
  MP.law_of 30 (by omega) fun ns _ _ => MP.law_run ns
