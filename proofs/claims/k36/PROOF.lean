import PyProof.Rows.All
import Wide.All
import OpenK.AllK
import Wide.FinOn
import PySem.Str
import HandS.ForMost
import HandS.ForExc
import HandS.IsInst
import HandS.TupAny
import HandS.WordsDict
import HandS.WideBits
import HandS.Conv
import HandS.More
import HandS.SortInts
import HandS.DeepEq
import HandS.DictComp
import HandS.Style
import HandS.Property
import HandS.OwnEq
import KE.KCallOwn
import HandS.ExcInit
import HandS.ExcField
import HandS.FStr
import KE.KExcSuper
import PyProof.ReprNest
import PyProof.ReprDict
import HandS.Ends
import PySem.Challenge.RW_stillsure_k36_stories_at_least_as_bad
/-! Pm0: plain data, the store of shared objects, and the monad of the mirrors. No program here. -/
namespace PM
open PySem

inductive D where
  | non
  | bl (b : Bool)
  | int (i : Int)
  | str (x : Str)
  | lst (xs : List D)
  | tup (xs : List D)
  | dct (kvs : List (D × D))
  | obj (c : String) (fs : List D)
  | cel (n : Nat)
  | scr (ns : List Int)

inductive MC where
  | lst (xs : List D)
  | dct (kvs : List (D × D))
  | obj (c : String) (fs : List D)
  | dead

abbrev Store := List MC

structure Exc where
  c : String
  fs : List D

inductive R (α : Type) where
  | ok (a : α) (s : Store)
  | err (e : Exc) (s : Store)
  | bad

def M (α : Type) : Type := Store → R α

def M.ret {α : Type} (a : α) : M α := fun s => .ok a s
def M.bnd {α β : Type} (m : M α) (f : α → M β) : M β := fun s => match m s with
  | .ok a s' => f a s'
  | .err e s' => .err e s'
  | .bad => .bad
instance : Monad M where
  pure := M.ret
  bind := M.bnd
def bad {α : Type} : M α := fun _ => .bad
def throw {α : Type} (e : Exc) : M α := fun s => .err e s
/-- a size within the line, or nothing is said -/
def fits {α : Type} (n : Nat) (m : M α) : M α := if n ≤ 16777216 then m else bad
/-- a test that is not computed -/
noncomputable def cdec (p : Prop) : Bool := @decide p (Classical.propDecidable p)
theorem cdec_iff {p : Prop} : cdec p = true ↔ p := @decide_eq_true_iff p (Classical.propDecidable p)
noncomputable def cif {α : Type} (p : Prop) (a b : α) : α := @ite α p (Classical.propDecidable p) a b
theorem cif_pos {α : Type} {p : Prop} {a b : α} (h : p) : cif p a b = a := if_pos h
theorem cif_neg {α : Type} {p : Prop} {a b : α} (h : ¬ p) : cif p a b = b := if_neg h
def guardM {α : Type} (c : Bool) (m : M α) : M α := if c = true then m else bad

@[simp] theorem pure_run {α : Type} (a : α) (s : Store) : (pure a : M α) s = .ok a s := (rfl)
@[simp] theorem bad_run {α : Type} (s : Store) : (bad : M α) s = .bad := (rfl)
@[simp] theorem throw_run {α : Type} (e : Exc) (s : Store) : (throw e : M α) s = .err e s := (rfl)
theorem bind_run {α β : Type} (m : M α) (f : α → M β) (s : Store) : (m >>= f) s = (match m s with
  | .ok a s' => f a s'
  | .err e s' => .err e s'
  | .bad => .bad) := (rfl)
theorem bind_ok {α β : Type} {m : M α} {f : α → M β} {s s' : Store} {a : α} (h : m s = .ok a s') : (m >>= f) s = f a s' := by
  rw [bind_run, h]
@[simp] theorem pure_bind' {α β : Type} (a : α) (f : α → M β) : ((pure a : M α) >>= f) = f a := (rfl)
@[simp] theorem bad_bind {α β : Type} (f : α → M β) : ((bad : M α) >>= f) = bad := (rfl)
@[simp] theorem bind_assoc' {α β γ : Type} (m : M α) (f : α → M β) (g : β → M γ) : ((m >>= f) >>= g) = (m >>= fun a => f a >>= g) := by
  funext s
  show (match (match m s with | .ok a s' => f a s' | .err e s' => .err e s' | .bad => .bad) with | .ok a s' => g a s' | .err e s' => .err e s' | .bad => .bad) = _
  show _ = (match m s with | .ok a s' => (match f a s' with | .ok a s' => g a s' | .err e s' => .err e s' | .bad => .bad) | .err e s' => .err e s' | .bad => .bad)
  cases m s <;> rfl

/-- the truth of a bool -/
def asB : D → M Bool
  | .bl b => pure b
  | _ => bad
def andB (a b : M D) : M D := do
  let x ← a
  match x with
  | .bl true => b
  | .bl false => pure (.bl false)
  | _ => bad
def orB (a b : M D) : M D := do
  let x ← a
  match x with
  | .bl true => pure (.bl true)
  | .bl false => b
  | _ => bad
def notB (a : M D) : M D := do
  let x ← a
  match x with
  | .bl b => pure (.bl !b)
  | _ => bad
/-- a value's type: a built-in one, a class of the program's -/
inductive Ty where
  | b (n : String)
  | c (n : String)
def MC.ty : MC → Option Ty
  | .lst _ => some (.b "list")
  | .dct _ => some (.b "dict")
  | .obj c _ => some (.c c)
  | .dead => none
def D.ty (s : Store) : D → Option Ty
  | .non => some (.b "NoneType")
  | .bl _ => some (.b "bool")
  | .int _ => some (.b "int")
  | .str _ => some (.b "str")
  | .lst _ => some (.b "list")
  | .tup _ => some (.b "tuple")
  | .dct _ => some (.b "dict")
  | .obj c _ => some (.c c)
  | .cel n => (s[n]?).bind MC.ty
  | .scr _ => some (.b "list")
/-- isinstance against a built-in type -/
def Ty.isB (T : String) : Ty → Bool
  | .b n => n == T || (n == "bool" && T == "int")
  | .c _ => false
def mIsi (T : String) (d : D) : M D := fun s => match d.ty s with
  | some t => .ok (.bl (t.isB T)) s
  | none => .bad
/-- .. against a tuple of built-in types -/
def mIsi2 (T U : String) (d : D) : M D := fun s => match d.ty s with
  | some t => .ok (.bl (t.isB T || t.isB U)) s
  | none => .bad
/-- .. against a class of the program's; sub: which class is under which -/
def Ty.isC (sub : String → String → Bool) (c : String) : Ty → Bool
  | .b _ => false
  | .c n => n == c || sub n c
def mIsiC (sub : String → String → Bool) (c : String) (d : D) : M D := fun s => match d.ty s with
  | some t => .ok (.bl (t.isC sub c)) s
  | none => .bad
/-- an index from either end -/
def ixN (n : Nat) (i : Int) : Option Nat := if 0 ≤ i then (if i < n then some i.toNat else none) else if -(n : Int) ≤ i then some (i + n).toNat else none
def atI {α : Type} (xs : List α) (i : Int) : Option α := (ixN xs.length i).bind fun j => xs[j]?
/-- two keys of a dict -/
def keyEq : D → D → Bool
  | .int i, .int j => decide (i = j)
  | .str a, .str b => decide (a = b)
  | _, _ => false
def isKey : D → Bool
  | .int _ => true
  | .str _ => true
  | _ => false
def dLook (es : List (D × D)) (k : D) : Option D := (es.find? fun kv => keyEq kv.1 k).map (·.2)
/-- the list, the dict that is to be read -/
def seqOf (s : Store) : D → Option (List D)
  | .lst ds => some ds
  | .tup ds => some ds
  | .scr ns => some (ns.map D.int)
  | .cel n => match s[n]? with
    | some (.lst ds) => some ds
    | _ => none
  | _ => none
def dctOf (s : Store) : D → Option (List (D × D))
  | .dct es => some es
  | .cel n => match s[n]? with
    | some (.dct es) => some es
    | _ => none
  | _ => none
/-- len -/
def lenOf (s : Store) (d : D) : Option Nat := match d with
  | .str x => if x.length ≤ 16777216 then some x.length else none
  | d => match seqOf s d with
    | some ds => some ds.length
    | none => (dctOf s d).map (·.length)
def mLen (d : D) : M D := fun s => match lenOf s d with
  | some n => .ok (.int n) s
  | none => .bad
/-- x[y] -/
def ixAt (q : Option (List D)) (e : Option (List (D × D))) (y : D) : Option D := match q with
  | some ds => (match y with
    | .int i => atI ds i
    | _ => none)
  | none => match e with
    | some es => if isKey y = true then dLook es y else none
    | none => none
def ixStr (z : Str) (y : D) : Option D := match y with
  | .int i => if z.length ≤ 16777216 then (atI z.cps.toList i).map fun c => .str ⟨#[c]⟩ else none
  | _ => none
def ixOf (s : Store) (x y : D) : Option D := match x with
  | .str z => ixStr z y
  | x => ixAt (seqOf s x) (dctOf s x) y
def mIx (x y : D) : M D := fun s => match ixOf s x y with
  | some d => .ok d s
  | none => .bad
def mAdd (x y : D) : M D := match x, y with
  | .int i, .int j => pure (.int (i + j))
  | .str a, .str b => fits (a.length + b.length) (pure (.str (a ++ b)))
  | .lst a, .lst b => fits (a.length + b.length) (pure (.lst (a ++ b)))
  | .tup a, .tup b => fits (a.length + b.length) (pure (.tup (a ++ b)))
  | _, _ => bad
def mSub (x y : D) : M D := match x, y with
  | .int i, .int j => pure (.int (i - j))
  | _, _ => bad
def mLt (x y : D) : M D := match x, y with
  | .int i, .int j => pure (.bl (decide (i < j)))
  | .str a, .str b => pure (.bl (decide (a.cps.toList < b.cps.toList)))
  | _, _ => bad
def mLe (x y : D) : M D := match x, y with
  | .int i, .int j => pure (.bl (decide (i ≤ j)))
  | .str a, .str b => pure (.bl (!decide (b.cps.toList < a.cps.toList)))
  | _, _ => bad
def mGt (x y : D) : M D := mLt y x
def mGe (x y : D) : M D := mLe y x
/-! ### lists of one kind -/
def asBls : List D → Option (List Bool)
  | [] => some []
  | .bl b :: r => (asBls r).map (b :: ·)
  | _ :: _ => none
def asInts : List D → Option (List Int)
  | [] => some []
  | .int b :: r => (asInts r).map (b :: ·)
  | _ :: _ => none
def asStrs : List D → Option (List Str)
  | [] => some []
  | .str b :: r => (asStrs r).map (b :: ·)
  | _ :: _ => none
theorem asBls_map : ∀ bs : List Bool, asBls (bs.map D.bl) = some bs
  | [] => rfl
  | b :: r => by simp [asBls, asBls_map r]
theorem asInts_map : ∀ bs : List Int, asInts (bs.map D.int) = some bs
  | [] => rfl
  | b :: r => by simp [asInts, asInts_map r]
theorem asStrs_map : ∀ bs : List Str, asStrs (bs.map D.str) = some bs
  | [] => rfl
  | b :: r => by simp [asStrs, asStrs_map r]
theorem asBls_eq : ∀ {ds : List D} {bs : List Bool}, asBls ds = some bs → ds = bs.map D.bl
  | [], _, h => by cases h; rfl
  | d :: r, bs, h => by
    cases d with
    | bl b =>
      obtain ⟨c, hc, rfl⟩ := Option.map_eq_some_iff.mp (show (asBls r).map (b :: ·) = some bs from h)
      rw [asBls_eq hc]; rfl
    | _ => cases h
theorem asInts_eq : ∀ {ds : List D} {bs : List Int}, asInts ds = some bs → ds = bs.map D.int
  | [], _, h => by cases h; rfl
  | d :: r, bs, h => by
    cases d with
    | int b =>
      obtain ⟨c, hc, rfl⟩ := Option.map_eq_some_iff.mp (show (asInts r).map (b :: ·) = some bs from h)
      rw [asInts_eq hc]; rfl
    | _ => cases h
theorem asStrs_eq : ∀ {ds : List D} {bs : List Str}, asStrs ds = some bs → ds = bs.map D.str
  | [], _, h => by cases h; rfl
  | d :: r, bs, h => by
    cases d with
    | str b =>
      obtain ⟨c, hc, rfl⟩ := Option.map_eq_some_iff.mp (show (asStrs r).map (b :: ·) = some bs from h)
      rw [asStrs_eq hc]; rfl
    | _ => cases h
/-! ### sorting -/
section
variable {α : Type}
def ins (le : α → α → Bool) (x : α) : List α → List α
  | [] => [x]
  | y :: r => if le x y = true then x :: y :: r else y :: ins le x r
def isort (le : α → α → Bool) : List α → List α
  | [] => []
  | x :: r => ins le x (isort le r)
theorem ins_perm (le : α → α → Bool) (x : α) : ∀ l, (ins le x l).Perm (x :: l)
  | [] => List.Perm.refl _
  | y :: r => by
    unfold ins
    split
    · exact List.Perm.refl _
    · exact ((ins_perm le x r).cons y).trans (List.Perm.swap x y r)
theorem isort_perm (le : α → α → Bool) : ∀ l, (isort le l).Perm l
  | [] => List.Perm.refl _
  | x :: r => (ins_perm le x _).trans ((isort_perm le r).cons x)
theorem ins_sorted {le : α → α → Bool} (tot : ∀ a b, le a b = true ∨ le b a = true) (tr : ∀ a b c, le a b = true → le b c = true → le a c = true) (x : α) : ∀ l, l.Pairwise (fun a b => le a b = true) → (ins le x l).Pairwise (fun a b => le a b = true)
  | [], _ => List.pairwise_singleton _ _
  | y :: r, h => by
    have h' := List.pairwise_cons.mp h
    unfold ins
    split
    · rename_i hxy
      exact List.pairwise_cons.mpr ⟨fun z hz => by
        rcases List.mem_cons.mp hz with rfl | hz
        · exact hxy
        · exact tr _ _ _ hxy (h'.1 z hz), h⟩
    · rename_i hxy
      refine List.pairwise_cons.mpr ⟨fun z hz => ?_, ins_sorted tot tr x r h'.2⟩
      rcases List.mem_cons.mp ((ins_perm le x r).subset hz) with rfl | hz
      · exact (tot y z).resolve_right hxy
      · exact h'.1 z hz
theorem isort_sorted {le : α → α → Bool} (tot : ∀ a b, le a b = true ∨ le b a = true) (tr : ∀ a b c, le a b = true → le b c = true → le a c = true) : ∀ l, (isort le l).Pairwise (fun a b => le a b = true)
  | [] => List.Pairwise.nil
  | x :: r => ins_sorted tot tr x _ (isort_sorted tot tr r)
theorem sorted_unique {le : α → α → Bool} (asy : ∀ a b, le a b = true → le b a = true → a = b) : ∀ {xs ys : List α}, xs.Perm ys → xs.Pairwise (fun a b => le a b = true) → ys.Pairwise (fun a b => le a b = true) → xs = ys
  | [], ys, p, _, _ => (List.nil_perm.mp p).symm
  | x :: xs, [], p, _, _ => absurd p.length_eq (by simp)
  | x :: xs, y :: ys, p, h1, h2 => by
    have a1 := List.pairwise_cons.mp h1
    have a2 := List.pairwise_cons.mp h2
    have e : x = y := by
      rcases List.mem_cons.mp (p.subset List.mem_cons_self) with e | hx
      · exact e
      · rcases List.mem_cons.mp (p.symm.subset List.mem_cons_self) with e | hy
        · exact e.symm
        · exact asy _ _ (a1.1 y hy) (a2.1 x hx)
    subst e
    rw [sorted_unique asy (List.Perm.cons_inv p) a1.2 a2.2]
theorem isort_unique {le : α → α → Bool} (tot : ∀ a b, le a b = true ∨ le b a = true) (tr : ∀ a b c, le a b = true → le b c = true → le a c = true) (asy : ∀ a b, le a b = true → le b a = true → a = b) {xs ys : List α} (p : ys.Perm xs) (h : ys.Pairwise (fun a b => le a b = true)) : ys = isort le xs :=
  sorted_unique asy (p.trans (isort_perm le xs).symm) h (isort_sorted tot tr xs)
end
def leI (a b : Int) : Bool := decide (a ≤ b)
def leS (a b : Str) : Bool := !decide (b.cps.toList < a.cps.toList)
theorem leI_tot (a b : Int) : leI a b = true ∨ leI b a = true := by
  unfold leI
  rw [decide_eq_true_iff, decide_eq_true_iff]
  omega
theorem leI_tr (a b c : Int) (h : leI a b = true) (k : leI b c = true) : leI a c = true := by
  unfold leI at *
  rw [decide_eq_true_iff] at *
  omega
theorem leI_as (a b : Int) (h : leI a b = true) (k : leI b a = true) : a = b := by
  unfold leI at *
  rw [decide_eq_true_iff] at *
  omega
theorem leS_iff (a b : Str) : leS a b = true ↔ a.cps.toList ≤ b.cps.toList := by
  unfold leS
  rw [Bool.not_eq_true', decide_eq_false_iff_not]
  exact List.not_lt
theorem leS_tot (a b : Str) : leS a b = true ∨ leS b a = true := by
  rw [leS_iff, leS_iff]
  exact List.le_total _ _
theorem leS_tr (a b c : Str) (h : leS a b = true) (k : leS b c = true) : leS a c = true := by
  rw [leS_iff] at *
  exact List.le_trans h k
theorem str_ext {a b : Str} (h : a.cps.toList = b.cps.toList) : a = b := by
  cases a with
  | mk x => cases b with
    | mk y => exact congrArg Str.mk (Array.toList_inj.mp h)
theorem leS_as (a b : Str) (h : leS a b = true) (k : leS b a = true) : a = b := by
  rw [leS_iff] at *
  exact str_ext (List.le_antisymm h k)
/-! ### dicts -/
def dHas (es : List (D × D)) (k : D) : Bool := es.any fun kv => keyEq kv.1 k
def dPut (es : List (D × D)) (k d : D) : List (D × D) := if dHas es k = true then es.map (fun kv => if keyEq kv.1 k = true then (kv.1, d) else kv) else es ++ [(k, d)]
def dMerge (es more : List (D × D)) : List (D × D) := more.foldl (fun acc kv => dPut acc kv.1 kv.2) es
end PM
set_option Elab.async false
set_option linter.all false
set_option maxRecDepth 100000
set_option maxHeartbeats 2000000
/-! Pm1: how plain data stand in the abstract heap; refinement of a piece of the text by a mirror. -/
namespace PM
open PySem PySem.Spec PyProof.Rows L2

/-- what is fixed through the law: the written part, where the classes stand, their fields in order -/
structure Bx where
  K : PySem.W.Frag
  ct : String → Option Addr
  fl : String → List Str
  xt : String → Option Addr
  xl : String → List Str
  sub : String → String → Bool

def keyD : Key → D
  | .inl i => .int i
  | .inr x => .str x

mutual
inductive Rep (B : Bx) (al : List Addr) (G : Hp) : V → D → Prop
  | non : Rep B al G .non .non
  | bl (b : Bool) : Rep B al G (.bl b) (.bl b)
  | int (i : Int) : Rep B al G (.int i) (.int i)
  | str (x : Str) : Rep B al G (.str x) (.str x)
  | lst {a : Addr} {xs : List V} {ds : List D} : G a = some (.lst xs) → RepL B al G xs ds → Rep B al G (.ref a) (.lst ds)
  | tup {a : Addr} {xs : List V} {ds : List D} : SqT B.K G a xs → RepL B al G xs ds → Rep B al G (.ref a) (.tup ds)
  | dct {a : Addr} {od : Obj} {kvs : List (Key × V)} {es : List (D × D)} : G a = some (.frz od (.dK kvs)) → RepD B al G kvs es → Rep B al G (.ref a) (.dct es)
  | obj {a C dx : Addr} {c : String} {vs : List V} {fs : List D} : B.ct c = some C → G a = some (.ins C dx ((B.fl c).zip vs)) → vs.length = (B.fl c).length → RepL B al G vs fs → Rep B al G (.ref a) (.obj c fs)
  | cel {n : Nat} {a : Addr} : al[n]? = some a → Rep B al G (.ref a) (.cel n)
  | scr {a : Addr} {ns : List Int} : SqL B.K G a (ns.map V.int) → Rep B al G (.ref a) (.scr ns)
inductive RepL (B : Bx) (al : List Addr) (G : Hp) : List V → List D → Prop
  | nil : RepL B al G [] []
  | cons {v : V} {d : D} {vs : List V} {ds : List D} : Rep B al G v d → RepL B al G vs ds → RepL B al G (v :: vs) (d :: ds)
inductive RepD (B : Bx) (al : List Addr) (G : Hp) : List (Key × V) → List (D × D) → Prop
  | nil : RepD B al G [] []
  | cons {k : Key} {v : V} {d : D} {kvs : List (Key × V)} {es : List (D × D)} : Rep B al G v d → RepD B al G kvs es → RepD B al G ((k, v) :: kvs) ((keyD k, d) :: es)
end

/-- the frozen part grows -/
structure Grow (G : Hp) (al : List Addr) (G' : Hp) (al' : List Addr) : Prop where
  g : ∀ a u, G a = some u → G' a = some u
  a : ∀ (n : Nat) a, al[n]? = some a → al'[n]? = some a
theorem Grow.refl {G : Hp} {al : List Addr} : Grow G al G al := ⟨fun _ _ h => h, fun _ _ h => h⟩
theorem Grow.trans {G G1 G2 : Hp} {al al1 al2 : List Addr} (x : Grow G al G1 al1) (y : Grow G1 al1 G2 al2) : Grow G al G2 al2 :=
  ⟨fun a u h => y.g a u (x.g a u h), fun n a h => y.a n a (x.a n a h)⟩
theorem Grow.rd {G G' : Hp} {al al' : List Addr} (x : Grow G al G' al') {a : Addr} {u : HO} (h : Rd G a u) : Rd G' a u := by
  rcases h with h | ⟨o, h⟩
  · exact .inl (x.g _ _ h)
  · exact .inr ⟨o, x.g _ _ h⟩
theorem Grow.sqT {K : PySem.W.Frag} {G G' : Hp} {al al' : List Addr} (x : Grow G al G' al') {a : Addr} {xs : List V} (h : SqT K G a xs) : SqT K G' a xs := h.elim (fun z => .inl (x.rd z)) .inr
theorem Grow.sqL {K : PySem.W.Frag} {G G' : Hp} {al al' : List Addr} (x : Grow G al G' al') {a : Addr} {xs : List V} (h : SqL K G a xs) : SqL K G' a xs := h.elim (fun z => .inl (x.rd z)) .inr

section
variable {B : Bx} {al al' : List Addr} {G G' : Hp}
mutual
theorem Rep.mono (e : Grow G al G' al') : ∀ {v : V} {d : D}, Rep B al G v d → Rep B al' G' v d
  | _, _, .non => .non
  | _, _, .bl b => .bl b
  | _, _, .int i => .int i
  | _, _, .str x => .str x
  | _, _, .lst h r => .lst (e.g _ _ h) (RepL.mono e r)
  | _, _, .tup h r => .tup (e.sqT h) (RepL.mono e r)
  | _, _, .dct h r => .dct (e.g _ _ h) (RepD.mono e r)
  | _, _, .obj h1 h2 h3 r => .obj h1 (e.g _ _ h2) h3 (RepL.mono e r)
  | _, _, .cel h => .cel (e.a _ _ h)
  | _, _, .scr h => .scr (e.sqL h)
theorem RepL.mono (e : Grow G al G' al') : ∀ {vs : List V} {ds : List D}, RepL B al G vs ds → RepL B al' G' vs ds
  | _, _, .nil => .nil
  | _, _, .cons h r => .cons (Rep.mono e h) (RepL.mono e r)
theorem RepD.mono (e : Grow G al G' al') : ∀ {vs : List (Key × V)} {ds : List (D × D)}, RepD B al G vs ds → RepD B al' G' vs ds
  | _, _, .nil => .nil
  | _, _, .cons h r => .cons (Rep.mono e h) (RepD.mono e r)
end
end

/-- what can be read: as told, or a list or dict that is held -/
inductive RepH (B : Bx) (al : List Addr) (G : Hp) (fm : List (Addr × HO)) : V → D → Prop
  | rep {v : V} {d : D} : Rep B al G v d → RepH B al G fm v d
  | l {p : Addr} {xs : List V} {ds : List D} : (p, .lst xs) ∈ fm → RepL B al G xs ds → RepH B al G fm (.ref p) (.lst ds)
  | k {p : Addr} {kvs : List (Key × V)} {es : List (D × D)} : (p, .dK kvs) ∈ fm → RepD B al G kvs es → RepH B al G fm (.ref p) (.dct es)
inductive RepHL (B : Bx) (al : List Addr) (G : Hp) (fm : List (Addr × HO)) : List V → List D → Prop
  | nil : RepHL B al G fm [] []
  | cons {v : V} {d : D} {vs : List V} {ds : List D} : RepH B al G fm v d → RepHL B al G fm vs ds → RepHL B al G fm (v :: vs) (d :: ds)
theorem RepH.mono {B : Bx} {al al' : List Addr} {G G' : Hp} {fm : List (Addr × HO)} (e : Grow G al G' al') {v : V} {d : D} : RepH B al G fm v d → RepH B al' G' fm v d
  | .rep r => .rep (r.mono e)
  | .l h r => .l h (r.mono e)
  | .k h r => .k h (r.mono e)
theorem RepHL.mono {B : Bx} {al al' : List Addr} {G G' : Hp} {fm : List (Addr × HO)} (e : Grow G al G' al') : ∀ {vs : List V} {ds : List D}, RepHL B al G fm vs ds → RepHL B al' G' fm vs ds
  | _, _, .nil => .nil
  | _, _, .cons h r => .cons (h.mono e) (RepHL.mono e r)
theorem RepL.hl {B : Bx} {al : List Addr} {G : Hp} {fm : List (Addr × HO)} : ∀ {vs : List V} {ds : List D}, RepL B al G vs ds → RepHL B al G fm vs ds
  | _, _, .nil => .nil
  | _, _, .cons h r => .cons (.rep h) (RepL.hl r)

/-- the frozen part stands in the heap -/
def Exl (G H : Hp) : Prop := ∀ a u, G a = some u → H a = some u
theorem Exl.at {G H : Hp} (x : Exl G H) {a : Addr} {u : HO} (h : G a = some u) : H a = some u := x a u h
theorem Exl.rd {G H : Hp} (x : Exl G H) {a : Addr} {u : HO} (h : Rd G a u) : Rd H a u := by
  rcases h with h | ⟨o, h⟩
  · exact .inl (x a _ h)
  · exact .inr ⟨o, x a _ h⟩
theorem Exl.sqT {K : PySem.W.Frag} {G H : Hp} (x : Exl G H) {a : Addr} {xs : List V} (h : SqT K G a xs) : SqT K H a xs := h.elim (fun z => .inl (x.rd z)) .inr
theorem Exl.sqL {K : PySem.W.Frag} {G H : Hp} (x : Exl G H) {a : Addr} {xs : List V} (h : SqL K G a xs) : SqL K H a xs := h.elim (fun z => .inl (x.rd z)) .inr

/-- a shared object's content -/
inductive MRep (B : Bx) (al : List Addr) (G : Hp) : HO → MC → Prop
  | lst {xs : List V} {ds : List D} : RepL B al G xs ds → MRep B al G (.lst xs) (.lst ds)
  | dct {kvs : List (Key × V)} {es : List (D × D)} : RepD B al G kvs es → MRep B al G (.dK kvs) (.dct es)
  | obj {C dx : Addr} {c : String} {vs : List V} {fs : List D} : B.ct c = some C → vs.length = (B.fl c).length → RepL B al G vs fs → MRep B al G (.ins C dx ((B.fl c).zip vs)) (.obj c fs)
theorem MRep.mono {B : Bx} {al al' : List Addr} {G G' : Hp} (e : Grow G al G' al') {o : HO} {mc : MC} (h : MRep B al G o mc) : MRep B al' G' o mc := by
  cases h with
  | lst r => exact .lst (r.mono e)
  | dct r => exact .dct (r.mono e)
  | obj h l r => exact .obj h l (r.mono e)

/-- a shared object stands at a; one that was frozen since is dead -/
def CellOk (B : Bx) (G : Hp) (al : List Addr) (H : Hp) (a : Addr) : MC → Prop
  | .dead => ∃ u, G a = some u
  | mc => G a = none ∧ ∃ o, H a = some o ∧ MRep B al G o mc
theorem CellOk.live {B : Bx} {G : Hp} {al : List Addr} {H : Hp} {a : Addr} {mc : MC} (h : CellOk B G al H a mc) (hl : mc ≠ .dead) : G a = none ∧ ∃ o, H a = some o ∧ MRep B al G o mc := by
  cases mc with
  | dead => exact absurd rfl hl
  | _ => exact h
theorem CellOk.of {B : Bx} {G : Hp} {al : List Addr} {H : Hp} {a : Addr} {mc : MC} {o : HO} (h1 : G a = none) (h2 : H a = some o) (h3 : MRep B al G o mc) : CellOk B G al H a mc := by
  cases h3 with
  | lst r => exact ⟨h1, _, h2, .lst r⟩
  | dct r => exact ⟨h1, _, h2, .dct r⟩
  | obj h l r => exact ⟨h1, _, h2, .obj h l r⟩
/-- the heap at a place of the text: what is frozen (G), the shared objects (al, s), what is held besides (fm) -/
structure HV (B : Bx) (G : Hp) (al : List Addr) (fm : List (Addr × HO)) (H : Hp) (s : Store) : Prop where
  ex : Exl G H
  fr : ∀ p ∈ fm, H p.1 = some p.2 ∧ G p.1 = none
  len : al.length = s.length
  ce : ∀ (n : Nat) a mc, al[n]? = some a → s[n]? = some mc → CellOk B G al H a mc
  nd : (al ++ fm.map (·.1)).Nodup
theorem HV.there {B : Bx} {G : Hp} {al : List Addr} {fm : List (Addr × HO)} {H : Hp} {s : Store} (h : HV B G al fm H s) {n : Nat} {a : Addr} {mc : MC} (h1 : al[n]? = some a) (h2 : s[n]? = some mc) : ∃ o, H a = some o := by
  have c := h.ce n a mc h1 h2
  cases mc with
  | dead =>
    obtain ⟨u, e⟩ := c
    exact ⟨u, h.ex _ _ e⟩
  | _ =>
    obtain ⟨_, o, e, _⟩ := c
    exact ⟨o, e⟩
/-- cells stay when the frozen part grows beside them and their objects stay -/
theorem CellOk.keep {B : Bx} {G G' : Hp} {al al' : List Addr} {H H' : Hp} {a : Addr} {mc : MC} (h : CellOk B G al H a mc) (g : Grow G al G' al') (hg : G a = none → G' a = none) (hh : ∀ o, H a = some o → H' a = some o) : CellOk B G' al' H' a mc := by
  cases mc with
  | dead =>
    obtain ⟨u, e⟩ := h
    exact ⟨u, g.g _ _ e⟩
  | _ =>
    obtain ⟨e1, o, e2, e3⟩ := h
    exact ⟨hg e1, o, hh o e2, e3.mono g⟩

/-- an exception as told: its class and its own dict -/
def XRep (B : Bx) (al : List Addr) (G : Hp) (x : Exc) (cls : Value) (dd : Option Addr) : Prop :=
  ∃ C d vs, B.xt x.c = some C ∧ cls = .ref C ∧ dd = some d ∧ G d = some (.xd ((B.xl x.c).zip vs)) ∧ vs.length = (B.xl x.c).length ∧ RepL B al G vs x.fs
theorem XRep.mono {B : Bx} {al al' : List Addr} {G G' : Hp} (e : Grow G al G' al') {x : Exc} {cls : Value} {dd : Option Addr} (h : XRep B al G x cls dd) : XRep B al' G' x cls dd := by
  obtain ⟨C, d, vs, h1, h2, h3, h4, h5, h6⟩ := h
  exact ⟨C, d, vs, h1, h2, h3, e.g _ _ h4, h5, h6.mono e⟩
inductive Slot where
  | no
  | d (d : D)
  | l (ds : List D)
  | k (es : List (D × D))
  | o (c : String) (p dx : Addr) (fs : List D)
  | x (a : Addr) (cls : Value) (dd : Option Addr) (e : Exc)
def SlotOk (B : Bx) (al : List Addr) (G : Hp) (ow : List (Addr × HO)) (x : Option V) : Slot → Prop
  | .no => True
  | .d d => ∃ v, x = some v ∧ Rep B al G v d
  | .l ds => ∃ p xs, x = some (.ref p) ∧ (p, .lst xs) ∈ ow ∧ RepL B al G xs ds
  | .k es => ∃ p kvs, x = some (.ref p) ∧ (p, .dK kvs) ∈ ow ∧ RepD B al G kvs es
  | .o c p dx fs => ∃ C vs, x = some (.ref p) ∧ B.ct c = some C ∧ (p, .ins C dx ((B.fl c).zip vs)) ∈ ow ∧ RepL B al G vs fs
  | .x a cls dd e => x = some (.ref a) ∧ XRep B al G e cls dd
def Slot.isOwn : Slot → Bool
  | .no => false
  | .d _ => false
  | .x _ _ _ _ => false
  | _ => true
/-- the slots are as told; what is owned is owned by one slot alone -/
structure SL (B : Bx) (al : List Addr) (G : Hp) (ow : List (Addr × HO)) (σ : L2.St) (Γ : List Slot) : Prop where
  len : σ.length = Γ.length
  at_ : ∀ (i : Nat) g x, Γ[i]? = some g → σ[i]? = some x → SlotOk B al G ow x g
  inj : ∀ (i j : Nat) g g' x, Γ[i]? = some g → Γ[j]? = some g' → g.isOwn = true → g'.isOwn = true → σ[i]? = some x → σ[j]? = some x → i = j
theorem SlotOk.mono {B : Bx} {al al' : List Addr} {G G' : Hp} {ow : List (Addr × HO)} {x : Option V} (e : Grow G al G' al') : ∀ {g : Slot}, SlotOk B al G ow x g → SlotOk B al' G' ow x g
  | .no, _ => True.intro
  | .d _, ⟨v, h, r⟩ => ⟨v, h, r.mono e⟩
  | .l _, ⟨p, xs, h, h2, r⟩ => ⟨p, xs, h, h2, r.mono e⟩
  | .k _, ⟨p, xs, h, h2, r⟩ => ⟨p, xs, h, h2, r.mono e⟩
  | .o _ _ _ _, ⟨C, vs, h, h1, h2, r⟩ => ⟨C, vs, h, h1, h2, r.mono e⟩
  | .x _ _ _ _, ⟨h, r⟩ => ⟨h, r.mono e⟩
theorem SL.mono {B : Bx} {al al' : List Addr} {G G' : Hp} {ow : List (Addr × HO)} {σ : L2.St} {Γ : List Slot} (e : Grow G al G' al') (h : SL B al G ow σ Γ) : SL B al' G' ow σ Γ :=
  ⟨h.len, fun i g x h1 h2 => (h.at_ i g x h1 h2).mono e, h.inj⟩

/-! ### the weakest readings -/
def wE (X : Cx) (e : Expr) : TE := fun σ H Q => ∃ t, PE X e t ∧ t σ H Q
theorem wE_ok {X : Cx} {e : Expr} : PE X e (wE X e) := ⟨fun pins s σ H Q I h => by
  obtain ⟨t, p, q⟩ := h
  exact p.run pins s σ H Q I q⟩
theorem wE_of {X : Cx} {e : Expr} {t : TE} {σ : L2.St} {H : Hp} {Q : VK} (p : PE X e t) (h : t σ H Q) : wE X e σ H Q := ⟨t, p, h⟩
def wA (X : Cx) (es : List Expr) : TA := fun σ H Q => ∃ t, PA X es t ∧ t σ H Q
theorem wA_ok {X : Cx} {es : List Expr} : PA X es (wA X es) := ⟨fun pos pins s σ H Q I h => by
  obtain ⟨t, p, q⟩ := h
  exact p.run pos pins s σ H Q I q⟩
def wT (X : Cx) (e : Expr) : TT := fun σ H Q => ∃ t, PT X e t ∧ t σ H Q
theorem wT_ok {X : Cx} {e : Expr} : PT X e (wT X e) := ⟨fun pins s σ H Q I h => by
  obtain ⟨t, p, q⟩ := h
  exact p.run pins s σ H Q I q⟩
def wSs (X : Cx) (ss : List Stmt) : TS := fun D σ H => ∃ t, PSs X ss t ∧ t D σ H
theorem wSs_ok {X : Cx} {ss : List Stmt} : PSs X ss (wSs X ss) := ⟨fun pins s σ H D I h => by
  obtain ⟨t, p, q⟩ := h
  exact p.run pins s σ H D I q⟩
def wS (X : Cx) (st : Stmt) : TS := fun D σ H => ∃ t, PS X st t ∧ t D σ H
theorem wS_ok {X : Cx} {st : Stmt} : PS X st (wS X st) := ⟨fun pins s σ H D I h => by
  obtain ⟨t, p, q⟩ := h
  exact p.run pins s σ H D I q⟩
/-- what is mutable is locked for good -/
theorem wSs_lock {X : Cx} {ss : List Stmt} {D : Ends} {σ : L2.St} {H : Hp} {d : Addr} {u : HO} (h : H d = some u) (mu : Mut (some u)) (k : ∀ od, wSs X ss D σ (upd H d (.frz od u))) : wSs X ss D σ H :=
  ⟨fun D σ H => ∃ d u, H d = some u ∧ Mut (some u) ∧ ∀ od, wSs X ss D σ (upd H d (.frz od u)), ⟨fun pins s σ H D I ⟨d, u, h, mu, k⟩ => by
    obtain ⟨od, I1⟩ := I.lock h mu
    exact wSs_ok.run pins s σ _ D I1 (k od)⟩, d, u, h, mu, k⟩
theorem wE_lock {X : Cx} {e : Expr} {σ : L2.St} {H : Hp} {Q : VK} (k : wE X e σ H fun v H' => ∃ d u, H' d = some u ∧ Mut (some u) ∧ ∀ od, Q v (upd H' d (.frz od u))) : wE X e σ H Q :=
  ⟨fun σ H Q => wE X e σ H fun v H' => ∃ d u, H' d = some u ∧ Mut (some u) ∧ ∀ od, Q v (upd H' d (.frz od u)), ⟨fun pins s σ H Q I k => by
    refine thn (wE_ok.run pins s σ H _ I k) fun v s1 ⟨x, H1, I2, r, d, u, h, mu, q⟩ => ?_
    obtain ⟨od, I3⟩ := I2.lock h mu
    exact ⟨x, _, I3, r, q od⟩⟩, k⟩
/-- the weakest wish of an exception -/
def wX (X : Cx) : WX := fun cls d σ H => ∃ W, Takes X W ∧ W cls d σ H
theorem wX_ok {X : Cx} : Takes X (wX X) := fun u s' ⟨a, Bh, sI, pins, σ, H, cls, d, e, I, nb, up, sky, na, os, ag, W, tk, w⟩ =>
  tk u s' ⟨a, Bh, sI, pins, σ, H, cls, d, e, I, nb, up, sky, na, os, ag, w⟩

/-! ### refinement -/
/-- what is wished of a mirror's outcome; P tells what stands where it ends well -/
def Fo {α β : Type} (B : Bx) (X : Cx) (σ : L2.St) (fm : List (Addr × HO)) (G : Hp) (al : List Addr) (P : Hp → List Addr → α → β → Store → Hp → Prop) (r : R α) (Q : β → Hp → Prop) : Prop := match r with
  | .ok a s' => ∀ b G' al' H', Grow G al G' al' → P G' al' a b s' H' → Q b H'
  | .err x s' => ∀ cls dd G' al' H', Grow G al G' al' → HV B G' al' fm H' s' → XRep B al' G' x cls dd → wX X cls dd σ H'
  | .bad => False
abbrev Kd (α β : Type) := Bx → List (Addr × HO) → Hp → List Addr → α → β → Store → Hp → Prop
/-- a value; one to be read only; arguments; a test -/
def kE : Kd D V := fun B fm G al d v s H => HV B G al fm H s ∧ Rep B al G v d
def kH : Kd D V := fun B fm G al d v s H => HV B G al fm H s ∧ RepH B al G fm v d
def kA : Kd (List D) (List V) := fun B fm G al d v s H => HV B G al fm H s ∧ RepL B al G v d
def kB : Kd (List D) (List V) := fun B fm G al d v s H => HV B G al fm H s ∧ RepHL B al G fm v d
def kT : Kd Bool Bool := fun B fm G al d v s H => HV B G al fm H s ∧ d = v
/-- a new list, a new dict, held -/
def kL : Kd (List D) V := fun B fm G al ds v s H => ∃ p xs, v = .ref p ∧ HV B G al ((p, .lst xs) :: fm) H s ∧ RepL B al G xs ds
def kK : Kd (List (D × D)) V := fun B fm G al ds v s H => ∃ p xs, v = .ref p ∧ HV B G al ((p, .dK xs) :: fm) H s ∧ RepD B al G xs ds
/-- the piece w of the text, where the slots are told by Γ, does what m does -/
def Qj {α β : Type} (B : Bx) (X : Cx) (w : L2.St → Hp → (β → Hp → Prop) → Prop) (k : Kd α β) (Γ : List Slot) (m : M α) : Prop :=
  ∀ G al fm H σ s Q, HV B G al fm H s → SL B al G fm σ Γ → Fo B X σ fm G al (k B fm) (m s) Q → w σ H Q
def QE (B : Bx) (X : Cx) (e : Expr) (Γ : List Slot) (m : M D) : Prop := Qj B X (wE X e) kE Γ m
def QH (B : Bx) (X : Cx) (e : Expr) (Γ : List Slot) (m : M D) : Prop := Qj B X (wE X e) kH Γ m
def QT (B : Bx) (X : Cx) (e : Expr) (Γ : List Slot) (m : M Bool) : Prop := Qj B X (wT X e) kT Γ m
def QL (B : Bx) (X : Cx) (e : Expr) (Γ : List Slot) (m : M (List D)) : Prop := Qj B X (wE X e) kL Γ m
def QK (B : Bx) (X : Cx) (e : Expr) (Γ : List Slot) (m : M (List (D × D))) : Prop := Qj B X (wE X e) kK Γ m
/-- arguments, by what goes on with them -/
abbrev Go := ∀ {α : Type}, (List D → M α) → M α
structure QA (B : Bx) (X : Cx) (es : List Expr) (Γ : List Slot) (c : ∀ {α : Type}, (List D → M α) → M α) : Prop where
  q : Qj B X (wA X es) kA Γ (c pure)
  n : ∀ (α : Type) (k : List D → M α), c k = (c pure >>= k)
structure QB (B : Bx) (X : Cx) (es : List Expr) (Γ : List Slot) (c : ∀ {α : Type}, (List D → M α) → M α) : Prop where
  q : Qj B X (wA X es) kB Γ (c pure)
  n : ∀ (α : Type) (k : List D → M α), c k = (c pure >>= k)

/-- the end of a piece of a body: the next statement, return, break, continue -/
inductive Fl (α β : Type) where
  | nx (a : α)
  | rt (d : D)
  | bk (b : β)
  | ct (b : β)
def FolS {α β : Type} (B : Bx) (X : Cx) (fo : List (Addr × HO)) (G : Hp) (al : List Addr) (γ : α → List Slot) (δ : β → List Slot) (r : R (Fl α β)) (D : Ends) : Prop := match r with
  | .ok (.nx a) s' => ∀ σ' ow' G' al' H', Grow G al G' al' → HV B G' al' (ow' ++ fo) H' s' → SL B al' G' ow' σ' (γ a) → D.nx σ' H'
  | .ok (.rt d) s' => ∀ v G' al' H', Grow G al G' al' → HV B G' al' fo H' s' → Rep B al' G' v d → D.rt v H'
  | .ok (.bk b) s' => ∀ σ' ow' G' al' H', Grow G al G' al' → HV B G' al' (ow' ++ fo) H' s' → SL B al' G' ow' σ' (δ b) → D.bk σ' H'
  | .ok (.ct b) s' => ∀ σ' ow' G' al' H', Grow G al G' al' → HV B G' al' (ow' ++ fo) H' s' → SL B al' G' ow' σ' (δ b) → D.ct σ' H'
  | .err x s' => ∀ cls dd σ' G' al' H', Grow G al G' al' → HV B G' al' fo H' s' → XRep B al' G' x cls dd → wX X cls dd σ' H'
  | .bad => False
def QS {α β : Type} (B : Bx) (X : Cx) (ss : List Stmt) (Γ : List Slot) (γ : α → List Slot) (δ : β → List Slot) (m : M (Fl α β)) : Prop :=
  ∀ G al fo ow H σ s D, HV B G al (ow ++ fo) H s → SL B al G ow σ Γ → FolS B X fo G al γ δ (m s) D → wSs X ss D σ H
end PM
set_option Elab.async false
set_option linter.all false
set_option maxRecDepth 100000
set_option maxHeartbeats 2000000
/-! Pm2: the rules of refinement. -/
namespace PM
open PySem PySem.Spec PyProof.Rows L2

/-! ### room for calls, with nothing shown around; a def keeps its promise -/
structure Room (k : Nat) (A : Around) : Prop extends L2.Room k A where
  gs : A.guards = some []
theorem Room.mono {j k : Nat} {A : Around} (r : Room k A) (h : j ≤ k) : Room j A := ⟨r.toRoom.mono h, r.gs⟩
theorem Room.deeper {k : Nat} {A : Around} (r : Room (k + 1) A) (env : Env) : Room k (A.deeper env) := ⟨r.toRoom.deeper env, r.gs⟩
theorem Room.in1 {k : Nat} {A : Around} (r : Room (k + 1) A) : Room k A.in1 := ⟨r.toRoom.in1, r.gs⟩
theorem make_guard (args : Args) : (Code.builtin "type.__call__" args).isGuard = false := by
  show guardIds.contains "type.__call__" = false
  decide +kernel
theorem Room.make {k : Nat} {A : Around} (r : Room (k + 1) A) (C : Addr) (us : List Value) (kw : List (Str × Value)) : Room k (A.under (.builtin "type.__call__" ⟨.ref C :: us, kw⟩)) :=
  ⟨r.toRoom.make C us kw, by
    unfold Around.under
    dsimp only
    unfold Code.guards
    rw [make_guard, if_neg (by decide)]
    exact r.gs⟩
section
variable (P : Program) (w : World) (K : PySem.W.Frag) (mg : Str → Option Value) (base : Heap) (CX : CXT)
/-- in the surroundings A the def at f keeps the promise sp -/
def Keeps (f : Addr) (fd : FuncData) (ps : List Str) (sp : Sp) (A : Around) : Prop :=
  ∀ {outer : List Env} {s : Shared} {H : Hp} {us : List Value} {vs : List V}, Vals vs us → Env0 P w K mg base A outer s H →
    ∀ {Q : VK} {E : XK}, sp vs H Q E → ∀ {args : Args}, BindsTo s fd args (ps.zip us) → codeAny (model P w) A (.call (.ref f) args) (CR CX outer P w H s Q E) s
/-- it asks for as many values as it has parameters, and keeps its promise wherever there is room and nothing is being shown -/
def FnOk (k : Nat) (f : Addr) (fd : FuncData) (ps : List Str) (sp : Sp) : Prop :=
  (∀ A, Room k A → Keeps P w K mg base CX f fd ps sp A) ∧ ∀ {vs H Q E}, sp vs H Q E → vs.length = ps.length
end
section
variable {P : Program} {w : World} {K : PySem.W.Frag} {mg : Str → Option Value} {base : Heap} {CX : CXT} {j k : Nat} {f : Addr} {fd : FuncData} {ps : List Str} {sp : Sp}
theorem FnOk.len (F : FnOk P w K mg base CX k f fd ps sp) (vs : List V) (H : Hp) (Q : VK) (E : XK) (h : sp vs H Q E) : vs.length = ps.length := F.2 h
theorem FnOk.mono (F : FnOk P w K mg base CX j f fd ps sp) (h : j ≤ k) : FnOk P w K mg base CX k f fd ps sp := ⟨fun A r => F.1 A (r.mono h), F.2⟩
/-- called with as many values as it has parameters -/
theorem FnOk.at (F : FnOk P w K mg base CX k f fd ps sp) {A : Around} (hr : Room k A) (hb : Binds K fd ps []) {outer : List Env} {s : Shared} {H : Hp} (e0 : Env0 P w K mg base A outer s H) (kin : K.In s.heap) {us : List Value} {vs : List V} (r : Vals vs us) {Q : VK} {E : XK} (h : sp vs H Q E) :
    codeAny (model P w) A (.call (.ref f) ⟨us, []⟩) (CR CX outer P w H s Q E) s := by
  refine F.1 A hr r e0 h ?_
  have z := hb s us kin (by rw [List.append_nil, ← r.length]; exact F.2 h)
  rwa [List.append_nil] at z
end
/-- a def, by its body -/
theorem okX {P : Program} {w : World} {K : PySem.W.Frag} {mg : Str → Option Value} {base : Heap} {x qual : Str} {st : Stmt} {f : Addr} {fd : FuncData} {N ps : List Str} {k : Nat} {sp : Sp} (F : Fun K x qual st f fd) (S : FnScope N ps (defScope st)) (len : ∀ vs H Q E, sp vs H Q E → vs.length = ps.length)
    (hbody : ∀ (cdv : Value) (A : Around) (outer : List Env) (s : Shared) (H : Hp) (vs : List V) (Q : VK) (E : XK), Room k (A.deeper (envOfC qual (defScope st) s.heap.objs.size f cdv)) → sp vs H Q E →
      ∃ t, PSs (cxOf (L2.CX P w) P w K mg base N qual (defScope st) f cdv A outer s H E) (defBody st) t ∧ t { nx := fun _ H' => Q .non H', rt := Q } (start N vs) H) : FnOk P w K mg base (L2.CX P w) (k + 1) f fd ps sp := by
  obtain ⟨oc, od, kV, doc, pm, an, cdv, ct, osl, rfl, lk, hcd⟩ := F.ex
  refine ⟨fun A hr outer s H us vs r e0 Q E hsp args hb => ?_, fun {vs H Q E} h => len vs H Q E h⟩
  have keep : ∀ b o, base.get? b = some o → s.heap.get? b = some o := fun b o e => (e0.bs b o e).1
  have kin : K.In s.heap := e0.mod.kin.keeps keep
  refine codeAny_call_function hr.depth (kin _ _ lk) rfl S.co S.gen rfl (PySem.W.codeRec_of kin hcd) (hb _ _ _ _ ?_)
  refine wpAny_newFunctionEnv_cells S.kind (fun y hy => ?_) fun env he s1 x => ?_
  · rcases S.par y.1 (List.of_mem_zip (show (y.1, y.2) ∈ ps.zip us from hy)).1 with q | q
    · exact .inl q
    · exact .inr ⟨q, PySem.W.cellsFrom_some _ _ _ (.inl q)⟩
  subst he
  obtain ⟨t, ht, hq⟩ := hbody cdv A outer s H vs Q E (hr.deeper _) hsp
  refine ⟨(e0.mod.nolimit.keeps keep).keeps x.toInCall.keep, codeAny_func (wpAny_mono (ht.run [] s1 (start N vs) H _ (inv_start S hr.hd e0 (len _ _ _ _ hsp) r x) hq) (fun fl s' hs => ?_) fun e s' hs => hs)⟩
  cases fl with
  | ret u =>
    obtain ⟨v, σ', H', J, rv, q⟩ := hs
    exact ⟨v, H', J.os, J.bare, J.base, J.hok, rv, q⟩
  | next =>
    obtain ⟨σ', H', J, q⟩ := hs
    exact ⟨V.non, H', J.os, J.bare, J.base, J.hok, rfl, q⟩
  | brk =>
    obtain ⟨_, _, _, q⟩ := hs
    exact False.elim q
  | cont =>
    obtain ⟨_, _, _, q⟩ := hs
    exact False.elim q
/-! ### a callee runs, in any surroundings -/
section
variable {X : Cx} {k : Nat} {f C : Addr} {fd : FuncData} {ps : List Str} {sp : Sp} {pins : List (Addr × Obj)} {σ : L2.St} {H : Hp} {s : Shared} {Q : VK} {us : List Value} {vs : List V}
abbrev eX (X : Cx) (σ : L2.St) : XK := fun cls d H => wX X cls d σ H
theorem run_at {A : Around} (F : FnOk X.prog X.w X.K X.mg X.base (L2.CX X.prog X.w) k f fd ps sp) (hr : Room k A) (e0 : Env0 X.prog X.w X.K X.mg X.base A X.stack s H) (hb : Binds X.K fd ps []) (I : Inv X pins σ H s) (r : Vals vs us) (h : sp vs H Q (eX X σ)) :
    wpAny (model X.prog X.w) A (call (.ref f) us) (EP X pins σ Q) X.xe s := by
  refine wpAny_call (codeAny_mono (F.at hr hb e0 I.kIn r h) fun r s' hq => ?_)
  cases r with
  | error e => exact passAt wX_ok σ pins H s e s' I hq
  | ok fl =>
    cases fl with
    | ret u => exact I.after hq
    | _ => exact False.elim hq
abbrev eNo : XK := fun _ _ _ => False
theorem run_no {A : Around} {E' : Value → Shared → Prop} (F : FnOk X.prog X.w X.K X.mg X.base (L2.CX X.prog X.w) k f fd ps sp) (hr : Room k A) (e0 : Env0 X.prog X.w X.K X.mg X.base A X.stack s H) (hb : Binds X.K fd ps []) (I : Inv X pins σ H s) (r : Vals vs us) (h : sp vs H Q eNo) :
    wpAny (model X.prog X.w) A (call (.ref f) us) (EP X pins σ Q) E' s := by
  refine wpAny_call (codeAny_mono (F.at hr hb e0 I.kIn r h) fun r s' hq => ?_)
  cases r with
  | error e =>
    obtain ⟨_, _, _, _, _, _, _, _, _, _, _, _, z⟩ := hq
    exact z.elim
  | ok fl =>
    cases fl with
    | ret u => exact I.after hq
    | _ => exact False.elim hq
end

theorem rel_ref (a : Addr) : RelV (.ref a) (.ref a) := rfl
/-- the callee stands, the arguments follow, it is run: the values in front are there already -/
theorem then_run {X : Cx} {pos : Pos} {k : Nat} {f : Addr} {fd : FuncData} {ps : List Str} {sp : Sp} {e : Expr} {es : List Expr} {t : TA} (F : FnOk X.prog X.w X.K X.mg X.base (L2.CX X.prog X.w) k f fd ps sp) (hr : Room k X.A) (hb : Binds X.K fd ps []) (kp : PySem.W.keepIn X.K (.ref f) = true) (ha : PA X (e :: es) t)
    (h1 : starEach (e :: es) X.env = (false, eval e X.env) :: starEach es X.env) (h2 : (backTo pos (starEach es X.env)).any (·.1) = false) {pins : List (Addr × Obj)} {s : Shared} {σ : L2.St} {H : Hp} {Q : VK} {front : List V} {fu : List Value} (I : Inv X pins σ H s) (rf : Vals front fu)
    (h : t σ H fun vs H1 => sp (front ++ vs) H1 Q (eX X σ)) : wpAny (model X.prog X.w) X.A (callWith pos (.ref f) fu (backTo pos (starEach (e :: es) X.env)) []) (EP X pins σ Q) X.xe s :=
  PySem.W.callWith_K (first := fu) (h₀ := X.base) I.ok.mod.kin kp (wpAny_mono (ha.run pos pins s σ H _ I h) (fun us s1 z => by
    obtain ⟨vs, H1, J, r, q⟩ := z
    exact ⟨J.kIn, run_at F hr J.env0 hb J (rf.append r) q⟩) fun _ _ z => z) h1 h2
theorem pe_callA {X : Cx} {x : Str} {p pos : Pos} {k : Nat} {f : Addr} {fd : FuncData} {ps : List Str} {sp : Sp} {e : Expr} {es : List Expr} {t : TA} (F : FnOk X.prog X.w X.K X.mg X.base (L2.CX X.prog X.w) k f fd ps sp) (hr : Room k X.A) (hg : Gl X x) (hm : X.mg x = some (.ref f)) (hk : PySem.W.keepIn X.K (.ref f) = true) (hb : Binds X.K fd ps []) (ha : PA X (e :: es) t)
    (hdb : (x == ("__debug__" : Str)) = false) (he : starEach (e :: es) X.env = (false, eval e X.env) :: starEach es X.env) (hpl : (backTo pos (starEach es X.env)).any (·.1) = false) :
    PE X (.Call (.Name x p) (e :: es) [] pos) (fun σ H Q => t σ H fun vs H1 => sp vs H1 Q (eX X σ)) :=
  ⟨fun _ _ _ _ _ I h => wpAny_Call_Name_kw (ld_glob I hg hm (then_run F hr hb hk ha he hpl I .nil h) hdb)⟩

/-! ### heaps -/
section
variable {B : Bx} {G H : Hp} {al : List Addr} {fm fm' ow fo : List (Addr × HO)} {s : Store}
theorem HV.none_g (h : HV B G al fm H s) {p : Addr} (e : H p = none) : G p = none := by
  cases q : G p with
  | none => rfl
  | some u =>
    have z := h.ex.at q
    rw [e] at z; cases z
theorem HV.none_al (h : HV B G al fm H s) {p : Addr} (e : H p = none) : p ∉ al := fun hp => by
  obtain ⟨n, hn⟩ := List.mem_iff_getElem?.mp hp
  have hlt : n < s.length := by
    rw [← h.len]
    exact (List.getElem?_eq_some_iff.mp hn).1
  obtain ⟨o, z⟩ := h.there hn (List.getElem?_eq_getElem hlt)
  rw [e] at z; cases z
theorem HV.none_fm (h : HV B G al fm H s) {p : Addr} (e : H p = none) : ∀ q ∈ fm, q.1 ≠ p := fun q hq z => by
  have := (h.fr q hq).1
  rw [z, e] at this; cases this
/-- less is held -/
theorem HV.less (h : HV B G al fm H s) (hs : fm'.Sublist fm) : HV B G al fm' H s :=
  ⟨h.ex, fun p hp => h.fr p (hs.subset hp), h.len, h.ce, h.nd.sublist ((List.Sublist.refl al).append (hs.map _))⟩
theorem Grow.new {p : Addr} {o : HO} (e : G p = none) : Grow G al (upd G p o) al :=
  ⟨fun a u h => by rw [upd_ne (ne_of_none h e)]; exact h, fun _ _ h => h⟩
/-- a new object, frozen at once -/
theorem HV.new (h : HV B G al fm H s) {p : Addr} {o : HO} (e : H p = none) : HV B (upd G p o) al fm (upd H p o) s := by
  have eg := h.none_g e
  refine ⟨fun a u q => ?_, fun q hq => ?_, h.len, fun n a mc h1 h2 => ?_, h.nd⟩
  · by_cases ha : a = p
    · subst ha
      rw [upd_same] at q ⊢
      exact q
    · rw [upd_ne ha] at q ⊢
      exact h.ex a u q
  · have ne := h.none_fm e q hq
    rw [upd_ne ne, upd_ne ne]
    exact h.fr q hq
  · have ne : a ≠ p := fun z => h.none_al e (z ▸ List.mem_of_getElem? h1)
    exact (h.ce n a mc h1 h2).keep (Grow.new eg) (fun z => by rw [upd_ne ne]; exact z) fun o z => by rw [upd_ne ne]; exact z
/-- a new object, held -/
theorem HV.hold (h : HV B G al fm H s) {p : Addr} {o : HO} (e : H p = none) : HV B G al ((p, o) :: fm) (upd H p o) s := by
  refine ⟨fun a u q => ?_, fun q hq => ?_, h.len, fun n a mc h1 h2 => ?_, ?_⟩
  · have ne : a ≠ p := ne_of_none q (h.none_g e)
    rw [upd_ne ne]
    exact h.ex a u q
  · rcases List.mem_cons.mp hq with rfl | hq
    · exact ⟨upd_same, h.none_g e⟩
    · rw [upd_ne (h.none_fm e q hq)]
      exact h.fr q hq
  · have ne : a ≠ p := fun z => h.none_al e (z ▸ List.mem_of_getElem? h1)
    exact (h.ce n a mc h1 h2).keep Grow.refl (fun z => z) fun o z => by rw [upd_ne ne]; exact z
  · have hn := h.nd
    rw [List.map_cons]
    refine (List.perm_middle.nodup_iff).mpr (List.nodup_cons.mpr ⟨fun z => ?_, hn⟩)
    rcases List.mem_append.mp z with z | z
    · exact h.none_al e z
    · obtain ⟨q, hq, ez⟩ := List.mem_map.mp z
      exact h.none_fm e q hq ez
/-- what is held changes -/
theorem HV.put {p : Addr} {o o' : HO} (h : HV B G al ((p, o) :: fm) H s) : HV B G al ((p, o') :: fm) (upd H p o') s := by
  have hn := h.nd
  rw [List.map_cons] at hn
  have hn' := List.nodup_cons.mp (List.perm_middle.nodup_iff.mp hn)
  have pal : p ∉ al := fun z => hn'.1 (List.mem_append_left _ z)
  have pfm : ∀ q ∈ fm, q.1 ≠ p := fun q hq z => hn'.1 (List.mem_append_right _ (List.mem_map.mpr ⟨q, hq, z⟩))
  have pg : G p = none := (h.fr (p, o) List.mem_cons_self).2
  refine ⟨fun a u q => ?_, fun q hq => ?_, h.len, fun n a mc h1 h2 => ?_, by rw [List.map_cons]; exact hn⟩
  · rw [upd_ne (ne_of_none q pg)]
    exact h.ex a u q
  · rcases List.mem_cons.mp hq with rfl | hq
    · exact ⟨upd_same, pg⟩
    · rw [upd_ne (pfm q hq)]
      exact h.fr q (List.mem_cons_of_mem _ hq)
  · have ne : a ≠ p := fun z => pal (z ▸ List.mem_of_getElem? h1)
    exact (h.ce n a mc h1 h2).keep Grow.refl (fun z => z) fun o z => by rw [upd_ne ne]; exact z
/-- what is held is frozen -/
theorem HV.freeze {p : Addr} {o : HO} (h : HV B G al ((p, o) :: fm) H s) : HV B (upd G p o) al fm H s ∧ Grow G al (upd G p o) al := by
  have hn := h.nd
  rw [List.map_cons] at hn
  have hn' := List.nodup_cons.mp (List.perm_middle.nodup_iff.mp hn)
  have pal : p ∉ al := fun z => hn'.1 (List.mem_append_left _ z)
  have pfm : ∀ q ∈ fm, q.1 ≠ p := fun q hq z => hn'.1 (List.mem_append_right _ (List.mem_map.mpr ⟨q, hq, z⟩))
  have pg : G p = none := (h.fr (p, o) List.mem_cons_self).2
  have ph : H p = some o := (h.fr (p, o) List.mem_cons_self).1
  have gr : Grow G al (upd G p o) al := Grow.new pg
  refine ⟨⟨fun a u q => ?_, fun q hq => ?_, h.len, fun n a mc h1 h2 => ?_, hn'.2⟩, gr⟩
  · by_cases ha : a = p
    · subst ha
      rw [upd_same] at q
      cases q
      exact ph
    · rw [upd_ne ha] at q
      exact h.ex a u q
  · rw [upd_ne (pfm q hq)]
    exact h.fr q (List.mem_cons_of_mem _ hq)
  · have ne : a ≠ p := fun z => pal (z ▸ List.mem_of_getElem? h1)
    exact (h.ce n a mc h1 h2).keep gr (fun z => by rw [upd_ne ne]; exact z) fun o z => z
end

/-! ### following -/
section
variable {B : Bx} {X : Cx} {σ : L2.St} {fm : List (Addr × HO)} {G G' : Hp} {al al' : List Addr} {s : Store} {α β α' β' : Type}
theorem Fo.grow {P : Hp → List Addr → α → β → Store → Hp → Prop} {r : R α} {Q : β → Hp → Prop} (e : Grow G al G' al') (h : Fo B X σ fm G al P r Q) : Fo B X σ fm G' al' P r Q := by
  cases r with
  | ok d s' => exact fun v G2 al2 H2 g => h v G2 al2 H2 (e.trans g)
  | err x s' => exact fun cls dd G2 al2 H2 g => h cls dd G2 al2 H2 (e.trans g)
  | bad => exact h
/-- a piece, then more -/
theorem Fo.bind {P1 : Hp → List Addr → α → β → Store → Hp → Prop} {P2 : Hp → List Addr → α' → β' → Store → Hp → Prop} {m : M α} {f : α → M α'} {Q : β' → Hp → Prop} {Q' : β → Hp → Prop} (h : Fo B X σ fm G al P2 ((m >>= f) s) Q)
    (k : ∀ a s' b G' al' H', Grow G al G' al' → P1 G' al' a b s' H' → Fo B X σ fm G' al' P2 (f a s') Q → Q' b H') : Fo B X σ fm G al P1 (m s) Q' := by
  rw [bind_run] at h
  cases e : m s with
  | ok d s' =>
    rw [e] at h
    exact fun v G2 al2 H2 g rp => k d s' v G2 al2 H2 g rp (Fo.grow g h)
  | err x s' => rw [e] at h; exact h
  | bad => rw [e] at h; exact h
theorem Fo.pure {d : D} {Q : VK} {v : V} {H : Hp} (h : Fo B X σ fm G al (kE B fm) ((Pure.pure d : M D) s) Q) (hv : HV B G al fm H s) (rp : Rep B al G v d) : Q v H := h v G al H Grow.refl ⟨hv, rp⟩
end
theorem fits_run {α : Type} {n : Nat} {m : M α} {s : Store} : fits n m s = if n ≤ 16777216 then m s else .bad := by
  unfold fits
  split <;> rfl

/-! ### expressions -/
section
variable {B : Bx} {X : Cx} {Γ : List Slot} {a b e : Expr} {es : List Expr} {pos : Pos} {m m1 m2 : M D}
theorem qe_var (i : Nat) {d : D} {x : Str} (h : Γ[i]? = some (.d d) := by rfl) (hN : X.N[i]? = some x := by rfl) (hv : Vis X.env.scope x := by first | exact Or.inl rfl | exact Or.inr (Or.inl rfl) | exact Or.inr (Or.inr rfl)) (hd : (x == ("__debug__" : Str)) = false := by decide)
    (hcd : (x == ("__classdict__" : Str)) = false := by decide) : QE B X (.Name x pos) Γ (pure d) := fun G al fm H σ s Q hv0 sl f => by
  refine wE_of (pe_var hN hv hd hcd) ?_
  have hi : i < σ.length := by rw [sl.len]; exact (List.getElem?_eq_some_iff.mp h).1
  obtain ⟨v, e, rp⟩ := sl.at_ i _ _ h (List.getElem?_eq_getElem hi)
  exact ⟨v, by rw [List.getElem?_eq_getElem hi, e], f v G al H Grow.refl ⟨hv0, rp⟩⟩
theorem qh_e (h : QE B X e Γ m) : QH B X e Γ m := fun G al fm H σ s Q hv sl f => by
  refine h G al fm H σ s Q hv sl ?_
  cases q : m s with
  | ok d s' => rw [q] at f; exact fun v G' al' H' g ⟨hv', rp⟩ => f v G' al' H' g ⟨hv', .rep rp⟩
  | err x s' => rw [q] at f; exact f
  | bad => rw [q] at f; exact f
/-- an owned list, dict, read -/
theorem qh_l (i : Nat) {ds : List D} {x : Str} (h : Γ[i]? = some (.l ds) := by rfl) (hN : X.N[i]? = some x := by rfl) (hv : Vis X.env.scope x := by first | exact Or.inl rfl | exact Or.inr (Or.inl rfl) | exact Or.inr (Or.inr rfl)) (hd : (x == ("__debug__" : Str)) = false := by decide)
    (hcd : (x == ("__classdict__" : Str)) = false := by decide) : QH B X (.Name x pos) Γ (pure (.lst ds)) := fun G al fm H σ s Q hv0 sl f => by
  refine wE_of (pe_var hN hv hd hcd) ?_
  have hi : i < σ.length := by rw [sl.len]; exact (List.getElem?_eq_some_iff.mp h).1
  obtain ⟨p, xs, e, hp, rp⟩ := sl.at_ i _ _ h (List.getElem?_eq_getElem hi)
  exact ⟨_, by rw [List.getElem?_eq_getElem hi, e], f _ G al H Grow.refl ⟨hv0, .l hp rp⟩⟩
theorem qh_k (i : Nat) {ds : List (D × D)} {x : Str} (h : Γ[i]? = some (.k ds) := by rfl) (hN : X.N[i]? = some x := by rfl) (hv : Vis X.env.scope x := by first | exact Or.inl rfl | exact Or.inr (Or.inl rfl) | exact Or.inr (Or.inr rfl)) (hd : (x == ("__debug__" : Str)) = false := by decide)
    (hcd : (x == ("__classdict__" : Str)) = false := by decide) : QH B X (.Name x pos) Γ (pure (.dct ds)) := fun G al fm H σ s Q hv0 sl f => by
  refine wE_of (pe_var hN hv hd hcd) ?_
  have hi : i < σ.length := by rw [sl.len]; exact (List.getElem?_eq_some_iff.mp h).1
  obtain ⟨p, xs, e, hp, rp⟩ := sl.at_ i _ _ h (List.getElem?_eq_getElem hi)
  exact ⟨_, by rw [List.getElem?_eq_getElem hi, e], f _ G al H Grow.refl ⟨hv0, .k hp rp⟩⟩
theorem qe_int {i : Int} {j : Nat} : QE B X (.Constant (.int i) j pos) Γ (pure (.int i)) := fun G al fm H σ s Q hv sl f => wE_of pe_int (f _ G al H Grow.refl ⟨hv, .int i⟩)
theorem qe_bl {i : Bool} {j : Nat} : QE B X (.Constant (.bool i) j pos) Γ (pure (.bl i)) := fun G al fm H σ s Q hv sl f => wE_of pe_bl (f _ G al H Grow.refl ⟨hv, .bl i⟩)
theorem qe_str {i : Str} {j : Nat} : QE B X (.Constant (.str i) j pos) Γ (pure (.str i)) := fun G al fm H σ s Q hv sl f => wE_of pe_str (f _ G al H Grow.refl ⟨hv, .str i⟩)
theorem qe_non {j : Nat} : QE B X (.Constant .none j pos) Γ (pure .non) := fun G al fm H σ s Q hv sl f => wE_of pe_non (f _ G al H Grow.refl ⟨hv, .non⟩)
/-- a module's number, text -/
theorem qe_gint {x : Str} {i : Int} {t : Tok} (hm : X.mg x = some (.int i t)) (hg : Gl X x := by rfl) (hd : (x == ("__debug__" : Str)) = false := by decide) : QE B X (.Name x pos) Γ (pure (.int i)) := fun G al fm H σ s Q hv sl f =>
  wE_of (pe_glob (v := .int i) hg hm ⟨t, rfl⟩ hd) (f _ G al H Grow.refl ⟨hv, .int i⟩)
theorem qe_gstr {x : Str} {i : Str} {t : Tok} (hm : X.mg x = some (.str i t)) (hg : Gl X x := by rfl) (hd : (x == ("__debug__" : Str)) = false := by decide) : QE B X (.Name x pos) Γ (pure (.str i)) := fun G al fm H σ s Q hv sl f =>
  wE_of (pe_glob (v := .str i) hg hm ⟨t, rfl⟩ hd) (f _ G al H Grow.refl ⟨hv, .str i⟩)
theorem qe_one {op : BoolOp} (h : QE B X a Γ m) : QE B X (.BoolOp op [a] pos) Γ m := fun G al fm H σ s Q hv sl f => wE_of (pe_one wE_ok) (h G al fm H σ s Q hv sl f)
theorem qe_and {rest : List Expr} (ha : QE B X a Γ m1) (hb : QE B X (.BoolOp .And (b :: rest) pos) Γ m2) : QE B X (.BoolOp .And (a :: b :: rest) pos) Γ (andB m1 m2) := fun G al fm H σ s Q hv sl f => by
  refine wE_of (pe_and wE_ok wE_ok) (ha G al fm H σ s _ hv sl (Fo.bind f fun d s' v G' al' H' g ⟨hv', rp⟩ f' => ?_))
  cases rp with
  | bl c =>
    refine ⟨c, rfl, ?_⟩
    cases c with
    | true => exact hb G' al' fm H' σ s' Q hv' (sl.mono g) f'
    | false => exact Fo.pure f' hv' (.bl false)
  | _ => exact False.elim f'
theorem qe_or {rest : List Expr} (ha : QE B X a Γ m1) (hb : QE B X (.BoolOp .Or (b :: rest) pos) Γ m2) : QE B X (.BoolOp .Or (a :: b :: rest) pos) Γ (orB m1 m2) := fun G al fm H σ s Q hv sl f => by
  refine wE_of (pe_or wE_ok wE_ok) (ha G al fm H σ s _ hv sl (Fo.bind f fun d s' v G' al' H' g ⟨hv', rp⟩ f' => ?_))
  cases rp with
  | bl c =>
    refine ⟨c, rfl, ?_⟩
    cases c with
    | false => exact hb G' al' fm H' σ s' Q hv' (sl.mono g) f'
    | true => exact Fo.pure f' hv' (.bl true)
  | _ => exact False.elim f'
theorem qe_not (ha : QE B X a Γ m1) : QE B X (.UnaryOp .Not a pos) Γ (notB m1) := fun G al fm H σ s Q hv sl f => by
  refine wE_of (pe_not wE_ok) (ha G al fm H σ s _ hv sl (Fo.bind f fun d s' v G' al' H' g ⟨hv', rp⟩ f' => ?_))
  cases rp with
  | bl c => exact ⟨c, rfl, Fo.pure f' hv' (.bl _)⟩
  | _ => exact False.elim f'
/-! arguments -/
theorem qa_nil : QA B X [] Γ (fun k => k []) := ⟨fun G al fm H σ s Q hv sl f => ⟨_, pa_nil, f [] G al H Grow.refl ⟨hv, .nil⟩⟩, fun _ _ => rfl⟩
theorem go_cons {c : ∀ {α : Type}, (List D → M α) → M α} (n : ∀ (α : Type) (k : List D → M α), c k = (c pure >>= k)) (α : Type) (k : List D → M α) :
    (m >>= fun d => c fun ds => k (d :: ds)) = ((m >>= fun d => c fun ds => pure (d :: ds)) >>= k) := by
  rw [bind_assoc']
  refine congrArg _ (funext fun d => ?_)
  rw [n _ (fun ds => k (d :: ds)), n _ (fun ds => (pure (d :: ds) : M (List D))), bind_assoc']
  rfl
theorem qa_cons {c : ∀ {α : Type}, (List D → M α) → M α} (ha : QE B X e Γ m) (hr : QA B X es Γ c) (hs : starEach (e :: es) X.env = (false, eval e X.env) :: starEach es X.env := by rfl) : QA B X (e :: es) Γ (fun k => m >>= fun d => c fun ds => k (d :: ds)) :=
  ⟨fun G al fm H σ s Q hv sl f => by
    refine ⟨_, pa_cons wE_ok wA_ok hs, ha G al fm H σ s _ hv sl (Fo.bind f fun d s' v G' al' H' g ⟨hv', rp⟩ f' => ?_)⟩
    rw [hr.n _ (fun ds => (pure (d :: ds) : M (List D)))] at f'
    refine hr.q G' al' fm H' σ s' _ hv' (sl.mono g) (Fo.bind f' fun ds s2 vs G2 al2 H2 g2 ⟨hv2, rps⟩ f2 => ?_)
    exact f2 (v :: vs) G2 al2 H2 Grow.refl ⟨hv2, .cons (rp.mono g2) rps⟩, fun α k => go_cons hr.n α k⟩
theorem qb_nil : QB B X [] Γ (fun k => k []) := ⟨fun G al fm H σ s Q hv sl f => ⟨_, pa_nil, f [] G al H Grow.refl ⟨hv, .nil⟩⟩, fun _ _ => rfl⟩
theorem qb_cons {c : ∀ {α : Type}, (List D → M α) → M α} (ha : QH B X e Γ m) (hr : QB B X es Γ c) (hs : starEach (e :: es) X.env = (false, eval e X.env) :: starEach es X.env := by rfl) : QB B X (e :: es) Γ (fun k => m >>= fun d => c fun ds => k (d :: ds)) :=
  ⟨fun G al fm H σ s Q hv sl f => by
    refine ⟨_, pa_cons wE_ok wA_ok hs, ha G al fm H σ s _ hv sl (Fo.bind f fun d s' v G' al' H' g ⟨hv', rp⟩ f' => ?_)⟩
    rw [hr.n _ (fun ds => (pure (d :: ds) : M (List D)))] at f'
    refine hr.q G' al' fm H' σ s' _ hv' (sl.mono g) (Fo.bind f' fun ds s2 vs G2 al2 H2 g2 ⟨hv2, rps⟩ f2 => ?_)
    exact f2 (v :: vs) G2 al2 H2 Grow.refl ⟨hv2, .cons (rp.mono g2) rps⟩, fun α k => go_cons hr.n α k⟩
/-! operators and calls by values -/
/-- an operator on values does what g does on data -/
def OpM (B : Bx) (X : Cx) (f : Value → Value → Sem Value) (g : D → D → M D) : Prop := ∃ r, OpR X f r ∧ ∀ σ G al fm H s x y dx dy Q, HV B G al fm H s → RepH B al G fm x dx → RepH B al G fm y dy → Fo B X σ fm G al (kE B fm) (g dx dy s) Q → r x y H Q
theorem qe_op {op : Operator} {g : D → D → M D} (ho : OpM B X (binaryOp op) g) (ha : QH B X a Γ m1) (hb : QH B X b Γ m2) : QE B X (.BinOp a op b pos) Γ (do let x ← m1; let y ← m2; g x y) := fun G al fm H σ s Q hv sl f => by
  obtain ⟨r, hr, hg⟩ := ho
  refine wE_of (pe_op hr wE_ok wE_ok) (ha G al fm H σ s _ hv sl (Fo.bind f fun d s' v G' al' H' g ⟨hv', rp⟩ f' => ?_))
  refine hb G' al' fm H' σ s' _ hv' (sl.mono g) (Fo.bind f' fun d2 s2 v2 G2 al2 H2 g2 ⟨hv2, rp2⟩ f2 => ?_)
  exact hg σ G2 al2 fm H2 s2 v v2 d d2 Q hv2 (rp.mono g2) rp2 f2
theorem qe_cmp {op : CmpOp} {g : D → D → M D} (ho : OpM B X (compareOp op) g) (ha : QH B X a Γ m1) (hb : QH B X b Γ m2) (hm : behindInMarks op b = false := by first | exact nomark _ | rfl) : QE B X (.Compare a [op] [b] pos) Γ (do let x ← m1; let y ← m2; g x y) := fun G al fm H σ s Q hv sl f => by
  obtain ⟨r, hr, hg⟩ := ho
  refine wE_of (pe_cmpR hr wE_ok wE_ok hm) (ha G al fm H σ s _ hv sl (Fo.bind f fun d s' v G' al' H' g ⟨hv', rp⟩ f' => ?_))
  refine hb G' al' fm H' σ s' _ hv' (sl.mono g) (Fo.bind f' fun d2 s2 v2 G2 al2 H2 g2 ⟨hv2, rp2⟩ f2 => ?_)
  exact hg σ G2 al2 fm H2 s2 v v2 d d2 Q hv2 (rp.mono g2) rp2 f2
def CallM (B : Bx) (X : Cx) (f : Value) (g : List D → M D) : Prop := ∃ r, CallR X f r ∧ ∀ σ G al fm H s vs ds Q, HV B G al fm H s → RepHL B al G fm vs ds → Fo B X σ fm G al (kE B fm) (g ds s) Q → r vs H Q
theorem qe_callB {x : Str} {p : Pos} {id : String} {g : List D → M D} {c : ∀ {α : Type}, (List D → M α) → M α} (hc : CallM B X (.builtin id) g) (hm : X.mg x = none) (hv : bootBuiltins x = some (.builtin id)) (ha : QB B X (e :: es) Γ c) (hg : Gl X x := by rfl) (hn : x ≠ "__name__" := by decide) (hdb : (x == ("__debug__" : Str)) = false := by decide)
    (he : starEach (e :: es) X.env = (false, eval e X.env) :: starEach es X.env := by rfl) (hpl : (backTo pos (starEach es X.env)).any (·.1) = false := by rfl) : QE B X (.Call (.Name x p) (e :: es) [] pos) Γ (c g) := fun G al fm H σ s Q hv0 sl f => by
  obtain ⟨r, hr, hq⟩ := hc
  rw [ha.n] at f
  refine wE_of (pe_callB hr hg hm hv wA_ok hn hdb he hpl) (ha.q G al fm H σ s _ hv0 sl (Fo.bind f fun ds s' vs G' al' H' g ⟨hv', rp⟩ f' => ?_))
  exact hq σ G' al' fm H' s' vs ds Q hv' rp f'
theorem qe_callTy {x : Str} {p : Pos} {T : String} {g : List D → M D} {c : ∀ {α : Type}, (List D → M α) → M α} (hc : CallM B X (.type T) g) (hm : X.mg x = none) (hv : bootBuiltins x = some (.type T)) (ha : QB B X (e :: es) Γ c) (hg : Gl X x := by rfl) (hn : x ≠ "__name__" := by decide) (hdb : (x == ("__debug__" : Str)) = false := by decide)
    (he : starEach (e :: es) X.env = (false, eval e X.env) :: starEach es X.env := by rfl) (hpl : (backTo pos (starEach es X.env)).any (·.1) = false := by rfl) : QE B X (.Call (.Name x p) (e :: es) [] pos) Γ (c g) := fun G al fm H σ s Q hv0 sl f => by
  obtain ⟨r, hr, hq⟩ := hc
  rw [ha.n] at f
  refine wE_of (pe_callTy hr hg hm hv wA_ok hn hdb he hpl) (ha.q G al fm H σ s _ hv0 sl (Fo.bind f fun ds s' vs G' al' H' g ⟨hv', rp⟩ f' => ?_))
  exact hq σ G' al' fm H' s' vs ds Q hv' rp f'
end

/-! ### a def's promise -/
def FolP {α : Type} (B : Bx) (fm : List (Addr × HO)) (G : Hp) (al : List Addr) (k : Kd α V) (r : R α) (Q : VK) (E : XK) : Prop := match r with
  | .ok d s' => ∀ v G' al' H', Grow G al G' al' → k B fm G' al' d v s' H' → Q v H'
  | .err x s' => ∀ cls dd G' al' H', Grow G al G' al' → HV B G' al' fm H' s' → XRep B al' G' x cls dd → E cls dd H'
  | .bad => False
theorem Fo.folP {α : Type} {k : Kd α V} {B : Bx} {X : Cx} {σ : L2.St} {fm : List (Addr × HO)} {G : Hp} {al : List Addr} {r : R α} {Q : VK} (h : Fo B X σ fm G al (k B fm) r Q) : FolP B fm G al k r Q (fun cls dd H => wX X cls dd σ H) := by
  cases r with
  | ok d s' => exact h
  | err x s' => exact h
  | bad => exact h
def spK {α : Type} (B : Bx) (k : Kd α V) (f : List D → M α) : Sp := fun vs H Q E => ∃ G al fm s ds, HV B G al fm H s ∧ RepL B al G vs ds ∧ FolP B fm G al k (f ds s) Q E
abbrev spM (B : Bx) (f : List D → M D) : Sp := spK B kE f
/-- how many arguments a mirror takes -/
def Ar {α : Type} (n : Nat) (f : List D → M α) : Prop := ∀ ds s, f ds s ≠ .bad → ds.length = n
theorem RepL.length {B : Bx} {al : List Addr} {G : Hp} : ∀ {vs : List V} {ds : List D}, RepL B al G vs ds → vs.length = ds.length
  | _, _, .nil => rfl
  | _, _, .cons _ r => by rw [List.length_cons, List.length_cons, RepL.length r]
theorem spM_len {α : Type} {B : Bx} {kd : Kd α V} {n : Nat} {f : List D → M α} (h : Ar n f) {vs : List V} {H : Hp} {Q : VK} {E : XK} (k : spK B kd f vs H Q E) : vs.length = n := by
  obtain ⟨G, al, fm, s, ds, _, r, q⟩ := k
  rw [r.length]
  refine h ds s fun z => ?_
  rw [z] at q
  exact q
def fn0 {α : Type} (f : M α) : List D → M α
  | [] => f
  | _ => bad
def fn1 {α : Type} (f : D → M α) : List D → M α
  | [a] => f a
  | _ => bad
def fn2 {α : Type} (f : D → D → M α) : List D → M α
  | [a, b] => f a b
  | _ => bad
def fn3 {α : Type} (f : D → D → D → M α) : List D → M α
  | [a, b, c] => f a b c
  | _ => bad
def fn4 {α : Type} (f : D → D → D → D → M α) : List D → M α
  | [a, b, c, d] => f a b c d
  | _ => bad
theorem ar0 {α : Type} {f : M α} : Ar 0 (fn0 f) := fun ds s h => match ds, h with
  | [], _ => rfl
  | _ :: _, h => absurd rfl h
theorem ar4 {α : Type} {f : D → D → D → D → M α} : Ar 4 (fn4 f) := fun ds s h => match ds, h with
  | [_, _, _, _], _ => rfl
  | [], h => absurd rfl h
  | [_], h => absurd rfl h
  | [_, _], h => absurd rfl h
  | [_, _, _], h => absurd rfl h
  | _ :: _ :: _ :: _ :: _ :: _, h => absurd rfl h
theorem ar1 {α : Type} {f : D → M α} : Ar 1 (fn1 f) := fun ds s h => match ds, h with
  | [_], _ => rfl
  | [], h => absurd rfl h
  | _ :: _ :: _, h => absurd rfl h
theorem ar2 {α : Type} {f : D → D → M α} : Ar 2 (fn2 f) := fun ds s h => match ds, h with
  | [_, _], _ => rfl
  | [], h => absurd rfl h
  | [_], h => absurd rfl h
  | _ :: _ :: _ :: _, h => absurd rfl h
theorem ar3 {α : Type} {f : D → D → D → M α} : Ar 3 (fn3 f) := fun ds s h => match ds, h with
  | [_, _, _], _ => rfl
  | [], h => absurd rfl h
  | [_], h => absurd rfl h
  | [_, _], h => absurd rfl h
  | _ :: _ :: _ :: _ :: _, h => absurd rfl h
section
variable {B : Bx} {X : Cx} {Γ : List Slot} {e : Expr} {es : List Expr} {pos : Pos}
theorem q_call {α : Type} {kd : Kd α V} {x : Str} {p : Pos} {k : Nat} {fa : Addr} {fd : FuncData} {ps : List Str} {g : List D → M α} {c : ∀ {α : Type}, (List D → M α) → M α} (F : FnOk X.prog X.w X.K X.mg X.base (L2.CX X.prog X.w) k fa fd ps (spK B kd g)) (hr : Room k X.A) (hm : X.mg x = some (.ref fa)) (hk : PySem.W.keepIn X.K (.ref fa) = true) (hb : Binds X.K fd ps [])
    (ha : QA B X (e :: es) Γ c) (hg : Gl X x := by rfl) (hdb : (x == ("__debug__" : Str)) = false := by decide) (he : starEach (e :: es) X.env = (false, eval e X.env) :: starEach es X.env := by rfl) (hpl : (backTo pos (starEach es X.env)).any (·.1) = false := by rfl) :
    Qj B X (wE X (.Call (.Name x p) (e :: es) [] pos)) kd Γ (c g) := fun G al fm H σ s Q hv0 sl f => by
  rw [ha.n] at f
  refine wE_of (pe_callA F hr hg hm hk hb wA_ok hdb he hpl) (ha.q G al fm H σ s _ hv0 sl (Fo.bind f fun ds s' vs G' al' H' g' ⟨hv', rp⟩ f' => ?_))
  exact ⟨G', al', fm, s', ds, hv', rp, f'.folP⟩
theorem qe_call {x : Str} {p : Pos} {k : Nat} {fa : Addr} {fd : FuncData} {ps : List Str} {g : List D → M D} {c : ∀ {α : Type}, (List D → M α) → M α} (F : FnOk X.prog X.w X.K X.mg X.base (L2.CX X.prog X.w) k fa fd ps (spM B g)) (hr : Room k X.A) (hm : X.mg x = some (.ref fa)) (hk : PySem.W.keepIn X.K (.ref fa) = true) (hb : Binds X.K fd ps [])
    (ha : QA B X (e :: es) Γ c) (hg : Gl X x := by rfl) (hdb : (x == ("__debug__" : Str)) = false := by decide) (he : starEach (e :: es) X.env = (false, eval e X.env) :: starEach es X.env := by rfl) (hpl : (backTo pos (starEach es X.env)).any (·.1) = false := by rfl) :
    QE B X (.Call (.Name x p) (e :: es) [] pos) Γ (c g) := q_call F hr hm hk hb ha hg hdb he hpl
end

/-! ### tests -/
section
variable {B : Bx} {X : Cx} {Γ : List Slot} {a b e : Expr} {es : List Expr} {pos : Pos} {m : M D} {m1 m2 : M Bool}
def andT (a b : M Bool) : M Bool := do
  let x ← a
  if x = true then b else pure false
def orT (a b : M Bool) : M Bool := do
  let x ← a
  if x = true then pure true else b
def notT (a : M Bool) : M Bool := do
  let x ← a
  pure !x
theorem qt_val (h : QE B X e Γ m) (he : ∀ whole, isTrue e X.env whole = (do let v ← whole; standAt e.pos; holding [v] (truthy v)) := by intro _; rfl) : QT B X e Γ (do let d ← m; asB d) := fun G al fm H σ s Q hv sl f => by
  refine ⟨_, pt_val wE_ok he, h G al fm H σ s _ hv sl (Fo.bind f fun d s' v G' al' H' g ⟨hv', rp⟩ f' => ?_)⟩
  cases rp with
  | bl c => exact ⟨c, rfl, f' c G' al' H' Grow.refl ⟨hv', rfl⟩⟩
  | _ => exact False.elim f'
def wW (X : Cx) (e : Expr) : TT := fun σ H Q => ∃ t, PW X e t ∧ t σ H Q
theorem wW_ok {X : Cx} {e : Expr} : PW X e (wW X e) := ⟨fun wh pins s σ H Q I h => by
  obtain ⟨t, p, q⟩ := h
  exact p.run wh pins s σ H Q I q⟩
def QW (B : Bx) (X : Cx) (e : Expr) (Γ : List Slot) (m : M Bool) : Prop := Qj B X (wW X e) kT Γ m
theorem QW.qt (h : QW B X e Γ m1) : QT B X e Γ m1 := fun G al fm H σ s Q hv sl f => by
  obtain ⟨t, p, q⟩ := h G al fm H σ s Q hv sl f
  exact ⟨t, p.pt, q⟩
theorem qw_and1 (h : QT B X a Γ m1) : QW B X (.BoolOp .And [a] pos) Γ m1 := fun G al fm H σ s Q hv sl f => ⟨_, pw_and1 wT_ok, h G al fm H σ s Q hv sl f⟩
theorem qw_or1 (h : QT B X a Γ m1) : QW B X (.BoolOp .Or [a] pos) Γ m1 := fun G al fm H σ s Q hv sl f => ⟨_, pw_or1 wT_ok, h G al fm H σ s Q hv sl f⟩
theorem qw_and {rest : List Expr} (ha : QT B X a Γ m1) (hb : QW B X (.BoolOp .And (b :: rest) pos) Γ m2) : QW B X (.BoolOp .And (a :: b :: rest) pos) Γ (andT m1 m2) := fun G al fm H σ s Q hv sl f => by
  refine ⟨_, pw_and wT_ok wW_ok, ha G al fm H σ s _ hv sl (Fo.bind f fun c s' c' G' al' H' g ⟨hv', ec⟩ f' => ?_)⟩
  subst ec
  cases c with
  | true => exact hb G' al' fm H' σ s' Q hv' (sl.mono g) f'
  | false => exact f' false G' al' H' Grow.refl ⟨hv', rfl⟩
theorem qw_or {rest : List Expr} (ha : QT B X a Γ m1) (hb : QW B X (.BoolOp .Or (b :: rest) pos) Γ m2) : QW B X (.BoolOp .Or (a :: b :: rest) pos) Γ (orT m1 m2) := fun G al fm H σ s Q hv sl f => by
  refine ⟨_, pw_or wT_ok wW_ok, ha G al fm H σ s _ hv sl (Fo.bind f fun c s' c' G' al' H' g ⟨hv', ec⟩ f' => ?_)⟩
  subst ec
  cases c with
  | false => exact hb G' al' fm H' σ s' Q hv' (sl.mono g) f'
  | true => exact f' true G' al' H' Grow.refl ⟨hv', rfl⟩
theorem qt_not (ha : QT B X a Γ m1) : QT B X (.UnaryOp .Not a pos) Γ (notT m1) := fun G al fm H σ s Q hv sl f => by
  refine ⟨_, pt_not wT_ok, ha G al fm H σ s _ hv sl (Fo.bind f fun c s' c' G' al' H' g ⟨hv', ec⟩ f' => ?_)⟩
  subst ec
  exact f' (!c) G' al' H' Grow.refl ⟨hv', rfl⟩
theorem qt_cmp {op : CmpOp} {m1 m2 : M D} {g : D → D → M D} (ho : OpM B X (compareOp op) g) (ha : QH B X a Γ m1) (hb : QH B X b Γ m2) (hm : behindInMarks op b = false := by first | exact nomark _ | rfl) : QT B X (.Compare a [op] [b] pos) Γ (do let x ← m1; let y ← m2; let z ← g x y; asB z) := fun G al fm H σ s Q hv sl f => by
  obtain ⟨r, hr, hg⟩ := ho
  refine ⟨_, pt_cmpR hr wE_ok wE_ok hm, ha G al fm H σ s _ hv sl (Fo.bind f fun d s' v G' al' H' g ⟨hv', rp⟩ f' => ?_)⟩
  refine hb G' al' fm H' σ s' _ hv' (sl.mono g) (Fo.bind f' fun d2 s2 v2 G2 al2 H2 g2 ⟨hv2, rp2⟩ f2 => ?_)
  refine hg σ G2 al2 fm H2 s2 v v2 d d2 _ hv2 (rp.mono g2) rp2 (Fo.bind f2 fun d3 s3 v3 G3 al3 H3 g3 ⟨hv3, rp3⟩ f3 => ?_)
  cases rp3 with
  | bl c => exact ⟨c, rfl, f3 c G3 al3 H3 Grow.refl ⟨hv3, rfl⟩⟩
  | _ => exact False.elim f3
/-- a < b < c -/
def chainM (g g' : D → D → M D) (a b c : M D) : M D := do
  let x ← a
  let y ← b
  let z ← g x y
  match z with
  | .bl true => do
    let w ← c
    g' y w
  | .bl false => pure (.bl false)
  | _ => bad
theorem qe_chain {op op' : CmpOp} {g g' : D → D → M D} {c : Expr} {m1 m2 m3 : M D} (ho : OpM B X (compareOp op) g) (ho' : OpM B X (compareOp op') g') (ha : QH B X a Γ m1) (hb : QH B X b Γ m2) (hc : QH B X c Γ m3) (hm : lastMarks [op, op'] [b, c] = false := by with_unfolding_all rfl) :
    QE B X (.Compare a [op, op'] [b, c] pos) Γ (chainM g g' m1 m2 m3) := fun G al fm H σ s Q hv sl f => by
  obtain ⟨r, hr, hg⟩ := ho
  obtain ⟨r', hr', hg'⟩ := ho'
  refine wE_of (pe_chain hr hr' wE_ok wE_ok wE_ok hm) (ha G al fm H σ s _ hv sl (Fo.bind f fun d s' v G' al' H' g ⟨hv', rp⟩ f' => ?_))
  refine hb G' al' fm H' σ s' _ hv' (sl.mono g) (Fo.bind f' fun d2 s2 v2 G2 al2 H2 g2 ⟨hv2, rp2⟩ f2 => ?_)
  refine hg σ G2 al2 fm H2 s2 v v2 d d2 _ hv2 (rp.mono g2) rp2 (Fo.bind f2 fun d3 s3 v3 G3 al3 H3 g3 ⟨hv3, rp3⟩ f3 => ?_)
  cases rp3 with
  | bl k =>
    refine ⟨k, rfl, ?_⟩
    cases k with
    | true =>
      refine hc G3 al3 fm H3 σ s3 _ hv3 (((sl.mono g).mono g2).mono g3) (Fo.bind f3 fun d4 s4 v4 G4 al4 H4 g4 ⟨hv4, rp4⟩ f4 => ?_)
      exact hg' σ G4 al4 fm H4 s4 v2 v4 d2 d4 Q hv4 ((rp2.mono g3).mono g4) rp4 f4
    | false => exact Fo.pure f3 hv3 (.bl false)
  | _ => exact False.elim f3
end
end PM
set_option Elab.async false
set_option linter.all false
set_option maxRecDepth 100000
set_option maxHeartbeats 2000000
/-! Pm3: statements; a def by its body. -/
namespace PM
open PySem PySem.Spec PyProof.Rows L2

section
variable {B : Bx} {X : Cx} {fo : List (Addr × HO)} {G G' : Hp} {al al' : List Addr} {s : Store} {α β : Type} {γ : α → List Slot} {δ : β → List Slot}
theorem FolS.grow {r : R (Fl α β)} {E : Ends} (e : Grow G al G' al') (h : FolS B X fo G al γ δ r E) : FolS B X fo G' al' γ δ r E := by
  cases r with
  | ok x s' =>
    cases x with
    | nx a => exact fun σ ow G2 al2 H2 g => h σ ow G2 al2 H2 (e.trans g)
    | rt d => exact fun v G2 al2 H2 g => h v G2 al2 H2 (e.trans g)
    | bk b => exact fun σ ow G2 al2 H2 g => h σ ow G2 al2 H2 (e.trans g)
    | ct b => exact fun σ ow G2 al2 H2 g => h σ ow G2 al2 H2 (e.trans g)
  | err x s' => exact fun cls dd σ G2 al2 H2 g => h cls dd σ G2 al2 H2 (e.trans g)
  | bad => exact h
theorem HV.outer {H : Hp} {ow : List (Addr × HO)} (h : HV B G al (ow ++ fo) H s) : HV B G al fo H s := h.less (List.sublist_append_right _ _)
theorem SL.all {ow : List (Addr × HO)} {σ : L2.St} {Γ : List Slot} (h : SL B al G ow σ Γ) : SL B al G (ow ++ fo) σ Γ := ⟨h.len, fun i g x h1 h2 => by
  have q := h.at_ i g x h1 h2
  cases g with
  | no => exact True.intro
  | d d => exact q
  | x _ _ _ _ => exact q
  | l ds =>
    obtain ⟨p, xs, h, h3, r⟩ := q
    exact ⟨p, xs, h, List.mem_append_left _ h3, r⟩
  | k ds =>
    obtain ⟨p, xs, h, h3, r⟩ := q
    exact ⟨p, xs, h, List.mem_append_left _ h3, r⟩
  | o c p dx fs =>
    obtain ⟨C, vs, h, h0, h3, r⟩ := q
    exact ⟨C, vs, h, h0, List.mem_append_left _ h3, r⟩, h.inj⟩
/-- an expression, then statements -/
theorem FolS.bind {α1 β1 : Type} {P : Hp → List Addr → α1 → β1 → Store → Hp → Prop} {m : M α1} {f : α1 → M (Fl α β)} {E : Ends} {Q' : β1 → Hp → Prop} {σ : L2.St} {ow : List (Addr × HO)} (h : FolS B X fo G al γ δ ((m >>= f) s) E)
    (k : ∀ a s' b G' al' H', Grow G al G' al' → P G' al' a b s' H' → FolS B X fo G' al' γ δ (f a s') E → Q' b H') : Fo B X σ (ow ++ fo) G al P (m s) Q' := by
  rw [bind_run] at h
  cases e : m s with
  | ok d s' =>
    rw [e] at h
    exact fun v G2 al2 H2 g rp => k d s' v G2 al2 H2 g rp (FolS.grow g h)
  | err x s' => rw [e] at h; exact fun cls dd G2 al2 H2 g hv xr => h cls dd σ G2 al2 H2 g hv.outer xr
  | bad => rw [e] at h; exact h
/-- statements, then statements -/
def seqF {α α' β : Type} (m : M (Fl α' β)) (k : α' → M (Fl α β)) : M (Fl α β) := do
  let r ← m
  match r with
  | .nx a => k a
  | .rt d => pure (.rt d)
  | .bk b => pure (.bk b)
  | .ct b => pure (.ct b)
theorem FolS.seq {α' : Type} {γ' : α' → List Slot} {m : M (Fl α' β)} {k : α' → M (Fl α β)} {E : Ends} {N : L2.St → Hp → Prop} (h : FolS B X fo G al γ δ (seqF m k s) E)
    (hk : ∀ a s' σ' ow' G' al' H', Grow G al G' al' → HV B G' al' (ow' ++ fo) H' s' → SL B al' G' ow' σ' (γ' a) → FolS B X fo G' al' γ δ (k a s') E → N σ' H') : FolS B X fo G al γ' δ (m s) { E with nx := N } := by
  unfold seqF at h
  rw [bind_run] at h
  cases e : m s with
  | ok x s' =>
    rw [e] at h
    cases x with
    | nx a => exact fun σ ow G2 al2 H2 g hv sl => hk a s' σ ow G2 al2 H2 g hv sl (FolS.grow g h)
    | rt d => exact h
    | bk b => exact h
    | ct b => exact h
  | err x s' => rw [e] at h; exact h
  | bad => rw [e] at h; exact h
end

section
variable {B : Bx} {X : Cx} {Γ : List Slot} {e : Expr} {rest : List Stmt} {pos pos' : Pos} {m : M D} {α β : Type} {γ : α → List Slot} {δ : β → List Slot}
theorem qs_nil (a : α) (h : γ a = Γ := by rfl) : QS B X [] Γ γ δ (pure (.nx a)) := fun G al fo ow H σ s E hv sl f => ⟨_, pss_nil, f σ ow G al H Grow.refl hv (by rw [h]; exact sl)⟩
/-- the end of a body: the slots are forgotten -/
theorem sl_no {n : Nat} {ow : List (Addr × HO)} {al : List Addr} {G : Hp} {σ : L2.St} (h : σ.length = n) : SL B al G ow σ (List.replicate n Slot.no) := by
  refine ⟨by rw [List.length_replicate, h], fun i g x h1 _ => ?_, fun i j g g' x h1 _ o1 => ?_⟩
  · rw [List.getElem?_replicate] at h1
    split at h1
    · cases h1; exact True.intro
    · cases h1
  · rw [List.getElem?_replicate] at h1
    split at h1
    · cases h1; cases o1
    · cases h1
theorem qs_end {n : Nat} (h : Γ.length = n := by rfl) : QS B X [] Γ (fun (_ : Unit) => List.replicate n Slot.no) δ (pure (.nx ())) := fun G al fo ow H σ s E hv sl f => ⟨_, pss_nil, f σ ow G al H Grow.refl hv (sl_no (by rw [sl.len, h]))⟩
theorem qs_ret (h : QE B X e Γ m) : QS B X [.Return (some e) pos] Γ γ δ (do let d ← m; pure (.rt d)) := fun G al fo ow H σ s E hv sl f => by
  refine ⟨_, pss_one (ps_ret wE_ok), h G al (ow ++ fo) H σ s _ hv sl.all (FolS.bind f fun d s' v G' al' H' g ⟨hv', rp⟩ f' => ?_)⟩
  exact f' v G' al' H' Grow.refl hv'.outer rp
theorem qs_retN : QS B X [.Return none pos] Γ γ δ (pure (.rt .non)) := fun G al fo ow H σ s E hv sl f => ⟨_, pss_one ps_retN, f .non G al H Grow.refl hv.outer .non⟩
theorem SL.set {ow : List (Addr × HO)} {al : List Addr} {G : Hp} {σ : L2.St} (sl : SL B al G ow σ Γ) (i : Nat) {v : V} {d : D} (r : Rep B al G v d) : SL B al G ow (σ.set i (some v)) (Γ.set i (.d d)) := by
  refine ⟨by rw [List.length_set, List.length_set]; exact sl.len, fun j g x h1 h2 => ?_, fun j k g g' x h1 h2 o1 o2 h3 h4 => ?_⟩
  rotate_left
  · have ne : ∀ (j : Nat) g, (Γ.set i (.d d))[j]? = some g → g.isOwn = true → j ≠ i ∧ Γ[j]? = some g := fun j g h o => by
      by_cases hj : j = i
      · subst hj
        have l1 : j < Γ.length := by
          have := (List.getElem?_eq_some_iff.mp h).1
          rwa [List.length_set] at this
        rw [List.getElem?_set_self l1] at h
        cases h; cases o
      · rw [List.getElem?_set_ne (Ne.symm hj)] at h
        exact ⟨hj, h⟩
    obtain ⟨n1, e1⟩ := ne j g h1 o1
    obtain ⟨n2, e2⟩ := ne k g' h2 o2
    rw [List.getElem?_set_ne (Ne.symm n1)] at h3
    rw [List.getElem?_set_ne (Ne.symm n2)] at h4
    exact sl.inj j k g g' x e1 e2 o1 o2 h3 h4
  by_cases hj : j = i
  · subst hj
    have l1 : j < Γ.length := by
      have := (List.getElem?_eq_some_iff.mp h1).1
      rwa [List.length_set] at this
    rw [List.getElem?_set_self l1] at h1
    rw [List.getElem?_set_self (by rw [sl.len]; exact l1)] at h2
    cases h1; cases h2
    exact ⟨v, rfl, r⟩
  · rw [List.getElem?_set_ne (Ne.symm hj)] at h1 h2
    exact sl.at_ j g x h1 h2
/-- x = e -/
theorem qs_set (i : Nat) {x : Str} {k : D → M (Fl α β)} (h : QE B X e Γ m) (hk : ∀ d, QS B X rest (Γ.set i (.d d)) γ δ (k d)) (hN : X.N.Nodup) (hi : X.N[i]? = some x := by rfl) (hx : Loc X.env.scope x := by first | exact Or.inl rfl | exact Or.inr rfl) (hs : swapsWith e (some (.Name x pos')) pos.line X.env = pure false := by rfl) (hf : X.fn x = true ∨ X.env.scope.names.lookup x = some .local := by first | exact .inl rfl | exact .inr rfl | assumption) :
    QS B X (.Assign [.Name x pos'] e pos :: rest) Γ γ δ (do let d ← m; k d) := fun G al fo ow H σ s E hv sl f => by
  refine ⟨_, pss_cons (ps_set hN hi hx wE_ok hs hf) wSs_ok, h G al (ow ++ fo) H σ s _ hv sl.all (FolS.bind f fun d s' v G' al' H' g ⟨hv', rp⟩ f' => ?_)⟩
  exact hk d G' al' fo ow H' _ s' E hv' ((sl.mono g).set i rp) f'
/-- e alone -/
theorem qs_expr {k : M (Fl α β)} (h : QE B X e Γ m) (hk : QS B X rest Γ γ δ k) (hs : swapsWith e none pos.line X.env = pure false := by rfl) : QS B X (.Expr e pos :: rest) Γ γ δ (do let _ ← m; k) := fun G al fo ow H σ s E hv sl f => by
  refine ⟨_, pss_cons (ps_expr wE_ok hs) wSs_ok, h G al (ow ++ fo) H σ s _ hv sl.all (FolS.bind f fun d s' v G' al' H' g ⟨hv', rp⟩ f' => ?_)⟩
  exact hk G' al' fo ow H' σ s' E hv' (sl.mono g) f'
/-- if, then the rest -/
theorem qs_if {α' : Type} {γ' : α' → List Slot} {c : Expr} {a b : List Stmt} {mt : M Bool} {m1 m2 : M (Fl α' β)} {k : α' → M (Fl α β)} (ht : QT B X c Γ mt) (ha : QS B X a Γ γ' δ m1) (hb : QS B X b Γ γ' δ m2) (hk : ∀ a, QS B X rest (γ' a) γ δ (k a)) :
    QS B X (.If c a b pos :: rest) Γ γ δ (do let t ← mt; seqF (if t = true then m1 else m2) k) := fun G al fo ow H σ s E hv sl f => by
  refine ⟨_, pss_cons (ps_if wT_ok wSs_ok wSs_ok) wSs_ok, ht G al (ow ++ fo) H σ s _ hv sl.all (FolS.bind f fun t s' t' G' al' H' g ⟨hv', ec⟩ f' => ?_)⟩
  subst ec
  have f2 := FolS.seq (γ' := γ') (N := wSs X rest E) f' fun a s2 σ2 ow2 G2 al2 H2 g2 hv2 sl2 f2 => hk a G2 al2 fo ow2 H2 σ2 s2 E hv2 sl2 f2
  cases t with
  | true => exact ha G' al' fo ow H' σ s' _ hv' (sl.mono g) f2
  | false => exact hb G' al' fo ow H' σ s' _ hv' (sl.mono g) f2
/-- if at the end -/
theorem qs_ifE {c : Expr} {a b : List Stmt} {mt : M Bool} {m1 m2 : M (Fl α β)} (ht : QT B X c Γ mt) (ha : QS B X a Γ γ δ m1) (hb : QS B X b Γ γ δ m2) :
    QS B X [.If c a b pos] Γ γ δ (do let t ← mt; if t = true then m1 else m2) := fun G al fo ow H σ s E hv sl f => by
  refine ⟨_, pss_one (ps_if wT_ok wSs_ok wSs_ok), ht G al (ow ++ fo) H σ s _ hv sl.all (FolS.bind f fun t s' t' G' al' H' g ⟨hv', ec⟩ f' => ?_)⟩
  subst ec
  cases t with
  | true => exact ha G' al' fo ow H' σ s' _ hv' (sl.mono g) f'
  | false => exact hb G' al' fo ow H' σ s' _ hv' (sl.mono g) f'
end

/-! ### a def by its body -/
/-- a body's outcome as a call's -/
def callF (m : M (Fl Unit Empty)) : M D := do
  let r ← m
  match r with
  | .nx _ => pure .non
  | .rt d => pure d
  | .bk b => nomatch b
  | .ct b => nomatch b
theorem RepL.get {B : Bx} {al : List Addr} {G : Hp} : ∀ {vs : List V} {ds : List D} {i : Nat} {v : V} {d : D}, RepL B al G vs ds → vs[i]? = some v → ds[i]? = some d → Rep B al G v d
  | _, _, _, _, _, .nil, h, _ => by simp at h
  | _, _, 0, _, _, .cons h _, h1, h2 => by
    simp at h1 h2
    subst h1; subst h2
    exact h
  | _, _, i + 1, _, _, .cons _ r, h1, h2 => RepL.get (i := i) r (by simpa using h1) (by simpa using h2)
/-- the slots at the entry -/
def ent (n : Nat) (ds : List D) : List Slot := ds.map Slot.d ++ List.replicate (n - ds.length) .no
theorem sl_start {B : Bx} {al : List Addr} {G : Hp} {N : List Str} {vs : List V} {ds : List D} (r : RepL B al G vs ds) : SL B al G [] (L2.start N vs) (ent N.length ds) := by
  have hl := r.length
  have nown : ∀ (i : Nat) g, (ent N.length ds)[i]? = some g → g.isOwn = false := fun i g h => by
    unfold ent at h
    have hm := List.mem_of_getElem? h
    rcases List.mem_append.mp hm with z | z
    · obtain ⟨d, _, rfl⟩ := List.mem_map.mp z
      rfl
    · rw [(List.mem_replicate.mp z).2]
      rfl
  refine ⟨?_, fun i g x h1 h2 => ?_, fun i j g g' x h1 _ o1 => by rw [nown i g h1] at o1; cases o1⟩
  · unfold L2.start ent
    rw [List.length_append, List.length_append, List.length_map, List.length_map, List.length_replicate, List.length_replicate, hl]
  · unfold L2.start at h2
    unfold ent at h1
    by_cases hi : i < ds.length
    · rw [List.getElem?_append_left (by rw [List.length_map]; exact hi), List.getElem?_map] at h1
      rw [List.getElem?_append_left (by rw [List.length_map, hl]; exact hi), List.getElem?_map] at h2
      cases e1 : ds[i]? with
      | none => rw [e1] at h1; cases h1
      | some d =>
        cases e2 : vs[i]? with
        | none => rw [e2] at h2; cases h2
        | some v =>
          rw [e1] at h1; rw [e2] at h2
          cases h1; cases h2
          exact ⟨v, rfl, r.get e2 e1⟩
    · rw [List.getElem?_append_right (by rw [List.length_map]; omega), List.getElem?_replicate] at h1
      split at h1
      · cases h1; exact True.intro
      · cases h1
section
variable {P : Program} {w : World} {K : PySem.W.Frag} {mg : Str → Option Value} {base : Heap}
theorem fn_ok {B : Bx} {x qual : Str} {st : Stmt} {f : Addr} {fd : FuncData} {N ps : List Str} {k n : Nat} {g : List D → M D} (F : Fun K x qual st f fd) (S : FnScope N ps (defScope st)) (ar : Ar n g) (hn : ps.length = n)
    (hb : ∀ (cdv : Value) (A : Around) (outer : List Env) (s : Shared) (H : Hp) (E : XK), Room k (A.deeper (envOfC qual (defScope st) s.heap.objs.size f cdv)) → ∀ ds, ds.length = n →
      ∃ m : M (Fl Unit Empty), g ds = callF m ∧ QS B (cxOf (L2.CX P w) P w K mg base N qual (defScope st) f cdv A outer s H E) (defBody st) (ent N.length ds) (fun (_ : Unit) => List.replicate N.length Slot.no) (fun (_ : Empty) => ([] : List Slot)) m) :
    FnOk P w K mg base (L2.CX P w) (k + 1) f fd ps (spM B g) := by
  refine okX F S (fun vs H Q E h => by rw [hn]; exact spM_len ar h) (fun cdv A outer s H vs Q E hr h => ?_)
  have hlen := spM_len ar h
  obtain ⟨G, al, fm, st0, ds, hv, r, q⟩ := h
  obtain ⟨m, eg, hq⟩ := hb cdv A outer s H E hr ds (by rw [← r.length]; exact hlen)
  refine ⟨wSs _ _, wSs_ok, hq G al fm [] H _ st0 _ hv (sl_start r) ?_⟩
  rw [eg] at q
  unfold callF at q
  rw [bind_run] at q
  have hx : ∀ cls dd σ H', E cls dd H' → wX (cxOf (L2.CX P w) P w K mg base N qual (defScope st) f cdv A outer s H E) cls dd σ H' := fun cls dd σ H' z => ⟨_, takes_of rfl rfl rfl rfl, z⟩
  cases e : m st0 with
  | ok r0 s' =>
    rw [e] at q
    cases r0 with
    | nx a => exact fun σ' ow' G' al' H' g' hv' sl' => q .non G' al' H' g' ⟨hv'.outer, .non⟩
    | rt d => exact fun v G' al' H' g' hv' rp => q v G' al' H' g' ⟨hv', rp⟩
    | bk b => exact nomatch b
    | ct b => exact nomatch b
  | err x0 s' =>
    rw [e] at q
    exact fun cls dd σ' G' al' H' g' hv' xr => hx cls dd σ' H' (q cls dd G' al' H' g' hv' xr)
  | bad => rw [e] at q; exact q
end
end PM
set_option Elab.async false
set_option linter.all false
set_option maxRecDepth 100000
set_option maxHeartbeats 2000000
/-! Pm4: operators and built-ins. -/
namespace PM
open PySem PySem.Spec PyProof.Rows L2

/-- the facts of a class of the program's -/
structure ClsF (B : Bx) (C : Addr) (c : String) : Prop where
  cl : Cls B.K C
  ha : PySem.W.findIn B.K (.ref C) "__class__" = some (some (.builtin "object.__class__"))
  hn : PySem.W.specialIn B.K (.builtin "object.__class__") "__get__" = some (some (.builtin "getset_descriptor.__get__"))
  htk : PySem.W.takesIn B.K (.builtin "object.__class__") = some true
  hm : PySem.W.mroIn B.K C (.type "object") = some true
  noB : ∀ T ∈ ["int", "bool", "str", "list", "tuple", "dict"], PySem.W.kitOne B.K (.ref C) (.type T) = some false
  bC : ∀ T ∈ ["NoneType", "int", "bool", "str", "list", "tuple", "dict"], PySem.W.kitOne B.K (.type T) (.ref C) = some false
/-- what the written part says of all classes -/
structure BOk (B : Bx) : Prop where
  cls : ∀ c C, B.ct c = some C → ClsF B C c
  two : ∀ c C c' C', B.ct c = some C → B.ct c' = some C' → PySem.W.kitOne B.K (.ref C) (.ref C') = some (c == c' || B.sub c c')
  ga : ∀ c C f, B.ct c = some C → f ∈ B.fl c → NoAttr B.K C f
  nd : ∀ c, (B.fl c).Nodup

/-- the type's value -/
def TyR (B : Bx) : Ty → Value → Prop
  | .b n, t => t = .type n
  | .c c, t => ∃ C, B.ct c = some C ∧ t = .ref C
theorem MRep.ty {B : Bx} (ok : BOk B) {al : List Addr} {G H : Hp} {o : HO} {mc : MC} {a : Addr} (h : MRep B al G o mc) (e : H a = some o) {ty : Ty} (et : mc.ty = some ty) : ∃ t, TyX B.K H (.ref a) t ∧ TyR B ty t := by
  cases h with
  | lst r => cases et; exact ⟨_, .base (.lst e), rfl⟩
  | dct r => cases et; exact ⟨_, .base (.dK e), rfl⟩
  | obj hc _ r =>
    cases et
    have q := ok.cls _ _ hc
    exact ⟨_, .base (.ins e q.cl q.ha q.hn q.htk q.hm), _, hc, rfl⟩
theorem Rep.ty {B : Bx} (ok : BOk B) {G H : Hp} {al : List Addr} {fm : List (Addr × HO)} {s : Store} {v : V} {d : D} (hv : HV B G al fm H s) (r : Rep B al G v d) {ty : Ty} (e : d.ty s = some ty) : ∃ t, TyX B.K H v t ∧ TyR B ty t := by
  cases r with
  | non => cases e; exact ⟨_, .base .non, rfl⟩
  | bl b => cases e; exact ⟨_, .base (.bl b), rfl⟩
  | int i => cases e; exact ⟨_, .base (.int i), rfl⟩
  | str x => cases e; exact ⟨_, .base (.str x), rfl⟩
  | lst h _ => cases e; exact ⟨_, .base (.lst (hv.ex.at h)), rfl⟩
  | tup h _ =>
    cases e
    rcases h with h | ⟨o, its, n, h1, h2, _⟩
    · rcases hv.ex.rd h with z | ⟨o, z⟩
      · exact ⟨_, .base (.tup z), rfl⟩
      · exact ⟨_, .fTuple z, rfl⟩
    · exact ⟨_, .kTuple h1 h2, rfl⟩
  | dct h _ =>
    cases e
    exact ⟨_, .fDict (hv.ex.at h), rfl⟩
  | obj hc h _ _ =>
    cases e
    have q := ok.cls _ _ hc
    exact ⟨_, .base (.ins (hv.ex.at h) q.cl q.ha q.hn q.htk q.hm), _, hc, rfl⟩
  | @cel n a h =>
    have e' : (s[n]?).bind MC.ty = some ty := e
    cases q : s[n]? with
    | none => rw [q] at e'; cases e'
    | some mc =>
      rw [q] at e'
      have hl : mc ≠ .dead := fun z => by rw [z] at e'; cases e'
      obtain ⟨_, o, h1, h2⟩ := (hv.ce n a mc h q).live hl
      exact h2.ty ok h1 e'
  | scr h =>
    cases e
    rcases h with h | ⟨o, its, n, h1, h2, _⟩
    · rcases hv.ex.rd h with z | ⟨o, z⟩
      · exact ⟨_, .base (.lst z), rfl⟩
      · exact ⟨_, .base (.frz z), rfl⟩
    · exact ⟨_, .kList h1 h2, rfl⟩
theorem RepH.ty {B : Bx} (ok : BOk B) {G H : Hp} {al : List Addr} {fm : List (Addr × HO)} {s : Store} {v : V} {d : D} (hv : HV B G al fm H s) (r : RepH B al G fm v d) {ty : Ty} (e : d.ty s = some ty) : ∃ t, TyX B.K H v t ∧ TyR B ty t := by
  cases r with
  | rep r => exact r.ty ok hv e
  | l h _ => cases e; exact ⟨_, .base (.lst (hv.fr _ h).1), rfl⟩
  | k h _ => cases e; exact ⟨_, .base (.dK (hv.fr _ h).1), rfl⟩
def builtinNames : List String := ["NoneType", "bool", "int", "str", "list", "tuple", "dict"]
theorem D.ty_b {s : Store} {d : D} {n : String} (h : d.ty s = some (.b n)) : n ∈ builtinNames := by
  cases d with
  | cel k =>
    have e' : (s[k]?).bind MC.ty = some (.b n) := h
    cases q : s[k]? with
    | none => rw [q] at e'; cases e'
    | some mc =>
      rw [q] at e'
      cases mc <;> cases e' <;> decide
  | obj c fs => cases h
  | _ => cases h <;> decide
theorem kit_all : ∀ T ∈ ["int", "bool", "str", "list", "tuple", "dict"], ∀ n ∈ builtinNames, kitB n T = some (n == T || (n == "bool" && T == "int")) := by decide +kernel

section
variable {B : Bx} {X : Cx} {Γ : List Slot} {a b e : Expr} {es : List Expr} {pos : Pos} {m m1 m2 : M D}
theorem isB_kit (ok : BOk B) {s : Store} {d : D} {ty : Ty} {t : Value} (h2 : TyR B ty t) (e : d.ty s = some ty) {T : String} (hT : T ∈ ["int", "bool", "str", "list", "tuple", "dict"]) : PySem.W.kitOne B.K t (.type T) = some (ty.isB T) := by
  cases ty with
  | b n =>
    cases h2
    exact kit_ty (kit_all T hT n (D.ty_b e))
  | c c =>
    obtain ⟨C, hc, rfl⟩ := h2
    exact (ok.cls c C hc).noB T hT
theorem isB_ok (ok : BOk B) {G H : Hp} {al : List Addr} {fm : List (Addr × HO)} {s : Store} {v : V} {d : D} (hv : HV B G al fm H s) (r : RepH B al G fm v d) {ty : Ty} (e : d.ty s = some ty) {T : String} (hT : T ∈ ["int", "bool", "str", "list", "tuple", "dict"]) :
    ∃ t, TyX B.K H v t ∧ PySem.W.kitOne B.K t (.type T) = some (ty.isB T) := by
  obtain ⟨t, h1, h2⟩ := r.ty ok hv e
  exact ⟨t, h1, isB_kit ok h2 e hT⟩
/-- isinstance(e, T), T a built-in type -/
theorem qe_isi (T : String) {x : Str} {p p2 : Pos} (ok : BOk B) (hK : B.K = X.K) (hm : X.mg "isinstance" = none) (hmT : X.mg x = none) (hvT : bootBuiltins x = some (.type T)) (he : QH B X e Γ m) (hT : T ∈ ["int", "bool", "str", "list", "tuple", "dict"] := by decide) (hg : Gl X "isinstance" := by rfl) (hgT : Gl X x := by rfl) (hn : x ≠ "__name__" := by decide) (hdb : (x == ("__debug__" : Str)) = false := by decide)
    (hs : starEach [e, .Name x p2] X.env = (false, eval e X.env) :: starEach [.Name x p2] X.env := by rfl) (hs2 : starEach [.Name x p2] X.env = (false, eval (.Name x p2) X.env) :: starEach [] X.env := by rfl) (hpl : (backTo pos (starEach [.Name x p2] X.env)).any (·.1) = false := by rfl) :
    QE B X (.Call (.Name "isinstance" p) [e, .Name x p2] [] pos) Γ (do let d ← m; mIsi T d) := fun G al fm H σ s Q hv sl f => by
  refine wE_of (pe_callB call_isi hg hm boot_isinstance (pa_cons wE_ok (pa_cons (pe_bltn (v := .ty T) hgT hmT hvT rfl hn hdb) pa_nil hs2) hs) (by decide) (by decide) hs hpl) ?_
  refine he G al fm H σ s _ hv sl (Fo.bind f fun d s' v G' al' H' g ⟨hv', rp⟩ f' => ?_)
  unfold mIsi at f'
  cases q : d.ty s' with
  | none => rw [q] at f'; exact False.elim f'
  | some ty =>
    rw [q] at f'
    obtain ⟨t, h1, h2⟩ := isB_ok ok hv' rp q hT
    exact ⟨v, .ty T, t, .type T, _, rfl, .ty T, by rw [← hK]; exact h1, by rw [← hK]; exact h2, Fo.pure f' hv' (.bl _)⟩
/-- isinstance(e, (T, U)) -/
theorem qe_isi2 (T U : String) {x y : Str} {p p1 p2 p3 : Pos} {j : Nat} (ok : BOk B) (hK : B.K = X.K) (hm : X.mg "isinstance" = none) (hmT : X.mg x = none) (hvT : bootBuiltins x = some (.type T)) (hmU : X.mg y = none) (hvU : bootBuiltins y = some (.type U)) (he : QH B X e Γ m) (hT : T ∈ ["int", "bool", "str", "list", "tuple", "dict"] := by decide) (hU : U ∈ ["int", "bool", "str", "list", "tuple", "dict"] := by decide) (hg : Gl X "isinstance" := by rfl) (hgT : Gl X x := by rfl) (hn : x ≠ "__name__" := by decide) (hdb : (x == ("__debug__" : Str)) = false := by decide) (hgU : Gl X y := by rfl) (hnU : y ≠ "__name__" := by decide) (hdbU : (y == ("__debug__" : Str)) = false := by decide)
    (hs : starEach [e, .Tuple [.Name x p1, .Name y p2] j p3] X.env = (false, eval e X.env) :: starEach [.Tuple [.Name x p1, .Name y p2] j p3] X.env := by rfl) (hs2 : starEach [.Tuple [.Name x p1, .Name y p2] j p3] X.env = (false, eval (.Tuple [.Name x p1, .Name y p2] j p3) X.env) :: starEach [] X.env := by rfl)
    (hs3 : starEach [.Name x p1, .Name y p2] X.env = (false, eval (.Name x p1) X.env) :: starEach [.Name y p2] X.env := by rfl) (hs4 : starEach [.Name y p2] X.env = (false, eval (.Name y p2) X.env) :: starEach [] X.env := by rfl) (hpl : (backTo pos (starEach [.Tuple [.Name x p1, .Name y p2] j p3] X.env)).any (·.1) = false := by rfl) :
    QE B X (.Call (.Name "isinstance" p) [e, .Tuple [.Name x p1, .Name y p2] j p3] [] pos) Γ (do let d ← m; mIsi2 T U d) := fun G al fm H σ s Q hv sl f => by
  refine wE_of (pe_callB call_isiT hg hm boot_isinstance (pa_cons wE_ok (pa_cons (pe_tup (pa_cons (pe_bltn (v := .ty T) hgT hmT hvT rfl hn hdb) (pa_cons (pe_bltn (v := .ty U) hgU hmU hvU rfl hnU hdbU) pa_nil hs4) hs3)) pa_nil hs2) hs) (by decide) (by decide) hs hpl) ?_
  refine he G al fm H σ s _ hv sl (Fo.bind f fun d s' v G' al' H' g ⟨hv', rp⟩ f' => ?_)
  unfold mIsi2 at f'
  refine ⟨by show 2 ≤ sizeLine; decide +kernel, fun q np => ?_⟩
  cases qq : d.ty s' with
  | none => rw [qq] at f'; exact False.elim f'
  | some ty =>
    rw [qq] at f'
    have gr := Grow.new (al := al') (o := .tup [.ty T, .ty U]) (hv'.none_g np)
    have hv2 := hv'.new (o := .tup [.ty T, .ty U]) np
    obtain ⟨t'', k1, k2⟩ := (rp.mono gr).ty ok hv2 qq
    refine ⟨v, q, _, t'', [.type T, .type U], _, rfl, upd_same, .cons (.ty T) (.cons (.ty U) .nil), by rw [← hK]; exact k1, ?_, f' _ _ al' _ gr ⟨hv2, .bl _⟩⟩
    have e1 := isB_kit ok k2 qq hT
    have e2 := isB_kit ok k2 qq hU
    rw [← hK]
    unfold PySem.W.kitAny PySem.W.kitAny PySem.W.kitAny
    rw [e1, e2]
    cases ty.isB T <;> cases ty.isB U <;> rfl
end
/-! operators -/
section
variable {B : Bx} {X : Cx}
theorem om_lt : OpM B X (compareOp .Lt) mLt := by
  refine ⟨_, OpR.or op_lt op_lt_str, fun σ G al fm H s x y dx dy Q hv rx ry f => ?_⟩
  cases rx with
  | rep rx => cases ry with
    | rep ry => cases rx <;> cases ry <;> first
      | exact False.elim f
      | exact .inl ⟨_, _, rfl, rfl, Fo.pure f hv (.bl _)⟩
      | exact .inr ⟨_, _, rfl, rfl, Fo.pure f hv (.bl _)⟩
    | _ => cases rx <;> exact False.elim f
  | _ => exact False.elim f
theorem om_le : OpM B X (compareOp .LtE) mLe := by
  refine ⟨_, OpR.or op_le op_le_str, fun σ G al fm H s x y dx dy Q hv rx ry f => ?_⟩
  cases rx with
  | rep rx => cases ry with
    | rep ry => cases rx <;> cases ry <;> first
      | exact False.elim f
      | exact .inl ⟨_, _, rfl, rfl, Fo.pure f hv (.bl _)⟩
      | exact .inr ⟨_, _, rfl, rfl, Fo.pure f hv (.bl _)⟩
    | _ => cases rx <;> exact False.elim f
  | _ => exact False.elim f
theorem om_gt : OpM B X (compareOp .Gt) mGt := by
  refine ⟨_, OpR.or op_gt op_gt_str, fun σ G al fm H s x y dx dy Q hv rx ry f => ?_⟩
  cases rx with
  | rep rx => cases ry with
    | rep ry => cases rx <;> cases ry <;> first
      | exact False.elim f
      | exact .inl ⟨_, _, rfl, rfl, Fo.pure f hv (.bl _)⟩
      | exact .inr ⟨_, _, rfl, rfl, Fo.pure f hv (.bl _)⟩
    | _ => cases rx <;> exact False.elim f
  | _ => cases ry with
    | rep ry => cases ry <;> exact False.elim f
    | _ => exact False.elim f
theorem om_ge : OpM B X (compareOp .GtE) mGe := by
  refine ⟨_, OpR.or op_ge op_ge_str, fun σ G al fm H s x y dx dy Q hv rx ry f => ?_⟩
  cases rx with
  | rep rx => cases ry with
    | rep ry => cases rx <;> cases ry <;> first
      | exact False.elim f
      | exact .inl ⟨_, _, rfl, rfl, Fo.pure f hv (.bl _)⟩
      | exact .inr ⟨_, _, rfl, rfl, Fo.pure f hv (.bl _)⟩
    | _ => cases rx <;> exact False.elim f
  | _ => cases ry with
    | rep ry => cases ry <;> exact False.elim f
    | _ => exact False.elim f
theorem om_sub : OpM B X (binaryOp .Sub) mSub := by
  refine ⟨_, op_sub, fun σ G al fm H s x y dx dy Q hv rx ry f => ?_⟩
  cases rx with
  | rep rx => cases ry with
    | rep ry => cases rx <;> cases ry <;> first
      | exact False.elim f
      | exact ⟨_, _, rfl, rfl, Fo.pure f hv (.int _)⟩
    | _ => cases rx <;> exact False.elim f
  | _ => exact False.elim f
end
end PM
set_option Elab.async false
set_option linter.all false
set_option maxRecDepth 100000
set_option maxHeartbeats 2000000
/-! Pm5: new objects as values; what is walked. -/
namespace PM
open PySem PySem.Spec PyProof.Rows L2

/-! ### a new list, a new dict as a value -/
theorem HV.freezeLock {B : Bx} {G H : Hp} {al : List Addr} {fm : List (Addr × HO)} {s : Store} {p : Addr} {o : HO} (h : HV B G al ((p, o) :: fm) H s) (o' : HO) : HV B (upd G p o') al fm (upd H p o') s ∧ Grow G al (upd G p o') al := by
  have h2 := h.put (o' := o')
  exact h2.freeze
section
variable {B : Bx} {X : Cx} {Γ : List Slot} {e : Expr}
/-- it is frozen at once -/
theorem qe_L {m : M (List D)} (h : QL B X e Γ m) : QE B X e Γ (do let ds ← m; pure (.lst ds)) := fun G al fm H σ s Q hv sl f => by
  refine h G al fm H σ s Q hv sl (Fo.bind f fun ds s' v G' al' H' g ⟨p, xs, ev, hv', rp⟩ f' => ?_)
  subst ev
  obtain ⟨hv2, g2⟩ := hv'.freeze
  exact f' (.ref p) _ al' H' g2 ⟨hv2, .lst upd_same (rp.mono g2)⟩
theorem qe_K {m : M (List (D × D))} (h : QK B X e Γ m) : QE B X e Γ (do let es ← m; pure (.dct es)) := fun G al fm H σ s Q hv sl f => by
  refine wE_lock (h G al fm H σ s _ hv sl (Fo.bind f fun ds s' v G' al' H' g ⟨p, xs, ev, hv', rp⟩ f' => ?_))
  subst ev
  refine ⟨p, .dK xs, (hv'.fr (p, .dK xs) List.mem_cons_self).1, True.intro, fun od => ?_⟩
  obtain ⟨hv2, g2⟩ := hv'.freezeLock (.frz od (.dK xs))
  exact f' (.ref p) _ al' _ g2 ⟨hv2, .dct upd_same (rp.mono g2)⟩
/-- [e1, e2, ..] -/
theorem ql_lst {es : List Expr} {pos : Pos} {c : ∀ {α : Type}, (List D → M α) → M α} (ha : QA B X es Γ c) : QL B X (.List es pos) Γ (c fun ds => fits ds.length (pure ds)) := fun G al fm H σ s Q hv sl f => by
  rw [ha.n] at f
  refine wE_of (pe_lst wA_ok) (ha.q G al fm H σ s _ hv sl (Fo.bind f fun ds s' vs G' al' H' g ⟨hv', rp⟩ f' => ?_))
  rw [fits_run] at f'
  split at f'
  · rename_i hl
    refine ⟨by rw [rp.length, sizeLine_eq]; exact hl, fun p np => ?_⟩
    exact f' (.ref p) G' al' _ Grow.refl ⟨p, _, rfl, hv'.hold np, rp⟩
  · exact False.elim f'
/-- .. frozen -/
def mLst (ds : List D) : M D := fits ds.length (pure (.lst ds))
theorem qe_lst {es : List Expr} {pos : Pos} {c : ∀ {α : Type}, (List D → M α) → M α} (ha : QA B X es Γ c) : QE B X (.List es pos) Γ (c mLst) := fun G al fm H σ s Q hv sl f => by
  rw [ha.n] at f
  refine wE_of (pe_lst wA_ok) (ha.q G al fm H σ s _ hv sl (Fo.bind f fun ds s' vs G' al' H' g ⟨hv', rp⟩ f' => ?_))
  unfold mLst at f'
  rw [fits_run] at f'
  split at f'
  · rename_i hl
    refine ⟨by rw [rp.length, sizeLine_eq]; exact hl, fun p np => ?_⟩
    have gr := Grow.new (al := al') (o := .lst vs) (hv'.none_g np)
    exact f' (.ref p) _ al' _ gr ⟨hv'.new np, .lst upd_same (rp.mono gr)⟩
  · exact False.elim f'
def mTup (ds : List D) : M D := fits ds.length (pure (.tup ds))
theorem qe_tup {es : List Expr} {j : Nat} {pos : Pos} {c : ∀ {α : Type}, (List D → M α) → M α} (ha : QA B X es Γ c) : QE B X (.Tuple es j pos) Γ (c mTup) := fun G al fm H σ s Q hv sl f => by
  rw [ha.n] at f
  refine wE_of (pe_tup wA_ok) (ha.q G al fm H σ s _ hv sl (Fo.bind f fun ds s' vs G' al' H' g ⟨hv', rp⟩ f' => ?_))
  unfold mTup at f'
  rw [fits_run] at f'
  split at f'
  · rename_i hl
    refine ⟨by rw [rp.length, sizeLine_eq]; exact hl, fun p np => ?_⟩
    have gr := Grow.new (al := al') (o := .tup vs) (hv'.none_g np)
    exact f' (.ref p) _ al' _ gr ⟨hv'.new np, .tup (.inl (.inl upd_same)) (rp.mono gr)⟩
  · exact False.elim f'
end

/-! ### lists that can be read -/
section
variable {B : Bx} {al : List Addr} {G : Hp}
theorem RepL.item : ∀ {vs : List V} {ds : List D} {i : Nat} {d : D}, RepL B al G vs ds → ds[i]? = some d → ∃ v, vs[i]? = some v ∧ Rep B al G v d
  | _, _, _, _, .nil, h => by simp at h
  | _, _, 0, _, .cons h _, h1 => by
    simp at h1
    subst h1
    exact ⟨_, rfl, h⟩
  | _, _, i + 1, _, .cons _ r, h1 => by
    obtain ⟨v, h2, h3⟩ := RepL.item (i := i) r (by simpa using h1)
    exact ⟨v, by simpa using h2, h3⟩
theorem RepL.off {vs : List V} {ds : List D} {i : Nat} (r : RepL B al G vs ds) (h : ds[i]? = none) : vs.length ≤ i := by
  rw [r.length]
  exact List.getElem?_eq_none_iff.mp h
theorem repL_ints : ∀ ns : List Int, RepL B al G (ns.map V.int) (ns.map D.int)
  | [] => .nil
  | n :: r => .cons (.int n) (repL_ints r)
/-- a list or tuple that is to be read -/
theorem RepH.seq {H : Hp} {fm : List (Addr × HO)} {s : Store} {v : V} {d : D} {ds : List D} (hv : HV B G al fm H s) (r : RepH B al G fm v d) (h : seqOf s d = some ds) : ∃ a xs, v = .ref a ∧ RepL B al G xs ds ∧ (SqL B.K H a xs ∨ SqT B.K H a xs) := by
  cases r with
  | l h1 r => cases h; exact ⟨_, _, rfl, r, .inl (.inl (.inl (hv.fr _ h1).1))⟩
  | k h1 r => cases h
  | rep r => cases r with
    | lst h1 r => cases h; exact ⟨_, _, rfl, r, .inl (.inl (.inl (hv.ex.at h1)))⟩
    | tup h1 r => cases h; exact ⟨_, _, rfl, r, .inr (hv.ex.sqT h1)⟩
    | scr h1 => cases h; exact ⟨_, _, rfl, repL_ints _, .inl (hv.ex.sqL h1)⟩
    | @cel n a h1 =>
      have h' : (match s[n]? with | some (.lst ds) => some ds | _ => none) = some ds := h
      cases q : s[n]? with
      | none => rw [q] at h'; cases h'
      | some mc =>
        rw [q] at h'
        cases mc with
        | lst es =>
          cases h'
          obtain ⟨_, o, e1, e2⟩ := (hv.ce n a _ h1 q).live (fun z => nomatch z)
          cases e2 with
          | lst r => exact ⟨a, _, rfl, r, .inl (.inl (.inl e1))⟩
        | _ => cases h'
    | _ => cases h
theorem RepH.dctR {H : Hp} {fm : List (Addr × HO)} {s : Store} {v : V} {d : D} {es : List (D × D)} (hv : HV B G al fm H s) (r : RepH B al G fm v d) (h : dctOf s d = some es) : ∃ a kvs, v = .ref a ∧ RepD B al G kvs es ∧ Rd H a (.dK kvs) := by
  cases r with
  | k h1 r => cases h; exact ⟨_, _, rfl, r, .inl (hv.fr _ h1).1⟩
  | l h1 r => cases h
  | rep r => cases r with
    | dct h1 r => cases h; exact ⟨_, _, rfl, r, .inr ⟨_, hv.ex.at h1⟩⟩
    | @cel n a h1 =>
      have h' : (match s[n]? with | some (.dct ds) => some ds | _ => none) = some es := h
      cases q : s[n]? with
      | none => rw [q] at h'; cases h'
      | some mc =>
        rw [q] at h'
        cases mc with
        | dct es =>
          cases h'
          obtain ⟨_, o, e1, e2⟩ := (hv.ce n a _ h1 q).live (fun z => nomatch z)
          cases e2 with
          | dct r => exact ⟨a, _, rfl, r, .inl e1⟩
        | _ => cases h'
    | _ => cases h
end

/-! ### what is walked -/
/-- the iterator gives ds, whatever is made and changed meanwhile, as long as fm0 is held and gd holds -/
def Walks (B : Bx) (J : It) (ds : List D) (G0 : Hp) (al0 : List Addr) (fm0 : List (Addr × HO)) (gd : Store → Prop) : Prop := ∀ G al fm H s, Grow G0 al0 G al → (∀ p ∈ fm0, p ∈ fm) → HV B G al fm H s → gd s → ∀ i : Nat,
  (∀ d, ds[i]? = some d → J.go i H ∧ ∀ x H', J.yld i H x H' → ∃ G', Grow G al G' al ∧ HV B G' al fm H' s ∧ Rep B al G' x d) ∧ (ds[i]? = none → J.stop i H)
theorem Walks.more {B : Bx} {J : It} {ds : List D} {G0 : Hp} {al0 : List Addr} {fm0 : List (Addr × HO)} {gd : Store → Prop} (h : Walks B J ds G0 al0 [] gd) : Walks B J ds G0 al0 fm0 gd := fun G al fm H s g hf hv hg => h G al fm H s g (fun _ h => nomatch h) hv hg
def wI (X : Cx) (tg iter : Expr) : TI := fun σ H Q => ∃ t, PI X tg iter t ∧ t σ H Q
theorem wI_ok {X : Cx} {tg iter : Expr} : PI X tg iter (wI X tg iter) := ⟨fun pins s σ H Q I h => by
  obtain ⟨t, p, q⟩ := h
  exact p.run pins s σ H Q I q⟩
structure Itm where
  gd : Store → Prop
  ds : List D
def yes : Store → Prop := fun _ => True
/-- for a comprehension; for a loop -/
def kI : Kd Itm It := fun B fm G al a J s H => HV B G al fm H s ∧ Walks B J a.ds G al fm a.gd
def kF : Kd Itm It := fun B fm G al a J s H => HV B G al fm H s ∧ Walks B J a.ds G al [] a.gd
def QI (B : Bx) (X : Cx) (tg iter : Expr) (Γ : List Slot) (m : M Itm) : Prop := Qj B X (wI X tg iter) kI Γ m
def QF (B : Bx) (X : Cx) (tg iter : Expr) (Γ : List Slot) (m : M Itm) : Prop := Qj B X (wI X tg iter) kF Γ m
theorem qi_f {B : Bx} {X : Cx} {tg iter : Expr} {Γ : List Slot} {m : M Itm} (h : QF B X tg iter Γ m) : QI B X tg iter Γ m := fun G al fm H σ s Q hv sl f => by
  refine h G al fm H σ s Q hv sl ?_
  cases q : m s with
  | ok d s' => rw [q] at f; exact fun v G' al' H' g ⟨hv', w⟩ => f v G' al' H' g ⟨hv', w.more⟩
  | err x s' => rw [q] at f; exact f
  | bad => rw [q] at f; exact f
section
variable {B : Bx} {X : Cx} {Γ : List Slot} {e tg iter : Expr} {m : M D}
theorem walks_gen {J : It} {ds : List D} {G0 : Hp} {al0 : List Addr} {fm0 : List (Addr × HO)} {gd : Store → Prop} {K : PySem.W.Frag} {a : Addr}
    (h : ∀ G al fm H s, Grow G0 al0 G al → (∀ p ∈ fm0, p ∈ fm) → HV B G al fm H s → gd s → ∃ xs, SqL K H a xs ∧ RepL B al G xs ds) (hJ : J = Itl K a) : Walks B J ds G0 al0 fm0 gd := fun G al fm H s g hf hv hg i => by
  subst hJ
  obtain ⟨xs, hs, r⟩ := h G al fm H s g hf hv hg
  refine ⟨fun d hd => ?_, fun hd => ⟨xs, hs, r.off hd⟩⟩
  obtain ⟨v, h1, h2⟩ := r.item hd
  refine ⟨⟨xs, v, hs, h1⟩, fun x H' hy => ?_⟩
  obtain ⟨rfl, hx⟩ := hy
  have := (hx xs hs).symm.trans h1
  cases this
  exact ⟨G, Grow.refl, hv, h2⟩
theorem walks_sqT {J : It} {K : PySem.W.Frag} {a : Addr} {xs : List V} {ds : List D} {G0 : Hp} {al0 : List Addr} (h : SqT K G0 a xs) (r : RepL B al0 G0 xs ds) (hJ : J = Itt K a) : Walks B J ds G0 al0 [] yes := fun G al fm H s g _ hv _ i => by
  subst hJ
  have hs : SqT K H a xs := hv.ex.sqT (g.sqT h)
  refine ⟨fun d hd => ?_, fun hd => ⟨xs, hs, r.off hd⟩⟩
  obtain ⟨v, h1, h2⟩ := r.item hd
  refine ⟨⟨xs, v, hs, h1⟩, fun x H' hy => ?_⟩
  obtain ⟨rfl, hx⟩ := hy
  have := (hx xs hs).symm.trans h1
  cases this
  exact ⟨G, Grow.refl, hv, h2.mono g⟩
def signs (x : Str) : List D := x.cps.toList.map fun c => .str ⟨#[c]⟩
theorem walks_str {x : Str} {G0 : Hp} {al0 : List Addr} : Walks B (Its x) (signs x) G0 al0 [] yes := fun G al fm H s g _ hv _ i => by
  refine ⟨fun d hd => ?_, fun hd => ?_⟩
  · unfold signs at hd
    rw [List.getElem?_map] at hd
    cases q : x.cps.toList[i]? with
    | none => rw [q] at hd; cases hd
    | some c =>
      rw [q] at hd
      cases hd
      have q' : x.cps[i]? = some c := by rw [← Array.getElem?_toList]; exact q
      have hlt : i < x.cps.size := by
        have := (Array.getElem?_eq_some_iff.mp q').1
        exact this
      refine ⟨hlt, fun y H' hy => ?_⟩
      obtain ⟨rfl, c', hc', rfl⟩ := hy
      rw [q'] at hc'
      cases hc'
      exact ⟨G, Grow.refl, hv, .str _⟩
  · unfold signs at hd
    rw [List.getElem?_eq_none_iff, List.length_map] at hd
    exact hd
def rangeD (lo : Int) (n : Nat) : List D := (List.range n).map fun k : Nat => D.int (lo + (k : Int))
theorem walks_range {lo : Int} {n : Nat} {G0 : Hp} {al0 : List Addr} : Walks B (Itr lo n) (rangeD lo n) G0 al0 [] yes := fun G al fm H s g _ hv _ i => by
  refine ⟨fun d hd => ?_, fun hd => ?_⟩
  · unfold rangeD at hd
    rw [List.getElem?_map] at hd
    have hlt : i < n := by
      cases q : (List.range n)[i]? with
      | none => rw [q] at hd; cases hd
      | some c =>
        have := (List.getElem?_eq_some_iff.mp q).1
        rwa [List.length_range] at this
    rw [List.getElem?_range hlt] at hd
    cases hd
    refine ⟨hlt, fun y H' hy => ?_⟩
    obtain ⟨rfl, rfl⟩ := hy
    exact ⟨G, Grow.refl, hv, .int _⟩
  · unfold rangeD at hd
    rw [List.getElem?_eq_none_iff, List.length_map, List.length_range] at hd
    exact hd
/-- a dict's keys -/
theorem RepD.item : ∀ {kvs : List (Key × V)} {es : List (D × D)} {al : List Addr} {G : Hp} {i : Nat} {e : D × D}, RepD B al G kvs es → es[i]? = some e → ∃ k v, kvs[i]? = some (k, v) ∧ e.1 = keyD k ∧ Rep B al G v e.2
  | _, _, _, _, _, _, .nil, h => by simp at h
  | _, _, _, _, 0, _, .cons h _, h1 => by
    simp at h1
    subst h1
    exact ⟨_, _, rfl, rfl, h⟩
  | _, _, _, _, i + 1, _, .cons _ r, h1 => by
    obtain ⟨k, v, h2, h3⟩ := RepD.item (i := i) r (by simpa using h1)
    exact ⟨k, v, by simpa using h2, h3⟩
theorem RepD.length : ∀ {kvs : List (Key × V)} {es : List (D × D)} {al : List Addr} {G : Hp}, RepD B al G kvs es → kvs.length = es.length
  | _, _, _, _, .nil => rfl
  | _, _, _, _, .cons _ r => by rw [List.length_cons, List.length_cons, RepD.length r]
theorem rep_key {al : List Addr} {G : Hp} : ∀ k : Key, Rep B al G (kV k) (keyD k)
  | .inl i => .int i
  | .inr x => .str x
theorem walks_keys {d : Addr} {od : Obj} {kvs : List (Key × V)} {es : List (D × D)} {G0 : Hp} {al0 : List Addr} (h : G0 d = some (.frz od (.dK kvs))) (r : RepD B al0 G0 kvs es) : Walks B (Itk d od kvs) (es.map (·.1)) G0 al0 [] yes := fun G al fm H s g _ hv _ i => by
  have hs : H d = some (.frz od (.dK kvs)) := hv.ex.at (g.g _ _ h)
  refine ⟨fun d hd => ?_, fun hd => ⟨hs, ?_⟩⟩
  · rw [List.getElem?_map] at hd
    cases q : es[i]? with
    | none => rw [q] at hd; cases hd
    | some e =>
      rw [q] at hd
      cases hd
      obtain ⟨k, v, h1, h2, h3⟩ := r.item q
      refine ⟨⟨hs, (List.getElem?_eq_some_iff.mp h1).1⟩, fun x H' hy => ?_⟩
      obtain ⟨rfl, k', v', h4, rfl⟩ := hy
      rw [h1] at h4
      cases h4
      exact ⟨G, Grow.refl, hv, by show Rep B al G (kV k) e.1; rw [h2]; exact rep_key k⟩
  · rw [List.getElem?_eq_none_iff, List.length_map] at hd
    rw [r.length]
    exact hd
/-- its pairs -/
def pairsD (es : List (D × D)) : List D := es.map fun e => .tup [e.1, e.2]
theorem walks_items {d : Addr} {od : Obj} {kvs : List (Key × V)} {es : List (D × D)} {G0 : Hp} {al0 : List Addr} (h : G0 d = some (.frz od (.dK kvs))) (r : RepD B al0 G0 kvs es) : Walks B (Iti d od kvs) (pairsD es) G0 al0 [] yes := fun G al fm H s g _ hv _ i => by
  have hs : H d = some (.frz od (.dK kvs)) := hv.ex.at (g.g _ _ h)
  refine ⟨fun d hd => ?_, fun hd => ⟨hs, ?_⟩⟩
  · unfold pairsD at hd
    rw [List.getElem?_map] at hd
    cases q : es[i]? with
    | none => rw [q] at hd; cases hd
    | some e =>
      rw [q] at hd
      cases hd
      obtain ⟨k, v, h1, h2, h3⟩ := r.item q
      refine ⟨⟨hs, (List.getElem?_eq_some_iff.mp h1).1⟩, fun x H' hy => ?_⟩
      obtain ⟨T, k', v', h4, rfl, nT, rfl⟩ := hy
      rw [h1] at h4
      cases h4
      have gr := Grow.new (al := al) (o := .tup [kV k, v]) (hv.none_g nT)
      exact ⟨_, gr, hv.new nT, .tup (.inl (.inl upd_same)) (.cons (by rw [h2]; exact rep_key k) (.cons ((h3.mono g).mono gr) .nil))⟩
  · unfold pairsD at hd
    rw [List.getElem?_eq_none_iff, List.length_map] at hd
    rw [r.length]
    exact hd
theorem walks_vals {d : Addr} {od : Obj} {kvs : List (Key × V)} {es : List (D × D)} {G0 : Hp} {al0 : List Addr} (h : G0 d = some (.frz od (.dK kvs))) (r : RepD B al0 G0 kvs es) : Walks B (Itd d od kvs) (es.map (·.2)) G0 al0 [] yes := fun G al fm H s g _ hv _ i => by
  have hs : H d = some (.frz od (.dK kvs)) := hv.ex.at (g.g _ _ h)
  refine ⟨fun d hd => ?_, fun hd => ⟨hs, ?_⟩⟩
  · rw [List.getElem?_map] at hd
    cases q : es[i]? with
    | none => rw [q] at hd; cases hd
    | some e =>
      rw [q] at hd
      cases hd
      obtain ⟨k, v, h1, h2, h3⟩ := r.item q
      refine ⟨⟨hs, (List.getElem?_eq_some_iff.mp h1).1⟩, fun x H' hy => ?_⟩
      obtain ⟨rfl, k', h4⟩ := hy
      rw [h1] at h4
      cases h4
      exact ⟨G, Grow.refl, hv, h3.mono g⟩
  · rw [List.getElem?_eq_none_iff, List.length_map] at hd
    rw [r.length]
    exact hd
/-- the items of a list, a tuple, a text, the script, a dict's keys -/
def D.items : D → Option (List D)
  | .lst ds => some ds
  | .tup ds => some ds
  | .str x => some (signs x)
  | .scr ns => some (ns.map D.int)
  | .dct es => some (es.map (·.1))
  | _ => none
def mItems (d : D) : M Itm := match d.items with
  | some ds => pure ⟨yes, ds⟩
  | none => bad
theorem qf_e (hK : B.K = X.K) (h : QE B X iter Γ m) : QF B X tg iter Γ (do let d ← m; mItems d) := fun G al fm H σ s Q hv sl f => by
  rw [bind_run] at f
  cases q : m s with
  | bad => rw [q] at f; exact False.elim f
  | err x s' =>
    rw [q] at f
    refine ⟨_, pi_list wE_ok, h G al fm H σ s _ hv sl ?_⟩
    rw [q]
    exact f
  | ok d s' =>
    rw [q] at f
    cases d with
    | lst ds =>
      refine ⟨_, pi_list wE_ok, h G al fm H σ s _ hv sl ?_⟩
      rw [q]
      intro v G' al' H' g ⟨hv', rp⟩
      cases rp with
      | @lst a xs _ h1 h2 => exact ⟨a, rfl, ⟨xs, .inl (.inl (hv'.ex.at h1))⟩, f _ G' al' H' g ⟨hv', walks_gen (K := X.K) (fun G2 al2 fm2 H2 s2 g2 _ hv2 _ => ⟨xs, .inl (.inl (hv2.ex.at (g2.g _ _ h1))), h2.mono g2⟩) rfl⟩⟩
    | tup ds =>
      refine ⟨_, pi_tup wE_ok, h G al fm H σ s _ hv sl ?_⟩
      rw [q]
      intro v G' al' H' g ⟨hv', rp⟩
      cases rp with
      | @tup a xs _ h1 h2 =>
        rw [hK] at h1
        exact ⟨a, rfl, ⟨xs, hv'.ex.sqT h1⟩, f _ G' al' H' g ⟨hv', walks_sqT h1 h2 rfl⟩⟩
    | scr ns =>
      refine ⟨_, pi_list wE_ok, h G al fm H σ s _ hv sl ?_⟩
      rw [q]
      intro v G' al' H' g ⟨hv', rp⟩
      cases rp with
      | @scr a _ h1 =>
        rw [hK] at h1
        exact ⟨a, rfl, ⟨_, hv'.ex.sqL h1⟩, f _ G' al' H' g ⟨hv', walks_gen (K := X.K) (fun G2 al2 fm2 H2 s2 g2 _ hv2 _ => ⟨_, hv2.ex.sqL (g2.sqL h1), repL_ints ns⟩) rfl⟩⟩
    | str x =>
      refine ⟨_, pi_str wE_ok, h G al fm H σ s _ hv sl ?_⟩
      rw [q]
      intro v G' al' H' g ⟨hv', rp⟩
      cases rp
      exact ⟨x, rfl, f _ G' al' H' g ⟨hv', walks_str⟩⟩
    | dct es =>
      refine ⟨_, pi_keys wE_ok, h G al fm H σ s _ hv sl ?_⟩
      rw [q]
      intro v G' al' H' g ⟨hv', rp⟩
      cases rp with
      | @dct a od kvs _ h1 h2 => exact ⟨a, od, rfl, .inl ⟨kvs, hv'.ex.at h1, f _ G' al' H' g ⟨hv', walks_keys h1 h2⟩⟩⟩
    | _ => exact False.elim f
/-- range(n) -/
noncomputable def mRange1 (d : D) : M Itm := match d with
  | .int j => cif (-(2 ^ 62) ≤ j ∧ j < 2 ^ 62) (pure ⟨yes, rangeD 0 j.toNat⟩) bad
  | _ => bad
theorem qf_range1 {a : Expr} {p pos : Pos} (hm : X.mg "range" = none) (h : QE B X a Γ m) (hg : Gl X "range" := by rfl) (hs : starEach [a] X.env = [(false, eval a X.env)] := by rfl) : QF B X tg (.Call (.Name "range" p) [a] [] pos) Γ (do let d ← m; mRange1 d) := fun G al fm H σ s Q hv sl f => by
  refine ⟨_, pi_range1 hg hm (pa_cons wE_ok pa_nil hs) hs, h G al fm H σ s _ hv sl (Fo.bind f fun d s' v G' al' H' g ⟨hv', rp⟩ f' => ?_)⟩
  cases rp with
  | int j =>
    have f2 : Fo B X σ fm G' al' (kF B fm) ((cif (-(2 ^ 62) ≤ j ∧ j < 2 ^ 62) (pure ⟨yes, rangeD 0 j.toNat⟩ : M Itm) bad) s') Q := f'
    by_cases hj : -(2 ^ 62) ≤ j ∧ j < 2 ^ 62
    · rw [cif_pos hj] at f2
      exact ⟨j, rfl, hj.1, hj.2, f2 _ G' al' H' Grow.refl ⟨hv', walks_range⟩⟩
    · rw [cif_neg hj] at f2
      exact False.elim f2
  | _ => exact False.elim f'
noncomputable def mRange2 (c d : D) : M Itm := match c, d with
  | .int i, .int j => cif ((-(2 ^ 62) ≤ i ∧ i < 2 ^ 62) ∧ (-(2 ^ 62) ≤ j ∧ j < 2 ^ 62)) (pure ⟨yes, rangeD i (j - i).toNat⟩) bad
  | _, _ => bad
/-- d.items(), d.values() -/
def mPairs (d : D) : M Itm := match d with
  | .dct es => pure ⟨yes, pairsD es⟩
  | _ => bad
theorem qf_items {elts : List Expr} {kk : Nat} {tpos apos cpos : Pos} (h : QE B X e Γ m) (hbase : attributeBase e "items" X.env (eval e X.env) = eval e X.env := by rfl) (hline : (apos.endLine == cpos.line) = true := by rfl) : QF B X (.Tuple elts kk tpos) (.Call (.Attribute e "items" apos) [] [] cpos) Γ (do let d ← m; mPairs d) := fun G al fm H σ s Q hv sl f => by
  refine ⟨_, pi_items wE_ok hbase hline, h G al fm H σ s _ hv sl (Fo.bind f fun d s' v G' al' H' g ⟨hv', rp⟩ f' => ?_)⟩
  cases rp with
  | @dct a od kvs _ h1 h2 => exact ⟨a, od, kvs, rfl, hv'.ex.at h1, f' _ G' al' H' Grow.refl ⟨hv', walks_items h1 h2⟩⟩
  | _ => exact False.elim f'
/-- zip(a, b) of two lists -/
def mZip (c d : D) : M Itm := match c, d with
  | .lst xs, .lst ys => pure ⟨yes, (xs.zip ys).map fun p => .tup [p.1, p.2]⟩
  | _, _ => bad
theorem walks_zip {K : PySem.W.Frag} {a b : Addr} {xs ys : List V} {ds es : List D} {G0 : Hp} {al0 : List Addr} (h : SqL K G0 a xs) (r : RepL B al0 G0 xs ds) (h' : SqL K G0 b ys) (r' : RepL B al0 G0 ys es) : Walks B (Itz K a b) ((ds.zip es).map fun p => .tup [p.1, p.2]) G0 al0 [] yes := fun G al fm H s g _ hv _ i => by
  have hs : SqL K H a xs := hv.ex.sqL (g.sqL h)
  have hs' : SqL K H b ys := hv.ex.sqL (g.sqL h')
  refine ⟨fun d hd => ?_, fun hd => ⟨xs, ys, hs, hs', ?_⟩⟩
  · rw [List.getElem?_map] at hd
    cases q : (ds.zip es)[i]? with
    | none => rw [q] at hd; cases hd
    | some pq =>
      rw [q] at hd
      cases hd
      obtain ⟨q1, q2⟩ := List.getElem?_zip_eq_some.mp q
      obtain ⟨v, h1, h2⟩ := r.item q1
      obtain ⟨v', h1', h2'⟩ := r'.item q2
      refine ⟨⟨xs, ys, v, v', hs, hs', h1, h1'⟩, fun x H' hy => ?_⟩
      obtain ⟨T, x1, y1, rfl, nT, rfl, e1, e2⟩ := hy
      have z1 := (e1 xs hs).symm.trans h1
      have z2 := (e2 ys hs').symm.trans h1'
      cases z1; cases z2
      have gr := Grow.new (al := al) (o := .tup [v, v']) (hv.none_g nT)
      exact ⟨_, gr, hv.new nT, .tup (.inl (.inl upd_same)) (.cons ((h2.mono g).mono gr) (.cons ((h2'.mono g).mono gr) .nil))⟩
  · rw [List.getElem?_eq_none_iff, List.length_map, List.length_zip] at hd
    rw [r.length, r'.length]
    omega
theorem qf_zip {e2 : Expr} {m2 : M D} {elts : List Expr} {kk : Nat} {tpos p pos : Pos} (hm : X.mg "zip" = none) (h : QE B X e Γ m) (h2 : QE B X e2 Γ m2) (hg : Gl X "zip" := by rfl) (hs : starEach [e, e2] X.env = (false, eval e X.env) :: starEach [e2] X.env := by rfl) (hs2 : starEach [e2] X.env = (false, eval e2 X.env) :: starEach [] X.env := by rfl) (hpl : (backTo pos (starEach [e2] X.env)).any (·.1) = false := by rfl) :
    QF B X (.Tuple elts kk tpos) (.Call (.Name "zip" p) [e, e2] [] pos) Γ (do let c ← m; let d ← m2; mZip c d) := fun G al fm H σ s Q hv sl f => by
  refine ⟨_, pi_zip hg hm (pa_cons wE_ok (pa_cons wE_ok pa_nil hs2) hs) hs hpl, h G al fm H σ s _ hv sl (Fo.bind f fun d s' v G' al' H' g ⟨hv', rp⟩ f' => ?_)⟩
  refine h2 G' al' fm H' σ s' _ hv' (sl.mono g) (Fo.bind f' fun d2 s2 v2 G2 al2 H2 g2 ⟨hv2, rp2⟩ f2 => ?_)
  have rp := rp.mono g2
  cases rp with
  | @lst a xs _ h1 r1 => cases rp2 with
    | @lst b ys _ h1' r1' => exact ⟨a, b, xs, ys, rfl, .inl (.inl (hv2.ex.at h1)), .inl (.inl (hv2.ex.at h1')), f2 _ G2 al2 H2 Grow.refl ⟨hv2, walks_zip (.inl (.inl h1)) r1 (.inl (.inl h1')) r1'⟩⟩
    | _ => exact False.elim f2
  | _ => exact False.elim f2
/-- enumerate(a) of a list -/
def enumD (i : Nat) : List D → List D
  | [] => []
  | d :: r => .tup [.int i, d] :: enumD (i + 1) r
theorem enumD_get : ∀ (ds : List D) (k i : Nat), (enumD k ds)[i]? = (ds[i]?).map fun d => .tup [.int ((k + i : Nat) : Int), d]
  | [], k, i => by simp [enumD]
  | d :: r, k, 0 => by simp [enumD]
  | d :: r, k, i + 1 => by
    have := enumD_get r (k + 1) i
    simp only [enumD, List.getElem?_cons_succ]
    rw [this]
    congr 1
    funext d
    rw [show k + 1 + i = k + (i + 1) by omega]
def mEnum (c : D) : M Itm := match c with
  | .lst xs => pure ⟨yes, enumD 0 xs⟩
  | _ => bad
theorem walks_enum {K : PySem.W.Frag} {a : Addr} {ds : List D} {G0 : Hp} {al0 : List Addr} {fm0 : List (Addr × HO)} {gd : Store → Prop} (h : ∀ G al fm H s, Grow G0 al0 G al → (∀ p ∈ fm0, p ∈ fm) → HV B G al fm H s → gd s → ∃ xs, SqL K H a xs ∧ RepL B al G xs ds) : Walks B (Ite K a) (enumD 0 ds) G0 al0 fm0 gd := fun G al fm H s g hf hv hg i => by
  obtain ⟨xs, hs, r⟩ := h G al fm H s g hf hv hg
  refine ⟨fun d hd => ?_, fun hd => ⟨xs, hs, ?_⟩⟩
  · rw [enumD_get] at hd
    cases q : ds[i]? with
    | none => rw [q] at hd; cases hd
    | some d0 =>
      rw [q] at hd
      cases hd
      obtain ⟨v, h1, h2⟩ := r.item q
      refine ⟨⟨xs, v, hs, h1⟩, fun x H' hy => ?_⟩
      obtain ⟨T, x1, rfl, nT, rfl, e1⟩ := hy
      have z1 := (e1 xs hs).symm.trans h1
      cases z1
      have gr := Grow.new (al := al) (o := .tup [.int (i : Nat), v]) (hv.none_g nT)
      refine ⟨_, gr, hv.new nT, .tup (.inl (.inl upd_same)) (.cons ?_ (.cons (h2.mono gr) .nil))⟩
      rw [Nat.zero_add]
      exact .int _
  · rw [enumD_get] at hd
    cases q : ds[i]? with
    | none => exact r.off q
    | some d0 => rw [q] at hd; cases hd
theorem qf_enum {elts : List Expr} {kk : Nat} {tpos p pos : Pos} (hm : X.mg "enumerate" = none) (h : QE B X e Γ m) (hg : Gl X "enumerate" := by rfl) (hs : starEach [e] X.env = [(false, eval e X.env)] := by rfl) :
    QF B X (.Tuple elts kk tpos) (.Call (.Name "enumerate" p) [e] [] pos) Γ (do let c ← m; mEnum c) := fun G al fm H σ s Q hv sl f => by
  refine ⟨_, pi_enum hg hm (pa_cons wE_ok pa_nil hs) hs, h G al fm H σ s _ hv sl (Fo.bind f fun d s' v G' al' H' g ⟨hv', rp⟩ f' => ?_)⟩
  cases rp with
  | @lst a xs _ h1 r1 => exact ⟨a, xs, rfl, .inl (.inl (hv'.ex.at h1)), f' _ G' al' H' Grow.refl ⟨hv', walks_enum fun G2 al2 fm2 H2 s2 g2 _ hv2 _ => ⟨xs, .inl (.inl (hv2.ex.at (g2.g _ _ h1))), r1.mono g2⟩⟩⟩
  | _ => exact False.elim f'
/-- range(a, b) -/
theorem qf_range2 {a b : Expr} {m2 : M D} {p pos : Pos} (hm : X.mg "range" = none) (h : QE B X a Γ m) (h2 : QE B X b Γ m2) (hg : Gl X "range" := by rfl) (hs : starEach [a, b] X.env = [(false, eval a X.env), (false, eval b X.env)] := by rfl) (hs2 : starEach [b] X.env = [(false, eval b X.env)] := by rfl) (hs3 : starEach [a, b] X.env = (false, eval a X.env) :: starEach [b] X.env := by rfl) : QF B X tg (.Call (.Name "range" p) [a, b] [] pos) Γ (do let c ← m; let d ← m2; mRange2 c d) := fun G al fm H σ s Q hv sl f => by
  refine ⟨_, pi_range2 hg hm (pa_cons wE_ok (pa_cons wE_ok pa_nil hs2) hs3) hs hs2, h G al fm H σ s _ hv sl (Fo.bind f fun d s' v G' al' H' g ⟨hv', rp⟩ f' => ?_)⟩
  refine h2 G' al' fm H' σ s' _ hv' (sl.mono g) (Fo.bind f' fun d2 s2 v2 G2 al2 H2 g2 ⟨hv2, rp2⟩ f2 => ?_)
  cases rp with
  | int i => cases rp2 with
    | int j =>
      have f3 : Fo B X σ fm G2 al2 (kF B fm) ((cif ((-(2 ^ 62) ≤ i ∧ i < 2 ^ 62) ∧ (-(2 ^ 62) ≤ j ∧ j < 2 ^ 62)) (pure ⟨yes, rangeD i (j - i).toNat⟩ : M Itm) bad) s2) Q := f2
      by_cases hj : (-(2 ^ 62) ≤ i ∧ i < 2 ^ 62) ∧ (-(2 ^ 62) ≤ j ∧ j < 2 ^ 62)
      · rw [cif_pos hj] at f3
        exact ⟨i, j, rfl, ⟨hj.1.1, hj.1.2, hj.2.1, hj.2.2⟩, f3 _ G2 al2 H2 Grow.refl ⟨hv2, walks_range⟩⟩
      · rw [cif_neg hj] at f3
        exact False.elim f3
    | _ => exact False.elim f2
  | _ => exact False.elim f2
/-- an owned list, in a comprehension -/
theorem qi_h (h : QH B X iter Γ m) : QI B X tg iter Γ (do let d ← m; match d with | .lst ds => pure ⟨yes, ds⟩ | _ => bad) := fun G al fm H σ s Q hv sl f => by
  refine ⟨_, pi_list wE_ok, h G al fm H σ s _ hv sl (Fo.bind f fun d s' v G' al' H' g ⟨hv', rp⟩ f' => ?_)⟩
  cases rp with
  | l h1 r1 => exact ⟨_, rfl, ⟨_, .inl (.inl (hv'.fr _ h1).1)⟩, f' _ G' al' H' Grow.refl ⟨hv', walks_gen (K := X.K) (fun G2 al2 fm2 H2 s2 g2 hf2 hv2 _ => ⟨_, .inl (.inl (hv2.fr _ (hf2 _ h1)).1), r1.mono g2⟩) rfl⟩⟩
  | k h1 r1 => exact False.elim f'
  | rep rp => cases rp with
    | @lst a xs _ h1 h2 => exact ⟨a, rfl, ⟨xs, .inl (.inl (hv'.ex.at h1))⟩, f' _ G' al' H' Grow.refl ⟨hv', walks_gen (K := X.K) (fun G2 al2 fm2 H2 s2 g2 _ hv2 _ => ⟨xs, .inl (.inl (hv2.ex.at (g2.g _ _ h1))), h2.mono g2⟩) rfl⟩⟩
    | _ => exact False.elim f'
end
end PM
set_option Elab.async false
set_option linter.all false
set_option maxRecDepth 100000
set_option maxHeartbeats 2000000
/-! Pm6: list comprehensions, for loops. -/
namespace PM
open PySem PySem.Spec PyProof.Rows L2

/-! ### targets -/
inductive Tg where
  | one (j : Nat)
  | tup (js : List Nat)
def gNames : List Nat → TGs
  | [] => gNil
  | j :: r => gCons (gName j) (gNames r)
def Tg.rd (K : PySem.W.Frag) : Tg → TG
  | .one j => gName j
  | .tup js => gTup K js.length (gNames js)
def setAll : List Nat → List D → List Slot → List Slot
  | j :: js, d :: ds, Γ => setAll js ds (Γ.set j (.d d))
  | _, _, Γ => Γ
def Tg.set (d : D) (Γ : List Slot) : Tg → Option (List Slot)
  | .one j => some (Γ.set j (.d d))
  | .tup js => match d with
    | .tup ds => if ds.length = js.length then some (setAll js ds Γ) else none
    | _ => none
def Tg.slots : Tg → List Nat
  | .one j => [j]
  | .tup js => js
def setV : List Nat → List V → L2.St → L2.St
  | j :: js, v :: vs, σ => setV js vs (σ.set j (some v))
  | _, _, σ => σ
theorem gNames_ok : ∀ (js : List Nat) (vs : List V) (σ : L2.St) (H : Hp) (Q : L2.St → Hp → Prop), vs.length = js.length → Q (setV js vs σ) H → gNames js vs σ H Q
  | [], [], σ, H, Q, _, h => ⟨rfl, h⟩
  | j :: js, v :: vs, σ, H, Q, hl, h => ⟨v, vs, rfl, gNames_ok js vs (σ.set j (some v)) H Q (by simpa using hl) h⟩
theorem SL.setAll {B : Bx} {al : List Addr} {G : Hp} {ow : List (Addr × HO)} : ∀ {js : List Nat} {vs : List V} {ds : List D} {σ : L2.St} {Γ : List Slot}, RepL B al G vs ds → SL B al G ow σ Γ → SL B al G ow (setV js vs σ) (setAll js ds Γ)
  | [], _, _, _, _, _, sl => by
    unfold setV PM.setAll
    exact sl
  | _ :: _, _, _, _, _, .nil, sl => sl
  | j :: js, _ :: _, _ :: _, _, _, .cons r rs, sl => SL.setAll (js := js) rs (sl.set j r)
theorem set_none_comm (σ : L2.St) (i j : Nat) (v : Option V) (h : i ≠ j) : (σ.set i v).set j none = (σ.set j none).set i v := List.set_comm _ _ h
theorem wipe_set {σ : L2.St} {i : Nat} {v : Option V} : ∀ {vs : List Nat}, i ∈ vs → wipe (σ.set i v) vs = wipe σ vs
  | [], h => by simp at h
  | j :: vs, h => by
    unfold wipe
    by_cases hj : i ∈ vs
    · rw [wipe_set hj]
    · have e : i = j := by
        rcases List.mem_cons.mp h with z | z
        · exact z
        · exact absurd z hj
      subst e
      have out : ∀ (ws : List Nat), i ∉ ws → wipe (σ.set i v) ws = (wipe σ ws).set i v := by
        intro ws
        induction ws with
        | nil => intro _; rfl
        | cons w ws ih =>
          intro hw
          unfold wipe
          rw [ih fun z => hw (List.mem_cons_of_mem _ z)]
          exact List.set_comm _ _ fun z => hw (z ▸ List.mem_cons_self)
      rw [out vs hj, List.set_set]
theorem wipe_setV : ∀ {js : List Nat} {ws : List V} {σ : L2.St} {vs : List Nat}, (∀ j ∈ js, j ∈ vs) → wipe (setV js ws σ) vs = wipe σ vs
  | [], _, _, _, _ => by unfold setV; rfl
  | _ :: _, [], _, _, _ => by unfold setV; rfl
  | j :: js, w :: ws, σ, vs, h => by
    show wipe (setV js ws (σ.set j (some w))) vs = wipe σ vs
    rw [wipe_setV fun k hk => h k (List.mem_cons_of_mem _ hk), wipe_set (h j List.mem_cons_self)]
/-- a target takes its item -/
theorem Tg.ok {B : Bx} {K : PySem.W.Frag} (hK : B.K = K) {al : List Addr} {G H : Hp} {fm ow : List (Addr × HO)} {s : Store} {σ : L2.St} {Γ Γ' : List Slot} {v : V} {d : D} {tg : Tg} {Q : L2.St → Hp → Prop} (hv : HV B G al fm H s) (sl : SL B al G ow σ Γ) (r : Rep B al G v d) (e : tg.set d Γ = some Γ')
    (h : ∀ σ', SL B al G ow σ' Γ' → (∀ vs, (∀ j ∈ tg.slots, j ∈ vs) → wipe σ' vs = wipe σ vs) → Q σ' H) : tg.rd K v σ H Q := by
  cases tg with
  | one j =>
    cases e
    exact h _ (sl.set j r) fun vs hs => wipe_set (hs j (by simp [Tg.slots]))
  | tup js =>
    cases r with
    | @tup a xs ds h1 h2 =>
      have e' : (if ds.length = js.length then some (PM.setAll js ds Γ) else none) = some Γ' := e
      split at e'
      · rename_i hl
        cases e'
        refine ⟨a, xs, rfl, by rw [← hK]; exact hv.ex.sqT h1, by rw [h2.length]; exact hl, ?_⟩
        exact gNames_ok js xs σ H Q (by rw [h2.length]; exact hl) (h _ (SL.setAll h2 sl) fun vs hs => wipe_setV hs)
      · cases e'
    | _ => cases e

/-! ### list comprehensions -/
def noErr {α : Type} (m : M α) : M α := fun s => match m s with
  | .ok a s' => .ok a s'
  | .err _ _ => .bad
  | .bad => .bad
open Classical in
noncomputable def compG (gd : Store → Prop) (mt : D → M Bool) (me : D → M D) : List D → M (List D)
  | [] => fun s => if gd s then .ok [] s else .bad
  | d :: r => fun s => if gd s then (do
    let b ← noErr (mt d)
    if b = true then do
      let y ← noErr (me d)
      let rs ← compG gd mt me r
      pure (y :: rs)
    else compG gd mt me r) s else .bad
def compM (mt : D → M Bool) (me : D → M D) : List D → M (List D)
  | [] => pure []
  | d :: r => do
    let b ← noErr (mt d)
    if b = true then do
      let y ← noErr (me d)
      let rs ← compM mt me r
      pure (y :: rs)
    else compM mt me r
/-- the elements, where what is walked is known -/
noncomputable def comp (mt : D → M Bool) (me : D → M D) (a : Itm) : M (List D) := fits a.ds.length (compG a.gd mt me a.ds)
theorem compG_nil (gd : Store → Prop) (mt : D → M Bool) (me : D → M D) (s : Store) (h : gd s) : compG gd mt me [] s = .ok [] s := by
  unfold compG
  rw [if_pos h]
theorem compG_not (gd : Store → Prop) (mt : D → M Bool) (me : D → M D) (ds : List D) (s : Store) (h : ¬ gd s) : compG gd mt me ds s = .bad := by
  cases ds with
  | nil => unfold compG; rw [if_neg h]
  | cons d r => unfold compG; rw [if_neg h]
theorem compG_cons (gd : Store → Prop) (mt : D → M Bool) (me : D → M D) (d : D) (r : List D) (s : Store) (h : gd s) : compG gd mt me (d :: r) s = (noErr (mt d) >>= fun b => if b = true then (noErr (me d) >>= fun y => compG gd mt me r >>= fun rs => pure (y :: rs)) else compG gd mt me r) s := by
  conv => lhs; unfold compG
  rw [if_pos h]
theorem compG_yes (mt : D → M Bool) (me : D → M D) : ∀ ds, compG yes mt me ds = compM mt me ds
  | [] => funext fun s => compG_nil yes mt me s True.intro
  | d :: r => by
    funext s
    rw [compG_cons yes mt me d r s True.intro, compG_yes mt me r]
    rfl
theorem comp_yes (mt : D → M Bool) (me : D → M D) (ds : List D) : comp mt me ⟨yes, ds⟩ = fits ds.length (compM mt me ds) := by
  unfold comp
  rw [compG_yes]
theorem bind_bad {α β : Type} {m : M α} {f : α → M β} {s : Store} (h : m s = .bad) : (m >>= f) s = .bad := by rw [bind_run, h]
/-- the slots of a comprehension's own names are forgotten in it -/
def wipeG (Γ : List Slot) : List Nat → List Slot
  | [] => Γ
  | v :: vs => (wipeG Γ vs).set v .no
theorem SL.wipe {B : Bx} {al : List Addr} {G : Hp} {ow : List (Addr × HO)} {σ : L2.St} {Γ : List Slot} (sl : SL B al G ow σ Γ) : ∀ vs : List Nat, SL B al G ow (L2.wipe σ vs) (wipeG Γ vs)
  | [] => sl
  | v :: vs => by
    have ih := SL.wipe sl vs
    unfold L2.wipe wipeG
    refine ⟨by rw [List.length_set, List.length_set]; exact ih.len, fun j g x h1 h2 => ?_, fun j k g g' x h1 h2 o1 o2 h3 h4 => ?_⟩
    rotate_left
    · have ne : ∀ (j : Nat) g, ((wipeG Γ vs).set v .no)[j]? = some g → g.isOwn = true → j ≠ v ∧ (wipeG Γ vs)[j]? = some g := fun j g h o => by
        by_cases hj : j = v
        · subst hj
          have l1 : j < (wipeG Γ vs).length := by
            have := (List.getElem?_eq_some_iff.mp h).1
            rwa [List.length_set] at this
          rw [List.getElem?_set_self l1] at h
          cases h; cases o
        · rw [List.getElem?_set_ne (Ne.symm hj)] at h
          exact ⟨hj, h⟩
      obtain ⟨n1, e1⟩ := ne j g h1 o1
      obtain ⟨n2, e2⟩ := ne k g' h2 o2
      rw [List.getElem?_set_ne (Ne.symm n1)] at h3
      rw [List.getElem?_set_ne (Ne.symm n2)] at h4
      exact ih.inj j k g g' x e1 e2 o1 o2 h3 h4
    by_cases hj : j = v
    · subst hj
      have l1 : j < (wipeG Γ vs).length := by
        have := (List.getElem?_eq_some_iff.mp h1).1
        rwa [List.length_set] at this
      rw [List.getElem?_set_self l1] at h1
      cases h1
      exact True.intro
    · rw [List.getElem?_set_ne (Ne.symm hj)] at h1 h2
      exact ih.at_ j g x h1 h2
section
variable {B : Bx} {X : Cx} {Γ : List Slot}
/-- the readings in a comprehension's block, whatever the block's frame -/
def iE (X : Cx) (scope : Scope) (e : Expr) : TE := fun σ H Q => ∀ s H0 C cl fp, wE (X.blk s H0 scope (compEnvC scope cl C X.env) fp) e σ H Q
theorem iE_ok {scope : Scope} {e : Expr} (s : Shared) (H0 : Hp) (C : Addr) (cl : List (Str × Addr)) (fp : List Addr) : PE (X.blk s H0 scope (compEnvC scope cl C X.env) fp) e (iE X scope e) := ⟨fun pins sh σ H Q I h => wE_ok.run pins sh σ H Q I (h s H0 C cl fp)⟩
def wTs (X : Cx) (ifs : List Expr) : TT := fun σ H Q => ∃ t, PTs X ifs t ∧ t σ H Q
theorem wTs_ok {X : Cx} {ifs : List Expr} : PTs X ifs (wTs X ifs) := ⟨fun pins s σ H Q I h => by
  obtain ⟨t, p, q⟩ := h
  exact p.run pins s σ H Q I q⟩
def iT (X : Cx) (scope : Scope) (ifs : List Expr) : TT := fun σ H Q => ∀ s H0 C cl fp, wTs (X.blk s H0 scope (compEnvC scope cl C X.env) fp) ifs σ H Q
theorem iT_ok {scope : Scope} {e : List Expr} (s : Shared) (H0 : Hp) (C : Addr) (cl : List (Str × Addr)) (fp : List Addr) : PTs (X.blk s H0 scope (compEnvC scope cl C X.env) fp) e (iT X scope e) := ⟨fun pins sh σ H Q I h => wTs_ok.run pins sh σ H Q I (h s H0 C cl fp)⟩
def QTs (B : Bx) (X : Cx) (ifs : List Expr) (Γ : List Slot) (m : M Bool) : Prop := Qj B X (wTs X ifs) kT Γ m
theorem qts_nil : QTs B X [] Γ (pure true) := fun G al fm H σ s Q hv sl f => ⟨_, pts_nil, f true G al H Grow.refl ⟨hv, rfl⟩⟩
theorem qts_one {c : Expr} {m : M Bool} (h : QT B X c Γ m) : QTs B X [c] Γ m := fun G al fm H σ s Q hv sl f => ⟨_, pts_one wT_ok, h G al fm H σ s Q hv sl f⟩
theorem noErr_fo {α β : Type} {P : Hp → List Addr → α → β → Store → Hp → Prop} {X : Cx} {σ : L2.St} {fm : List (Addr × HO)} {G : Hp} {al : List Addr} {m : M α} {s : Store} {Q : β → Hp → Prop} (nb : noErr m s ≠ .bad) (h : ∀ d s', m s = .ok d s' → ∀ v G' al' H', Grow G al G' al' → P G' al' d v s' H' → Q v H') : Fo B X σ fm G al P (m s) Q := by
  cases q : m s with
  | ok d s' => exact h d s' q
  | err x s' => exact absurd (by unfold noErr; rw [q]) nb
  | bad => exact absurd (by unfold noErr; rw [q]) nb
theorem SL.more {al : List Addr} {G : Hp} {ow : List (Addr × HO)} {σ : L2.St} {Γ : List Slot} {q : Addr × HO} (h : SL B al G ow σ Γ) : SL B al G (q :: ow) σ Γ := ⟨h.len, fun i g x h1 h2 => by
  have z := h.at_ i g x h1 h2
  cases g with
  | no => exact True.intro
  | d d => exact z
  | x _ _ _ _ => exact z
  | l ds =>
    obtain ⟨p, xs, h, h3, r⟩ := z
    exact ⟨p, xs, h, List.mem_cons_of_mem _ h3, r⟩
  | k ds =>
    obtain ⟨p, xs, h, h3, r⟩ := z
    exact ⟨p, xs, h, List.mem_cons_of_mem _ h3, r⟩
  | o c p dx fs =>
    obtain ⟨C, vs, h, h0, h3, r⟩ := z
    exact ⟨C, vs, h, h0, List.mem_cons_of_mem _ h3, r⟩, h.inj⟩
theorem RepL.snoc {al : List Addr} {G : Hp} : ∀ {vs : List V} {ds : List D} {v : V} {d : D}, RepL B al G vs ds → Rep B al G v d → RepL B al G (vs ++ [v]) (ds ++ [d])
  | _, _, _, _, .nil, r => .cons r .nil
  | _, _, _, _, .cons h t, r => .cons h (RepL.snoc t r)
theorem drop_at {α : Type} {l : List α} {i : Nat} {x : α} (h : l[i]? = some x) : l.drop i = x :: l.drop (i + 1) := by
  obtain ⟨h1, h2⟩ := List.getElem?_eq_some_iff.mp h
  rw [← h2]
  exact List.drop_eq_getElem_cons h1
theorem wipe_wipe : ∀ (vs : List Nat) (σ : L2.St), wipe (wipe σ vs) vs = wipe σ vs := by
  intro vs
  induction vs with
  | nil => intro σ; rfl
  | cons v vs ih =>
    intro σ
    show (wipe ((wipe σ vs).set v none) vs).set v none = (wipe σ vs).set v none
    by_cases hv : v ∈ vs
    · rw [wipe_set hv, ih]
    · have out : ∀ (ws : List Nat) (τ : L2.St), v ∉ ws → wipe (τ.set v none) ws = (wipe τ ws).set v none := by
        intro ws
        induction ws with
        | nil => intro τ _; rfl
        | cons w ws ih2 =>
          intro τ hw
          unfold wipe
          rw [ih2 τ fun z => hw (List.mem_cons_of_mem _ z)]
          exact List.set_comm _ _ fun z => hw (z ▸ List.mem_cons_self)
      rw [out vs _ hv, ih, List.set_set]
/-- [elt for tg in iter if ..] -/
theorem lc_read {tg iter elt : Expr} {ifs : List Expr} {scope : Scope} {own : List (Str × Nat)} {mi : M Itm} {mt : D → M Bool} {me : D → M D} (tgt : Tg) (hK : B.K = X.K) (hi : QI B X tg iter Γ mi) 
    (hsub : ∀ j ∈ tgt.slots, j ∈ own.map (·.2))
    (hbad : ∀ d s, tgt.set d (wipeG Γ (own.map (·.2))) = none → mt d s = R.bad)
    (ht : ∀ (s : Shared) (H : Hp) (C : Addr) (cl : List (Str × Addr)) (fp : List Addr) d Γ', tgt.set d (wipeG Γ (own.map (·.2))) = some Γ' → QTs B (X.blk s H scope (compEnvC scope cl C X.env) fp) ifs Γ' (mt d))
    (he : ∀ (s : Shared) (H : Hp) (C : Addr) (cl : List (Str × Addr)) (fp : List Addr) d Γ', tgt.set d (wipeG Γ (own.map (·.2))) = some Γ' → QE B (X.blk s H scope (compEnvC scope cl C X.env) fp) elt Γ' (me d))
    {G : Hp} {al : List Addr} {fm : List (Addr × HO)} {H : Hp} {σ : L2.St} {s : Store} {Q : VK} (hv : HV B G al fm H s) (sl : SL B al G fm σ Γ) (f : Fo B X σ fm G al (kL B fm) ((do let a ← mi; comp mt me a) s) Q) :
    tLc (wI X tg iter) (tgt.rd X.K) (iT X scope ifs) (iE X scope elt) (own.map (·.2)) σ H Q := by
  refine hi G al fm H σ s _ hv sl (Fo.bind f fun a s1 J G1 al1 H1 g1 ⟨hv1, wk⟩ f1 => ?_)
  obtain ⟨gd, ds⟩ := a
  unfold comp at f1
  rw [fits_run] at f1
  split at f1
  · rename_i hlen
    intro D nD
    have hlen : ds.length ≤ 16777216 := hlen
    refine ⟨fun i m H2 => m = ds.length - i ∧ i ≤ ds.length ∧ ∃ G2 al2 acc accD s2, Grow G1 al1 G2 al2 ∧ HV B G2 al2 ((D, .lst acc) :: fm) H2 s2 ∧ RepL B al2 G2 acc accD ∧ accD.length ≤ i ∧
      Fo B X σ fm G2 al2 (kL B fm) ((do let rs ← compG gd mt me (ds.drop i); pure (accD ++ rs) : M (List PM.D)) s2) Q, ⟨ds.length, by omega, Nat.zero_le _, G1, al1, [], [], s1, Grow.refl, hv1.hold nD, .nil, Nat.le_refl _, ?_⟩, ?_⟩
    · rw [List.drop_zero]
      have e1 : (do let rs ← compG gd mt me ds; pure (([] : List PM.D) ++ rs) : M (List PM.D)) = compG gd mt me ds := by
        funext s0
        rw [bind_run]
        cases compG gd mt me ds s0 <;> rfl
      rw [e1]
      exact f1
    · rintro i m H2 ⟨rfl, hi2, G2, al2, acc, accD, s2, g2, hv2, ra, la, f2⟩
      have hgd : gd s2 := Classical.byContradiction fun z => by
        rw [bind_bad (compG_not gd mt me _ s2 z)] at f2
        exact f2
      have w := wk G2 al2 ((D, .lst acc) :: fm) H2 s2 g2 (fun p hp => List.mem_cons_of_mem _ hp) hv2 hgd i
      cases hd : ds[i]? with
      | none =>
        refine .inl ⟨w.2 hd, ?_⟩
        have e0 : ds.drop i = [] := List.drop_eq_nil_iff.mpr (List.getElem?_eq_none_iff.mp hd)
        rw [e0, bind_ok (compG_nil gd mt me s2 hgd)] at f2
        exact f2 (.ref D) G2 al2 H2 Grow.refl ⟨D, acc, rfl, hv2, by rw [List.append_nil]; exact ra⟩
      | some d =>
        obtain ⟨go, yl⟩ := w.1 d hd
        have hlt : i < ds.length := (List.getElem?_eq_some_iff.mp hd).1
        rw [drop_at hd] at f2
        refine .inr ⟨go, fun H3 => i + 1 ≤ ds.length ∧ ∃ G2 al2 acc accD s2, Grow G1 al1 G2 al2 ∧ HV B G2 al2 ((D, .lst acc) :: fm) H3 s2 ∧ RepL B al2 G2 acc accD ∧ accD.length ≤ i + 1 ∧
          Fo B X σ fm G2 al2 (kL B fm) ((do let rs ← compG gd mt me (ds.drop (i + 1)); pure (accD ++ rs) : M (List PM.D)) s2) Q, fun H3 h3 => ⟨ds.length - (i + 1), by omega, rfl, h3.1, h3.2⟩, fun x H3 hy => ?_⟩
        obtain ⟨G3, g3, hv3, rx⟩ := yl x H3 hy
        have sl3 : SL B al2 G3 ((D, .lst acc) :: fm) (L2.wipe σ (own.map (·.2))) (wipeG Γ (own.map (·.2))) := (((sl.mono g1).mono g2).mono g3).wipe _ |>.more
        have f3 : Fo B X σ fm G3 al2 (kL B fm) ((noErr (mt d) >>= fun b => ((if b = true then (noErr (me d) >>= fun y => compG gd mt me (ds.drop (i + 1)) >>= fun rs => pure (y :: rs)) else compG gd mt me (ds.drop (i + 1))) >>= fun rs => pure (accD ++ rs))) s2) Q := by
          have z := Fo.grow g3 f2
          rw [bind_run, compG_cons gd mt me d _ s2 hgd, ← bind_run, bind_assoc'] at z
          exact z
        have nbt : noErr (mt d) s2 ≠ .bad := fun z => by
          rw [bind_bad z] at f3
          exact f3
        have hset : ∃ Γ', tgt.set d (wipeG Γ (own.map (·.2))) = some Γ' := by
          cases hz : tgt.set d (wipeG Γ (own.map (·.2))) with
          | some Γ' => exact ⟨Γ', rfl⟩
          | none => exact absurd (by unfold noErr; rw [hbad d s2 hz]) nbt
        obtain ⟨Γ', hset⟩ := hset
        refine Tg.ok hK hv3 sl3 rx hset fun σ2 sl4 hw => ⟨by rw [hw _ hsub]; exact wipe_wipe _ _, fun s0 H0 C cl fp => ?_⟩
        refine ht s0 H0 C cl fp d Γ' hset G3 al2 ((D, .lst acc) :: fm) H3 σ2 s2 _ hv3 sl4 (noErr_fo nbt fun b s4 hb b' G4 al4 H4 g4 ⟨hv4, ebb⟩ => ?_)
        subst ebb
        have hb' : noErr (mt d) s2 = .ok b s4 := by unfold noErr; rw [hb]
        rw [bind_ok hb'] at f3
        have f4 := Fo.grow g4 f3
        cases b with
        | false =>
          show _ ∧ _
          refine ⟨hlt, G4, al4, acc, accD, s4, ((g2.trans g3).trans g4), hv4, (ra.mono g3).mono g4, Nat.le_succ_of_le la, f4⟩
        | true =>
          show iE X scope elt σ2 H4 _
          intro s5 H5 C5 cl5 fp5
          have nbe : noErr (me d) s4 ≠ .bad := fun z => by
            rw [if_pos rfl, bind_assoc', bind_bad z] at f4
            exact f4
          refine he s5 H5 C5 cl5 fp5 d Γ' hset G4 al4 ((D, .lst acc) :: fm) H4 σ2 s4 _ hv4 (sl4.mono g4) (noErr_fo nbe fun y s6 hy6 v6 G6 al6 H6 g6 ⟨hv6, r6⟩ => ?_)
          have hy' : noErr (me d) s4 = .ok y s6 := by unfold noErr; rw [hy6]
          have f6 : Fo B X σ fm G6 al6 (kL B fm) ((do let rs ← compG gd mt me (ds.drop (i + 1)); pure ((accD ++ [y]) ++ rs) : M (List PM.D)) s6) Q := by
            rw [if_pos rfl, bind_assoc', bind_ok hy', bind_assoc'] at f4
            have e1 : (compG gd mt me (ds.drop (i + 1)) >>= fun rs => (pure (y :: rs) >>= fun rs => pure (accD ++ rs) : M (List PM.D))) = (compG gd mt me (ds.drop (i + 1)) >>= fun rs => pure ((accD ++ [y]) ++ rs)) := by
              congr 1
              funext rs
              rw [pure_bind', List.append_assoc]
              rfl
            rw [e1] at f4
            exact Fo.grow g6 f4
          have ra6 := ((ra.mono g3).mono g4).mono g6
          refine ⟨acc, (hv6.fr (D, .lst acc) List.mem_cons_self).1, ?_, hlt, G6, al6, acc ++ [v6], accD ++ [y], s6, (((g2.trans g3).trans g4).trans g6), hv6.put, ra6.snoc r6, by rw [List.length_append]; simp; exact la, f6⟩
          rw [ra6.length, sizeLine_eq]
          omega
  · exact False.elim f1
/-- the parts of a comprehension that do not hang on what it reckons -/
structure CompOk (X : Cx) (tg iter : Expr) (scope : Scope) (own : List (Str × Nat)) (tgt : Tg) : Prop where
  hc : X.calm = true
  hN : X.N.Nodup
  ok : BlkOk X.N X.env.scope scope own
  hg : ∀ (s : Shared) (H : Hp) (C : Addr) (cl : List (Str × Addr)) (fp : List Addr), PG (X.blk s H scope (compEnvC scope cl C X.env) fp) tg (tgt.rd X.K)
  hsub : ∀ j ∈ tgt.slots, j ∈ own.map (·.2)
  hs : ∀ x, foldedSetIterable iter X.env x = pure x
variable {tg iter elt : Expr} {ifs : List Expr} {scope : Scope} {own : List (Str × Nat)} {pos : Pos} {mi : M Itm}
/-- [elt for x in iter if ..], one name -/
theorem ql_lc (j : Nat) {mt : D → M Bool} {me : D → M D} (hK : B.K = X.K) (C : CompOk X tg iter scope own (.one j)) (hi : QI B X tg iter Γ mi)
    (ht : ∀ (s : Shared) (H : Hp) (C : Addr) (cl : List (Str × Addr)) (fp : List Addr) d, QTs B (X.blk s H scope (compEnvC scope cl C X.env) fp) ifs ((wipeG Γ (own.map (·.2))).set j (.d d)) (mt d))
    (he : ∀ (s : Shared) (H : Hp) (C : Addr) (cl : List (Str × Addr)) (fp : List Addr) d, QE B (X.blk s H scope (compEnvC scope cl C X.env) fp) elt ((wipeG Γ (own.map (·.2))).set j (.d d)) (me d)) :
    QL B X (.ListComp elt [⟨tg, iter, ifs, 0⟩] scope pos) Γ (do let a ← mi; comp mt me a) := fun G al fm H σ s Q hv sl f =>
  wE_of (pe_lc C.hc C.hN wI_ok C.ok C.hg iT_ok iE_ok C.hs) (lc_read (.one j) hK hi C.hsub (fun _ _ h => nomatch h) (fun s H C cl fp d Γ' h => by cases h; exact ht s H C cl fp d) (fun s H C cl fp d Γ' h => by cases h; exact he s H C cl fp d) hv sl f)
/-- a mirror of the two parts of an item -/
def un2 {α : Type} (f : D → D → M α) (d : D) : M α := match d with
  | .tup [a, b] => f a b
  | _ => bad
def un3 {α : Type} (f : D → D → D → M α) (d : D) : M α := match d with
  | .tup [a, b, c] => f a b c
  | _ => bad
def un4 {α : Type} (f : D → D → D → D → M α) (d : D) : M α := match d with
  | .tup [a, b, c, e] => f a b c e
  | _ => bad
theorem set2 {j k : Nat} {d : D} {Γ Γ' : List Slot} (h : Tg.set d Γ (.tup [j, k]) = some Γ') : ∃ a b, d = .tup [a, b] ∧ Γ' = (Γ.set j (.d a)).set k (.d b) := by
  cases d with
  | tup ds =>
    have h' : (if ds.length = 2 then some (setAll [j, k] ds Γ) else none) = some Γ' := h
    match ds, h' with
    | [a, b], h' => cases h'; exact ⟨a, b, rfl, rfl⟩
    | [], h' => cases h'
    | [_], h' => cases h'
    | _ :: _ :: _ :: _, h' =>
      rw [if_neg (by simp)] at h'
      cases h'
  | _ => cases h
theorem un2_bad {α : Type} {f : D → D → M α} {j k : Nat} {d : D} {Γ : List Slot} {s : Store} (h : Tg.set d Γ (.tup [j, k]) = none) : un2 f d s = .bad := by
  cases d with
  | tup ds =>
    match ds, h with
    | [a, b], h => cases h
    | [], _ => rfl
    | [_], _ => rfl
    | _ :: _ :: _ :: _, _ => rfl
  | _ => rfl
/-- [elt for x, y in iter if ..] -/
theorem ql_lcT (j k : Nat) {mt : D → D → M Bool} {me : D → D → M D} (hK : B.K = X.K) (C : CompOk X tg iter scope own (.tup [j, k])) (hi : QI B X tg iter Γ mi)
    (ht : ∀ (s : Shared) (H : Hp) (C : Addr) (cl : List (Str × Addr)) (fp : List Addr) a b, QTs B (X.blk s H scope (compEnvC scope cl C X.env) fp) ifs (((wipeG Γ (own.map (·.2))).set j (.d a)).set k (.d b)) (mt a b))
    (he : ∀ (s : Shared) (H : Hp) (C : Addr) (cl : List (Str × Addr)) (fp : List Addr) a b, QE B (X.blk s H scope (compEnvC scope cl C X.env) fp) elt (((wipeG Γ (own.map (·.2))).set j (.d a)).set k (.d b)) (me a b)) :
    QL B X (.ListComp elt [⟨tg, iter, ifs, 0⟩] scope pos) Γ (do let a ← mi; comp (un2 mt) (un2 me) a) := fun G al fm H σ s Q hv sl f =>
  wE_of (pe_lc C.hc C.hN wI_ok C.ok C.hg iT_ok iE_ok C.hs) (lc_read (.tup [j, k]) hK hi C.hsub (fun _ _ h => un2_bad h)
    (fun s H C cl fp d Γ' h => by obtain ⟨a, b, rfl, rfl⟩ := set2 h; exact ht s H C cl fp a b) (fun s H C cl fp d Γ' h => by obtain ⟨a, b, rfl, rfl⟩ := set2 h; exact he s H C cl fp a b) hv sl f)
end
end PM
set_option Elab.async false
set_option linter.all false
set_option maxRecDepth 100000
set_option maxHeartbeats 2000000
/-! Pm7: for loops; lists and dicts that a body owns. -/
namespace PM
open PySem PySem.Spec PyProof.Rows L2

/-! ### slots that are forgotten -/
inductive SubG : List Slot → List Slot → Prop
  | nil : SubG [] []
  | same {x : Slot} {Γ Γ' : List Slot} : SubG Γ Γ' → SubG (x :: Γ) (x :: Γ')
  | no {x : Slot} {Γ Γ' : List Slot} : SubG Γ Γ' → SubG (x :: Γ) (.no :: Γ')
theorem SubG.len : ∀ {Γ Γ' : List Slot}, SubG Γ Γ' → Γ.length = Γ'.length
  | _, _, .nil => rfl
  | _, _, .same h => by rw [List.length_cons, List.length_cons, h.len]
  | _, _, .no h => by rw [List.length_cons, List.length_cons, h.len]
theorem SubG.at_ : ∀ {Γ Γ' : List Slot} {i : Nat} {g : Slot}, SubG Γ Γ' → Γ'[i]? = some g → g = .no ∨ Γ[i]? = some g
  | _, _, _, _, .nil, h => by simp at h
  | _, _, 0, _, .same _, h => by simp at h; subst h; exact .inr rfl
  | _, _, 0, _, .no _, h => by simp at h; subst h; exact .inl rfl
  | _, _, i + 1, _, .same r, h => by
    have := SubG.at_ (i := i) r (by simpa using h)
    simpa using this
  | _, _, i + 1, _, .no r, h => by
    have := SubG.at_ (i := i) r (by simpa using h)
    simpa using this
theorem SL.sub {B : Bx} {al : List Addr} {G : Hp} {ow : List (Addr × HO)} {σ : L2.St} {Γ Γ' : List Slot} (sl : SL B al G ow σ Γ) (h : SubG Γ Γ') : SL B al G ow σ Γ' := by
  refine ⟨by rw [sl.len, h.len], fun i g x h1 h2 => ?_, fun i j g g' x h1 h2 o1 o2 h3 h4 => ?_⟩
  · rcases h.at_ h1 with rfl | z
    · exact True.intro
    · exact sl.at_ i g x z h2
  · rcases h.at_ h1 with rfl | z
    · cases o1
    · rcases h.at_ h2 with rfl | z2
      · cases o2
      · exact sl.inj i j g g' x z z2 o1 o2 h3 h4
section
variable {B : Bx} {X : Cx} {Γ Γ' : List Slot} {rest : List Stmt} {α β : Type} {γ : α → List Slot} {δ : β → List Slot}
theorem qs_sub {m : M (Fl α β)} {ss : List Stmt} (h : SubG Γ Γ') (k : QS B X ss Γ' γ δ m) : QS B X ss Γ γ δ m := fun G al fo ow H σ s E hv sl f => k G al fo ow H σ s E hv (sl.sub h) f
theorem qs_nx (a : α) (h : SubG Γ (γ a)) : QS B X [] Γ γ δ (pure (.nx a)) := qs_sub h (qs_nil a)
theorem qs_break (b : β) {pos : Pos} (h : SubG Γ (δ b)) : QS B X [.Break pos] Γ γ δ (pure (.bk b)) := fun G al fo ow H σ s E hv sl f => ⟨_, pss_one ps_break, f σ ow G al H Grow.refl hv (sl.sub h)⟩
theorem qs_continue (b : β) {pos : Pos} (h : SubG Γ (δ b)) : QS B X [.Continue pos] Γ γ δ (pure (.ct b)) := fun G al fo ow H σ s E hv sl f => ⟨_, pss_one ps_continue, f σ ow G al H Grow.refl hv (sl.sub h)⟩
/-! ### for -/
open Classical in
noncomputable def forG {α : Type} (gd : Store → Prop) (mb : D → α → M (Fl α α)) : List D → α → M (Fl α Empty)
  | [], a => fun s => if gd s then .ok (.nx a) s else .bad
  | d :: r, a => fun s => if gd s then (do
    let x ← mb d a
    match x with
    | .nx a' => forG gd mb r a'
    | .ct a' => forG gd mb r a'
    | .bk a' => pure (.nx a')
    | .rt d => pure (.rt d)) s else .bad
def forM {α : Type} (mb : D → α → M (Fl α α)) : List D → α → M (Fl α Empty)
  | [], a => pure (.nx a)
  | d :: r, a => do
    let x ← mb d a
    match x with
    | .nx a' => forM mb r a'
    | .ct a' => forM mb r a'
    | .bk a' => pure (.nx a')
    | .rt d => pure (.rt d)
theorem forG_nil {α : Type} (gd : Store → Prop) (mb : D → α → M (Fl α α)) (a : α) (s : Store) (h : gd s) : forG gd mb [] a s = .ok (.nx a) s := by
  unfold forG
  rw [if_pos h]
theorem forG_not {α : Type} (gd : Store → Prop) (mb : D → α → M (Fl α α)) (ds : List D) (a : α) (s : Store) (h : ¬ gd s) : forG gd mb ds a s = .bad := by
  cases ds with
  | nil => unfold forG; rw [if_neg h]
  | cons d r => unfold forG; rw [if_neg h]
theorem forG_cons {α : Type} (gd : Store → Prop) (mb : D → α → M (Fl α α)) (d : D) (r : List D) (a : α) (s : Store) (h : gd s) : forG gd mb (d :: r) a s = (mb d a >>= fun x => match x with
    | .nx a' => forG gd mb r a'
    | .ct a' => forG gd mb r a'
    | .bk a' => pure (.nx a')
    | .rt d => pure (.rt d)) s := by
  conv => lhs; unfold forG
  rw [if_pos h]
theorem forG_yes {α : Type} (mb : D → α → M (Fl α α)) : ∀ ds a, forG yes mb ds a = forM mb ds a
  | [], a => funext fun s => forG_nil yes mb a s True.intro
  | d :: r, a => by
    funext s
    rw [forG_cons yes mb d r a s True.intro, show forG yes mb r = forM mb r from funext fun a => forG_yes mb r a]
    rfl
noncomputable def loop {α : Type} (mb : D → α → M (Fl α α)) (a : Itm) (a0 : α) : M (Fl α Empty) := forG a.gd mb a.ds a0
theorem loop_yes {α : Type} (mb : D → α → M (Fl α α)) (ds : List D) (a0 : α) : loop mb ⟨yes, ds⟩ a0 = forM mb ds a0 := by
  unfold loop
  rw [forG_yes]
/-- behind a loop -/
def aftF {α α' β : Type} (m : M (Fl α' Empty)) (k : α' → M (Fl α β)) : M (Fl α β) := do
  let r ← m
  match r with
  | .nx a => k a
  | .rt d => pure (.rt d)
  | .bk b => nomatch b
  | .ct b => nomatch b
theorem qs_for {α' : Type} {γ' : α' → List Slot} {tg iter : Expr} {body : List Stmt} {pos : Pos} {mi : M Itm} {mb : D → α' → M (Fl α' α')} {k : α' → M (Fl α β)} (tgt : Tg) (a0 : α') (hK : B.K = X.K) (hp : PassesOwn (model X.prog X.w) X.A X.env X.xe) (hc : X.calm = true) (hi : QF B X tg iter Γ mi) (hg : PG X tg (tgt.rd X.K)) (h0 : SubG Γ (γ' a0))
    (hbad : ∀ d a s, tgt.set d (γ' a) = none → mb d a s = R.bad) (hb : ∀ d a Γ', tgt.set d (γ' a) = some Γ' → QS B X body Γ' γ' γ' (mb d a)) (hk : ∀ a, QS B X rest (γ' a) γ δ (k a))
    (hs : ∀ x, foldedSetIterable iter X.env x = pure x := by intro _; rfl) :
    QS B X (.For tg iter body [] pos :: rest) Γ γ δ (do let a ← mi; aftF (loop mb a a0) k) := fun G al fo ow H σ s E hv sl f => by
  refine ⟨_, pss_cons (ps_for hp hc wI_ok hg wSs_ok hs) wSs_ok, ?_⟩
  show tFor _ _ _ _ _ _
  refine hi G al (ow ++ fo) H σ s _ hv sl.all (FolS.bind f fun a s1 J G1 al1 H1 g1 ⟨hv1, wk⟩ f1 => ?_)
  obtain ⟨gd, ds⟩ := a
  unfold loop at f1
  refine ⟨fun i m σ2 H2 => (m = ds.length - i ∧ i ≤ ds.length ∧ ∃ G2 al2 ow2 s2 a, Grow G1 al1 G2 al2 ∧ HV B G2 al2 (ow2 ++ fo) H2 s2 ∧ SL B al2 G2 ow2 σ2 (γ' a) ∧ FolS B X fo G2 al2 γ δ (aftF (forG gd mb (ds.drop i) a) k s2) E),
    ⟨ds.length, by omega, Nat.zero_le _, G1, al1, ow, s1, a0, Grow.refl, hv1, (sl.mono g1).sub h0, by rw [List.drop_zero]; exact f1⟩, ?_⟩
  rintro i m σ2 H2 ⟨rfl, hi2, G2, al2, ow2, s2, a, g2, hv2, sl2, f2⟩
  have hgd : gd s2 := Classical.byContradiction fun z => by
    unfold aftF at f2
    rw [bind_bad (forG_not gd mb _ a s2 z)] at f2
    exact f2
  have w := wk G2 al2 (ow2 ++ fo) H2 s2 g2 (fun _ h => nomatch h) hv2 hgd i
  cases hd : ds[i]? with
  | none =>
    refine .inl ⟨w.2 hd, ?_⟩
    have e0 : ds.drop i = [] := List.drop_eq_nil_iff.mpr (List.getElem?_eq_none_iff.mp hd)
    unfold aftF at f2
    rw [e0, bind_ok (forG_nil gd mb a s2 hgd)] at f2
    exact hk a G2 al2 fo ow2 H2 σ2 s2 E hv2 sl2 f2
  | some d =>
    obtain ⟨go, yl⟩ := w.1 d hd
    have hlt : i < ds.length := (List.getElem?_eq_some_iff.mp hd).1
    rw [drop_at hd] at f2
    refine .inr ⟨go, fun σ3 H3 => (i + 1 ≤ ds.length ∧ ∃ G2 al2 ow2 s2 a, Grow G1 al1 G2 al2 ∧ HV B G2 al2 (ow2 ++ fo) H3 s2 ∧ SL B al2 G2 ow2 σ3 (γ' a) ∧ FolS B X fo G2 al2 γ δ (aftF (forG gd mb (ds.drop (i + 1)) a) k s2) E),
      fun σ3 H3 h3 => ⟨ds.length - (i + 1), by omega, rfl, h3.1, h3.2⟩, fun x H3 hy => ?_⟩
    obtain ⟨G3, g3, hv3, rx⟩ := yl x H3 hy
    have f3 := FolS.grow g3 f2
    unfold aftF at f3
    rw [bind_run, forG_cons gd mb d _ a s2 hgd, ← bind_run, bind_assoc'] at f3
    have nb : mb d a s2 ≠ .bad := fun z => by
      rw [bind_bad z] at f3
      exact f3
    have hset : ∃ Γ', tgt.set d (γ' a) = some Γ' := by
      cases hz : tgt.set d (γ' a) with
      | some Γ' => exact ⟨Γ', rfl⟩
      | none => exact absurd (hbad d a s2 hz) nb
    obtain ⟨Γ', hset⟩ := hset
    refine Tg.ok hK hv3 (sl2.mono g3) rx hset fun σ4 sl4 _ => ?_
    refine hb d a Γ' hset G3 al2 fo ow2 H3 σ4 s2 _ hv3 sl4 ?_
    rw [bind_run] at f3
    cases qb : mb d a s2 with
    | bad => exact absurd qb nb
    | err x0 s' => rw [qb] at f3; exact f3
    | ok fl s' =>
      rw [qb] at f3
      cases fl with
      | nx a' => exact fun σ5 ow5 G5 al5 H5 g5 hv5 sl5 => ⟨hlt, G5, al5, ow5, s', a', (g2.trans g3).trans g5, hv5, sl5, FolS.grow g5 f3⟩
      | ct a' => exact fun σ5 ow5 G5 al5 H5 g5 hv5 sl5 => ⟨hlt, G5, al5, ow5, s', a', (g2.trans g3).trans g5, hv5, sl5, FolS.grow g5 f3⟩
      | bk a' => exact fun σ5 ow5 G5 al5 H5 g5 hv5 sl5 => hk a' G5 al5 fo ow5 H5 σ5 s' E hv5 sl5 (FolS.grow g5 f3)
      | rt d' => exact f3
/-- for x in .., one name -/
theorem qs_for1 {α' : Type} {γ' : α' → List Slot} {iter : Expr} {body : List Stmt} {pos tpos : Pos} {mi : M Itm} {mb : D → α' → M (Fl α' α')} {k : α' → M (Fl α β)} {x : Str} (j : Nat) (a0 : α') (hK : B.K = X.K) (hp : PassesOwn (model X.prog X.w) X.A X.env X.xe) (hN : X.N.Nodup) (hi : QF B X (.Name x tpos) iter Γ mi) (h0 : SubG Γ (γ' a0))
    (hb : ∀ d a, QS B X body ((γ' a).set j (.d d)) γ' γ' (mb d a)) (hk : ∀ a, QS B X rest (γ' a) γ δ (k a)) (hc : X.calm = true := by rfl) (hj : X.N[j]? = some x := by rfl) (hx : Loc X.env.scope x := by first | exact Or.inl rfl | exact Or.inr rfl) (hf : X.fn x = true ∨ X.env.scope.names.lookup x = some .local := by first | exact .inl rfl | exact .inr rfl | assumption)
    (hs : ∀ x, foldedSetIterable iter X.env x = pure x := by intro _; rfl) :
    QS B X (.For (.Name x tpos) iter body [] pos :: rest) Γ γ δ (do let a ← mi; aftF (loop mb a a0) k) :=
  qs_for (.one j) a0 hK hp hc hi (pg_name hN hj hx hf) h0 (fun _ _ _ h => nomatch h) (fun d a Γ' h => by cases h; exact hb d a) hk hs
def lun2 {α β : Type} (f : D → D → β → M α) (d : D) (a : β) : M α := match d with
  | .tup [x, y] => f x y a
  | _ => bad
theorem lun2_bad {α β : Type} {f : D → D → β → M α} {j k : Nat} {d : D} {Γ : List Slot} {a : β} {s : Store} (h : Tg.set d Γ (.tup [j, k]) = none) : lun2 f d a s = .bad := by
  cases d with
  | tup ds =>
    match ds, h with
    | [a, b], h => cases h
    | [], _ => rfl
    | [_], _ => rfl
    | _ :: _ :: _ :: _, _ => rfl
  | _ => rfl
/-- for x, y in .. -/
theorem qs_for2 {α' : Type} {γ' : α' → List Slot} {iter : Expr} {body : List Stmt} {pos tpos p1 p2 : Pos} {kk : Nat} {mi : M Itm} {mb : D → D → α' → M (Fl α' α')} {k : α' → M (Fl α β)} {x y : Str} (j j2 : Nat) (a0 : α') (hK : B.K = X.K) (hp : PassesOwn (model X.prog X.w) X.A X.env X.xe) (hN : X.N.Nodup) (hi : QF B X (.Tuple [.Name x p1, .Name y p2] kk tpos) iter Γ mi) (h0 : SubG Γ (γ' a0))
    (hb : ∀ d d2 a, QS B X body (((γ' a).set j (.d d)).set j2 (.d d2)) γ' γ' (mb d d2 a)) (hk : ∀ a, QS B X rest (γ' a) γ δ (k a)) (hc : X.calm = true := by rfl) (hj : X.N[j]? = some x := by rfl) (hx : Loc X.env.scope x := by first | exact Or.inl rfl | exact Or.inr rfl) (hf : X.fn x = true ∨ X.env.scope.names.lookup x = some .local := by first | exact .inl rfl | exact .inr rfl | assumption)
    (hj2 : X.N[j2]? = some y := by rfl) (hx2 : Loc X.env.scope y := by first | exact Or.inl rfl | exact Or.inr rfl) (hf2 : X.fn y = true ∨ X.env.scope.names.lookup y = some .local := by first | exact .inl rfl | exact .inr rfl | assumption)
    (hs : ∀ x, foldedSetIterable iter X.env x = pure x := by intro _; rfl) :
    QS B X (.For (.Tuple [.Name x p1, .Name y p2] kk tpos) iter body [] pos :: rest) Γ γ δ (do let a ← mi; aftF (loop (lun2 mb) a a0) k) :=
  qs_for (.tup [j, j2]) a0 hK hp hc hi (pg_tup hc (pgs_cons (pg_name hN hj hx hf) (pgs_cons (pg_name hN hj2 hx2 hf2) pgs_nil))) h0 (fun _ _ _ h => lun2_bad h) (fun d a Γ' h => by obtain ⟨a1, b1, rfl, rfl⟩ := set2 h; exact hb a1 b1 a) hk hs
end

/-! ### what a body owns -/
section
variable {B : Bx} {X : Cx} {Γ : List Slot} {e : Expr} {rest : List Stmt} {pos pos' : Pos} {α β : Type} {γ : α → List Slot} {δ : β → List Slot}
theorem SL.setO {ow : List (Addr × HO)} {al : List Addr} {G : Hp} {σ : L2.St} (sl : SL B al G ow σ Γ) (i : Nat) {p : Addr} {o : HO} {g : Slot} (np : ∀ q ∈ ow, q.1 ≠ p) (r : SlotOk B al G ((p, o) :: ow) (some (.ref p)) g) : SL B al G ((p, o) :: ow) (σ.set i (some (.ref p))) (Γ.set i g) := by
  have sm := sl.more (q := (p, o))
  have old : ∀ (j : Nat) g', Γ[j]? = some g' → g'.isOwn = true → σ[j]? ≠ some (some (.ref p)) := fun j g' h1 o1 h2 => by
    have := sl.at_ j g' _ h1 h2
    cases g' with
    | no => cases o1
    | d _ => cases o1
    | x _ _ _ _ => cases o1
    | l _ =>
      obtain ⟨p', _, e1, e2, _⟩ := this
      cases e1
      exact np _ e2 rfl
    | k _ =>
      obtain ⟨p', _, e1, e2, _⟩ := this
      cases e1
      exact np _ e2 rfl
    | o _ _ _ _ =>
      obtain ⟨_, _, e1, _, e2, _⟩ := this
      cases e1
      exact np _ e2 rfl
  refine ⟨by rw [List.length_set, List.length_set]; exact sl.len, fun j g' x h1 h2 => ?_, fun j k g1 g2 x h1 h2 o1 o2 h3 h4 => ?_⟩
  · by_cases hj : j = i
    · subst hj
      have l1 : j < Γ.length := by
        have := (List.getElem?_eq_some_iff.mp h1).1
        rwa [List.length_set] at this
      rw [List.getElem?_set_self l1] at h1
      rw [List.getElem?_set_self (by rw [sl.len]; exact l1)] at h2
      cases h1; cases h2
      exact r
    · rw [List.getElem?_set_ne (Ne.symm hj)] at h1 h2
      exact sm.at_ j g' x h1 h2
  · by_cases hj : j = i
    · by_cases hk : k = i
      · rw [hj, hk]
      · subst hj
        rw [List.getElem?_set_ne (Ne.symm hk)] at h2 h4
        have l1 : j < σ.length := by
          have := (List.getElem?_eq_some_iff.mp h3).1
          rwa [List.length_set] at this
        rw [List.getElem?_set_self l1] at h3
        cases h3
        exact absurd h4 (old k g2 h2 o2)
    · by_cases hk : k = i
      · subst hk
        rw [List.getElem?_set_ne (Ne.symm hj)] at h1 h3
        have l1 : k < σ.length := by
          have := (List.getElem?_eq_some_iff.mp h4).1
          rwa [List.length_set] at this
        rw [List.getElem?_set_self l1] at h4
        cases h4
        exact absurd h3 (old j g1 h1 o1)
      · rw [List.getElem?_set_ne (Ne.symm hj)] at h1 h3
        rw [List.getElem?_set_ne (Ne.symm hk)] at h2 h4
        exact sl.inj j k g1 g2 x h1 h2 o1 o2 h3 h4
theorem HV.nfm {G H : Hp} {al : List Addr} {fm : List (Addr × HO)} {s : Store} {p : Addr} {o : HO} (h : HV B G al ((p, o) :: fm) H s) : ∀ q ∈ fm, q.1 ≠ p := fun q hq z => by
  have hn := h.nd
  rw [List.map_cons] at hn
  have hn' := List.nodup_cons.mp (List.perm_middle.nodup_iff.mp hn)
  exact hn'.1 (List.mem_append_right _ (List.mem_map.mpr ⟨q, hq, z⟩))
/-- x = [..], x a list that the body owns from here on -/
theorem qs_setL (i : Nat) {x : Str} {m : M (List D)} {k : List D → M (Fl α β)} (h : QL B X e Γ m) (hk : ∀ ds, QS B X rest (Γ.set i (.l ds)) γ δ (k ds)) (hN : X.N.Nodup) (hi : X.N[i]? = some x := by rfl) (hx : Loc X.env.scope x := by first | exact Or.inl rfl | exact Or.inr rfl) (hs : swapsWith e (some (.Name x pos')) pos.line X.env = pure false := by rfl) (hf : X.fn x = true ∨ X.env.scope.names.lookup x = some .local := by first | exact .inl rfl | exact .inr rfl | assumption) :
    QS B X (.Assign [.Name x pos'] e pos :: rest) Γ γ δ (do let ds ← m; k ds) := fun G al fo ow H σ s E hv sl f => by
  refine ⟨_, pss_cons (ps_set hN hi hx wE_ok hs hf) wSs_ok, h G al (ow ++ fo) H σ s _ hv sl.all (FolS.bind f fun ds s' v G' al' H' g ⟨p, xs, ev, hv', rp⟩ f' => ?_)⟩
  subst ev
  exact hk ds G' al' fo ((p, .lst xs) :: ow) H' _ s' E hv' ((sl.mono g).setO i (fun q hq => hv'.nfm q (List.mem_append_left _ hq)) ⟨p, xs, rfl, List.mem_cons_self, rp⟩) f'
theorem qs_setK (i : Nat) {x : Str} {m : M (List (D × D))} {k : List (D × D) → M (Fl α β)} (h : QK B X e Γ m) (hk : ∀ ds, QS B X rest (Γ.set i (.k ds)) γ δ (k ds)) (hN : X.N.Nodup) (hi : X.N[i]? = some x := by rfl) (hx : Loc X.env.scope x := by first | exact Or.inl rfl | exact Or.inr rfl) (hs : swapsWith e (some (.Name x pos')) pos.line X.env = pure false := by rfl) (hf : X.fn x = true ∨ X.env.scope.names.lookup x = some .local := by first | exact .inl rfl | exact .inr rfl | assumption) :
    QS B X (.Assign [.Name x pos'] e pos :: rest) Γ γ δ (do let ds ← m; k ds) := fun G al fo ow H σ s E hv sl f => by
  refine ⟨_, pss_cons (ps_set hN hi hx wE_ok hs hf) wSs_ok, h G al (ow ++ fo) H σ s _ hv sl.all (FolS.bind f fun ds s' v G' al' H' g ⟨p, xs, ev, hv', rp⟩ f' => ?_)⟩
  subst ev
  exact hk ds G' al' fo ((p, .dK xs) :: ow) H' _ s' E hv' ((sl.mono g).setO i (fun q hq => hv'.nfm q (List.mem_append_left _ hq)) ⟨p, xs, rfl, List.mem_cons_self, rp⟩) f'
/-- x = [elt for y in ..], on one line -/
theorem qs_setLc (i : Nat) {x : Str} {elt tg iter : Expr} {ifs : List Expr} {scope : Scope} {own : List (Str × Nat)} {cpos : Pos} {mi : M Itm} {mt : D → M Bool} {me : D → M D} {k : List D → M (Fl α β)} (j : Nat) (hK : B.K = X.K) (C : CompOk X tg iter scope own (.one j)) (hq : QI B X tg iter Γ mi)
    (ht : ∀ (s : Shared) (H : Hp) (C : Addr) (cl : List (Str × Addr)) (fp : List Addr) d, QTs B (X.blk s H scope (compEnvC scope cl C X.env) fp) ifs ((wipeG Γ (own.map (·.2))).set j (.d d)) (mt d))
    (he : ∀ (s : Shared) (H : Hp) (C : Addr) (cl : List (Str × Addr)) (fp : List Addr) d, QE B (X.blk s H scope (compEnvC scope cl C X.env) fp) elt ((wipeG Γ (own.map (·.2))).set j (.d d)) (me d))
    (hk : ∀ ds, QS B X rest (Γ.set i (.d (.lst ds))) γ δ (k ds)) (hsw : swapsWith (.ListComp elt [⟨tg, iter, ifs, 0⟩] scope cpos) (some (.Name x pos')) pos.line X.env = pure true) (hi : X.N[i]? = some x := by rfl) (hx : X.env.scope.names.lookup x = some .local := by rfl) :
    QS B X (.Assign [.Name x pos'] (.ListComp elt [⟨tg, iter, ifs, 0⟩] scope cpos) pos :: rest) Γ γ δ (do let ds ← (do let a ← mi; comp mt me a); k ds) := fun G al fo ow H σ s E hv sl f => by
  refine ⟨_, pss_cons (ps_setLc C.hc C.hN hi hx hsw wI_ok C.ok C.hg iT_ok iE_ok C.hs) wSs_ok, ?_⟩
  show tLc (wI X tg iter) (Tg.rd X.K (Tg.one j)) (iT X scope ifs) (iE X scope elt) (own.map (·.2)) σ H (fun x H1 => gName i x σ H1 (wSs X rest E))
  refine lc_read (.one j) hK hq C.hsub (fun _ _ h => nomatch h) (fun s H C cl fp d Γ' h => by cases h; exact ht s H C cl fp d) (fun s H C cl fp d Γ' h => by cases h; exact he s H C cl fp d) hv sl.all (FolS.bind f fun ds s' v G' al' H' g ⟨p, xs, ev, hv', rp⟩ f' => ?_)
  subst ev
  obtain ⟨hv2, g2⟩ := hv'.freeze
  exact hk ds _ al' fo ow H' _ s' E hv2 (((sl.mono g).mono g2).set i (.lst upd_same (rp.mono g2))) (FolS.grow g2 f')
end
end PM
set_option Elab.async false
set_option linter.all false
set_option maxRecDepth 100000
set_option maxHeartbeats 2000000
/-! Pm8: changing what a body owns; shared cells. -/
namespace PM
open PySem PySem.Spec PyProof.Rows L2

section
variable {B : Bx} {X : Cx} {Γ : List Slot} {e : Expr} {rest : List Stmt} {pos pos' : Pos} {α β : Type} {γ : α → List Slot} {δ : β → List Slot}
theorem HV.perm {G H : Hp} {al : List Addr} {fm fm' : List (Addr × HO)} {s : Store} (h : HV B G al fm H s) (p : fm'.Perm fm) : HV B G al fm' H s :=
  ⟨h.ex, fun q hq => h.fr q (p.subset hq), h.len, h.ce, ((p.map _).append_left al).nodup_iff.mpr h.nd⟩
def Slot.adr (x : Option V) : Slot → Option Addr
  | .no => none
  | .d _ => none
  | _ => match x with
    | some (.ref p) => some p
    | _ => none
theorem SlotOk.own {al : List Addr} {G : Hp} {ow : List (Addr × HO)} {x : Option V} {g : Slot} (h : SlotOk B al G ow x g) (o : g.isOwn = true) : ∃ p u, x = some (.ref p) ∧ (p, u) ∈ ow := by
  cases g with
  | no => cases o
  | d _ => cases o
  | x _ _ _ _ => cases o
  | l _ =>
    obtain ⟨p, xs, h1, h2, _⟩ := h
    exact ⟨p, _, h1, h2⟩
  | k _ =>
    obtain ⟨p, xs, h1, h2, _⟩ := h
    exact ⟨p, _, h1, h2⟩
  | o _ p _ _ =>
    obtain ⟨_, _, h1, _, h2, _⟩ := h
    exact ⟨p, _, h1, h2⟩
theorem SlotOk.elsewhere {al : List Addr} {G : Hp} {ow ow' : List (Addr × HO)} {x : Option V} {g : Slot} {p : Addr} (h : SlotOk B al G ow x g) (ne : g.isOwn = true → x ≠ some (.ref p)) (hs : ∀ q ∈ ow, q.1 ≠ p → q ∈ ow') : SlotOk B al G ow' x g := by
  cases g with
  | no => exact True.intro
  | d _ => exact h
  | x _ _ _ _ => exact h
  | l _ =>
    obtain ⟨q, xs, h1, h2, h3⟩ := h
    exact ⟨q, xs, h1, hs _ h2 (fun z => ne rfl (by rw [h1]; exact congrArg (fun a => some (V.ref a)) z)), h3⟩
  | k _ =>
    obtain ⟨q, xs, h1, h2, h3⟩ := h
    exact ⟨q, xs, h1, hs _ h2 (fun z => ne rfl (by rw [h1]; exact congrArg (fun a => some (V.ref a)) z)), h3⟩
  | o _ _ _ _ =>
    obtain ⟨C, vs, h1, h0, h2, h3⟩ := h
    exact ⟨C, vs, h1, h0, hs _ h2 (fun z => ne rfl (by rw [h1]; exact congrArg (fun a => some (V.ref a)) z)), h3⟩
/-- the slot i, which owns the object at p, is told anew; all other slots stay -/
theorem SL.anew {ow ow' : List (Addr × HO)} {al : List Addr} {G : Hp} {σ : L2.St} (sl : SL B al G ow σ Γ) {i : Nat} {g g' : Slot} {p : Addr} (hi : Γ[i]? = some g) (hx : σ[i]? = some (some (.ref p))) (ho : g.isOwn = true) (hs : ∀ q ∈ ow, q.1 ≠ p → q ∈ ow') (r : SlotOk B al G ow' (some (.ref p)) g') : SL B al G ow' σ (Γ.set i g') := by
  have li : i < Γ.length := (List.getElem?_eq_some_iff.mp hi).1
  refine ⟨by rw [List.length_set]; exact sl.len, fun j g1 x h1 h2 => ?_, fun j k g1 g2 x h1 h2 o1 o2 h3 h4 => ?_⟩
  · by_cases hj : j = i
    · subst hj
      rw [List.getElem?_set_self li] at h1
      cases h1
      rw [hx] at h2
      cases h2
      exact r
    · rw [List.getElem?_set_ne (Ne.symm hj)] at h1
      exact (sl.at_ j g1 x h1 h2).elsewhere (fun o z => hj (sl.inj j i g1 g x h1 hi o ho h2 (by rw [hx, z]))) hs
  · have back : ∀ (j : Nat) g1, (Γ.set i g')[j]? = some g1 → g1.isOwn = true → ∃ g2, Γ[j]? = some g2 ∧ g2.isOwn = true := fun j g1 h o => by
      by_cases hj : j = i
      · subst hj
        exact ⟨g, hi, ho⟩
      · rw [List.getElem?_set_ne (Ne.symm hj)] at h
        exact ⟨g1, h, o⟩
    obtain ⟨f1, e1, q1⟩ := back j g1 h1 o1
    obtain ⟨f2, e2, q2⟩ := back k g2 h2 o2
    exact sl.inj j k f1 f2 x e1 e2 q1 q2 h3 h4
theorem perm_of_mem {α : Type} {x : α} : ∀ {l : List α}, x ∈ l → ∃ l', l.Perm (x :: l')
  | [], h => by simp at h
  | y :: l, h => by
    rcases List.mem_cons.mp h with rfl | h
    · exact ⟨l, List.Perm.refl _⟩
    · obtain ⟨l', p⟩ := perm_of_mem h
      exact ⟨y :: l', (p.cons y).trans (List.Perm.swap x y l')⟩
/-- what a slot owns, taken out -/
theorem own_take {G H : Hp} {al : List Addr} {ow fo : List (Addr × HO)} {s : Store} {p : Addr} {o : HO} (hv : HV B G al (ow ++ fo) H s) (h : (p, o) ∈ ow) : ∃ ow', HV B G al ((p, o) :: (ow' ++ fo)) H s ∧ ∀ q ∈ ow, q.1 ≠ p → q ∈ ow' := by
  obtain ⟨ow', pm⟩ := perm_of_mem h
  refine ⟨ow', hv.perm ?_, fun q hq ne => ?_⟩
  · have : ((p, o) :: ow' ++ fo).Perm (ow ++ fo) := (pm.symm).append_right fo
    exact this
  · rcases List.mem_cons.mp (pm.subset hq) with rfl | z
    · exact absurd rfl ne
    · exact z
/-- the owned list in slot i is frozen -/
theorem qs_freezeL (i : Nat) {ds : List D} {ss : List Stmt} {m : M (Fl α β)} (hk : QS B X ss (Γ.set i (.d (.lst ds))) γ δ m) (h : Γ[i]? = some (.l ds) := by rfl) : QS B X ss Γ γ δ m := fun G al fo ow H σ s E hv sl f => by
  have li : i < σ.length := by rw [sl.len]; exact (List.getElem?_eq_some_iff.mp h).1
  have hx := List.getElem?_eq_getElem li
  obtain ⟨p, xs, e1, e2, r⟩ := sl.at_ i _ _ h hx
  rw [e1] at hx
  obtain ⟨ow', hv2, hs⟩ := own_take hv e2
  obtain ⟨hv3, g⟩ := hv2.freeze
  refine hk _ al fo ow' H σ s E hv3 ?_ (FolS.grow g f)
  exact (sl.mono g).anew h hx rfl hs ⟨_, rfl, .lst upd_same (r.mono g)⟩
theorem qs_freezeK (i : Nat) {es : List (D × D)} {ss : List Stmt} {m : M (Fl α β)} (hk : QS B X ss (Γ.set i (.d (.dct es))) γ δ m) (h : Γ[i]? = some (.k es) := by rfl) : QS B X ss Γ γ δ m := fun G al fo ow H σ s E hv sl f => by
  have li : i < σ.length := by rw [sl.len]; exact (List.getElem?_eq_some_iff.mp h).1
  have hx := List.getElem?_eq_getElem li
  obtain ⟨p, xs, e1, e2, r⟩ := sl.at_ i _ _ h hx
  rw [e1] at hx
  obtain ⟨ow', hv2, hs⟩ := own_take hv e2
  refine wSs_lock (hv2.fr (p, .dK xs) List.mem_cons_self).1 True.intro fun od => ?_
  obtain ⟨hv3, g⟩ := hv2.freezeLock (.frz od (.dK xs))
  refine hk _ al fo ow' _ σ s E hv3 ?_ (FolS.grow g f)
  exact (sl.mono g).anew h hx rfl hs ⟨_, rfl, .dct upd_same (r.mono g)⟩
/-- x.append(e), x an owned list -/
theorem qs_append (i : Nat) {ds : List D} {x : Str} {p0 apos cpos : Pos} {m : M D} {k : D → M (Fl α β)} (he : QE B X e Γ m) (hk : ∀ d, QS B X rest (Γ.set i (.l (ds ++ [d]))) γ δ (k d)) (h : Γ[i]? = some (.l ds) := by rfl) (hN : X.N[i]? = some x := by rfl) (hvx : Vis X.env.scope x := by first | exact Or.inl rfl | exact Or.inr (Or.inl rfl) | exact Or.inr (Or.inr rfl)) (hd : (x == ("__debug__" : Str)) = false := by decide)
    (hcd : (x == ("__classdict__" : Str)) = false := by decide) (hbase : attributeBase (.Name x p0) "append" X.env (eval (.Name x p0) X.env) = eval (.Name x p0) X.env := by rfl)
    (hfew : ((backTo cpos (starEach [e] X.env)).all (fun x => !x.1) && (backToKw cpos (keywordEach [] X.env)).all (fun x => x.1.isSome)
      && decide (([e] : List Expr).length + ([] : List Keyword).length + (if ([] : List Keyword).isEmpty then 0 else 1) < 30)) = true := by rfl)
    (hline : (apos.endLine == cpos.line) = true := by rfl) (hs : starEach [e] X.env = (false, eval e X.env) :: starEach [] X.env := by rfl) (hplain : (backTo cpos (starEach [] X.env)).any (·.1) = false := by rfl) (hsw : swapsWith (.Call (.Attribute (.Name x p0) "append" apos) [e] [] cpos) none pos.line X.env = pure false := by rfl) :
    QS B X (.Expr (.Call (.Attribute (.Name x p0) "append" apos) [e] [] cpos) pos :: rest) Γ γ δ (do let d ← m; fits (ds.length + 1) (k d)) := fun G al fo ow H σ s E hv sl f => by
  refine ⟨_, pss_cons (ps_expr (pe_bm PySem.F.plainAttrs_list PySem.F.slot_list_append PySem.F.type_list_append mt_append (pe_var hN hvx hd hcd) (pa_cons wE_ok pa_nil hs) hbase hfew hline hs hplain) hsw) wSs_ok, ?_⟩
  have li : i < σ.length := by rw [sl.len]; exact (List.getElem?_eq_some_iff.mp h).1
  have hx := List.getElem?_eq_getElem li
  obtain ⟨p, xs, e1, e2, r⟩ := sl.at_ i _ _ h hx
  rw [e1] at hx
  have h0 : H p = some (.lst xs) := (hv.fr (p, .lst xs) (List.mem_append_left _ e2)).1
  refine ⟨.ref p, hx, .inl ⟨rfl, xs, .inl (.inl h0)⟩, ?_⟩
  refine he G al (ow ++ fo) H σ s _ hv sl.all (FolS.bind f fun d s' v G' al' H' g ⟨hv', rp⟩ f' => ?_)
  rw [fits_run] at f'
  split at f'
  · rename_i hl
    have r' := r.mono g
    have h1 : H' p = some (.lst xs) := (hv'.fr (p, .lst xs) (List.mem_append_left _ e2)).1
    obtain ⟨ow', hv2, hsub⟩ := own_take hv' e2
    refine ⟨p, xs, v, rfl, rfl, h1, by rw [r.length, sizeLine_eq]; omega, ?_⟩
    exact hk d G' al' fo ((p, .lst (xs ++ [v])) :: ow') _ σ s' E hv2.put ((sl.mono g).anew h hx rfl (fun q hq ne => List.mem_cons_of_mem _ (hsub q hq ne)) ⟨p, _, rfl, List.mem_cons_self, r'.snoc rp⟩) f'
  · exact False.elim f'
end
end PM
set_option Elab.async false
set_option linter.all false
set_option maxRecDepth 100000
set_option maxHeartbeats 2000000
/-! Pm9: subscripts, conditional expressions, is None, built-ins on values. -/
namespace PM
open PySem PySem.Spec PyProof.Rows L2

section
variable {B : Bx} {al : List Addr} {G : Hp}
theorem Rep.key {v : V} {d : D} (r : Rep B al G v d) (h : isKey d = true) : ∃ k : Key, v = kV k ∧ d = keyD k := by
  cases r with
  | int i => exact ⟨.inl i, rfl, rfl⟩
  | str x => exact ⟨.inr x, rfl, rfl⟩
  | _ => cases h
theorem keyEq_keyD (a b : Key) : keyEq (keyD a) (keyD b) = decide (a = b) := by
  cases a with
  | inl i => cases b with
    | inl j =>
      rw [key_ll]
      show decide (i = j) = (i == j)
      by_cases e : i = j
      · subst e; simp
      · rw [decide_eq_false e]; exact (beq_eq_false_iff_ne.mpr e).symm
    | inr y => exact (key_lr i y).symm ▸ rfl
  | inr x => cases b with
    | inl j => exact (key_rl x j).symm ▸ rfl
    | inr y => exact (key_rr x y).symm ▸ rfl
theorem RepD.look : ∀ {kvs : List (Key × V)} {es : List (D × D)}, RepD B al G kvs es → ∀ k, (∀ d, dLook es (keyD k) = some d → ∃ v, valV kvs k = some v ∧ Rep B al G v d) ∧ (dLook es (keyD k) = none → valV kvs k = none)
  | _, _, .nil, k => ⟨fun d h => (nomatch h), fun _ => rfl⟩
  | _, _, .cons (k := k0) (v := v0) (d := d0) (kvs := kvs) (es := es) h r, k => by
    have ih := RepD.look r k
    have e1 : dLook ((keyD k0, d0) :: es) (keyD k) = if decide (k0 = k) = true then some d0 else dLook es (keyD k) := by
      unfold dLook
      rw [List.find?_cons]
      show Option.map _ (match keyEq (keyD k0) (keyD k) with | true => _ | false => _) = _
      rw [keyEq_keyD]
      cases decide (k0 = k) <;> rfl
    have e2 : valV ((k0, v0) :: kvs) k = if decide (k0 = k) = true then some v0 else valV kvs k := by
      unfold valV
      rw [List.find?_cons]
      cases decide (k0 = k) <;> rfl
    rw [e1, e2]
    by_cases hk : decide (k0 = k) = true
    · rw [if_pos hk, if_pos hk]
      exact ⟨fun d z => by cases z; exact ⟨v0, rfl, h⟩, fun z => by cases z⟩
    · rw [if_neg hk, if_neg hk]
      exact ih
theorem RepL.atI {vs : List V} {ds : List D} {i : Int} {d : D} (r : RepL B al G vs ds) (h : PM.atI ds i = some d) : ∃ v, L2.atI vs i = some v ∧ Rep B al G v d := by
  unfold PM.atI at h
  unfold L2.atI
  rw [r.length]
  show ∃ v, (PM.ixN ds.length i).bind (fun j => vs[j]?) = some v ∧ _
  cases q : PM.ixN ds.length i with
  | none => rw [q] at h; cases h
  | some j =>
    rw [q] at h
    exact r.item h
end
section
variable {B : Bx} {al : List Addr} {G : Hp} {fm : List (Addr × HO)} {v : V}
theorem RepH.int {i : Int} (r : RepH B al G fm v (.int i)) : v = .int i := by
  cases r with
  | rep r => cases r; rfl
theorem RepH.str {i : Str} (r : RepH B al G fm v (.str i)) : v = .str i := by
  cases r with
  | rep r => cases r; rfl
theorem RepH.bl {i : Bool} (r : RepH B al G fm v (.bl i)) : v = .bl i := by
  cases r with
  | rep r => cases r; rfl
theorem RepH.non (r : RepH B al G fm v .non) : v = .non := by
  cases r with
  | rep r => cases r; rfl
theorem RepHL.one {vs : List V} {d : D} (r : RepHL B al G fm vs [d]) : ∃ v, vs = [v] ∧ RepH B al G fm v d := by
  cases r with
  | cons h r => cases r; exact ⟨_, rfl, h⟩
theorem RepHL.two {vs : List V} {d d2 : D} (r : RepHL B al G fm vs [d, d2]) : ∃ v v2, vs = [v, v2] ∧ RepH B al G fm v d ∧ RepH B al G fm v2 d2 := by
  cases r with
  | cons h r =>
    obtain ⟨v2, rfl, h2⟩ := r.one
    exact ⟨_, _, rfl, h, h2⟩
end
theorem IxR.or {X : Cx} {r r' : R2} (h : IxR X r) (h' : IxR X r') : IxR X (fun x y H Q => r x y H Q ∨ r' x y H Q) := fun value slice pins s σ H x y v u Q I rx ry q hs => by
  rcases q with q | q
  · exact h value slice pins s σ H x y v u Q I rx ry q hs
  · exact h' value slice pins s σ H x y v u Q I rx ry q hs
/-- d[k] by values -/
def rIxD : R2 := fun x y H Q => ∃ a v, x = .ref a ∧ DGet H a y (some v) ∧ Q v H
theorem ix_dict {X : Cx} (hu : X.A.units + 1 < cLine) : IxR X rIxD := fun value slice pins s σ H x y v u Q I rx ry h hs => by
  obtain ⟨a, z, rfl, g, q⟩ := h
  cases (show v = Value.ref a from rx)
  have hT := dict_typeIs I g
  unfold subscriptTail
  refine wpAny_bind ?_
  rw [getitemInPython_of_ne hT.not_modules]
  refine wpAny_bind (wpAny_specialOf hT PySem.F.slot_dict_getitem.lookup ?_)
  have fin : wpAny (model X.prog X.w) X.A (subscripted slice false (.ref a) u) (fun r s₃ => wpAny (model X.prog X.w) X.A (letTemporaryGo value (.ref a) r >>= fun _ => pure r) (EP X pins σ Q) X.xe s₃) X.xe s := by
    rw [hs]
    exact wpAny_operating (d_getItem hu I g ry fun w' s' I' rw' => wpAny_bind (wpAny_letTemporaryGo (wpAny_pure ⟨z, H, I', rw', q⟩)))
  first
    | exact wpAny_pure (wpAny_bind fin)
    | exact wpAny_bind (wpAny_pure (wpAny_bind fin))
    | exact wpAny_bind fin
section
variable {B : Bx} {X : Cx} {Γ : List Slot} {a b c e : Expr} {es : List Expr} {pos : Pos} {m m1 m2 m3 : M D}
theorem qe_ix (hK : B.K = X.K) (hu : X.A.units + 1 < cLine) (ha : QH B X a Γ m1) (hb : QE B X b Γ m2) (hs : PlainIx b := by exact fun _ _ => rfl) : QE B X (.Subscript a b pos) Γ (do let x ← m1; let y ← m2; mIx x y) := fun G al fm H σ s Q hv sl f => by
  refine wE_of (pe_ix (IxR.or (ix_dict hu) (IxR.or ix_list (IxR.or ix_tup ix_str))) wE_ok wE_ok hs) (ha G al fm H σ s _ hv sl (Fo.bind f fun x s1 v G' al' H' g ⟨hv', rp⟩ f' => ?_))
  refine hb G' al' fm H' σ s1 _ hv' (sl.mono g) (Fo.bind f' fun y s2 v2 G2 al2 H2 g2 ⟨hv2, rp2⟩ f3 => ?_)
  have rp := rp.mono g2
  unfold mIx at f3
  cases qi : ixOf s2 x y with
  | none => rw [qi] at f3; exact False.elim f3
  | some d =>
    rw [qi] at f3
    by_cases hz : ∃ z, x = .str z
    · obtain ⟨z, rfl⟩ := hz
      cases rp.str
      have q1 : ixStr z y = some d := qi
      unfold ixStr at q1
      cases rp2 with
      | int i =>
        have q2 : (if z.length ≤ 16777216 then (PM.atI z.cps.toList i).map fun c => D.str ⟨#[c]⟩ else none) = some d := q1
        split at q2
        · rename_i hl
          obtain ⟨c, qc, rfl⟩ := Option.map_eq_some_iff.mp q2
          exact .inr (.inr (.inr ⟨z, i, c, rfl, rfl, by rw [sizeLine_eq]; exact hl, qc, f3 _ G2 al2 H2 Grow.refl ⟨hv2, .str _⟩⟩))
        · cases q2
      | _ => cases q1
    · have q2 : ixAt (seqOf s2 x) (dctOf s2 x) y = some d := by
        rw [← qi]
        cases x with
        | str z => exact absurd ⟨z, rfl⟩ hz
        | _ => rfl
      unfold ixAt at q2
      cases qs : seqOf s2 x with
      | none =>
        simp only [qs] at q2
        cases qd : dctOf s2 x with
        | none => simp only [qd] at q2; cases q2
        | some es =>
          simp only [qd] at q2
          split at q2
          · rename_i hk
            obtain ⟨k, rfl, rfl⟩ := rp2.key hk
            obtain ⟨p, kvs, rfl, rd, h1⟩ := rp.dctR hv2 qd
            obtain ⟨v3, h2, h3⟩ := (rd.look k).1 d q2
            exact .inl ⟨p, v3, rfl, .inl ⟨kvs, k, h1, rfl, h2.symm⟩, f3 v3 G2 al2 H2 Grow.refl ⟨hv2, h3⟩⟩
          · cases q2
      | some ds =>
        simp only [qs] at q2
        obtain ⟨p, xs, rfl, rl, hq⟩ := rp.seq hv2 qs
        cases rp2 with
        | int i =>
          obtain ⟨v3, h2, h3⟩ := rl.atI (show PM.atI ds i = some d from q2)
          rw [hK] at hq
          rcases hq with hq | hq
          · exact .inr (.inl ⟨p, xs, i, v3, rfl, rfl, hq, h2, f3 v3 G2 al2 H2 Grow.refl ⟨hv2, h3⟩⟩)
          · exact .inr (.inr (.inl ⟨p, xs, i, v3, rfl, rfl, hq, h2, f3 v3 G2 al2 H2 Grow.refl ⟨hv2, h3⟩⟩))
        | _ => cases q2
/-- a if c else b -/
theorem qe_ifExp {mt : M Bool} (ht : QT B X c Γ mt) (ha : QE B X a Γ m1) (hb : QE B X b Γ m2) : QE B X (.IfExp c a b pos) Γ (do let t ← mt; if t = true then m1 else m2) := fun G al fm H σ s Q hv sl f => by
  refine wE_of (pe_ifExp wT_ok wE_ok wE_ok) (ht G al fm H σ s _ hv sl (Fo.bind f fun t s' t' G' al' H' g ⟨hv', ec⟩ f' => ?_))
  subst ec
  cases t with
  | true => exact ha G' al' fm H' σ s' Q hv' (sl.mono g) f'
  | false => exact hb G' al' fm H' σ s' Q hv' (sl.mono g) f'
/-- is None -/
def isNon : D → Bool
  | .non => true
  | _ => false
def mIsN (d : D) : M D := pure (.bl (isNon d))
def mNotN (d : D) : M D := pure (.bl (!isNon d))
theorem Rep.isNon {al : List Addr} {G : Hp} {v : V} {d : D} (r : Rep B al G v d) : decide (v = .non) = PM.isNon d := by
  cases r <;> rfl
theorem qe_isN {j : Nat} {p2 : Pos} (ha : QE B X a Γ m) : QE B X (.Compare a [.Is] [.Constant .none j p2] pos) Γ (do let d ← m; mIsN d) := fun G al fm H σ s Q hv sl f => by
  refine wE_of (pe_cmpR op_isN wE_ok pe_non (nomark _)) (ha G al fm H σ s _ hv sl (Fo.bind f fun d s' v G' al' H' g ⟨hv', rp⟩ f' => ?_))
  exact ⟨rfl, by rw [rp.isNon]; exact Fo.pure f' hv' (.bl _)⟩
theorem qe_notN {j : Nat} {p2 : Pos} (ha : QE B X a Γ m) : QE B X (.Compare a [.IsNot] [.Constant .none j p2] pos) Γ (do let d ← m; mNotN d) := fun G al fm H σ s Q hv sl f => by
  refine wE_of (pe_cmpR op_notN wE_ok pe_non (nomark _)) (ha G al fm H σ s _ hv sl (Fo.bind f fun d s' v G' al' H' g ⟨hv', rp⟩ f' => ?_))
  exact ⟨rfl, by rw [rp.isNon]; exact Fo.pure f' hv' (.bl _)⟩
theorem qt_isN {j : Nat} {p2 : Pos} (ha : QE B X a Γ m) : QT B X (.Compare a [.Is] [.Constant .none j p2] pos) Γ (do let d ← m; pure (isNon d)) := fun G al fm H σ s Q hv sl f => by
  refine ⟨_, pt_cmpR op_isN wE_ok pe_non (nomark _), ha G al fm H σ s _ hv sl (Fo.bind f fun d s' v G' al' H' g ⟨hv', rp⟩ f' => ?_)⟩
  exact ⟨rfl, _, rfl, by rw [rp.isNon]; exact f' _ G' al' H' Grow.refl ⟨hv', rfl⟩⟩
theorem qt_notN {j : Nat} {p2 : Pos} (ha : QE B X a Γ m) : QT B X (.Compare a [.IsNot] [.Constant .none j p2] pos) Γ (do let d ← m; pure (!isNon d)) := fun G al fm H σ s Q hv sl f => by
  refine ⟨_, pt_cmpR op_notN wE_ok pe_non (nomark _), ha G al fm H σ s _ hv sl (Fo.bind f fun d s' v G' al' H' g ⟨hv', rp⟩ f' => ?_)⟩
  exact ⟨rfl, _, rfl, by rw [rp.isNon]; exact f' _ G' al' H' Grow.refl ⟨hv', rfl⟩⟩
end
/-! ### numbers -/
/-- on two numbers -/
def mI2 (c : Int → Int → Bool) (g : Int → Int → D) (x y : D) : M D := match x, y with
  | .int i, .int j => guardM (c i j) (pure (g i j))
  | _, _ => bad
theorem guardM_run {α : Type} {c : Bool} {m : M α} {s : Store} : guardM c m s = if c = true then m s else .bad := by
  unfold guardM
  split <;> rfl
theorem mI2_fo {B : Bx} {X : Cx} {σ : L2.St} {fm : List (Addr × HO)} {G : Hp} {al : List Addr} {s : Store} {Q : VK} {c : Int → Int → Bool} {g : Int → Int → D} {x y : D} (f : Fo B X σ fm G al (kE B fm) (mI2 c g x y s) Q) : ∃ i j, x = .int i ∧ y = .int j ∧ c i j = true ∧ Fo B X σ fm G al (kE B fm) ((pure (g i j) : M D) s) Q := by
  cases x with
  | int i => cases y with
    | int j =>
      have f' : Fo B X σ fm G al (kE B fm) (guardM (c i j) (pure (g i j)) s) Q := f
      rw [guardM_run] at f'
      split at f'
      · rename_i hc
        exact ⟨i, j, rfl, rfl, hc, f'⟩
      · exact False.elim f'
    | _ => exact False.elim f
  | _ => exact False.elim f
section
variable {B : Bx} {X : Cx}
theorem om_I2 {F : Value → Value → Sem Value} {C : Int → Int → Prop} {c : Int → Int → Bool} {g : Int → Int → Int} (h : OpR X F (rI C fun i j => .int (g i j))) (hc : ∀ i j, c i j = true → C i j) : OpM B X F (mI2 c fun i j => .int (g i j)) :=
  ⟨_, h, fun σ G al fm H s x y dx dy Q hv rx ry f => by
    obtain ⟨i, j, rfl, rfl, e, f'⟩ := mI2_fo f
    exact ⟨i, j, rx.int, ry.int, hc i j e, Fo.pure f' hv (.int _)⟩⟩
noncomputable def mMul := mI2 (fun i j => cdec ((-(2 ^ 64) < i ∧ i < 2 ^ 64) ∨ (-(2 ^ 64) < j ∧ j < 2 ^ 64))) fun i j => .int (i * j)
noncomputable def mMod := mI2 (fun _ j => cdec (0 < j)) fun i j => .int (i % j)
noncomputable def mDiv := mI2 (fun _ j => cdec (j ≠ 0 ∧ j.natAbs < 1073741824)) fun i j => .int (i.fdiv j)
noncomputable def mPow := mI2 (fun i j => cdec (0 ≤ j ∧ j ≤ 1000000 ∧ i.natAbs < 2 ^ 64)) fun i j => .int (i ^ j.toNat)
theorem om_mul : OpM B X (binaryOp .Mult) mMul := om_I2 op_mul fun _ _ h => cdec_iff.mp h
theorem om_mod : OpM B X (binaryOp .Mod) mMod := om_I2 op_mod fun _ _ h => cdec_iff.mp h
theorem om_div : OpM B X (binaryOp .FloorDiv) mDiv := om_I2 op_fdivN fun _ _ h => cdec_iff.mp h
theorem om_pow : OpM B X (binaryOp .Pow) mPow := om_I2 op_pow fun _ _ h => cdec_iff.mp h
/-- -x -/
def mNeg (x : D) : M D := match x with
  | .int i => pure (.int (-i))
  | _ => bad
theorem qe_neg {Γ : List Slot} {a : Expr} {pos : Pos} {m : M D} (ha : QH B X a Γ m) : QE B X (.UnaryOp .USub a pos) Γ (do let x ← m; mNeg x) := fun G al fm H σ s Q hv sl f => by
  refine wE_of (pe_un un_neg wE_ok) (ha G al fm H σ s _ hv sl (Fo.bind f fun d s' v G' al' H' g ⟨hv', rp⟩ f' => ?_))
  cases d with
  | int i => exact ⟨i, rp.int, Fo.pure f' hv' (.int _)⟩
  | _ => exact False.elim f'
/-- + of numbers, texts, lists -/
theorem RepH.lstAt {G H : Hp} {al : List Addr} {fm : List (Addr × HO)} {s : Store} {v : V} {ds : List D} (hv : HV B G al fm H s) (r : RepH B al G fm v (.lst ds)) : ∃ a xs, v = .ref a ∧ RepL B al G xs ds ∧ H a = some (.lst xs) := by
  cases r with
  | l h1 r => exact ⟨_, _, rfl, r, (hv.fr _ h1).1⟩
  | rep r => cases r with
    | lst h1 r => exact ⟨_, _, rfl, r, hv.ex.at h1⟩
theorem RepH.tupAt {G H : Hp} {al : List Addr} {fm : List (Addr × HO)} {s : Store} {v : V} {ds : List D} (hv : HV B G al fm H s) (r : RepH B al G fm v (.tup ds)) : ∃ a xs, v = .ref a ∧ RepL B al G xs ds ∧ SqT B.K H a xs := by
  cases r with
  | rep r => cases r with
    | tup h1 r => exact ⟨_, _, rfl, r, hv.ex.sqT h1⟩
theorem RepL.app {G : Hp} {al : List Addr} : ∀ {xs ys : List V} {ds es : List D}, RepL B al G xs ds → RepL B al G ys es → RepL B al G (xs ++ ys) (ds ++ es)
  | _, _, _, _, .nil, r => r
  | _, _, _, _, .cons h t, r => .cons h (RepL.app t r)
theorem RepL.nil_iff {G : Hp} {al : List Addr} {xs : List V} {ds : List D} (r : RepL B al G xs ds) : xs = [] ↔ ds = [] := by
  cases r <;> simp
theorem om_add (hK : B.K = X.K) : OpM B X (binaryOp .Add) mAdd := by
  refine ⟨_, OpR.or op_add (OpR.or op_add_str (OpR.or op_cat op_catA)), fun σ G al fm H s x y dx dy Q hv rx ry f => ?_⟩
  cases dx with
  | int i => cases dy with
    | int j => exact .inl ⟨i, j, rx.int, ry.int, Fo.pure f hv (.int _)⟩
    | _ => exact False.elim f
  | str a => cases dy with
    | str b =>
      have f' : Fo B X σ fm G al (kE B fm) (fits (a.length + b.length) (pure (.str (a ++ b))) s) Q := f
      rw [fits_run] at f'
      split at f'
      · rename_i hl
        exact .inr (.inl ⟨a, b, rx.str, ry.str, by rw [sizeLine_eq]; exact hl, Fo.pure f' hv (.str _)⟩)
      · exact False.elim f'
    | _ => exact False.elim f
  | lst a => cases dy with
    | lst b =>
      have f' : Fo B X σ fm G al (kE B fm) (fits (a.length + b.length) (pure (.lst (a ++ b))) s) Q := f
      rw [fits_run] at f'
      split at f'
      · rename_i hl
        obtain ⟨p, xs, rfl, r1, h1⟩ := rx.lstAt hv
        obtain ⟨q, ys, rfl, r2, h2⟩ := ry.lstAt hv
        refine .inr (.inr (.inl ⟨p, q, xs, ys, rfl, rfl, h1, h2, by rw [r1.length, r2.length, sizeLine_eq]; exact hl, fun z nz => ?_⟩))
        have gr := Grow.new (al := al) (o := .lst (xs ++ ys)) (hv.none_g nz)
        exact f' _ _ al _ gr ⟨hv.new nz, .lst upd_same ((r1.app r2).mono gr)⟩
      · exact False.elim f'
    | _ => exact False.elim f
  | tup a => cases dy with
    | tup b =>
      have f' : Fo B X σ fm G al (kE B fm) (fits (a.length + b.length) (pure (.tup (a ++ b))) s) Q := f
      rw [fits_run] at f'
      split at f'
      · rename_i hl
        obtain ⟨p, xs, rfl, r1, h1⟩ := rx.tupAt hv
        obtain ⟨q, ys, rfl, r2, h2⟩ := ry.tupAt hv
        rw [hK] at h1 h2
        refine .inr (.inr (.inr ⟨p, q, xs, ys, rfl, rfl, h1, h2, by rw [r1.length, r2.length, sizeLine_eq]; exact hl, fun z => ?_, fun _ z => ?_, fun _ z w nw => ?_⟩))
        · rw [r1.nil_iff.mp z, List.nil_append] at f'
          cases ry with
          | rep ry => exact f' _ G al H Grow.refl ⟨hv, ry⟩
        · rw [r2.nil_iff.mp z, List.append_nil] at f'
          cases rx with
          | rep rx => exact f' _ G al H Grow.refl ⟨hv, rx⟩
        · have gr := Grow.new (al := al) (o := .tup (xs ++ ys)) (hv.none_g nw)
          exact f' _ _ al _ gr ⟨hv.new nw, .tup (.inl (.inl upd_same)) ((r1.app r2).mono gr)⟩
      · exact False.elim f'
    | _ => exact False.elim f
  | _ => exact False.elim f
end
end PM
set_option Elab.async false
set_option linter.all false
set_option maxRecDepth 100000
set_option maxHeartbeats 400000
/-! Pm10: built-ins by values. -/
namespace PM
open PySem PySem.Spec PyProof.Rows L2

section
variable {B : Bx} {X : Cx}
/-- calls that make a new list, a new dict -/
def CallL (B : Bx) (X : Cx) (f : Value) (g : List D → M (List D)) : Prop := ∃ r, CallR X f r ∧ ∀ σ G al fm H s vs ds Q, HV B G al fm H s → RepHL B al G fm vs ds → Fo B X σ fm G al (kL B fm) (g ds s) Q → r vs H Q
def CallK (B : Bx) (X : Cx) (f : Value) (g : List D → M (List (D × D))) : Prop := ∃ r, CallR X f r ∧ ∀ σ G al fm H s vs ds Q, HV B G al fm H s → RepHL B al G fm vs ds → Fo B X σ fm G al (kK B fm) (g ds s) Q → r vs H Q
variable {Γ : List Slot} {e : Expr} {es : List Expr} {pos : Pos}
theorem ql_callB {x : Str} {p : Pos} {id : String} {g : List D → M (List D)} {c : ∀ {α : Type}, (List D → M α) → M α} (hc : CallL B X (.builtin id) g) (hm : X.mg x = none) (hv : bootBuiltins x = some (.builtin id)) (ha : QB B X (e :: es) Γ c) (hg : Gl X x := by rfl) (hn : x ≠ "__name__" := by decide) (hdb : (x == ("__debug__" : Str)) = false := by decide)
    (he : starEach (e :: es) X.env = (false, eval e X.env) :: starEach es X.env := by rfl) (hpl : (backTo pos (starEach es X.env)).any (·.1) = false := by rfl) : QL B X (.Call (.Name x p) (e :: es) [] pos) Γ (c g) := fun G al fm H σ s Q hv0 sl f => by
  obtain ⟨r, hr, hq⟩ := hc
  rw [ha.n] at f
  refine wE_of (pe_callB hr hg hm hv wA_ok hn hdb he hpl) (ha.q G al fm H σ s _ hv0 sl (Fo.bind f fun ds s' vs G' al' H' g ⟨hv', rp⟩ f' => ?_))
  exact hq σ G' al' fm H' s' vs ds Q hv' rp f'
theorem ql_callTy {x : Str} {p : Pos} {T : String} {g : List D → M (List D)} {c : ∀ {α : Type}, (List D → M α) → M α} (hc : CallL B X (.type T) g) (hm : X.mg x = none) (hv : bootBuiltins x = some (.type T)) (ha : QB B X (e :: es) Γ c) (hg : Gl X x := by rfl) (hn : x ≠ "__name__" := by decide) (hdb : (x == ("__debug__" : Str)) = false := by decide)
    (he : starEach (e :: es) X.env = (false, eval e X.env) :: starEach es X.env := by rfl) (hpl : (backTo pos (starEach es X.env)).any (·.1) = false := by rfl) : QL B X (.Call (.Name x p) (e :: es) [] pos) Γ (c g) := fun G al fm H σ s Q hv0 sl f => by
  obtain ⟨r, hr, hq⟩ := hc
  rw [ha.n] at f
  refine wE_of (pe_callTy hr hg hm hv wA_ok hn hdb he hpl) (ha.q G al fm H σ s _ hv0 sl (Fo.bind f fun ds s' vs G' al' H' g ⟨hv', rp⟩ f' => ?_))
  exact hq σ G' al' fm H' s' vs ds Q hv' rp f'
theorem qk_callTy {x : Str} {p : Pos} {T : String} {g : List D → M (List (D × D))} {c : ∀ {α : Type}, (List D → M α) → M α} (hc : CallK B X (.type T) g) (hm : X.mg x = none) (hv : bootBuiltins x = some (.type T)) (ha : QB B X (e :: es) Γ c) (hg : Gl X x := by rfl) (hn : x ≠ "__name__" := by decide) (hdb : (x == ("__debug__" : Str)) = false := by decide)
    (he : starEach (e :: es) X.env = (false, eval e X.env) :: starEach es X.env := by rfl) (hpl : (backTo pos (starEach es X.env)).any (·.1) = false := by rfl) : QK B X (.Call (.Name x p) (e :: es) [] pos) Γ (c g) := fun G al fm H σ s Q hv0 sl f => by
  obtain ⟨r, hr, hq⟩ := hc
  rw [ha.n] at f
  refine wE_of (pe_callTy hr hg hm hv wA_ok hn hdb he hpl) (ha.q G al fm H σ s _ hv0 sl (Fo.bind f fun ds s' vs G' al' H' g ⟨hv', rp⟩ f' => ?_))
  exact hq σ G' al' fm H' s' vs ds Q hv' rp f'
end
/-- a function of one, of two, on lists of data -/
def ap1 {α : Type} (f : D → M α) : List D → M α
  | [a] => f a
  | _ => bad
def ap2 {α : Type} (f : D → D → M α) : List D → M α
  | [a, b] => f a b
  | _ => bad
section
variable {B : Bx} {X : Cx} {σ : L2.St} {fm : List (Addr × HO)} {G H : Hp} {al : List Addr} {s : Store}
theorem ap1_fo {α β : Type} {P : Hp → List Addr → α → β → Store → Hp → Prop} {Q : β → Hp → Prop} {f : D → M α} {vs : List V} {ds : List D} (r : RepHL B al G fm vs ds) (h : Fo B X σ fm G al P (ap1 f ds s) Q) : ∃ v d, vs = [v] ∧ RepH B al G fm v d ∧ Fo B X σ fm G al P (f d s) Q := by
  match ds, r, h with
  | [d], r, h =>
    obtain ⟨v, rfl, r1⟩ := r.one
    exact ⟨v, d, rfl, r1, h⟩
  | [], _, h => exact False.elim h
  | _ :: _ :: _, _, h => exact False.elim h
theorem ap2_fo {α β : Type} {P : Hp → List Addr → α → β → Store → Hp → Prop} {Q : β → Hp → Prop} {f : D → D → M α} {vs : List V} {ds : List D} (r : RepHL B al G fm vs ds) (h : Fo B X σ fm G al P (ap2 f ds s) Q) : ∃ v d v2 d2, vs = [v, v2] ∧ RepH B al G fm v d ∧ RepH B al G fm v2 d2 ∧ Fo B X σ fm G al P (f d d2 s) Q := by
  match ds, r, h with
  | [d, d2], r, h =>
    obtain ⟨v, v2, rfl, r1, r2⟩ := r.two
    exact ⟨v, d, v2, d2, rfl, r1, r2, h⟩
  | [], _, h => exact False.elim h
  | [_], _, h => exact False.elim h
  | _ :: _ :: _ :: _, _, h => exact False.elim h
end
/-! ### len -/
section
variable {B : Bx} {X : Cx}
theorem call_lenR : CallR X (.builtin "len") (fun xs H Q => ∃ a kvs, xs = [V.ref a] ∧ Rd H a (.dK kvs) ∧ Q (.int kvs.length) H) := by
  intro pins s σ H xs us Q I r h
  obtain ⟨a, kvs, rfl, ha, q⟩ := h
  obtain ⟨u, rfl, ru⟩ := vals1 r
  cases ru
  exact d_len I ha fun t s' I' => ⟨.int kvs.length, H, I', ⟨t, rfl⟩, q⟩
theorem cm_len (hK : B.K = X.K) : CallM B X (.builtin "len") (ap1 mLen) := by
  refine ⟨_, CallR.or call_len call_lenR, fun σ G al fm H s vs ds Q hv r f => ?_⟩
  obtain ⟨v, d, rfl, rv, f⟩ := ap1_fo r f
  unfold mLen at f
  cases q : lenOf s d with
  | none => rw [q] at f; exact False.elim f
  | some n =>
    rw [q] at f
    by_cases hz : ∃ z, d = .str z
    · obtain ⟨z, rfl⟩ := hz
      cases rv.str
      have q2 : (if z.length ≤ 16777216 then some z.length else none) = some n := q
      split at q2
      · rename_i hl
        cases q2
        exact .inl ⟨_, _, rfl, ⟨by rw [sizeLine_eq]; exact hl, rfl⟩, f _ G al H Grow.refl ⟨hv, .int _⟩⟩
      · cases q2
    · have q2 : (match seqOf s d with | some ds => some ds.length | none => (dctOf s d).map (·.length)) = some n := by
        rw [← q]
        cases d with
        | str z => exact absurd ⟨z, rfl⟩ hz
        | _ => rfl
      cases qs : seqOf s d with
      | some ds =>
        simp only [qs] at q2
        cases q2
        obtain ⟨p, xs, rfl, rl, hq⟩ := rv.seq hv qs
        rw [hK] at hq
        rw [← rl.length] at f
        rcases hq with hq | hq
        · exact .inl ⟨_, _, rfl, .inl ⟨xs, hq, rfl⟩, f _ G al H Grow.refl ⟨hv, .int _⟩⟩
        · exact .inl ⟨_, _, rfl, .inr ⟨xs, hq, rfl⟩, f _ G al H Grow.refl ⟨hv, .int _⟩⟩
      | none =>
        simp only [qs] at q2
        cases qd : dctOf s d with
        | none => rw [qd] at q2; cases q2
        | some es =>
          rw [qd] at q2
          cases q2
          obtain ⟨p, kvs, rfl, rd, h1⟩ := rv.dctR hv qd
          exact .inr ⟨p, kvs, rfl, h1, by rw [rd.length]; exact f _ G al H Grow.refl ⟨hv, .int _⟩⟩
/-! ### numbers -/
def mAbs (d : D) : M D := match d with
  | .int i => pure (.int (if i < 0 then -i else i))
  | _ => bad
theorem cm_abs : CallM B X (.builtin "abs") (ap1 mAbs) := by
  refine ⟨_, call_abs, fun σ G al fm H s vs ds Q hv r f => ?_⟩
  obtain ⟨v, d, rfl, rv, f⟩ := ap1_fo r f
  cases d with
  | int i => exact ⟨i, by rw [rv.int], Fo.pure f hv (.int _)⟩
  | _ => exact False.elim f
def mMax (c d : D) : M D := match c, d with
  | .int i, .int j => pure (.int (if j > i then j else i))
  | _, _ => bad
def mMin (c d : D) : M D := match c, d with
  | .int i, .int j => pure (.int (if j < i then j else i))
  | _, _ => bad
theorem cm_max2 (hc : X.calm = true) : CallM B X (.builtin "max") (ap2 mMax) := by
  refine ⟨_, call_max2 hc, fun σ G al fm H s vs ds Q hv r f => ?_⟩
  obtain ⟨v, d, v2, d2, rfl, rv, rv2, f⟩ := ap2_fo r f
  cases d with
  | int i => cases d2 with
    | int j => exact ⟨i, j, by rw [rv.int, rv2.int], Fo.pure f hv (.int _)⟩
    | _ => exact False.elim f
  | _ => exact False.elim f
theorem cm_min2 (hc : X.calm = true) : CallM B X (.builtin "min") (ap2 mMin) := by
  refine ⟨_, call_min2 hc, fun σ G al fm H s vs ds Q hv r f => ?_⟩
  obtain ⟨v, d, v2, d2, rfl, rv, rv2, f⟩ := ap2_fo r f
  cases d with
  | int i => cases d2 with
    | int j => exact ⟨i, j, by rw [rv.int, rv2.int], Fo.pure f hv (.int _)⟩
    | _ => exact False.elim f
  | _ => exact False.elim f
def mInt (d : D) : M D := match d with
  | .int i => pure (.int i)
  | .bl b => pure (.int (if b then 1 else 0))
  | _ => bad
theorem cm_int : CallM B X (.type "int") (ap1 mInt) := by
  refine ⟨_, call_int1, fun σ G al fm H s vs ds Q hv r f => ?_⟩
  obtain ⟨v, d, rfl, rv, f⟩ := ap1_fo r f
  cases d with
  | int i => exact .inl ⟨i, by rw [rv.int], Fo.pure f hv (.int _)⟩
  | bl i => exact .inr ⟨i, by rw [rv.bl], Fo.pure f hv (.int _)⟩
  | _ => exact False.elim f
/-- str of a number -/
def mStrI (d : D) : M D := match d with
  | .int i => guardM (decide (i.natAbs.log2 < 1920)) (pure (.str (toString i)))
  | _ => bad
theorem cm_strI : CallM B X (.type "str") (ap1 mStrI) := by
  refine ⟨_, call_str_int, fun σ G al fm H s vs ds Q hv r f => ?_⟩
  obtain ⟨v, d, rfl, rv, f⟩ := ap1_fo r f
  cases d with
  | int i =>
    have f' : Fo B X σ fm G al (kE B fm) (guardM (decide (i.natAbs.log2 < 1920)) (pure (.str (toString i))) s) Q := f
    rw [guardM_run] at f'
    split at f'
    · rename_i h
      exact ⟨i, by rw [rv.int], of_decide_eq_true h, Fo.pure f' hv (.str _)⟩
    · exact False.elim f'
  | _ => exact False.elim f
noncomputable def mDivmod (c d : D) : M D := match c, d with
  | .int i, .int j => guardM (cdec (0 < j ∧ j < 1073741824)) (pure (.tup [.int (i / j), .int (i % j)]))
  | _, _ => bad
theorem cm_divmod : CallM B X (.builtin "divmod") (ap2 mDivmod) := by
  refine ⟨_, call_divmod, fun σ G al fm H s vs ds Q hv r f => ?_⟩
  obtain ⟨v, d, v2, d2, rfl, rv, rv2, f⟩ := ap2_fo r f
  cases d with
  | int i => cases d2 with
    | int j =>
      have f' : Fo B X σ fm G al (kE B fm) (guardM (cdec (0 < j ∧ j < 1073741824)) (pure (.tup [.int (i / j), .int (i % j)])) s) Q := f
      rw [guardM_run] at f'
      split at f'
      · rename_i h
        replace h := cdec_iff.mp h
        refine ⟨i, j, by rw [rv.int, rv2.int], h, fun p np => ?_⟩
        have gr := Grow.new (al := al) (o := .tup [.int (i / j), .int (i % j)]) (hv.none_g np)
        exact f' _ _ al _ gr ⟨hv.new np, .tup (.inl (.inl upd_same)) (.cons (.int _) (.cons (.int _) .nil))⟩
      · exact False.elim f'
    | _ => exact False.elim f
  | _ => exact False.elim f
/-! ### all, any -/
theorem RepL.bls {G : Hp} {al : List Addr} : ∀ {bs : List Bool} {xs : List V}, RepL B al G xs (bs.map D.bl) → xs = bs.map V.bl
  | [], _, .nil => rfl
  | b :: r, _, .cons h t => by
    cases h
    rw [RepL.bls t]; rfl
theorem RepL.ints {G : Hp} {al : List Addr} : ∀ {bs : List Int} {xs : List V}, RepL B al G xs (bs.map D.int) → xs = bs.map V.int
  | [], _, .nil => rfl
  | b :: r, _, .cons h t => by
    cases h
    rw [RepL.ints t]; rfl
theorem RepL.strs {G : Hp} {al : List Addr} : ∀ {bs : List Str} {xs : List V}, RepL B al G xs (bs.map D.str) → xs = bs.map V.str
  | [], _, .nil => rfl
  | b :: r, _, .cons h t => by
    cases h
    rw [RepL.strs t]; rfl
theorem repL_strs {G : Hp} {al : List Addr} : ∀ ns : List Str, RepL B al G (ns.map V.str) (ns.map D.str)
  | [] => .nil
  | n :: r => .cons (.str n) (repL_strs r)
def mAll (d : D) : M D := match d with
  | .lst ds => (match asBls ds with
    | some bs => pure (.bl (bs.all id))
    | none => bad)
  | _ => bad
def mAny (d : D) : M D := match d with
  | .lst ds => (match asBls ds with
    | some bs => pure (.bl (bs.any id))
    | none => bad)
  | _ => bad
theorem cm_all (hc : X.calm = true) : CallM B X (.builtin "all") (ap1 mAll) := by
  refine ⟨_, cr_all hc, fun σ G al fm H s vs ds Q hv r f => ?_⟩
  obtain ⟨v, d, rfl, rv, f⟩ := ap1_fo r f
  cases d with
  | lst ds =>
    unfold mAll at f
    cases q : asBls ds with
    | none => simp only [q] at f; exact False.elim f
    | some bs =>
      simp only [q] at f
      obtain ⟨p, xs, rfl, rl, h1⟩ := rv.lstAt hv
      rw [asBls_eq q] at rl
      exact ⟨p, bs, rfl, .inl (.inl (by rw [← rl.bls]; exact h1)), Fo.pure f hv (.bl _)⟩
  | _ => exact False.elim f
theorem cm_any (hc : X.calm = true) : CallM B X (.builtin "any") (ap1 mAny) := by
  refine ⟨_, cr_any hc, fun σ G al fm H s vs ds Q hv r f => ?_⟩
  obtain ⟨v, d, rfl, rv, f⟩ := ap1_fo r f
  cases d with
  | lst ds =>
    unfold mAny at f
    cases q : asBls ds with
    | none => simp only [q] at f; exact False.elim f
    | some bs =>
      simp only [q] at f
      obtain ⟨p, xs, rfl, rl, h1⟩ := rv.lstAt hv
      rw [asBls_eq q] at rl
      exact ⟨p, bs, rfl, .inl (.inl (by rw [← rl.bls]; exact h1)), Fo.pure f hv (.bl _)⟩
  | _ => exact False.elim f
/-! ### list(..), dict(..), sorted(..) -/
/-- values that are a dict's keys, one by one -/
theorem keys_vals {kvs : List (Key × V)} {vs : List (Key × Value)} {us : List Value} (rk : KV kvs vs) (hl : us.length = vs.length) (h : ∀ (n : Nat) (v : Value), us[n]? = some v → ∃ k y, vs[n]? = some (k, y) ∧ keyIs k v = true) : Vals (kvs.map fun kv => kV kv.1) us := by
  have e : (kvs.map fun kv => kV kv.1) = vs.map fun kv => kV kv.1 := by
    have z := congrArg (List.map kV) (KV.keys rk)
    rwa [List.map_map, List.map_map] at z
  rw [e]
  refine vals_of_at (by rw [List.length_map, hl]) fun n x u hx hu => ?_
  obtain ⟨k, y, q, is_⟩ := h n u hu
  rw [List.getElem?_map, q] at hx
  exact Option.some.inj hx ▸ keyIs_rel is_
theorem call_listD (hc : X.calm = true) : CallR X (.type "list") (fun xs H Q => ∃ p kvs, xs = [.ref p] ∧ Rd H p (.dK kvs) ∧ ∀ q, H q = none → Q (.ref q) (upd H q (.lst (kvs.map fun kv => kV kv.1)))) := by
  intro pins s σ H xs us Q I r h
  obtain ⟨p, kvs, e, hk, q⟩ := h
  subst e
  obtain ⟨u, eu, rx⟩ := vals1 r
  subst eu
  obtain rfl : u = Value.ref p := rx
  obtain ⟨z, lo, vs, rk, hd⟩ := hk.ok I.hok
  obtain ⟨ep, hat⟩ := hd.dictAt
  have hl : kvs.length = vs.length := Paired.length rk
  refine PySem.W.kdl_call (PySem.W.kdl_dict (knd := mixKind X.prog X.w) (kvs := vs) (ep := ep) lo) (I.ok.hd hc) hat (by rw [← hl]; exact z) fun h' tk acc' c' hkeep hS hacc => ?_
  have hvals : Vals (kvs.map fun kv => kV kv.1) acc'.toList := keys_vals rk (by simpa using hacc.1) fun n v q => hacc.2 n v (by rw [← Array.getElem?_toList]; exact q)
  have ob : ObjOk X.prog X.w (upd H s.heap.objs.size (.lst (kvs.map fun kv => kV kv.1))) h' s.heap.objs.size (.lst (kvs.map fun kv => kV kv.1)) := ⟨by rw [List.length_map]; exact z, acc'.toList, c', hvals, by rw [Array.toArray_toList]; exact hS⟩
  exact ⟨.ref s.heap.objs.size, _, I.laid hkeep (Nat.le_refl _) ob, rfl, q _ (I.hok.fresh (Nat.le_refl _))⟩
theorem repL_keys {G : Hp} {al : List Addr} : ∀ {kvs : List (Key × V)} {es : List (D × D)}, RepD B al G kvs es → RepL B al G (kvs.map fun kv => kV kv.1) (es.map (·.1))
  | _, _, .nil => .nil
  | _, _, .cons (k := k) h r => .cons (rep_key k) (repL_keys r)
/-- a list (no tuple) that is to be read -/
theorem RepH.seqL {G H : Hp} {al : List Addr} {fm : List (Addr × HO)} {s : Store} {v : V} {d : D} {ds : List D} (hv : HV B G al fm H s) (r : RepH B al G fm v d) (ht : ∀ es, d ≠ .tup es) (h : seqOf s d = some ds) : ∃ a xs, v = .ref a ∧ RepL B al G xs ds ∧ SqL B.K H a xs := by
  cases r with
  | l h1 r => cases h; exact ⟨_, _, rfl, r, .inl (.inl (hv.fr _ h1).1)⟩
  | k h1 r => cases h
  | rep r => cases r with
    | lst h1 r => cases h; exact ⟨_, _, rfl, r, .inl (.inl (hv.ex.at h1))⟩
    | tup h1 r => exact absurd rfl (ht _)
    | scr h1 => cases h; exact ⟨_, _, rfl, repL_ints _, hv.ex.sqL h1⟩
    | @cel n a h1 =>
      have h' : (match s[n]? with | some (.lst ds) => some ds | _ => none) = some ds := h
      cases q : s[n]? with
      | none => rw [q] at h'; cases h'
      | some mc =>
        rw [q] at h'
        cases mc with
        | lst es =>
          cases h'
          obtain ⟨_, o, e1, e2⟩ := (hv.ce n a _ h1 q).live (fun z => nomatch z)
          cases e2 with
          | lst r => exact ⟨a, _, rfl, r, .inl (.inl e1)⟩
        | _ => cases h'
    | _ => cases h
/-- list(x) -/
def itemsOf (s : Store) (d : D) : Option (List D) := match seqOf s d with
  | some ds => some ds
  | none => (dctOf s d).map fun es => es.map (·.1)
def mList (d : D) : M (List D) := fun s => match itemsOf s d with
  | some ds => .ok ds s
  | none => .bad
theorem cl_list (hK : B.K = X.K) (hc : X.calm = true) : CallL B X (.type "list") (ap1 mList) := by
  refine ⟨_, CallR.or call_list_of (call_listD hc), fun σ G al fm H s vs ds Q hv r f => ?_⟩
  obtain ⟨v, d, rfl, rv, f⟩ := ap1_fo r f
  unfold mList itemsOf at f
  cases qs : seqOf s d with
  | some ds =>
    simp only [qs] at f
    obtain ⟨p, xs, rfl, rl, hq⟩ := rv.seq hv qs
    rw [hK] at hq
    exact .inl ⟨p, xs, rfl, hq, fun q nq => f _ G al _ Grow.refl ⟨q, xs, rfl, hv.hold nq, rl⟩⟩
  | none =>
    simp only [qs] at f
    cases qd : dctOf s d with
    | none => simp only [qd] at f; exact False.elim f
    | some es =>
      simp only [qd] at f
      obtain ⟨p, kvs, rfl, rd, h1⟩ := rv.dctR hv qd
      exact .inr ⟨p, kvs, rfl, h1, fun q nq => f _ G al _ Grow.refl ⟨q, _, rfl, hv.hold nq, repL_keys rd⟩⟩
/-- tuple(x) -/
def mTuple (d : D) : M D := fun s => match seqOf s d with
  | some ds => .ok (.tup ds) s
  | none => .bad
theorem cm_tuple (hK : B.K = X.K) : CallM B X (.type "tuple") (ap1 mTuple) := by
  refine ⟨_, call_tuple_of, fun σ G al fm H s vs ds Q hv r f => ?_⟩
  obtain ⟨v, d, rfl, rv, f⟩ := ap1_fo r f
  unfold mTuple at f
  cases qs : seqOf s d with
  | none => simp only [qs] at f; exact False.elim f
  | some ds =>
    simp only [qs] at f
    have new : ∀ (p q : Addr) (xs : List V), RepL B al G xs ds → H q = none → Q (.ref q) (upd H q (.tup xs)) := fun p q xs rl nq => by
      have gr := Grow.new (al := al) (o := .tup xs) (hv.none_g nq)
      exact f _ _ al _ gr ⟨hv.new nq, .tup (.inl (.inl upd_same)) (rl.mono gr)⟩
    by_cases ht : ∃ es, d = .tup es
    · obtain ⟨es, rfl⟩ := ht
      cases qs
      obtain ⟨p, xs, rfl, rl, hq⟩ := rv.tupAt hv
      rw [hK] at hq
      cases rv with
      | rep rv => exact ⟨p, xs, rfl, .inr ⟨hq, f _ G al H Grow.refl ⟨hv, rv⟩⟩⟩
    · obtain ⟨p, xs, rfl, rl, hq⟩ := rv.seqL hv (fun es e => ht ⟨es, e⟩) qs
      rw [hK] at hq
      exact ⟨p, xs, rfl, .inl ⟨hq, fun q nq => new p q xs rl nq⟩⟩
/-- dict(d), a copy; dict(pairs) -/
def asPairs : List D → Option (List (D × D))
  | [] => some []
  | .tup [k, d] :: r => if isKey k = true then (asPairs r).map ((k, d) :: ·) else none
  | _ :: _ => none
def pairsOf (s : Store) (d : D) : Option (List (D × D)) := match d with
  | .lst ds => (asPairs ds).map fun es => dMerge [] es
  | d => dctOf s d
def mDict (d : D) : M (List (D × D)) := fun s => match pairsOf s d with
  | some es => .ok es s
  | none => .bad
theorem RepD.put {G : Hp} {al : List Addr} {kvs : List (Key × V)} {es : List (D × D)} (r : RepD B al G kvs es) (k : Key) {v : V} {d : D} (h : Rep B al G v d) : RepD B al G (putK kvs k v) (dPut es (keyD k) d) := by
  have hany : ∀ {kvs : List (Key × V)} {es : List (D × D)}, RepD B al G kvs es → dHas es (keyD k) = kvs.any fun kv => decide (kv.1 = k) := by
    intro kvs es r
    induction es generalizing kvs with
    | nil => cases r; rfl
    | cons e es ih =>
      cases r with
      | @cons k0 v0 d0 kvs' _ h0 r0 =>
        unfold dHas
        rw [List.any_cons, List.any_cons, keyEq_keyD]
        have := ih r0
        unfold dHas at this
        rw [this]
  have hmap : ∀ {kvs : List (Key × V)} {es : List (D × D)}, RepD B al G kvs es → RepD B al G (kvs.map fun kv => if kv.1 = k then (kv.1, v) else kv) (es.map fun kv => if keyEq kv.1 (keyD k) = true then (kv.1, d) else kv) := by
    intro kvs es r
    induction es generalizing kvs with
    | nil => cases r; exact .nil
    | cons e es ih =>
      cases r with
      | @cons k0 v0 d0 kvs' _ h0 r0 =>
        rw [List.map_cons, List.map_cons]
        show RepD B al G ((if k0 = k then (k0, v) else (k0, v0)) :: _) ((if keyEq (keyD k0) (keyD k) = true then (keyD k0, d) else (keyD k0, d0)) :: _)
        rw [keyEq_keyD]
        by_cases e : k0 = k
        · rw [if_pos e, if_pos (decide_eq_true e)]
          exact .cons h (ih r0)
        · rw [if_neg e, if_neg (by rw [decide_eq_true_iff]; exact e)]
          exact .cons h0 (ih r0)
  have happ : ∀ {kvs : List (Key × V)} {es : List (D × D)}, RepD B al G kvs es → RepD B al G (kvs ++ [(k, v)]) (es ++ [(keyD k, d)]) := by
    intro kvs es r
    induction es generalizing kvs with
    | nil => cases r; exact .cons h .nil
    | cons e es ih =>
      cases r with
      | @cons k0 v0 d0 kvs' _ h0 r0 => exact .cons h0 (ih r0)
  unfold putK dPut
  rw [hany r]
  split
  · exact hmap r
  · exact happ r
theorem RepD.merge {G : Hp} {al : List Addr} {more : List (Key × V)} {me : List (D × D)} (h : RepD B al G more me) : ∀ {kvs : List (Key × V)} {es : List (D × D)}, RepD B al G kvs es → RepD B al G (mergeK kvs more) (dMerge es me) := by
  induction me generalizing more with
  | nil => cases h; exact fun r => r
  | cons e me ih =>
    cases h with
    | @cons k0 v0 d0 kvs' _ h0 r0 => exact fun r => ih r0 (r.put k0 h0)
theorem asPairs_cons {d : D} {r : List D} {es : List (D × D)} (h : asPairs (d :: r) = some es) : ∃ k x es', d = .tup [k, x] ∧ isKey k = true ∧ asPairs r = some es' ∧ es = (k, x) :: es' := by
  unfold asPairs at h
  split at h
  · rename_i e
    cases e
  · rename_i k x r' e
    cases e
    split at h
    · rename_i hk
      obtain ⟨es', he, rfl⟩ := Option.map_eq_some_iff.mp h
      exact ⟨k, x, es', rfl, hk, he, rfl⟩
    · cases h
  · cases h
theorem RepL.pairs (hK : B.K = X.K) {G H : Hp} {al : List Addr} {fm : List (Addr × HO)} {s : Store} (hv : HV B G al fm H s) {ds : List D} : ∀ {xs : List V} {es : List (D × D)}, RepL B al G xs ds → asPairs ds = some es → ∃ (ps : List Addr) (kvs : List (Key × V)), xs = ps.map V.ref ∧ Paired (fun p kv => SqT X.K H p [kV kv.1, kv.2]) ps kvs ∧ RepD B al G kvs es := by
  induction ds with
  | nil =>
    intro xs es h q
    cases h
    cases q
    exact ⟨[], [], rfl, .nil, .nil⟩
  | cons d r ih =>
    intro xs es h q
    obtain ⟨k, x, es', rfl, hk, he, rfl⟩ := asPairs_cons q
    cases h with
    | @cons v _ vs _ h t =>
      obtain ⟨ps, kvs, rfl, pr, rr⟩ := ih t he
      cases h with
      | @tup a ys _ h1 r1 =>
        cases r1 with
        | cons rk r2 => cases r2 with
          | cons rd r3 =>
            cases r3
            obtain ⟨kk, rfl, rfl⟩ := rk.key hk
            refine ⟨a :: ps, (kk, _) :: kvs, rfl, .cons ?_ pr, .cons rd rr⟩
            rw [← hK]
            exact hv.ex.sqT h1
theorem ck_dict (hK : B.K = X.K) (hc : X.calm = true) : CallK B X (.type "dict") (ap1 mDict) := by
  refine ⟨_, CallR.or call_dictD (call_dictP hc), fun σ G al fm H s vs ds Q hv r f => ?_⟩
  obtain ⟨v, d, rfl, rv, f⟩ := ap1_fo r f
  unfold mDict at f
  by_cases hl : ∃ es, d = .lst es
  · obtain ⟨es, rfl⟩ := hl
    unfold pairsOf at f
    cases q : asPairs es with
    | none => simp only [q] at f; exact False.elim f
    | some ps =>
      simp only [q] at f
      obtain ⟨p, xs, rfl, rl, h1⟩ := rv.lstAt hv
      obtain ⟨qs, kvs, rfl, pr, rr⟩ := rl.pairs hK hv q
      exact .inr ⟨p, qs, kvs, rfl, .inl (.inl h1), pr, fun z nz => f _ G al _ Grow.refl ⟨z, _, rfl, hv.hold nz, rr.merge .nil⟩⟩
  · have e : pairsOf s d = dctOf s d := by
      cases d with
      | lst es => exact absurd ⟨es, rfl⟩ hl
      | _ => rfl
    rw [e] at f
    cases qd : dctOf s d with
    | none => simp only [qd] at f; exact False.elim f
    | some es =>
      simp only [qd] at f
      obtain ⟨p, kvs, rfl, rd, h1⟩ := rv.dctR hv qd
      exact .inl ⟨p, kvs, rfl, h1, fun z nz => f _ G al _ Grow.refl ⟨z, _, rfl, hv.hold nz, rd⟩⟩
/-- sorted(x): numbers, texts -/
def sortD (ds : List D) : Option (List D) := match asInts ds with
  | some ns => some ((isort leI ns).map D.int)
  | none => (asStrs ds).bind fun ss => if ss.length < 64 then some ((isort leS ss).map D.str) else none
theorem sortedS_pw : ∀ {ys : List Str}, sortedS ys = true → ys.Pairwise (fun a b => leS a b = true)
  | [], _ => List.Pairwise.nil
  | x :: r, h => by
    have go : ∀ (r : List Str) (p : Str), risingS p r = true → (p :: r).Pairwise (fun a b => leS a b = true) := by
      intro r
      induction r with
      | nil => intro p _; exact List.pairwise_singleton _ _
      | cons y r ih =>
        intro p hp
        unfold risingS at hp
        rw [Bool.and_eq_true] at hp
        have h1 : leS p y = true := by
          unfold leS
          rw [gt_meets]
          exact hp.1
        have h2 := ih y hp.2
        refine List.pairwise_cons.mpr ⟨fun z hz => ?_, h2⟩
        rcases List.mem_cons.mp hz with rfl | hz
        · exact h1
        · exact leS_tr _ _ _ h1 ((List.pairwise_cons.mp h2).1 z hz)
    exact go r x h
def sortIn (s : Store) (d : D) : Option (List D) := match d with
  | .tup _ => none
  | d => match seqOf s d with
    | some ds => sortD ds
    | none => (dctOf s d).bind fun es => if es.length < 64 then sortD (es.map (·.1)) else none
def mSorted (d : D) : M (List D) := fun s => match sortIn s d with
  | some ds => .ok ds s
  | none => .bad
theorem RepD.keysI {G : Hp} {al : List Addr} : ∀ {kvs : List (Key × V)} {es : List (D × D)} {ns : List Int}, RepD B al G kvs es → es.map (·.1) = ns.map D.int → kvs.map (·.1) = ns.map Sum.inl
  | _, _, [], .nil, _ => rfl
  | _, _, _ :: _, .nil, h => by cases h
  | _, _, [], .cons _ _, h => by cases h
  | _, _, n :: ns, .cons (k := k) h r, e => by
    rw [List.map_cons, List.map_cons] at e
    have e1 := (List.cons.inj e).1
    rw [List.map_cons, List.map_cons, RepD.keysI r (List.cons.inj e).2]
    cases k with
    | inl i => cases e1; rfl
    | inr x => cases e1
theorem RepD.keysS {G : Hp} {al : List Addr} : ∀ {kvs : List (Key × V)} {es : List (D × D)} {ns : List Str}, RepD B al G kvs es → es.map (·.1) = ns.map D.str → kvs.map (·.1) = ns.map Sum.inr
  | _, _, [], .nil, _ => rfl
  | _, _, _ :: _, .nil, h => by cases h
  | _, _, [], .cons _ _, h => by cases h
  | _, _, n :: ns, .cons (k := k) h r, e => by
    rw [List.map_cons, List.map_cons] at e
    have e1 := (List.cons.inj e).1
    rw [List.map_cons, List.map_cons, RepD.keysS r (List.cons.inj e).2]
    cases k with
    | inl i => cases e1
    | inr x => cases e1; rfl
theorem sortD_cases {ds es : List D} (h : sortD ds = some es) : (∃ ns : List Int, ds = ns.map D.int ∧ es = (isort leI ns).map D.int) ∨ ∃ ns : List Str, ds = ns.map D.str ∧ ns.length < 64 ∧ es = (isort leS ns).map D.str := by
  unfold sortD at h
  cases q : asInts ds with
  | some ns =>
    simp only [q] at h
    cases h
    exact .inl ⟨ns, asInts_eq q, rfl⟩
  | none =>
    simp only [q] at h
    cases q2 : asStrs ds with
    | none => rw [q2] at h; cases h
    | some ss =>
      rw [q2] at h
      have h' : (if ss.length < 64 then some ((isort leS ss).map D.str) else none) = some es := h
      split at h'
      · rename_i hl
        cases h'
        exact .inr ⟨ss, asStrs_eq q2, hl, rfl⟩
      · cases h'
theorem pw_leI {ns : List Int} (h : ns.Pairwise (· ≤ ·)) : ns.Pairwise (fun a b => leI a b = true) := h.imp fun {a b} z => by
  unfold leI
  exact decide_eq_true z
theorem cl_sorted (hK : B.K = X.K) (hc : X.calm = true) : CallL B X (.builtin "sorted") (ap1 mSorted) := by
  refine ⟨_, CallR.or (CallR.or cr_sortedI cr_sortedS) (CallR.or (call_sortedDI hc) (call_sortedD hc)), fun σ G al fm H s vs ds Q hv r f => ?_⟩
  obtain ⟨v, d, rfl, rv, f⟩ := ap1_fo r f
  unfold mSorted at f
  cases qq : sortIn s d with
  | none => rw [qq] at f; exact False.elim f
  | some es =>
    rw [qq] at f
    have ht : ∀ es, d ≠ .tup es := fun es' e => by subst e; cases qq
    have q1 : (match seqOf s d with | some ds => sortD ds | none => (dctOf s d).bind fun es => if es.length < 64 then sortD (es.map (·.1)) else none) = some es := by
      rw [← qq]
      cases d with
      | tup z => exact absurd rfl (ht z)
      | _ => rfl
    have newI : ∀ (ns ns' : List Int) (p : Addr), ns'.Perm ns → ns'.Pairwise (· ≤ ·) → H p = none → es = (isort leI ns).map D.int → Q (.ref p) (upd H p (.lst (ns'.map V.int))) := fun ns ns' p h1 h2 h3 e => by
      subst e
      have := isort_unique leI_tot leI_tr leI_as h1 (pw_leI h2)
      subst this
      exact f _ G al _ Grow.refl ⟨p, _, rfl, hv.hold h3, repL_ints _⟩
    have newS : ∀ (ns ns' : List Str) (p : Addr), ns'.Perm ns → sortedS ns' = true → H p = none → es = (isort leS ns).map D.str → Q (.ref p) (upd H p (.lst (ns'.map V.str))) := fun ns ns' p h1 h2 h3 e => by
      subst e
      have := isort_unique leS_tot leS_tr leS_as h1 (sortedS_pw h2)
      subst this
      exact f _ G al _ Grow.refl ⟨p, _, rfl, hv.hold h3, repL_strs _⟩
    cases qs : seqOf s d with
    | some ds2 =>
      simp only [qs] at q1
      obtain ⟨p, xs, rfl, rl, hq⟩ := rv.seqL hv ht qs
      rw [hK] at hq
      rcases sortD_cases q1 with ⟨ns, rfl, e⟩ | ⟨ns, rfl, hl, e⟩
      · exact .inl (.inl ⟨p, ns, rfl, by rw [← rl.ints]; exact hq, fun ns' q h1 h2 h3 => newI ns ns' q h1 h2 h3 e⟩)
      · exact .inl (.inr ⟨p, ns, rfl, by rw [← rl.strs]; exact hq, hl, fun ns' q h1 h2 h3 => newS ns ns' q h1 h2 h3 e⟩)
    | none =>
      simp only [qs] at q1
      obtain ⟨ds3, qd, e0⟩ := Option.bind_eq_some_iff.mp q1
      obtain ⟨p, kvs, rfl, rd, h1⟩ := rv.dctR hv qd
      split at e0
      · rename_i hl
        rcases sortD_cases e0 with ⟨ns, e1, e⟩ | ⟨ns, e1, hl, e⟩
        · have hn : ns.length < 64 := by
            have := congrArg List.length e1
            rw [List.length_map, List.length_map] at this
            omega
          exact .inr (.inl ⟨p, kvs, ns, rfl, h1, rd.keysI e1, hn, fun ns' q h1 h2 h3 => newI ns ns' q h1 h2 h3 e⟩)
        · exact .inr (.inr ⟨p, kvs, ns, rfl, h1, rd.keysS e1, hl, fun ns' q h1 h2 h3 => newS ns ns' q h1 h2 h3 e⟩)
      · cases e0
end
end PM
set_option Elab.async false
set_option linter.all false
set_option maxRecDepth 100000
set_option maxHeartbeats 1000000
/-! Pm11: equality of data of any depth, dicts included. -/
namespace PMeq
open PySem PySem.SeqAt
open AutoSeq1 (wpAny_loadPart')
open MeetsSeq MeetsSeq2 MeetsSeq3 SeqRoads2
section
variable {prog : Program} {w : World}
/-- the pairs of two tuples, one behind the other, for a fixed model -/
theorem zipAt {α : Type} [Inhabited α] {xs ys : Array α} {i : Nat} {x y : α} {rest : List (α × α)} (hz : (x, y) :: rest = (xs.toList.zip ys.toList).drop i) : ∃ (h1 : i < xs.size) (h2 : i < ys.size), x = xs[i] ∧ y = ys[i] ∧ rest = (xs.toList.zip ys.toList).drop (i + 1) := by
  have hlt : i < (xs.toList.zip ys.toList).length := by
    rcases Nat.lt_or_ge i (xs.toList.zip ys.toList).length with h' | h'
    · exact h'
    · rw [List.drop_of_length_le h'] at hz
      cases hz
  have hm : i < xs.size ∧ i < ys.size := by
    rw [List.length_zip, Array.length_toList, Array.length_toList] at hlt
    omega
  rw [List.drop_eq_getElem_cons hlt] at hz
  injection hz with e1 e2
  refine ⟨hm.1, hm.2, ?_, ?_, e2⟩
  · have := congrArg Prod.fst e1
    simpa using this
  · have := congrArg Prod.snd e1
    simpa using this
theorem zipEnd {α : Type} {xs ys : Array α} {i : Nat} (hz : ([] : List (α × α)) = (xs.toList.zip ys.toList).drop i) : min xs.size ys.size ≤ i := by
  have := congrArg List.length hz
  simp at this
  omega
theorem range_drop {n i : Nat} (h : i < n) : (List.range n).drop i = i :: (List.range n).drop (i + 1) := by
  rw [List.drop_eq_getElem_cons (by rw [List.length_range]; exact h)]
  simp
theorem tup_eqIn (l b : Addr) (xs ys : Array Value) (n n2 : Nat) (dd dd2 : Option Addr) (sl sl2 : Array (Option Value)) (e : Nat → Bool) :
    MeetsIn prog w (Builtin.«tuple.__eq__» ⟨[.ref l, .ref b], []⟩) (fun A R s => s.heap.get? l = some ⟨.type "tuple", dd, .seq xs n, sl⟩ ∧ s.heap.get? b = some ⟨.type "tuple", dd2, .seq ys n2, sl2⟩ ∧
      (∀ j (h1 : j < xs.size) (h2 : j < ys.size), EqP prog w A.in1 s xs[j] ys[j] (e j)) ∧ R (.ok (.ret (.bool ((List.range (min xs.size ys.size)).all e && xs.size == ys.size)))) s) :=
  .of_wp fun A R s ⟨hl, hb, he, h⟩ => by
    obtain ⟨hp, g, d, tk, os⟩ := s
    have f2 := AutoSeq1.sub_tuple_tuple
    wp_walk using wpAny_loadPart' hl, wpAny_loadPart' hb, wpAny_forIn_list _ (fun rest c s' => c.1 = none ∧ s' = ⟨hp, g, d, tk, os⟩ ∧ ∃ i, rest = (xs.toList.zip ys.toList).drop i ∧
      R (.ok (.ret (.bool (((List.range (min xs.size ys.size)).drop i).all e && xs.size == ys.size)))) ⟨hp, g, d, tk, os⟩) _
    case turn =>
      rintro ⟨y, x⟩ rest c s' ⟨-, rfl, i, hz, hR⟩
      obtain ⟨h1, h2, rfl, rfl, hr⟩ := zipAt hz
      rw [range_drop (Nat.lt_min.mpr ⟨h1, h2⟩), List.all_cons] at hR
      refine wpAny_bind (he i h1 h2 _ _ ?_)
      cases q : e i with
      | true =>
        rw [q] at hR
        wp_walk
        exact ⟨rfl, rfl, i + 1, hr, by simpa using hR⟩
      | false =>
        rw [q] at hR
        wp_walk
        exact ⟨_, rfl, by simpa using hR⟩
    case fin =>
      rintro ⟨c1, c2⟩ s' ⟨hc, rfl, i, hz, hR⟩
      simp only at hc
      subst hc
      rw [List.drop_of_length_le (by rw [List.length_range]; exact zipEnd hz)] at hR
      wp_walk
      exact ⟨_, rfl, by simpa [Builtin.Tuple.tupleCompareSizes] using hR⟩
    case h => exact ⟨rfl, rfl, 0, rfl, by simpa using h⟩
theorem tup_neIn (l b : Addr) (xs ys : Array Value) (n n2 : Nat) (dd dd2 : Option Addr) (sl sl2 : Array (Option Value)) (e : Nat → Bool) :
    MeetsIn prog w (Builtin.«tuple.__ne__» ⟨[.ref l, .ref b], []⟩) (fun A R s => s.heap.get? l = some ⟨.type "tuple", dd, .seq xs n, sl⟩ ∧ s.heap.get? b = some ⟨.type "tuple", dd2, .seq ys n2, sl2⟩ ∧
      (∀ j (h1 : j < xs.size) (h2 : j < ys.size), EqP prog w A.in1 s xs[j] ys[j] (e j)) ∧ R (.ok (.ret (.bool (!((List.range (min xs.size ys.size)).all e && xs.size == ys.size))))) s) :=
  .of_wp fun A R s ⟨hl, hb, he, h⟩ => by
    obtain ⟨hp, g, d, tk, os⟩ := s
    have f2 := AutoSeq1.sub_tuple_tuple
    wp_walk using wpAny_loadPart' hl, wpAny_loadPart' hb, wpAny_forIn_list _ (fun rest c s' => c.1 = none ∧ s' = ⟨hp, g, d, tk, os⟩ ∧ ∃ i, rest = (xs.toList.zip ys.toList).drop i ∧
      R (.ok (.ret (.bool (!(((List.range (min xs.size ys.size)).drop i).all e && xs.size == ys.size))))) ⟨hp, g, d, tk, os⟩) _
    case turn =>
      rintro ⟨y, x⟩ rest c s' ⟨-, rfl, i, hz, hR⟩
      obtain ⟨h1, h2, rfl, rfl, hr⟩ := zipAt hz
      rw [range_drop (Nat.lt_min.mpr ⟨h1, h2⟩), List.all_cons] at hR
      refine wpAny_bind (he i h1 h2 _ _ ?_)
      cases q : e i with
      | true =>
        rw [q] at hR
        wp_walk
        exact ⟨rfl, rfl, i + 1, hr, by simpa using hR⟩
      | false =>
        rw [q] at hR
        wp_walk
        exact ⟨_, rfl, by simpa using hR⟩
    case fin =>
      rintro ⟨c1, c2⟩ s' ⟨hc, rfl, i, hz, hR⟩
      simp only at hc
      subst hc
      rw [List.drop_of_length_le (by rw [List.length_range]; exact zipEnd hz)] at hR
      wp_walk
      exact ⟨_, rfl, by simpa [Builtin.Tuple.tupleCompareSizes, bne] using hR⟩
    case h => exact ⟨rfl, rfl, 0, rfl, by simpa using h⟩
theorem lst_neLoop (l b : Addr) (xs ys : Array Value) (n n2 : Nat) (dd dd2 : Option Addr) (sl sl2 : Array (Option Value)) (hsz : xs.size = ys.size) (e : Nat → Bool) (k : Nat) :
    ∀ i : Nat, xs.size - i = k → MeetsIn prog w (Builtin.«list.__eq__.loop» ⟨[.ref l, .ref b, rawInt i, rawInt 3], []⟩) (fun A R s => s.heap.get? l = some ⟨.type "list", dd, .seq xs n, sl⟩ ∧ s.heap.get? b = some ⟨.type "list", dd2, .seq ys n2, sl2⟩ ∧
      (∀ j (h1 : j < xs.size) (h2 : j < ys.size), EqP prog w A.in1 s xs[j] ys[j] (e j)) ∧ R (.ok (.ret (.bool (!((List.range xs.size).drop i).all e)))) s) := by
  induction k with
  | zero =>
    rintro i hk A R s ⟨hl, hb, he, h⟩
    obtain ⟨hp, g, d, tk, os⟩ := s
    wp_walk using wpAny_loadPart' hl, wpAny_loadPart' hb
    have n1 : xs[((i : Nat) : Int).toNat]? = none := by simp; omega
    have n2 : ys[((i : Nat) : Int).toNat]? = none := by simp; omega
    rw [List.drop_of_length_le (by rw [List.length_range]; omega)] at h
    rw [n1, n2]
    wp_walk using wpAny_loadPart' hl, wpAny_loadPart' hb
    show R (.ok (.ret (.bool (xs.size != ys.size)))) _
    rw [hsz]
    simpa using h
  | succ k ih =>
    rintro i hk A R s ⟨hl, hb, he, h⟩
    obtain ⟨hp, g, d, tk, os⟩ := s
    wp_walk using wpAny_loadPart' hl, wpAny_loadPart' hb
    have h1 : i < xs.size := by omega
    have h2 : i < ys.size := by omega
    have a1 : xs[((i : Nat) : Int).toNat]? = some xs[i] := by simp [h1]
    have a2 : ys[((i : Nat) : Int).toNat]? = some ys[i] := by simp [h2]
    have hc : ((i : Int) + 1) = ((i + 1 : Nat) : Int) := by push_cast; rfl
    rw [range_drop h1, List.all_cons] at h
    rw [a1, a2]
    refine wpAny_bind (he i h1 h2 _ _ ?_)
    cases q : e i with
    | true =>
      rw [q] at h
      wp_walk
      rw [hc]
      refine ⟨plainId_quiet plain_eq_loop _, codeAny_builtin entry_eq_loop ?_⟩
      rw [Around.under_plainId plain_eq_loop _]
      exact ih (i + 1) (by omega) A R _ ⟨hl, hb, he, by simpa using h⟩
    | false =>
      rw [q] at h
      wp_walk using wpAny_loadPart' hl, wpAny_loadPart' hb
      rw [a1, a2]
      wp_walk
      simpa using h
theorem lst_neIn (l b : Addr) (xs ys : Array Value) (n n2 : Nat) (dd dd2 : Option Addr) (sl sl2 : Array (Option Value)) (hsz : xs.size = ys.size) (e : Nat → Bool) :
    MeetsIn prog w (Builtin.«list.__ne__» ⟨[.ref l, .ref b], []⟩) (fun A R s => s.heap.get? l = some ⟨.type "list", dd, .seq xs n, sl⟩ ∧ s.heap.get? b = some ⟨.type "list", dd2, .seq ys n2, sl2⟩ ∧
      (∀ j (h1 : j < xs.size) (h2 : j < ys.size), EqP prog w A.in1 s xs[j] ys[j] (e j)) ∧ R (.ok (.ret (.bool (!(List.range xs.size).all e)))) s) := by
  rintro A R s ⟨hl, hb, he, h⟩
  obtain ⟨hp, g, d, tk, os⟩ := s
  have f3 := AutoSeq1.sub_list_list
  have hne : ¬ (xs.size != ys.size) = true := by simp [hsz]
  wp_walk using wpAny_loadPart' hl, wpAny_loadPart' hb
  refine ⟨plainId_quiet plain_eq_loop _, codeAny_builtin entry_eq_loop ?_⟩
  rw [Around.under_plainId plain_eq_loop _]
  exact lst_neLoop l b xs ys n n2 dd dd2 sl sl2 hsz e _ 0 rfl A R _ ⟨hl, hb, he, by simpa using h⟩
variable {A : Around} {s : Shared} {l b : Addr} {xs ys : Array Value} {e : Nat → Bool}
theorem no_ni (k : Bool) : Value.bool k ≠ Value.notImplemented := fun x => nomatch x
theorem rc_tups (hl : s.heap.IsTuple l xs) (hb : s.heap.IsTuple b ys) (hu : A.units < cLine) (he : ∀ j (h1 : j < xs.size) (h2 : j < ys.size), EqP prog w A.in1 s xs[j] ys[j] (e j)) (E Q : Value → Shared → Prop)
    (h : Q (.bool ((List.range (min xs.size ys.size)).all e && xs.size == ys.size)) s) : wpAny (model prog w) A (richCompare .Eq (.ref l) (.ref b)) Q E s := by
  obtain ⟨⟨c1, d1, t1, s1⟩, ho, hc, n, hd⟩ := id hl
  obtain ⟨⟨c2, d2, t2, s2⟩, ho2, hc2, n2, hd2⟩ := id hb
  simp only at hc hd hc2 hd2
  subst hc hd hc2 hd2
  have ta : s.TypeIs (.ref l) "tuple" := ⟨_, ho, rfl⟩
  exact wpAny_richCompare_same_room (op := .Eq) ta ⟨_, ho2, rfl⟩ F.slot_tuple_eq (call_meetsIn F.slot_tuple_eq ta F.entry_tuple_eq (F.args_tuple_eq_2 _ _) (tup_eqIn l b xs ys n n2 _ _ _ _ e) ⟨ho, ho2, he, no_ni _, h⟩) hu
theorem rc_tupsN (hl : s.heap.IsTuple l xs) (hb : s.heap.IsTuple b ys) (hu : A.units < cLine) (he : ∀ j (h1 : j < xs.size) (h2 : j < ys.size), EqP prog w A.in1 s xs[j] ys[j] (e j)) (E Q : Value → Shared → Prop)
    (h : Q (.bool (!((List.range (min xs.size ys.size)).all e && xs.size == ys.size))) s) : wpAny (model prog w) A (richCompare .NotEq (.ref l) (.ref b)) Q E s := by
  obtain ⟨⟨c1, d1, t1, s1⟩, ho, hc, n, hd⟩ := id hl
  obtain ⟨⟨c2, d2, t2, s2⟩, ho2, hc2, n2, hd2⟩ := id hb
  simp only at hc hd hc2 hd2
  subst hc hd hc2 hd2
  have ta : s.TypeIs (.ref l) "tuple" := ⟨_, ho, rfl⟩
  exact wpAny_richCompare_same_room (op := .NotEq) ta ⟨_, ho2, rfl⟩ F.slot_tuple_ne (call_meetsIn F.slot_tuple_ne ta F.entry_tuple_ne (F.args_tuple_ne_2 _ _) (tup_neIn l b xs ys n n2 _ _ _ _ e) ⟨ho, ho2, he, no_ni _, h⟩) hu
theorem rc_lstsN (hl : s.heap.IsList l xs) (hb : s.heap.IsList b ys) (hsz : xs.size = ys.size) (hu : A.units < cLine) (he : ∀ j (h1 : j < xs.size) (h2 : j < ys.size), EqP prog w A.in1 s xs[j] ys[j] (e j)) (E Q : Value → Shared → Prop)
    (h : Q (.bool (!(List.range xs.size).all e)) s) : wpAny (model prog w) A (richCompare .NotEq (.ref l) (.ref b)) Q E s := by
  obtain ⟨⟨c1, d1, t1, s1⟩, ho, hc, n, hd⟩ := id hl
  obtain ⟨⟨c2, d2, t2, s2⟩, ho2, hc2, n2, hd2⟩ := id hb
  simp only at hc hd hc2 hd2
  subst hc hd hc2 hd2
  have ta : s.TypeIs (.ref l) "list" := ⟨_, ho, rfl⟩
  exact wpAny_richCompare_same_room (op := .NotEq) ta ⟨_, ho2, rfl⟩ F.slot_list_ne (call_meetsIn F.slot_list_ne ta F.entry_list_ne (F.args_list_ne_2 _ _) (lst_neIn l b xs ys n n2 _ _ _ _ hsz e) ⟨ho, ho2, he, no_ni _, h⟩) hu
open PySem.W in
theorem rc_dctsN {K : Type} [DecidableEq K] {knd : KeyKind prog w K} {a c : Addr} {ka kb : List (K × Value)} {r : Bool} (ha : (a == sysModules) = false) (hb : (c == sysModules) = false)
    (da : s.heap.DictOf knd a ka) (db : s.heap.DictOf knd c kb) (hu : A.units < cLine) (hits : ka.length = kb.length → KeqHitsP prog w A.in1 s kb ka r) (E Q : Value → Shared → Prop) (h : Q (.bool (!(ka.length == kb.length && r))) s) : wpAny (model prog w) A (richCompare .NotEq (.ref a) (.ref c)) Q E s := by
  refine wpAny_richCompare_same_room (op := .NotEq) da.typeIs db.typeIs PySem.F.slot_dict_ne (wpAny_call_entry PySem.F.slot_dict_ne da.typeIs PySem.F.entry_dict_ne ?_ (PySem.F.args_dict_ne_2 _ _)) hu
  show wpAny _ _ (Builtin.Dict.dictSlotArgs "__ne__" ⟨[.ref a, .ref c], []⟩ >>= _) _ _ s
  unfold Builtin.Dict.dictSlotArgs
  refine wpAny_bind (wpAny_bind (wpAny_notOrdered_dict da.typeIs ?_))
  show wpAny _ _ (pure (Value.ref a, Value.ref c)) _ _ s
  refine wpAny_pure (wpAny_bind (wpAny_isInstance (T := "dict") db.typeIs PySem.F.sub_dict_dict ?_))
  simp only [Bool.not_true, Bool.false_eq_true, if_false]
  refine wpAny_bind (wpAny_pure (wpAny_bind (wpAny_pure (wpAny_bind (samePairsP ha hb da db hits (wpAny_pure ⟨_, rfl, no_ni _, ?_⟩))))))
  simpa using h
end
end PMeq
set_option Elab.async false
set_option linter.all false
set_option maxRecDepth 100000
set_option maxHeartbeats 1000000
/-! Pm12: == and != of data; in and not in. -/
namespace PM
open PySem PySem.Spec PyProof.Rows L2 PySem.SeqAt

def flatD : D → Bool
  | .non => true
  | .bl _ => true
  | .int _ => true
  | .str _ => true
  | _ => false
/-- what a flat value is compared by: nothing, a number (truths are numbers), a text -/
def flatK : D → Option (Option (Int ⊕ Str))
  | .non => some none
  | .bl b => some (some (.inl (cond b 1 0)))
  | .int i => some (some (.inl i))
  | .str x => some (some (.inr x))
  | _ => none
/-- == of flat data: the keys are the same -/
def eqF (x y : D) : Bool := (flatK x).isSome && decide (flatK x = flatK y)
theorem eqF_ii (i j : Int) : eqF (.int i) (.int j) = (i == j) := by
  by_cases h : i = j <;> simp [eqF, flatK, h]
theorem eqF_ss (x y : Str) : eqF (.str x) (.str y) = (x == y) := by
  by_cases h : x = y <;> simp [eqF, flatK, h]
theorem eqF_bb (a b : Bool) : eqF (.bl a) (.bl b) = (a == b) := by
  cases a <;> cases b <;> decide
theorem eqF_bi (a : Bool) (j : Int) : eqF (.bl a) (.int j) = ((if a then 1 else 0) == j) := by
  cases a <;> exact eqF_ii _ j
theorem eqF_ib (i : Int) (b : Bool) : eqF (.int i) (.bl b) = (i == (if b then 1 else 0)) := by
  cases b <;> exact eqF_ii i _
def allO : List (Option Bool) → Option Bool
  | [] => some true
  | o :: r => match o, allO r with
    | some a, some b => some (a && b)
    | _, _ => none
/-- == of data, where it is told -/
def deq : Nat → D → D → Option Bool
  | 0, _, _ => none
  | n + 1, x, y => if flatD x = true then (if flatD y = true then some (eqF x y) else none) else match x, y with
    | .lst xs, .lst ys => if xs.length = ys.length then allO (List.zipWith (deq n) xs ys) else some false
    | .tup xs, .tup ys => (allO (List.zipWith (deq n) xs ys)).map fun b => b && xs.length == ys.length
    | .dct es, .dct fs => if es.length = fs.length then allO (es.map fun e => match dLook fs e.1 with
      | some y => deq n e.2 y
      | none => some false) else some false
    | _, _ => none
theorem allO_get : ∀ {os : List (Option Bool)} {b : Bool}, allO os = some b → ∃ bs : List Bool, os = bs.map some ∧ b = bs.all id
  | [], b, h => by cases h; exact ⟨[], rfl, rfl⟩
  | o :: r, b, h => by
    cases o with
    | none => cases h
    | some a =>
      cases q : allO r with
      | none =>
        unfold allO at h
        simp only [q] at h
        cases h
      | some c =>
        unfold allO at h
        simp only [q] at h
        cases h
        obtain ⟨bs, rfl, rfl⟩ := allO_get q
        exact ⟨a :: bs, rfl, rfl⟩
section
variable {B : Bx} {al : List Addr} {G H : Hp} {fm : List (Addr × HO)} {s : Store} {X : Cx}
theorem RepH.flat {v : V} {d : D} (r : RepH B al G fm v d) (h : flatD d = true) : flatV v = true := by
  cases d with
  | non => rw [r.non]; rfl
  | bl b => rw [r.bl]; rfl
  | int i => rw [r.int]; rfl
  | str x => rw [r.str]; rfl
  | _ => cases h
theorem RepH.eqF {v u : V} {d e : D} (r : RepH B al G fm v d) (r' : RepH B al G fm u e) (h : flatD d = true) (h' : flatD e = true) : eqV v u = PM.eqF d e := by
  cases d with
  | non => rw [r.non]; cases e <;> first | (cases h'; done) | (rw [r'.non]; rfl) | (rw [r'.bl]; rfl) | (rw [r'.int]; rfl) | (rw [r'.str]; rfl)
  | bl b => rw [r.bl]; cases e <;> first | (cases h'; done) | (rw [r'.non]; rfl) | (rw [r'.bl, eqF_bb]; rfl) | (rw [r'.int, eqF_bi]; rfl) | (rw [r'.str]; rfl)
  | int i => rw [r.int]; cases e <;> first | (cases h'; done) | (rw [r'.non]; rfl) | (rw [r'.bl, eqF_ib]; rfl) | (rw [r'.int, eqF_ii]; rfl) | (rw [r'.str]; rfl)
  | str x => rw [r.str]; cases e <;> first | (cases h'; done) | (rw [r'.non]; rfl) | (rw [r'.bl]; rfl) | (rw [r'.int]; rfl) | (rw [r'.str, eqF_ss]; rfl)
  | _ => cases h
theorem eqF_refl (d : D) (h : flatD d = true) : eqF d d = true := by
  cases d with
  | non => rfl
  | bl b => simp [eqF, flatK]
  | int b => simp [eqF, flatK]
  | str b => simp [eqF, flatK]
  | _ => cases h
theorem RepL.getH {vs : List V} {ds : List D} {i : Nat} {v : V} (r : RepL B al G vs ds) (h : vs[i]? = some v) : ∃ d, ds[i]? = some d ∧ RepH B al G fm v d := by
  have hi : i < ds.length := by rw [← r.length]; exact (List.getElem?_eq_some_iff.mp h).1
  exact ⟨ds[i], List.getElem?_eq_getElem hi, .rep (r.get h (List.getElem?_eq_getElem hi))⟩
theorem deq_succ (n : Nat) (x y : D) : deq (n + 1) x y = if flatD x = true then (if flatD y = true then some (eqF x y) else none) else match x, y with
    | .lst xs, .lst ys => if xs.length = ys.length then allO (List.zipWith (deq n) xs ys) else some false
    | .tup xs, .tup ys => (allO (List.zipWith (deq n) xs ys)).map fun b => b && xs.length == ys.length
    | .dct es, .dct fs => if es.length = fs.length then allO (es.map fun e => match dLook fs e.1 with
      | some y => deq n e.2 y
      | none => some false) else some false
    | _, _ => none := rfl
theorem zip_some {n : Nat} {xs ys : List D} {bs : List Bool} (h : List.zipWith (deq n) xs ys = bs.map some) {j : Nat} {x y : D} (hx : xs[j]? = some x) (hy : ys[j]? = some y) : deq n x y = some (bs.getD j true) := by
  have h1 : (List.zipWith (deq n) xs ys)[j]? = some (deq n x y) := by
    rw [List.getElem?_zipWith, hx, hy]
  rw [h, List.getElem?_map] at h1
  cases q : bs[j]? with
  | none => rw [q] at h1; cases h1
  | some b =>
    rw [q] at h1
    rw [List.getD_eq_getElem?_getD, q]
    exact (Option.some.inj h1).symm
theorem valV_at : ∀ {ks : List (Key × V)} {j : Nat} {k : Key} {v : V}, (ks.map (·.1)).Nodup → ks[j]? = some (k, v) → valV ks k = some v
  | [], _, _, _, _, h => by simp at h
  | p :: r, 0, k, v, _, h => by
    simp at h
    subst h
    exact valV_pos rfl
  | p :: r, j + 1, k, v, nd, h => by
    rw [List.map_cons, List.nodup_cons] at nd
    have h' : r[j]? = some (k, v) := by simpa using h
    rw [valV_neg (fun e => nd.1 (e ▸ List.mem_map.mpr ⟨(k, v), List.mem_of_getElem? h', rfl⟩))]
    exact valV_at nd.2 h'
theorem keys_nd {pins : List (Addr × Obj)} {σ : L2.St} {sh : Shared} (I : Inv X pins σ H sh) {a : Addr} {ks : List (Key × V)} (e : Rd H a (.dK ks)) : (ks.map (·.1)).Nodup := by
  obtain ⟨_, _, vs, rel, o, es, ep, _, _, _, _, _, nd⟩ := dk_rd I.hok e
  rw [KV.keys rel]
  exact nd
/-- one thing is equal to itself -/
theorem deq_same (hK : B.K = X.K) {pins : List (Addr × Obj)} {σ : L2.St} {sh : Shared} (I : Inv X pins σ H sh) (hv : HV B G al fm H s) : ∀ (n : Nat) {dx dy : D} {b : Bool} {v : V}, deq n dx dy = some b → RepH B al G fm v dx → RepH B al G fm v dy → b = true
  | 0, _, _, _, _, h, _, _ => nomatch h
  | n + 1, dx, dy, b, v, h, r, r' => by
    rw [deq_succ] at h
    split at h
    · rename_i f1
      split at h
      · rename_i f2
        cases h
        have e : dx = dy := by
          cases dx with
          | non => cases r.non; cases r' with | rep r' => cases r'; rfl
          | bl b => cases r.bl; cases r' with | rep r' => cases r'; rfl
          | int b => cases r.int; cases r' with | rep r' => cases r'; rfl
          | str b => cases r.str; cases r' with | rep r' => cases r'; rfl
          | _ => cases f1
        subst e
        exact eqF_refl _ f1
      · cases h
    · have same : ∀ (xs : List V) (ds es : List D) (bs : List Bool), RepL B al G xs ds → RepL B al G xs es → List.zipWith (deq n) ds es = bs.map some → bs.all id = true := by
        intro xs ds es bs r1 r2 e
        rw [List.all_eq_true]
        intro c hc
        obtain ⟨j, hj⟩ := List.mem_iff_getElem?.mp hc
        have hl : j < (List.zipWith (deq n) ds es).length := by
          rw [e, List.length_map]
          exact (List.getElem?_eq_some_iff.mp hj).1
        rw [List.length_zipWith] at hl
        have h1 : j < ds.length := by omega
        have h2 : j < es.length := by omega
        have h3 : j < xs.length := by rw [r1.length]; exact h1
        have z := zip_some e (List.getElem?_eq_getElem h1) (List.getElem?_eq_getElem h2)
        rw [List.getD_eq_getElem?_getD, hj] at z
        exact deq_same hK I hv n z (.rep (r1.get (List.getElem?_eq_getElem h3) (List.getElem?_eq_getElem h1))) (.rep (r2.get (List.getElem?_eq_getElem h3) (List.getElem?_eq_getElem h2)))
      split at h
      · rename_i ds es _
        obtain ⟨p, xs, rfl, r1, e1⟩ := r.lstAt hv
        obtain ⟨q, ys, e0, r2, e2⟩ := r'.lstAt hv
        cases e0
        rw [e1] at e2
        cases e2
        split at h
        · obtain ⟨bs, eb, rfl⟩ := allO_get h
          exact same xs ds es bs r1 r2 eb
        · rename_i hne
          exact absurd (r1.length.symm.trans r2.length) hne
      · rename_i ds es _
        obtain ⟨p, xs, rfl, r1, e1⟩ := r.tupAt hv
        obtain ⟨q, ys, e0, r2, e2⟩ := r'.tupAt hv
        cases e0
        rw [hK] at e1 e2
        have := I.tuple_inj e1 e2
        subst this
        obtain ⟨c, hc, rfl⟩ := Option.map_eq_some_iff.mp h
        obtain ⟨bs, eb, rfl⟩ := allO_get hc
        rw [same xs ds es bs r1 r2 eb, ← r1.length, ← r2.length]
        simp
      · rename_i es fs _
        obtain ⟨p, ks, rfl, r1, e1⟩ := r.dctR (s := s) hv (es := es) rfl
        obtain ⟨q, ls, e0, r2, e2⟩ := r'.dctR (s := s) hv (es := fs) rfl
        cases e0
        have : ks = ls := by
          rcases e1 with e1 | ⟨o, e1⟩
          · rcases e2 with e2 | ⟨o', e2⟩
            · rw [e1] at e2; cases e2; rfl
            · rw [e1] at e2; cases e2
          · rcases e2 with e2 | ⟨o', e2⟩
            · rw [e1] at e2; cases e2
            · rw [e1] at e2; cases e2; rfl
        subst this
        split at h
        · obtain ⟨bs, eb, rfl⟩ := allO_get h
          rw [List.all_eq_true]
          intro c hc
          obtain ⟨j, hj⟩ := List.mem_iff_getElem?.mp hc
          have hl : j < es.length := by
            have := congrArg List.length eb
            rw [List.length_map, List.length_map] at this
            rw [this]
            exact (List.getElem?_eq_some_iff.mp hj).1
          have ej := List.getElem?_eq_getElem hl
          have z := congrArg (fun l => l[j]?) eb
          simp only [List.getElem?_map, ej, hj] at z
          have z : (match dLook fs es[j].1 with | some y => deq n es[j].2 y | none => some false) = some c := Option.some.inj z
          obtain ⟨k, v, hk, e1', rv⟩ := r1.item ej
          have nd := keys_nd I e1
          have hvv := valV_at nd hk
          rw [e1'] at z
          cases q : dLook fs (keyD k) with
          | none =>
            have := (r2.look k).2 q
            rw [hvv] at this
            cases this
          | some y =>
            rw [q] at z
            obtain ⟨v', h1, h2⟩ := (r2.look k).1 y q
            rw [hvv] at h1
            cases h1
            exact deq_same hK I hv n z (.rep rv) (.rep h2)
        · rename_i hne
          exact absurd (r1.length.symm.trans r2.length) hne
      · cases h
theorem Paired.at {α β : Type} {R : α → β → Prop} : ∀ {xs : List α} {ys : List β} {j : Nat} {x : α} {y : β}, Paired R xs ys → xs[j]? = some x → ys[j]? = some y → R x y
  | _, _, _, _, _, .nil, h, _ => by simp at h
  | _, _, 0, _, _, .cons r _, h1, h2 => by
    simp at h1 h2
    subst h1; subst h2
    exact r
  | _, _, j + 1, _, _, .cons _ t, h1, h2 => Paired.at (j := j) t (by simpa using h1) (by simpa using h2)
/-- what richCompare of two containers gives -/
theorem deq_refs (hK : B.K = X.K) {pins : List (Addr × Obj)} {σ : L2.St} {sh : Shared} (I : Inv X pins σ H sh) (hv : HV B G al fm H s) {n : Nat} {A : Around} (hu : A.units < cLine)
    (ih : ∀ {dx dy : D} {b : Bool} {x y : V} {v u : Value}, deq n dx dy = some b → RepH B al G fm x dx → RepH B al G fm y dy → RelV x v → RelV y u → EqP X.prog X.w A.in1 sh v u b)
    {dx dy : D} {b : Bool} {p q : Addr} (nf : flatD dx = false) (h : deq (n + 1) dx dy = some b) (r : RepH B al G fm (.ref p) dx) (r' : RepH B al G fm (.ref q) dy) (E Q : Value → Shared → Prop) :
    (Q (.bool b) sh → wpAny (model X.prog X.w) A (richCompare .Eq (.ref p) (.ref q)) Q E sh) ∧ (Q (.bool (!b)) sh → wpAny (model X.prog X.w) A (richCompare .NotEq (.ref p) (.ref q)) Q E sh) := by
  rw [deq_succ, if_neg (by rw [nf]; exact Bool.false_ne_true)] at h
  have items : ∀ (xs ys : List V) (us ws : List Value) (ds es : List D) (bs : List Bool), RepL B al G xs ds → RepL B al G ys es → Vals xs us → Vals ys ws → List.zipWith (deq n) ds es = bs.map some →
      ∀ j (h1 : j < us.toArray.size) (h2 : j < ws.toArray.size), EqP X.prog X.w A.in1 sh us.toArray[j] ws.toArray[j] (bs.getD j true) := by
    intro xs ys us ws ds es bs r1 r2 v1 v2 e j h1 h2
    have h1 : j < us.length := by simpa using h1
    have h2 : j < ws.length := by simpa using h2
    have h3 : j < xs.length := by rw [v1.length]; exact h1
    have h4 : j < ys.length := by rw [v2.length]; exact h2
    have h5 : j < ds.length := by rw [← r1.length]; exact h3
    have h6 : j < es.length := by rw [← r2.length]; exact h4
    have z := zip_some e (List.getElem?_eq_getElem h5) (List.getElem?_eq_getElem h6)
    have a1 := Paired.at v1 (List.getElem?_eq_getElem h3) (List.getElem?_eq_getElem h1)
    have a2 := Paired.at v2 (List.getElem?_eq_getElem h4) (List.getElem?_eq_getElem h2)
    have := ih z (.rep (r1.get (List.getElem?_eq_getElem h3) (List.getElem?_eq_getElem h5))) (.rep (r2.get (List.getElem?_eq_getElem h4) (List.getElem?_eq_getElem h6))) a1 a2
    simpa using this
  have rng : ∀ (bs : List Bool) (m : Nat), bs.length = m → (List.range m).all (fun j => bs.getD j true) = bs.all id := by
    intro bs m e
    subst e
    rw [Bool.eq_iff_iff, List.all_eq_true, List.all_eq_true]
    constructor
    · intro z c hc
      obtain ⟨j, hj⟩ := List.mem_iff_getElem?.mp hc
      have := z j (List.mem_range.mpr (List.getElem?_eq_some_iff.mp hj).1)
      rw [List.getD_eq_getElem?_getD, hj] at this
      exact this
    · intro z j hj
      have hj := List.mem_range.mp hj
      rw [List.getD_eq_getElem?_getD, List.getElem?_eq_getElem hj]
      exact z _ (List.getElem_mem hj)
  split at h
  · rename_i ds es
    obtain ⟨p', xs, e0, r1, e1⟩ := r.lstAt hv
    cases e0
    obtain ⟨q', ys, e0, r2, e2⟩ := r'.lstAt hv
    cases e0
    obtain ⟨us, v1, l1, _⟩ := I.list (.inl (.inl e1))
    obtain ⟨ws, v2, l2, _⟩ := I.list (.inl (.inl e2))
    have q1 : us.toArray.size = ds.length := by simp [← v1.length, r1.length]
    have q2 : ws.toArray.size = es.length := by simp [← v2.length, r2.length]
    split at h
    · rename_i hl
      obtain ⟨bs, eb, rfl⟩ := allO_get h
      have lb : bs.length = us.toArray.size := by
        have := congrArg List.length eb
        rw [List.length_zipWith, List.length_map] at this
        omega
      have it := items xs ys us ws ds es bs r1 r2 v1 v2 eb
      exact ⟨fun k => rcP_lists l1.isList l2.isList (by rw [q1, q2, hl]) hu it E Q (by rw [rng bs _ lb]; exact k),
        fun k => PMeq.rc_lstsN l1.isList l2.isList (by rw [q1, q2, hl]) hu it E Q (by rw [rng bs _ lb]; exact k)⟩
    · rename_i hl
      cases h
      have ne : (us.toArray.size != ws.toArray.size) = true := by
        rw [q1, q2]
        simpa using hl
      exact ⟨fun k => RcAt.lists_lengths l1.isList l2.isList ne hu X.prog X.w E Q k, fun k => RcNeAt.lists_lengths l1.isList l2.isList ne hu X.prog X.w E Q k⟩
  · rename_i ds es
    obtain ⟨p', xs, e0, r1, e1⟩ := r.tupAt hv
    cases e0
    obtain ⟨q', ys, e0, r2, e2⟩ := r'.tupAt hv
    cases e0
    rw [hK] at e1 e2
    obtain ⟨us, v1, l1, _⟩ := I.tuple e1
    obtain ⟨ws, v2, l2, _⟩ := I.tuple e2
    have q1 : us.toArray.size = ds.length := by simp [← v1.length, r1.length]
    have q2 : ws.toArray.size = es.length := by simp [← v2.length, r2.length]
    obtain ⟨c, hc, rfl⟩ := Option.map_eq_some_iff.mp h
    obtain ⟨bs, eb, rfl⟩ := allO_get hc
    have lb : bs.length = min us.toArray.size ws.toArray.size := by
      have := congrArg List.length eb
      rw [List.length_zipWith, List.length_map] at this
      rw [q1, q2]
      exact this.symm
    have it := items xs ys us ws ds es bs r1 r2 v1 v2 eb
    exact ⟨fun k => PMeq.rc_tups l1 l2 hu it E Q (by rw [rng bs _ lb, q1, q2]; exact k), fun k => PMeq.rc_tupsN l1 l2 hu it E Q (by rw [rng bs _ lb, q1, q2]; exact k)⟩
  · rename_i es fs
    obtain ⟨p', ks, e0, r1, e1⟩ := r.dctR (s := s) hv (es := es) rfl
    cases e0
    obtain ⟨q', ls, e0, r2, e2⟩ := r'.dctR (s := s) hv (es := fs) rfl
    cases e0
    obtain ⟨_, ya, va, ra, da⟩ := dk_rd I.hok e1
    obtain ⟨_, yb, vb, rb, db⟩ := dk_rd I.hok e2
    have q1 : va.length = es.length := by rw [← ra.length, r1.length]
    have q2 : vb.length = fs.length := by rw [← rb.length, r2.length]
    split at h
    · rename_i hl
      have hits : ∀ {ks : List (Key × V)} {es : List (D × D)} {va : List (Key × Value)} {b : Bool}, RepD B al G ks es → KV ks va → allO (es.map fun e => match dLook fs e.1 with | some y => deq n e.2 y | none => some false) = some b → PySem.W.KeqHitsP X.prog X.w A.in1 sh vb va b := by
        intro ks es va b r1
        induction es generalizing ks va b with
        | nil =>
          intro kv e
          cases r1
          cases kv
          cases e
          exact .nil
        | cons e0 es ihe =>
          intro kv e
          cases r1 with
          | @cons k v d kvs' _ h0 r0 =>
            cases kv with
            | @cons _ q _ qs hk t =>
              obtain ⟨hk1, hk2⟩ := hk
              obtain ⟨key, val⟩ := q
              cases (show k = key from hk1)
              rw [List.map_cons] at e
              unfold allO at e
              cases ql : dLook fs (keyD k) with
              | none =>
                have hn := (r2.look k).2 ql
                have rr : RelO (valV ls k) (valueAt vb k) := rb.val k
                rw [hn] at rr
                simp only [ql] at e
                split at e
                · rename_i a c e1 e2
                  cases e1
                  cases e
                  refine .miss ?_
                  cases qv : valueAt vb k with
                  | none => rfl
                  | some z => rw [qv] at rr; exact False.elim rr
                · cases e
              | some y =>
                obtain ⟨v', hv1, hv2⟩ := (r2.look k).1 y ql
                have rr : RelO (some v') (valueAt vb k) := by rw [← hv1]; exact rb.val k
                obtain ⟨z, hz, rz⟩ := rr.some_of
                simp only [ql] at e
                split at e
                · rename_i a c e1 e2
                  cases e
                  exact .hit hz (ih e1 (.rep h0) (.rep hv2) hk2 rz) (ihe r0 t e2)
                · cases e
      have hb := hits r1 ra h
      have e3 : (va.length == vb.length && b) = b := by rw [q1, q2, hl]; simp
      exact ⟨fun k => PySem.W.rcP_dicts (knd := mixKind X.prog X.w) ya yb da db hu (fun _ => hb) E Q (by rw [e3]; exact k),
        fun k => PMeq.rc_dctsN (knd := mixKind X.prog X.w) ya yb da db hu (fun _ => hb) E Q (by rw [e3]; exact k)⟩
    · rename_i hl
      cases h
      have ne : va.length ≠ vb.length := by rw [q1, q2]; exact hl
      have e3 : (va.length == vb.length && true) = false := by simp [ne]
      exact ⟨fun k => PySem.W.rcP_dicts (knd := mixKind X.prog X.w) (r := true) ya yb da db hu (fun z => absurd z ne) E Q (by rw [e3]; exact k),
        fun k => PMeq.rc_dctsN (knd := mixKind X.prog X.w) (r := true) ya yb da db hu (fun z => absurd z ne) E Q (by rw [e3]; exact k)⟩
  · cases h
theorem deq_ref {n : Nat} {dx dy : D} {b : Bool} (h : deq n dx dy = some b) (nf : flatD dx = false) {v u : V} (r : RepH B al G fm v dx) (r' : RepH B al G fm u dy) : ∃ p q, v = .ref p ∧ u = .ref q := by
  cases n with
  | zero => cases h
  | succ n =>
    rw [deq_succ, if_neg (by rw [nf]; exact Bool.false_ne_true)] at h
    split at h
    · cases r with
      | l _ _ => cases r' with
        | l _ _ => exact ⟨_, _, rfl, rfl⟩
        | rep r' => cases r'; exact ⟨_, _, rfl, rfl⟩
      | rep r => cases r; cases r' with
        | l _ _ => exact ⟨_, _, rfl, rfl⟩
        | rep r' => cases r'; exact ⟨_, _, rfl, rfl⟩
    · cases r with
      | rep r => cases r; cases r' with
        | rep r' => cases r'; exact ⟨_, _, rfl, rfl⟩
    · cases r with
      | k _ _ => cases r' with
        | k _ _ => exact ⟨_, _, rfl, rfl⟩
        | rep r' => cases r'; exact ⟨_, _, rfl, rfl⟩
      | rep r => cases r; cases r' with
        | k _ _ => exact ⟨_, _, rfl, rfl⟩
        | rep r' => cases r'; exact ⟨_, _, rfl, rfl⟩
    · cases h
theorem deq_flat {n : Nat} {dx dy : D} {b : Bool} (h : deq n dx dy = some b) (nf : flatD dx = true) : flatD dy = true ∧ b = eqF dx dy := by
  cases n with
  | zero => cases h
  | succ n =>
    rw [deq_succ, if_pos nf] at h
    split at h
    · rename_i f
      cases h
      exact ⟨f, rfl⟩
    · cases h
theorem deq_run (hK : B.K = X.K) {pins : List (Addr × Obj)} {σ : L2.St} {sh : Shared} (I : Inv X pins σ H sh) (hv : HV B G al fm H s) : ∀ (n : Nat) {A : Around}, A.units + n < cLine → ∀ {dx dy : D} {b : Bool} {x y : V} {v u : Value}, deq n dx dy = some b → RepH B al G fm x dx → RepH B al G fm y dy → RelV x v → RelV y u → EqP X.prog X.w A sh v u b
  | 0, _, _, _, _, _, _, _, _, _, h, _, _, _, _ => nomatch h
  | n + 1, A, hu, dx, dy, b, x, y, v, u, h, r, r', rv, ru => by
    cases nf : flatD dx with
    | true =>
      obtain ⟨f2, rfl⟩ := deq_flat h nf
      rw [← r.eqF r' nf f2]
      exact (eqAt_V rv ru (r.flat nf) (r'.flat f2)).eqP
    | false =>
      obtain ⟨p, q, rfl, rfl⟩ := deq_ref h nf r r'
      cases (show v = Value.ref p from rv)
      cases (show u = Value.ref q from ru)
      by_cases e : p = q
      · subst e
        cases deq_same hK I hv (n + 1) h r r'
        exact (EqAt.same _).eqP
      · refine eqP_refs e fun E Q k => (deq_refs hK I hv (by omega) (fun h1 h2 h3 h4 h5 => deq_run hK I hv n ?_ h1 h2 h3 h4 h5) nf h r r' E Q).1 k
        show A.in1.units + n < cLine
        show A.units + 1 + n < cLine
        omega
end
/-! ### the operators -/
def mEq (x y : D) : M D := match deq 60 x y with
  | some b => pure (.bl b)
  | none => bad
def mNe (x y : D) : M D := match deq 60 x y with
  | some b => pure (.bl !b)
  | none => bad
/-- a fact of data, read off the heap -/
def rEqM (B : Bx) : R2 := fun x y H Q => ∃ G al fm s dx dy b, HV B G al fm H s ∧ RepH B al G fm x dx ∧ RepH B al G fm y dy ∧ deq 60 dx dy = some b ∧ Q (.bl b) H
def rNeM (B : Bx) : R2 := fun x y H Q => ∃ G al fm s dx dy b, HV B G al fm H s ∧ RepH B al G fm x dx ∧ RepH B al G fm y dy ∧ deq 60 dx dy = some b ∧ Q (.bl !b) H
section
variable {B : Bx} {X : Cx}
/-- == of flat values, by what the layer has -/
theorem flat_ways {K : PySem.W.Frag} {G H : Hp} {al : List Addr} {fm : List (Addr × HO)} {x y : V} {dx dy : D} (h : flatD dx = true) (h' : flatD dy = true) (r : RepH B al G fm x dx) (r' : RepH B al G fm y dy) :
    (scal x y = true ∧ decide (x = y) = eqF dx dy) ∨ ∃ p q, Dp K H x p ∧ Dp K H y q ∧ SeqAt.shaped p = true ∧ SeqAt.shaped q = true ∧ PyData.eqv p q = eqF dx dy := by
  cases dx with
  | non => rw [r.non]; cases dy with
    | non => rw [r'.non]; exact .inl ⟨rfl, rfl⟩
    | bl b => rw [r'.bl]; exact .inl ⟨rfl, rfl⟩
    | int b => rw [r'.int]; exact .inl ⟨rfl, rfl⟩
    | str b => rw [r'.str]; exact .inl ⟨rfl, rfl⟩
    | _ => cases h'
  | bl c => rw [r.bl]; cases dy with
    | non => rw [r'.non]; exact .inl ⟨rfl, rfl⟩
    | bl b => rw [r'.bl]; exact .inl ⟨rfl, by rw [eqF_bb]; exact dec_bl⟩
    | int b => rw [r'.int]; exact .inr ⟨_, _, .bl c, .int b, rfl, rfl, by rw [eqF_bi]; rfl⟩
    | str b => rw [r'.str]; exact .inl ⟨rfl, rfl⟩
    | _ => cases h'
  | int c => rw [r.int]; cases dy with
    | non => rw [r'.non]; exact .inl ⟨rfl, rfl⟩
    | bl b => rw [r'.bl]; exact .inr ⟨_, _, .int c, .bl b, rfl, rfl, by rw [eqF_ib]; rfl⟩
    | int b => rw [r'.int]; exact .inl ⟨rfl, by rw [eqF_ii]; exact dec_int⟩
    | str b => rw [r'.str]; exact .inl ⟨rfl, rfl⟩
    | _ => cases h'
  | str c => rw [r.str]; cases dy with
    | non => rw [r'.non]; exact .inl ⟨rfl, rfl⟩
    | bl b => rw [r'.bl]; exact .inl ⟨rfl, rfl⟩
    | int b => rw [r'.int]; exact .inl ⟨rfl, rfl⟩
    | str b => rw [r'.str]; exact .inl ⟨rfl, by rw [eqF_ss]; exact dec_str⟩
    | _ => cases h'
  | _ => cases h
theorem op_eqM (hK : B.K = X.K) (hu : X.A.units + 64 < cLine) : OpR X (compareOp .Eq) (rEqM B) := fun pins s σ H x y v u Q I rx ry ⟨G, al, fm, st, dx, dy, b, hv, r, r', e, q⟩ => by
  cases nf : flatD dx with
  | true =>
    obtain ⟨f2, rfl⟩ := deq_flat e nf
    rcases flat_ways (K := X.K) (H := H) nf f2 r r' with ⟨h1, h2⟩ | ⟨d, e', hd, he, sd, se, h2⟩
    · exact op_eq pins s σ H x y v u Q I rx ry ⟨h1, by rw [h2]; exact q⟩
    · exact op_eqD hu pins s σ H x y v u Q I rx ry ⟨d, e', hd, he, sd, se, by rw [h2]; exact q⟩
  | false =>
    obtain ⟨p, p', rfl, rfl⟩ := deq_ref e nf r r'
    cases (show v = Value.ref p from rx)
    cases (show u = Value.ref p' from ry)
    exact (deq_refs (n := 59) hK I hv (by omega) (fun h1 h2 h3 h4 h5 => deq_run hK I hv 59 (by show X.A.units + 1 + 59 < cLine; omega) h1 h2 h3 h4 h5) nf e r r' _ _).1 ⟨.bl b, H, I, rfl, q⟩
theorem op_neM (hK : B.K = X.K) (hu : X.A.units + 64 < cLine) : OpR X (compareOp .NotEq) (rNeM B) := fun pins s σ H x y v u Q I rx ry ⟨G, al, fm, st, dx, dy, b, hv, r, r', e, q⟩ => by
  cases nf : flatD dx with
  | true =>
    obtain ⟨f2, rfl⟩ := deq_flat e nf
    rcases flat_ways (K := X.K) (H := H) nf f2 r r' with ⟨h1, h2⟩ | ⟨d, e', hd, he, sd, se, h2⟩
    · exact op_ne pins s σ H x y v u Q I rx ry ⟨h1, by rw [h2]; exact q⟩
    · exact op_neD hu pins s σ H x y v u Q I rx ry ⟨d, e', hd, he, sd, se, by rw [h2]; exact q⟩
  | false =>
    obtain ⟨p, p', rfl, rfl⟩ := deq_ref e nf r r'
    cases (show v = Value.ref p from rx)
    cases (show u = Value.ref p' from ry)
    exact (deq_refs (n := 59) hK I hv (by omega) (fun h1 h2 h3 h4 h5 => deq_run hK I hv 59 (by show X.A.units + 1 + 59 < cLine; omega) h1 h2 h3 h4 h5) nf e r r' _ _).2 ⟨.bl !b, H, I, rfl, q⟩
theorem om_eq (hK : B.K = X.K) (hu : X.A.units + 64 < cLine) : OpM B X (compareOp .Eq) mEq :=
  ⟨_, op_eqM hK hu, fun σ G al fm H s x y dx dy Q hv rx ry f => by
    unfold mEq at f
    cases q : deq 60 dx dy with
    | none => rw [q] at f; exact False.elim f
    | some b =>
      rw [q] at f
      exact ⟨G, al, fm, s, dx, dy, b, hv, rx, ry, q, Fo.pure f hv (.bl _)⟩⟩
theorem om_ne (hK : B.K = X.K) (hu : X.A.units + 64 < cLine) : OpM B X (compareOp .NotEq) mNe :=
  ⟨_, op_neM hK hu, fun σ G al fm H s x y dx dy Q hv rx ry f => by
    unfold mNe at f
    cases q : deq 60 dx dy with
    | none => rw [q] at f; exact False.elim f
    | some b =>
      rw [q] at f
      exact ⟨G, al, fm, s, dx, dy, b, hv, rx, ry, q, Fo.pure f hv (.bl _)⟩⟩
/-! ### in, not in -/
def inStr (x : D) (z : Str) : Option Bool := match x with
  | .str c => (match c.cps.toList with
    | [k] => some (decide (k ∈ z.cps.toList))
    | _ => none)
  | _ => none
def inAt (q : Option (List D)) (e : Option (List (D × D))) (x : D) : Option Bool := match q with
  | some ds => if flatD x = true ∧ ds.all flatD = true then some (ds.any fun y => eqF y x) else none
  | none => match e with
    | some es => if isKey x = true then some (dLook es x).isSome else none
    | none => none
def inOf (s : Store) (x y : D) : Option Bool := match y with
  | .str z => inStr x z
  | y => inAt (seqOf s y) (dctOf s y) x
def mIn (x y : D) : M D := fun s => match inOf s x y with
  | some b => .ok (.bl b) s
  | none => .bad
def mNotIn (x y : D) : M D := fun s => match inOf s x y with
  | some b => .ok (.bl !b) s
  | none => .bad
theorem op_inD (hu : X.A.units + 1 < cLine) : OpR X (compareOp .In) (fun x y H Q => ∃ a ov, y = .ref a ∧ DGet H a x ov ∧ Q (.bl ov.isSome) H) := fun pins s σ H x y v u Q I rx ry ⟨a, ov, e, g, q⟩ => by
  subst e
  cases (show u = Value.ref a from ry)
  exact d_in hu I g rx fun s3 I3 => ⟨.bl ov.isSome, H, I3, rfl, q⟩
theorem op_notInD (hu : X.A.units + 1 < cLine) : OpR X (compareOp .NotIn) (fun x y H Q => ∃ a ov, y = .ref a ∧ DGet H a x ov ∧ Q (.bl !ov.isSome) H) := fun pins s σ H x y v u Q I rx ry ⟨a, ov, e, g, q⟩ => by
  subst e
  cases (show u = Value.ref a from ry)
  exact d_notIn hu I g rx fun s3 I3 => ⟨.bl !ov.isSome, H, I3, rfl, q⟩
theorem RepH.key {al : List Addr} {G : Hp} {fm : List (Addr × HO)} {v : V} {d : D} (r : RepH B al G fm v d) (h : isKey d = true) : ∃ k : Key, v = kV k ∧ d = keyD k := by
  cases r with
  | rep r => exact r.key h
  | l _ _ => cases h
  | k _ _ => cases h
theorem RepL.flat {al : List Addr} {G : Hp} : ∀ {xs : List V} {ds : List D}, RepL B al G xs ds → ds.all flatD = true → xs.all flatV = true
  | _, _, .nil, _ => rfl
  | _, _, .cons h r, e => by
    rw [List.all_cons, Bool.and_eq_true] at e ⊢
    exact ⟨(RepH.rep (fm := []) h).flat e.1, RepL.flat r e.2⟩
theorem RepL.inV {al : List Addr} {G : Hp} {fm : List (Addr × HO)} {x : V} {d : D} (rx : RepH B al G fm x d) (fx : flatD d = true) : ∀ {xs : List V} {ds : List D}, RepL B al G xs ds → ds.all flatD = true → L2.inV x xs = ds.any fun y => eqF y d
  | _, _, .nil, _ => rfl
  | _, _, .cons h r, e => by
    rw [List.all_cons, Bool.and_eq_true] at e
    unfold L2.inV
    rw [List.any_cons, List.any_cons, (RepH.rep (fm := fm) h).eqF rx e.1 fx]
    have := RepL.inV rx fx r e.2
    unfold L2.inV at this
    rw [this]
/-- the three ways -/
theorem in_ways (hK : B.K = X.K) {G H : Hp} {al : List Addr} {fm : List (Addr × HO)} {s : Store} {x y : V} {dx dy : D} {b : Bool} (hv : HV B G al fm H s) (rx : RepH B al G fm x dx) (ry : RepH B al G fm y dy) (q : inOf s dx dy = some b) :
    (∃ (c : Nat) (z : Str), x = .str ⟨#[c]⟩ ∧ y = .str z ∧ b = decide (c ∈ z.cps.toList)) ∨ (∃ p xs, y = .ref p ∧ (SqL X.K H p xs ∨ SqT X.K H p xs) ∧ flatV x = true ∧ xs.all flatV = true ∧ b = inV x xs) ∨ ∃ a ov, y = .ref a ∧ DGet H a x ov ∧ b = ov.isSome := by
  by_cases hz : ∃ z, dy = .str z
  · obtain ⟨z, rfl⟩ := hz
    have q1 : inStr dx z = some b := q
    unfold inStr at q1
    cases dx with
    | str c =>
      simp only at q1
      cases ql : c.cps.toList with
      | nil => rw [ql] at q1; cases q1
      | cons k r =>
        rw [ql] at q1
        cases r with
        | cons _ _ => cases q1
        | nil =>
          cases q1
          have : c = ⟨#[k]⟩ := str_ext ql
          exact .inl ⟨k, z, by rw [rx.str, this], ry.str, rfl⟩
    | _ => cases q1
  · have q1 : inAt (seqOf s dy) (dctOf s dy) dx = some b := by
      rw [← q]
      cases dy with
      | str z => exact absurd ⟨z, rfl⟩ hz
      | _ => rfl
    unfold inAt at q1
    cases qs : seqOf s dy with
    | some ds =>
      simp only [qs] at q1
      split at q1
      · rename_i hf
        cases q1
        obtain ⟨p, xs, rfl, rl, hq⟩ := ry.seq hv qs
        rw [hK] at hq
        exact .inr (.inl ⟨p, xs, rfl, hq, rx.flat hf.1, rl.flat hf.2, (RepL.inV rx hf.1 rl hf.2).symm⟩)
      · cases q1
    | none =>
      simp only [qs] at q1
      cases qd : dctOf s dy with
      | none => simp only [qd] at q1; cases q1
      | some es =>
        simp only [qd] at q1
        split at q1
        · rename_i hk
          cases q1
          obtain ⟨k, rfl, rfl⟩ := rx.key hk
          obtain ⟨p, kvs, rfl, rd, h1⟩ := ry.dctR hv qd
          refine .inr (.inr ⟨p, valV kvs k, rfl, .inl ⟨kvs, k, h1, rfl, rfl⟩, ?_⟩)
          cases ql : dLook es (keyD k) with
          | none => rw [(rd.look k).2 ql]; rfl
          | some d =>
            obtain ⟨v, h2, _⟩ := (rd.look k).1 d ql
            rw [h2]
            rfl
        · cases q1
theorem om_in (hK : B.K = X.K) (hu : X.A.units + 1 < cLine) : OpM B X (compareOp .In) mIn :=
  ⟨_, OpR.or op_in_sign (OpR.or op_in_seq (op_inD hu)), fun σ G al fm H s x y dx dy Q hv rx ry f => by
    unfold mIn at f
    cases q : inOf s dx dy with
    | none => rw [q] at f; exact False.elim f
    | some b =>
      rw [q] at f
      have k := Fo.pure f hv (.bl b)
      rcases in_ways hK hv rx ry q with ⟨c, z, h1, h2, e⟩ | ⟨p, xs, h1, h2, h3, h4, e⟩ | ⟨a, ov, h1, h2, e⟩
      · exact .inl ⟨c, z, h1, h2, by rw [← e]; exact k⟩
      · exact .inr (.inl ⟨p, xs, h1, h2, h3, h4, by rw [if_neg Bool.false_ne_true, ← e]; exact k⟩)
      · exact .inr (.inr ⟨a, ov, h1, h2, by rw [← e]; exact k⟩)⟩
theorem om_notIn (hK : B.K = X.K) (hu : X.A.units + 1 < cLine) : OpM B X (compareOp .NotIn) mNotIn :=
  ⟨_, OpR.or op_notIn_sign (OpR.or op_notIn_seq (op_notInD hu)), fun σ G al fm H s x y dx dy Q hv rx ry f => by
    unfold mNotIn at f
    cases q : inOf s dx dy with
    | none => rw [q] at f; exact False.elim f
    | some b =>
      rw [q] at f
      have k := Fo.pure f hv (.bl !b)
      rcases in_ways hK hv rx ry q with ⟨c, z, h1, h2, e⟩ | ⟨p, xs, h1, h2, h3, h4, e⟩ | ⟨a, ov, h1, h2, e⟩
      · exact .inl ⟨c, z, h1, h2, by rw [← e]; exact k⟩
      · exact .inr (.inl ⟨p, xs, h1, h2, h3, h4, by rw [if_pos rfl, ← e]; exact k⟩)
      · exact .inr (.inr ⟨a, ov, h1, h2, by rw [← e]; exact k⟩)⟩
end
end PM
set_option Elab.async false
set_option linter.all false
set_option maxRecDepth 100000
set_option maxHeartbeats 1000000
/-! Pm13: dict comprehensions, slices, texts, displays of dicts. -/
namespace PM
open PySem PySem.Spec PyProof.Rows L2

/-! ### {k: v for ..} -/
open Classical in
noncomputable def dcG (gd : Store → Prop) (mt : D → M Bool) (mk mv : D → M D) : List D → List (D × D) → M (List (D × D))
  | [], acc => fun s => if gd s then .ok acc s else .bad
  | d :: r, acc => fun s => if gd s then (do
    let b ← noErr (mt d)
    if b = true then do
      let k ← noErr (mk d)
      let v ← noErr (mv d)
      guardM (isKey k) (dcG gd mt mk mv r (dPut acc k v))
    else dcG gd mt mk mv r acc) s else .bad
def dcM (mt : D → M Bool) (mk mv : D → M D) : List D → List (D × D) → M (List (D × D))
  | [], acc => pure acc
  | d :: r, acc => do
    let b ← noErr (mt d)
    if b = true then do
      let k ← noErr (mk d)
      let v ← noErr (mv d)
      guardM (isKey k) (dcM mt mk mv r (dPut acc k v))
    else dcM mt mk mv r acc
section
variable (gd : Store → Prop) (mt : D → M Bool) (mk mv : D → M D)
theorem dcG_nil (acc : List (D × D)) (s : Store) (h : gd s) : dcG gd mt mk mv [] acc s = .ok acc s := by
  unfold dcG
  rw [if_pos h]
theorem dcG_not (ds : List D) (acc : List (D × D)) (s : Store) (h : ¬ gd s) : dcG gd mt mk mv ds acc s = .bad := by
  cases ds with
  | nil => unfold dcG; rw [if_neg h]
  | cons d r => unfold dcG; rw [if_neg h]
theorem dcG_cons (d : D) (r : List D) (acc : List (D × D)) (s : Store) (h : gd s) : dcG gd mt mk mv (d :: r) acc s = (noErr (mt d) >>= fun b => if b = true then (noErr (mk d) >>= fun k => noErr (mv d) >>= fun v => guardM (isKey k) (dcG gd mt mk mv r (dPut acc k v))) else dcG gd mt mk mv r acc) s := by
  conv => lhs; unfold dcG
  rw [if_pos h]
theorem dcG_yes : ∀ ds acc, dcG yes mt mk mv ds acc = dcM mt mk mv ds acc
  | [], acc => funext fun s => dcG_nil yes mt mk mv acc s True.intro
  | d :: r, acc => by
    funext s
    rw [dcG_cons yes mt mk mv d r acc s True.intro, show dcG yes mt mk mv r = dcM mt mk mv r from funext fun a => dcG_yes r a]
    rfl
end
noncomputable def dcomp (mt : D → M Bool) (mk mv : D → M D) (a : Itm) : M (List (D × D)) := fits a.ds.length (dcG a.gd mt mk mv a.ds [])
theorem dcomp_yes (mt : D → M Bool) (mk mv : D → M D) (ds : List D) : dcomp mt mk mv ⟨yes, ds⟩ = fits ds.length (dcM mt mk mv ds []) := by
  unfold dcomp
  rw [dcG_yes]
theorem dPut_len (es : List (D × D)) (k v : D) : (dPut es k v).length ≤ es.length + 1 := by
  unfold dPut
  split
  · rw [List.length_map]; omega
  · rw [List.length_append]; simp
section
variable {B : Bx} {X : Cx} {Γ : List Slot}
theorem dc_read {tg iter kx vx : Expr} {ifs : List Expr} {scope : Scope} {own : List (Str × Nat)} {mi : M Itm} {mt : D → M Bool} {mk mv : D → M D} (tgt : Tg) (hK : B.K = X.K) (hi : QI B X tg iter Γ mi)
    (hsub : ∀ j ∈ tgt.slots, j ∈ own.map (·.2))
    (hbad : ∀ d s, tgt.set d (wipeG Γ (own.map (·.2))) = none → mt d s = R.bad)
    (ht : ∀ (s : Shared) (H : Hp) (C : Addr) (cl : List (Str × Addr)) (fp : List Addr) d Γ', tgt.set d (wipeG Γ (own.map (·.2))) = some Γ' → QTs B (X.blk s H scope (compEnvC scope cl C X.env) fp) ifs Γ' (mt d))
    (hk : ∀ (s : Shared) (H : Hp) (C : Addr) (cl : List (Str × Addr)) (fp : List Addr) d Γ', tgt.set d (wipeG Γ (own.map (·.2))) = some Γ' → QE B (X.blk s H scope (compEnvC scope cl C X.env) fp) kx Γ' (mk d))
    (he : ∀ (s : Shared) (H : Hp) (C : Addr) (cl : List (Str × Addr)) (fp : List Addr) d Γ', tgt.set d (wipeG Γ (own.map (·.2))) = some Γ' → QE B (X.blk s H scope (compEnvC scope cl C X.env) fp) vx Γ' (mv d))
    {G : Hp} {al : List Addr} {fm : List (Addr × HO)} {H : Hp} {σ : L2.St} {s : Store} {Q : VK} (hv : HV B G al fm H s) (sl : SL B al G fm σ Γ) (f : Fo B X σ fm G al (kK B fm) ((do let a ← mi; dcomp mt mk mv a) s) Q) :
    tDc (wI X tg iter) (tgt.rd X.K) (iT X scope ifs) (iE X scope kx) (iE X scope vx) (own.map (·.2)) σ H Q := by
  refine hi G al fm H σ s _ hv sl (Fo.bind f fun a s1 J G1 al1 H1 g1 ⟨hv1, wk⟩ f1 => ?_)
  obtain ⟨gd, ds⟩ := a
  unfold dcomp at f1
  rw [fits_run] at f1
  split at f1
  · rename_i hlen
    intro D nD
    have hlen : ds.length ≤ 16777216 := hlen
    refine ⟨fun i m H2 => m = ds.length - i ∧ i ≤ ds.length ∧ ∃ G2 al2 acc accD s2, Grow G1 al1 G2 al2 ∧ HV B G2 al2 ((D, .dK acc) :: fm) H2 s2 ∧ RepD B al2 G2 acc accD ∧ accD.length ≤ i ∧
      Fo B X σ fm G2 al2 (kK B fm) (dcG gd mt mk mv (ds.drop i) accD s2) Q, ⟨ds.length, by omega, Nat.zero_le _, G1, al1, [], [], s1, Grow.refl, hv1.hold nD, .nil, Nat.le_refl _, ?_⟩, ?_⟩
    · rw [List.drop_zero]
      exact f1
    · rintro i m H2 ⟨rfl, hi2, G2, al2, acc, accD, s2, g2, hv2, ra, la, f2⟩
      have hgd : gd s2 := Classical.byContradiction fun z => by
        rw [dcG_not gd mt mk mv _ _ s2 z] at f2
        exact f2
      have w := wk G2 al2 ((D, .dK acc) :: fm) H2 s2 g2 (fun p hp => List.mem_cons_of_mem _ hp) hv2 hgd i
      cases hd : ds[i]? with
      | none =>
        refine .inl ⟨w.2 hd, ?_⟩
        have e0 : ds.drop i = [] := List.drop_eq_nil_iff.mpr (List.getElem?_eq_none_iff.mp hd)
        rw [e0, dcG_nil gd mt mk mv accD s2 hgd] at f2
        exact f2 (.ref D) G2 al2 H2 Grow.refl ⟨D, acc, rfl, hv2, ra⟩
      | some d =>
        obtain ⟨go, yl⟩ := w.1 d hd
        have hlt : i < ds.length := (List.getElem?_eq_some_iff.mp hd).1
        rw [drop_at hd] at f2
        refine .inr ⟨go, fun H3 => i + 1 ≤ ds.length ∧ ∃ G2 al2 acc accD s2, Grow G1 al1 G2 al2 ∧ HV B G2 al2 ((D, .dK acc) :: fm) H3 s2 ∧ RepD B al2 G2 acc accD ∧ accD.length ≤ i + 1 ∧
          Fo B X σ fm G2 al2 (kK B fm) (dcG gd mt mk mv (ds.drop (i + 1)) accD s2) Q, fun H3 h3 => ⟨ds.length - (i + 1), by omega, rfl, h3.1, h3.2⟩, fun x H3 hy => ?_⟩
        obtain ⟨G3, g3, hv3, rx⟩ := yl x H3 hy
        have sl3 : SL B al2 G3 ((D, .dK acc) :: fm) (L2.wipe σ (own.map (·.2))) (wipeG Γ (own.map (·.2))) := (((sl.mono g1).mono g2).mono g3).wipe _ |>.more
        rw [dcG_cons gd mt mk mv d _ accD s2 hgd] at f2
        have f3 := Fo.grow g3 f2
        have nbt : noErr (mt d) s2 ≠ .bad := fun z => by
          rw [bind_bad z] at f3
          exact f3
        have hset : ∃ Γ', tgt.set d (wipeG Γ (own.map (·.2))) = some Γ' := by
          cases hz : tgt.set d (wipeG Γ (own.map (·.2))) with
          | some Γ' => exact ⟨Γ', rfl⟩
          | none => exact absurd (by unfold noErr; rw [hbad d s2 hz]) nbt
        obtain ⟨Γ', hset⟩ := hset
        refine Tg.ok hK hv3 sl3 rx hset fun σ2 sl4 hw => ⟨by rw [hw _ hsub]; exact wipe_wipe _ _, fun s0 H0 C cl fp => ?_⟩
        refine ht s0 H0 C cl fp d Γ' hset G3 al2 ((D, .dK acc) :: fm) H3 σ2 s2 _ hv3 sl4 (noErr_fo nbt fun b s4 hb b' G4 al4 H4 g4 ⟨hv4, ebb⟩ => ?_)
        subst ebb
        have hb' : noErr (mt d) s2 = .ok b s4 := by unfold noErr; rw [hb]
        rw [bind_ok hb'] at f3
        have f4 := Fo.grow g4 f3
        cases b with
        | false =>
          show _ ∧ _
          exact ⟨hlt, G4, al4, acc, accD, s4, ((g2.trans g3).trans g4), hv4, (ra.mono g3).mono g4, Nat.le_succ_of_le la, f4⟩
        | true =>
          show iE X scope kx σ2 H4 _
          intro s5 H5 C5 cl5 fp5
          rw [if_pos rfl] at f4
          have nbk : noErr (mk d) s4 ≠ .bad := fun z => by
            rw [bind_bad z] at f4
            exact f4
          refine hk s5 H5 C5 cl5 fp5 d Γ' hset G4 al4 ((D, .dK acc) :: fm) H4 σ2 s4 _ hv4 (sl4.mono g4) (noErr_fo nbk fun y s6 hy6 v6 G6 al6 H6 g6 ⟨hv6, r6⟩ => ?_)
          have hy' : noErr (mk d) s4 = .ok y s6 := by unfold noErr; rw [hy6]
          rw [bind_ok hy'] at f4
          have f6 := Fo.grow g6 f4
          intro s7 H7 C7 cl7 fp7
          have nbv : noErr (mv d) s6 ≠ .bad := fun z => by
            rw [bind_bad z] at f6
            exact f6
          refine he s7 H7 C7 cl7 fp7 d Γ' hset G6 al6 ((D, .dK acc) :: fm) H6 σ2 s6 _ hv6 ((sl4.mono g4).mono g6) (noErr_fo nbv fun z s8 hz8 v8 G8 al8 H8 g8 ⟨hv8, r8⟩ => ?_)
          have hz' : noErr (mv d) s6 = .ok z s8 := by unfold noErr; rw [hz8]
          rw [bind_ok hz', guardM_run] at f6
          have f8 := Fo.grow g8 f6
          split at f8
          · rename_i hkey
            obtain ⟨kk, rfl, rfl⟩ := r6.key hkey
            have ra8 := (((ra.mono g3).mono g4).mono g6).mono g8
            refine ⟨acc, kk, rfl, (hv8.fr (D, .dK acc) List.mem_cons_self).1, by rw [ra8.length, sizeLine_eq]; omega, hlt, G8, al8, _, _, s8, ((((g2.trans g3).trans g4).trans g6).trans g8), hv8.put, ra8.put kk r8, ?_, f8⟩
            have := dPut_len accD (keyD kk) z
            omega
          · exact False.elim f8
  · exact False.elim f1
variable {tg iter kx vx : Expr} {ifs : List Expr} {scope : Scope} {own : List (Str × Nat)} {pos : Pos} {mi : M Itm}
theorem qk_dc (j : Nat) {mt : D → M Bool} {mk mv : D → M D} (hK : B.K = X.K) (C : CompOk X tg iter scope own (.one j)) (hi : QI B X tg iter Γ mi)
    (ht : ∀ (s : Shared) (H : Hp) (C : Addr) (cl : List (Str × Addr)) (fp : List Addr) d, QTs B (X.blk s H scope (compEnvC scope cl C X.env) fp) ifs ((wipeG Γ (own.map (·.2))).set j (.d d)) (mt d))
    (hk : ∀ (s : Shared) (H : Hp) (C : Addr) (cl : List (Str × Addr)) (fp : List Addr) d, QE B (X.blk s H scope (compEnvC scope cl C X.env) fp) kx ((wipeG Γ (own.map (·.2))).set j (.d d)) (mk d))
    (he : ∀ (s : Shared) (H : Hp) (C : Addr) (cl : List (Str × Addr)) (fp : List Addr) d, QE B (X.blk s H scope (compEnvC scope cl C X.env) fp) vx ((wipeG Γ (own.map (·.2))).set j (.d d)) (mv d)) :
    QK B X (.DictComp kx vx [⟨tg, iter, ifs, 0⟩] scope pos) Γ (do let a ← mi; dcomp mt mk mv a) := fun G al fm H σ s Q hv sl f =>
  wE_of (pe_dc C.hc C.hN wI_ok C.ok C.hg iT_ok iE_ok iE_ok C.hs) (dc_read (.one j) hK hi C.hsub (fun _ _ h => nomatch h) (fun s H C cl fp d Γ' h => by cases h; exact ht s H C cl fp d) (fun s H C cl fp d Γ' h => by cases h; exact hk s H C cl fp d) (fun s H C cl fp d Γ' h => by cases h; exact he s H C cl fp d) hv sl f)
theorem qk_dcT (j k : Nat) {mt : D → D → M Bool} {mk mv : D → D → M D} (hK : B.K = X.K) (C : CompOk X tg iter scope own (.tup [j, k])) (hi : QI B X tg iter Γ mi)
    (ht : ∀ (s : Shared) (H : Hp) (C : Addr) (cl : List (Str × Addr)) (fp : List Addr) a b, QTs B (X.blk s H scope (compEnvC scope cl C X.env) fp) ifs (((wipeG Γ (own.map (·.2))).set j (.d a)).set k (.d b)) (mt a b))
    (hk : ∀ (s : Shared) (H : Hp) (C : Addr) (cl : List (Str × Addr)) (fp : List Addr) a b, QE B (X.blk s H scope (compEnvC scope cl C X.env) fp) kx (((wipeG Γ (own.map (·.2))).set j (.d a)).set k (.d b)) (mk a b))
    (he : ∀ (s : Shared) (H : Hp) (C : Addr) (cl : List (Str × Addr)) (fp : List Addr) a b, QE B (X.blk s H scope (compEnvC scope cl C X.env) fp) vx (((wipeG Γ (own.map (·.2))).set j (.d a)).set k (.d b)) (mv a b)) :
    QK B X (.DictComp kx vx [⟨tg, iter, ifs, 0⟩] scope pos) Γ (do let a ← mi; dcomp (un2 mt) (un2 mk) (un2 mv) a) := fun G al fm H σ s Q hv sl f =>
  wE_of (pe_dc C.hc C.hN wI_ok C.ok C.hg iT_ok iE_ok iE_ok C.hs) (dc_read (.tup [j, k]) hK hi C.hsub (fun _ _ h => un2_bad h) (fun s H C cl fp d Γ' h => by obtain ⟨a, b, rfl, rfl⟩ := set2 h; exact ht s H C cl fp a b) (fun s H C cl fp d Γ' h => by obtain ⟨a, b, rfl, rfl⟩ := set2 h; exact hk s H C cl fp a b) (fun s H C cl fp d Γ' h => by obtain ⟨a, b, rfl, rfl⟩ := set2 h; exact he s H C cl fp a b) hv sl f)
/-! ### {} -/
theorem qk_new : QK B X (.Dict [] [] pos) Γ (pure []) := fun G al fm H σ s Q hv sl f => wE_of pe_dnewK fun p np => f _ G al _ Grow.refl ⟨p, [], rfl, hv.hold np, .nil⟩
/-! ### slices -/
end
/-- a bound of a slice -/
def wO (X : Cx) (e : Option Expr) : TO := fun σ H Q => ∃ t, PO X e t ∧ t σ H Q
theorem wO_ok {X : Cx} {e : Option Expr} : PO X e (wO X e) := ⟨fun pins s σ H Q I h => by
  obtain ⟨t, p, q⟩ := h
  exact p.run pins s σ H Q I q⟩
def kO : Kd (Option Int) (Option Int) := fun B fm G al d v s H => HV B G al fm H s ∧ d = v
def QO (B : Bx) (X : Cx) (e : Option Expr) (Γ : List Slot) (m : M (Option Int)) : Prop := Qj B X (wO X e) kO Γ m
def asIx (d : D) : M (Option Int) := match d with
  | .int i => pure (some i)
  | _ => bad
def cutD {α : Type} (xs : List α) (lo hi : Option Int) : List α := (xs.drop (HT.sIx xs.length 0 lo)).take (HT.sIx xs.length xs.length hi - HT.sIx xs.length 0 lo)
def sliceOf (s : Store) (x : D) (lo hi : Option Int) : Option D := match x with
  | .str z => if z.length ≤ 16777216 then some (.str ⟨(cutD z.cps.toList lo hi).toArray⟩) else none
  | .tup ds => some (.tup (cutD ds lo hi))
  | x => (seqOf s x).map fun ds => .lst (cutD ds lo hi)
def mSlice (x : D) (lo hi : Option Int) : M D := fun s => match sliceOf s x lo hi with
  | some d => .ok d s
  | none => .bad
section
variable {B : Bx} {X : Cx} {Γ : List Slot} {e : Expr} {lo hi : Option Expr} {m : M D} {pos p2 : Pos}
theorem qo_none : QO B X none Γ (pure none) := fun G al fm H σ s Q hv sl f => ⟨_, po_none, f none G al H Grow.refl ⟨hv, rfl⟩⟩
theorem qo_some (h : QE B X e Γ m) : QO B X (some e) Γ (do let d ← m; asIx d) := fun G al fm H σ s Q hv sl f => by
  refine ⟨_, po_some wE_ok, h G al fm H σ s _ hv sl (Fo.bind f fun d s' v G' al' H' g ⟨hv', rp⟩ f' => ?_)⟩
  cases rp with
  | int i => exact ⟨i, rfl, f' _ G' al' H' Grow.refl ⟨hv', rfl⟩⟩
  | _ => exact False.elim f'
theorem RepL.cut {al : List Addr} {G : Hp} {xs : List V} {ds : List D} (r : RepL B al G xs ds) (lo hi : Option Int) : RepL B al G (cutV xs lo hi) (cutD ds lo hi) := by
  have dr : ∀ (n : Nat) {xs : List V} {ds : List D}, RepL B al G xs ds → RepL B al G (xs.drop n) (ds.drop n) := by
    intro n
    induction n with
    | zero => intro xs ds r; exact r
    | succ n ih =>
      intro xs ds r
      cases r with
      | nil => exact .nil
      | cons h t => exact ih t
  have tk : ∀ (n : Nat) {xs : List V} {ds : List D}, RepL B al G xs ds → RepL B al G (xs.take n) (ds.take n) := by
    intro n
    induction n with
    | zero => intro xs ds r; exact .nil
    | succ n ih =>
      intro xs ds r
      cases r with
      | nil => exact .nil
      | cons h t => exact .cons h (ih t)
  unfold cutV cutD
  rw [r.length]
  exact tk _ (dr _ r)
theorem cut_whole {α : Type} {xs : List α} {lo hi : Option Int} (h : HT.sIx xs.length 0 lo = 0 ∧ HT.sIx xs.length xs.length hi = xs.length) : cutD xs lo hi = xs := by
  unfold cutD
  rw [h.1, h.2]
  simp
theorem qe_slice (hK : B.K = X.K) {ml mh : M (Option Int)} (he : QH B X e Γ m) (hl : QO B X lo Γ ml) (hh : QO B X hi Γ mh) : QE B X (.Subscript e (.Slice lo hi none p2) pos) Γ (do let x ← m; let l ← ml; let h ← mh; mSlice x l h) := fun G al fm H σ s Q hv sl f => by
  refine wE_of (pe_slice (SlR.or sl_str (SlR.or sl_tupA sl_list)) wE_ok wO_ok wO_ok) (he G al fm H σ s _ hv sl (Fo.bind f fun d s' v G' al' H' g ⟨hv', rp⟩ f' => ?_))
  refine hl G' al' fm H' σ s' _ hv' (sl.mono g) (Fo.bind f' fun l s2 l' G2 al2 H2 g2 ⟨hv2, el⟩ f2 => ?_)
  subst el
  refine hh G2 al2 fm H2 σ s2 _ hv2 ((sl.mono g).mono g2) (Fo.bind f2 fun h s3 h' G3 al3 H3 g3 ⟨hv3, eh⟩ f3 => ?_)
  subst eh
  have rp := (rp.mono g2).mono g3
  unfold mSlice at f3
  cases q : sliceOf s3 d l h with
  | none => rw [q] at f3; exact False.elim f3
  | some r =>
    rw [q] at f3
    have newL : ∀ ds, (∀ es, d ≠ .tup es) → seqOf s3 d = some ds → r = .lst (cutD ds l h) → rSlL X.K v l h H3 Q := fun ds nt qs er => by
      obtain ⟨p, xs, rfl, rl, hq⟩ := rp.seqL hv3 nt qs
      rw [hK] at hq
      subst er
      refine ⟨p, xs, rfl, hq, fun z nz => ?_⟩
      have gr := Grow.new (al := al3) (o := .lst (cutV xs l h)) (hv3.none_g nz)
      exact f3 _ _ al3 _ gr ⟨hv3.new nz, .lst upd_same ((rl.cut l h).mono gr)⟩
    cases d with
    | str z =>
      have q' : (if z.length ≤ 16777216 then some (D.str ⟨(cutD z.cps.toList l h).toArray⟩) else none) = some r := q
      split at q'
      · rename_i hz
        cases q'
        cases rp.str
        refine .inl ⟨z, rfl, by rw [sizeLine_eq]; exact hz, ?_⟩
        have e : cutS z l h = ⟨(cutD z.cps.toList l h).toArray⟩ := rfl
        rw [e]
        exact f3 _ G3 al3 H3 Grow.refl ⟨hv3, .str _⟩
      · cases q'
    | tup ds =>
      cases (show some (D.tup (cutD ds l h)) = some r from q)
      obtain ⟨p, xs, rfl, rl, hq⟩ := rp.tupAt hv3
      rw [hK] at hq
      refine .inr (.inl ⟨p, xs, rfl, hq, fun w => ?_, fun _ z nz => ?_⟩)
      · rw [rl.length] at w
        rw [cut_whole w] at f3
        cases rp with
        | rep rp => exact f3 _ G3 al3 H3 Grow.refl ⟨hv3, rp⟩
      · have gr := Grow.new (al := al3) (o := .tup (cutV xs l h)) (hv3.none_g nz)
        exact f3 _ _ al3 _ gr ⟨hv3.new nz, .tup (.inl (.inl upd_same)) ((rl.cut l h).mono gr)⟩
    | lst ds => exact .inr (.inr (newL ds (fun _ z => nomatch z) rfl (Option.some.inj q).symm))
    | scr ns => exact .inr (.inr (newL _ (fun _ z => nomatch z) rfl (Option.some.inj q).symm))
    | cel n =>
      obtain ⟨ds, qs, er⟩ := Option.map_eq_some_iff.mp (show (seqOf s3 (.cel n)).map (fun ds => D.lst (cutD ds l h)) = some r from q)
      exact .inr (.inr (newL ds (fun _ z => nomatch z) qs er.symm))
    | _ => cases q
/-! ### texts -/
def mJoin (x y : D) : M D := fun s => match x, seqOf s y with
  | .str a, some ds => (match asStrs ds with
    | some ys => if (ys.map (·.length)).sum + ys.length * a.length ≤ 16777216 then .ok (.str (Txt.join a ys)) s else .bad
    | none => .bad)
  | _, _ => .bad
theorem qe_join {a : Str} {ca : Nat} {cpos : Pos} {m2 : M D} {apos : Pos} (hK : B.K = X.K) (he : QH B X e Γ m2) (hs : starEach [e] X.env = [(false, eval e X.env)] := by rfl) (hbase : attributeBase (.Constant (.str a) ca cpos) "join" X.env (eval (.Constant (.str a) ca cpos) X.env) = eval (.Constant (.str a) ca cpos) X.env := by rfl) (hline : (apos.endLine == pos.line) = true := by rfl) :
    QE B X (.Call (.Attribute (.Constant (.str a) ca cpos) "join" apos) [e] [] pos) Γ (do let y ← m2; mJoin (.str a) y) := fun G al fm H σ s Q hv sl f => by
  refine wE_of (pe_join pe_str wE_ok hs hbase hline) ?_
  refine ⟨⟨a, rfl⟩, he G al fm H σ s _ hv sl (Fo.bind f fun d2 s2 v2 G2 al2 H2 g2 ⟨hv2, rp2⟩ f2 => ?_)⟩
  unfold mJoin at f2
  cases qs : seqOf s2 d2 with
  | none => simp only [qs] at f2; exact False.elim f2
  | some ds =>
    simp only [qs] at f2
    cases qa : asStrs ds with
    | none => simp only [qa] at f2; exact False.elim f2
    | some ys =>
      simp only [qa] at f2
      split at f2
      · rename_i hl
        obtain ⟨p, xs, rfl, rl, hq⟩ := rp2.seq hv2 qs
        rw [hK] at hq
        rw [asStrs_eq qa] at rl
        rw [rl.strs] at hq
        exact ⟨a, p, ys, rfl, rfl, hq, hl, f2 _ G2 al2 H2 Grow.refl ⟨hv2, .str _⟩⟩
      · exact False.elim f2
end
end PM
set_option Elab.async false
set_option linter.all false
set_option maxRecDepth 100000
set_option maxHeartbeats 200000
/-! Pm14: shared cells; stores. -/
namespace PM
open PySem PySem.Spec PyProof.Rows L2

/-! ### cells -/
section
variable {B : Bx} {G H : Hp} {al : List Addr} {fm : List (Addr × HO)} {s : Store}
theorem MRep.live {o : HO} {mc : MC} (h : MRep B al G o mc) : mc ≠ .dead := fun z => by subst z; cases h
/-- what is held becomes a shared cell -/
theorem HV.toCell {p : Addr} {o : HO} {mc : MC} (h : HV B G al ((p, o) :: fm) H s) (r : MRep B al G o mc) : HV B G (al ++ [p]) fm H (s ++ [mc]) ∧ Grow G al G (al ++ [p]) := by
  have hn := h.nd
  rw [List.map_cons] at hn
  have hn' := List.nodup_cons.mp (List.perm_middle.nodup_iff.mp hn)
  have gr : Grow G al G (al ++ [p]) := ⟨fun _ _ e => e, fun n a e => by
    rw [List.getElem?_append_left (List.getElem?_eq_some_iff.mp e).1]
    exact e⟩
  have hp := h.fr (p, o) List.mem_cons_self
  refine ⟨⟨h.ex, fun q hq => h.fr q (List.mem_cons_of_mem _ hq), by rw [List.length_append, List.length_append, h.len]; rfl, fun n a mc' h1 h2 => ?_, ?_⟩, gr⟩
  · by_cases hlt : n < al.length
    · rw [List.getElem?_append_left hlt] at h1
      rw [List.getElem?_append_left (by rw [← h.len]; exact hlt)] at h2
      exact (h.ce n a mc' h1 h2).keep gr (fun z => z) fun _ z => z
    · rw [List.getElem?_append_right (by omega)] at h1
      rw [List.getElem?_append_right (by rw [← h.len]; omega), ← h.len] at h2
      cases q : n - al.length with
      | succ k => rw [q] at h1; simp at h1
      | zero =>
        rw [q] at h1 h2
        simp at h1 h2
        subst h1; subst h2
        exact .of hp.2 hp.1 (r.mono gr)
  · rw [List.append_assoc]
    exact hn
/-- a shared cell changes -/
theorem HV.cellPut {n : Nat} {a : Addr} {mc mc' : MC} {o' : HO} (h : HV B G al fm H s) (h1 : al[n]? = some a) (h2 : s[n]? = some mc) (hl : mc ≠ .dead) (r : MRep B al G o' mc') : HV B G al fm (upd H a o') (s.set n mc') := by
  obtain ⟨ga, o, ha, _⟩ := (h.ce n a mc h1 h2).live hl
  have nda := List.nodup_append.mp h.nd
  have ma : a ∈ al := List.mem_of_getElem? h1
  have na : ∀ q ∈ fm, q.1 ≠ a := fun q hq z => nda.2.2 a ma q.1 (List.mem_map.mpr ⟨q, hq, rfl⟩) z.symm
  refine ⟨fun b u q => ?_, fun q hq => ?_, by rw [List.length_set]; exact h.len, fun m b mc2 q1 q2 => ?_, h.nd⟩
  · rw [upd_ne (ne_of_none q ga)]
    exact h.ex b u q
  · rw [upd_ne (na q hq)]
    exact h.fr q hq
  · by_cases e : m = n
    · subst e
      rw [h1] at q1
      cases q1
      rw [List.getElem?_set_self (List.getElem?_eq_some_iff.mp h2).1] at q2
      cases q2
      exact .of ga upd_same r
    · rw [List.getElem?_set_ne (Ne.symm e)] at q2
      have ne : b ≠ a := fun z => by
        subst z
        obtain ⟨l1, e1⟩ := List.getElem?_eq_some_iff.mp h1
        obtain ⟨l2, e2⟩ := List.getElem?_eq_some_iff.mp q1
        have pw := List.pairwise_iff_getElem.mp nda.1
        rcases Nat.lt_or_gt_of_ne e with z | z
        · exact pw m n l2 l1 z (e2.trans e1.symm)
        · exact pw n m l1 l2 z (e1.trans e2.symm)
      exact (h.ce m b mc2 q1 q2).keep Grow.refl (fun z => z) fun o z => by rw [upd_ne ne]; exact z
end
def newC (mc : MC) : M D := fun s => .ok (.cel s.length) (s ++ [mc])
section
variable {B : Bx} {X : Cx} {Γ : List Slot} {e : Expr}
/-- a new list, dict as a shared cell -/
theorem qe_cL {m : M (List D)} (h : QL B X e Γ m) : QE B X e Γ (do let ds ← m; newC (.lst ds)) := fun G al fm H σ s Q hv sl f => by
  refine h G al fm H σ s Q hv sl (Fo.bind f fun ds s' v G' al' H' g ⟨p, xs, ev, hv', rp⟩ f' => ?_)
  subst ev
  obtain ⟨hv2, g2⟩ := hv'.toCell (.lst rp)
  refine f' (.ref p) G' _ H' g2 ⟨hv2, .cel ?_⟩
  rw [← hv'.len]
  simp
theorem qe_cK {m : M (List (D × D))} (h : QK B X e Γ m) : QE B X e Γ (do let ds ← m; newC (.dct ds)) := fun G al fm H σ s Q hv sl f => by
  refine h G al fm H σ s Q hv sl (Fo.bind f fun ds s' v G' al' H' g ⟨p, xs, ev, hv', rp⟩ f' => ?_)
  subst ev
  obtain ⟨hv2, g2⟩ := hv'.toCell (.dct rp)
  refine f' (.ref p) G' _ H' g2 ⟨hv2, .cel ?_⟩
  rw [← hv'.len]
  simp
end
/-! ### stores to what a body owns -/
theorem RepL.put {B : Bx} {al : List Addr} {G : Hp} {v : V} {d : D} (h : Rep B al G v d) : ∀ {xs : List V} {ds : List D} (n : Nat), RepL B al G xs ds → RepL B al G (xs.set n v) (ds.set n d)
  | _, _, _, .nil => .nil
  | _, _, 0, .cons _ r => .cons h r
  | _, _, n + 1, .cons h0 r => .cons h0 (RepL.put h n r)
theorem ixN_eq (n : Nat) (i : Int) : PM.ixN n i = L2.ixN n i := rfl
/-- the place of an index -/
def ixD (n : Nat) (d : D) : Option Nat := match d with
  | .int i => ixN n i
  | _ => none
section
variable {B : Bx} {X : Cx} {Γ : List Slot} {e i1 o1 : Expr} {rest : List Stmt} {pos pos' : Pos} {α β : Type} {γ : α → List Slot} {δ : β → List Slot} {me mi mo : M D}
/-- x[i] = e, x an owned list -/
theorem qs_putL (i : Nat) {ds : List D} {x : Str} {p0 : Pos} {k : List D → M (Fl α β)} (he : QE B X e Γ me) (hi : QE B X i1 Γ mi) (hk : ∀ ds', QS B X rest (Γ.set i (.l ds')) γ δ (k ds')) (h : Γ[i]? = some (.l ds) := by rfl) (hN : X.N[i]? = some x := by rfl) (hvx : Vis X.env.scope x := by first | exact Or.inl rfl | exact Or.inr (Or.inl rfl) | exact Or.inr (Or.inr rfl)) (hd : (x == ("__debug__" : Str)) = false := by decide)
    (hcd : (x == ("__classdict__" : Str)) = false := by decide) (ha : ∀ v, assign (.Subscript (.Name x p0) i1 pos') X.env v = (do
      let ov ← holding [v] (eval (.Name x p0) X.env)
      let iv ← holding [v, ov] (eval i1 X.env)
      standAt pos'
      holding [v, ov, iv] (setItem ov iv v)
      release [v, ov, iv] []) := by intro _; rfl)
    (hs : swapsWithSole [.Subscript (.Name x p0) i1 pos'] e pos.line X.env = pure false := by rfl) (hw : swappedStores [.Subscript (.Name x p0) i1 pos'] e X.env = pure none := by rfl) (h1 : (assignEach [.Subscript (.Name x p0) i1 pos'] X.env).map (·.2) = [assign (.Subscript (.Name x p0) i1 pos') X.env] := by rfl) :
    QS B X (.Assign [.Subscript (.Name x p0) i1 pos'] e pos :: rest) Γ γ δ (do
      let v ← me
      let j ← mi
      match ixD ds.length j with
      | some n => k (ds.set n v)
      | none => bad) := fun G al fo ow H σ s E hv sl f => by
  refine ⟨_, pss_cons (ps_asg wE_ok (pg_sub (pe_var hN hvx hd hcd) wE_ok set_list ha) hs hw h1) wSs_ok, ?_⟩
  refine he G al (ow ++ fo) H σ s _ hv sl.all (FolS.bind f fun d s' v G' al' H' g ⟨hv', rp⟩ f' => ?_)
  have li : i < σ.length := by rw [sl.len]; exact (List.getElem?_eq_some_iff.mp h).1
  have hx := List.getElem?_eq_getElem li
  obtain ⟨p, xs, e1, e2, r⟩ := sl.at_ i _ _ h hx
  rw [e1] at hx
  refine ⟨.ref p, hx, hi G' al' (ow ++ fo) H' σ s' _ hv' (sl.mono g).all (FolS.bind f' fun j s2 vj G2 al2 H2 g2 ⟨hv2, rj⟩ f2 => ?_)⟩
  have r' := (r.mono g).mono g2
  cases q : ixD ds.length j with
  | none => simp only [q] at f2; exact False.elim f2
  | some n =>
    simp only [q] at f2
    cases rj with
    | int z =>
      have h1 : H2 p = some (.lst xs) := (hv2.fr (p, .lst xs) (List.mem_append_left _ e2)).1
      obtain ⟨ow', hv3, hsub⟩ := own_take hv2 e2
      refine ⟨p, xs, z, n, rfl, rfl, h1, by rw [r.length]; exact q, ?_⟩
      exact hk _ G2 al2 fo ((p, .lst (xs.set n v)) :: ow') _ σ s2 E hv3.put (((sl.mono g).mono g2).anew h hx rfl (fun q hq ne => List.mem_cons_of_mem _ (hsub q hq ne)) ⟨p, _, rfl, List.mem_cons_self, r'.put (rp.mono g2) n⟩) f2
    | _ => cases q
/-- x[k] = e, x an owned dict -/
theorem qs_putK (i : Nat) (hu : X.A.units + 1 < cLine) {ds : List (D × D)} {x : Str} {p0 : Pos} {k : List (D × D) → M (Fl α β)} (he : QE B X e Γ me) (hi : QE B X i1 Γ mi) (hk : ∀ ds', QS B X rest (Γ.set i (.k ds')) γ δ (k ds')) (h : Γ[i]? = some (.k ds) := by rfl) (hN : X.N[i]? = some x := by rfl) (hvx : Vis X.env.scope x := by first | exact Or.inl rfl | exact Or.inr (Or.inl rfl) | exact Or.inr (Or.inr rfl)) (hd : (x == ("__debug__" : Str)) = false := by decide)
    (hcd : (x == ("__classdict__" : Str)) = false := by decide) (hs : swapsWith e (some (.Subscript (.Name x p0) i1 pos')) pos.line X.env = pure false := by rfl) :
    QS B X (.Assign [.Subscript (.Name x p0) i1 pos'] e pos :: rest) Γ γ δ (do
      let v ← me
      let j ← mi
      guardM (isKey j) (fits (ds.length + 1) (k (dPut ds j v)))) := fun G al fo ow H σ s E hv sl f => by
  refine ⟨_, pss_cons (ps_dput hu (pe_var hN hvx hd hcd) wE_ok wE_ok hs) wSs_ok, ?_⟩
  refine he G al (ow ++ fo) H σ s _ hv sl.all (FolS.bind f fun d s' v G' al' H' g ⟨hv', rp⟩ f' => ?_)
  have li : i < σ.length := by rw [sl.len]; exact (List.getElem?_eq_some_iff.mp h).1
  have hx := List.getElem?_eq_getElem li
  obtain ⟨p, xs, e1, e2, r⟩ := sl.at_ i _ _ h hx
  rw [e1] at hx
  refine ⟨.ref p, hx, hi G' al' (ow ++ fo) H' σ s' _ hv' (sl.mono g).all (FolS.bind f' fun j s2 vj G2 al2 H2 g2 ⟨hv2, rj⟩ f2 => ?_)⟩
  have r' := (r.mono g).mono g2
  rw [guardM_run] at f2
  split at f2
  · rename_i hkey
    rw [fits_run] at f2
    split at f2
    · rename_i hl
      obtain ⟨kk, rfl, rfl⟩ := rj.key hkey
      have h1 : H2 p = some (.dK xs) := (hv2.fr (p, .dK xs) (List.mem_append_left _ e2)).1
      obtain ⟨ow', hv3, hsub⟩ := own_take hv2 e2
      refine ⟨p, _, rfl, DPut.k h1 (by rw [r.length, sizeLine_eq]; omega), ?_⟩
      exact hk _ G2 al2 fo ((p, .dK (putK xs kk v)) :: ow') _ σ s2 E hv3.put (((sl.mono g).mono g2).anew h hx rfl (fun q hq ne => List.mem_cons_of_mem _ (hsub q hq ne)) ⟨p, _, rfl, List.mem_cons_self, r'.put kk (rp.mono g2)⟩) f2
    · exact False.elim f2
  · exact False.elim f2
/-! ### stores to a shared list -/
def setCel (x j v : D) : M Unit := fun s => match x with
  | .cel n => (match s[n]? with
    | some (.lst ds) => (match ixD ds.length j with
      | some m => .ok () (s.set n (.lst (ds.set m v)))
      | none => .bad)
    | _ => .bad)
  | _ => .bad
theorem setCel_fol {γ : α → List Slot} {δ : β → List Slot} {G : Hp} {al : List Addr} {fo : List (Addr × HO)} {E : Ends} {s : Store} {x j d : D} {k : M (Fl α β)} (f : FolS B X fo G al γ δ ((setCel x j d >>= fun _ => k) s) E) :
    ∃ n ds m, x = .cel n ∧ s[n]? = some (.lst ds) ∧ ixD ds.length j = some m ∧ FolS B X fo G al γ δ (k (s.set n (.lst (ds.set m d)))) E := by
  rw [bind_run] at f
  unfold setCel at f
  cases x with
  | cel n =>
    cases q : s[n]? with
    | none => simp only [q] at f; exact False.elim f
    | some mc =>
      cases mc with
      | lst ds =>
        simp only [q] at f
        cases qi : ixD ds.length j with
        | none => simp only [qi] at f; exact False.elim f
        | some m =>
          simp only [qi] at f
          exact ⟨n, ds, m, rfl, q, qi, f⟩
      | _ => simp only [q] at f; exact False.elim f
  | _ => exact False.elim f
theorem un2_fol {γ : α → List Slot} {δ : β → List Slot} {G : Hp} {al : List Addr} {fo : List (Addr × HO)} {E : Ends} {s : Store} {d : D} {k : D → D → M (Fl α β)} (f : FolS B X fo G al γ δ (un2 k d s) E) : ∃ a b, d = .tup [a, b] ∧ FolS B X fo G al γ δ (k a b s) E := by
  cases d with
  | tup ds =>
    cases ds with
    | nil => exact False.elim f
    | cons a r =>
      cases r with
      | nil => exact False.elim f
      | cons b r =>
        cases r with
        | nil => exact ⟨a, b, rfl, f⟩
        | cons _ _ => exact False.elim f
  | _ => exact False.elim f
theorem Rep.pair {G H : Hp} {al : List Addr} {fm : List (Addr × HO)} {s : Store} {v : V} {a b : D} (hv : HV B G al fm H s) (r : Rep B al G v (.tup [a, b])) : ∃ p va vb, v = .ref p ∧ SqT B.K H p [va, vb] ∧ Rep B al G va a ∧ Rep B al G vb b := by
  cases r with
  | tup h1 r1 =>
    cases r1 with
    | cons ra r2 =>
      cases r2 with
      | cons rb r3 =>
        cases r3
        exact ⟨_, _, _, rfl, hv.ex.sqT h1, ra, rb⟩
/-- the cell's list is set -/
theorem cel_set {G H : Hp} {al : List Addr} {fm : List (Addr × HO)} {s : Store} {vo vj v : V} {n m : Nat} {ds : List D} {j d : D} {Q : Hp → Prop} (hv : HV B G al fm H s) (ro : Rep B al G vo (.cel n)) (rj : Rep B al G vj j) (r : Rep B al G v d) (h2 : s[n]? = some (.lst ds)) (h3 : ixD ds.length j = some m)
    (k : ∀ H', HV B G al fm H' (s.set n (.lst (ds.set m d))) → Q H') : rSetL vo vj v H Q := by
  cases ro with
  | @cel _ a h1 =>
    obtain ⟨ga, o, ha, mr⟩ := (hv.ce n a _ h1 h2).live (fun z => nomatch z)
    cases mr with
    | @lst xs _ rl =>
      cases rj with
      | int z => exact ⟨a, xs, z, m, rfl, rfl, ha, by rw [rl.length]; exact h3, k _ (hv.cellPut h1 h2 (fun z => nomatch z) (.lst (rl.put r m)))⟩
      | _ => cases h3
/-- o[i] = e, o a shared list -/
theorem qs_putC {k : M (Fl α β)} (he : QE B X e Γ me) (ho : QE B X o1 Γ mo) (hi : QE B X i1 Γ mi) (hk : QS B X rest Γ γ δ k) (ha : ∀ v, assign (.Subscript o1 i1 pos') X.env v = (do
      let ov ← holding [v] (eval o1 X.env)
      let iv ← holding [v, ov] (eval i1 X.env)
      standAt pos'
      holding [v, ov, iv] (setItem ov iv v)
      release [v, ov, iv] []) := by intro _; rfl)
    (hs : swapsWithSole [.Subscript o1 i1 pos'] e pos.line X.env = pure false := by rfl) (hw : swappedStores [.Subscript o1 i1 pos'] e X.env = pure none := by rfl) (h1 : (assignEach [.Subscript o1 i1 pos'] X.env).map (·.2) = [assign (.Subscript o1 i1 pos') X.env] := by rfl) :
    QS B X (.Assign [.Subscript o1 i1 pos'] e pos :: rest) Γ γ δ (do
      let v ← me
      let x ← mo
      let j ← mi
      let _ ← setCel x j v
      k) := fun G al fo ow H σ s E hv sl f => by
  refine ⟨_, pss_cons (ps_asg wE_ok (pg_sub wE_ok wE_ok set_list ha) hs hw h1) wSs_ok, ?_⟩
  refine he G al (ow ++ fo) H σ s _ hv sl.all (FolS.bind f fun d s' v G' al' H' g ⟨hv', rp⟩ f' => ?_)
  refine ho G' al' (ow ++ fo) H' σ s' _ hv' (sl.mono g).all (FolS.bind f' fun x s2 vx G2 al2 H2 g2 ⟨hv2, rx⟩ f2 => ?_)
  refine hi G2 al2 (ow ++ fo) H2 σ s2 _ hv2 ((sl.mono g).mono g2).all (FolS.bind f2 fun j s3 vj G3 al3 H3 g3 ⟨hv3, rj⟩ f3 => ?_)
  obtain ⟨n, ds, m, rfl, q1, q2, f4⟩ := setCel_fol f3
  exact cel_set hv3 (rx.mono g3) rj ((rp.mono g2).mono g3) q1 q2 fun H' hv4 => hk G3 al3 fo ow H' σ _ E hv4 (((sl.mono g).mono g2).mono g3) f4
/-- o[i], y = e, o a shared list, e a pair -/
theorem qs_putCN (jy : Nat) {y : Str} {p2 p3 : Pos} {kk : Nat} {k : D → M (Fl α β)} (hK : B.K = X.K) (he : QE B X e Γ me) (ho : QE B X o1 Γ mo) (hi : QE B X i1 Γ mi) (hk : ∀ d, QS B X rest (Γ.set jy (.d d)) γ δ (k d)) (hN : X.N.Nodup) (hj : X.N[jy]? = some y := by rfl) (hx : Loc X.env.scope y := by first | exact Or.inl rfl | exact Or.inr rfl) (hf : X.fn y = true ∨ X.env.scope.names.lookup y = some .local := by first | exact .inl rfl | exact .inr rfl | assumption) (hc : X.calm = true := by rfl)
    (ha : ∀ v, assign (.Subscript o1 i1 pos') X.env v = (do
      let ov ← holding [v] (eval o1 X.env)
      let iv ← holding [v, ov] (eval i1 X.env)
      standAt pos'
      holding [v, ov, iv] (setItem ov iv v)
      release [v, ov, iv] []) := by intro _; rfl)
    (hs : swapsWithSole [.Tuple [.Subscript o1 i1 pos', .Name y p2] kk p3] e pos.line X.env = pure false := by rfl) (hw : swappedStores [.Tuple [.Subscript o1 i1 pos', .Name y p2] kk p3] e X.env = pure none := by rfl) (h1 : (assignEach [.Tuple [.Subscript o1 i1 pos', .Name y p2] kk p3] X.env).map (·.2) = [assign (.Tuple [.Subscript o1 i1 pos', .Name y p2] kk p3) X.env] := by rfl) :
    QS B X (.Assign [.Tuple [.Subscript o1 i1 pos', .Name y p2] kk p3] e pos :: rest) Γ γ δ (do
      let v ← me
      un2 (fun a b => do
        let x ← mo
        let j ← mi
        let _ ← setCel x j a
        k b) v) := fun G al fo ow H σ s E hv sl f => by
  refine ⟨_, pss_cons (ps_asg wE_ok (pg_tup hc (pgs_cons (pg_sub wE_ok wE_ok set_list ha) (pgs_cons (pg_name hN hj hx hf) pgs_nil))) hs hw h1) wSs_ok, ?_⟩
  refine he G al (ow ++ fo) H σ s _ hv sl.all (FolS.bind f fun d s' v G' al' H' g ⟨hv', rp⟩ f' => ?_)
  obtain ⟨a, b, rfl, f'⟩ := un2_fol f'
  obtain ⟨ad, va, vb, rfl, hq, ra, rb⟩ := rp.pair hv'
  refine ⟨ad, _, rfl, by rw [← hK]; exact hq, rfl, _, _, rfl, ?_⟩
  refine ho G' al' (ow ++ fo) H' σ s' _ hv' (sl.mono g).all (FolS.bind f' fun x s2 vx G2 al2 H2 g2 ⟨hv2, rx⟩ f2 => ?_)
  refine hi G2 al2 (ow ++ fo) H2 σ s2 _ hv2 ((sl.mono g).mono g2).all (FolS.bind f2 fun j s3 vj G3 al3 H3 g3 ⟨hv3, rj⟩ f3 => ?_)
  obtain ⟨n, ds, m, rfl, q1, q2, f4⟩ := setCel_fol f3
  exact cel_set hv3 (rx.mono g3) rj ((ra.mono g2).mono g3) q1 q2 fun H' hv4 => ⟨_, _, rfl, rfl, hk b G3 al3 fo ow H' _ _ E hv4 ((((sl.mono g).mono g2).mono g3).set jy ((rb.mono g2).mono g3)) f4⟩
/-- x, y = e -/
theorem qs_set2 (j1 j2 : Nat) {x y : Str} {p1 p2 p3 : Pos} {kk : Nat} {k : D → D → M (Fl α β)} (hK : B.K = X.K) (he : QE B X e Γ me) (hk : ∀ a b, QS B X rest ((Γ.set j1 (.d a)).set j2 (.d b)) γ δ (k a b)) (hN : X.N.Nodup) (hj : X.N[j1]? = some x := by rfl) (hx : Loc X.env.scope x := by first | exact Or.inl rfl | exact Or.inr rfl) (hf : X.fn x = true ∨ X.env.scope.names.lookup x = some .local := by first | exact .inl rfl | exact .inr rfl | assumption)
    (hj2 : X.N[j2]? = some y := by rfl) (hx2 : Loc X.env.scope y := by first | exact Or.inl rfl | exact Or.inr rfl) (hf2 : X.fn y = true ∨ X.env.scope.names.lookup y = some .local := by first | exact .inl rfl | exact .inr rfl | assumption) (hc : X.calm = true := by rfl)
    (hs : swapsWithSole [.Tuple [.Name x p1, .Name y p2] kk p3] e pos.line X.env = pure false := by rfl) (hw : swappedStores [.Tuple [.Name x p1, .Name y p2] kk p3] e X.env = pure none := by rfl) (h1 : (assignEach [.Tuple [.Name x p1, .Name y p2] kk p3] X.env).map (·.2) = [assign (.Tuple [.Name x p1, .Name y p2] kk p3) X.env] := by rfl) :
    QS B X (.Assign [.Tuple [.Name x p1, .Name y p2] kk p3] e pos :: rest) Γ γ δ (do let v ← me; un2 k v) := fun G al fo ow H σ s E hv sl f => by
  refine ⟨_, pss_cons (ps_asg wE_ok (pg_tup hc (pgs_cons (pg_name hN hj hx hf) (pgs_cons (pg_name hN hj2 hx2 hf2) pgs_nil))) hs hw h1) wSs_ok, ?_⟩
  refine he G al (ow ++ fo) H σ s _ hv sl.all (FolS.bind f fun d s' v G' al' H' g ⟨hv', rp⟩ f' => ?_)
  obtain ⟨a, b, rfl, f'⟩ := un2_fol f'
  obtain ⟨ad, va, vb, rfl, hq, ra, rb⟩ := rp.pair hv'
  refine ⟨ad, _, rfl, by rw [← hK]; exact hq, rfl, _, _, rfl, _, _, rfl, rfl, ?_⟩
  exact hk a b G' al' fo ow H' _ s' E hv' (((sl.mono g).set j1 ra).set j2 rb) f'
/-- x, y = (e1, e2), two values -/
theorem qs_par (j1 j2 : Nat) {x y : Str} {e1 e2 : Expr} {m1 m2 : M D} {p1 p2 p3 p4 : Pos} {kk k2 : Nat} {k : D → D → M (Fl α β)} (h1 : QE B X e1 Γ m1) (h2 : QE B X e2 Γ m2) (hk : ∀ a b, QS B X rest ((Γ.set j1 (.d a)).set j2 (.d b)) γ δ (k a b)) (hN : X.N.Nodup)
    (hw : swappedStores [.Tuple [.Name x p1, .Name y p2] kk p3] (.Tuple [e1, e2] k2 p4) X.env = pure (some [x, y]) := by rfl) (hj : X.N[j1]? = some x := by rfl) (hj2 : X.N[j2]? = some y := by rfl) (hij : j1 ≠ j2 := by decide) (hx : X.env.scope.names.lookup x = some .local := by rfl) (hy : X.env.scope.names.lookup y = some .local := by rfl) (hc : X.calm = true := by rfl)
    (hs : swapsWithSole [.Tuple [.Name x p1, .Name y p2] kk p3] (.Tuple [e1, e2] k2 p4) pos.line X.env = pure false := by rfl) (hs1 : starEach [e1, e2] X.env = (false, eval e1 X.env) :: starEach [e2] X.env := by rfl) (hs2 : starEach [e2] X.env = (false, eval e2 X.env) :: starEach [] X.env := by rfl) :
    QS B X (.Assign [.Tuple [.Name x p1, .Name y p2] kk p3] (.Tuple [e1, e2] k2 p4) pos :: rest) Γ γ δ (do let a ← m1; let b ← m2; k a b) := fun G al fo ow H σ s E hv sl f => by
  refine ⟨_, pss_cons (ps_par hc hN hj hj2 hij hx hy (pa_cons wE_ok (pa_cons wE_ok pa_nil hs2) hs1) hw hs) wSs_ok, ?_⟩
  refine h1 G al (ow ++ fo) H σ s _ hv sl.all (FolS.bind f fun d s' v G' al' H' g ⟨hv', rp⟩ f' => ?_)
  refine h2 G' al' (ow ++ fo) H' σ s' _ hv' (sl.mono g).all (FolS.bind f' fun d2 s2 v2 G2 al2 H2 g2 ⟨hv2, rp2⟩ f2 => ?_)
  exact ⟨v, v2, rfl, hk d d2 G2 al2 fo ow H2 _ s2 E hv2 ((((sl.mono g).mono g2).set j1 (rp.mono g2)).set j2 rp2) f2⟩
/-- x, y = (a new list, a new dict) -/
theorem qs_parLK (j1 j2 : Nat) {x y : Str} {e1 e2 : Expr} {m1 : M (List D)} {m2 : M (List (D × D))} {p1 p2 p3 p4 : Pos} {kk k2 : Nat} {k : List D → List (D × D) → M (Fl α β)} (h1 : QL B X e1 Γ m1) (h2 : QK B X e2 Γ m2) (hk : ∀ a b, QS B X rest ((Γ.set j1 (.l a)).set j2 (.k b)) γ δ (k a b)) (hN : X.N.Nodup)
    (hw : swappedStores [.Tuple [.Name x p1, .Name y p2] kk p3] (.Tuple [e1, e2] k2 p4) X.env = pure (some [x, y]) := by rfl) (hj : X.N[j1]? = some x := by rfl) (hj2 : X.N[j2]? = some y := by rfl) (hij : j1 ≠ j2 := by decide) (hx : X.env.scope.names.lookup x = some .local := by rfl) (hy : X.env.scope.names.lookup y = some .local := by rfl) (hc : X.calm = true := by rfl)
    (hs : swapsWithSole [.Tuple [.Name x p1, .Name y p2] kk p3] (.Tuple [e1, e2] k2 p4) pos.line X.env = pure false := by rfl) (hs1 : starEach [e1, e2] X.env = (false, eval e1 X.env) :: starEach [e2] X.env := by rfl) (hs2 : starEach [e2] X.env = (false, eval e2 X.env) :: starEach [] X.env := by rfl) :
    QS B X (.Assign [.Tuple [.Name x p1, .Name y p2] kk p3] (.Tuple [e1, e2] k2 p4) pos :: rest) Γ γ δ (do let a ← m1; let b ← m2; k a b) := fun G al fo ow H σ s E hv sl f => by
  refine ⟨_, pss_cons (ps_par hc hN hj hj2 hij hx hy (pa_cons wE_ok (pa_cons wE_ok pa_nil hs2) hs1) hw hs) wSs_ok, ?_⟩
  refine h1 G al (ow ++ fo) H σ s _ hv sl.all (FolS.bind f fun d s' v G' al' H' g ⟨p, xs, ev, hv', rp⟩ f' => ?_)
  subst ev
  have slm : SL B al' G' ((p, .lst xs) :: (ow ++ fo)) σ Γ := (sl.mono g).all.more
  refine h2 G' al' ((p, .lst xs) :: (ow ++ fo)) H' σ s' _ hv' slm ?_
  have f3 := FolS.bind (P := kK B ((p, .lst xs) :: (ow ++ fo))) (Q' := fun v2 H2 => ∃ v w, [V.ref p, v2] = [v, w] ∧ wSs X rest E ((σ.set j1 (some v)).set j2 (some w)) H2) (σ := σ) (ow := (p, .lst xs) :: ow) f' fun d2 s2 v2 G2 al2 H2 g2 ⟨q, ys, ev2, hv2, rp2⟩ f2 => by
    subst ev2
    refine ⟨_, _, rfl, ?_⟩
    have np : ∀ z ∈ ow, z.1 ≠ p := fun z hz => hv'.nfm z (List.mem_append_left _ hz)
    have nq : ∀ z ∈ (p, HO.lst xs) :: ow, z.1 ≠ q := fun z hz => hv2.nfm z (by
      rcases List.mem_cons.mp hz with rfl | hz
      · exact List.mem_cons_self
      · exact List.mem_cons_of_mem _ (List.mem_append_left _ hz))
    have s1 := ((sl.mono g).mono g2).setO (o := .lst xs) (g := .l d) j1 np ⟨p, xs, rfl, List.mem_cons_self, rp.mono g2⟩
    have s2' := s1.setO (o := .dK ys) (g := .k d2) j2 nq ⟨q, ys, rfl, List.mem_cons_self, rp2⟩
    exact hk d d2 G2 al2 fo ((q, .dK ys) :: (p, .lst xs) :: ow) H2 _ s2 E hv2 s2' f2
  exact f3
end
end PM
set_option Elab.async false
set_option linter.all false
set_option maxRecDepth 100000
set_option maxHeartbeats 400000
/-! Pm15: instances. -/
namespace PM
open PySem PySem.Spec PyProof.Rows L2

section
variable {X : Cx} {k : Nat} {f C : Addr} {fd : FuncData} {ps : List Str} {sp : Sp} {pins : List (Addr × Obj)} {σ : L2.St} {H : Hp} {s : Shared} {Q : VK} {us : List Value} {vs : List V}
theorem run_mk (M : Mk X.K C f) (F : FnOk X.prog X.w X.K X.mg X.base (L2.CX X.prog X.w) k f fd ps sp) (hr : Room (k + 1) X.A) (hb : Binds X.K fd ps []) (I : Inv X pins σ H s) (r : Vals vs us)
    (h : ∀ x dx, H x = none → H dx = none → dx ≠ x → sp (.ref x :: vs) (upd (upd H dx (.own x)) x (.ins C dx [])) (fun v H2 => v = .non ∧ Q (.ref x) H2) (eX X σ)) :
    wpAny (model X.prog X.w) X.A (call (.ref C) us) (EP X pins σ Q) X.xe s := by
  have hq := h (s.heap.objs.size + 1) s.heap.objs.size (I.hok.fresh (Nat.le_succ _)) (I.hok.fresh (Nat.le_refl _)) (Nat.ne_of_lt (Nat.lt_succ_self _))
  have I2 := Inv.made (C := C) I
  refine wpAny_call (make_map (f := f) I.kIn M.makes M.init (beq_iff_eq.mp M.fn) (codeAny_mono (F.at (hr.make C us []) hb (I2.env0.make C us []) I2.kIn (.cons (rel_ref _) r) hq) fun r s' hq' => ?_))
  cases r with
  | error e => exact passAt wX_ok σ pins _ _ e s' I2 hq'
  | ok fl =>
    cases fl with
    | ret u =>
      obtain ⟨v, H', I3, rv, ev, q3⟩ := I2.after hq'
      subst ev
      exact ⟨rv, V.ref (s.heap.objs.size + 1), H', I3, rfl, q3⟩
    | _ => exact False.elim hq'
end


/-! ### attributes -/
/-- the class and the attributes of an instance -/
def objOf (s : Store) (d : D) : Option (String × List D) := match d with
  | .obj c fs => some (c, fs)
  | .cel n => (match s[n]? with
    | some (.obj c fs) => some (c, fs)
    | _ => none)
  | _ => none
section
variable {B : Bx} {X : Cx}
theorem Rep.objR {G H : Hp} {al : List Addr} {fm : List (Addr × HO)} {s : Store} {v : V} {d : D} {c : String} {fs : List D} (hv : HV B G al fm H s) (r : Rep B al G v d) (h : objOf s d = some (c, fs)) :
    ∃ a C dx vs, v = .ref a ∧ B.ct c = some C ∧ H a = some (.ins C dx ((B.fl c).zip vs)) ∧ vs.length = (B.fl c).length ∧ RepL B al G vs fs := by
  cases r with
  | obj h1 h2 h3 r => cases h; exact ⟨_, _, _, _, rfl, h1, hv.ex.at h2, h3, r⟩
  | @cel n a h1 =>
    have h' : (match s[n]? with | some (.obj c fs) => some (c, fs) | _ => none) = some (c, fs) := h
    cases q : s[n]? with
    | none => rw [q] at h'; cases h'
    | some mc =>
      rw [q] at h'
      cases mc with
      | obj c fs =>
        cases h'
        obtain ⟨_, o, e1, e2⟩ := (hv.ce n a _ h1 q).live (fun z => nomatch z)
        cases e2 with
        | obj h2 h3 r => exact ⟨a, _, _, _, rfl, h2, e1, h3, r⟩
      | _ => cases h'
  | _ => cases h
theorem zip_look : ∀ {fl : List Str} {vs : List V} {i : Nat} {f : Str} {v : V}, fl.Nodup → fl[i]? = some f → vs[i]? = some v → (fl.zip vs).lookup f = some v
  | [], _, _, _, _, _, h, _ => by simp at h
  | _ :: _, [], _, _, _, _, _, h => by simp at h
  | g :: fl, w :: vs, 0, f, v, _, h1, h2 => by
    simp at h1 h2
    subst h1; subst h2
    simp [List.lookup]
  | g :: fl, w :: vs, i + 1, f, v, nd, h1, h2 => by
    have nd' := List.nodup_cons.mp nd
    have h1' : fl[i]? = some f := by simpa using h1
    have ne : f ≠ g := fun z => nd'.1 (z ▸ List.mem_of_getElem? h1')
    rw [List.zip_cons_cons, List.lookup_cons, show (f == g) = false from beq_eq_false_iff_ne.mpr ne]
    exact zip_look nd'.2 h1' (by simpa using h2)
theorem zip_none : ∀ {fl : List Str} {vs : List V} {f : Str}, f ∉ fl → (fl.zip vs).lookup f = none
  | [], _, _, _ => rfl
  | _ :: _, [], _, _ => rfl
  | g :: fl, w :: vs, f, h => by
    have ne : f ≠ g := fun z => h (z ▸ List.mem_cons_self)
    rw [List.zip_cons_cons, List.lookup_cons, show (f == g) = false from beq_eq_false_iff_ne.mpr ne]
    exact zip_none fun z => h (List.mem_cons_of_mem _ z)
/-- o.f, the attribute at the place i of the class c -/
def mFld (c : String) (i : Nat) (x : D) : M D := fun s => match objOf s x with
  | some (c', fs) => if c' = c then (match fs[i]? with
    | some d => .ok d s
    | none => .bad) else .bad
  | none => .bad
variable {Γ : List Slot} {e o : Expr} {es : List Expr} {pos : Pos} {m : M D}
theorem qe_fld (ok : BOk B) (hK : B.K = X.K) (c : String) (i : Nat) {f : Str} (hf : (B.fl c)[i]? = some f) (ho : QE B X o Γ m) (hb : attributeBase o f X.env (eval o X.env) = eval o X.env := by rfl) : QE B X (.Attribute o f pos) Γ (do let x ← m; mFld c i x) := fun G al fm H σ s Q hv sl g0 => by
  refine wE_of (pe_fld wE_ok hb) (ho G al fm H σ s _ hv sl (Fo.bind g0 fun d s' v G' al' H' g ⟨hv', rp⟩ f' => ?_))
  unfold mFld at f'
  cases q : objOf s' d with
  | none => rw [q] at f'; exact False.elim f'
  | some cf =>
    obtain ⟨c', fs⟩ := cf
    rw [q] at f'
    have f2 : Fo B X σ fm G' al' (kE B fm) (if c' = c then (match fs[i]? with | some d => R.ok d s' | none => .bad) else .bad) Q := f'
    split at f2
    · rename_i ec
      subst ec
      obtain ⟨a, C, dx, vs, rfl, hC, ha, hl, r⟩ := rp.objR hv' q
      cases qi : fs[i]? with
      | none => rw [qi] at f2; exact False.elim f2
      | some d0 =>
        rw [qi] at f2
        obtain ⟨w, h1, h2⟩ := r.item qi
        refine ⟨a, C, dx, _, w, rfl, ha, by rw [← hK]; exact (ok.cls _ _ hC).cl, by rw [← hK]; exact ok.ga _ _ _ hC (List.mem_of_getElem? hf), zip_look (ok.nd _) hf h1, f2 _ G' al' H' Grow.refl ⟨hv', h2⟩⟩
    · exact False.elim f2
/-! ### methods -/
theorem pe_methA {C f : Addr} {k : Nat} {fd : FuncData} {ps : List Str} {sp : Sp} {mn : Str} {apos : Pos} {ta : TE} {t : TA} {pl : Sem Bool} (he : PE X o ta) (c : Cls X.K C) (hm : Meth X.K C mn f) (F : FnOk X.prog X.w X.K X.mg X.base (L2.CX X.prog X.w) k f fd ps sp) (hr : Room k X.A) (hb : Binds X.K fd ps []) (ha : PA X (e :: es) t)
    (hst : starEach (e :: es) X.env = (false, eval e X.env) :: starEach es X.env := by rfl) (hpl : (backTo pos (starEach es X.env)).any (·.1) = false := by rfl)
    (ht : eval (.Call (.Attribute o mn apos) (e :: es) [] pos) X.env = (do
      let ov ← eval o X.env
      standAt apos.atName
      let (f, first) ← holding [ov] (getMethod ov mn pl)
      callWith pos f first (backTo pos (starEach (e :: es) X.env)) (backToKw pos (keywordEach [] X.env))) := by rfl) :
    PE X (.Call (.Attribute o mn apos) (e :: es) [] pos) (fun σ H Q => ta σ H fun x H1 => ∃ a dx fs, x = .ref a ∧ H1 a = some (.ins C dx fs) ∧ fs.lookup mn = none ∧ t σ H1 fun vs H2 => sp (x :: vs) H2 Q (eX X σ)) := by
  exact ⟨fun pins s σ H Q I h => PySem.W.methodCall_KW (pl := pl) (wpAny_mono (he.run pins s σ H _ I h) (fun u s1 z => by
    obtain ⟨x, H1, J, rx, a, dx, fs, rfl, ea, l, q⟩ := z
    cases rx
    exact getmeth_ok J ea c hm l (then_run F hr hb hm.kp ha hst hpl J (.cons (rel_ref a) .nil) q)) fun _ _ z => z) ht⟩
theorem pe_meth0A {C f : Addr} {k : Nat} {fd : FuncData} {ps : List Str} {sp : Sp} {mn : Str} {apos : Pos} {ta : TE} {pl : Sem Bool} (he : PE X o ta) (c : Cls X.K C) (hm : Meth X.K C mn f) (F : FnOk X.prog X.w X.K X.mg X.base (L2.CX X.prog X.w) k f fd ps sp) (hr : Room k X.A) (hb : Binds X.K fd ps [])
    (ht : eval (.Call (.Attribute o mn apos) [] [] pos) X.env = (do
      let ov ← eval o X.env
      standAt apos.atName
      let (f, first) ← holding [ov] (getMethod ov mn pl)
      callWith pos f first (backTo pos (starEach [] X.env)) (backToKw pos (keywordEach [] X.env))) := by rfl) :
    PE X (.Call (.Attribute o mn apos) [] [] pos) (fun σ H Q => ta σ H fun x H1 => ∃ a dx fs, x = .ref a ∧ H1 a = some (.ins C dx fs) ∧ fs.lookup mn = none ∧ sp [x] H1 Q (eX X σ)) := by
  exact ⟨fun pins s σ H Q I h => PySem.W.methodCall_KW (pl := pl) (wpAny_mono (he.run pins s σ H _ I h) (fun u s1 z => by
    obtain ⟨x, H1, J, rx, a, dx, fs, rfl, ea, l, q⟩ := z
    cases rx
    exact getmeth_ok J ea c hm l (PySem.W.callWith_K0 J.kIn hm.kp (run_at F hr J.env0 hb J (.cons (rel_ref a) .nil) q))) fun _ _ z => z) ht⟩
/-- it is an instance of the class c -/
def isO (c : String) (x : D) : M Unit := fun s => match objOf s x with
  | some (c', _) => if c' = c then .ok () s else .bad
  | none => .bad
theorem isO_fo {α β : Type} {P : Hp → List Addr → α → β → Store → Hp → Prop} {σ : L2.St} {fm : List (Addr × HO)} {G : Hp} {al : List Addr} {s : Store} {Q : β → Hp → Prop} {c : String} {x : D} {k : M α} (f : Fo B X σ fm G al P ((isO c x >>= fun _ => k) s) Q) : ∃ fs, objOf s x = some (c, fs) ∧ Fo B X σ fm G al P (k s) Q := by
  rw [bind_run] at f
  unfold isO at f
  cases q : objOf s x with
  | none => simp only [q] at f; exact False.elim f
  | some cf =>
    obtain ⟨c', fs⟩ := cf
    simp only [q] at f
    by_cases e : c' = c
    · subst e
      rw [if_pos rfl] at f
      exact ⟨fs, rfl, f⟩
    · rw [if_neg e] at f
      exact False.elim f
theorem q_meth {α : Type} {kd : Kd α V} (ok : BOk B) (hK : B.K = X.K) (c : String) {C f : Addr} {k : Nat} {fd : FuncData} {ps : List Str} {g : List D → M α} {ca : ∀ {α : Type}, (List D → M α) → M α} {mn : Str} {apos : Pos} {pl : Sem Bool} (hC : B.ct c = some C) (hm : Meth X.K C mn f) (F : FnOk X.prog X.w X.K X.mg X.base (L2.CX X.prog X.w) k f fd ps (spK B kd g)) (hr : Room k X.A) (hb : Binds X.K fd ps []) (ho : QE B X o Γ m) (ha : QA B X (e :: es) Γ ca) (hno : mn ∉ B.fl c)
    (hst : starEach (e :: es) X.env = (false, eval e X.env) :: starEach es X.env := by rfl) (hpl : (backTo pos (starEach es X.env)).any (·.1) = false := by rfl)
    (ht : eval (.Call (.Attribute o mn apos) (e :: es) [] pos) X.env = (do
      let ov ← eval o X.env
      standAt apos.atName
      let (f, first) ← holding [ov] (getMethod ov mn pl)
      callWith pos f first (backTo pos (starEach (e :: es) X.env)) (backToKw pos (keywordEach [] X.env))) := by rfl) :
    Qj B X (wE X (.Call (.Attribute o mn apos) (e :: es) [] pos)) kd Γ (do let x ← m; let _ ← isO c x; ca fun ds => g (x :: ds)) := fun G al fm H σ s Q hv sl f0 => by
  refine wE_of (pe_methA wE_ok (by rw [← hK]; exact (ok.cls _ _ hC).cl) hm F hr hb wA_ok hst hpl ht) (ho G al fm H σ s _ hv sl (Fo.bind f0 fun d s' v G' al' H' g0 ⟨hv', rp⟩ f' => ?_))
  obtain ⟨fs, q, f2⟩ := isO_fo f'
  obtain ⟨a, C', dx, vs, rfl, hC', ha', hl, r⟩ := rp.objR hv' q
  rw [hC] at hC'
  cases hC'
  refine ⟨a, dx, _, rfl, ha', zip_none hno, ?_⟩
  rw [ha.n] at f2
  refine ha.q G' al' fm H' σ s' _ hv' (sl.mono g0) (Fo.bind f2 fun ds s2 vs2 G2 al2 H2 g2 ⟨hv2, rps⟩ f3 => ?_)
  exact ⟨G2, al2, fm, s2, d :: ds, hv2, .cons (rp.mono g2) rps, f3.folP⟩
theorem q_meth0 {α : Type} {kd : Kd α V} (ok : BOk B) (hK : B.K = X.K) (c : String) {C f : Addr} {k : Nat} {fd : FuncData} {ps : List Str} {g : List D → M α} {mn : Str} {apos : Pos} {pl : Sem Bool} (hC : B.ct c = some C) (hm : Meth X.K C mn f) (F : FnOk X.prog X.w X.K X.mg X.base (L2.CX X.prog X.w) k f fd ps (spK B kd g)) (hr : Room k X.A) (hb : Binds X.K fd ps []) (ho : QE B X o Γ m) (hno : mn ∉ B.fl c)
    (ht : eval (.Call (.Attribute o mn apos) [] [] pos) X.env = (do
      let ov ← eval o X.env
      standAt apos.atName
      let (f, first) ← holding [ov] (getMethod ov mn pl)
      callWith pos f first (backTo pos (starEach [] X.env)) (backToKw pos (keywordEach [] X.env))) := by rfl) :
    Qj B X (wE X (.Call (.Attribute o mn apos) [] [] pos)) kd Γ (do let x ← m; let _ ← isO c x; g [x]) := fun G al fm H σ s Q hv sl f0 => by
  refine wE_of (pe_meth0A wE_ok (by rw [← hK]; exact (ok.cls _ _ hC).cl) hm F hr hb ht) (ho G al fm H σ s _ hv sl (Fo.bind f0 fun d s' v G' al' H' g0 ⟨hv', rp⟩ f' => ?_))
  obtain ⟨fs, q, f2⟩ := isO_fo f'
  obtain ⟨a, C', dx, vs, rfl, hC', ha', hl, r⟩ := rp.objR hv' q
  rw [hC] at hC'
  cases hC'
  exact ⟨a, dx, _, rfl, ha', zip_none hno, G', al', fm, s', [d], hv', .cons rp .nil, f2.folP⟩
/-! ### properties -/
theorem getprop {C p g a dx : Addr} {f : Str} {k : Nat} {fd : FuncData} {ps : List Str} {sp : Sp} {fs : List (Str × V)} {pins : List (Addr × Obj)} {σ : L2.St} {H : Hp} {s : Shared} {Q : VK} {b : Bool} {E' : Value → Shared → Prop} (I : Inv X pins σ H s) (ea : H a = some (.ins C dx fs)) (c : Cls X.K C) (hp : PropOf X.K C f p g)
    (F : FnOk X.prog X.w X.K X.mg X.base (L2.CX X.prog X.w) k g fd ps sp) (hr : Room (k + 1) X.A) (hb : Binds X.K fd ps []) (h : sp [.ref a] H Q eNo) : wpAny (model X.prog X.w) X.A (getAttr (.ref a) f b) (EP X pins σ Q) E' s := by
  obtain ⟨mA, O, _, _, _, _⟩ := ins_get I.hok ea
  obtain ⟨od, J, _⟩ := O.look
  obtain ⟨rest, hrec⟩ := hp.rec_
  have I1 := I.tok (s.toks + 1)
  have hc : (PySem.W.clsIn X.K C).isSome = true := by
    obtain ⟨cd, hc, _⟩ := PySem.W.any_some c.hd
    rw [hc]
    rfl
  have pg := PySem.W.plainGet_of (c.get f)
  refine PySem.W.get_bind I.kIn J pg.1 (PySem.W.findObj_data hc hp.at_ hp.get hp.tak) pg.2 (wpAny_call (PySem.W.prop_get (s := { s with toks := s.toks + 1 }) I.kIn hrec ?_))
  refine codeAny_mono (F.at hr.in1 hb I1.env0.in1 I1.kIn (.cons (rel_ref a) .nil) h) fun r s' hq => ?_
  cases r with
  | error er =>
    obtain ⟨_, _, _, _, _, _, _, _, _, _, _, _, z⟩ := hq
    exact z.elim
  | ok fl =>
    cases fl with
    | ret u =>
      obtain ⟨v, H', I3, rv, q3⟩ := I1.after hq
      show wpAny _ _ (handedOut u) _ _ _
      rw [PySem.W.handedOut_of (handed_of rv)]
      exact wpAny_pure ⟨v, H', I3, rv, q3⟩
    | _ => exact False.elim hq
theorem pe_propA {C p g : Addr} {f : Str} {k : Nat} {fd : FuncData} {ps : List Str} {sp : Sp} {ta : TE} (he : PE X e ta) (c : Cls X.K C) (hp : PropOf X.K C f p g) (F : FnOk X.prog X.w X.K X.mg X.base (L2.CX X.prog X.w) k g fd ps sp) (hr : Room (k + 1) X.A) (hb : Binds X.K fd ps [])
    (hab : attributeBase e f X.env (eval e X.env) = eval e X.env := by rfl) : PE X (.Attribute e f pos) (fun σ H Q => ta σ H fun x H1 => ∃ a dx fs, x = .ref a ∧ H1 a = some (.ins C dx fs) ∧ sp [x] H1 Q (fun _ _ _ => False)) :=
  ⟨fun pins s σ H Q I h => by
    refine attr_of hab (thn (he.run pins s σ H _ I h) fun u s1 ⟨x, H1, I1, rx, a, dx, fs, ex, ea, q⟩ => ?_)
    subst ex
    obtain rfl : u = Value.ref a := rx
    exact getprop I1 ea c hp F hr hb q⟩
theorem noErr_folP {α : Type} {kd : Kd α V} {σ : L2.St} {fm : List (Addr × HO)} {G : Hp} {al : List Addr} {s : Store} {Q : VK} {m : M α} (f : Fo B X σ fm G al (kd B fm) (noErr m s) Q) : FolP B fm G al kd (m s) Q (fun _ _ _ => False) := by
  unfold noErr at f
  cases q : m s with
  | ok a s' => rw [q] at f; exact f
  | err x s' => rw [q] at f; exact False.elim f
  | bad => rw [q] at f; exact f
theorem q_prop {α : Type} {kd : Kd α V} (ok : BOk B) (hK : B.K = X.K) (c : String) {C p ga : Addr} {f : Str} {k : Nat} {fd : FuncData} {ps : List Str} {g : List D → M α} (hC : B.ct c = some C) (hp : PropOf X.K C f p ga) (F : FnOk X.prog X.w X.K X.mg X.base (L2.CX X.prog X.w) k ga fd ps (spK B kd g)) (hr : Room (k + 1) X.A) (hb : Binds X.K fd ps []) (ho : QE B X o Γ m)
    (hab : attributeBase o f X.env (eval o X.env) = eval o X.env := by rfl) : Qj B X (wE X (.Attribute o f pos)) kd Γ (do let x ← m; let _ ← isO c x; noErr (g [x])) := fun G al fm H σ s Q hv sl f0 => by
  refine wE_of (pe_propA wE_ok (by rw [← hK]; exact (ok.cls _ _ hC).cl) hp F hr hb hab) (ho G al fm H σ s _ hv sl (Fo.bind f0 fun d s' v G' al' H' g0 ⟨hv', rp⟩ f' => ?_))
  obtain ⟨fs, q, f2⟩ := isO_fo f'
  obtain ⟨a, C', dx, vs, rfl, hC', ha', hl, r⟩ := rp.objR hv' q
  rw [hC] at hC'
  cases hC'
  exact ⟨a, dx, _, rfl, ha', G', al', fm, s', [d], hv', .cons rp .nil, noErr_folP f2⟩
/-! ### len(o), str(o), o == x by own methods -/
/-- a built-in call of one argument, by an own method of an instance -/
theorem inst_of {C a dx : Addr} {fs : List (Str × V)} {pins : List (Addr × Obj)} {σ : L2.St} {H : Hp} {s : Shared} (I : Inv X pins σ H s) (h : H a = some (.ins C dx fs)) : ∃ ox od, PySem.W.InstAt s.heap a ox C od := by
  obtain ⟨mA, J, _⟩ := ins_get I.hok h
  obtain ⟨od, J, _⟩ := J.look
  exact ⟨_, _, J⟩
theorem call_lenO {C f : Addr} {k : Nat} {fd : FuncData} {ps : List Str} {sp : Sp} (hs : PySem.W.findIn X.K (.ref C) "__len__" = some (some (.ref f))) (hf : PySem.W.isFn X.K (.ref f) = true) (F : FnOk X.prog X.w X.K X.mg X.base (L2.CX X.prog X.w) k f fd ps sp) (hr : Room (k + 1) X.A) (hb : Binds X.K fd ps []) :
    CallR X (.builtin "len") (fun xs H Q => ∃ a dx fs, xs = [.ref a] ∧ H a = some (.ins C dx fs) ∧ sp [.ref a] H (fun v H' => ∃ n : Int, v = .int n ∧ (0 ≤ n ∧ n < 2 ^ 63) ∧ Q v H') eNo) := fun pins s σ H xs us Q I r ⟨a, dx, fs, e, ha, h⟩ => by
  subst e
  obtain ⟨u, rfl, ru⟩ := vals1 r
  cases ru
  obtain ⟨ox, od, J⟩ := inst_of I ha
  obtain ⟨m, hF⟩ := I.fr
  refine PySem.W.len_K hF I.ok.mod.kin J hs hf (wpAny_mono (run_no (vs := [V.ref a]) F hr.in1 I.env0.in1 hb I (.cons rfl .nil) h) (fun v s' ⟨x, H', I', rx, n, en, hn, q⟩ => ?_) fun _ _ z => z)
  subst en
  obtain ⟨t, rfl⟩ := rx
  exact ⟨hn, .int n, H', I'.tok _, ⟨_, rfl⟩, q⟩
theorem call_strO {C f : Addr} {k : Nat} {fd : FuncData} {ps : List Str} {sp : Sp} (hs : PySem.W.findIn X.K (.ref C) "__str__" = some (some (.ref f))) (hf : PySem.W.isFn X.K (.ref f) = true) (F : FnOk X.prog X.w X.K X.mg X.base (L2.CX X.prog X.w) k f fd ps sp) (hr : Room (k + 2) X.A) (hb : Binds X.K fd ps []) :
    CallR X (.type "str") (fun xs H Q => ∃ a dx fs, xs = [.ref a] ∧ H a = some (.ins C dx fs) ∧ sp [.ref a] H (fun v H' => ∃ z : Str, v = .str z ∧ Q v H') eNo) := fun pins s σ H xs us Q I r ⟨a, dx, fs, e, ha, h⟩ => by
  subst e
  obtain ⟨u, rfl, ru⟩ := vals1 r
  cases ru
  obtain ⟨ox, od, J⟩ := inst_of I ha
  refine PySem.W.kso_call hr.in1.in1.units0 I.kIn J hs hf (wpAny_mono (run_no (vs := [V.ref a]) F hr.in1.in1 I.env0.in1.in1 hb I (.cons rfl .nil) h) (fun v s' ⟨x, H', I', rx, z, ez, q⟩ => ?_) fun _ _ z => z)
  subst ez
  obtain ⟨t, rfl⟩ := rx
  exact ⟨.str z, H', I', ⟨_, rfl⟩, q⟩
noncomputable def chkLen (d : D) : M D := match d with
  | .int n => guardM (cdec (0 ≤ n ∧ n < 2 ^ 63)) (pure (.int n))
  | _ => bad
def chkStr (d : D) : M D := match d with
  | .str z => pure (.str z)
  | _ => bad
def chkBl (d : D) : M D := match d with
  | .bl z => pure (.bl z)
  | _ => bad
/-- the outcome of an own method, looked at -/
theorem chk_folP {σ : L2.St} {fm : List (Addr × HO)} {G : Hp} {al : List Addr} {s : Store} {Q : VK} {m : M D} {ch : D → M D} {P : V → Hp → Prop} (f : Fo B X σ fm G al (kE B fm) ((do let d ← noErr m; ch d) s) Q)
    (k : ∀ d s' v G' al' H', Grow G al G' al' → HV B G' al' fm H' s' → Rep B al' G' v d → Fo B X σ fm G' al' (kE B fm) (ch d s') Q → P v H') : FolP B fm G al kE (m s) P eNo := by
  have f2 : Fo B X σ fm G al (kE B fm) (noErr m s) P := Fo.bind f fun d s' v G' al' H' g ⟨hv, rp⟩ f' => k d s' v G' al' H' g hv rp f'
  exact noErr_folP f2
theorem qe_lenO (ok : BOk B) (hK : B.K = X.K) (c : String) {C f : Addr} {k : Nat} {fd : FuncData} {ps : List Str} {g : List D → M D} {p : Pos} (hC : B.ct c = some C) (hs : PySem.W.findIn X.K (.ref C) "__len__" = some (some (.ref f))) (hf : PySem.W.isFn X.K (.ref f) = true) (F : FnOk X.prog X.w X.K X.mg X.base (L2.CX X.prog X.w) k f fd ps (spM B g)) (hr : Room (k + 1) X.A) (hb : Binds X.K fd ps []) (hm : X.mg "len" = none) (he : QE B X e Γ m) (hg : Gl X "len" := by rfl)
    (hst : starEach [e] X.env = (false, eval e X.env) :: starEach [] X.env := by rfl) (hpl : (backTo pos (starEach [] X.env)).any (·.1) = false := by rfl) :
    QE B X (.Call (.Name "len" p) [e] [] pos) Γ (do let x ← m; let _ ← isO c x; let d ← noErr (g [x]); chkLen d) := fun G al fm H σ s Q hv sl f0 => by
  refine wE_of (pe_callB (call_lenO hs hf F hr hb) hg hm PySem.boot_len (pa_cons wE_ok pa_nil hst) (by decide) (by decide) hst hpl) (he G al fm H σ s _ hv sl (Fo.bind f0 fun d s' v G' al' H' g0 ⟨hv', rp⟩ f' => ?_))
  obtain ⟨fs, q, f2⟩ := isO_fo f'
  obtain ⟨a, C', dx, vs, rfl, hC', ha', hl, r⟩ := rp.objR hv' q
  rw [hC] at hC'
  cases hC'
  refine ⟨a, dx, _, rfl, ha', G', al', fm, s', [d], hv', .cons rp .nil, chk_folP f2 fun d2 s2 v2 G2 al2 H2 g2 hv2 rp2 f3 => ?_⟩
  cases rp2 with
  | int n =>
    have f4 : Fo B X σ fm G2 al2 (kE B fm) (guardM (cdec (0 ≤ n ∧ n < 2 ^ 63)) (pure (.int n)) s2) Q := f3
    rw [guardM_run] at f4
    split at f4
    · rename_i h
      replace h := cdec_iff.mp h
      exact ⟨n, rfl, h, Fo.pure f4 hv2 (.int n)⟩
    · exact False.elim f4
  | _ => exact False.elim f3
theorem qe_strO (ok : BOk B) (hK : B.K = X.K) (c : String) {C f : Addr} {k : Nat} {fd : FuncData} {ps : List Str} {g : List D → M D} {p : Pos} (hC : B.ct c = some C) (hs : PySem.W.findIn X.K (.ref C) "__str__" = some (some (.ref f))) (hf : PySem.W.isFn X.K (.ref f) = true) (F : FnOk X.prog X.w X.K X.mg X.base (L2.CX X.prog X.w) k f fd ps (spM B g)) (hr : Room (k + 2) X.A) (hb : Binds X.K fd ps []) (hm : X.mg "str" = none) (hv0 : bootBuiltins "str" = some (.type "str")) (he : QE B X e Γ m) (hg : Gl X "str" := by rfl)
    (hst : starEach [e] X.env = (false, eval e X.env) :: starEach [] X.env := by rfl) (hpl : (backTo pos (starEach [] X.env)).any (·.1) = false := by rfl) :
    QE B X (.Call (.Name "str" p) [e] [] pos) Γ (do let x ← m; let _ ← isO c x; let d ← noErr (g [x]); chkStr d) := fun G al fm H σ s Q hv sl f0 => by
  refine wE_of (pe_callTy (call_strO hs hf F hr hb) hg hm hv0 (pa_cons wE_ok pa_nil hst) (by decide) (by decide) hst hpl) (he G al fm H σ s _ hv sl (Fo.bind f0 fun d s' v G' al' H' g0 ⟨hv', rp⟩ f' => ?_))
  obtain ⟨fs, q, f2⟩ := isO_fo f'
  obtain ⟨a, C', dx, vs, rfl, hC', ha', hl, r⟩ := rp.objR hv' q
  rw [hC] at hC'
  cases hC'
  refine ⟨a, dx, _, rfl, ha', G', al', fm, s', [d], hv', .cons rp .nil, chk_folP f2 fun d2 s2 v2 G2 al2 H2 g2 hv2 rp2 f3 => ?_⟩
  cases rp2 with
  | str n => exact ⟨n, rfl, Fo.pure f3 hv2 (.str n)⟩
  | _ => exact False.elim f3
end
end PM
set_option Elab.async false
set_option linter.all false
set_option maxRecDepth 100000
set_option maxHeartbeats 400000
/-! Pm16: == and != by own methods; instances made. -/
namespace PMne
open PySem PySem.W
section
variable {prog : Program} {w : World} {A : Around} {E : Value → Shared → Prop} {s : Shared} {K : Frag} {x C f L : Addr} {h₀ : Heap} {m : Str → Option Value} {ox : Obj} {od : Option Obj} {b tb : Value}
theorem ifBound_B {M : Model} {name : Str} {id : String} {args : List Value} {Q : Option Value → Shared → Prop} (X : K.In s.heap) (I : InstAt s.heap x ox C od) (hs : findIn K (.ref C) name = some (some (.builtin id))) (hbs : bindSpecial (.builtin id) (.ref x) = pure (.builtin id, [.ref x]))
    (h : wpAny M A (call (.builtin id) (.ref x :: args)) (fun v => Q (some v)) E s) : wpAny M A (callSpecialIfBound? (.ref x) name args) Q E s := by
  simp only [callSpecialIfBound?, bindSpecialIfBound?]
  refine wpAny_holding (wpAny_bind (wpAny_bind (wpAny_bind (I.type.here ((looks_findIn X hs).here ?_)))))
  refine wpAny_bind (wpAny_askSetting (wpAny_ite ?_))
  have fin : wpAny M A (call (.builtin id) ([.ref x] ++ args) >>= fun v => pure (some v)) Q E s := wpAny_bind (wpAny_mono h (fun v s' h' => wpAny_pure h') fun _ _ h' => h')
  split
  · exact wpAny_bind (wpAny_of_eq hbs (wpAny_pure (by exact fin)))
  · exact wpAny_tryCatch (wpAny_bind (wpAny_of_eq hbs (wpAny_pure (by exact fin))))
def BlBack (Q : Value → Shared → Prop) (v : Value) (s' : Shared) : Prop := match v with
  | .bool b => Q (.bool !b) s'
  | _ => False
/-- object.__ne__ asks the own __eq__ and turns its answer -/
theorem ne_try {Q : Value → Shared → Prop} (hu : A.units + 1 < cLine) (X : K.In s.heap) (I : InstAt s.heap x ox C od) (hm : mroIn K C (.type "object") = some true) (hne : findIn K (.ref C) "__ne__" = some (some (.builtin "object.__ne__"))) (hs : findIn K (.ref C) "__eq__" = some (some (.ref f))) (hf : isFn K (.ref f) = true)
    (h : wpAny (model prog w) A.in1 (call (.ref f) [.ref x, b]) (BlBack Q) E s) : wpAny (model prog w) A (tryCompare (.ref x) (cmpInfo .NotEq).2.1 b) (fun o s' => o.elim False fun v => Q v s') E s := by
  unfold tryCompare
  refine wpAny_bind (ifBound_B X I hne (PySem.F.slot_tuple_iterator_ne.bind _) (wpAny_call (codeAny_call_builtin PySem.F.slot_tuple_iterator_ne.plain PySem.F.cmpEntry_ne (@check_slot (model prog w) _ _ s "object.__ne__" "object" "__ne__" (.ref x) [b] [] _ PySem.F.cmpKind_ne PySem.F.cmpSplit_ne (I.type.andThen (looks_mroIn X hm)) (PySem.F.cmpArgs_ne _ _) ?_))))
  unfold Builtin.«object.__ne__»
  exact wpAny_bind (wpAny_pure (wpAny_bind (wpAny_cRoomFor hu (wpAny_bind (ifBound_K X I hs hf (wpAny_mono h (fun v s' hv => match v, hv with
    | .bool k, hv => wpAny_bind (wpAny_truthy_bool (wpAny_pure (wpAny_pure hv)))) fun _ _ z => z))))))
theorem ne_own {Q : Value → Shared → Prop} (hu : A.units + 1 < cLine) (X : K.In s.heap) (I : InstAt s.heap x ox C od) (hm : mroIn K C (.type "object") = some true) (hb : Looks (model prog w) s.heap (typeOf b) tb) (hn : notFirst K C tb = true)
    (hne : findIn K (.ref C) "__ne__" = some (some (.builtin "object.__ne__"))) (hs : findIn K (.ref C) "__eq__" = some (some (.ref f))) (hf : isFn K (.ref f) = true)
    (h : wpAny (model prog w) A.in1 (call (.ref f) [.ref x, b]) (BlBack Q) E s) : wpAny (model prog w) A (richCompare .NotEq (.ref x) b) Q E s := by
  have none_first : tb ≠ .ref C → subIn K tb (.ref C) = some false := fun q => by
    rcases Bool.or_eq_true_iff.mp hn with z | z
    · exact absurd (beq_iff_eq.mp z) q
    · exact beq_iff_eq.mp z
  have last := ne_try hu X I hm hne hs hf h
  unfold richCompare
  simp only [oneThing_ref]
  refine wpAny_holding (wpAny_bind (wpAny_cRoomFor (Nat.lt_of_succ_lt hu) (wpAny_bind (I.type.here (wpAny_bind (hb.here ?_))))))
  split
  · rename_i q
    refine wpAny_bind ((looks_subIn X (none_first fun z => by rw [z] at q; simp at q)).here ?_)
    rw [if_neg (by decide)]
    exact wpAny_bind (wpAny_mono last (fun o s' z => match o, z with
      | some _, z => wpAny_pure z) fun _ _ z => z)
  · refine wpAny_bind (wpAny_pure ?_)
    rw [if_neg (by decide)]
    exact wpAny_bind (wpAny_mono last (fun o s' z => match o, z with
      | some _, z => wpAny_pure z) fun _ _ z => z)
end
end PMne
namespace PM
open PySem PySem.Spec PyProof.Rows L2
section
variable {B : Bx} {X : Cx}
theorem tyLooks {pins : List (Addr × Obj)} {σ : L2.St} {H : Hp} {s : Shared} {x : V} {u t : Value} (I : Inv X pins σ H s) (rx : RelV x u) (ty : TyX X.K H x t) : PySem.W.Looks (model X.prog X.w) s.heap (typeOf u) t := by
  obtain ⟨P, k, p, _⟩ := kit_of I rx ty
  exact k.ty _ _ I.kIn p
theorem notFirst_b (ok : BOk B) {c : String} {C : Addr} (hC : B.ct c = some C) {s : Store} {d : D} {ty : Ty} {t : Value} (h2 : TyR B ty t) (e : d.ty s = some ty) (hc : ∀ c', ty = .c c' → c' = c) : PySem.W.notFirst B.K C t = true := by
  unfold PySem.W.notFirst
  cases ty with
  | c c' =>
    obtain ⟨C', h, rfl⟩ := h2
    cases hc c' rfl
    rw [hC] at h
    cases h
    simp
  | b n =>
    cases h2
    have hn := D.ty_b e
    have k := (ok.cls _ _ hC).bC n (by
      have sub : ∀ n ∈ builtinNames, n ∈ ["NoneType", "int", "bool", "str", "list", "tuple", "dict"] := by decide
      exact sub n hn)
    unfold PySem.W.kitOne at k
    rw [if_neg (by simp)] at k
    unfold PySem.W.kitCls at k
    simp only at k
    split at k
    · rw [k]; simp
    · cases k
/-- own == and != -/
def Ty.only (c : String) : Ty → Bool
  | .b _ => true
  | .c c' => c' == c
def eqO (c : String) (g : List D → M D) (neg : Bool) (x y : D) : M D := fun s => match objOf s x, y.ty s with
  | some (c', _), some ty => if (c' == c && ty.only c) = true then (do
    let d ← noErr (g [x, y])
    match d with
    | .bl b => pure (.bl (if neg = true then !b else b))
    | _ => bad : M D) s else .bad
  | _, _ => .bad
theorem eqO_fo {c : String} {C : Addr} {g : List D → M D} (ok : BOk B) (hK : B.K = X.K) (hC : B.ct c = some C) {neg : Bool} {σ : L2.St} {G H : Hp} {al : List Addr} {fm : List (Addr × HO)} {s : Store} {x y : V} {dx dy : D} {Q : VK} (hv : HV B G al fm H s) (rx : Rep B al G x dx) (ry : RepH B al G fm y dy)
    (f : Fo B X σ fm G al (kE B fm) (eqO c g neg dx dy s) Q) (hy : Rep B al G y dy) :
    ∃ a dx' fs t, x = .ref a ∧ H a = some (.ins C dx' fs) ∧ TyX X.K H y t ∧ PySem.W.notFirst X.K C t = true ∧ spM B g [x, y] H (fun v H' => ∃ b, v = .bl b ∧ Q (.bl (if neg = true then !b else b)) H') eNo := by
  unfold eqO at f
  cases q : objOf s dx with
  | none => simp only [q] at f; exact False.elim f
  | some cf =>
    obtain ⟨c', fs⟩ := cf
    cases qt : dy.ty s with
    | none => simp only [q, qt] at f; exact False.elim f
    | some ty =>
      simp only [q, qt] at f
      split at f
      · rename_i hc
        rw [Bool.and_eq_true, beq_iff_eq] at hc
        obtain ⟨rfl, ho⟩ := hc
        obtain ⟨a, C', dx', vs, rfl, hC', ha', hl, r⟩ := rx.objR hv q
        rw [hC] at hC'
        cases hC'
        obtain ⟨t, k1, k2⟩ := ry.ty ok hv qt
        refine ⟨a, dx', _, t, rfl, ha', by rw [← hK]; exact k1, ?_, G, al, fm, s, [dx, dy], hv, .cons rx (.cons hy .nil), ?_⟩
        · rw [← hK]
          exact notFirst_b ok hC k2 qt fun c2 e => by
            subst e
            exact beq_iff_eq.mp ho
        · exact chk_folP (ch := fun d => match d with | .bl b => pure (.bl (if neg = true then !b else b)) | _ => bad) f fun d2 s2 v2 G2 al2 H2 g2 hv2 rp2 f3 => by
            cases rp2 with
            | bl b => exact ⟨b, rfl, Fo.pure f3 hv2 (.bl _)⟩
            | _ => exact False.elim f3
      · exact False.elim f
def rEqO (X : Cx) (C : Addr) (sp : Sp) (neg : Bool) : R2 := fun x y H Q => ∃ a dx' fs t, x = .ref a ∧ H a = some (.ins C dx' fs) ∧ TyX X.K H y t ∧ PySem.W.notFirst X.K C t = true ∧ sp [x, y] H (fun v H' => ∃ b, v = .bl b ∧ Q (.bl (if neg = true then !b else b)) H') eNo
/-- what a class with an own == has -/
structure EqOwn (X : Cx) (C f : Addr) : Prop where
  mro : PySem.W.mroIn X.K C (.type "object") = some true
  ne : PySem.W.findIn X.K (.ref C) "__ne__" = some (some (.builtin "object.__ne__"))
  eq : PySem.W.findIn X.K (.ref C) "__eq__" = some (some (.ref f))
  fn : PySem.W.isFn X.K (.ref f) = true
theorem op_eqO {C f : Addr} {k : Nat} {fd : FuncData} {ps : List Str} {sp : Sp} (T : EqOwn X C f) (F : FnOk X.prog X.w X.K X.mg X.base (L2.CX X.prog X.w) k f fd ps sp) (hr : Room (k + 1) X.A) (hb : Binds X.K fd ps []) : OpR X (compareOp .Eq) (rEqO X C sp false) := fun pins s σ H x y v u Q I rx ry ⟨a, dx, fs, t, e, ha, hty, hn, h⟩ => by
  subst e
  cases (show v = Value.ref a from rx)
  obtain ⟨ox, od, J⟩ := inst_of I ha
  obtain ⟨m, hF⟩ := I.fr
  have r2 : Vals [V.ref a, y] [Value.ref a, u] := .cons rfl (.cons ry .nil)
  refine PySem.W.cmp_K (op := .Eq) hr.units0 hF I.ok.mod.kin J (tyLooks I ry hty) hn T.eq T.fn (wpAny_mono (run_no F (hr.mono (Nat.le_succ _)) I.env0 hb I r2 h) (fun v s' ⟨z, H', I', rz, b, eb, q⟩ => ?_) fun _ _ z => z)
  subst eb
  cases rz
  exact ⟨.bl b, H', I', rfl, q⟩
theorem op_neO {C f : Addr} {k : Nat} {fd : FuncData} {ps : List Str} {sp : Sp} (T : EqOwn X C f) (F : FnOk X.prog X.w X.K X.mg X.base (L2.CX X.prog X.w) k f fd ps sp) (hr : Room (k + 1) X.A) (hb : Binds X.K fd ps []) : OpR X (compareOp .NotEq) (rEqO X C sp true) := fun pins s σ H x y v u Q I rx ry ⟨a, dx, fs, t, e, ha, hty, hn, h⟩ => by
  subst e
  cases (show v = Value.ref a from rx)
  obtain ⟨ox, od, J⟩ := inst_of I ha
  have r2 : Vals [V.ref a, y] [Value.ref a, u] := .cons rfl (.cons ry .nil)
  refine PMne.ne_own (by have := hr.units; omega) I.kIn J T.mro (tyLooks I ry hty) hn T.ne T.eq T.fn (wpAny_mono (run_no F hr.in1 I.env0.in1 hb I r2 h) (fun v s' ⟨z, H', I', rz, b, eb, q⟩ => ?_) fun _ _ z => z)
  subst eb
  cases rz
  exact ⟨.bl !b, H', I', rfl, q⟩
/-- == of what may be an instance or data -/
def mEqX (c : String) (g : List D → M D) (x y : D) : M D := fun s => match objOf s x with
  | some _ => eqO c g false x y s
  | none => mEq x y s
def mNeX (c : String) (g : List D → M D) (x y : D) : M D := fun s => match objOf s x with
  | some _ => eqO c g true x y s
  | none => mNe x y s
theorem RepH.ofObj {G : Hp} {al : List Addr} {fm : List (Addr × HO)} {v : V} {d : D} (r : RepH B al G fm v d) {s : Store} {p : String × List D} (h : objOf s d = some p) : Rep B al G v d := by
  cases r with
  | rep r => exact r
  | l _ _ => cases h
  | k _ _ => cases h
theorem qe_eqX {op : CmpOp} {Γ : List Slot} {e1 e2 : Expr} {m1 m2 : M D} {pos : Pos} {c : String} {C : Addr} {g : List D → M D} (neg : Bool) (gg : D → D → M D) (hgg : ∀ x y s, gg x y s = match objOf s x with | some _ => eqO c g neg x y s | none => (if neg = true then mNe x y s else mEq x y s)) {r1 r2 : R2} (h1 : OpR X (compareOp op) r1) (h2 : OpR X (compareOp op) r2)
    (e1' : r1 = rEqO X C (spM B g) neg) (e2' : ∀ σ G al fm H s x y dx dy Q, HV B G al fm H s → RepH B al G fm x dx → RepH B al G fm y dy → Fo B X σ fm G al (kE B fm) ((if neg = true then mNe dx dy else mEq dx dy) s) Q → r2 x y H Q) (ok : BOk B) (hK : B.K = X.K) (hC : B.ct c = some C) (ha : QE B X e1 Γ m1) (hb : QE B X e2 Γ m2) (hm : behindInMarks op e2 = false := by first | exact nomark _ | rfl) :
    QE B X (.Compare e1 [op] [e2] pos) Γ (do let x ← m1; let y ← m2; gg x y) := fun G al fm H σ s Q hv sl f => by
  subst e1'
  refine wE_of (pe_cmpR (OpR.or h1 h2) wE_ok wE_ok hm) (ha G al fm H σ s _ hv sl (Fo.bind f fun d s' v G' al' H' g0 ⟨hv', rp⟩ f' => ?_))
  refine hb G' al' fm H' σ s' _ hv' (sl.mono g0) (Fo.bind f' fun d2 s2 v2 G2 al2 H2 g2 ⟨hv2, rp2⟩ f2 => ?_)
  rw [hgg] at f2
  have rp := rp.mono g2
  cases q : objOf s2 d with
  | some p =>
    simp only [q] at f2
    exact .inl (eqO_fo ok hK hC hv2 rp (.rep rp2) f2 rp2)
  | none =>
    simp only [q] at f2
    refine .inr (e2' σ G2 al2 fm H2 s2 v v2 d d2 Q hv2 (.rep rp) (.rep rp2) ?_)
    cases neg <;> exact f2
theorem qe_eqS {Γ : List Slot} {e1 e2 : Expr} {m1 m2 : M D} {pos : Pos} (c : String) {C f : Addr} {k : Nat} {fd : FuncData} {ps : List Str} {g : List D → M D} (ok : BOk B) (hK : B.K = X.K) (hC : B.ct c = some C) (T : EqOwn X C f) (F : FnOk X.prog X.w X.K X.mg X.base (L2.CX X.prog X.w) k f fd ps (spM B g)) (hr : Room (k + 1) X.A) (hb : Binds X.K fd ps []) (ha : QE B X e1 Γ m1) (hb2 : QE B X e2 Γ m2) :
    QE B X (.Compare e1 [.Eq] [e2] pos) Γ (do let x ← m1; let y ← m2; mEqX c g x y) := by
  obtain ⟨r2, h2, h3⟩ := om_eq (B := B) (X := X) hK (by have := hr.units; omega)
  exact qe_eqX false (mEqX c g) (fun x y s => rfl) (op_eqO T F hr hb) h2 rfl h3 ok hK hC ha hb2
theorem qe_neS {Γ : List Slot} {e1 e2 : Expr} {m1 m2 : M D} {pos : Pos} (c : String) {C f : Addr} {k : Nat} {fd : FuncData} {ps : List Str} {g : List D → M D} (ok : BOk B) (hK : B.K = X.K) (hC : B.ct c = some C) (T : EqOwn X C f) (F : FnOk X.prog X.w X.K X.mg X.base (L2.CX X.prog X.w) k f fd ps (spM B g)) (hr : Room (k + 1) X.A) (hb : Binds X.K fd ps []) (ha : QE B X e1 Γ m1) (hb2 : QE B X e2 Γ m2) :
    QE B X (.Compare e1 [.NotEq] [e2] pos) Γ (do let x ← m1; let y ← m2; mNeX c g x y) := by
  obtain ⟨r2, h2, h3⟩ := om_ne (B := B) (X := X) hK (by have := hr.units; omega)
  exact qe_eqX true (mNeX c g) (fun x y s => rfl) (op_neO T F hr hb) h2 rfl h3 ok hK hC ha hb2
end
/-! ### instances made -/
/-- what an __init__ does: the attributes that it leaves -/
def FolI (B : Bx) (fm : List (Addr × HO)) (G : Hp) (al : List Addr) (c : String) (C x dx : Addr) (r : R (List D)) (Q : VK) (E : XK) : Prop := match r with
  | .ok fs s' => ∀ vs G' al' H', Grow G al G' al' → HV B G' al' ((x, .ins C dx ((B.fl c).zip vs)) :: fm) H' s' → vs.length = (B.fl c).length → RepL B al' G' vs fs → Q .non H'
  | .err e s' => ∀ cls dd G' al' H', Grow G al G' al' → HV B G' al' fm H' s' → XRep B al' G' e cls dd → E cls dd H'
  | .bad => False
def spI (B : Bx) (c : String) (g : List D → M (List D)) : Sp := fun vs H Q E => ∃ G al fm s ds x C dx vs', vs = .ref x :: vs' ∧ B.ct c = some C ∧ HV B G al ((x, .ins C dx []) :: fm) H s ∧ RepL B al G vs' ds ∧ FolI B fm G al c C x dx (g ds s) Q E
section
variable {B : Bx} {X : Cx} {Γ : List Slot} {e : Expr} {es : List Expr} {pos : Pos}
theorem pe_mkA {C f : Addr} {k : Nat} {fd : FuncData} {ps : List Str} {sp : Sp} {x : Str} {p : Pos} {t : TA} (M : Mk X.K C f) (F : FnOk X.prog X.w X.K X.mg X.base (L2.CX X.prog X.w) k f fd ps sp) (hr : Room (k + 1) X.A) (hg : Gl X x) (hm : X.mg x = some (.ref C)) (hb : Binds X.K fd ps [])
    (ha : PA X (e :: es) t) (hdb : (x == ("__debug__" : Str)) = false := by decide) (he : starEach (e :: es) X.env = (false, eval e X.env) :: starEach es X.env := by rfl) (hpl : (backTo pos (starEach es X.env)).any (·.1) = false := by rfl) :
    PE X (.Call (.Name x p) (e :: es) [] pos) (fun σ H Q => t σ H fun vs H1 => ∀ x dx, H1 x = none → H1 dx = none → dx ≠ x → sp (.ref x :: vs) (upd (upd H1 dx (.own x)) x (.ins C dx [])) (fun v H2 => v = .non ∧ Q (.ref x) H2) (eX X σ)) :=
  ⟨fun pins s σ H Q I h => by
    refine wpAny_Call_Name_kw (ld_glob I hg hm ?_ hdb)
    refine PySem.W.callWith_K (h₀ := X.base) I.ok.mod.kin M.kp (thn (ha.run pos pins s σ H _ I h) fun us s1 ⟨vs, H1, I1, r, q⟩ => ⟨I1.kIn, ?_⟩) he hpl
    exact run_mk M F hr hb I1 r q⟩
theorem pe_mk0A {C f : Addr} {k : Nat} {fd : FuncData} {ps : List Str} {sp : Sp} {x : Str} {p : Pos} (M : Mk X.K C f) (F : FnOk X.prog X.w X.K X.mg X.base (L2.CX X.prog X.w) k f fd ps sp) (hr : Room (k + 1) X.A) (hg : Gl X x) (hm : X.mg x = some (.ref C)) (hb : Binds X.K fd ps []) (hdb : (x == ("__debug__" : Str)) = false := by decide) :
    PE X (.Call (.Name x p) [] [] pos) (fun σ H1 Q => ∀ x dx, H1 x = none → H1 dx = none → dx ≠ x → sp [.ref x] (upd (upd H1 dx (.own x)) x (.ins C dx [])) (fun v H2 => v = .non ∧ Q (.ref x) H2) (eX X σ)) :=
  ⟨fun pins s σ H Q I h => by
    refine wpAny_Call_Name_kw (ld_glob I hg hm ?_ hdb)
    exact PySem.W.callWith_K0 I.kIn M.kp (run_mk (us := []) M F hr hb I .nil h)⟩
/-- the heap with a new instance -/
theorem HV.made {G H : Hp} {al : List Addr} {fm : List (Addr × HO)} {s : Store} {x dx C : Addr} (hv : HV B G al fm H s) (nx : H x = none) (nd : H dx = none) (ne : dx ≠ x) : HV B G al ((x, .ins C dx []) :: fm) (upd (upd H dx (.own x)) x (.ins C dx [])) s := by
  have h1 : HV B G al fm (upd H dx (.own x)) s := (hv.hold (o := .own x) nd).less (List.sublist_cons_self _ _)
  exact h1.hold (by rw [upd_ne ne.symm]; exact nx)
/-- C(..), a new instance: held; then what is done with it -/
def kN (c : String) : Kd (List D) V := fun B fm G al fs v s H => ∃ x C dx vs, v = .ref x ∧ B.ct c = some C ∧ HV B G al ((x, .ins C dx ((B.fl c).zip vs)) :: fm) H s ∧ vs.length = (B.fl c).length ∧ RepL B al G vs fs
theorem FolI.of {c : String} {C x dx : Addr} {σ : L2.St} {fm : List (Addr × HO)} {G G0 : Hp} {al al0 : List Addr} {r : R (List D)} {Q : VK} (hC : B.ct c = some C) (f : Fo B X σ fm G al (kN c B fm) r Q) : FolI B fm G al c C x dx r (fun v H2 => v = .non ∧ Q (.ref x) H2) (eX X σ) := by
  cases r with
  | ok fs s' => exact fun vs G' al' H' g hv hl r => ⟨rfl, f (.ref x) G' al' H' g ⟨x, C, dx, vs, rfl, hC, hv, hl, r⟩⟩
  | err e s' => exact f
  | bad => exact f
theorem q_make {c : String} {C f : Addr} {k : Nat} {fd : FuncData} {ps : List Str} {g : List D → M (List D)} {x : Str} {p : Pos} {ca : ∀ {α : Type}, (List D → M α) → M α} (hC : B.ct c = some C) (M : Mk X.K C f) (F : FnOk X.prog X.w X.K X.mg X.base (L2.CX X.prog X.w) k f fd ps (spI B c g)) (hr : Room (k + 1) X.A) (hm : X.mg x = some (.ref C)) (hb : Binds X.K fd ps []) (ha : QA B X (e :: es) Γ ca) (hg : Gl X x := by rfl)
    (hdb : (x == ("__debug__" : Str)) = false := by decide) (he : starEach (e :: es) X.env = (false, eval e X.env) :: starEach es X.env := by rfl) (hpl : (backTo pos (starEach es X.env)).any (·.1) = false := by rfl) :
    Qj B X (wE X (.Call (.Name x p) (e :: es) [] pos)) (kN c) Γ (ca g) := fun G al fm H σ s Q hv sl f0 => by
  rw [ha.n] at f0
  refine wE_of (pe_mkA M F hr hg hm hb wA_ok hdb he hpl) (ha.q G al fm H σ s _ hv sl (Fo.bind f0 fun ds s' vs G' al' H' g0 ⟨hv', rp⟩ f' => ?_))
  intro z dx nz nd ne
  exact ⟨G', al', fm, s', ds, z, C, dx, vs, rfl, hC, hv'.made nz nd ne, rp, FolI.of (G0 := G) (al0 := al) hC f'⟩
theorem q_make0 {c : String} {C f : Addr} {k : Nat} {fd : FuncData} {ps : List Str} {g : List D → M (List D)} {x : Str} {p : Pos} (hC : B.ct c = some C) (M : Mk X.K C f) (F : FnOk X.prog X.w X.K X.mg X.base (L2.CX X.prog X.w) k f fd ps (spI B c g)) (hr : Room (k + 1) X.A) (hm : X.mg x = some (.ref C)) (hb : Binds X.K fd ps []) (hg : Gl X x := by rfl)
    (hdb : (x == ("__debug__" : Str)) = false := by decide) :
    Qj B X (wE X (.Call (.Name x p) [] [] pos)) (kN c) Γ (g []) := fun G al fm H σ s Q hv sl f0 => by
  refine wE_of (pe_mk0A M F hr hg hm hb hdb) ?_
  intro z dx nz nd ne
  exact ⟨G, al, fm, s, [], z, C, dx, [], rfl, hC, hv.made nz nd ne, .nil, FolI.of (G0 := G) (al0 := al) hC f0⟩
/-- frozen; a shared cell -/
theorem qe_N {c : String} {m : M (List D)} (h : Qj B X (wE X e) (kN c) Γ m) : QE B X e Γ (do let fs ← m; pure (.obj c fs)) := fun G al fm H σ s Q hv sl f => by
  refine h G al fm H σ s Q hv sl (Fo.bind f fun fs s' v G' al' H' g ⟨x, C, dx, vs, ev, hC, hv', hl, r⟩ f' => ?_)
  subst ev
  obtain ⟨hv2, g2⟩ := hv'.freeze
  exact f' (.ref x) _ al' H' g2 ⟨hv2, .obj hC upd_same hl (r.mono g2)⟩
theorem qe_cN {c : String} {m : M (List D)} (h : Qj B X (wE X e) (kN c) Γ m) : QE B X e Γ (do let fs ← m; newC (.obj c fs)) := fun G al fm H σ s Q hv sl f => by
  refine h G al fm H σ s Q hv sl (Fo.bind f fun fs s' v G' al' H' g ⟨x, C, dx, vs, ev, hC, hv', hl, r⟩ f' => ?_)
  subst ev
  obtain ⟨hv2, g2⟩ := hv'.toCell (.obj hC hl r)
  refine f' (.ref x) G' _ H' g2 ⟨hv2, .cel ?_⟩
  rw [← hv'.len]
  simp
/-! self.f = e in an __init__ -/
theorem putF_new : ∀ {fs : List (Str × V)} {f : Str} {v : V}, f ∉ fs.map (·.1) → putF f v fs = fs ++ [(f, v)]
  | [], _, _, _ => rfl
  | (g, x) :: r, f, v, h => by
    rw [List.map_cons, List.mem_cons, not_or] at h
    show (if g = f then (g, v) :: r else (g, x) :: putF f v r) = _
    rw [if_neg (fun z => h.1 z.symm), putF_new h.2]
    rfl
theorem zip_snoc : ∀ {fl : List Str} {vs : List V} {f : Str} {v : V}, fl[vs.length]? = some f → fl.zip (vs ++ [v]) = fl.zip vs ++ [(f, v)]
  | [], vs, _, _, h => by simp at h
  | g :: fl, [], f, v, h => by
    simp at h
    subst h
    simp
  | g :: fl, w :: vs, f, v, h => by
    rw [List.cons_append, List.zip_cons_cons, List.zip_cons_cons, zip_snoc (by simpa using h)]
    rfl
theorem zip_fst_mem {fl : List Str} {vs : List V} {f : Str} (h : f ∈ (fl.zip vs).map (·.1)) : ∃ j, j < vs.length ∧ fl[j]? = some f := by
  obtain ⟨p, hp, rfl⟩ := List.mem_map.mp h
  obtain ⟨j, hj⟩ := List.mem_iff_getElem?.mp hp
  obtain ⟨h1, h2⟩ := List.getElem?_zip_eq_some.mp hj
  exact ⟨j, (List.getElem?_eq_some_iff.mp h2).1, h1⟩
variable {rest : List Stmt} {pos' : Pos} {α β : Type} {γ : α → List Slot} {δ : β → List Slot} {me : M D}
theorem qs_fldI (ok : BOk B) (hK : B.K = X.K) (i : Nat) {c : String} {p dx : Addr} {fs : List D} {x f : Str} {p0 : Pos} {k : D → M (Fl α β)} (hf : (B.fl c)[fs.length]? = some f) (hl : (B.fl c).length < 1000) (he : QE B X e Γ me) (hk : ∀ d, QS B X rest (Γ.set i (.o c p dx (fs ++ [d]))) γ δ (k d)) (h : Γ[i]? = some (.o c p dx fs) := by rfl) (hN : X.N[i]? = some x := by rfl) (hvx : Vis X.env.scope x := by first | exact Or.inl rfl | exact Or.inr (Or.inl rfl) | exact Or.inr (Or.inr rfl)) (hd : (x == ("__debug__" : Str)) = false := by decide)
    (hcd : (x == ("__classdict__" : Str)) = false := by decide) (hs : swapsWith e (some (.Attribute (.Name x p0) f pos')) pos.line X.env = pure false := by rfl) :
    QS B X (.Assign [.Attribute (.Name x p0) f pos'] e pos :: rest) Γ γ δ (do let d ← me; k d) := fun G al fo ow H σ s E hv sl f0 => by
  refine ⟨_, pss_cons (ps_fld (pe_var hN hvx hd hcd) wE_ok hs) wSs_ok, ?_⟩
  refine he G al (ow ++ fo) H σ s _ hv sl.all (FolS.bind f0 fun d s' v G' al' H' g ⟨hv', rp⟩ f' => ?_)
  have li : i < σ.length := by rw [sl.len]; exact (List.getElem?_eq_some_iff.mp h).1
  have hx := List.getElem?_eq_getElem li
  obtain ⟨C, vs, e1, hC, e2, r⟩ := sl.at_ i _ _ h hx
  rw [e1] at hx
  have h1 : H' p = some (.ins C dx ((B.fl c).zip vs)) := (hv'.fr _ (List.mem_append_left _ e2)).1
  have r' := r.mono g
  have hfl : (B.fl c)[vs.length]? = some f := by rw [r.length]; exact hf
  have new : putF f v ((B.fl c).zip vs) = (B.fl c).zip (vs ++ [v]) := by
    rw [zip_snoc hfl]
    refine putF_new fun z => ?_
    obtain ⟨j, hj, ej⟩ := zip_fst_mem z
    obtain ⟨l1, q1⟩ := List.getElem?_eq_some_iff.mp ej
    obtain ⟨l2, q2⟩ := List.getElem?_eq_some_iff.mp hfl
    exact List.pairwise_iff_getElem.mp (ok.nd c) j vs.length l1 l2 hj (q1.trans q2.symm)
  obtain ⟨ow', hv2, hsub⟩ := own_take hv' e2
  refine ⟨.ref p, hx, p, C, dx, _, rfl, h1, by rw [← hK]; exact (ok.cls _ _ hC).cl, by rw [← hK]; exact ok.ga _ _ _ hC (List.mem_of_getElem? hf), ?_, ?_⟩
  · rw [List.length_zip]
    omega
  · rw [new]
    exact hk d G' al' fo ((p, .ins C dx ((B.fl c).zip (vs ++ [v]))) :: ow') _ σ s' E hv2.put ((sl.mono g).anew h hx rfl (fun q hq ne => List.mem_cons_of_mem _ (hsub q hq ne)) ⟨C, _, rfl, hC, List.mem_cons_self, r'.snoc rp⟩) f'
end
/-- an __init__'s outcome -/
def initF (m : M (Fl (List D) Empty)) : M (List D) := do
  let r ← m
  match r with
  | .nx fs => pure fs
  | _ => bad
section
variable {P : Program} {w : World} {K : PySem.W.Frag} {mg : Str → Option Value} {base : Heap}
theorem sl_startI {B : Bx} {al : List Addr} {G : Hp} {N : List Str} {c : String} {C p dx : Addr} {vs : List V} {ds : List D} (hC : B.ct c = some C) (hN : 0 < N.length) (r : RepL B al G vs ds) : SL B al G [(p, .ins C dx [])] (L2.start N (.ref p :: vs)) (.o c p dx [] :: (ent N.length (.non :: ds)).tail) := by
  have s0 : SL B al G [] (L2.start N (.non :: vs)) (ent N.length (.non :: ds)) := sl_start (.cons .non r)
  have s1 := (s0.set 0 (v := .non) .non)
  have s2 := s1.setO (p := p) (o := .ins C dx []) (g := .o c p dx []) 0 (fun q hq => nomatch hq) ⟨C, [], rfl, hC, by rw [List.zip_nil_right]; exact List.mem_cons_self, .nil⟩
  exact s2
theorem fn_okI {B : Bx} {x qual : Str} {st : Stmt} {f : Addr} {fd : FuncData} {N ps : List Str} {k n : Nat} {c : String} {g : List D → M (List D)} (F : Fun K x qual st f fd) (S : FnScope N ps (defScope st)) (ar : Ar n g) (hn : ps.length = n + 1) (hNl : 0 < N.length) (hfl : ∀ ds s fs s', g ds s = .ok fs s' → fs.length = (B.fl c).length)
    (hb : ∀ (cdv : Value) (A : Around) (outer : List Env) (s : Shared) (H : Hp) (E : XK), Room k (A.deeper (envOfC qual (defScope st) s.heap.objs.size f cdv)) → ∀ p dx ds, ds.length = n →
      ∃ m : M (Fl (List D) Empty), g ds = initF m ∧ QS B (cxOf (L2.CX P w) P w K mg base N qual (defScope st) f cdv A outer s H E) (defBody st) (.o c p dx [] :: (ent N.length (.non :: ds)).tail) (fun fs => .o c p dx fs :: List.replicate (N.length - 1) Slot.no) (fun (_ : Empty) => ([] : List Slot)) m) :
    FnOk P w K mg base (L2.CX P w) (k + 1) f fd ps (spI B c g) := by
  have hlen : ∀ {vs H Q E}, spI B c g vs H Q E → vs.length = n + 1 := fun {vs H Q E} h => by
    obtain ⟨G, al, fm, s, ds, x, C, dx, vs', rfl, hC, hv, r, q⟩ := h
    rw [List.length_cons, r.length, ar ds s fun z => by rw [z] at q; exact q]
  refine okX F S (fun vs H Q E h => by rw [hn]; exact hlen h) (fun cdv A outer s H vs Q E hr h => ?_)
  obtain ⟨G, al, fm, st0, ds, p, C, dx, vs', rfl, hC, hv, r, q⟩ := h
  have hds : ds.length = n := ar ds st0 fun z => by rw [z] at q; exact q
  obtain ⟨m, eg, hq⟩ := hb cdv A outer s H E hr p dx ds hds
  refine ⟨wSs _ _, wSs_ok, hq G al fm [(p, .ins C dx [])] H _ st0 _ hv (sl_startI hC hNl r) ?_⟩
  have hx : ∀ cls dd σ H', E cls dd H' → wX (cxOf (L2.CX P w) P w K mg base N qual (defScope st) f cdv A outer s H E) cls dd σ H' := fun cls dd σ H' z => ⟨_, takes_of rfl rfl rfl rfl, z⟩
  have eg' := eg
  rw [eg] at q
  unfold initF at q
  rw [bind_run] at q
  cases e : m st0 with
  | ok r0 s' =>
    rw [e] at q
    cases r0 with
    | nx fs =>
      intro σ' ow' G' al' H' g' hv' sl'
      have l0 : 0 < σ'.length := by rw [sl'.len]; simp
      obtain ⟨C', vs2, e1, hC', e2, r2⟩ := sl'.at_ 0 _ _ rfl (List.getElem?_eq_getElem l0)
      rw [hC] at hC'
      cases hC'
      obtain ⟨ow2, hv2, _⟩ := own_take hv' e2
      have hv3 : HV B G' al' ((p, .ins C dx ((B.fl c).zip vs2)) :: fm) H' s' := hv2.less (List.Sublist.cons₂ _ (List.sublist_append_right _ _))
      have hlf : fs.length = (B.fl c).length := hfl ds st0 fs s' (by
        rw [eg']
        unfold initF
        rw [bind_ok e]
        rfl)
      exact q vs2 G' al' H' g' hv3 (by rw [r2.length]; exact hlf) r2
    | rt d => exact False.elim q
    | bk b => exact nomatch b
    | ct b => exact nomatch b
  | err x0 s' =>
    rw [e] at q
    exact fun cls dd σ' G' al' H' g' hv' xr => hx cls dd σ' H' (q cls dd G' al' H' g' hv' xr)
  | bad => rw [e] at q; exact q
/-- a def that is one return of something new -/
theorem fn_ok1 {α : Type} {kd : Kd α V} {B : Bx} {x qual : Str} {st : Stmt} {f : Addr} {fd : FuncData} {N ps : List Str} {k n : Nat} {g : List D → M α} {e : Expr} {pos : Pos} (F : Fun K x qual st f fd) (S : FnScope N ps (defScope st)) (ar : Ar n g) (hn : ps.length = n) (hbody : defBody st = [.Return (some e) pos])
    (hb : ∀ (cdv : Value) (A : Around) (outer : List Env) (s : Shared) (H : Hp) (E : XK), Room k (A.deeper (envOfC qual (defScope st) s.heap.objs.size f cdv)) → ∀ ds, ds.length = n → Qj B (cxOf (L2.CX P w) P w K mg base N qual (defScope st) f cdv A outer s H E) (wE (cxOf (L2.CX P w) P w K mg base N qual (defScope st) f cdv A outer s H E) e) kd (ent N.length ds) (g ds)) :
    FnOk P w K mg base (L2.CX P w) (k + 1) f fd ps (spK B kd g) := by
  refine okX F S (fun vs H Q E h => by rw [hn]; exact spM_len ar h) (fun cdv A outer s H vs Q E hr h => ?_)
  have hlen := spM_len ar h
  obtain ⟨G, al, fm, st0, ds, hv, r, q⟩ := h
  have hq := hb cdv A outer s H E hr ds (by rw [← r.length]; exact hlen)
  rw [hbody]
  refine ⟨_, pss_one (ps_ret wE_ok), hq G al fm H _ st0 _ hv (sl_start r).all ?_⟩
  have hx : ∀ cls dd σ H', E cls dd H' → wX (cxOf (L2.CX P w) P w K mg base N qual (defScope st) f cdv A outer s H E) cls dd σ H' := fun cls dd σ H' z => ⟨_, takes_of rfl rfl rfl rfl, z⟩
  cases e0 : g ds st0 with
  | ok a s' => rw [e0] at q; exact q
  | err x0 s' => rw [e0] at q; exact fun cls dd G' al' H' g' hv' xr => hx cls dd _ H' (q cls dd G' al' H' g' hv' xr)
  | bad => rw [e0] at q; exact q
end
end PM
set_option Elab.async false
set_option linter.all false
set_option maxRecDepth 100000
set_option maxHeartbeats 400000
/-! Pm17: own exceptions: super().__init__(text) in their __init__. -/
namespace PM
open PySem PySem.Spec PyProof.Rows L2

/-- what the written part says of an exception class whose __init__ (at f, code at cda, class cell at cc) says super().__init__(..) -/
structure SupC (P : Program) (K : PySem.W.Frag) (C f cda cc : Addr) : Prop where
  fn : ∃ oc od fd ar osl, K.lookup f = some ⟨oc, od, .func fd, osl⟩ ∧ (fd.params.posonlyargs ++ fd.params.args).head? = some ar ∧ ar.arg = "self"
  code : ∃ ccl cdd vs ccs file tf, K.lookup cda = some ⟨ccl, cdd, .fields vs, ccs⟩ ∧ vs[2]? = some (.str file tf) ∧ ((P.main.file : Str) == file) = true
  cell : ∃ cl cld csl, K.lookup cc = some ⟨cl, cld, .cell (some (.ref C)), csl⟩
  sub : PySem.W.mroIn K C (.ref C) = some true
  su : PySem.W.ks_superIn K C C "__init__" = some (some (.builtin "ValueError.__init__"))
  ve : PySem.W.subIn K (.ref C) (.type "ValueError") = some true
  top : (P.main.scope.names.lookup ("super" : Str)).isSome = false
  any : PySem.W.nsIn K cStatics "thirdparty.any" = some none
  oex : OexC K C

section
variable {X : Cx} {C f cda cc a : Addr} {body : List Stmt} {p0 p1 p2 pos : Pos} {e : Expr} {te : TE} {pins : List (Addr × Obj)} {s : Shared} {σ : L2.St} {H : Hp} {Q : Hp → Prop}
theorem sup_call {u t1 : Addr} {us : List Value} {R : Value → Shared → Prop} {E : Value → Shared → Prop} (S : SupC X.prog X.K C f cda cc) (I : Inv X pins σ H s) (hu : s.heap.get? u = some (PySem.W.kxs_mw "ValueError.__init__" a)) (ha : H a = some (exo a C none)) (hl : us.length ≤ sizeLine)
    (h : ∀ s', Inv X pins σ H s' → R .none s') : wpAny (model X.prog X.w) X.A (call (.ref u) us) R E s := by
  obtain ⟨nm, q, N, bs, bm, sn, sub, ab, col, dd, k0, k1, k2, k3, k5, hC, hbm⟩ := S.oex.cls
  have hC' := I.kIn _ _ hC
  obtain ⟨t1, ho⟩ := exo_at I.hok ha
  obtain ⟨hh, g, d, tk, os⟩ := s
  refine wpAny_call (codeAny_of_tree ?_)
  show wpAny _ X.A.in1 (callAny (.ref u) ⟨us, []⟩) _ _ _
  simp only [callAny]
  refine wpAny_bind (wpAny_load hu ?_)
  simp only [PySem.W.kxs_mw, show (Value.type "method-wrapper" == Value.type "method" || Value.type "method-wrapper" == Value.type "builtin_function_or_method" || Value.type "method-wrapper" == Value.type "method-wrapper") = true by decide, if_true]
  refine PySem.W.KFB.if_so (by decide) ?_
  refine wpAny_bind (PySem.W.check_bound_init F.excBase_ValueError.toExcCallFacts hC' ho rfl ?_)
  refine wpAny_bind (wpAny_pure (wpAny_pure ?_))
  refine ⟨plainId_quiet F.excBase_ValueError.init.plain _, codeAny_builtin F.excBase_ValueError.initEntry ?_⟩
  refine PySem.W.exc_init_tree (cls := .ref C) (t0 := t1) (dv := none) (c2 := .none) (c3 := .none) (b4 := .bool false) ho hl fun h' k hx _ => ?_
  have J := I.write (t' := tk) (x := a) (e := a) (o := exo a C none) (by rw [ha]; exact True.intro) (.inl rfl) k ⟨_, hx⟩ (exo_ok hx)
  have eu : upd H a (exo a C none) = H := by
    funext b
    by_cases hb : b = a
    · rw [hb, upd_same, ha]
    · rw [upd_ne hb]
  rw [eu] at J
  exact h _ J
theorem sup_init {pl : Sem Bool} (S : SupC X.prog X.K C f cda cc) (hfu : X.env.func = some f) (hco : X.env.code = .ref cda) (hcl : X.env.cells.lookup ("__class__" : Str) = some cc) (hks : X.env.kindOf "super" = some .globalImplicit) (hkc : X.env.kindOf "__class__" = some .free) (hka : X.env.kindOf "self" = some .local)
    (hmg : X.mg "super" = none) (i0 : X.N[0]? = some ("self" : Str)) (he : PE X e te) (I : Inv X pins σ H s) (h0 : σ[0]? = some (some (.ref a))) (ha : H a = some (exo a C none)) (q : te σ H fun v H1 => 1 ≤ sizeLine ∧ H1 a = some (exo a C none) ∧ Q H1)
    (hst : starEach [e] X.env = (false, eval e X.env) :: starEach [] X.env := by rfl)
    (ht : eval (.Call (.Attribute (.Call (.Name "super" p0) [] [] p1) "__init__" p2) [e] [] pos) X.env = (do
      let ov ← attributeBase (.Call (.Name "super" p0) [] [] p1) "__init__" X.env (eval (.Call (.Name "super" p0) [] [] p1) X.env)
      standAt p2.atName
      let (f, first) ← holding [ov] (getMethod ov "__init__" pl)
      callWith pos f first (backTo pos (starEach [e] X.env)) []) := by rfl) :
    _root_.PySem.wpAt (model X.prog X.w) X.A (.func body X.env) (eval (.Call (.Attribute (.Call (.Name "super" p0) [] [] p1) "__init__" p2) [e] [] pos) X.env) (fun _ s' => ∃ H', Inv X pins σ H' s' ∧ Q H') X.xe s := by
  obtain ⟨oc, od, fd, ar, osl, lkf, hp, har⟩ := S.fn
  obtain ⟨ccl, cdd, vs, ccs, file, tf, lkc, hvs, hfile⟩ := S.code
  obtain ⟨cl, cld, csl, lkcc⟩ := S.cell
  obtain ⟨mb, hb1, hb2⟩ := I.mod.blt
  refine ks_wpAt_MethodCall (pl := pl) (ks_wpAt_super_base hks hkc (by decide) hfu (I.kIn _ _ lkf) rfl hp hco (I.kIn _ _ lkc) rfl hvs hfile S.top ?_) ht
  refine PySem.W.ks_loadName_global I.ok.kind hks (Calls.loadGlobal_builtin (by rw [I.ok.glob]; exact I.mod.glob.keeps I.bk) hmg (by rw [I.ok.blt]; exact hb1.keeps I.bk) ((hb2 "super" (by decide)).trans PyProof.Rows.Boot.«super») ⟨rfl, ?_⟩)
  refine wpAny_loadName_free I.ok.kind hkc hcl ⟨_, I.kIn _ _ lkcc, rfl⟩ ?_
  rw [har]
  obtain ⟨m, hns, hlk⟩ := I.loc
  obtain ⟨u, ru, lk⟩ := hlk 0 "self" _ i0 h0 (.inl hka)
  obtain rfl : u = Value.ref a := ru
  have hm : m "self" = some (.ref a) := by
    rcases lk with ⟨_, hm⟩ | ⟨z | z, _⟩
    · exact hm
    · rw [hka] at z; cases z
    · rw [hka] at z; cases z
  refine wpAny_loadName_local I.ok.kind hka hns hm ?_
  obtain ⟨nm, qn, N, bs, bm, sn, sub, ab, col, dd, k0, k1, k2, k3, k5, hC, hbm⟩ := S.oex.cls
  have hC' := I.kIn _ _ hC
  refine ks_wpAny_isType_cls hC' rfl ⟨rfl, ?_⟩
  obtain ⟨t1, ho⟩ := exo_at I.hok ha
  obtain ⟨hh, g, d, t, os⟩ := s
  refine ks_wpAny_call_super hC' rfl ho rfl (fun c e => by cases e) (PySem.W.looks_mroIn I.kIn S.sub) (fun h' e' k => ?_)
  have I1 : Inv X pins σ H ⟨h', g, d, t, os⟩ := I.kept (t' := t) k
  obtain ⟨t2, ho1⟩ := exo_at I1.hok ha
  have J1 : PySem.W.InstAt h' a { cls := .ref C, dict := none, data := .fields #[.ref t2, .none, .none, .none, .bool false, .none] } C none := ⟨ho1, rfl, rfl, trivial⟩
  cases hc : PySem.W.clsIn X.K C with
  | none =>
    have z := S.su
    unfold PySem.W.ks_superIn at z
    rw [hc] at z
    cases z
  | some cd =>
    have z := S.su
    unfold PySem.W.ks_superIn at z
    rw [hc] at z
    refine PySem.W.kxs_getMethod PySem.W.kxs_ValueError e' (PySem.W.looks_opaque I1.kIn S.any) (l₀ := cd.mro) (fun A Q E s k q => wpAny_bind ((PySem.W.looks_clsIn I1.kIn hc) A _ E s k (wpAny_pure q))) rfl I1.kIn z (J1.type.andThen (PySem.W.looks_subIn I1.kIn S.ve)) (PySem.W.ks_ne I1.kIn J1 hc) (by decide) ?_
    have I2 : Inv X pins σ H ⟨h'.push (PySem.W.kxs_mw "ValueError.__init__" a), g, d, t + 1, os⟩ := I1.kept (t' := t + 1) fun b o e => Heap.get?_push_of_some _ e
    have I3 : Inv X ((h'.objs.size, PySem.W.kxs_mw "ValueError.__init__" a) :: pins) σ H ⟨h'.push (PySem.W.kxs_mw "ValueError.__init__" a), g, d, t + 1, os⟩ := I2.pins_of fun p hp => by
      rcases List.mem_cons.mp hp with rfl | hp
      · exact ⟨Heap.get?_push_at rfl rfl, I1.hok.fresh (Nat.le_refl _), Nat.ne_of_gt I1.lt, I1.nofs (Nat.le_refl _), fun v z => by cases z⟩
      · exact I2.pin p (List.mem_append_right _ hp)
    refine PySem.W.kxs_callWith (i := "ValueError.__init__") (x := a) (by rw [hst]; rfl) ?_
    have R := (pa_cons he pa_nil hst).run pos _ _ σ H (fun vs H1 => vs.length ≤ sizeLine ∧ H1 a = some (exo a C none) ∧ Q H1) I3 q
    rw [hst] at R ⊢
    refine PySem.Calls.evalArgs_plain (thn R fun us s1 ⟨vs, H1, I4, r, hz, h1, q1⟩ => ⟨(I4.pin (h'.objs.size, _) (List.mem_append_right _ List.mem_cons_self)).1, ?_⟩)
    refine sup_call (t1 := a) S I4 (I4.pin (h'.objs.size, _) (List.mem_append_right _ List.mem_cons_self)).1 h1 (show us.length ≤ sizeLine by rw [← r.length]; exact hz) fun s' J => ⟨H1, J.pins_of fun p hp => J.pin p (List.mem_append_right _ (List.mem_cons_of_mem _ hp)), q1⟩
end
end PM
set_option Elab.async false
set_option linter.all false
set_option maxRecDepth 100000
set_option maxHeartbeats 400000
/-! Pm18: an own exception's __init__, whole; raise. -/
namespace PM
open PySem PySem.Spec PyProof.Rows L2

/-! ### the first attribute: its dict is new -/
theorem ost_first {X : Cx} {pins : List (Addr × Obj)} {σ : L2.St} {H : Hp} {s : Shared} {a C : Addr} {f : Str} {y : V} {u : Value} {Q : Unit → Shared → Prop} {E : Value → Shared → Prop} {A : Around} (T : OexC X.K C) (I : Inv X pins σ H s) (e : H a = some (exo a C none)) (hno : PySem.W.findIn X.K (.ref C) f = some none) (ry : RelV y u)
    (h : ∀ dx s', s.heap.objs.size ≤ dx → dx ≠ a → Inv X pins σ (upd (upd H dx (exd dx [(f, y)])) a (exo a C (some dx))) s' → Q () s') : wpAny (model X.prog X.w) A (setAttr (.ref a) f u) Q E s := by
  obtain ⟨nm, q, N, bs, bm, sn, sub, ab, col, dd, k0, k1, k2, k3, k5, hC, hbm⟩ := T.cls
  have hcl : PySem.W.clsIn X.K C = some { name := nm, bases := bs, mro := .ref C :: bm, ns := N, qualname := q, hasDict := true, slotNames := sn, subclasses := sub, abstract := ab, collection := col, hasDel := false } := by unfold PySem.W.clsIn; rw [hC] <;> rfl
  obtain ⟨t1, ho⟩ := exo_at I.hok e
  obtain ⟨hp, g, d, t, os⟩ := s
  refine PySem.W.set_plain I.kIn (ox := { cls := .ref C, dict := none, data := .fields #[.ref t1, .none, .none, .none, .bool false, .none] }) (od := none) ⟨ho, rfl, rfl, trivial⟩ T.sa ?_
  refine PySem.HandSPX.exc_osa I.kIn ho hcl (show PySem.HandSPX.refsVE (.ref C :: bm) = true from hbm) rfl hno (fun h' tk' dx k dn dne hx hn => ?_)
  -- the heap between: the dict is laid, the exception is still as it was
  let old : Obj := { cls := .ref C, dict := none, data := .fields #[.ref t1, .none, .none, .none, .bool false, .none] }
  have atA : (h'.update a fun _ => old).get? a = some old := Heap.get?_update_self _ hx rfl
  have but : ∀ b, b ≠ a → (h'.update a fun _ => old).get? b = h'.get? b := fun b hb => Heap.get?_update_other _ _ (Ne.symm hb)
  have laid : Inv X pins σ (upd H dx (exd dx [(f, y)])) ⟨h'.update a fun _ => old, g, d, tk', os⟩ := I.laid (t' := tk') (fun b o z => by
    by_cases hb : b = a
    · subst hb
      rw [atA, ← z, ho]
    · rw [but b hb]
      exact k b o hb z) dn (exd_ok (hn.at fun o z => by rw [but dx dne]; exact z) (relO_put (fs := []) ry fun _ => True.intro))
  have ea : upd H dx (exd dx [(f, y)]) a = some (exo a C none) := by rw [upd_ne dne.symm]; exact e
  exact h dx _ dn dne (laid.write (t' := tk') (x := a) (e := a) (by rw [ea]; exact True.intro) (.inl rfl) (fun b o hb z => by rw [← but b hb]; exact z) ⟨_, hx⟩ (exo_ok hx))

/-! ### the surroundings of an __init__ that says super() -/
section
variable {P : Program} {w : World} {K : PySem.W.Frag} {mg : Str → Option Value} {base : Heap}
def cxS (P : Program) (w : World) (K : PySem.W.Frag) (mg : Str → Option Value) (base : Heap) (N : List Str) (qual : Str) (scope : Scope) (f cda cc : Addr) (A : Around) (outer : List Env) (s : Shared) (H : Hp) (E : XK) : Cx where
  prog := P
  w := w
  K := K
  mg := mg
  base := base
  A := A.deeper (PySem.W.ksEnv qual scope s.heap.objs.size f (.ref cda) cc)
  N := N
  s_0 := s
  H_0 := H
  env := PySem.W.ksEnv qual scope s.heap.objs.size f (.ref cda) cc
  outer := outer
  stack := PySem.W.ksEnv qual scope s.heap.objs.size f (.ref cda) cc :: outer
  ex := []
  calm := true
  fn := fun _ => false
  pn := []
  xe := fun e s' => wpAny (model P w) (A.deeper (PySem.W.ksEnv qual scope s.heap.objs.size f (.ref cda) cc)) (leaving (PySem.W.ksEnv qual scope s.heap.objs.size f (.ref cda) cc) e) (fun _ s'' => L2.CX P w outer H s E e s'') (fun e' s'' => L2.CX P w outer H s E e' s'') s'
structure ScS (N ps : List Str) (sc : Scope) : Prop where
  kind : sc.kind = .function
  co : sc.isCoroutine = false
  gen : sc.isGenerator = false
  nd : N.Nodup
  pre : N.take ps.length = ps
  par : ∀ x ∈ ps, sc.names.lookup x = some .local
  nocell : ∀ x ∈ sc.names, x.2 ≠ .cell
  free : ∀ x ∈ sc.names, x.2 = .free → x.1 = ("__class__" : Str)
  cls : sc.names.lookup ("__class__" : Str) = some .free
  sup : sc.names.lookup ("super" : Str) = some .globalImplicit
theorem zip_fst_sub : ∀ (ps : List Str) (us : List Value), ((ps.zip us).map (·.1)).Sublist ps
  | [], _ => by rw [List.zip_nil_left]; exact .slnil
  | _ :: _, [] => by rw [List.zip_nil_right]; exact List.nil_sublist _
  | p :: ps, _ :: us => (zip_fst_sub ps us).cons₂ p
theorem rev_lookup {ps : List Str} {us : List Value} {i : Nat} {y : Str} {u : Value} (nd : ps.Nodup) (hp : ps[i]? = some y) (hu : us[i]? = some u) : (ps.zip us).reverse.lookup y = some u := by
  have key : ∀ (l : List (Str × Value)), (l.map (·.1)).Nodup → (y, u) ∈ l → l.lookup y = some u := by
    intro l
    induction l with
    | nil => intro _ h; cases h
    | cons p l ih =>
      intro hn h
      rw [List.map_cons, List.nodup_cons] at hn
      rcases List.mem_cons.mp h with rfl | h
      · simp [List.lookup]
      · have ne : (y == p.1) = false := by
          apply beq_eq_false_iff_ne.mpr
          intro z
          exact hn.1 (List.mem_map.mpr ⟨_, h, z⟩)
        rw [List.lookup_cons, ne]
        exact ih hn.2 h
  refine key _ ?_ (List.mem_reverse.mpr ?_)
  · rw [List.map_reverse]
    refine (List.reverse_perm _).nodup_iff.mpr (nd.sublist ?_)
    exact zip_fst_sub ps us
  · refine List.mem_of_getElem? (i := i) ?_
    rw [List.getElem?_zip_eq_some]
    exact ⟨hp, hu⟩
/-- a slot that holds a value at the start holds an argument -/
theorem start_arg {N : List Str} {vs : List V} {i : Nat} {v : V} (h : (L2.start N vs)[i]? = some (some v)) : vs[i]? = some v := by
  have e : L2.start N vs = vs.map some ++ List.replicate (N.length - vs.length) none := rfl
  rw [e, List.getElem?_append] at h
  split at h
  · rw [List.getElem?_map] at h
    exact (Option.map_eq_some_iff.mp h).elim fun a q => q.1.trans (congrArg some (Option.some.inj q.2))
  · exact nomatch (List.mem_replicate.mp (List.mem_of_getElem? h)).2
theorem start_len {N : List Str} {vs : List V} (h : vs.length ≤ N.length) : (L2.start N vs).length = N.length := by
  simp only [L2.start, List.length_append, List.length_map, List.length_replicate]
  omega
/-- what the def's own names hold at the start -/
theorem start_local {N ps : List Str} {scope : Scope} {us : List Value} {vs : List V} (S : ScS N ps scope) (hl : vs.length = ps.length) (r : Vals vs us) {i : Nat} {y : Str} {v : V} (hy : N[i]? = some y) (hv : (L2.start N vs)[i]? = some (some v)) :
    ∃ u, RelV v u ∧ scope.names.lookup y = some .local ∧ (ps.zip us).reverse.lookup y = some u := by
  have hv := start_arg hv
  have lt : i < ps.length := hl ▸ (List.getElem?_eq_some_iff.mp hv).1
  have hp : ps[i]? = some y := by
    have z := hy
    rw [← List.getElem?_take_of_lt lt, S.pre] at z
    exact z
  obtain ⟨u, hu, rv⟩ := r.get hv
  exact ⟨u, rv, S.par y (List.mem_of_getElem? hp), rev_lookup (S.pre ▸ S.nd.sublist (List.take_sublist _ _)) hp hu⟩
/-- the one cell of a method that says super() -/
theorem only_cell {cc c : Addr} {x : Str} (h : List.lookup x [(("__class__" : Str), cc)] = some c) : x = ("__class__" : Str) ∧ c = cc := by
  have m := PySem.mem_of_lookup h
  exact Prod.mk.inj (List.mem_singleton.mp m)
theorem inv_startS {N ps : List Str} {qual : Str} {scope : Scope} {f cda cc : Addr} {A : Around} {outer : List Env} {s : Shared} {H : Hp} {E : XK} {us : List Value} {vs : List V} {h1 : Heap} {tk : Nat} (S : ScS N ps scope) (hcc : ∃ cl cld csl v, K.lookup cc = some ⟨cl, cld, .cell v, csl⟩) (hd : A.handled = none) (e0 : Env0 P w K mg base A outer s H) (hl : vs.length = ps.length) (r : Vals vs us)
    (hns : h1.Ns s.heap.objs.size (fun x => (ps.zip us).reverse.lookup x)) (hk : ∀ b o, s.heap.get? b = some o → h1.get? b = some o) :
    Inv (cxS P w K mg base N qual scope f cda cc A outer s H E) [] (L2.start N vs) H { s with heap := h1, toks := tk } := by
  obtain ⟨_, _, _, v0, lkc⟩ := hcc
  have there := e0.bs _ _ (e0.mod.kin _ _ lkc)
  have few : vs.length ≤ N.length := by rw [hl, ← S.pre, List.length_take]; exact Nat.min_le_right _ _
  exact {
    ok := ⟨e0.mod, S.kind, rfl, rfl, Nat.le_refl _, fun _ _ _ a b => (only_cell a).1.trans (only_cell b).1.symm, fun y hy => by
        rcases (show scope.names.lookup y = some .cell ∨ scope.names.lookup y = some .free from hy) with q | q
        · exact absurd rfl (S.nocell _ (PySem.mem_of_lookup q))
        · have ey : y = ("__class__" : Str) := S.free _ (PySem.mem_of_lookup q) rfl
          subst ey
          exact ⟨cc, by show List.lookup _ [(("__class__" : Str), cc)] = _; simp⟩, fun _ _ z _ => (nomatch (show false = true from z)), fun _ => hd, Around.frames_deeper e0.frames, .inr ⟨rfl, rfl⟩, fun _ z => (nomatch (show _ ∈ ([] : List Addr) from z)), e0.bs, e0.bsz, fun _ _ _ z => (nomatch (show _ ∈ ([] : List Addr) from z)), fun _ z => (nomatch (show _ ∈ ([] : List Addr) from z)), e0.funs, e0.frf⟩
    os := rfl
    bare := e0.bare
    base := Un.kept hk
    loc := ⟨_, hns, fun i y v a b _ => (start_local S hl r a b).elim fun u q => ⟨u, q.1, .inl q.2⟩⟩
    cell := fun _ _ z => ⟨v0, _, hk _ _ ((only_cell z).2 ▸ there.1), rfl⟩
    free := e0.hok.fresh (Nat.le_refl _)
    freeC := fun _ _ z => (only_cell z).2 ▸ there.2
    pin := fun _ z => (nomatch (show _ ∈ ([] : List (Addr × Obj)) from z))
    hok := e0.hok.kept hk
    len := start_len few }
end
end PM
set_option Elab.async false
set_option linter.all false
set_option maxRecDepth 100000
set_option maxHeartbeats 400000
/-! Pm19: an own exception's __init__, whole; raise. -/
namespace PM
open PySem PySem.Spec PyProof.Rows L2
section
variable {B : Bx} {X : Cx} {Γ : List Slot} {C : Addr}
def FoQ (P : List D → Store → Prop) (r : R (List D)) : Prop := match r with
  | .ok fs s' => P fs s'
  | _ => False
theorem FoQ.bind {P : List D → Store → Prop} {m : M D} {k : D → M (List D)} {s : Store} (h : FoQ P ((m >>= k) s)) : ∃ d s', m s = .ok d s' ∧ FoQ P (k d s') := by
  rw [bind_run] at h
  cases q : m s with
  | err x0 s' => rw [q] at h; exact False.elim h
  | bad => rw [q] at h; exact False.elim h
  | ok d s' => rw [q] at h; exact ⟨d, s', rfl, h⟩
/-- the attributes stored one by one: what was stored so far (the last first) stands at nm -/
def QI0 (B : Bx) (X : Cx) (C : Addr) (nm : List Str) (ss : List Stmt) (Γ : List Slot) (nm' : List Str) (k : List D → M (List D)) : Prop :=
  ∀ G al fm H σ s a dx vs ds (Q : Hp → Prop), HV B G al ((a, exo a C (some dx)) :: (dx, exd dx (nm.zip vs)) :: fm) H s → vs.length = nm.length → RepL B al G vs ds → σ[0]? = some (some (.ref a)) → SL B al G [] σ Γ →
    FoQ (fun fs s' => ∀ G' al' H' us, Grow G al G' al' → HV B G' al' ((a, exo a C (some dx)) :: (dx, exd dx (nm'.zip us)) :: fm) H' s' → us.length = nm'.length → RepL B al' G' us fs → Q H') (k ds s) → wSs X ss { nx := fun _ H' => Q H', rt := fun _ _ => False } σ H
theorem qi_nil {nm : List Str} : QI0 B X C nm [] Γ nm (fun ds => pure ds) := fun G al fm H σ s a dx vs ds Q hv hl r h0 sl f => ⟨_, pss_nil, f G al H vs Grow.refl hv hl r⟩
theorem SL.app {al : List Addr} {G : Hp} {σ : L2.St} (fm : List (Addr × HO)) (h : SL B al G [] σ Γ) : SL B al G fm σ Γ := h.all
theorem qi_cons {nm nm' : List Str} {f : Str} {e : Expr} {m : M D} {rest : List Stmt} {k : List D → M (List D)} {p p' pos : Pos} (T : OexC X.K C) (hno : PySem.W.findIn X.K (.ref C) f = some none) (hlen : nm.length ≤ 900) (he : QE B X e Γ m) (hk : QI0 B X C (f :: nm) rest Γ nm' k)
    (i0 : X.N[0]? = some ("self" : Str) := by rfl) (hvx : Vis X.env.scope "self" := by exact Or.inl rfl) (hs : swapsWith e (some (.Attribute (.Name "self" p) f p')) pos.line X.env = pure false := by rfl) :
    QI0 B X C nm (.Assign [.Attribute (.Name "self" p) f p'] e pos :: rest) Γ nm' (fun ds => m >>= fun d => k (d :: ds)) := fun G al fm H σ s a dx vs ds Q hv hl r h0 sl f0 => by
  refine ⟨_, pss_cons (ps_ost (pe_var i0 hvx) wE_ok hs) wSs_ok, he G al _ H σ s _ hv (sl.app _) ?_⟩
  obtain ⟨d, s', q, f1⟩ := FoQ.bind f0
  rw [q]
  rintro y G1 al1 H1 g1 ⟨hv1, ry⟩
  refine ⟨_, h0, a, C, rfl, T, hno, .inr ⟨dx, nm.zip vs, (hv1.fr _ List.mem_cons_self).1, (hv1.fr _ (List.mem_cons_of_mem _ List.mem_cons_self)).1, by rw [List.length_zip]; omega, ?_⟩⟩
  have hv2 : HV B G1 al1 ((dx, exd dx (nm.zip vs)) :: (a, exo a C (some dx)) :: fm) H1 s' := hv1.perm (.swap ..)
  have hv3 : HV B G1 al1 ((a, exo a C (some dx)) :: (dx, exd dx ((f :: nm).zip (y :: vs))) :: fm) (upd H1 dx (exd dx ((f, y) :: nm.zip vs))) s' := (hv2.put (o' := exd dx ((f, y) :: nm.zip vs))).perm (.swap ..)
  refine hk G1 al1 fm _ σ s' a dx (y :: vs) (d :: ds) Q hv3 (by simp [hl]) (.cons ry (r.mono g1)) h0 (sl.mono g1) ?_
  unfold FoQ at f1 ⊢
  cases q2 : k (d :: ds) s' with
  | err x0 s2 => rw [q2] at f1; exact f1
  | bad => rw [q2] at f1; exact f1
  | ok fs s2 =>
    rw [q2] at f1
    exact fun G2 al2 H2 us g2 hv4 hl4 r4 => f1 G2 al2 H2 us (g1.trans g2) hv4 hl4 r4
end
/-- what a made exception's __init__ keeps -/
def FolX (B : Bx) (c : String) (a C : Addr) (fm : List (Addr × HO)) (G : Hp) (al : List Addr) (H0 : Hp) (r : R (List D)) (Q : VK) : Prop :=
  FoQ (fun fs s' => ∀ d us G' al' H', Grow G al G' al' → H0 d = none → HV B G' al' ((a, exo a C (some d)) :: (d, exd d ((B.xl c).zip us)) :: fm) H' s' → us.length = (B.xl c).length → RepL B al' G' us fs → Q .non H') r
def spX (B : Bx) (c : String) (g : List D → M (List D)) : Sp := fun vs H Q _ => ∃ G al fm s ds a C vs', vs = .ref a :: vs' ∧ B.xt c = some C ∧ HV B G al ((a, exo a C none) :: fm) H s ∧ RepL B al G vs' ds ∧ FolX B c a C fm G al H (g ds s) Q
theorem SL.setNo {B : Bx} {al : List Addr} {G : Hp} {ow : List (Addr × HO)} {σ : L2.St} {Γ : List Slot} (sl : SL B al G ow σ Γ) (i : Nat) (x : Option V) : SL B al G ow (σ.set i x) (Γ.set i .no) := by
  refine ⟨by rw [List.length_set, List.length_set]; exact sl.len, fun j g y h1 h2 => ?_, fun j k g g' y h1 h2 o1 o2 e1 e2 => ?_⟩
  · by_cases hj : i = j
    · subst hj
      by_cases hlt : i < Γ.length
      · rw [List.getElem?_set_self hlt] at h1
        cases h1
        exact True.intro
      · rw [List.getElem?_eq_none (by simpa using hlt)] at h1; cases h1
    · rw [List.getElem?_set_ne hj] at h1 h2
      exact sl.at_ j g y h1 h2
  · have ne : ∀ {l : Nat} {u : Slot}, (Γ.set i .no)[l]? = some u → u.isOwn = true → i ≠ l := fun {l u} h o z => by
      subst z
      by_cases hlt : i < Γ.length
      · rw [List.getElem?_set_self hlt] at h
        cases h
        cases o
      · rw [List.getElem?_eq_none (by simpa using hlt)] at h; cases h
    have n1 := ne h1 o1
    have n2 := ne h2 o2
    rw [List.getElem?_set_ne n1] at h1 e1
    rw [List.getElem?_set_ne n2] at h2 e2
    exact sl.inj j k g g' y h1 h2 o1 o2 e1 e2
/-- the slots at an exception's __init__ -/
def entX (n : Nat) (ds : List D) : List Slot := .no :: (ent n (.non :: ds)).tail
theorem sl_startX {B : Bx} {al : List Addr} {G : Hp} {N : List Str} {p : Addr} {vs : List V} {ds : List D} (r : RepL B al G vs ds) : SL B al G [] (L2.start N (.ref p :: vs)) (entX N.length ds) := by
  have s0 : SL B al G [] (L2.start N (.non :: vs)) (ent N.length (.non :: ds)) := sl_start (.cons .non r)
  exact s0.setNo 0 (some (.ref p))

section
variable {P : Program} {w : World} {K : PySem.W.Frag} {mg : Str → Option Value} {base : Heap}
theorem fn_okE {B : Bx} {c : String} {C f cda cc : Addr} {nm qual : Str} {st : Stmt} {fd : FuncData} {N ps : List Str} {k n : Nat} {g : List D → M (List D)}
    (E0 : ∃ oc od kV doc pm an ct osl, fd = PySem.W.ksFn nm qual (defArgs st) (defBody st) (defScope st) .none kV doc pm an (.ref cda) ct cc ∧ K.lookup f = some ⟨oc, od, .func fd, osl⟩ ∧ PySem.W.codeIn K (.ref cda) qual = true)
    (S : ScS N ps (defScope st)) (SC : SupC P K C f cda cc) (hC : B.xt c = some C) (hmg : mg "super" = none) (ar : Ar n g) (hn : ps.length = n + 1) (hself : (defScope st).names.lookup ("self" : Str) = some .local) (i0 : N[0]? = some ("self" : Str))
    {e : Expr} {p0 p1 p2 pos pos0 q0 q1 q2 q3 : Pos} {f1 v1 : Str} {rest : List Stmt}
    (hbody : defBody st = .Expr (.Call (.Attribute (.Call (.Name "super" p0) [] [] p1) "__init__" p2) [e] [] pos) pos0 :: .Assign [.Attribute (.Name "self" q0) f1 q1] (.Name v1 q2) q3 :: rest)
    (i1 : Nat) (hi1 : N[i1]? = some v1) (hvis : Vis (defScope st) v1) (hd1 : (v1 == ("__debug__" : Str)) = false) (hcd1 : (v1 == ("__classdict__" : Str)) = false) (hno : PySem.W.findIn K (.ref C) f1 = some none)
    (hst : ∀ env, starEach [e] env = (false, eval e env) :: starEach [] env)
    (ht : ∀ env, ∃ pl, eval (.Call (.Attribute (.Call (.Name "super" p0) [] [] p1) "__init__" p2) [e] [] pos) env = (do
      let ov ← attributeBase (.Call (.Name "super" p0) [] [] p1) "__init__" env (eval (.Call (.Name "super" p0) [] [] p1) env)
      standAt p2.atName
      let (f, first) ← holding [ov] (getMethod ov "__init__" pl)
      callWith pos f first (backTo pos (starEach [e] env)) []))
    (hb : ∀ (A : Around) (outer : List Env) (s : Shared) (H : Hp) (E : XK), Room k (A.deeper (PySem.W.ksEnv qual (defScope st) s.heap.objs.size f (.ref cda) cc)) → ∀ ds, ds.length = n →
      ∃ (me : M D) (d1 : D) (m2 : List D → M (List D)), g ds = (me >>= fun _ => m2 [d1]) ∧ (entX N.length ds)[i1]? = some (.d d1) ∧ QE B (cxS P w K mg base N qual (defScope st) f cda cc A outer s H E) e (entX N.length ds) me ∧
        QI0 B (cxS P w K mg base N qual (defScope st) f cda cc A outer s H E) C [f1] rest (entX N.length ds) (B.xl c) m2) :
    FnOk P w K mg base (L2.CX P w) (k + 1) f fd ps (spX B c g) := by
  obtain ⟨oc, od, kV, doc, pm, an, ct, osl, rfl, lk, hcd⟩ := E0
  have hlen : ∀ {vs H Q E}, spX B c g vs H Q E → vs.length = ps.length := fun {vs H Q E} h => by
    obtain ⟨G, al, fm, s, ds, a, C', vs', rfl, hC', hv, r, q⟩ := h
    rw [List.length_cons, r.length, hn, ar ds s fun z => by rw [z] at q; exact q]
  refine ⟨fun A hr outer s H us vs r e0 Q E h args hbd => ?_, fun {vs H Q E} h => hlen h⟩
  have hl := hlen h
  have keep : ∀ b o, base.get? b = some o → s.heap.get? b = some o := fun b o e => (e0.bs b o e).1
  have kin : K.In s.heap := e0.mod.kin.keeps keep
  obtain ⟨G, al, fm, st0, ds, a, C', vs', rfl, hC', hv, rp, q⟩ := h
  rw [hC] at hC'
  cases hC'
  have hds : ds.length = n := ar ds st0 fun z => by rw [z] at q; exact q
  obtain ⟨cl, cld, csl, lkc⟩ := SC.cell
  refine ks_codeAny_call_defAt hr.depth (kin _ _ lk) rfl (e0.mod.nolimit.keeps keep) (PySem.W.codeRec_of kin hcd) rfl hbd S.nocell (fun y hy => S.par y.1 (List.of_mem_zip (show (y.1, y.2) ∈ ps.zip us from hy)).1) (fun h1 hns hk1 => ?_) S.co S.gen S.kind
  have I : Inv (cxS P w K mg base N qual (defScope st) f cda cc A outer s H E) [] (L2.start N (.ref a :: vs')) H { s with heap := h1, toks := s.toks + (ps.zip us).length } := inv_startS S ⟨_, _, _, _, lkc⟩ hr.hd e0 hl r hns hk1
  obtain ⟨me, d1, m2, eg, hd, hq1, hq2⟩ := hb A outer s H E (hr.deeper _) ds hds
  have sl0 : SL B al G [] (L2.start N (.ref a :: vs')) (entX N.length ds) := sl_startX rp
  have h0 : (L2.start N (.ref a :: vs'))[0]? = some (some (.ref a)) := rfl
  rw [eg] at q
  rw [hbody]
  show _root_.PySem.wpAt (model P w) (cxS P w K mg base N qual (defScope st) f cda cc A outer s H E).A (.func _ (cxS P w K mg base N qual (defScope st) f cda cc A outer s H E).env) (execs _ (cxS P w K mg base N qual (defScope st) f cda cc A outer s H E).env) _ (cxS P w K mg base N qual (defScope st) f cda cc A outer s H E).xe _
  obtain ⟨pl, ht'⟩ := ht (cxS P w K mg base N qual (defScope st) f cda cc A outer s H E).env
  obtain ⟨d0, s1, qm, f1'⟩ := FoQ.bind q
  refine ks_wpAt_execs_cons (ks_wpAt_Expr_any (ks_wpAt_mono (sup_init (X := cxS P w K mg base N qual (defScope st) f cda cc A outer s H E) (Q := fun H1 => ∃ G1 al1, Grow G al G1 al1 ∧ HV B G1 al1 ((a, exo a C none) :: fm) H1 s1) (pl := pl) SC rfl rfl (by show List.lookup _ [(("__class__" : Str), cc)] = _; rw [List.lookup_cons]; simp) S.sup S.cls hself hmg i0 wE_ok I h0 (hv.fr _ List.mem_cons_self).1 (hq1 G al _ H _ st0 _ hv (sl0.app _) ?_) (hst _) ht') (fun _ s2 ⟨H1, I1, G1, al1, g1, hv1⟩ => ?_) fun _ _ z => z) I.quiet rfl)
  · rw [qm]
    exact fun v G1 al1 H1 g1 ⟨hv1, _⟩ => ⟨by decide, (hv1.fr _ List.mem_cons_self).1, G1, al1, g1, hv1⟩
  · have sl1 := sl0.mono g1
    obtain ⟨y, ey, ry⟩ : ∃ y, (L2.start N (.ref a :: vs'))[i1]? = some (some y) ∧ Rep B al1 G1 y d1 := by
      have lt : i1 < (entX N.length ds).length := (List.getElem?_eq_some_iff.mp hd).1
      have lt' : i1 < (L2.start N (.ref a :: vs')).length := by rw [sl1.len]; exact lt
      obtain ⟨y, e1, e2⟩ := sl1.at_ i1 _ _ hd (List.getElem?_eq_getElem lt')
      exact ⟨y, by rw [List.getElem?_eq_getElem lt', e1], e2⟩
    refine ks_wpAt_execs_cons (_root_.PySem.wpAt_of_wpAny (plainObj_wpAny_Assign_Attribute (thn ((pe_var (X := cxS P w K mg base N qual (defScope st) f cda cc A outer s H E) (i := i1) (x := v1) (pos := q2) hi1 hvis hd1 hcd1).run [] s2 _ H1 (fun v H' => v = y ∧ H' = H1) I1 ⟨y, ey, rfl, rfl⟩) fun u s3 ⟨y', H2, I2, r2, ey', eh⟩ => ?_) rfl))
    subst ey' eh
    refine thn ((pe_var (X := cxS P w K mg base N qual (defScope st) f cda cc A outer s H E) (i := 0) (x := "self") (pos := q0) i0 (.inl hself)).run [] s3 _ H2 (fun v H' => v = .ref a ∧ H' = H2) I2 ⟨_, h0, rfl, rfl⟩) fun u2 s4 ⟨x2, H3, I3, r3, ex, eh⟩ => ?_
    subst ex eh
    obtain rfl : u2 = Value.ref a := r3
    refine ost_first SC.oex I3 (hv1.fr _ List.mem_cons_self).1 hno r2 fun dx s5 hdx dne I4 => ?_
    have nH : H dx = none := e0.hok.fresh (Nat.le_trans I3.sz hdx)
    have nH3 : H3 dx = none := I3.hok.fresh hdx
    have hv2 : HV B G1 al1 ((a, exo a C (some dx)) :: (dx, exd dx ([f1].zip [y'])) :: fm) (upd (upd H3 dx (exd dx [(f1, y')])) a (exo a C (some dx))) s1 := ((hv1.hold (o := exd dx [(f1, y')]) nH3).perm (.swap ..)).put
    refine _root_.PySem.wpAt_of_wpAny (wpAny_mono (wSs_ok.run [] s5 _ _ _ I4 (hq2 G1 al1 fm _ _ s1 a dx [y'] [d1] (fun H' => Q .non H') hv2 rfl (.cons ry .nil) h0 sl1 ?_)) (fun fl s6 hs => ?_) fun e s' hs => hs)
    · unfold FoQ at f1' ⊢
      cases q2 : m2 [d1] s1 with
      | err x0 s2 => rw [q2] at f1'; exact f1'
      | bad => rw [q2] at f1'; exact f1'
      | ok fs s2 =>
        rw [q2] at f1'
        exact fun G2 al2 H2 us g2 hv4 hl4 r4 => f1' dx us G2 al2 H2 (g1.trans g2) nH hv4 hl4 r4
    · cases fl with
      | ret u =>
        obtain ⟨v, σ', H', J, rv, q⟩ := hs
        exact False.elim q
      | next =>
        obtain ⟨σ', H', J, q⟩ := hs
        exact ⟨V.non, H', J.os, J.bare, J.base, J.hok, rfl, q⟩
      | brk =>
        obtain ⟨_, _, _, q⟩ := hs
        exact False.elim q
      | cont =>
        obtain ⟨_, _, _, q⟩ := hs
        exact False.elim q
end
end PM
set_option Elab.async false
set_option linter.all false
set_option maxRecDepth 100000
set_option maxHeartbeats 400000
/-! Pm20: raise C(..). -/
namespace PM
open PySem PySem.Spec PyProof.Rows L2
/-- an exception is laid behind its arguments: it stands there, bare -/
theorem bare_laid {X : Cx} {pins : List (Addr × Obj)} {σ : L2.St} {H : Hp} {s : Shared} (I : Inv X pins σ H s) (C : Addr) (us : List Value) :
    Inv X pins σ (upd H (s.heap.objs.size + 1) (exo (s.heap.objs.size + 1) C none)) { s with heap := (s.heap.push (PySem.W.kdv_tup us)).push (PySem.HandSPX.excO C s.heap.objs.size) } :=
  I.laid (t' := s.toks) (fun _ _ z => Heap.get?_push_of_some _ (Heap.get?_push_of_some _ z)) (Nat.le_succ _) (exo_ok (t1 := s.heap.objs.size) (by heap_get))
/-- the class is called with values that stand: its __init__ runs over the bare exception, which is then let go -/
theorem made_of {X : Cx} {C fI : Addr} {k : Nat} {fd : FuncData} {ps : List Str} {sp : Sp} {pins : List (Addr × Obj)} {σ : L2.St} {H : Hp} {s : Shared} {Q : XK} {us : List Value} {vs : List V} (T : OexC X.K C) (iC : PySem.W.findIn X.K (.ref C) "__init__" = some (some (.ref fI))) (tI : PySem.W.typeIn X.K (.ref fI) = some (.type "function"))
    (F1 : FnOk X.prog X.w X.K X.mg X.base (L2.CX X.prog X.w) k fI fd ps sp) (hr : Room (k + 1) X.A) (hb : Binds X.K fd ps []) (I : Inv X pins σ H s) (r : Vals vs us) (few : us.length ≤ sizeLine)
    (h : sp (.ref (s.heap.objs.size + 1) :: vs) (upd H (s.heap.objs.size + 1) (exo (s.heap.objs.size + 1) C none)) (fun v H2 => v = .non ∧ ∃ d fs, H2 (s.heap.objs.size + 1) = some (exo (s.heap.objs.size + 1) C (some d)) ∧ H2 d = some (exd d fs) ∧ H d = none ∧ Q (.ref C) (some d) (upd (del H2 (s.heap.objs.size + 1)) d (.xd fs))) fun _ _ _ => False) :
    wpAny (model X.prog X.w) X.A (call (.ref C) us) (MkP X pins σ Q) X.xe s := by
  obtain ⟨_, _, _, _, bm, _, _, _, _, _, _, _, _, _, _, hC, hbm⟩ := T.cls
  have J := bare_laid I C us
  refine wpAny_call (PySem.HandSPX.call_own F.excBase_ValueError (fun Y => PySem.HandSPX.refsVE_contains Y bm hbm) (I.kIn _ _ hC) (PySem.W.looks_findIn I.kIn iC) (fun self => PySem.W.bind_fn I.kIn self tI) few
    (codeAny_mono (F1.at (hr.make C us []) hb (J.env0.make C us []) J.kIn (.cons (rel_ref _) r) h) fun z s' hz => ?_))
  match z, hz with
  | .error _, hz => exact (let ⟨_, _, _, _, _, _, _, _, _, _, _, _, no⟩ := hz; no.elim)
  | .ok (.ret u), ⟨_, _, o2, b2, un, ok2, rv, rfl, _, _, ea, ed, hd, q⟩ =>
    exact ⟨rv, mk_end (raises_own T.exC T.tyC) I (Nat.le_succ _) (fun _ _ e => Heap.get?_push_of_some _ (Heap.get?_push_of_some _ e)) un ok2 o2 b2 ea ed hd q⟩
  | .ok .next, hz => exact False.elim hz
  | .ok .brk, hz => exact False.elim hz
  | .ok .cont, hz => exact False.elim hz
theorem pmkA {X : Cx} {x : Str} {C fI : Addr} {k : Nat} {fd : FuncData} {ps : List Str} {sp : Sp} {e : Expr} {es : List Expr} {ta : TA} {p pos : Pos} (T : OexC X.K C) (iC : PySem.W.findIn X.K (.ref C) "__init__" = some (some (.ref fI))) (tI : PySem.W.typeIn X.K (.ref fI) = some (.type "function"))
    (F1 : FnOk X.prog X.w X.K X.mg X.base (L2.CX X.prog X.w) k fI fd ps sp) (hr : Room (k + 1) X.A) (hb : Binds X.K fd ps []) (hg : Gl X x) (hm : X.mg x = some (.ref C)) (ha : PA X (e :: es) ta)
    (hdb : (x == ("__debug__" : Str)) = false) (he : starEach (e :: es) X.env = (false, eval e X.env) :: starEach es X.env) (hpl : (backTo pos (starEach es X.env)).any (·.1) = false) :
    PMk X (.Call (.Name x p) (e :: es) [] pos) (tMkO C sp [] ta) := by
  intro pins s σ H Q I h
  refine wpAny_Call_Name_kw (ld_glob I hg hm ?_ hdb)
  exact PySem.W.callWith_K (h₀ := X.base) I.ok.mod.kin T.kC (wpAny_mono (ha.run pos pins s σ H _ I h) (fun us s1 z => by
    obtain ⟨vs, H1, J, r, few, q⟩ := z
    have q' := q (s1.heap.objs.size + 1) (J.hok.fresh (Nat.le_succ _))
    rw [List.append_nil] at q'
    exact ⟨J.kIn, made_of T iC tI F1 hr hb J r (by show us.length ≤ _; rw [← r.length, sizeLine_eq]; omega) q'⟩) fun _ _ z => z) he hpl
section
variable {B : Bx} {X : Cx} {Γ : List Slot}
theorem HV.drop {G H : Hp} {al : List Addr} {fm : List (Addr × HO)} {s : Store} {a : Addr} {o : HO} (h : HV B G al ((a, o) :: fm) H s) : HV B G al fm (del H a) s := by
  have ha := h.fr _ List.mem_cons_self
  have nd := h.nd
  rw [List.map_cons] at nd
  refine ⟨fun b u e => ?_, fun p hp => ?_, h.len, fun n b mc h1 h2 => ?_, (List.nodup_append.mpr ?_)⟩
  · have : b ≠ a := fun z => by rw [z, ha.2] at e; cases e
    rw [del_ne this]
    exact h.ex _ _ e
  · rw [del_ne (h.nfm p hp)]
    exact h.fr p (List.mem_cons_of_mem _ hp)
  · have nb : b ≠ a := fun z => by
      subst z
      have d := (List.nodup_append.mp nd).2.2 b (List.mem_of_getElem? h1) b List.mem_cons_self
      exact d rfl
    exact (h.ce n b mc h1 h2).keep Grow.refl (fun z => z) fun o e => by rw [del_ne nb]; exact e
  · obtain ⟨n1, n2, n3⟩ := List.nodup_append.mp nd
    exact ⟨n1, (List.nodup_cons.mp n2).2, fun x hx y hy => n3 x hx y (List.mem_cons_of_mem _ hy)⟩
/-- raise C(e, ..) -/
theorem qs_raise {α β : Type} {γ : α → List Slot} {δ : β → List Slot} (c : String) {C fI : Addr} {k : Nat} {fd : FuncData} {ps : List Str} {g : List D → M (List D)} {ca : ∀ {α : Type}, (List D → M α) → M α} {x : Str} {e : Expr} {es : List Expr} {p pos pos0 : Pos} (hC : B.xt c = some C) (T : OexC X.K C) (iC : PySem.W.findIn X.K (.ref C) "__init__" = some (some (.ref fI))) (tI : PySem.W.typeIn X.K (.ref fI) = some (.type "function"))
    (F1 : FnOk X.prog X.w X.K X.mg X.base (L2.CX X.prog X.w) k fI fd ps (spX B c g)) (hr : Room (k + 1) X.A) (hb : Binds X.K fd ps []) (hm : X.mg x = some (.ref C)) (ha : QA B X (e :: es) Γ ca) {n : Nat} (ar : Ar n g) (hl : n ≤ 1000 := by decide) (hc : X.calm = true := by rfl) (hg : Gl X x := by rfl)
    (hdb : (x == ("__debug__" : Str)) = false := by decide) (he : starEach (e :: es) X.env = (false, eval e X.env) :: starEach es X.env := by rfl) (hpl : (backTo pos (starEach es X.env)).any (·.1) = false := by rfl) :
    QS B X [.Raise (some (.Call (.Name x p) (e :: es) [] pos)) none pos0] Γ γ δ (ca fun ds => noErr (g ds) >>= fun fs => throw ⟨c, fs⟩) := fun G al fo ow H σ s E hv sl f => by
  rw [ha.n] at f
  refine ⟨_, pss_one (ps_raise hc wX_ok (pmkA T iC tI F1 hr hb hg hm wA_ok hdb he hpl)), ha.q G al (ow ++ fo) H σ s _ hv sl.all ?_⟩
  rw [bind_run] at f
  cases q : ca pure s with
  | bad => rw [q] at f; exact f
  | err x0 s' => rw [q] at f; exact fun cls dd G' al' H' g' hv' xr => f cls dd σ G' al' H' g' hv'.outer xr
  | ok ds s1 =>
    rw [q] at f
    rintro vs G1 al1 H1 g1 ⟨hv1, rp⟩
    have f2 : FolS B X fo G al γ δ ((noErr (g ds) >>= fun fs => throw ⟨c, fs⟩) s1) E := f
    rw [bind_run] at f2
    unfold noErr at f2
    cases q2 : g ds s1 with
    | bad => rw [q2] at f2; exact False.elim f2
    | err x0 s' => rw [q2] at f2; exact False.elim f2
    | ok fs s2 =>
      rw [q2] at f2
      have hle : ds.length = n := ar ds s1 fun z => by rw [z] at q2; cases q2
      refine ⟨by rw [rp.length, hle]; exact hl, fun a na => ?_⟩
      rw [List.append_nil]
      refine ⟨G1, al1, ow ++ fo, s1, ds, a, C, vs, rfl, hC, hv1.hold na, rp, ?_⟩
      unfold FolX FoQ
      rw [q2]
      intro d us G2 al2 H2 g2 hd hv2 hlen r2
      have hda : d ≠ a := fun z => (hv2.nfm _ List.mem_cons_self) z
      refine ⟨rfl, d, _, (hv2.fr _ List.mem_cons_self).1, (hv2.fr _ (List.mem_cons_of_mem _ List.mem_cons_self)).1, by rw [upd_ne hda] at hd; exact hd, ?_⟩
      obtain ⟨hv3, g3⟩ := (hv2.drop).freezeLock (.xd ((B.xl c).zip us))
      exact f2 (.ref C) (some d) σ _ al2 _ ((g1.trans g2).trans g3) hv3.outer ⟨C, d, us, hC, rfl, rfl, upd_same, hlen, r2.mono g3⟩
end
end PM
set_option Elab.async false
set_option linter.all false
set_option maxRecDepth 100000
set_option maxHeartbeats 400000
/-! Pm21: try .. except C as n; n.f. -/
namespace PM
open PySem PySem.Spec PyProof.Rows L2
/-- what the written part says of the exception classes -/
structure XOk (B : Bx) : Prop where
  xf : ∀ c C, B.xt c = some C → XfC B.K C
  no : ∀ c C f, B.xt c = some C → f ∈ B.xl c → PySem.W.findIn B.K (.ref C) f = some none
  ex : ∀ c c' C C', B.xt c = some C → B.xt c' = some C' → PySem.W.exmOne B.K (.ref C) (.ref C') = some (B.sub c c')
theorem SL.setF {B : Bx} {al : List Addr} {G : Hp} {ow : List (Addr × HO)} {σ : L2.St} {Γ : List Slot} (sl : SL B al G ow σ Γ) (i : Nat) {x : Option V} {g0 : Slot} (h : SlotOk B al G ow x g0) (hg : g0.isOwn = false) : SL B al G ow (σ.set i x) (Γ.set i g0) := by
  have at0 : ∀ {j : Nat} {u : Slot}, (Γ.set i g0)[j]? = some u → j = i → u = g0 := fun {j u} h z => by
    subst z
    by_cases hlt : j < Γ.length
    · rw [List.getElem?_set_self hlt] at h
      exact (Option.some.inj h).symm
    · rw [List.getElem?_eq_none (by simpa using hlt)] at h; cases h
  refine ⟨by rw [List.length_set, List.length_set]; exact sl.len, fun j g y h1 h2 => ?_, fun j k g g' y h1 h2 o1 o2 e1 e2 => ?_⟩
  · by_cases hj : i = j
    · subst hj
      rw [at0 h1 rfl]
      by_cases hlt : i < σ.length
      · rw [List.getElem?_set_self hlt] at h2
        rw [← Option.some.inj h2]
        exact h
      · rw [List.getElem?_eq_none (by simpa using hlt)] at h2; cases h2
    · rw [List.getElem?_set_ne hj] at h1 h2
      exact sl.at_ j g y h1 h2
  · have ne : ∀ {l : Nat} {u : Slot}, (Γ.set i g0)[l]? = some u → u.isOwn = true → i ≠ l := fun {l u} h o z => by
      rw [at0 h z.symm, hg] at o
      cases o
    have n1 := ne h1 o1
    have n2 := ne h2 o2
    rw [List.getElem?_set_ne n1] at h1 e1
    rw [List.getElem?_set_ne n2] at h2 e2
    exact sl.inj j k g g' y h1 h2 o1 o2 e1 e2
/-- an attribute of a caught exception -/
def xFld (xl : String → List Str) (f : Str) (e : Exc) : M D := match ((xl e.c).zip e.fs).lookup f with
  | some d => pure d
  | none => bad
theorem zip_lookup {B : Bx} {al : List Addr} {G : Hp} {f : Str} {d : D} : ∀ {nm : List Str} {vs : List V} {ds : List D}, RepL B al G vs ds → (nm.zip ds).lookup f = some d → f ∈ nm ∧ ∃ v, (nm.zip vs).lookup f = some v ∧ Rep B al G v d
  | [], _, _, _, h => by rw [List.zip_nil_left] at h; cases h
  | _ :: _, _, _, .nil, h => by rw [List.zip_nil_right] at h; cases h
  | n :: nm, _, _, .cons (v := v) (d := d0) (vs := vs) (ds := ds) r rs, h => by
    have h' : List.lookup f ((n, d0) :: nm.zip ds) = some d := h
    show f ∈ n :: nm ∧ ∃ v', List.lookup f ((n, v) :: nm.zip vs) = some v' ∧ _
    rw [List.lookup_cons] at h'
    rw [List.lookup_cons]
    cases q : (f == n) with
    | true =>
      rw [q] at h'
      cases h'
      exact ⟨by rw [beq_iff_eq.mp q]; exact List.mem_cons_self, v, rfl, r⟩
    | false =>
      rw [q] at h'
      obtain ⟨h1, v', h2, h3⟩ := zip_lookup rs h'
      exact ⟨List.mem_cons_of_mem _ h1, v', h2, h3⟩
section
variable {B : Bx} {X : Cx} {Γ : List Slot}
theorem qe_xf (xo : XOk B) (hK : B.K = X.K) (i : Nat) {a : Addr} {oe : Obj} {cls : Value} {d : Option Addr} {pn : List (Addr × Obj)} {e : Exc} {n f : Str} {p pos : Pos} (hz : Zc cls d oe) (hf : ∃ vs, oe.data = .fields vs) (hi : Γ[i]? = some (.x a cls d e) := by rfl) (hN : X.N[i]? = some n := by rfl) (hvx : Vis X.env.scope n := by exact Or.inl rfl)
    (hd : (n == ("__debug__" : Str)) = false := by decide) (hcd : (n == ("__classdict__" : Str)) = false := by decide) (hb : attributeBase (.Name n p) f X.env (eval (.Name n p) X.env) = eval (.Name n p) X.env := by rfl) :
    QE B (X.suite a ((a, oe) :: pn)) (.Attribute (.Name n p) f pos) Γ (xFld B.xl f e) := fun G al fm H σ s Q hv sl f0 => by
  have lt : i < σ.length := by rw [sl.len]; exact (List.getElem?_eq_some_iff.mp hi).1
  obtain ⟨e1, C, dd, vs, h1, h2, h3, h4, h5, h6⟩ := sl.at_ i _ _ hi (List.getElem?_eq_getElem lt)
  unfold xFld at f0
  cases q : ((B.xl e.c).zip e.fs).lookup f with
  | none => rw [q] at f0; exact False.elim f0
  | some d0 =>
    rw [q] at f0
    obtain ⟨m1, v, m2, m3⟩ := zip_lookup h6 q
    refine wE_of (pe_xf (C := C) (by rw [← hK]; exact xo.xf _ _ h1) (by rw [← hK]; exact xo.no _ _ _ h1 m1) hz hf (pe_var (X := X.suite a ((a, oe) :: pn)) (i := i) hN hvx hd hcd) hb) ?_
    exact ⟨_, by rw [List.getElem?_eq_getElem lt, e1], rfl, h2, dd, _, v, h3, hv.ex _ _ h4, m2, f0 v G al H Grow.refl ⟨hv, m3⟩⟩
theorem wSs_len {ss : List Stmt} {D : Ends} {σ : L2.St} {H : Hp} (h : σ.length = X.N.length → wSs X ss D σ H) : wSs X ss D σ H :=
  ⟨fun D σ H => σ.length = X.N.length → wSs X ss D σ H, ⟨fun pins s σ H D I h => wSs_ok.run pins s σ H D I (h I.len)⟩, h⟩
/-- try: a body; an exception of the class c goes to the suite, which returns -/
def tryM {α β : Type} (mb : M (Fl α β)) (c : Exc → Bool) (mh : Exc → M (Fl Empty Empty)) : M (Fl α β) := fun s => match mb s with
  | .ok r s' => .ok r s'
  | .err e s' => if c e = true then (match mh e s' with
    | .ok (.rt d) s2 => .ok (.rt d) s2
    | _ => .bad) else .err e s'
  | .bad => .bad
theorem qs_try {α β α' : Type} {γ : α → List Slot} {δ : β → List Slot} {γ' : α' → List Slot} {mb : M (Fl α' β)} {mh : Exc → M (Fl Empty Empty)} {k : α' → M (Fl α β)} {body suite rest : List Stmt} {b₀ : Stmt} {np pos pos' : Pos} {x n : Str} {C : Addr} (c : String) (i : Nat) (xo : XOk B) (hK : B.K = X.K) (hC : B.xt c = some C) (hm : X.mg x = some (.ref C))
    (hb : ∀ pn xe, PassesOwn (model X.prog X.w) X.A X.env xe → QS B (X.tr pn xe) body Γ γ' δ mb)
    (hh : ∀ a oe cls d pn e, Zc cls d oe → (∃ vs, oe.data = .fields vs) → QS B (X.suite a ((a, oe) :: pn)) (b₀ :: suite) ((List.replicate X.N.length Slot.no).set i (.x a cls d e)) (fun (z : Empty) => ([] : List Slot)) (fun (z : Empty) => ([] : List Slot)) (mh e))
    (hk : ∀ a, QS B X rest (γ' a) γ δ (k a)) (hN : X.N.Nodup) (hs : X.stack = X.env :: X.outer := by rfl) (hf : X.env.frame = some X.env.locals := by rfl) (hi : X.N[i]? = some n := by rfl) (hln : X.env.kindOf n = some .local := by rfl) (hg : Gl X x := by rfl) (hdb : (x == ("__debug__" : Str)) = false := by decide) :
    QS B X (.Try body [.ExceptHandler (some (.Name x np)) (some n) (b₀ :: suite) pos'] [] [] pos :: rest) Γ γ δ (seqF (tryM mb (fun e => B.sub e.c c) mh) k) := fun G al fo ow H σ s E hv sl f => by
  refine ⟨_, pss_cons (ps_try_as (tb := fun W D σ H => ∀ pn xe, Takes (X.tr pn xe) W → PassesOwn (model X.prog X.w) X.A X.env xe → wSs (X.tr pn xe) body D σ H) (ts := fun a cls d D σ H => ∀ oe pn, Zc cls d oe → (∃ vs, oe.data = .fields vs) → wSs (X.suite a ((a, oe) :: pn)) (b₀ :: suite) D σ H) hs hf hN hi hln ⟨hg, hdb, .inl hm⟩ wX_ok
    (fun W pn xe tk hp => ⟨fun pins s σ H D I h => wSs_ok.run pins s σ H D I (h pn xe tk hp)⟩) (fun a oe cls d pn hz hfd => ⟨fun pins s σ H D I h => wSs_ok.run pins s σ H D I (h oe pn hz hfd)⟩)) wSs_ok, fun pn xe tk hp => ?_⟩
  refine hb pn xe hp G al fo ow H σ s _ hv sl ?_
  unfold seqF at f
  rw [bind_run] at f
  unfold tryM at f
  cases q : mb s with
  | bad => rw [q] at f; exact f
  | ok r s' =>
    rw [q] at f
    cases r with
    | nx a => exact fun σ' ow' G' al' H' g' hv' sl' => hk a G' al' fo ow' H' σ' s' _ hv' sl' (FolS.grow g' f)
    | rt d => exact f
    | bk b => exact f
    | ct b => exact f
  | err x0 s' =>
    rw [q] at f
    rintro cls dd σ' G' al' H' g' hv' xr
    obtain ⟨C0, d0, vs0, x1, x2, x3, x4, x5, x6⟩ := id xr
    refine ⟨_, tk, B.sub x0.c c, by rw [x2, ← hK]; exact xo.ex _ _ _ _ x1 hC, fun hy a na oe pn' hz hfd => ?_, fun hno => ?_⟩
    · dsimp only at f
      rw [if_pos hy] at f
      refine wSs_len fun hl => ?_
      rw [List.length_set] at hl
      refine hh a oe cls dd pn' x0 hz hfd G' al' fo [] H' _ s' _ hv' ((sl_no hl).setF i (g0 := .x a cls dd x0) ⟨rfl, xr⟩ rfl) ?_
      cases q2 : mh x0 s' with
      | bad => rw [q2] at f; exact f
      | err x2 s2 => rw [q2] at f; exact False.elim f
      | ok r s2 =>
        rw [q2] at f
        cases r with
        | nx a => exact nomatch a
        | bk a => exact nomatch a
        | ct a => exact nomatch a
        | rt d => exact fun v G2 al2 H2 g2 hv2 rp => f v G2 al2 H2 (g'.trans g2) hv2 rp
    · dsimp only at f
      rw [if_neg (by rw [hno]; decide)] at f
      exact f cls dd σ' G' al' H' g' hv' xr
end
end PM
set_option Elab.async false
set_option linter.all false
set_option maxRecDepth 100000
set_option maxHeartbeats 400000
/-! Pm22: repr of data; f-strings; isinstance against own classes. -/
namespace PM
open PySem PySem.Spec PyProof.Rows L2

def seqO {α : Type} : List (Option α) → Option (List α)
  | [] => some []
  | o :: r => match o, seqO r with
    | some a, some l => some (a :: l)
    | _, _ => none
theorem seqO_cons {α : Type} {o : Option α} {r : List (Option α)} {l : List α} (h : seqO (o :: r) = some l) : ∃ a l', o = some a ∧ seqO r = some l' ∧ l = a :: l' := by
  unfold seqO at h
  cases o with
  | none => cases h
  | some a =>
    cases q : seqO r with
    | none => rw [q] at h; cases h
    | some l' => rw [q] at h; cases h; exact ⟨a, l', rfl, rfl, rfl⟩
/-- the entry of a dict, shown -/
def shwE (f : D → Option Str) (e : D × D) : Option Str := match f e.1, f e.2 with
  | some k, some v => some (k ++ ": " ++ v)
  | _, _ => none
theorem shwE_some {f : D → Option Str} {k v : D} {t : Str} (h : shwE f (k, v) = some t) : ∃ a b, f k = some a ∧ f v = some b ∧ t = a ++ ": " ++ b := by
  unfold shwE at h
  dsimp only at h
  cases q : f k with
  | none => rw [q] at h; cases h
  | some a =>
    cases q2 : f v with
    | none => rw [q, q2] at h; cases h
    | some b =>
      rw [q, q2] at h
      cases h
      exact ⟨a, b, rfl, rfl, rfl⟩
/-- repr of data -/
def shw : Nat → D → Option Str
  | 0, _ => none
  | _ + 1, .non => some "None"
  | _ + 1, .bl b => some (if b then "True" else "False")
  | _ + 1, .int i => if i.natAbs.log2 < 1920 then some (toString i) else none
  | _ + 1, .str x => if (reprText x).length ≤ 16777216 then some (reprText x) else none
  | n + 1, .lst ds => (seqO (ds.map (shw n))).map listText
  | n + 1, .tup ds => (seqO (ds.map (shw n))).map tupleText
  | n + 1, .dct es => (seqO (es.map (shwE (shw n)))).map dictText
  | _ + 1, _ => none
theorem listText_nil : listText [] = ("[]" : Str) := by decide +kernel
theorem ReprAllK.get {prog : Program} {w : World} {as : List Addr} {h : Heap} {d : Nat} : ∀ {l : List Value} {ts : List Str}, ReprAllK prog w as h d l ts → ∀ (i : Nat) (y : Value), l[i]? = some y → ∃ t, ts[i]? = some t ∧ ReprK prog w as h d y t
  | _, _, .nil, i, y, h => by simp at h
  | _, _, .cons r _, 0, y, h => by
    simp at h
    subst h
    exact ⟨_, rfl, r⟩
  | _, _, .cons _ rs, i + 1, y, h => by
    obtain ⟨t, h1, h2⟩ := ReprAllK.get rs i y (by simpa using h)
    exact ⟨t, by simpa using h1, h2⟩
theorem ReprAllK.more {prog : Program} {w : World} {as as' : List Addr} {h : Heap} {d : Nat} (hs : ∀ b ∈ as, b ∈ as') : ∀ {l : List Value} {ts : List Str}, ReprAllK prog w as h d l ts → ReprAllK prog w as' h d l ts
  | _, _, .nil => .nil
  | _, _, .cons r rs => .cons (r.more hs) (ReprAllK.more hs rs)
theorem ReprEntriesK.more {prog : Program} {w : World} {as as' : List Addr} {h : Heap} {d : Nat} (hs : ∀ b ∈ as, b ∈ as') : ∀ {l : List DictEntry} {ts : List Str}, ReprEntriesK prog w as h d l ts → ReprEntriesK prog w as' h d l ts
  | _, _, .nil => .nil
  | _, _, .cons r1 r2 rs => .cons (r1.more hs) (r2.more hs) (ReprEntriesK.more hs rs)

section
variable {B : Bx} {X : Cx} {pins : List (Addr × Obj)} {σ : L2.St} {H G : Hp} {s : Shared} {al : List Addr} {fm : List (Addr × HO)} {st : Store}
/-- what can be shown is told by the heap alone -/
theorem shw_det (I : Inv X pins σ H s) (hK : B.K = X.K) (ex : Exl G H) : ∀ (n m : Nat) (v : V) (d d' : D) (t t' : Str), shw n d = some t → shw m d' = some t' → Rep B al G v d → Rep B al G v d' → d = d' := by
  have notup : ∀ {a : Addr} {xs : List V} {o : HO}, H a = some o → (∀ zs, o ≠ .tup zs) → (∀ oo zs, o ≠ .frz oo (.tup zs)) → ¬ SqT B.K G a xs := fun {a xs o} e n1 n2 h => by
    rcases h with h | ⟨oo, its, n, k1, _⟩
    · rcases ex.rd h with z | ⟨oo, z⟩
      · rw [e] at z; exact n1 _ (Option.some.inj z)
      · rw [e] at z; exact n2 _ _ (Option.some.inj z)
    · rw [hK] at k1
      have := (I.bs _ _ (I.ok.mod.kin _ _ k1)).2
      rw [e] at this
      cases this
  intro n
  induction n with
  | zero => intro m v d d' t t' h; cases h
  | succ n ih =>
    intro m v d d' t t' h h' r r'
    cases m with
    | zero => cases h'
    | succ m =>
      have all : ∀ {xs : List V} {ds ds' : List D} {ts ts' : List Str}, seqO (ds.map (shw n)) = some ts → seqO (ds'.map (shw m)) = some ts' → RepL B al G xs ds → RepL B al G xs ds' → ds = ds' := by
        intro xs
        induction xs with
        | nil => intro ds ds' ts ts' _ _ r r'; cases r; cases r'; rfl
        | cons x xs ihx =>
          intro ds ds' ts ts' h h' r r'
          cases r with
          | cons r1 r2 =>
            cases r' with
            | cons r1' r2' =>
              obtain ⟨a, l, e1, e2, _⟩ := seqO_cons h
              obtain ⟨a', l', e1', e2', _⟩ := seqO_cons h'
              rw [ih m _ _ _ _ _ e1 e1' r1 r1', ihx e2 e2' r2 r2']
      have allD : ∀ {xs : List (Key × V)} {ds ds' : List (D × D)} {ts ts' : List Str}, seqO (ds.map (shwE (shw n))) = some ts → seqO (ds'.map (shwE (shw m))) = some ts' → RepD B al G xs ds → RepD B al G xs ds' → ds = ds' := by
        intro xs
        induction xs with
        | nil => intro ds ds' ts ts' _ _ r r'; cases r; cases r'; rfl
        | cons x xs ihx =>
          intro ds ds' ts ts' h h' r r'
          cases r with
          | @cons k _ _ _ _ r1 r2 =>
            cases r' with
            | cons r1' r2' =>
              obtain ⟨a, l, e1, e2, _⟩ := seqO_cons h
              obtain ⟨a', l', e1', e2', _⟩ := seqO_cons h'
              obtain ⟨_, _, _, e3, _⟩ := shwE_some e1
              obtain ⟨_, _, _, e3', _⟩ := shwE_some e1'
              rw [ih m _ _ _ _ _ e3 e3' r1 r1', ihx e2 e2' r2 r2']
      cases r with
      | non => cases r' with | non => rfl
      | bl b => cases r' with | bl b => rfl
      | int b => cases r' with | int b => rfl
      | str b => cases r' with | str b => rfl
      | cel _ => cases h
      | scr _ => cases h
      | obj _ _ _ _ => cases h
      | lst e rs =>
        cases r' with
        | lst e' rs' =>
          rw [e] at e'
          cases e'
          obtain ⟨ts, q, _⟩ := Option.map_eq_some_iff.mp h
          obtain ⟨ts', q', _⟩ := Option.map_eq_some_iff.mp h'
          rw [all q q' rs rs']
        | tup e' _ => exact absurd e' (notup (ex _ _ e) (fun _ z => nomatch z) (fun _ _ z => nomatch z))
        | dct e' _ => rw [e] at e'; cases e'
        | obj _ _ _ _ => cases h'
        | cel _ => cases h'
        | scr _ => cases h'
      | tup e rs =>
        cases r' with
        | lst e' _ => exact absurd e (notup (ex _ _ e') (fun _ z => nomatch z) (fun _ _ z => nomatch z))
        | tup e' rs' =>
          have z1 := ex.sqT e
          have z2 := ex.sqT e'
          rw [hK] at z1 z2
          cases I.tuple_inj z1 z2
          obtain ⟨ts, q, _⟩ := Option.map_eq_some_iff.mp h
          obtain ⟨ts', q', _⟩ := Option.map_eq_some_iff.mp h'
          rw [all q q' rs rs']
        | dct e' _ => exact absurd e (notup (ex _ _ e') (fun _ z => nomatch z) (fun _ _ z => nomatch z))
        | obj _ _ _ _ => cases h'
        | cel _ => cases h'
        | scr _ => cases h'
      | dct e rs =>
        cases r' with
        | lst e' _ => rw [e] at e'; cases e'
        | tup e' _ => exact absurd e' (notup (ex _ _ e) (fun _ z => nomatch z) (fun _ _ z => nomatch z))
        | dct e' rs' =>
          rw [e] at e'
          cases e'
          obtain ⟨ts, q, _⟩ := Option.map_eq_some_iff.mp h
          obtain ⟨ts', q', _⟩ := Option.map_eq_some_iff.mp h'
          rw [allD q q' rs rs']
        | obj _ _ _ _ => cases h'
        | cel _ => cases h'
        | scr _ => cases h'
/-- an address inside: something smaller that can be shown stands there -/
def Inn (B : Bx) (al : List Addr) (G : Hp) (as : List Addr) (z : Nat) : Prop := ∀ b ∈ as, ∃ (d' : D) (m : Nat) (t' : Str), Rep B al G (.ref b) d' ∧ shw m d' = some t' ∧ sizeOf d' ≤ z
theorem Inn.up {as : List Addr} {z z' : Nat} (h : Inn B al G as z) (hz : z ≤ z') : Inn B al G as z' := fun b hb => by
  obtain ⟨d', m, t', h1, h2, h3⟩ := h b hb
  exact ⟨d', m, t', h1, h2, Nat.le_trans h3 hz⟩
theorem Inn.app {as bs : List Addr} {z : Nat} (h : Inn B al G as z) (h' : Inn B al G bs z) : Inn B al G (as ++ bs) z := fun b hb => (List.mem_append.mp hb).elim (h b) (h' b)
theorem Pairs.of_kv : ∀ {es : List DictEntry} {kvs : List (Key × Value)}, Pairs (mixKind X.prog X.w) es kvs → ∀ {P : DictEntry → Key × Value → Prop}, (∀ e kv, keyIs kv.1 e.key = true → e.val = kv.2 → P e kv) → Paired P es kvs
  | _, _, .nil, _, _ => .nil
  | _, _, .cons h1 h2 r, _, f => .cons (f _ _ h1 h2) (Pairs.of_kv r f)
theorem rAll {n : Nat} (ih : ∀ (v : V) (d : D) (u : Value) (t : Str), shw n d = some t → Rep B al G v d → RelV v u → ∃ as, ReprK X.prog X.w as s.heap n u t ∧ Inn B al G as (sizeOf d)) : ∀ {xs : List V} {ds : List D} {us : List Value} {ts : List Str}, seqO (ds.map (shw n)) = some ts → RepL B al G xs ds → Vals xs us → ∃ as, ReprAllK X.prog X.w as s.heap n us ts ∧ Inn B al G as (sizeOf ds) := by
  intro xs
  induction xs with
  | nil =>
    intro ds us ts h r ru
    cases r
    cases ru
    cases h
    exact ⟨[], .nil, fun b hb => nomatch hb⟩
  | cons x xs ihx =>
    intro ds us ts h r ru
    cases r with
    | cons r1 r2 =>
      cases ru with
      | cons ru1 ru2 =>
        obtain ⟨a, l, e1, e2, rfl⟩ := seqO_cons h
        obtain ⟨as1, k1, i1⟩ := ih _ _ _ _ e1 r1 ru1
        obtain ⟨as2, k2, i2⟩ := ihx e2 r2 ru2
        refine ⟨as1 ++ as2, .cons (k1.more fun b hb => List.mem_append_left _ hb) (ReprAllK.more (fun b hb => List.mem_append_right _ hb) k2), Inn.app (i1.up ?_) (i2.up ?_)⟩
        · simp only [List.cons.sizeOf_spec]; omega
        · simp only [List.cons.sizeOf_spec]; omega
theorem rAllD {n : Nat} (ih : ∀ (v : V) (d : D) (u : Value) (t : Str), shw n d = some t → Rep B al G v d → RelV v u → ∃ as, ReprK X.prog X.w as s.heap n u t ∧ Inn B al G as (sizeOf d)) : ∀ {xs : List (Key × V)} {ds : List (D × D)} {us : List (Key × Value)} {es : List DictEntry} {ts : List Str}, seqO (ds.map (shwE (shw n))) = some ts → RepD B al G xs ds → KV xs us → Pairs (mixKind X.prog X.w) es us → ∃ as, ReprEntriesK X.prog X.w as s.heap n es ts ∧ Inn B al G as (sizeOf ds) := by
  intro xs
  induction xs with
  | nil =>
    intro ds us es ts h r ru rp
    cases r
    cases ru
    cases rp
    cases h
    exact ⟨[], .nil, fun b hb => nomatch hb⟩
  | cons x xs ihx =>
    intro ds us es ts h r ru rp
    cases r with
    | cons r1 r2 =>
      cases ru with
      | cons ru1 ru2 =>
        cases rp with
        | @cons e0 kv0 _ _ rp1 rp2 rp3 =>
          obtain ⟨a, l, e1, e2, rfl⟩ := seqO_cons h
          obtain ⟨ka, va, e3, e4, rfl⟩ := shwE_some e1
          obtain ⟨q1, q2⟩ := ru1
          dsimp only at q1 q2
          rw [← rp2] at q2
          obtain ⟨as1, k1, i1⟩ := ih _ _ _ _ e4 r1 q2
          obtain ⟨as2, k2, i2⟩ := ihx e2 r2 ru2 rp3
          have hk : ∃ as0, ReprK X.prog X.w as0 s.heap n e0.key ka ∧ as0 = [] := by
            rw [← q1] at rp1
            rcases keyIs_shape rp1 with ⟨i, tk, ek, eu⟩ | ⟨y, tk, ek, eu⟩
            · rw [eu]
              rw [ek] at e3
              cases n with
              | zero => cases e3
              | succ n =>
                have e3' : (if i.natAbs.log2 < 1920 then some (toString i : Str) else none) = some ka := e3
                split at e3'
                · rename_i hz
                  cases e3'
                  exact ⟨[], ReprK.of_is (ReprIs.int tk hz) _ _ _, rfl⟩
                · cases e3'
            · rw [eu]
              rw [ek] at e3
              cases n with
              | zero => cases e3
              | succ n =>
                have e3' : (if (reprText y).length ≤ 16777216 then some (reprText y) else none) = some ka := e3
                split at e3'
                · rename_i hz
                  cases e3'
                  exact ⟨[], ReprK.of_is (ReprIs.str y tk (by rw [sizeLine_eq]; exact hz)) _ _ _, rfl⟩
                · cases e3'
          obtain ⟨as0, k0, rfl⟩ := hk
          refine ⟨as1 ++ as2, .cons (k0.more fun b hb => nomatch hb) (k1.more fun b hb => List.mem_append_left _ hb) (ReprEntriesK.more (fun b hb => List.mem_append_right _ hb) k2), Inn.app (i1.up ?_) (i2.up ?_)⟩
          · simp only [List.cons.sizeOf_spec, Prod.mk.sizeOf_spec]; omega
          · simp only [List.cons.sizeOf_spec]; omega
theorem rIn (I : Inv X pins σ H s) (hK : B.K = X.K) (ex : Exl G H) {n : Nat} {t : Str} : ∀ {a : Addr} {as : List Addr} {d : D}, shw (n + 1) d = some t → Rep B al G (.ref a) d → Inn B al G as (sizeOf d - 1) → 0 < sizeOf d → a ∉ as ∧ Inn B al G (a :: as) (sizeOf d) := fun {a as d} hd rd hi hz => by
  refine ⟨fun hm => ?_, fun b hb => ?_⟩
  · obtain ⟨d', m, t', h1, h2, h3⟩ := hi a hm
    have := shw_det I hK ex _ _ _ _ _ _ _ hd h2 rd h1
    subst this
    omega
  · rcases List.mem_cons.mp hb with rfl | hb
    · exact ⟨d, n + 1, t, rd, hd, Nat.le_refl _⟩
    · exact (hi.up (Nat.sub_le _ _)) b hb
theorem repr_ok (I : Inv X pins σ H s) (hK : B.K = X.K) (ex : Exl G H) : ∀ (n : Nat) (v : V) (d : D) (u : Value) (t : Str), shw n d = some t → Rep B al G v d → RelV v u → ∃ as, ReprK X.prog X.w as s.heap n u t ∧ Inn B al G as (sizeOf d) := by
  intro n
  induction n with
  | zero => intro v d u t h; cases h
  | succ n ih =>
    intro v d u t h r ru
    cases d with
    | non =>
      cases r
      cases h
      cases (show u = Value.none from ru)
      exact ⟨[], ReprK.of_is ReprIs.none _ _ _, fun b hb => nomatch hb⟩
    | bl b =>
      cases r
      cases h
      cases (show u = Value.bool b from ru)
      exact ⟨[], ReprK.of_is (ReprIs.bool b) _ _ _, fun b hb => nomatch hb⟩
    | int i =>
      cases r
      obtain ⟨tk, rfl⟩ := ru
      have e3' : (if i.natAbs.log2 < 1920 then some (toString i : Str) else none) = some t := h
      split at e3'
      · rename_i hz
        cases e3'
        exact ⟨[], ReprK.of_is (ReprIs.int tk hz) _ _ _, fun b hb => nomatch hb⟩
      · cases e3'
    | str y =>
      cases r
      obtain ⟨tk, rfl⟩ := ru
      have e3' : (if (reprText y).length ≤ 16777216 then some (reprText y) else none) = some t := h
      split at e3'
      · rename_i hz
        cases e3'
        exact ⟨[], ReprK.of_is (ReprIs.str y tk (by rw [sizeLine_eq]; exact hz)) _ _ _, fun b hb => nomatch hb⟩
      · cases e3'
    | obj c fs => cases h
    | cel c => cases h
    | scr c => cases h
    | lst ds =>
      cases r with
      | @lst a xs _ e rs =>
        cases (show u = Value.ref a from ru)
        obtain ⟨ts, q, rfl⟩ := Option.map_eq_some_iff.mp h
        obtain ⟨hz, its, k, rv, hlen, ho⟩ := I.lstM (ex _ _ e)
        obtain ⟨as, ka, ia⟩ := rAll ih q rs rv
        obtain ⟨ni, ia'⟩ := rIn I hK ex h (.lst e rs) (ia.up (by simp)) (by simp; omega)
        refine ⟨a :: as, ?_, ia'⟩
        cases its with
        | nil =>
          cases ka
          rw [listText_nil]
          exact ReprK.listEmpty ho rfl rfl
        | cons y l => exact ReprK.list ho rfl rfl ni (by rw [ka.length_eq]; simp) (fun i y' hy => ReprAllK.get ka i y' (by simpa using hy))
    | tup ds =>
      cases r with
      | @tup a xs _ e rs =>
        cases (show u = Value.ref a from ru)
        obtain ⟨ts, q, rfl⟩ := Option.map_eq_some_iff.mp h
        have z1 := ex.sqT e
        rw [hK] at z1
        obtain ⟨its, rv, ⟨o, ho, hc, k, hd⟩, hz⟩ := I.tuple z1
        obtain ⟨as, ka, ia⟩ := rAll ih q rs rv
        obtain ⟨ni, ia'⟩ := rIn I hK ex h (.tup e rs) (ia.up (by simp)) (by simp; omega)
        exact ⟨a :: as, ReprK.tuple ho hc hd ni (by simpa using ka), ia'⟩
    | dct es =>
      cases r with
      | @dct a od kvs _ e rs =>
        cases (show u = Value.ref a from ru)
        obtain ⟨ts, q, rfl⟩ := Option.map_eq_some_iff.mp h
        obtain ⟨_, _, hsys, vs, kv, o, des, ep, h1, h2, h3, h4, h5, h6⟩ := (show ObjOk X.prog X.w H s.heap a (.frz od (.dK kvs)) from I.hok a _ (ex _ _ e))
        obtain ⟨as, ka, ia⟩ := rAllD ih q rs kv h5
        obtain ⟨ni, ia'⟩ := rIn I hK ex h (.dct e rs) (ia.up (by simp)) (by simp; omega)
        exact ⟨a :: as, ReprK.dict h1 h2.1 h3 hsys ni ka, ia'⟩

/-- repr, from outside -/
theorem repr_top (I : Inv X pins σ H s) (hK : B.K = X.K) (ex : Exl G H) {A : Around} {E : Value → Shared → Prop} {Q : Value → Shared → Prop} {n : Nat} {v : V} {d : D} {u : Value} {t : Str} (h : shw (n + 1) d = some t) (r : Rep B al G v d) (ru : RelV v u) (hg : A.guards = some []) (hu : A.units + (n + 1) < cLine) (hsz : t.length ≤ sizeLine)
    (hQ : ∀ h' u tk, (∀ b o, s.heap.get? b = some o → h'.get? b = some o) → Q (.str t u) { s with heap := h', toks := tk }) : wpAny (model X.prog X.w) A (pyReprObj u) Q E s := by
  have ih := repr_ok (al := al) (B := B) (G := G) I hK ex n
  cases d with
  | non =>
    cases r
    cases h
    cases (show u = Value.none from ru)
    exact pyReprObj_none (hQ _ _ _ fun b o e => e)
  | bl b =>
    cases r
    cases h
    cases (show u = Value.bool b from ru)
    exact pyReprObj_bool (hQ _ _ _ fun b o e => e)
  | int i =>
    cases r
    obtain ⟨tk, rfl⟩ := ru
    have e3' : (if i.natAbs.log2 < 1920 then some (toString i : Str) else none) = some t := h
    split at e3'
    · rename_i hz
      cases e3'
      exact pyReprObj_int hz (hQ _ _ _ fun b o e => e)
    · cases e3'
  | str y =>
    cases r
    obtain ⟨tk, rfl⟩ := ru
    have e3' : (if (reprText y).length ≤ 16777216 then some (reprText y) else none) = some t := h
    split at e3'
    · rename_i hz
      cases e3'
      exact pyReprObj_str (hQ _ _ _ fun b o e => e) hsz
    · cases e3'
  | obj c fs => cases h
  | cel c => cases h
  | scr c => cases h
  | lst ds =>
    cases r with
    | @lst a xs _ e rs =>
      cases (show u = Value.ref a from ru)
      obtain ⟨ts, q, rfl⟩ := Option.map_eq_some_iff.mp h
      obtain ⟨hz, its, k, rv, hlen, ho⟩ := I.lstM (ex _ _ e)
      obtain ⟨as, ka, ia⟩ := rAll ih q rs rv
      obtain ⟨ni, ia'⟩ := rIn I hK ex h (.lst e rs) (ia.up (by simp)) (by simp; omega)
      cases its with
      | nil =>
        cases ka
        rw [listText_nil] at hQ
        exact wpAny_pyReprObj_list_empty ⟨_, ho, rfl⟩ (by omega) ho rfl (hQ _ _ _ fun b o e => e)
      | cons y l => exact wpAny_pyReprObj_listK ho rfl rfl ni (by rw [ka.length_eq]; simp) (fun i y' hy => ReprAllK.get ka i y' (by simpa using hy)) hg (fun b _ => Clear.nil b) hu (fun b o e => e) hQ hsz
  | tup ds =>
    cases r with
    | @tup a xs _ e rs =>
      cases (show u = Value.ref a from ru)
      obtain ⟨ts, q, rfl⟩ := Option.map_eq_some_iff.mp h
      have z1 := ex.sqT e
      rw [hK] at z1
      obtain ⟨its, rv, ⟨o, ho, hc, k, hd⟩, hz⟩ := I.tuple z1
      obtain ⟨as, ka, ia⟩ := rAll ih q rs rv
      obtain ⟨ni, ia'⟩ := rIn I hK ex h (.tup e rs) (ia.up (by simp)) (by simp; omega)
      exact wpAny_pyReprObj_tupleK ho hc hd ni (by simpa using ka) hg (fun b _ => Clear.nil b) hu (fun b o e => e) hQ hsz
  | dct es =>
    cases r with
    | @dct a od kvs _ e rs =>
      cases (show u = Value.ref a from ru)
      obtain ⟨ts, q, rfl⟩ := Option.map_eq_some_iff.mp h
      obtain ⟨_, _, hsys, vs, kv, o, des, ep, h1, h2, h3, h4, h5, h6⟩ := (show ObjOk X.prog X.w H s.heap a (.frz od (.dK kvs)) from I.hok a _ (ex _ _ e))
      obtain ⟨as, ka, ia⟩ := rAllD ih q rs kv h5
      obtain ⟨ni, ia'⟩ := rIn I hK ex h (.dct e rs) (ia.up (by simp)) (by simp; omega)
      exact wpAny_pyReprObj_dictK h1 h2.1 h3 hsys ni ka hg (fun b _ => Clear.nil b) hu (fun b o e => e) hQ hsz
end
end PM
set_option Elab.async false
set_option linter.all false
set_option maxRecDepth 100000
set_option maxHeartbeats 400000
/-! Pm23: repr, f-strings, isinstance against own classes, as rules. -/
namespace PM
open PySem PySem.Spec PyProof.Rows L2
def mRepr (d : D) : M D := match shw 20 d with
  | some t => fits t.length (pure (.str t))
  | none => bad
/-- repr: of data, or by the own __repr__ -/
def mReprT (rp : String → Option (List D → M D)) (d : D) : M D := fun s => match objOf s d with
  | some (c, _) => (match rp c with
    | some g => ((do let x ← noErr (g [d]); match x with | .str y => fits y.length (pure (.str y)) | _ => bad) : M D) s
    | none => .bad)
  | none => mRepr d s
/-- the value can be shown -/
def RpOk (X : Cx) (A : Around) (v : V) (H : Hp) (Q : VK) : Prop := ∀ pins s σ u, Inv X pins σ H s → RelV v u → wpAny (model X.prog X.w) A (pyReprObj u) (fun r s' => ∃ y tk H', r = .str y tk ∧ y.length ≤ sizeLine ∧ Inv X pins σ H' s' ∧ Q (.str y) H') X.xe s
/-- the classes whose own __repr__ is told -/
def ReprC (B : Bx) (X : Cx) (A : Around) (rp : String → Option (List D → M D)) : Prop := ∀ c g, rp c = some g → ∃ C f k fd ps, B.ct c = some C ∧ PySem.W.findIn X.K (.ref C) "__repr__" = some (some (.ref f)) ∧ PySem.W.isFn X.K (.ref f) = true ∧ FnOk X.prog X.w X.K X.mg X.base (L2.CX X.prog X.w) k f fd ps (spM B g) ∧ Room k A ∧ Binds X.K fd ps []
section
variable {B : Bx} {X : Cx} {A : Around} {pins : List (Addr × Obj)} {σ : L2.St} {H G : Hp} {s : Shared} {al : List Addr} {fm : List (Addr × HO)} {st : Store} {Γ : List Slot}
theorem rp_obj {a C dx f : Addr} {fs : List (Str × V)} {k : Nat} {fd : FuncData} {ps : List Str} {sp : Sp} {Q : VK} (e0 : ∀ {pins s σ H}, Inv X pins σ H s → Env0 X.prog X.w X.K X.mg X.base A X.stack s H) (ea : H a = some (.ins C dx fs)) (hs : PySem.W.findIn X.K (.ref C) "__repr__" = some (some (.ref f))) (hf : PySem.W.isFn X.K (.ref f) = true) (F : FnOk X.prog X.w X.K X.mg X.base (L2.CX X.prog X.w) k f fd ps sp) (hr : Room k A) (hb : Binds X.K fd ps [])
    (h : sp [.ref a] H (fun v H' => ∃ y, v = .str y ∧ y.length ≤ sizeLine ∧ Q (.str y) H') eNo) : RpOk X A (.ref a) H Q := fun pins s σ u I ru => by
  obtain rfl : u = Value.ref a := ru
  obtain ⟨mA, O, _, _, _, _⟩ := ins_get I.hok ea
  obtain ⟨od, J, _⟩ := O.look
  unfold pyReprObj
  refine wpAny_bind (wpAny_cRoomFor hr.units0 ?_)
  refine wpAny_bind (wpAny_bind (J.type.here ((PySem.W.looks_findIn I.kIn hs).here ?_)))
  show wpAny _ _ (if (some (Value.ref f)).isNone = true then _ else _) _ _ _
  rw [if_neg (by simp)]
  refine wpAny_bind (m := callSpecialIfBound? (.ref a) (Str.ofString "__repr__") _) (PySem.W.ifBound_K I.kIn J hs hf (wpAny_mono (run_no (vs := [V.ref a]) F hr (e0 I) hb I (.cons rfl .nil) h) (fun r s' ⟨x, H', I', rx, y, ey, hy, q⟩ => ?_) fun _ _ z => z))
  subst ey
  obtain ⟨t, rfl⟩ := rx
  refine wpAny_bind (wpAny_isInstance (typeIs_str _ _ _) isSubtype_str_str ?_)
  first
    | exact wpAny_pure ⟨y, t, H', rfl, hy, I', q⟩
    | (rw [if_pos rfl]; exact wpAny_pure ⟨y, t, H', rfl, hy, I', q⟩)
    | (simp only [if_true]; exact wpAny_pure ⟨y, t, H', rfl, hy, I', q⟩)
theorem rp_data {v : V} {d : D} {t : Str} {Q : VK} (hK : B.K = X.K) (ex : Exl G H) (h : shw 20 d = some t) (r : Rep B al G v d) (hg : A.guards = some []) (hu : A.units + 64 < cLine) (hz : t.length ≤ sizeLine) (q : Q (.str t) H) : RpOk X A v H Q := fun pins s σ u I ru =>
  repr_top I hK ex h r ru hg (by omega) hz fun h' u tk k => ⟨t, u, H, rfl, hz, I.kept k, q⟩
/-- the two roads -/
theorem rp_both {v : V} {d : D} {Q : VK} {rp : String → Option (List D → M D)} {k : Nat} (hr : Room k A) (hK : B.K = X.K) (e0 : ∀ {pins s σ H}, Inv X pins σ H s → Env0 X.prog X.w X.K X.mg X.base A X.stack s H) (hrp : ReprC B X A rp) (hv : HV B G al fm H st) (r : Rep B al G v d) (f : Fo B X σ fm G al (kE B fm) (mReprT rp d st) Q) : RpOk X A v H Q := by
  unfold mReprT at f
  cases q : objOf st d with
  | none =>
    rw [q] at f
    have f' : Fo B X σ fm G al (kE B fm) (mRepr d st) Q := f
    unfold mRepr at f'
    cases q2 : shw 20 d with
    | none => rw [q2] at f'; exact False.elim f'
    | some t =>
      rw [q2] at f'
      dsimp only at f'
      unfold fits at f'
      by_cases hz : t.length ≤ 16777216
      · rw [if_pos hz] at f'
        exact rp_data hK hv.ex q2 r hr.gs hr.units (by rw [sizeLine_eq]; exact hz) (Fo.pure f' hv (.str t))
      · rw [if_neg hz] at f'
        exact False.elim f'
  | some cf =>
    obtain ⟨c, fs⟩ := cf
    rw [q] at f
    dsimp only at f
    cases q2 : rp c with
    | none => rw [q2] at f; exact False.elim f
    | some g =>
      rw [q2] at f
      dsimp only at f
      obtain ⟨C, f0, k0, fd, ps, hC, hs, hf, F, hr0, hb⟩ := hrp c g q2
      obtain ⟨a, C', dx, vs, rfl, hC', ha', hl, r'⟩ := r.objR hv q
      rw [hC] at hC'
      cases hC'
      refine rp_obj e0 ha' hs hf F hr0 hb ⟨G, al, fm, st, [d], hv, .cons r .nil, ?_⟩
      refine chk_folP (ch := fun x => match x with | .str y => fits y.length (pure (.str y)) | _ => bad) f fun d2 s2 v2 G2 al2 H2 g2 hv2 rp2 f3 => ?_
      cases rp2 with
      | str n =>
        dsimp only at f3
        unfold fits at f3
        by_cases hz : n.length ≤ 16777216
        · rw [if_pos hz] at f3
          exact ⟨n, rfl, by rw [sizeLine_eq]; exact hz, Fo.pure f3 hv2 (.str n)⟩
        · rw [if_neg hz] at f3
          exact False.elim f3
      | _ => exact False.elim f3
theorem pe_fmtRA {e : Expr} {te : TE} {pos : Pos} (he : PE X e te) : PE X (.FormattedValue e 114 none pos) (fun σ H Q => te σ H fun v H1 => RpOk X X.A v H1 Q) :=
  ⟨fun pins s σ H Q I h => by
    refine wpAny_FormattedValue_repr (thn (he.run pins s σ H _ I h) fun u s1 ⟨v, H1, I1, r1, q⟩ => ?_)
    refine thn (q pins s1 σ u I1 r1) fun r s2 ⟨y, tk, H2, er, hz, I2, q2⟩ => ?_
    subst er
    exact wpAny_formatField_str ⟨.str y, H2, I2, ⟨_, rfl⟩, q2⟩ ⟨.str y, H2, I2.tok _, ⟨_, rfl⟩, q2⟩ hz⟩
/-- {e!r} -/
theorem qe_fmtR {e : Expr} {m : M D} {pos : Pos} {k : Nat} (rp : String → Option (List D → M D)) (hr : Room k X.A) (hK : B.K = X.K) (hrp : ReprC B X X.A rp) (he : QE B X e Γ m) : QE B X (.FormattedValue e 114 none pos) Γ (do let d ← m; mReprT rp d) := fun G al fm H σ s Q hv sl f => by
  refine wE_of (pe_fmtRA wE_ok) (he G al fm H σ s _ hv sl (Fo.bind f fun d s' v G' al' H' g ⟨hv', rp'⟩ f' => ?_))
  exact rp_both hr hK (fun I => I.env0) hrp hv' rp' f'
/-! ### f-strings -/
def mFmt (d : D) : M D := match d with
  | .str y => fits y.length (pure (.str y))
  | .int i => guardM (decide (i.natAbs.log2 < 1920)) (pure (.str (toString i)))
  | _ => bad
/-- {e} -/
theorem qe_fmt {e : Expr} {m : M D} {pos : Pos} (he : QE B X e Γ m) : QE B X (.FormattedValue e (-1) none pos) Γ (do let d ← m; mFmt d) := fun G al fm H σ s Q hv sl f => by
  refine wE_of (pe_fmt wE_ok) (he G al fm H σ s _ hv sl (Fo.bind f fun d s' v G' al' H' g ⟨hv', rp'⟩ f' => ?_))
  cases rp' with
  | str y =>
    have f2 : Fo B X σ fm G' al' (kE B fm) (fits y.length (pure (.str y)) s') Q := f'
    unfold fits at f2
    by_cases hz : y.length ≤ 16777216
    · rw [if_pos hz] at f2
      exact .inl ⟨y, rfl, by rw [sizeLine_eq]; exact hz, Fo.pure f2 hv' (.str y)⟩
    · rw [if_neg hz] at f2
      exact False.elim f2
  | int i =>
    have f2 : Fo B X σ fm G' al' (kE B fm) (guardM (decide (i.natAbs.log2 < 1920)) (pure (.str (toString i))) s') Q := f'
    rw [guardM_run] at f2
    split at f2
    · rename_i h
      simp only [decide_eq_true_eq] at h
      exact .inr ⟨i, rfl, h, Fo.pure f2 hv' (.str _)⟩
    · exact False.elim f2
  | _ => exact False.elim f'
/-- the texts one behind the other -/
def jsM : List (M D) → Str → M D
  | [], acc => pure (.str acc)
  | m :: r, acc => do
    let d ← m
    match d with
    | .str y => fits (acc ++ y).length (jsM r (acc ++ y))
    | _ => bad
inductive QJ (B : Bx) (X : Cx) (Γ : List Slot) : List Expr → List (M D) → Prop where
  | nil : QJ B X Γ [] []
  | cons {e : Expr} {m : M D} {es : List Expr} {ms : List (M D)} (h : QE B X e Γ m) (r : QJ B X Γ es ms) : QJ B X Γ (e :: es) (m :: ms)
theorem QJ.pj {es : List Expr} {ms : List (M D)} (h : QJ B X Γ es ms) : PJ X es (es.map (wE X)) := by
  induction h with
  | nil => exact .nil
  | cons h r ih => exact .cons wE_ok ih
theorem QJ.run {es : List Expr} {ms : List (M D)} (h : QJ B X Γ es ms) : ∀ (acc : Str) G al H s Q, HV B G al fm H s → SL B al G fm σ Γ → Fo B X σ fm G al (kE B fm) (jsM ms acc s) Q → tJs (es.map (wE X)) acc σ H fun out H1 => Q (.str out) H1 := by
  induction h with
  | nil => exact fun acc G al H s Q hv sl f => Fo.pure f hv (.str acc)
  | @cons e m es ms h r ih =>
    intro acc G al H s Q hv sl f
    refine h G al fm H σ s _ hv sl (Fo.bind f fun d s' v G' al' H' g ⟨hv', rp'⟩ f' => ?_)
    cases rp' with
    | str y =>
      have f2 : Fo B X σ fm G' al' (kE B fm) (fits (acc ++ y).length (jsM ms (acc ++ y)) s') Q := f'
      unfold fits at f2
      by_cases hz : (acc ++ y).length ≤ 16777216
      · rw [if_pos hz] at f2
        exact ⟨y, rfl, by rw [sizeLine_eq]; exact hz, ih _ G' al' H' s' Q hv' (sl.mono g) f2⟩
      · rw [if_neg hz] at f2
        exact False.elim f2
    | _ => exact False.elim f'
/-- f'..' of two parts or more -/
theorem qe_js {v1 v2 : Expr} {rest : List Expr} {ms : List (M D)} {pos : Pos} (h : QJ B X Γ (v1 :: v2 :: rest) ms) : QE B X (.JoinedStr (v1 :: v2 :: rest) pos) Γ (jsM ms Str.empty) := fun G al fm H σ s Q hv sl f =>
  wE_of (pe_joined h.pj) (h.run Str.empty G al H s Q hv sl f)
theorem qe_js1 {e : Expr} {m : M D} {pos : Pos} (h : QE B X e Γ m) : QE B X (.JoinedStr [e] pos) Γ m := fun G al fm H σ s Q hv sl f => wE_of (pe_joined1 wE_ok) (h G al fm H σ s Q hv sl f)
/-- isinstance(e, C), C a class of the program's -/
theorem qe_isiC (c : String) {C : Addr} {e : Expr} {m : M D} {x : Str} {p p2 pos : Pos} (ok : BOk B) (hK : B.K = X.K) (hC : B.ct c = some C) (hm : X.mg "isinstance" = none) (hmT : X.mg x = some (.ref C)) (he : QH B X e Γ m) (hg : Gl X "isinstance" := by rfl) (hgT : Gl X x := by rfl) (hdb : (x == ("__debug__" : Str)) = false := by decide)
    (hs : starEach [e, .Name x p2] X.env = (false, eval e X.env) :: starEach [.Name x p2] X.env := by rfl) (hs2 : starEach [.Name x p2] X.env = (false, eval (.Name x p2) X.env) :: starEach [] X.env := by rfl) (hpl : (backTo pos (starEach [.Name x p2] X.env)).any (·.1) = false := by rfl) :
    QE B X (.Call (.Name "isinstance" p) [e, .Name x p2] [] pos) Γ (do let d ← m; mIsiC B.sub c d) := fun G al fm H σ s Q hv sl f => by
  refine wE_of (pe_callB call_isi hg hm boot_isinstance (pa_cons wE_ok (pa_cons (pe_glob (v := .ref C) hgT hmT rfl hdb) pa_nil hs2) hs) (by decide) (by decide) hs hpl) ?_
  refine he G al fm H σ s _ hv sl (Fo.bind f fun d s' v G' al' H' g ⟨hv', rp⟩ f' => ?_)
  unfold mIsiC at f'
  cases q : d.ty s' with
  | none => rw [q] at f'; exact False.elim f'
  | some ty =>
    rw [q] at f'
    obtain ⟨t, h1, h2⟩ := rp.ty ok hv' q
    refine ⟨v, .ref C, t, .ref C, _, rfl, .own C, by rw [← hK]; exact h1, ?_, Fo.pure f' hv' (.bl _)⟩
    cases ty with
    | b n =>
      cases h2
      rw [← hK]
      have hn := D.ty_b q
      exact (ok.cls c C hC).bC n (by revert hn; unfold builtinNames; simp; intro z; rcases z with z | z | z | z | z | z | z <;> simp [z])
    | c c0 =>
      obtain ⟨C0, hc0, rfl⟩ := h2
      rw [← hK]
      exact ok.two _ _ _ _ hc0 hC
end
end PM
set_option Elab.async false
set_option linter.all false
set_option maxRecDepth 100000
set_option maxHeartbeats 400000
/-! Pm24: the head: the law's def is called at a script. -/
namespace PM
open PySem PySem.Spec PyProof.Rows L2
/-- the law's def at the caller's place: nothing but the script is known there -/
theorem head_call {P : Program} {w : World} {K : PySem.W.Frag} {mg mb : Str → Option Value} {k : Nat} {fa a : Addr} {fd : FuncData} {x : Str} {sp : Sp} {s1 : Shared} {vs : List Value} {ns : List Int}
    (kx : K.In s1.heap) (g1 : s1.heap.Ns mainGlobals mg) (g2 : s1.heap.Ns builtinsNs mb) (g3 : ∀ x : Str, x ≠ "__name__" → mb x = bootBuiltins x) (lim : s1.heap.NoLimit) (nog : s1.gens = #[])
    (ha : s1.heap.get? a = some { cls := .type "list", data := .seq vs.toArray }) (hi : IntsAre vs ns) (hl : ns.length ≤ sizeLine) (hr : Room k callerA)
    (F : ∀ base : Heap, K.In base → base.Ns mainGlobals mg → FnOk P w K mg base (L2.CX P w) k fa fd [x] sp) (hbind : ∀ (s : Shared) (u : Value), BindsTo s fd ⟨[u], []⟩ [(x, u)])
    (hsp : ∀ H : Hp, SqL K H a (ns.map V.int) → sp [.ref a] H (fun v _ => v = .bl true) eNo) :
    codeAny (model P w) callerA (.call (.ref fa) ⟨[.ref a], []⟩) (fun r s' => r = .ok (.ret (.bool true)) ∧ OldK s1.heap s'.heap ∧ s'.os = s1.os ∧ AllBare s'.gens) s1 := by
  have rv := vals_ints hi
  have sz : vs.length = ns.length := hi.length
  obtain ⟨o0, ho0⟩ : ∃ o0 : Obj, o0 = { cls := .type "list", data := .seq vs.toArray } := ⟨_, rfl⟩
  obtain ⟨H, hH⟩ : ∃ H : Hp, H = fun b => if b = a ∧ K.lookup a = none then some (.frz o0 (.lst (ns.map V.int))) else none := ⟨_, rfl⟩
  have some_ : ∀ b u, H b = some u → b = a ∧ K.lookup a = none ∧ u = .frz o0 (.lst (ns.map V.int)) := fun b u e => by
    rw [hH] at e
    dsimp only at e
    split at e
    · rename_i c
      exact ⟨c.1, c.2, (Option.some.inj e).symm⟩
    · cases e
  have noK : ∀ b o, K.lookup b = some o → H b = none := fun b o e => by
    cases q : H b with
    | none => rfl
    | some u =>
      obtain ⟨e1, e2, _⟩ := some_ b u q
      rw [e1, e2] at e
      cases e
  have noD : ∀ b o es ep, s1.heap.get? b = some o → o.data = .dict es ep → H b = none := fun b o es ep e d => by
    cases q : H b with
    | none => rfl
    | some u =>
      obtain ⟨e1, _, _⟩ := some_ b u q
      rw [e1, ha] at e
      rw [← Option.some.inj e] at d
      cases d
  have nsH : ∀ {b : Addr} {m : Str → Option Value}, s1.heap.Ns b m → (hidT s1.heap H).Ns b m := fun {b m} ⟨o, es, ep, e, d, r⟩ => ⟨o, es, ep, hidT_get e (noD b o es ep e d), d, r⟩
  have kb : K.In (hidT s1.heap H) := fun b o e => hidT_get (kx b o e) (noK b o e)
  have hok : HOk P w H s1.heap := fun b u e => by
    obtain ⟨e1, _, e3⟩ := some_ b u e
    subst e1
    subst e3
    rw [ho0]
    exact ⟨ha, by rw [List.length_map]; exact hl, vs, _, rv, ha⟩
  have hS : SqL K H a (ns.map V.int) := by
    cases q : K.lookup a with
    | none => exact .inl (.inr ⟨o0, by rw [hH]; exact if_pos ⟨rfl, q⟩⟩)
    | some o =>
      have e := kx a o q
      rw [ha] at e
      cases e
      exact .inr ⟨_, vs.toArray, _, q, rfl, rfl, rfl, by rw [List.size_toArray, sz]; exact hl, by simpa using rv⟩
  obtain ⟨mc, l1, l2⟩ := lim
  have e0 : Env0 P w K mg (hidT s1.heap H) callerA [] s1 H := ⟨rfl, ⟨kb, nsH g1, ⟨mb, nsH g2, g3⟩, ⟨mc, nsH l1, l2⟩⟩, fun b o e => of_hidT e, Nat.le_of_eq (hidT_size _ _), trivial, fun b hb => (nomatch (show b ∈ ([] : List Addr) from hb)), hok, .of_eq nog⟩
  refine codeAny_mono ((F _ kb (nsH g1)).1 callerA hr (us := [.ref a]) (vs := [.ref a]) (.cons (rel_ref a) .nil) e0 (hsp H hS) (hbind s1 (.ref a))) fun r s' h => ?_
  cases r with
  | error e =>
    obtain ⟨_, _, _, _, _, _, _, _, _, _, _, _, z⟩ := h
    exact z.elim
  | ok fl =>
    cases fl with
    | ret u =>
      obtain ⟨v, H', os, bare, un, hok', rv', ev⟩ := h
      have ev' : v = .bl true := ev
      subst ev'
      obtain rfl : u = Value.bool true := rv'
      refine ⟨rfl, OldK.of_keep fun b o e => ?_, os, bare⟩
      cases q : H b with
      | none => exact un.keep b o e q (fun z => nomatch (show b ∈ ([] : List Addr) from z)) (by simp)
      | some u =>
        obtain ⟨e1, _, e3⟩ := some_ b u q
        rw [e3] at q
        have k1 := (hok b _ q).1
        rw [e] at k1
        cases k1
        exact (hok' b _ (un.frzs b _ _ q)).1
    | _ => exact False.elim h
/-- what k_head leaves, from the law's mirror -/
theorem walk {l : PySem.W.OpenLaw} {n k : Nat} {q : Program} {loose : List Str} {XP : (Str → Option Value) → Heap → Prop} {YP : World → Heap → Prop} {d : DefRec} {K : Params → PySem.W.Frag} {x : Str} {g : List D → M D}
    (hn : l.most = some n) (hn2 : n ≤ sizeLine) (hdf : d.params.defaults = []) (hr : Room k callerA) (hY : ∀ (w : World) (h : Heap), YP w h → (K w.params).In h)
    (F : ∀ (w : World) (mg : Str → Option Value) (fa : Addr) (h : Heap), (K w.params).In h → h.Ns mainGlobals mg → mg d.name = some (.ref fa) →
      ∃ (fd : FuncData) (B : Bx), B.K = K w.params ∧ (∀ (s : Shared) (u : Value), BindsTo s fd ⟨[u], []⟩ [(x, u)]) ∧ ∀ base : Heap, (K w.params).In base → base.Ns mainGlobals mg → FnOk l.prog w (K w.params) mg base (L2.CX l.prog w) k fa fd [x] (spM B g))
    (hlaw : ∀ ns : List Int, ns.length ≤ n → ∃ st, g [.scr ns] [] = .ok (.bl true) st) :
    PySem.W.WalkO q loose XP YP l.row.toRowW d [] (fun f vs => PySem.call f vs) := by
  refine Att.attach_call hn hdf fun w s0 s1 mg mb fa o pm cd doc a vs ns G Y ho hd hcd hmg hobj hints hlen hg => ?_
  have KX := hY w _ Y
  obtain ⟨fd, B, hB, hb, hF⟩ := F w mg fa _ KX G.T.g hmg
  refine head_call KX G.T.g G.T.b G.T.builtins G.T.nolimit hg hobj hints (Nat.le_trans hlen hn2) hr hF hb fun H hS => ?_
  obtain ⟨st, e⟩ := hlaw ns hlen
  obtain ⟨G0, hG0⟩ : ∃ G0 : Hp, G0 = fun b => if b = a then H a else none := ⟨_, rfl⟩
  have ga : G0 a = H a := by rw [hG0]; exact if_pos rfl
  have hS' : SqL B.K G0 a (ns.map V.int) := by
    rw [hB]
    rcases hS with (z | ⟨o, z⟩) | z
    · exact .inl (.inl (by rw [ga]; exact z))
    · exact .inl (.inr ⟨o, by rw [ga]; exact z⟩)
    · exact .inr z
  refine ⟨G0, [], [], [], [.scr ns], ⟨fun b u z => ?_, fun p hp => (nomatch hp), rfl, fun n a mc h1 _ => by simp at h1, by simp⟩, .cons (.scr hS') .nil, ?_⟩
  · rw [hG0] at z
    dsimp only at z
    split at z
    · rename_i eb
      rw [eb]
      exact z
    · cases z
  · rw [e]
    rintro v G' al' H' g' ⟨hv', rp⟩
    cases rp
    rfl
end PM
set_option Elab.async false
set_option linter.all false
set_option maxRecDepth 100000
set_option maxHeartbeats 400000
/-! Pm25: forms of the rules for printed proofs. -/
namespace PM
open PySem PySem.Spec PyProof.Rows L2
section
variable {B : Bx} {X : Cx} {Γ : List Slot} {iter : Expr} {scope : Scope}
theorem compOk1 {x : Str} {p : Pos} {j : Nat} (hN : X.N.Nodup) (ok : BlkOk X.N X.env.scope scope [(x, j)]) (hj : X.N[j]? = some x := by rfl) (hx : Loc (relabel scope X.env) x := by first | exact Or.inl rfl | exact Or.inr rfl) (hf : (scope.names.lookup x == some .cell) = true ∨ (relabel scope X.env).names.lookup x = some .local := by first | exact .inl rfl | exact .inr rfl) (hc : X.calm = true := by rfl) (hs : ∀ x, foldedSetIterable iter X.env x = pure x := by intro _; rfl) :
    CompOk X (.Name x p) iter scope [(x, j)] (.one j) :=
  ⟨hc, hN, ok, fun s H C cl fp => pg_name (X := X.blk s H scope (compEnvC scope cl C X.env) fp) hN hj hx hf, fun k hk => by simpa [Tg.slots] using hk, hs⟩
theorem compOk2 {x y : Str} {p1 p2 p3 : Pos} {kk j k : Nat} (hN : X.N.Nodup) (ok : BlkOk X.N X.env.scope scope [(x, j), (y, k)]) (hj : X.N[j]? = some x := by rfl) (hx : Loc (relabel scope X.env) x := by first | exact Or.inl rfl | exact Or.inr rfl) (hf : (scope.names.lookup x == some .cell) = true ∨ (relabel scope X.env).names.lookup x = some .local := by first | exact .inl rfl | exact .inr rfl) (hj2 : X.N[k]? = some y := by rfl) (hx2 : Loc (relabel scope X.env) y := by first | exact Or.inl rfl | exact Or.inr rfl) (hf2 : (scope.names.lookup y == some .cell) = true ∨ (relabel scope X.env).names.lookup y = some .local := by first | exact .inl rfl | exact .inr rfl) (hc : X.calm = true := by rfl) (hs : ∀ x, foldedSetIterable iter X.env x = pure x := by intro _; rfl) :
    CompOk X (.Tuple [.Name x p1, .Name y p2] kk p3) iter scope [(x, j), (y, k)] (.tup [j, k]) :=
  ⟨hc, hN, ok, fun s H C cl fp => pg_tup (X := X.blk s H scope (compEnvC scope cl C X.env) fp) hc (pgs_cons (pg_name (X := X.blk s H scope (compEnvC scope cl C X.env) fp) hN hj hx hf) (pgs_cons (pg_name (X := X.blk s H scope (compEnvC scope cl C X.env) fp) hN hj2 hx2 hf2) pgs_nil)), fun i hi => by simpa [Tg.slots] using hi, hs⟩
/-- a < b < c, as a test -/
theorem qt_chain {op op' : CmpOp} {g g' : D → D → M D} {a b c : Expr} {pos : Pos} {m1 m2 m3 : M D} (ho : OpM B X (compareOp op) g) (ho' : OpM B X (compareOp op') g') (ha : QH B X a Γ m1) (hb : QH B X b Γ m2) (hc : QH B X c Γ m3) (hm : lastMarks [op, op'] [b, c] = false := by with_unfolding_all rfl) :
    QT B X (.Compare a [op, op'] [b, c] pos) Γ (do let d ← chainM g g' m1 m2 m3; asB d) := fun G al fm H σ s Q hv sl f => by
  obtain ⟨r, hr, hg⟩ := ho
  obtain ⟨r', hr', hg'⟩ := ho'
  have fin : ∀ G al H s v d, HV B G al fm H s → Rep B al G v d → Fo B X σ fm G al (kT B fm) (asB d s) Q → ∃ k, v = .bl k ∧ Q k H := fun G al H s v d hv rp f => by
    cases rp with
    | bl k => exact ⟨k, rfl, f k G al H Grow.refl ⟨hv, rfl⟩⟩
    | _ => exact False.elim f
  have f0 : Fo B X σ fm G al (kE B fm) (chainM g g' m1 m2 m3 s) (fun v H => ∃ k, v = .bl k ∧ Q k H) := Fo.bind f fun d s' v G' al' H' g ⟨hv', rp⟩ f' => fin G' al' H' s' v d hv' rp f'
  refine ⟨_, pt_chain hr hr' wE_ok wE_ok wE_ok hm, ha G al fm H σ s _ hv sl (Fo.bind f0 fun d s' v G' al' H' g ⟨hv', rp⟩ f' => ?_)⟩
  refine hb G' al' fm H' σ s' _ hv' (sl.mono g) (Fo.bind f' fun d2 s2 v2 G2 al2 H2 g2 ⟨hv2, rp2⟩ f2 => ?_)
  refine hg σ G2 al2 fm H2 s2 v v2 d d2 _ hv2 (rp.mono g2) rp2 (Fo.bind f2 fun d3 s3 v3 G3 al3 H3 g3 ⟨hv3, rp3⟩ f3 => ?_)
  cases rp3 with
  | bl k =>
    refine ⟨k, rfl, ?_⟩
    cases k with
    | true =>
      refine hc G3 al3 fm H3 σ s3 _ hv3 (((sl.mono g).mono g2).mono g3) (Fo.bind f3 fun d4 s4 v4 G4 al4 H4 g4 ⟨hv4, rp4⟩ f4 => ?_)
      exact hg' σ G4 al4 fm H4 s4 v2 v4 d2 d4 _ hv4 ((rp2.mono g3).mono g4) rp4 f4
    | false => exact Fo.pure f3 hv3 (.bl false)
  | _ => exact False.elim f3
/-! ### append at a shared list -/
def isLc (x : D) : M Unit := fun s => match x with
  | .cel n => (match s[n]? with
    | some (.lst _) => .ok () s
    | _ => .bad)
  | _ => .bad
def appCel (x v : D) : M Unit := fun s => match x with
  | .cel n => (match s[n]? with
    | some (.lst ds) => if ds.length + 1 ≤ 16777216 then .ok () (s.set n (.lst (ds ++ [v]))) else .bad
    | _ => .bad)
  | _ => .bad
theorem isLc_ok {x : D} {s : Store} (h : isLc x s ≠ .bad) : ∃ n ds, x = .cel n ∧ s[n]? = some (.lst ds) ∧ isLc x s = .ok () s := by
  unfold isLc at h ⊢
  cases x with
  | cel n =>
    dsimp only at h ⊢
    cases q : s[n]? with
    | none => rw [q] at h; exact absurd rfl h
    | some mc =>
      rw [q] at h
      cases mc with
      | lst ds => exact ⟨n, ds, rfl, q, rfl⟩
      | _ => exact absurd rfl h
  | _ => exact absurd rfl h
theorem appCel_ok {x v : D} {s : Store} (h : appCel x v s ≠ .bad) : ∃ n ds, x = .cel n ∧ s[n]? = some (.lst ds) ∧ ds.length + 1 ≤ 16777216 ∧ appCel x v s = .ok () (s.set n (.lst (ds ++ [v]))) := by
  unfold appCel at h ⊢
  cases x with
  | cel n =>
    dsimp only at h ⊢
    cases q : s[n]? with
    | none => rw [q] at h; exact absurd rfl h
    | some mc =>
      rw [q] at h
      cases mc with
      | lst ds =>
        dsimp only at h ⊢
        by_cases hz : ds.length + 1 ≤ 16777216
        · exact ⟨n, ds, rfl, q, hz, if_pos hz⟩
        · rw [if_neg hz] at h
          exact absurd rfl h
      | _ => exact absurd rfl h
  | _ => exact absurd rfl h
theorem qs_appC {α β : Type} {γ : α → List Slot} {δ : β → List Slot} {o e : Expr} {rest : List Stmt} {apos cpos pos : Pos} {mo me : M D} {k : M (Fl α β)} (ho : QE B X o Γ mo) (he : QE B X e Γ me) (hk : QS B X rest Γ γ δ k) (hbase : attributeBase o "append" X.env (eval o X.env) = eval o X.env := by rfl)
    (hfew : ((backTo cpos (starEach [e] X.env)).all (fun x => !x.1) && (backToKw cpos (keywordEach [] X.env)).all (fun x => x.1.isSome) && decide (([e] : List Expr).length + ([] : List Keyword).length + (if ([] : List Keyword).isEmpty then 0 else 1) < 30)) = true := by rfl)
    (hline : (apos.endLine == cpos.line) = true := by rfl) (hs : starEach [e] X.env = (false, eval e X.env) :: starEach [] X.env := by rfl) (hplain : (backTo cpos (starEach [] X.env)).any (·.1) = false := by rfl) (hsw : swapsWith (.Call (.Attribute o "append" apos) [e] [] cpos) none pos.line X.env = pure false := by rfl) :
    QS B X (.Expr (.Call (.Attribute o "append" apos) [e] [] cpos) pos :: rest) Γ γ δ (do let x ← mo; let _ ← isLc x; let v ← me; let _ ← appCel x v; k) := fun G al fo ow H σ s E hv sl f => by
  refine ⟨_, pss_cons (ps_expr (pe_bm PySem.F.plainAttrs_list PySem.F.slot_list_append PySem.F.type_list_append mt_append wE_ok (pa_cons wE_ok pa_nil hs) hbase hfew hline hs hplain) hsw) wSs_ok, ?_⟩
  refine ho G al (ow ++ fo) H σ s _ hv sl.all (FolS.bind f fun x s1 vx G1 al1 H1 g1 ⟨hv1, rx⟩ f1 => ?_)
  rw [bind_run] at f1
  obtain ⟨n, ds, rfl, q1, q2⟩ := isLc_ok (x := x) (s := s1) fun z => by rw [z] at f1; exact f1
  rw [q2] at f1
  cases rx with
  | @cel _ a ha =>
    obtain ⟨hg1, o1, e1, r1⟩ := (hv1.ce n a _ ha q1).live (by simp)
    cases r1 with
    | @lst xs _ rl =>
      refine ⟨.inl ⟨rfl, xs, .inl (.inl e1)⟩, ?_⟩
      have f2 : FolS B X fo G1 al1 γ δ ((me >>= fun v => appCel (.cel n) v >>= fun _ => k) s1) E := f1
      refine he G1 al1 (ow ++ fo) H1 σ s1 _ hv1 (sl.mono g1).all (FolS.bind f2 fun v s2 vv G2 al2 H2 g2 ⟨hv2, rv⟩ f3 => ?_)
      rw [bind_run] at f3
      obtain ⟨n', ds', en, q3, hz, q4⟩ := appCel_ok (x := .cel n) (v := v) (s := s2) fun z => by rw [z] at f3; exact f3
      cases en
      rw [q4] at f3
      obtain ⟨hg2, o2, e2, r2⟩ := (hv2.ce n a _ (g2.a _ _ ha) q3).live (by simp)
      cases r2 with
      | @lst xs2 _ rl2 =>
        refine ⟨a, xs2, vv, rfl, rfl, e2, by rw [rl2.length, sizeLine_eq]; omega, ?_⟩
        exact hk G2 al2 fo ow _ σ _ E (hv2.cellPut (g2.a _ _ ha) q3 (by simp) (.lst (rl2.snoc rv))) ((sl.mono g1).mono g2) f3
end
end PM
set_option Elab.async false
set_option linter.all false
set_option maxRecDepth 100000
set_option maxHeartbeats 400000
/-! Pm26: further forms for printed proofs. -/
namespace PM
open PySem PySem.Spec PyProof.Rows L2
section
variable {B : Bx} {X : Cx} {Γ : List Slot} {rest : List Stmt} {pos pos' : Pos} {α β : Type} {γ : α → List Slot} {δ : β → List Slot}
/-- nothing is said -/
theorem qs_bad {ss : List Stmt} : QS B X ss Γ γ δ bad := fun G al fo ow H σ s E hv sl f => False.elim f
theorem qe_isiS {sub : String → String → Bool} (hsub : B.sub = sub) (c : String) {C : Addr} {e : Expr} {m : M D} {x : Str} {p p2 : Pos} (ok : BOk B) (hK : B.K = X.K) (hC : B.ct c = some C) (hm : X.mg "isinstance" = none) (hmT : X.mg x = some (.ref C)) (he : QH B X e Γ m) (hg : Gl X "isinstance" := by rfl) (hgT : Gl X x := by rfl) (hdb : (x == ("__debug__" : Str)) = false := by decide)
    (hs : starEach [e, .Name x p2] X.env = (false, eval e X.env) :: starEach [.Name x p2] X.env := by rfl) (hs2 : starEach [.Name x p2] X.env = (false, eval (.Name x p2) X.env) :: starEach [] X.env := by rfl) (hpl : (backTo pos (starEach [.Name x p2] X.env)).any (·.1) = false := by rfl) :
    QE B X (.Call (.Name "isinstance" p) [e, .Name x p2] [] pos) Γ (do let d ← m; mIsiC sub c d) := by
  subst hsub
  exact qe_isiC c ok hK hC hm hmT he hg hgT hdb hs hs2 hpl
theorem qe_xfS {xl : String → List Str} (hxl : B.xl = xl) (xo : XOk B) (hK : B.K = X.K) (i : Nat) {a : Addr} {oe : Obj} {cls : Value} {d : Option Addr} {pn : List (Addr × Obj)} {e : Exc} {n f : Str} {p : Pos} (hz : Zc cls d oe) (hf : ∃ vs, oe.data = .fields vs) (hi : Γ[i]? = some (.x a cls d e) := by rfl) (hN : X.N[i]? = some n := by rfl) (hvx : Vis X.env.scope n := by exact Or.inl rfl)
    (hd : (n == ("__debug__" : Str)) = false := by decide) (hcd : (n == ("__classdict__" : Str)) = false := by decide) (hb : attributeBase (.Name n p) f X.env (eval (.Name n p) X.env) = eval (.Name n p) X.env := by rfl) :
    QE B (X.suite a ((a, oe) :: pn)) (.Attribute (.Name n p) f pos) Γ (xFld xl f e) := by
  subst hxl
  exact qe_xf xo hK i hz hf hi hN hvx hd hcd hb
theorem qs_tryS {α' : Type} {γ' : α' → List Slot} {sub : String → String → Bool} (hsub : B.sub = sub) {mb : M (Fl α' β)} {mh : Exc → M (Fl Empty Empty)} {k : α' → M (Fl α β)} {body suite : List Stmt} {b₀ : Stmt} {np : Pos} {x n : Str} {C : Addr} (c : String) (i : Nat) (xo : XOk B) (hK : B.K = X.K) (hC : B.xt c = some C) (hm : X.mg x = some (.ref C))
    (hb : ∀ pn xe, PassesOwn (model X.prog X.w) X.A X.env xe → QS B (X.tr pn xe) body Γ γ' δ mb)
    (hh : ∀ a oe cls d pn e, Zc cls d oe → (∃ vs, oe.data = .fields vs) → QS B (X.suite a ((a, oe) :: pn)) (b₀ :: suite) ((List.replicate X.N.length Slot.no).set i (.x a cls d e)) (fun (z : Empty) => ([] : List Slot)) (fun (z : Empty) => ([] : List Slot)) (mh e))
    (hk : ∀ a, QS B X rest (γ' a) γ δ (k a)) (hN : X.N.Nodup) (hs : X.stack = X.env :: X.outer := by rfl) (hf : X.env.frame = some X.env.locals := by rfl) (hi : X.N[i]? = some n := by rfl) (hln : X.env.kindOf n = some .local := by rfl) (hg : Gl X x := by rfl) (hdb : (x == ("__debug__" : Str)) = false := by decide) :
    QS B X (.Try body [.ExceptHandler (some (.Name x np)) (some n) (b₀ :: suite) pos'] [] [] pos :: rest) Γ γ δ (seqF (tryM mb (fun e => sub e.c c) mh) k) := by
  subst hsub
  exact qs_try c i xo hK hC hm hb hh hk hN hs hf hi hln hg hdb
theorem qs_setLcT (i : Nat) {x : Str} {elt tg iter : Expr} {ifs : List Expr} {scope : Scope} {own : List (Str × Nat)} {cpos : Pos} {mi : M Itm} {mt : D → D → M Bool} {me : D → D → M D} {k : List D → M (Fl α β)} (j j2 : Nat) (hK : B.K = X.K) (C : CompOk X tg iter scope own (.tup [j, j2])) (hq : QI B X tg iter Γ mi)
    (ht : ∀ (s : Shared) (H : Hp) (C : Addr) (cl : List (Str × Addr)) (fp : List Addr) a b, QTs B (X.blk s H scope (compEnvC scope cl C X.env) fp) ifs (((wipeG Γ (own.map (·.2))).set j (.d a)).set j2 (.d b)) (mt a b))
    (he : ∀ (s : Shared) (H : Hp) (C : Addr) (cl : List (Str × Addr)) (fp : List Addr) a b, QE B (X.blk s H scope (compEnvC scope cl C X.env) fp) elt (((wipeG Γ (own.map (·.2))).set j (.d a)).set j2 (.d b)) (me a b))
    (hk : ∀ ds, QS B X rest (Γ.set i (.d (.lst ds))) γ δ (k ds)) (hsw : swapsWith (.ListComp elt [⟨tg, iter, ifs, 0⟩] scope cpos) (some (.Name x pos')) pos.line X.env = pure true) (hi : X.N[i]? = some x := by rfl) (hx : X.env.scope.names.lookup x = some .local := by rfl) :
    QS B X (.Assign [.Name x pos'] (.ListComp elt [⟨tg, iter, ifs, 0⟩] scope cpos) pos :: rest) Γ γ δ (do let ds ← (do let a ← mi; comp (un2 mt) (un2 me) a); k ds) := fun G al fo ow H σ s E hv sl f => by
  refine ⟨_, pss_cons (ps_setLc C.hc C.hN hi hx hsw wI_ok C.ok C.hg iT_ok iE_ok C.hs) wSs_ok, ?_⟩
  show tLc (wI X tg iter) (Tg.rd X.K (Tg.tup [j, j2])) (iT X scope ifs) (iE X scope elt) (own.map (·.2)) σ H (fun x H1 => gName i x σ H1 (wSs X rest E))
  refine lc_read (.tup [j, j2]) hK hq C.hsub (fun _ _ h => un2_bad h) (fun s H C cl fp d Γ' h => by obtain ⟨a, b, rfl, rfl⟩ := set2 h; exact ht s H C cl fp a b) (fun s H C cl fp d Γ' h => by obtain ⟨a, b, rfl, rfl⟩ := set2 h; exact he s H C cl fp a b) hv sl.all (FolS.bind f fun ds s' v G' al' H' g ⟨p, xs, ev, hv', rp⟩ f' => ?_)
  subst ev
  obtain ⟨hv2, g2⟩ := hv'.freeze
  exact hk ds _ al' fo ow H' _ s' E hv2 (((sl.mono g).mono g2).set i (.lst upd_same (rp.mono g2))) (FolS.grow g2 f')
/-- e1 != e2 as a test, e1 an instance or data -/
theorem qt_neS {e1 e2 : Expr} {m1 m2 : M D} (c : String) {C f : Addr} {k : Nat} {fd : FuncData} {ps : List Str} {g : List D → M D} (ok : BOk B) (hK : B.K = X.K) (hC : B.ct c = some C) (T : EqOwn X C f) (F : FnOk X.prog X.w X.K X.mg X.base (L2.CX X.prog X.w) k f fd ps (spM B g)) (hr : Room (k + 1) X.A) (hb : Binds X.K fd ps []) (ha : QE B X e1 Γ m1) (hb2 : QE B X e2 Γ m2) :
    QT B X (.Compare e1 [.NotEq] [e2] pos) Γ (do let x ← m1; let y ← m2; let z ← mNeX c g x y; asB z) := fun G al fm H σ s Q hv sl f => by
  obtain ⟨r2, h2, h3⟩ := om_ne (B := B) (X := X) hK (by have := hr.units; omega)
  have fin : ∀ G al H s v d, HV B G al fm H s → Rep B al G v d → Fo B X σ fm G al (kT B fm) (asB d s) Q → ∃ k, v = .bl k ∧ Q k H := fun G al H s v d hv rp f => by
    cases rp with
    | bl k => exact ⟨k, rfl, f k G al H Grow.refl ⟨hv, rfl⟩⟩
    | _ => exact False.elim f
  refine ⟨_, pt_cmpR (OpR.or (op_neO T F hr hb) h2) wE_ok wE_ok (nomark _), ha G al fm H σ s _ hv sl (Fo.bind f fun d s' v G' al' H' g0 ⟨hv', rp⟩ f' => ?_)⟩
  refine hb2 G' al' fm H' σ s' _ hv' (sl.mono g0) (Fo.bind f' fun d2 s2 v2 G2 al2 H2 g2 ⟨hv2, rp2⟩ f2 => ?_)
  have f3 : Fo B X σ fm G2 al2 (kE B fm) (mNeX c g d d2 s2) (fun v H => ∃ k, v = .bl k ∧ Q k H) := Fo.bind f2 fun d s' v G' al' H' g ⟨hv', rp⟩ f' => fin G' al' H' s' v d hv' rp f'
  have rp := rp.mono g2
  have e : ∀ x y s, mNeX c g x y s = match objOf s x with | some _ => eqO c g true x y s | none => (if true = true then mNe x y s else mEq x y s) := fun x y s => rfl
  rw [e] at f3
  cases q : objOf s2 d with
  | some p =>
    simp only [q] at f3
    exact .inl (eqO_fo ok hK hC hv2 rp (.rep rp2) f3 rp2)
  | none =>
    simp only [q] at f3
    exact .inr (h3 σ G2 al2 fm H2 s2 v v2 d d2 _ hv2 (.rep rp) (.rep rp2) f3)
end
def toL2 (a : D × D) : List D := [a.1, a.2]
def initJ {α : Type} (toL : α → List D) (m : M (Fl α Empty)) : M (List D) := do
  let r ← m
  match r with
  | .nx a => pure (toL a)
  | _ => bad
def mapJ {α : Type} (toL : α → List D) (m : M (Fl α Empty)) : M (Fl (List D) Empty) := do
  let r ← m
  match r with
  | .nx a => pure (.nx (toL a))
  | _ => bad
theorem mapJ_init {α : Type} (toL : α → List D) (m : M (Fl α Empty)) : initJ toL m = initF (mapJ toL m) := by
  funext s
  unfold initJ initF mapJ
  rw [bind_run, bind_run, bind_run]
  cases m s with
  | bad => rfl
  | err _ _ => rfl
  | ok r s' => cases r <;> rfl
theorem fn_okJ {P : Program} {w : World} {K : PySem.W.Frag} {mg : Str → Option Value} {base : Heap} {α : Type} (toL : α → List D) {B : Bx} {x qual : Str} {st : Stmt} {f : Addr} {fd : FuncData} {N ps : List Str} {k n : Nat} {c : String} {g : List D → M (List D)} (F : Fun K x qual st f fd) (S : FnScope N ps (defScope st)) (ar : Ar n g) (hn : ps.length = n + 1) (hNl : 0 < N.length) (hfl : ∀ a, (toL a).length = (B.fl c).length) (hg : ∀ ds, ds.length = n → ∃ m, g ds = initJ toL m)
    (hb : ∀ (cdv : Value) (A : Around) (outer : List Env) (s : Shared) (H : Hp) (E : XK), Room k (A.deeper (envOfC qual (defScope st) s.heap.objs.size f cdv)) → ∀ p dx ds, ds.length = n →
      ∃ m : M (Fl α Empty), g ds = initJ toL m ∧ QS B (cxOf (L2.CX P w) P w K mg base N qual (defScope st) f cdv A outer s H E) (defBody st) (.o c p dx [] :: (ent N.length (.non :: ds)).tail) (fun a => .o c p dx (toL a) :: List.replicate (N.length - 1) Slot.no) (fun (_ : Empty) => ([] : List Slot)) m) :
    FnOk P w K mg base (L2.CX P w) (k + 1) f fd ps (spI B c g) := by
  refine fn_okI F S ar hn hNl (fun ds s fs s' h => ?_) (fun cdv A outer s H E hr p dx ds hds => ?_)
  · obtain ⟨m, e⟩ := hg ds (ar ds s fun z => by rw [z] at h; cases h)
    rw [e] at h
    unfold initJ at h
    rw [bind_run] at h
    cases q : m s with
    | bad => rw [q] at h; cases h
    | err _ _ => rw [q] at h; cases h
    | ok r s2 =>
      rw [q] at h
      cases r with
      | nx a =>
        cases h
        exact hfl a
      | rt d => cases h
      | bk b => exact nomatch b
      | ct b => exact nomatch b
  · obtain ⟨m, e, hq⟩ := hb cdv A outer s H E hr p dx ds hds
    refine ⟨mapJ toL m, by rw [e, mapJ_init], fun G al fo ow H0 σ st0 D hv sl f => hq G al fo ow H0 σ st0 D hv sl ?_⟩
    unfold mapJ at f
    rw [bind_run] at f
    cases q : m st0 with
    | bad => rw [q] at f; exact f
    | err _ _ => rw [q] at f; exact f
    | ok r s2 =>
      rw [q] at f
      cases r with
      | nx a => exact f
      | rt d => exact False.elim f
      | bk b => exact nomatch b
      | ct b => exact nomatch b
end PM
set_option Elab.async false
set_option linter.all false
set_option maxRecDepth 100000
set_option maxHeartbeats 400000
/-! Pm27: a shared list is not changed any more: it is frozen, its cell is dead. -/
namespace PM
open PySem PySem.Spec PyProof.Rows L2
def frzC (d : D) : M D := fun s => match d with
  | .cel n => (match s[n]? with
    | some (.lst ds) => .ok (.lst ds) (s.set n .dead)
    | _ => .bad)
  | _ => .bad
theorem frzC_ok {d : D} {s : Store} (h : frzC d s ≠ .bad) : ∃ n ds, d = .cel n ∧ s[n]? = some (.lst ds) ∧ frzC d s = .ok (.lst ds) (s.set n .dead) := by
  unfold frzC at h ⊢
  cases d with
  | cel n =>
    dsimp only at h ⊢
    cases q : s[n]? with
    | none => rw [q] at h; exact absurd rfl h
    | some mc =>
      rw [q] at h
      cases mc with
      | lst ds => exact ⟨n, ds, rfl, q, rfl⟩
      | _ => exact absurd rfl h
  | _ => exact absurd rfl h
theorem nodupIx {α : Type} : ∀ {l : List α} {i j : Nat} {x : α}, l.Nodup → l[i]? = some x → l[j]? = some x → i = j
  | [], _, _, _, _, h, _ => by simp at h
  | _ :: _, 0, 0, _, _, _, _ => rfl
  | a :: l, 0, j + 1, x, nd, h1, h2 => by
    simp at h1 h2
    subst h1
    exact absurd (List.mem_of_getElem? h2) (List.nodup_cons.mp nd).1
  | a :: l, i + 1, 0, x, nd, h1, h2 => by
    simp at h1 h2
    subst h2
    exact absurd (List.mem_of_getElem? h1) (List.nodup_cons.mp nd).1
  | a :: l, i + 1, j + 1, x, nd, h1, h2 => by
    simp at h1 h2
    rw [nodupIx (List.nodup_cons.mp nd).2 h1 h2]
section
variable {B : Bx} {X : Cx} {Γ : List Slot}
theorem HV.frzCell {G H : Hp} {al : List Addr} {fm : List (Addr × HO)} {s : Store} {n : Nat} {a : Addr} {xs : List V} {ds : List D} (h : HV B G al fm H s) (h1 : al[n]? = some a) (h2 : s[n]? = some (.lst ds)) (e : H a = some (.lst xs)) (eg : G a = none) : HV B (upd G a (.lst xs)) al fm H (s.set n .dead) ∧ Grow G al (upd G a (.lst xs)) al := by
  have g : Grow G al (upd G a (.lst xs)) al := ⟨fun b u z => by rw [upd_ne fun y => by rw [y, eg] at z; cases z]; exact z, fun _ _ z => z⟩
  have nd := h.nd
  refine ⟨⟨fun b u z => ?_, fun p hp => ?_, by rw [List.length_set]; exact h.len, fun k b mc k1 k2 => ?_, nd⟩, g⟩
  · by_cases hb : b = a
    · subst hb
      rw [upd_same] at z
      rw [e]
      exact z
    · rw [upd_ne hb] at z
      exact h.ex _ _ z
  · have ne : p.1 ≠ a := fun z => by
      have := (List.nodup_append.mp nd).2.2 a (List.mem_of_getElem? h1) p.1 (List.mem_map_of_mem hp)
      exact this z.symm
    rw [upd_ne ne]
    exact h.fr p hp
  · by_cases hk : k = n
    · subst hk
      have lt : k < s.length := (List.getElem?_eq_some_iff.mp h2).1
      rw [List.getElem?_set_self lt] at k2
      cases k2
      rw [h1] at k1
      cases k1
      exact ⟨_, upd_same⟩
    · rw [List.getElem?_set_ne (Ne.symm hk)] at k2
      have ne : b ≠ a := fun z => by
        subst z
        have n1 := (List.nodup_append.mp nd).1
        exact hk (nodupIx n1 k1 h1)
      exact (h.ce k b mc k1 k2).keep g (fun z => by rw [upd_ne ne]; exact z) fun o z => z
theorem qs_frzC {α β : Type} {γ : α → List Slot} {δ : β → List Slot} {d : D} (i : Nat) {ss : List Stmt} {k : D → M (Fl α β)} (hk : ∀ d', QS B X ss (Γ.set i (.d d')) γ δ (k d')) (h : Γ[i]? = some (.d d) := by rfl) : QS B X ss Γ γ δ (do let d' ← frzC d; k d') := fun G al fo ow H σ s E hv sl f => by
  rw [bind_run] at f
  obtain ⟨n, ds, rfl, q1, q2⟩ := frzC_ok (d := d) (s := s) fun z => by rw [z] at f; exact f
  rw [q2] at f
  have li : i < σ.length := by rw [sl.len]; exact (List.getElem?_eq_some_iff.mp h).1
  have hx := List.getElem?_eq_getElem li
  obtain ⟨v, e1, rp⟩ := sl.at_ i _ _ h hx
  cases rp with
  | @cel _ a ha =>
    obtain ⟨hg, o, e2, r⟩ := (hv.ce n a _ ha q1).live (by simp)
    cases r with
    | @lst xs _ rl =>
      obtain ⟨hv2, g⟩ := hv.frzCell ha q1 e2 hg
      have es : σ.set i (some (.ref a)) = σ := by
        apply List.ext_getElem?
        intro j
        by_cases hj : i = j
        · subst hj
          rw [List.getElem?_set_self li, hx, e1]
        · rw [List.getElem?_set_ne hj]
      have sl2 := (sl.mono g).set i (v := .ref a) (.lst upd_same (rl.mono g))
      rw [es] at sl2
      exact hk _ _ al fo ow H σ _ E hv2 sl2 (FolS.grow g f)
end
end PM
set_option Elab.async false
set_option linter.all false
set_option maxRecDepth 100000
set_option maxHeartbeats 400000
/-! Pe0: what the top has written, by checks. -/
namespace PM
open PySem PySem.Spec PyProof.Rows L2
/-- the tables of a law -/
def mkB (K : PySem.W.Frag) (cts : List (String × Addr)) (fls : List (String × List Str)) (xts : List (String × Addr)) (xl : String → List Str) (sub : String → String → Bool) : Bx :=
  ⟨K, fun c => cts.lookup c, fun c => (fls.lookup c).getD [], fun c => xts.lookup c, xl, sub⟩
theorem lookup_mem {α β : Type} [BEq α] [LawfulBEq α] : ∀ {l : List (α × β)} {a : α} {b : β}, l.lookup a = some b → (a, b) ∈ l
  | [], _, _, h => nomatch h
  | (x, y) :: r, a, b, h => by
    rw [List.lookup_cons] at h
    split at h
    · rename_i e
      cases h
      rw [eq_of_beq e]
      exact List.mem_cons_self
    · exact List.mem_cons_of_mem _ (lookup_mem h)
def clsB (K : PySem.W.Frag) (C : Addr) : Bool :=
  PySem.W.plainGet K C Str.empty && (PySem.W.hasDictIn K C && (PySem.W.plainOver K C && (decide (PySem.W.findIn K (.ref C) "__setattr__" = some (some (.builtin "object.__setattr__"))) &&
  (decide (PySem.W.findIn K (.ref C) "__class__" = some (some (.builtin "object.__class__"))) && (decide (PySem.W.specialIn K (.builtin "object.__class__") "__get__" = some (some (.builtin "getset_descriptor.__get__"))) &&
  (decide (PySem.W.takesIn K (.builtin "object.__class__") = some true) && (decide (PySem.W.mroIn K C (.type "object") = some true) &&
  ((["int", "bool", "str", "list", "tuple", "dict"].all fun T => decide (PySem.W.kitOne K (.ref C) (.type T) = some false)) && (["NoneType", "int", "bool", "str", "list", "tuple", "dict"].all fun T => decide (PySem.W.kitOne K (.type T) (.ref C) = some false))))))))))
theorem clsB_ok {B : Bx} {C : Addr} {c : String} (h : clsB B.K C = true) : ClsF B C c := by
  unfold clsB at h
  simp only [Bool.and_eq_true, decide_eq_true_eq, List.all_eq_true] at h
  obtain ⟨h1, h2, h3, h4, h5, h6, h7, h8, h9, h10⟩ := h
  exact ⟨⟨h1, h2, h3, h4⟩, h5, h6, h7, h8, h9, h10⟩
def bokB (K : PySem.W.Frag) (cts : List (String × Addr)) (fls : List (String × List Str)) (sub : String → String → Bool) : Bool :=
  (cts.all fun p => clsB K p.2 && ((((fls.lookup p.1).getD []).all fun f => decide (PySem.W.findIn K (.ref p.2) f = some none)) && cts.all fun q => decide (PySem.W.kitOne K (.ref p.2) (.ref q.2) = some (p.1 == q.1 || sub p.1 q.1)))) && fls.all fun p => decide p.2.Nodup
theorem bokB_ok {K : PySem.W.Frag} {cts : List (String × Addr)} {fls : List (String × List Str)} {xts : List (String × Addr)} {xl : String → List Str} {sub : String → String → Bool} (h : bokB K cts fls sub = true) : BOk (mkB K cts fls xts xl sub) := by
  unfold bokB at h
  simp only [Bool.and_eq_true, decide_eq_true_eq, List.all_eq_true] at h
  obtain ⟨h1, h2⟩ := h
  refine ⟨fun c C e => ?_, fun c C c' C' e e' => ?_, fun c C f e hf => ?_, fun c => ?_⟩
  · exact clsB_ok (h1 _ (lookup_mem e)).1
  · exact (h1 _ (lookup_mem e)).2.2 _ (lookup_mem e')
  · exact (h1 _ (lookup_mem e)).2.1 f hf
  · show ((fls.lookup c).getD []).Nodup
    cases q : fls.lookup c with
    | none => exact List.nodup_nil
    | some l => exact h2 _ (lookup_mem q)
def xokB (K : PySem.W.Frag) (xts : List (String × Addr)) (xl : String → List Str) (sub : String → String → Bool) : Bool :=
  xts.all fun p => xfB K p.2 && (((xl p.1).all fun f => decide (PySem.W.findIn K (.ref p.2) f = some none)) && xts.all fun q => decide (PySem.W.exmOne K (.ref p.2) (.ref q.2) = some (sub p.1 q.1)))
theorem xokB_ok {K : PySem.W.Frag} {cts : List (String × Addr)} {fls : List (String × List Str)} {xts : List (String × Addr)} {xl : String → List Str} {sub : String → String → Bool} (h : xokB K xts xl sub = true) : XOk (mkB K cts fls xts xl sub) := by
  unfold xokB at h
  simp only [Bool.and_eq_true, decide_eq_true_eq, List.all_eq_true] at h
  refine ⟨fun c C e => ?_, fun c C f e hf => ?_, fun c c' C C' e e' => ?_⟩
  · exact xfB_ok (h _ (lookup_mem e)).1
  · exact (h _ (lookup_mem e)).2.1 f hf
  · exact (h _ (lookup_mem e)).2.2 _ (lookup_mem e')
/-- a def that closes over __class__ -/
theorem binds_ks {K : PySem.W.Frag} {x qual : Str} {st : Stmt} {ps : List Str} {kV doc pm cdv ct : Value} {an : Option Addr} {cc : Addr}
    (h : ∀ us : List Value, us.length = ps.length → bindArgs (PySem.W.ksFn x qual (defArgs st) (defBody st) (defScope st) .none kV doc pm an cdv ct cc) ⟨us, []⟩ = pure (ps.zip us)) : Binds K (PySem.W.ksFn x qual (defArgs st) (defBody st) (defScope st) .none kV doc pm an cdv ct cc) ps [] := .all h
/-- an own exception class -/
structure XFacts (P : Program) (K : PySem.W.Frag) (C f cda cc : Addr) (pr : Arguments) : Prop where
  oex : OexC K C
  sup : SupC P K C f cda cc
end PM
set_option Elab.async false
set_option linter.all false
set_option maxRecDepth 100000
set_option maxHeartbeats 1000000
/-! printed by gen.py: the walks of stillsure_k36_stories_at_least_as_bad -/
namespace Mine
open PySem PySem.Spec PyProof.Rows L2 PM
def topS (i : Nat) : Stmt := PySem.Challenge.pw_stillsure_k36_stories_at_least_as_bad.main.body.getD i (.Pass ⟨0, 0, 0, 0⟩)
def subs (a b : String) : Bool := a == b
def xls : String → List Str := fun _ => ["told_parts", "value"]
abbrev s__law_rng : Stmt := topS 20
abbrev N__law_rng : List Str := ["_law_script", "_law_k", "_law_cell"]
theorem sc__law_rng : FnScope ["_law_script", "_law_k", "_law_cell"] ["_law_script", "_law_k"] (defScope s__law_rng) := ⟨rfl, rfl, rfl, by decide +kernel, rfl, by decide +kernel, by decide +kernel⟩
abbrev s__law_draw : Stmt := topS 21
abbrev N__law_draw : List Str := ["_law_rng_here", "_law_many", "_law_digit"]
theorem sc__law_draw : FnScope ["_law_rng_here", "_law_many", "_law_digit"] ["_law_rng_here", "_law_many"] (defScope s__law_draw) := ⟨rfl, rfl, rfl, by decide +kernel, rfl, by decide +kernel, by decide +kernel⟩
abbrev s__law_name : Stmt := topS 23
abbrev N__law_name : List Str := ["_law_rng_here", "_law_used", "_law_letters", "_law_length", "_law_word", "_law_fresh", "_law_k", "_law_one"]
theorem sc__law_name : FnScope ["_law_rng_here", "_law_used", "_law_letters", "_law_length", "_law_word", "_law_fresh", "_law_k", "_law_one"] ["_law_rng_here", "_law_used"] (defScope s__law_name) := ⟨rfl, rfl, rfl, by decide +kernel, rfl, by decide +kernel, by decide +kernel⟩
abbrev s__law_names : Stmt := topS 24
abbrev N__law_names : List Str := ["_law_rng_here", "_law_many", "_law_used", "_law_found", "_law_k"]
theorem sc__law_names : FnScope ["_law_rng_here", "_law_many", "_law_used", "_law_found", "_law_k"] ["_law_rng_here", "_law_many", "_law_used"] (defScope s__law_names) := ⟨rfl, rfl, rfl, by decide +kernel, rfl, by decide +kernel, by decide +kernel⟩
abbrev s__law_choice : Stmt := topS 22
abbrev N__law_choice : List Str := ["_law_rng_here", "_law_options"]
theorem sc__law_choice : FnScope ["_law_rng_here", "_law_options"] ["_law_rng_here", "_law_options"] (defScope s__law_choice) := ⟨rfl, rfl, rfl, by decide +kernel, rfl, by decide +kernel, by decide +kernel⟩
abbrev s__law_plain_story : Stmt := topS 25
abbrev N__law_plain_story : List Str := ["_law_rng_here", "_law_items", "_law_marks", "_law_far", "_law_days", "_law_k", "_law_mark"]
theorem sc__law_plain_story : FnScope ["_law_rng_here", "_law_items", "_law_marks", "_law_far", "_law_days", "_law_k", "_law_mark"] ["_law_rng_here", "_law_items", "_law_marks"] (defScope s__law_plain_story) := ⟨rfl, rfl, rfl, by decide +kernel, rfl, by decide +kernel, by decide +kernel⟩
abbrev s__law_near : Stmt := topS 26
abbrev N__law_near : List Str := ["_law_rng_here", "_law_one", "_law_days", "_law_strays", "_law_k", "_law_mark"]
theorem sc__law_near : FnScope ["_law_rng_here", "_law_one", "_law_days", "_law_strays", "_law_k", "_law_mark"] ["_law_rng_here", "_law_one"] (defScope s__law_near) := ⟨rfl, rfl, rfl, by decide +kernel, rfl, by decide +kernel, by decide +kernel⟩
abbrev s_is_integer : Stmt := topS 10
abbrev N_is_integer : List Str := ["value"]
theorem sc_is_integer : FnScope ["value"] ["value"] (defScope s_is_integer) := ⟨rfl, rfl, rfl, by decide +kernel, rfl, by decide +kernel, by decide +kernel⟩
abbrev s_is_day : Stmt := topS 12
abbrev N_is_day : List Str := ["value"]
theorem sc_is_day : FnScope ["value"] ["value"] (defScope s_is_day) := ⟨rfl, rfl, rfl, by decide +kernel, rfl, by decide +kernel, by decide +kernel⟩
abbrev s_is_stray : Stmt := topS 16
abbrev N_is_stray : List Str := ["value"]
theorem sc_is_stray : FnScope ["value"] ["value"] (defScope s_is_stray) := ⟨rfl, rfl, rfl, by decide +kernel, rfl, by decide +kernel, by decide +kernel⟩
abbrev s_is_name : Stmt := topS 11
abbrev N_is_name : List Str := ["value", "letter"]
theorem sc_is_name : FnScope ["value", "letter"] ["value"] (defScope s_is_name) := ⟨rfl, rfl, rfl, by decide +kernel, rfl, by decide +kernel, by decide +kernel⟩
abbrev s_are_strays : Stmt := topS 17
abbrev N_are_strays : List Str := ["value", "seal"]
theorem sc_are_strays : FnScope ["value", "seal"] ["value"] (defScope s_are_strays) := ⟨rfl, rfl, rfl, by decide +kernel, rfl, by decide +kernel, by decide +kernel⟩
abbrev s_Story___init__ : Stmt := inClass (topS 18) 0
abbrev N_Story___init__ : List Str := ["self", "days", "strays", "seal", "day"]
theorem sc_Story___init__ : FnScope ["self", "days", "strays", "seal", "day"] ["self", "days", "strays"] (defScope s_Story___init__) := ⟨rfl, rfl, rfl, by decide +kernel, rfl, by decide +kernel, by decide +kernel⟩
abbrev s__law_made : Stmt := topS 28
abbrev N__law_made : List Str := ["_law_one"]
theorem sc__law_made : FnScope ["_law_one"] ["_law_one"] (defScope s__law_made) := ⟨rfl, rfl, rfl, by decide +kernel, rfl, by decide +kernel, by decide +kernel⟩
abbrev s_Story_days : Stmt := inClass (topS 18) 2
abbrev N_Story_days : List Str := ["self"]
theorem sc_Story_days : FnScope ["self"] ["self"] (defScope s_Story_days) := ⟨rfl, rfl, rfl, by decide +kernel, rfl, by decide +kernel, by decide +kernel⟩
abbrev s_Story_strays : Stmt := inClass (topS 18) 3
abbrev N_Story_strays : List Str := ["self"]
theorem sc_Story_strays : FnScope ["self"] ["self"] (defScope s_Story_strays) := ⟨rfl, rfl, rfl, by decide +kernel, rfl, by decide +kernel, by decide +kernel⟩
abbrev s__law_new_right : Stmt := topS 33
abbrev N__law_new_right : List Str := ["_law_one", "_law_story", "_law_days", "_law_strays"]
theorem sc__law_new_right : FnScope ["_law_one", "_law_story", "_law_days", "_law_strays"] ["_law_one"] (defScope s__law_new_right) := ⟨rfl, rfl, rfl, by decide +kernel, rfl, by decide +kernel, by decide +kernel⟩
abbrev s_day_text : Stmt := topS 13
abbrev N_day_text : List Str := ["day"]
theorem sc_day_text : FnScope ["day"] ["day"] (defScope s_day_text) := ⟨rfl, rfl, rfl, by decide +kernel, rfl, by decide +kernel, by decide +kernel⟩
abbrev s_Story___str__ : Stmt := inClass (topS 18) 12
abbrev N_Story___str__ : List Str := ["self", "days", "strays", "day", "seal", "words"]
theorem sc_Story___str__ : FnScope ["self", "days", "strays", "day", "seal", "words"] ["self"] (defScope s_Story___str__) := ⟨rfl, rfl, rfl, by decide +kernel, rfl, by decide +kernel, by decide +kernel⟩
abbrev s_Story___eq__ : Stmt := inClass (topS 18) 11
abbrev N_Story___eq__ : List Str := ["self", "other"]
theorem sc_Story___eq__ : FnScope ["self", "other"] ["self", "other"] (defScope s_Story___eq__) := ⟨rfl, rfl, rfl, by decide +kernel, rfl, by decide +kernel, by decide +kernel⟩
abbrev s_Story_concerns : Stmt := inClass (topS 18) 6
abbrev N_Story_concerns : List Str := ["self", "many", "seals"]
theorem sc_Story_concerns : FnScope ["self", "many", "seals"] ["self", "many", "seals"] (defScope s_Story_concerns) := ⟨rfl, rfl, rfl, by decide +kernel, rfl, by decide +kernel, by decide +kernel⟩
abbrev s_Story___repr__ : Stmt := inClass (topS 18) 13
abbrev N_Story___repr__ : List Str := ["self"]
theorem sc_Story___repr__ : FnScope ["self"] ["self"] (defScope s_Story___repr__) := ⟨rfl, rfl, rfl, by decide +kernel, rfl, by decide +kernel, by decide +kernel⟩
abbrev s_InvalidStory___init__ : Stmt := inClass (topS 4) 0
abbrev N_InvalidStory___init__ : List Str := ["self", "value"]
theorem sc_InvalidStory___init__ : ScS ["self", "value"] ["self", "value"] (defScope s_InvalidStory___init__) := ⟨rfl, rfl, rfl, by decide +kernel, rfl, by decide +kernel, by decide +kernel, by decide +kernel, rfl, rfl⟩
abbrev s_Story_require_alike : Stmt := inClass (topS 18) 7
abbrev N_Story_require_alike : List Str := ["self", "other"]
theorem sc_Story_require_alike : FnScope ["self", "other"] ["self", "other"] (defScope s_Story_require_alike) := ⟨rfl, rfl, rfl, by decide +kernel, rfl, by decide +kernel, by decide +kernel⟩
abbrev s_Story_is_as_bad_as : Stmt := inClass (topS 18) 9
abbrev N_Story_is_as_bad_as : List Str := ["self", "other", "one", "two", "seal", "day"]
theorem sc_Story_is_as_bad_as : FnScope ["self", "other", "one", "two", "seal", "day"] ["self", "other"] (defScope s_Story_is_as_bad_as) := ⟨rfl, rfl, rfl, by decide +kernel, rfl, by decide +kernel, by decide +kernel⟩
abbrev s__law_bad : Stmt := topS 27
abbrev N__law_bad : List Str := ["_law_one", "_law_two", "_law_k", "_law_mark"]
theorem sc__law_bad : FnScope ["_law_one", "_law_two", "_law_k", "_law_mark"] ["_law_one", "_law_two"] (defScope s__law_bad) := ⟨rfl, rfl, rfl, by decide +kernel, rfl, by decide +kernel, by decide +kernel⟩
abbrev s_Story_melted : Stmt := inClass (topS 18) 8
abbrev N_Story_melted : List Str := ["self", "other", "days", "one", "two", "seal", "day"]
theorem sc_Story_melted : FnScope ["self", "other", "days", "one", "two", "seal", "day"] ["self", "other"] (defScope s_Story_melted) := ⟨rfl, rfl, rfl, by decide +kernel, rfl, by decide +kernel, by decide +kernel⟩
abbrev s_Story___len__ : Stmt := inClass (topS 18) 10
abbrev N_Story___len__ : List Str := ["self"]
theorem sc_Story___len__ : FnScope ["self"] ["self"] (defScope s_Story___len__) := ⟨rfl, rfl, rfl, by decide +kernel, rfl, by decide +kernel, by decide +kernel⟩
abbrev s__law_pairs_right : Stmt := topS 32
abbrev N__law_pairs_right : List Str := ["_law_plain", "_law_one", "_law_two", "_law_made_here", "_law_least", "_law_three", "_law_first", "_law_second", "_law_both", "_law_k", "_law_mark"]
theorem sc__law_pairs_right : FnScope ["_law_plain", "_law_one", "_law_two", "_law_made_here", "_law_least", "_law_three", "_law_first", "_law_second", "_law_both", "_law_k", "_law_mark"] ["_law_plain"] (defScope s__law_pairs_right) := ⟨rfl, rfl, rfl, by decide +kernel, rfl, by decide +kernel, by decide +kernel⟩
abbrev s__law_free : Stmt := topS 29
abbrev N__law_free : List Str := ["_law_marks", "_law_one"]
theorem sc__law_free : FnScope ["_law_marks", "_law_one"] ["_law_marks"] (defScope s__law_free) := ⟨rfl, rfl, rfl, by decide +kernel, rfl, by decide +kernel, by decide +kernel⟩
abbrev s__law_refused : Stmt := topS 30
abbrev N__law_refused : List Str := ["_law_story", "_law_way", "_law_value", "error"]
theorem sc__law_refused : FnScope ["_law_story", "_law_way", "_law_value", "error"] ["_law_story", "_law_way", "_law_value"] (defScope s__law_refused) := ⟨rfl, rfl, rfl, by decide +kernel, rfl, by decide +kernel, by decide +kernel⟩
abbrev s__law_refusals_right : Stmt := topS 31
abbrev N__law_refusals_right : List Str := ["_law_rng_here", "_law_one", "_law_story", "_law_odd", "_law_more", "_law_value", "_law_moved", "_law_way", "_law_found", "_law_mark"]
theorem sc__law_refusals_right : FnScope ["_law_rng_here", "_law_one", "_law_story", "_law_odd", "_law_more", "_law_value", "_law_moved", "_law_way", "_law_found", "_law_mark"] ["_law_rng_here", "_law_one"] (defScope s__law_refusals_right) := ⟨rfl, rfl, rfl, by decide +kernel, rfl, by decide +kernel, by decide +kernel⟩
abbrev s_law : Stmt := topS 34
abbrev N_law : List Str := ["_law_script", "_law_index", "_law_rng_here", "_law_marks", "_law_many", "_law_plain", "_law_k", "_law_one"]
theorem sc_law : FnScope ["_law_script", "_law_index", "_law_rng_here", "_law_marks", "_law_many", "_law_plain", "_law_k", "_law_one"] ["_law_script"] (defScope s_law) := ⟨rfl, rfl, rfl, by decide +kernel, rfl, by decide +kernel, by decide +kernel⟩
structure Txt (P : Program) (w : World) (K : PySem.W.Frag) (mg : Str → Option Value) (base : Heap) where
  B : Bx
  hK : B.K = K
  ok : BOk B
  xo : XOk B
  subE : B.sub = subs
  xlE : B.xl = xls
  t_LAST_DAY : Tok
  c_LAST_DAY : mg "LAST_DAY" = some (.int 1000000000 t_LAST_DAY)
  t_LETTERS : Tok
  c_LETTERS : mg "LETTERS" = some (.str "abcdefghijklmnopqrstuvwxyz" t_LETTERS)
  t_MOST_LETTERS : Tok
  c_MOST_LETTERS : mg "MOST_LETTERS" = some (.int 8 t_MOST_LETTERS)
  t_NEVER : Tok
  c_NEVER : mg "NEVER" = some (.int 1000000001 t_NEVER)
  t_NOTHING : Tok
  c_NOTHING : mg "NOTHING" = some (.str "-" t_NOTHING)
  z_abs : mg "abs" = none
  z_all : mg "all" = none
  z_any : mg "any" = none
  z_bool : mg "bool" = none
  z_dict : mg "dict" = none
  z_divmod : mg "divmod" = none
  z_int : mg "int" = none
  z_isinstance : mg "isinstance" = none
  z_len : mg "len" = none
  z_list : mg "list" = none
  z_max : mg "max" = none
  z_min : mg "min" = none
  z_range : mg "range" = none
  z_sorted : mg "sorted" = none
  z_str : mg "str" = none
  z_super : mg "super" = none
  z_tuple : mg "tuple" = none
  z_zip : mg "zip" = none
  C_Story : Addr
  ct_Story : B.ct "Story" = some C_Story
  g_Story : mg "Story" = some (.ref C_Story)
  fl_Story : B.fl "Story" = (["own_days", "own_strays"] : List Str)
  C_InvalidStory : Addr
  xt_InvalidStory : B.xt "InvalidStory" = some C_InvalidStory
  g_InvalidStory : mg "InvalidStory" = some (.ref C_InvalidStory)
  ox_InvalidStory : OexC K C_InvalidStory
  f__law_rng : Addr
  d__law_rng : FuncData
  b__law_rng : Binds K d__law_rng ["_law_script", "_law_k"] []
  F__law_rng : Fun K "_law_rng" "_law_rng" s__law_rng f__law_rng d__law_rng
  g__law_rng : mg "_law_rng" = some (.ref f__law_rng)
  f__law_draw : Addr
  d__law_draw : FuncData
  b__law_draw : Binds K d__law_draw ["_law_rng_here", "_law_many"] []
  F__law_draw : Fun K "_law_draw" "_law_draw" s__law_draw f__law_draw d__law_draw
  g__law_draw : mg "_law_draw" = some (.ref f__law_draw)
  f__law_name : Addr
  d__law_name : FuncData
  b__law_name : Binds K d__law_name ["_law_rng_here", "_law_used"] []
  F__law_name : Fun K "_law_name" "_law_name" s__law_name f__law_name d__law_name
  g__law_name : mg "_law_name" = some (.ref f__law_name)
  f__law_names : Addr
  d__law_names : FuncData
  b__law_names : Binds K d__law_names ["_law_rng_here", "_law_many", "_law_used"] []
  F__law_names : Fun K "_law_names" "_law_names" s__law_names f__law_names d__law_names
  g__law_names : mg "_law_names" = some (.ref f__law_names)
  f__law_choice : Addr
  d__law_choice : FuncData
  b__law_choice : Binds K d__law_choice ["_law_rng_here", "_law_options"] []
  F__law_choice : Fun K "_law_choice" "_law_choice" s__law_choice f__law_choice d__law_choice
  g__law_choice : mg "_law_choice" = some (.ref f__law_choice)
  f__law_plain_story : Addr
  d__law_plain_story : FuncData
  b__law_plain_story : Binds K d__law_plain_story ["_law_rng_here", "_law_items", "_law_marks"] []
  F__law_plain_story : Fun K "_law_plain_story" "_law_plain_story" s__law_plain_story f__law_plain_story d__law_plain_story
  g__law_plain_story : mg "_law_plain_story" = some (.ref f__law_plain_story)
  f__law_near : Addr
  d__law_near : FuncData
  b__law_near : Binds K d__law_near ["_law_rng_here", "_law_one"] []
  F__law_near : Fun K "_law_near" "_law_near" s__law_near f__law_near d__law_near
  g__law_near : mg "_law_near" = some (.ref f__law_near)
  f_is_integer : Addr
  d_is_integer : FuncData
  b_is_integer : Binds K d_is_integer ["value"] []
  F_is_integer : Fun K "is_integer" "is_integer" s_is_integer f_is_integer d_is_integer
  g_is_integer : mg "is_integer" = some (.ref f_is_integer)
  f_is_day : Addr
  d_is_day : FuncData
  b_is_day : Binds K d_is_day ["value"] []
  F_is_day : Fun K "is_day" "is_day" s_is_day f_is_day d_is_day
  g_is_day : mg "is_day" = some (.ref f_is_day)
  f_is_stray : Addr
  d_is_stray : FuncData
  b_is_stray : Binds K d_is_stray ["value"] []
  F_is_stray : Fun K "is_stray" "is_stray" s_is_stray f_is_stray d_is_stray
  g_is_stray : mg "is_stray" = some (.ref f_is_stray)
  f_is_name : Addr
  d_is_name : FuncData
  b_is_name : Binds K d_is_name ["value"] []
  F_is_name : Fun K "is_name" "is_name" s_is_name f_is_name d_is_name
  g_is_name : mg "is_name" = some (.ref f_is_name)
  f_are_strays : Addr
  d_are_strays : FuncData
  b_are_strays : Binds K d_are_strays ["value"] []
  F_are_strays : Fun K "are_strays" "are_strays" s_are_strays f_are_strays d_are_strays
  g_are_strays : mg "are_strays" = some (.ref f_are_strays)
  f_Story___init__ : Addr
  d_Story___init__ : FuncData
  b_Story___init__ : Binds K d_Story___init__ ["self", "days", "strays"] []
  F_Story___init__ : Fun K "__init__" "Story.__init__" s_Story___init__ f_Story___init__ d_Story___init__
  mk_Story : Mk K C_Story f_Story___init__
  f__law_made : Addr
  d__law_made : FuncData
  b__law_made : Binds K d__law_made ["_law_one"] []
  F__law_made : Fun K "_law_made" "_law_made" s__law_made f__law_made d__law_made
  g__law_made : mg "_law_made" = some (.ref f__law_made)
  f_Story_days : Addr
  d_Story_days : FuncData
  b_Story_days : Binds K d_Story_days ["self"] []
  F_Story_days : Fun K "days" "Story.days" s_Story_days f_Story_days d_Story_days
  pa_Story_days : Addr
  p_Story_days : PropOf K C_Story "days" pa_Story_days f_Story_days
  f_Story_strays : Addr
  d_Story_strays : FuncData
  b_Story_strays : Binds K d_Story_strays ["self"] []
  F_Story_strays : Fun K "strays" "Story.strays" s_Story_strays f_Story_strays d_Story_strays
  pa_Story_strays : Addr
  p_Story_strays : PropOf K C_Story "strays" pa_Story_strays f_Story_strays
  f__law_new_right : Addr
  d__law_new_right : FuncData
  b__law_new_right : Binds K d__law_new_right ["_law_one"] []
  F__law_new_right : Fun K "_law_new_right" "_law_new_right" s__law_new_right f__law_new_right d__law_new_right
  g__law_new_right : mg "_law_new_right" = some (.ref f__law_new_right)
  f_day_text : Addr
  d_day_text : FuncData
  b_day_text : Binds K d_day_text ["day"] []
  F_day_text : Fun K "day_text" "day_text" s_day_text f_day_text d_day_text
  g_day_text : mg "day_text" = some (.ref f_day_text)
  f_Story___str__ : Addr
  d_Story___str__ : FuncData
  b_Story___str__ : Binds K d_Story___str__ ["self"] []
  F_Story___str__ : Fun K "__str__" "Story.__str__" s_Story___str__ f_Story___str__ d_Story___str__
  str_Story : PySem.W.findIn K (.ref C_Story) "__str__" = some (some (.ref f_Story___str__))
  fn_Story___str__ : PySem.W.isFn K (.ref f_Story___str__) = true
  f_Story___eq__ : Addr
  d_Story___eq__ : FuncData
  b_Story___eq__ : Binds K d_Story___eq__ ["self", "other"] []
  F_Story___eq__ : Fun K "__eq__" "Story.__eq__" s_Story___eq__ f_Story___eq__ d_Story___eq__
  eq_Story : ∀ X : Cx, X.K = K → EqOwn X C_Story f_Story___eq__
  f_Story_concerns : Addr
  d_Story_concerns : FuncData
  b_Story_concerns : Binds K d_Story_concerns ["self", "many", "seals"] []
  F_Story_concerns : Fun K "concerns" "Story.concerns" s_Story_concerns f_Story_concerns d_Story_concerns
  m_Story_concerns : Meth K C_Story "concerns" f_Story_concerns
  f_Story___repr__ : Addr
  d_Story___repr__ : FuncData
  b_Story___repr__ : Binds K d_Story___repr__ ["self"] []
  F_Story___repr__ : Fun K "__repr__" "Story.__repr__" s_Story___repr__ f_Story___repr__ d_Story___repr__
  repr_Story : PySem.W.findIn K (.ref C_Story) "__repr__" = some (some (.ref f_Story___repr__))
  fn_Story___repr__ : PySem.W.isFn K (.ref f_Story___repr__) = true
  f_InvalidStory___init__ : Addr
  d_InvalidStory___init__ : FuncData
  b_InvalidStory___init__ : Binds K d_InvalidStory___init__ ["self", "value"] []
  u_InvalidStory___init__ : Addr
  w_InvalidStory___init__ : Addr
  E_InvalidStory___init__ : ∃ oc od kV doc pm an ct osl, d_InvalidStory___init__ = PySem.W.ksFn "__init__" "InvalidStory.__init__" (defArgs s_InvalidStory___init__) (defBody s_InvalidStory___init__) (defScope s_InvalidStory___init__) .none kV doc pm an (.ref u_InvalidStory___init__) ct w_InvalidStory___init__ ∧ K.lookup f_InvalidStory___init__ = some ⟨oc, od, .func d_InvalidStory___init__, osl⟩ ∧ PySem.W.codeIn K (.ref u_InvalidStory___init__) "InvalidStory.__init__" = true
  s_InvalidStory : SupC P K C_InvalidStory f_InvalidStory___init__ u_InvalidStory___init__ w_InvalidStory___init__
  xi_InvalidStory : PySem.W.findIn K (.ref C_InvalidStory) "__init__" = some (some (.ref f_InvalidStory___init__))
  xf_InvalidStory : PySem.W.typeIn K (.ref f_InvalidStory___init__) = some (.type "function")
  xn_InvalidStory_value : PySem.W.findIn K (.ref C_InvalidStory) "value" = some none
  xn_InvalidStory_told_parts : PySem.W.findIn K (.ref C_InvalidStory) "told_parts" = some none
  f_Story_require_alike : Addr
  d_Story_require_alike : FuncData
  b_Story_require_alike : Binds K d_Story_require_alike ["self", "other"] []
  F_Story_require_alike : Fun K "require_alike" "Story.require_alike" s_Story_require_alike f_Story_require_alike d_Story_require_alike
  m_Story_require_alike : Meth K C_Story "require_alike" f_Story_require_alike
  f_Story_is_as_bad_as : Addr
  d_Story_is_as_bad_as : FuncData
  b_Story_is_as_bad_as : Binds K d_Story_is_as_bad_as ["self", "other"] []
  F_Story_is_as_bad_as : Fun K "is_as_bad_as" "Story.is_as_bad_as" s_Story_is_as_bad_as f_Story_is_as_bad_as d_Story_is_as_bad_as
  m_Story_is_as_bad_as : Meth K C_Story "is_as_bad_as" f_Story_is_as_bad_as
  f__law_bad : Addr
  d__law_bad : FuncData
  b__law_bad : Binds K d__law_bad ["_law_one", "_law_two"] []
  F__law_bad : Fun K "_law_bad" "_law_bad" s__law_bad f__law_bad d__law_bad
  g__law_bad : mg "_law_bad" = some (.ref f__law_bad)
  f_Story_melted : Addr
  d_Story_melted : FuncData
  b_Story_melted : Binds K d_Story_melted ["self", "other"] []
  F_Story_melted : Fun K "melted" "Story.melted" s_Story_melted f_Story_melted d_Story_melted
  m_Story_melted : Meth K C_Story "melted" f_Story_melted
  f_Story___len__ : Addr
  d_Story___len__ : FuncData
  b_Story___len__ : Binds K d_Story___len__ ["self"] []
  F_Story___len__ : Fun K "__len__" "Story.__len__" s_Story___len__ f_Story___len__ d_Story___len__
  len_Story : PySem.W.findIn K (.ref C_Story) "__len__" = some (some (.ref f_Story___len__))
  fn_Story___len__ : PySem.W.isFn K (.ref f_Story___len__) = true
  f__law_pairs_right : Addr
  d__law_pairs_right : FuncData
  b__law_pairs_right : Binds K d__law_pairs_right ["_law_plain"] []
  F__law_pairs_right : Fun K "_law_pairs_right" "_law_pairs_right" s__law_pairs_right f__law_pairs_right d__law_pairs_right
  g__law_pairs_right : mg "_law_pairs_right" = some (.ref f__law_pairs_right)
  f__law_free : Addr
  d__law_free : FuncData
  b__law_free : Binds K d__law_free ["_law_marks"] []
  F__law_free : Fun K "_law_free" "_law_free" s__law_free f__law_free d__law_free
  g__law_free : mg "_law_free" = some (.ref f__law_free)
  f__law_refused : Addr
  d__law_refused : FuncData
  b__law_refused : Binds K d__law_refused ["_law_story", "_law_way", "_law_value"] []
  F__law_refused : Fun K "_law_refused" "_law_refused" s__law_refused f__law_refused d__law_refused
  g__law_refused : mg "_law_refused" = some (.ref f__law_refused)
  f__law_refusals_right : Addr
  d__law_refusals_right : FuncData
  b__law_refusals_right : Binds K d__law_refusals_right ["_law_rng_here", "_law_one"] []
  F__law_refusals_right : Fun K "_law_refusals_right" "_law_refusals_right" s__law_refusals_right f__law_refusals_right d__law_refusals_right
  g__law_refusals_right : mg "_law_refusals_right" = some (.ref f__law_refusals_right)
  f_law : Addr
  d_law : FuncData
  b_law : Binds K d_law ["_law_script"] []
  F_law : Fun K "law" "law" s_law f_law d_law
  g_law : mg "law" = some (.ref f_law)
abbrev TF (α : Type) := ∀ {P : Program} {w : World} {K : PySem.W.Frag} {mg : Str → Option Value} {base : Heap}, Txt P w K mg base → α
abbrev Body (N : List Str) (qual : Str) (st : Stmt) (k : Nat) (ds : List D) (f : TF Addr) := { m : M (Fl Unit Empty) // ∀ {P : Program} {w : World} {K : PySem.W.Frag} {mg : Str → Option Value} {base : Heap} (T : Txt P w K mg base) (cdv : Value) (A : Around) (outer : List Env) (s : Shared) (H : Hp) (E : XK), PM.Room k (A.deeper (envOfC qual (defScope st) s.heap.objs.size (f T) cdv)) →
  QS T.B (cxOf (L2.CX P w) P w K mg base N qual (defScope st) (f T) cdv A outer s H E) (defBody st) (ent N.length ds) (fun (_ : Unit) => List.replicate N.length Slot.no) (fun (_ : Empty) => ([] : List Slot)) m }
def retE (st : Stmt) : Expr := match defBody st with
  | [.Return (some e) _] => e
  | _ => .Name "" ⟨0, 0, 0, 0⟩
abbrev BodyN {α : Type} (kd : Kd α V) (N : List Str) (qual : Str) (st : Stmt) (k : Nat) (ds : List D) (f : TF Addr) := { m : M α // ∀ {P : Program} {w : World} {K : PySem.W.Frag} {mg : Str → Option Value} {base : Heap} (T : Txt P w K mg base) (cdv : Value) (A : Around) (outer : List Env) (s : Shared) (H : Hp) (E : XK), PM.Room k (A.deeper (envOfC qual (defScope st) s.heap.objs.size (f T) cdv)) →
  Qj T.B (cxOf (L2.CX P w) P w K mg base N qual (defScope st) (f T) cdv A outer s H E) (wE (cxOf (L2.CX P w) P w K mg base N qual (defScope st) (f T) cdv A outer s H E) (retE st)) kd (ent N.length ds) m }
abbrev BodyI (α : Type) (toL : α → List D) (c : String) (N : List Str) (qual : Str) (st : Stmt) (k : Nat) (ds : List D) (f : TF Addr) := { m : M (Fl α Empty) // ∀ {P : Program} {w : World} {K : PySem.W.Frag} {mg : Str → Option Value} {base : Heap} (T : Txt P w K mg base) (cdv : Value) (A : Around) (outer : List Env) (s : Shared) (H : Hp) (E : XK), PM.Room k (A.deeper (envOfC qual (defScope st) s.heap.objs.size (f T) cdv)) → ∀ p dx,
  QS T.B (cxOf (L2.CX P w) P w K mg base N qual (defScope st) (f T) cdv A outer s H E) (defBody st) (.o c p dx [] :: (ent N.length (.non :: ds)).tail) (fun a => .o c p dx (toL a) :: List.replicate (N.length - 1) Slot.no) (fun (_ : Empty) => ([] : List Slot)) m }
def supE (st : Stmt) : Expr := match defBody st with
  | .Expr (.Call _ [e] _ _) _ :: _ => e
  | _ => .Name "" ⟨0, 0, 0, 0⟩
abbrev BodyX (c : String) (f1 : Str) (N : List Str) (qual : Str) (st : Stmt) (k : Nat) (ds : List D) (f u v C : TF Addr) := { m : M D × (List D → M (List D)) // ∀ {P : Program} {w : World} {K : PySem.W.Frag} {mg : Str → Option Value} {base : Heap} (T : Txt P w K mg base) (A : Around) (outer : List Env) (s : Shared) (H : Hp) (E : XK), PM.Room k (A.deeper (PySem.W.ksEnv qual (defScope st) s.heap.objs.size (f T) (.ref (u T)) (v T))) →
  QE T.B (cxS P w K mg base N qual (defScope st) (f T) (u T) (v T) A outer s H E) (supE st) (entX N.length ds) m.1 ∧ QI0 T.B (cxS P w K mg base N qual (defScope st) (f T) (u T) (v T) A outer s H E) (C T) [f1] ((defBody st).drop 2) (entX N.length ds) (xls c) m.2 }
theorem hu1 {k : Nat} {A : Around} (r : PM.Room k A) : A.units + 1 < cLine := by have := r.units; omega
def rpNo : String → Option (List D → M D) := fun _ => none
theorem rpNo_ok {B : Bx} {X : Cx} {A : Around} : ReprC B X A rpNo := fun c g h => nomatch h
noncomputable def a__law_rng (v0 : D) (v1 : D) : Body ["_law_script", "_law_k", "_law_cell"] "_law_rng" s__law_rng 0 [v0, v1] (fun T => T.f__law_rng) :=
  ⟨_, fun T cdv A outer s H E hr => (qs_set 2 (qe_ifExp (qt_cmp om_lt (qh_e (qe_var 1)) (qh_e (qe_callB (cm_len T.hK) T.z_len PyProof.Rows.Boot.«len» (qb_cons (qh_e (qe_var 0)) qb_nil)))) (qe_callB cm_abs T.z_abs PyProof.Rows.Boot.«abs» (qb_cons (qh_e (qe_ix T.hK (hu1 hr) (qh_e (qe_var 0)) (qe_var 1))) qb_nil)) qe_int) (fun d1 => (qs_ret (qe_cL (ql_lst (qa_cons (qe_callB (cm_max2 rfl) T.z_max PyProof.Rows.Boot.«max» (qb_cons (qh_e qe_int) (qb_cons (qh_e (qe_op om_sub (qh_e (qe_var 2)) (qh_e (qe_op om_pow (qh_e qe_int) (qh_e qe_int))))) qb_nil))) (qa_cons (qe_op (om_add T.hK) (qh_e (qe_op om_mod (qh_e (qe_callTy cm_int T.z_int PyProof.Rows.Boot.«int» (qb_cons (qh_e (qe_op om_pow (qh_e (qe_op (om_add T.hK) (qh_e (qe_op (om_add T.hK) (qh_e (qe_op om_mod (qh_e (qe_callTy cm_int T.z_int PyProof.Rows.Boot.«int» (qb_cons (qh_e (qe_var 2)) qb_nil))) (qh_e qe_int))) (qh_e (qe_op om_mul (qh_e qe_int) (qh_e (qe_var 1)))))) (qh_e qe_int))) (qh_e qe_int))) qb_nil))) (qh_e qe_int))) (qh_e qe_int)) qa_nil)))))) sc__law_rng.nd)⟩
noncomputable def m__law_rng (v0 : D) (v1 : D) : M D := callF (a__law_rng v0 v1).1
theorem ok__law_rng {P : Program} {w : World} {K : PySem.W.Frag} {mg : Str → Option Value} {base : Heap} (T : Txt P w K mg base) : PM.FnOk P w K mg base (L2.CX P w) 1 T.f__law_rng T.d__law_rng ["_law_script", "_law_k"] (spM T.B (fn2 m__law_rng)) :=
  fn_ok T.F__law_rng sc__law_rng ar2 rfl fun cdv A outer s H E hr ds hl => match ds, hl with
    | [v0, v1], _ => ⟨_, rfl, (a__law_rng v0 v1).2 T cdv A outer s H E hr⟩

noncomputable def a__law_draw (v0 : D) (v1 : D) : Body ["_law_rng_here", "_law_many", "_law_digit"] "_law_draw" s__law_draw 0 [v0, v1] (fun T => T.f__law_draw) :=
  ⟨_, fun T cdv A outer s H E hr => (qs_if (γ' := fun (a2 : Unit) => [.d v0, .d v1, .no]) (qt_cmp om_gt (qh_e (qe_ix T.hK (hu1 hr) (qh_e (qe_var 0)) qe_int)) (qh_e qe_int)) (qs_putCN 2 T.hK (qe_callB cm_divmod T.z_divmod PyProof.Rows.Boot.«divmod» (qb_cons (qh_e (qe_ix T.hK (hu1 hr) (qh_e (qe_var 0)) qe_int)) (qb_cons (qh_e (qe_var 1)) qb_nil))) (qe_var 0) qe_int (fun d3 => (qs_ret (qe_var 2))) sc__law_draw.nd) (qs_nx () (show SubG [.d v0, .d v1, .no] _ from (.same (.same (.no .nil))))) (fun a2 => (qs_putC (qe_op om_mod (qh_e (qe_callTy cm_int T.z_int PyProof.Rows.Boot.«int» (qb_cons (qh_e (qe_op (om_add T.hK) (qh_e (qe_op om_mul (qh_e (qe_ix T.hK (hu1 hr) (qh_e (qe_var 0)) qe_int)) (qh_e qe_int))) (qh_e qe_int))) qb_nil))) (qh_e qe_int)) (qe_var 0) qe_int (qs_ret (qe_op om_mod (qh_e (qe_callTy cm_int T.z_int PyProof.Rows.Boot.«int» (qb_cons (qh_e (qe_op om_div (qh_e (qe_op om_mod (qh_e (qe_callTy cm_int T.z_int PyProof.Rows.Boot.«int» (qb_cons (qh_e (qe_op om_mul (qh_e (qe_ix T.hK (hu1 hr) (qh_e (qe_var 0)) qe_int)) (qh_e (qe_ix T.hK (hu1 hr) (qh_e (qe_var 0)) qe_int)))) qb_nil))) (qh_e qe_int))) (qh_e qe_int))) qb_nil))) (qh_e (qe_var 1)))))))⟩
noncomputable def m__law_draw (v0 : D) (v1 : D) : M D := callF (a__law_draw v0 v1).1
theorem ok__law_draw {P : Program} {w : World} {K : PySem.W.Frag} {mg : Str → Option Value} {base : Heap} (T : Txt P w K mg base) : PM.FnOk P w K mg base (L2.CX P w) 1 T.f__law_draw T.d__law_draw ["_law_rng_here", "_law_many"] (spM T.B (fn2 m__law_draw)) :=
  fn_ok T.F__law_draw sc__law_draw ar2 rfl fun cdv A outer s H E hr ds hl => match ds, hl with
    | [v0, v1], _ => ⟨_, rfl, (a__law_draw v0 v1).2 T cdv A outer s H E hr⟩

noncomputable def a__law_name (v0 : D) (v1 : D) : Body ["_law_rng_here", "_law_used", "_law_letters", "_law_length", "_law_word", "_law_fresh", "_law_k", "_law_one"] "_law_name" s__law_name 1 [v0, v1] (fun T => T.f__law_name) :=
  ⟨_, fun T cdv A outer s H E hr => (qs_set 2 qe_str (fun d1 => (qs_set 3 (qe_ix T.hK (hu1 hr) (qh_e (qe_lst (qa_cons qe_int (qa_cons qe_int (qa_cons qe_int (qa_cons (qe_op (om_add T.hK) (qh_e qe_int) (qh_e (q_call (ok__law_draw T) (hr.mono (by decide)) T.g__law_draw T.F__law_draw.kp T.b__law_draw (qa_cons (qe_var 0) (qa_cons qe_int qa_nil))))) qa_nil)))))) (q_call (ok__law_draw T) (hr.mono (by decide)) T.g__law_draw T.F__law_draw.kp T.b__law_draw (qa_cons (qe_var 0) (qa_cons qe_int qa_nil)))) (fun d2 => (qs_set 4 (qe_join T.hK (qh_e (qe_L (ql_lc 6 T.hK (compOk1 sc__law_name.nd (blkOk_by (N := N__law_name) (sc := defScope s__law_name) (own := [("_law_k", 6)]) (by decide +kernel))) (qi_f (qf_range1 T.z_range (qe_var 3))) (fun _ _ _ _ _ e4 => qts_nil) (fun _ _ _ _ _ e4 => (qe_ix T.hK (hu1 hr) (qh_e (qe_var 2)) (q_call (ok__law_draw T) (hr.mono (by decide)) T.g__law_draw T.F__law_draw.kp T.b__law_draw (qa_cons (qe_var 0) (qa_cons qe_int qa_nil))))))))) (fun d3 => (qs_if (γ' := fun (a7 : D) => [.d v0, .d v1, .d d1, .d d2, .d a7, .no, .no, .no]) (qt_cmp (om_eq T.hK hr.units) (qh_e (q_call (ok__law_draw T) (hr.mono (by decide)) T.g__law_draw T.F__law_draw.kp T.b__law_draw (qa_cons (qe_var 0) (qa_cons qe_int qa_nil)))) (qh_e qe_int)) (qs_set 4 (qe_ix T.hK (hu1 hr) (qh_e (qe_lst (qa_cons qe_str (qa_cons qe_str (qa_cons qe_str (qa_cons qe_str (qa_cons qe_str (qa_cons qe_str (qa_cons qe_str (qa_cons qe_str qa_nil)))))))))) (q_call (ok__law_draw T) (hr.mono (by decide)) T.g__law_draw T.F__law_draw.kp T.b__law_draw (qa_cons (qe_var 0) (qa_cons qe_int qa_nil)))) (fun d8 => (qs_nx d8 (show SubG [.d v0, .d v1, .d d1, .d d2, .d d8, .no, .no, .no] _ from (.same (.same (.same (.same (.same (.no (.no (.no .nil))))))))))) sc__law_name.nd) (qs_nx d3 (show SubG [.d v0, .d v1, .d d1, .d d2, .d d3, .no, .no, .no] _ from (.same (.same (.same (.same (.same (.no (.no (.no .nil)))))))))) (fun a7 => (qs_set 5 (qe_op (om_add T.hK) (qh_e (qe_lst (qa_cons (qe_var 4) qa_nil))) (qh_e (qe_L (ql_lc 6 T.hK (compOk1 sc__law_name.nd (blkOk_by (N := N__law_name) (sc := defScope s__law_name) (own := [("_law_k", 6)]) (by decide +kernel))) (qi_f (qf_range1 T.z_range qe_int)) (fun _ _ _ _ _ e10 => qts_nil) (fun _ _ _ _ _ e10 => (qe_op (om_add T.hK) (qh_e (qe_op (om_add T.hK) (qh_e (qe_slice T.hK (qh_e (qe_var 4)) qo_none (qo_some qe_int))) (qh_e (qe_ix T.hK (hu1 hr) (qh_e (qe_var 2)) (qe_op om_div (qh_e (qe_var 6)) (qh_e qe_int)))))) (qh_e (qe_ix T.hK (hu1 hr) (qh_e (qe_var 2)) (qe_op om_mod (qh_e (qe_callTy cm_int T.z_int PyProof.Rows.Boot.«int» (qb_cons (qh_e (qe_var 6)) qb_nil))) (qh_e qe_int)))))))))) (fun d9 => (qs_ret (qe_ix T.hK (hu1 hr) (qh_e (qe_L (ql_lc 7 T.hK (compOk1 sc__law_name.nd (blkOk_by (N := N__law_name) (sc := defScope s__law_name) (own := [("_law_one", 7)]) (by decide +kernel))) (qi_f (qf_e T.hK (qe_var 5))) (fun _ _ _ _ _ e11 => (qts_one (qt_cmp (om_notIn T.hK (hu1 hr)) (qh_e (qe_var 7)) (qh_e (qe_var 1))))) (fun _ _ _ _ _ e11 => (qe_var 7))))) qe_int))) sc__law_name.nd)))) sc__law_name.nd)) sc__law_name.nd)) sc__law_name.nd)⟩
noncomputable def m__law_name (v0 : D) (v1 : D) : M D := callF (a__law_name v0 v1).1
theorem ok__law_name {P : Program} {w : World} {K : PySem.W.Frag} {mg : Str → Option Value} {base : Heap} (T : Txt P w K mg base) : PM.FnOk P w K mg base (L2.CX P w) 2 T.f__law_name T.d__law_name ["_law_rng_here", "_law_used"] (spM T.B (fn2 m__law_name)) :=
  fn_ok T.F__law_name sc__law_name ar2 rfl fun cdv A outer s H E hr ds hl => match ds, hl with
    | [v0, v1], _ => ⟨_, rfl, (a__law_name v0 v1).2 T cdv A outer s H E hr⟩

noncomputable def a__law_names (v0 : D) (v1 : D) (v2 : D) : Body ["_law_rng_here", "_law_many", "_law_used", "_law_found", "_law_k"] "_law_names" s__law_names 2 [v0, v1, v2] (fun T => T.f__law_names) :=
  ⟨_, fun T cdv A outer s H E hr => (qs_setL 3 (ql_lst qa_nil) (fun l1 => (qs_for1 (γ' := fun (a8 : List D) => [.d v0, .d v1, .d v2, .l a8, .no]) 4 l1 T.hK (passes_of rfl) sc__law_names.nd (qf_range1 T.z_range (qe_var 1)) (show SubG [.d v0, .d v1, .d v2, .l l1, .no] _ from (.same (.same (.same (.same (.no .nil)))))) (fun t9 a8 => (qs_append 3 (q_call (ok__law_name T) (hr.mono (by decide)) T.g__law_name T.F__law_name.kp T.b__law_name (qa_cons (qe_var 0) (qa_cons (qe_op (om_add T.hK) (qh_e (qe_var 2)) (qh_l 3)) qa_nil))) fun d10 => (qs_nx (a8 ++ [d10]) (show SubG [.d v0, .d v1, .d v2, .l (a8 ++ [d10]), .d t9] _ from (.same (.same (.same (.same (.no .nil))))))))) (fun a8 => (qs_freezeL (ds := a8) 3 (qs_ret (qe_var 3)))))) sc__law_names.nd)⟩
noncomputable def m__law_names (v0 : D) (v1 : D) (v2 : D) : M D := callF (a__law_names v0 v1 v2).1
theorem ok__law_names {P : Program} {w : World} {K : PySem.W.Frag} {mg : Str → Option Value} {base : Heap} (T : Txt P w K mg base) : PM.FnOk P w K mg base (L2.CX P w) 3 T.f__law_names T.d__law_names ["_law_rng_here", "_law_many", "_law_used"] (spM T.B (fn3 m__law_names)) :=
  fn_ok T.F__law_names sc__law_names ar3 rfl fun cdv A outer s H E hr ds hl => match ds, hl with
    | [v0, v1, v2], _ => ⟨_, rfl, (a__law_names v0 v1 v2).2 T cdv A outer s H E hr⟩

noncomputable def a__law_choice (v0 : D) (v1 : D) : Body ["_law_rng_here", "_law_options"] "_law_choice" s__law_choice 1 [v0, v1] (fun T => T.f__law_choice) :=
  ⟨_, fun T cdv A outer s H E hr => (qs_ret (qe_ix T.hK (hu1 hr) (qh_e (qe_var 1)) (q_call (ok__law_draw T) (hr.mono (by decide)) T.g__law_draw T.F__law_draw.kp T.b__law_draw (qa_cons (qe_var 0) (qa_cons (qe_callB (cm_len T.hK) T.z_len PyProof.Rows.Boot.«len» (qb_cons (qh_e (qe_var 1)) qb_nil)) qa_nil)))))⟩
noncomputable def m__law_choice (v0 : D) (v1 : D) : M D := callF (a__law_choice v0 v1).1
theorem ok__law_choice {P : Program} {w : World} {K : PySem.W.Frag} {mg : Str → Option Value} {base : Heap} (T : Txt P w K mg base) : PM.FnOk P w K mg base (L2.CX P w) 2 T.f__law_choice T.d__law_choice ["_law_rng_here", "_law_options"] (spM T.B (fn2 m__law_choice)) :=
  fn_ok T.F__law_choice sc__law_choice ar2 rfl fun cdv A outer s H E hr ds hl => match ds, hl with
    | [v0, v1], _ => ⟨_, rfl, (a__law_choice v0 v1).2 T cdv A outer s H E hr⟩

noncomputable def a__law_plain_story (v0 : D) (v1 : D) (v2 : D) : Body ["_law_rng_here", "_law_items", "_law_marks", "_law_far", "_law_days", "_law_k", "_law_mark"] "_law_plain_story" s__law_plain_story 2 [v0, v1, v2] (fun T => T.f__law_plain_story) :=
  ⟨_, fun T cdv A outer s H E hr => (qs_set 3 (q_call (ok__law_choice T) (hr.mono (by decide)) T.g__law_choice T.F__law_choice.kp T.b__law_choice (qa_cons (qe_var 0) (qa_cons (qe_lst (qa_cons qe_int (qa_cons qe_int (qa_cons qe_int qa_nil)))) qa_nil))) (fun d1 => (qs_setLc 4 5 T.hK (compOk1 sc__law_plain_story.nd (blkOk_by (N := N__law_plain_story) (sc := defScope s__law_plain_story) (own := [("_law_k", 5)]) (by decide +kernel))) (qi_f (qf_range1 T.z_range (qe_var 1))) (fun _ _ _ _ _ e2 => qts_nil) (fun _ _ _ _ _ e2 => (q_call (ok__law_choice T) (hr.mono (by decide)) T.g__law_choice T.F__law_choice.kp T.b__law_choice (qa_cons (qe_var 0) (qa_cons (qe_lst (qa_cons qe_int (qa_cons (qe_var 3) (qa_cons (q_call (ok__law_draw T) (hr.mono (by decide)) T.g__law_draw T.F__law_draw.kp T.b__law_draw (qa_cons (qe_var 0) (qa_cons (qe_op (om_add T.hK) (qh_e (qe_var 3)) (qh_e qe_int)) qa_nil))) qa_nil)))) qa_nil)))) (fun l3 => (qs_ret (qe_tup (qa_cons (qe_var 4) (qa_cons (qe_K (qk_callTy (ck_dict T.hK rfl) T.z_dict PyProof.Rows.Boot.«dict» (qb_cons (qh_e (qe_L (ql_lc 6 T.hK (compOk1 sc__law_plain_story.nd (blkOk_by (N := N__law_plain_story) (sc := defScope s__law_plain_story) (own := [("_law_mark", 6)]) (by decide +kernel))) (qi_f (qf_e T.hK (qe_var 2))) (fun _ _ _ _ _ e4 => qts_nil) (fun _ _ _ _ _ e4 => (qe_tup (qa_cons (qe_var 6) (qa_cons (q_call (ok__law_choice T) (hr.mono (by decide)) T.g__law_choice T.F__law_choice.kp T.b__law_choice (qa_cons (qe_var 0) (qa_cons (qe_lst (qa_cons qe_int (qa_cons qe_int (qa_cons (q_call (ok__law_draw T) (hr.mono (by decide)) T.g__law_draw T.F__law_draw.kp T.b__law_draw (qa_cons (qe_var 0) (qa_cons (qe_op (om_add T.hK) (qh_e (qe_var 3)) (qh_e qe_int)) qa_nil))) qa_nil)))) qa_nil))) qa_nil))))))) qb_nil))) qa_nil))))) (sw_true rfl rfl rfl (by decide +kernel)))) sc__law_plain_story.nd)⟩
noncomputable def m__law_plain_story (v0 : D) (v1 : D) (v2 : D) : M D := callF (a__law_plain_story v0 v1 v2).1
theorem ok__law_plain_story {P : Program} {w : World} {K : PySem.W.Frag} {mg : Str → Option Value} {base : Heap} (T : Txt P w K mg base) : PM.FnOk P w K mg base (L2.CX P w) 3 T.f__law_plain_story T.d__law_plain_story ["_law_rng_here", "_law_items", "_law_marks"] (spM T.B (fn3 m__law_plain_story)) :=
  fn_ok T.F__law_plain_story sc__law_plain_story ar3 rfl fun cdv A outer s H E hr ds hl => match ds, hl with
    | [v0, v1, v2], _ => ⟨_, rfl, (a__law_plain_story v0 v1 v2).2 T cdv A outer s H E hr⟩

noncomputable def a__law_near (v0 : D) (v1 : D) : Body ["_law_rng_here", "_law_one", "_law_days", "_law_strays", "_law_k", "_law_mark"] "_law_near" s__law_near 2 [v0, v1] (fun T => T.f__law_near) :=
  ⟨_, fun T cdv A outer s H E hr => (qs_parLK 2 3 (ql_callTy (cl_list T.hK rfl) T.z_list PyProof.Rows.Boot.«list» (qb_cons (qh_e (qe_ix T.hK (hu1 hr) (qh_e (qe_var 1)) qe_int)) qb_nil)) (qk_callTy (ck_dict T.hK rfl) T.z_dict PyProof.Rows.Boot.«dict» (qb_cons (qh_e (qe_ix T.hK (hu1 hr) (qh_e (qe_var 1)) qe_int)) qb_nil)) (fun l1 l2 => (qs_if (γ' := fun (a10 : (List D) × (List (D × D))) => [.d v0, .d v1, .l a10.1, .k a10.2, .no, .no]) (QW.qt (qw_and (qt_cmp (om_ne T.hK hr.units) (qh_l 2) (qh_e (qe_lst qa_nil))) (qw_and1 (qt_cmp (om_eq T.hK hr.units) (qh_e (q_call (ok__law_draw T) (hr.mono (by decide)) T.g__law_draw T.F__law_draw.kp T.b__law_draw (qa_cons (qe_var 0) (qa_cons qe_int qa_nil)))) (qh_e qe_int))))) (qs_set 4 (q_call (ok__law_draw T) (hr.mono (by decide)) T.g__law_draw T.F__law_draw.kp T.b__law_draw (qa_cons (qe_var 0) (qa_cons (qe_callB (cm_len T.hK) T.z_len PyProof.Rows.Boot.«len» (qb_cons (qh_l 2) qb_nil)) qa_nil))) (fun d11 => (qs_putL 2 (qe_callB (cm_max2 rfl) T.z_max PyProof.Rows.Boot.«max» (qb_cons (qh_e qe_int) (qb_cons (qh_e (qe_callB (cm_min2 rfl) T.z_min PyProof.Rows.Boot.«min» (qb_cons (qh_e qe_int) (qb_cons (qh_e (qe_op om_sub (qh_e (qe_op (om_add T.hK) (qh_e (qe_ix T.hK (hu1 hr) (qh_l 2) (qe_var 4))) (qh_e (q_call (ok__law_draw T) (hr.mono (by decide)) T.g__law_draw T.F__law_draw.kp T.b__law_draw (qa_cons (qe_var 0) (qa_cons qe_int qa_nil)))))) (qh_e qe_int))) qb_nil)))) qb_nil))) (qe_var 4) (fun l12 => (qs_nx (l12, l2) (show SubG [.d v0, .d v1, .l l12, .k l2, .d d11, .no] _ from (.same (.same (.same (.same (.no (.no .nil))))))))))) sc__law_near.nd) (qs_ifE (qt_cmp (om_ne T.hK hr.units) (qh_k 3) (qh_e (qe_K qk_new))) (qs_set 5 (q_call (ok__law_choice T) (hr.mono (by decide)) T.g__law_choice T.F__law_choice.kp T.b__law_choice (qa_cons (qe_var 0) (qa_cons (qe_L (ql_callB (cl_sorted T.hK rfl) T.z_sorted PyProof.Rows.Boot.«sorted» (qb_cons (qh_k 3) qb_nil))) qa_nil))) (fun d15 => (qs_putK 3 (hu1 hr) (qe_callB (cm_max2 rfl) T.z_max PyProof.Rows.Boot.«max» (qb_cons (qh_e qe_int) (qb_cons (qh_e (qe_callB (cm_min2 rfl) T.z_min PyProof.Rows.Boot.«min» (qb_cons (qh_e qe_int) (qb_cons (qh_e (qe_op om_sub (qh_e (qe_op (om_add T.hK) (qh_e (qe_ix T.hK (hu1 hr) (qh_k 3) (qe_var 5))) (qh_e (q_call (ok__law_draw T) (hr.mono (by decide)) T.g__law_draw T.F__law_draw.kp T.b__law_draw (qa_cons (qe_var 0) (qa_cons qe_int qa_nil)))))) (qh_e qe_int))) qb_nil)))) qb_nil))) (qe_var 5) (fun l16 => (qs_nx (l1, l16) (show SubG [.d v0, .d v1, .l l1, .k l16, .no, .d d15] _ from (.same (.same (.same (.same (.no (.no .nil))))))))))) sc__law_near.nd) (qs_nx (l1, l2) (show SubG [.d v0, .d v1, .l l1, .k l2, .no, .no] _ from (.same (.same (.same (.same (.no (.no .nil))))))))) (fun a10 => (qs_freezeK (es := a10.2) 3 (qs_freezeL (ds := a10.1) 2 (qs_ret (qe_tup (qa_cons (qe_var 2) (qa_cons (qe_var 3) qa_nil))))))))) sc__law_near.nd)⟩
noncomputable def m__law_near (v0 : D) (v1 : D) : M D := callF (a__law_near v0 v1).1
theorem ok__law_near {P : Program} {w : World} {K : PySem.W.Frag} {mg : Str → Option Value} {base : Heap} (T : Txt P w K mg base) : PM.FnOk P w K mg base (L2.CX P w) 3 T.f__law_near T.d__law_near ["_law_rng_here", "_law_one"] (spM T.B (fn2 m__law_near)) :=
  fn_ok T.F__law_near sc__law_near ar2 rfl fun cdv A outer s H E hr ds hl => match ds, hl with
    | [v0, v1], _ => ⟨_, rfl, (a__law_near v0 v1).2 T cdv A outer s H E hr⟩

noncomputable def a_is_integer (v0 : D) : Body ["value"] "is_integer" s_is_integer 0 [v0] (fun T => T.f_is_integer) :=
  ⟨_, fun T cdv A outer s H E hr => (qs_ret (qe_and (qe_isi "int" T.ok T.hK T.z_isinstance T.z_int PyProof.Rows.Boot.«int» (qh_e (qe_var 0))) (qe_one (qe_not (qe_isi "bool" T.ok T.hK T.z_isinstance T.z_bool PyProof.Rows.Boot.«bool» (qh_e (qe_var 0)))))))⟩
noncomputable def m_is_integer (v0 : D) : M D := callF (a_is_integer v0).1
theorem ok_is_integer {P : Program} {w : World} {K : PySem.W.Frag} {mg : Str → Option Value} {base : Heap} (T : Txt P w K mg base) : PM.FnOk P w K mg base (L2.CX P w) 1 T.f_is_integer T.d_is_integer ["value"] (spM T.B (fn1 m_is_integer)) :=
  fn_ok T.F_is_integer sc_is_integer ar1 rfl fun cdv A outer s H E hr ds hl => match ds, hl with
    | [v0], _ => ⟨_, rfl, (a_is_integer v0).2 T cdv A outer s H E hr⟩

noncomputable def a_is_day (v0 : D) : Body ["value"] "is_day" s_is_day 1 [v0] (fun T => T.f_is_day) :=
  ⟨_, fun T cdv A outer s H E hr => (qs_ret (qe_and (q_call (ok_is_integer T) (hr.mono (by decide)) T.g_is_integer T.F_is_integer.kp T.b_is_integer (qa_cons (qe_var 0) qa_nil)) (qe_one (qe_chain om_le om_le (qh_e qe_int) (qh_e (qe_var 0)) (qh_e (qe_gint T.c_LAST_DAY))))))⟩
noncomputable def m_is_day (v0 : D) : M D := callF (a_is_day v0).1
theorem ok_is_day {P : Program} {w : World} {K : PySem.W.Frag} {mg : Str → Option Value} {base : Heap} (T : Txt P w K mg base) : PM.FnOk P w K mg base (L2.CX P w) 2 T.f_is_day T.d_is_day ["value"] (spM T.B (fn1 m_is_day)) :=
  fn_ok T.F_is_day sc_is_day ar1 rfl fun cdv A outer s H E hr ds hl => match ds, hl with
    | [v0], _ => ⟨_, rfl, (a_is_day v0).2 T cdv A outer s H E hr⟩

noncomputable def a_is_stray (v0 : D) : Body ["value"] "is_stray" s_is_stray 2 [v0] (fun T => T.f_is_stray) :=
  ⟨_, fun T cdv A outer s H E hr => (qs_ret (qe_or (q_call (ok_is_day T) (hr.mono (by decide)) T.g_is_day T.F_is_day.kp T.b_is_day (qa_cons (qe_var 0) qa_nil)) (qe_one (qe_and (qe_isi "int" T.ok T.hK T.z_isinstance T.z_int PyProof.Rows.Boot.«int» (qh_e (qe_var 0))) (qe_one (qe_cmp (om_eq T.hK hr.units) (qh_e (qe_var 0)) (qh_e (qe_gint T.c_NEVER))))))))⟩
noncomputable def m_is_stray (v0 : D) : M D := callF (a_is_stray v0).1
theorem ok_is_stray {P : Program} {w : World} {K : PySem.W.Frag} {mg : Str → Option Value} {base : Heap} (T : Txt P w K mg base) : PM.FnOk P w K mg base (L2.CX P w) 3 T.f_is_stray T.d_is_stray ["value"] (spM T.B (fn1 m_is_stray)) :=
  fn_ok T.F_is_stray sc_is_stray ar1 rfl fun cdv A outer s H E hr ds hl => match ds, hl with
    | [v0], _ => ⟨_, rfl, (a_is_stray v0).2 T cdv A outer s H E hr⟩

noncomputable def a_is_name (v0 : D) : Body ["value", "letter"] "is_name" s_is_name 0 [v0] (fun T => T.f_is_name) :=
  ⟨_, fun T cdv A outer s H E hr => (qs_if (γ' := fun (a1 : Unit) => [.d v0, .no]) (QW.qt (qw_or (qt_not (qt_val (qe_isi "str" T.ok T.hK T.z_isinstance T.z_str PyProof.Rows.Boot.«str» (qh_e (qe_var 0))))) (qw_or1 (qt_not (qt_chain om_le om_le (qh_e qe_int) (qh_e (qe_callB (cm_len T.hK) T.z_len PyProof.Rows.Boot.«len» (qb_cons (qh_e (qe_var 0)) qb_nil))) (qh_e (qe_gint T.c_MOST_LETTERS))))))) (qs_ret qe_bl) (qs_nx () (show SubG [.d v0, .no] _ from (.same (.no .nil)))) (fun a1 => (qs_ret (qe_callB (cm_all rfl) T.z_all PyProof.Rows.Boot.«all» (qb_cons (qh_e (qe_L (ql_lc 1 T.hK (compOk1 sc_is_name.nd (blkOk_by (N := N_is_name) (sc := defScope s_is_name) (own := [("letter", 1)]) (by decide +kernel))) (qi_f (qf_e T.hK (qe_var 0))) (fun _ _ _ _ _ e2 => qts_nil) (fun _ _ _ _ _ e2 => (qe_cmp (om_in T.hK (hu1 hr)) (qh_e (qe_var 1)) (qh_e (qe_gstr T.c_LETTERS))))))) qb_nil)))))⟩
noncomputable def m_is_name (v0 : D) : M D := callF (a_is_name v0).1
theorem ok_is_name {P : Program} {w : World} {K : PySem.W.Frag} {mg : Str → Option Value} {base : Heap} (T : Txt P w K mg base) : PM.FnOk P w K mg base (L2.CX P w) 1 T.f_is_name T.d_is_name ["value"] (spM T.B (fn1 m_is_name)) :=
  fn_ok T.F_is_name sc_is_name ar1 rfl fun cdv A outer s H E hr ds hl => match ds, hl with
    | [v0], _ => ⟨_, rfl, (a_is_name v0).2 T cdv A outer s H E hr⟩

noncomputable def a_are_strays (v0 : D) : Body ["value", "seal"] "are_strays" s_are_strays 3 [v0] (fun T => T.f_are_strays) :=
  ⟨_, fun T cdv A outer s H E hr => (qs_ret (qe_and (qe_isi "dict" T.ok T.hK T.z_isinstance T.z_dict PyProof.Rows.Boot.«dict» (qh_e (qe_var 0))) (qe_one (qe_callB (cm_all rfl) T.z_all PyProof.Rows.Boot.«all» (qb_cons (qh_e (qe_L (ql_lc 1 T.hK (compOk1 sc_are_strays.nd (blkOk_by (N := N_are_strays) (sc := defScope s_are_strays) (own := [("seal", 1)]) (by decide +kernel))) (qi_f (qf_e T.hK (qe_var 0))) (fun _ _ _ _ _ e1 => qts_nil) (fun _ _ _ _ _ e1 => (qe_and (q_call (ok_is_name T) (hr.mono (by decide)) T.g_is_name T.F_is_name.kp T.b_is_name (qa_cons (qe_var 1) qa_nil)) (qe_one (q_call (ok_is_stray T) (hr.mono (by decide)) T.g_is_stray T.F_is_stray.kp T.b_is_stray (qa_cons (qe_ix T.hK (hu1 hr) (qh_e (qe_var 0)) (qe_var 1)) qa_nil)))))))) qb_nil)))))⟩
noncomputable def m_are_strays (v0 : D) : M D := callF (a_are_strays v0).1
theorem ok_are_strays {P : Program} {w : World} {K : PySem.W.Frag} {mg : Str → Option Value} {base : Heap} (T : Txt P w K mg base) : PM.FnOk P w K mg base (L2.CX P w) 4 T.f_are_strays T.d_are_strays ["value"] (spM T.B (fn1 m_are_strays)) :=
  fn_ok T.F_are_strays sc_are_strays ar1 rfl fun cdv A outer s H E hr ds hl => match ds, hl with
    | [v0], _ => ⟨_, rfl, (a_are_strays v0).2 T cdv A outer s H E hr⟩

noncomputable def a_Story___init__ (v1 : D) (v2 : D) : BodyI (D × D) toL2 "Story" ["self", "days", "strays", "seal", "day"] "Story.__init__" s_Story___init__ 4 [v1, v2] (fun T => T.f_Story___init__) :=
  ⟨_, fun T cdv A outer s H E hr p dx => (qs_if (γ' := fun (a2 : Unit) => [.o "Story" p dx [], .d v1, .d v2, .no, .no]) (QW.qt (qw_or (qt_not (qt_val (qe_isi2 "list" "tuple" T.ok T.hK T.z_isinstance T.z_list PyProof.Rows.Boot.«list» T.z_tuple PyProof.Rows.Boot.«tuple» (qh_e (qe_var 1))))) (qw_or1 (qt_not (qt_val (qe_callB (cm_all rfl) T.z_all PyProof.Rows.Boot.«all» (qb_cons (qh_e (qe_L (ql_lc 4 T.hK (compOk1 sc_Story___init__.nd (blkOk_by (N := N_Story___init__) (sc := defScope s_Story___init__) (own := [("day", 4)]) (by decide +kernel))) (qi_f (qf_e T.hK (qe_var 1))) (fun _ _ _ _ _ e1 => qts_nil) (fun _ _ _ _ _ e1 => (q_call (ok_is_day T) (hr.mono (by decide)) T.g_is_day T.F_is_day.kp T.b_is_day (qa_cons (qe_var 4) qa_nil)))))) qb_nil))))))) qs_bad (qs_nx () (show SubG [.o "Story" p dx [], .d v1, .d v2, .no, .no] _ from (.same (.same (.same (.no (.no .nil))))))) (fun a2 => (qs_if (γ' := fun (a3 : Unit) => [.o "Story" p dx [], .d v1, .d v2, .no, .no]) (qt_not (qt_val (q_call (ok_are_strays T) (hr.mono (by decide)) T.g_are_strays T.F_are_strays.kp T.b_are_strays (qa_cons (qe_var 2) qa_nil)))) qs_bad (qs_nx () (show SubG [.o "Story" p dx [], .d v1, .d v2, .no, .no] _ from (.same (.same (.same (.no (.no .nil))))))) (fun a3 => (qs_fldI (fs := []) T.ok T.hK 0 (by rw [T.fl_Story]; rfl) (by rw [T.fl_Story]; decide) (qe_L (ql_callTy (cl_list T.hK rfl) T.z_list PyProof.Rows.Boot.«list» (qb_cons (qh_e (qe_var 1)) qb_nil))) (fun d4 => (qs_fldI (fs := ([] ++ [d4])) T.ok T.hK 0 (by rw [T.fl_Story]; rfl) (by rw [T.fl_Story]; decide) (qe_K (qk_dc 3 T.hK (compOk1 sc_Story___init__.nd (blkOk_by (N := N_Story___init__) (sc := defScope s_Story___init__) (own := [("seal", 3)]) (by decide +kernel))) (qi_f (qf_e T.hK (qe_L (ql_callB (cl_sorted T.hK rfl) T.z_sorted PyProof.Rows.Boot.«sorted» (qb_cons (qh_e (qe_var 2)) qb_nil))))) (fun _ _ _ _ _ e6 => qts_nil) (fun _ _ _ _ _ e6 => (qe_var 3)) (fun _ _ _ _ _ e6 => (qe_ix T.hK (hu1 hr) (qh_e (qe_var 2)) (qe_var 3))))) (fun d5 => (qs_nx (d4, d5) (show SubG [.o "Story" p dx (([] ++ [d4]) ++ [d5]), .d v1, .d v2, .no, .no] _ from (.same (.no (.no (.no (.no .nil)))))))))))))))⟩
noncomputable def m_Story___init__ (v1 : D) (v2 : D) : M (List D) := initJ toL2 (a_Story___init__ v1 v2).1
theorem ok_Story___init__ {P : Program} {w : World} {K : PySem.W.Frag} {mg : Str → Option Value} {base : Heap} (T : Txt P w K mg base) : PM.FnOk P w K mg base (L2.CX P w) 5 T.f_Story___init__ T.d_Story___init__ ["self", "days", "strays"] (spI T.B "Story" (fn2 m_Story___init__)) :=
  fn_okJ toL2 T.F_Story___init__ sc_Story___init__ ar2 rfl (by decide) (fun a => by rw [T.fl_Story]; rfl) (fun ds hl => match ds, hl with | [v1, v2], _ => ⟨_, rfl⟩) fun cdv A outer s H E hr p dx ds hl => match ds, hl with
    | [v1, v2], _ => ⟨_, rfl, (a_Story___init__ v1 v2).2 T cdv A outer s H E hr p dx⟩

noncomputable def a__law_made (v0 : D) : Body ["_law_one"] "_law_made" s__law_made 6 [v0] (fun T => T.f__law_made) :=
  ⟨_, fun T cdv A outer s H E hr => (qs_ret (qe_N (q_make T.ct_Story T.mk_Story (ok_Story___init__ T) (hr.mono (by decide)) T.g_Story T.b_Story___init__ (qa_cons (qe_L (ql_callTy (cl_list T.hK rfl) T.z_list PyProof.Rows.Boot.«list» (qb_cons (qh_e (qe_ix T.hK (hu1 hr) (qh_e (qe_var 0)) qe_int)) qb_nil))) (qa_cons (qe_K (qk_callTy (ck_dict T.hK rfl) T.z_dict PyProof.Rows.Boot.«dict» (qb_cons (qh_e (qe_ix T.hK (hu1 hr) (qh_e (qe_var 0)) qe_int)) qb_nil))) qa_nil)))))⟩
noncomputable def m__law_made (v0 : D) : M D := callF (a__law_made v0).1
theorem ok__law_made {P : Program} {w : World} {K : PySem.W.Frag} {mg : Str → Option Value} {base : Heap} (T : Txt P w K mg base) : PM.FnOk P w K mg base (L2.CX P w) 7 T.f__law_made T.d__law_made ["_law_one"] (spM T.B (fn1 m__law_made)) :=
  fn_ok T.F__law_made sc__law_made ar1 rfl fun cdv A outer s H E hr ds hl => match ds, hl with
    | [v0], _ => ⟨_, rfl, (a__law_made v0).2 T cdv A outer s H E hr⟩

noncomputable def a_Story_days (v0 : D) : BodyN kL ["self"] "Story.days" s_Story_days 0 [v0] (fun T => T.f_Story_days) :=
  ⟨_, fun T cdv A outer s H E hr => (ql_callTy (cl_list T.hK rfl) T.z_list PyProof.Rows.Boot.«list» (qb_cons (qh_e (qe_fld T.ok T.hK "Story" 0 (by rw [T.fl_Story]; rfl) (qe_var 0))) qb_nil))⟩
noncomputable def m_Story_days (v0 : D) : M (List D) := (a_Story_days v0).1
theorem ok_Story_days {P : Program} {w : World} {K : PySem.W.Frag} {mg : Str → Option Value} {base : Heap} (T : Txt P w K mg base) : PM.FnOk P w K mg base (L2.CX P w) 1 T.f_Story_days T.d_Story_days ["self"] (spK T.B kL (fn1 m_Story_days)) :=
  fn_ok1 T.F_Story_days sc_Story_days ar1 rfl rfl fun cdv A outer s H E hr ds hl => match ds, hl with
    | [v0], _ => (a_Story_days v0).2 T cdv A outer s H E hr

noncomputable def a_Story_strays (v0 : D) : BodyN kK ["self"] "Story.strays" s_Story_strays 0 [v0] (fun T => T.f_Story_strays) :=
  ⟨_, fun T cdv A outer s H E hr => (qk_callTy (ck_dict T.hK rfl) T.z_dict PyProof.Rows.Boot.«dict» (qb_cons (qh_e (qe_fld T.ok T.hK "Story" 1 (by rw [T.fl_Story]; rfl) (qe_var 0))) qb_nil))⟩
noncomputable def m_Story_strays (v0 : D) : M (List (D × D)) := (a_Story_strays v0).1
theorem ok_Story_strays {P : Program} {w : World} {K : PySem.W.Frag} {mg : Str → Option Value} {base : Heap} (T : Txt P w K mg base) : PM.FnOk P w K mg base (L2.CX P w) 1 T.f_Story_strays T.d_Story_strays ["self"] (spK T.B kK (fn1 m_Story_strays)) :=
  fn_ok1 T.F_Story_strays sc_Story_strays ar1 rfl rfl fun cdv A outer s H E hr ds hl => match ds, hl with
    | [v0], _ => (a_Story_strays v0).2 T cdv A outer s H E hr

noncomputable def a__law_new_right (v0 : D) : Body ["_law_one", "_law_story", "_law_days", "_law_strays"] "_law_new_right" s__law_new_right 7 [v0] (fun T => T.f__law_new_right) :=
  ⟨_, fun T cdv A outer s H E hr => (qs_set 1 (q_call (ok__law_made T) (hr.mono (by decide)) T.g__law_made T.F__law_made.kp T.b__law_made (qa_cons (qe_var 0) qa_nil)) (fun d1 => (qs_parLK 2 3 (q_prop T.ok T.hK "Story" T.ct_Story T.p_Story_days (ok_Story_days T) (hr.mono (by decide)) T.b_Story_days (qe_var 1)) (q_prop T.ok T.hK "Story" T.ct_Story T.p_Story_strays (ok_Story_strays T) (hr.mono (by decide)) T.b_Story_strays (qe_var 1)) (fun l2 l3 => (qs_append 2 qe_int fun d4 => (qs_putK 3 (hu1 hr) qe_int qe_str (fun l5 => (qs_ret (qe_and (qe_cmp (om_eq T.hK hr.units) (qh_e (qe_L (q_prop T.ok T.hK "Story" T.ct_Story T.p_Story_days (ok_Story_days T) (hr.mono (by decide)) T.b_Story_days (qe_var 1)))) (qh_e (qe_ix T.hK (hu1 hr) (qh_e (qe_var 0)) qe_int))) (qe_and (qe_cmp (om_eq T.hK hr.units) (qh_e (qe_K (q_prop T.ok T.hK "Story" T.ct_Story T.p_Story_strays (ok_Story_strays T) (hr.mono (by decide)) T.b_Story_strays (qe_var 1)))) (qh_e (qe_ix T.hK (hu1 hr) (qh_e (qe_var 0)) qe_int))) (qe_one (qe_cmp (om_eq T.hK hr.units) (qh_e (qe_L (ql_callTy (cl_list T.hK rfl) T.z_list PyProof.Rows.Boot.«list» (qb_cons (qh_e (qe_K (q_prop T.ok T.hK "Story" T.ct_Story T.p_Story_strays (ok_Story_strays T) (hr.mono (by decide)) T.b_Story_strays (qe_var 1)))) qb_nil)))) (qh_e (qe_L (ql_callB (cl_sorted T.hK rfl) T.z_sorted PyProof.Rows.Boot.«sorted» (qb_cons (qh_e (qe_ix T.hK (hu1 hr) (qh_e (qe_var 0)) qe_int)) qb_nil))))))))))))) sc__law_new_right.nd)) sc__law_new_right.nd)⟩
noncomputable def m__law_new_right (v0 : D) : M D := callF (a__law_new_right v0).1
theorem ok__law_new_right {P : Program} {w : World} {K : PySem.W.Frag} {mg : Str → Option Value} {base : Heap} (T : Txt P w K mg base) : PM.FnOk P w K mg base (L2.CX P w) 8 T.f__law_new_right T.d__law_new_right ["_law_one"] (spM T.B (fn1 m__law_new_right)) :=
  fn_ok T.F__law_new_right sc__law_new_right ar1 rfl fun cdv A outer s H E hr ds hl => match ds, hl with
    | [v0], _ => ⟨_, rfl, (a__law_new_right v0).2 T cdv A outer s H E hr⟩

noncomputable def a_day_text (v0 : D) : Body ["day"] "day_text" s_day_text 2 [v0] (fun T => T.f_day_text) :=
  ⟨_, fun T cdv A outer s H E hr => (qs_if (γ' := fun (a1 : Unit) => [.d v0]) (QW.qt (qw_and (qt_val (q_call (ok_is_integer T) (hr.mono (by decide)) T.g_is_integer T.F_is_integer.kp T.b_is_integer (qa_cons (qe_var 0) qa_nil))) (qw_and1 (qt_cmp (om_eq T.hK hr.units) (qh_e (qe_var 0)) (qh_e (qe_gint T.c_NEVER)))))) (qs_ret qe_str) (qs_nx () (show SubG [.d v0] _ from (.same .nil))) (fun a1 => (qs_if (γ' := fun (a2 : Unit) => [.d v0]) (qt_not (qt_val (q_call (ok_is_day T) (hr.mono (by decide)) T.g_is_day T.F_is_day.kp T.b_is_day (qa_cons (qe_var 0) qa_nil)))) qs_bad (qs_nx () (show SubG [.d v0] _ from (.same .nil))) (fun a2 => (qs_ret (qe_callTy cm_strI T.z_str PyProof.Rows.Boot.«str» (qb_cons (qh_e (qe_var 0)) qb_nil)))))))⟩
noncomputable def m_day_text (v0 : D) : M D := callF (a_day_text v0).1
theorem ok_day_text {P : Program} {w : World} {K : PySem.W.Frag} {mg : Str → Option Value} {base : Heap} (T : Txt P w K mg base) : PM.FnOk P w K mg base (L2.CX P w) 3 T.f_day_text T.d_day_text ["day"] (spM T.B (fn1 m_day_text)) :=
  fn_ok T.F_day_text sc_day_text ar1 rfl fun cdv A outer s H E hr ds hl => match ds, hl with
    | [v0], _ => ⟨_, rfl, (a_day_text v0).2 T cdv A outer s H E hr⟩

noncomputable def a_Story___str__ (v0 : D) : Body ["self", "days", "strays", "day", "seal", "words"] "Story.__str__" s_Story___str__ 3 [v0] (fun T => T.f_Story___str__) :=
  ⟨_, fun T cdv A outer s H E hr => (qs_setLc 1 3 T.hK (compOk1 sc_Story___str__.nd (blkOk_by (N := N_Story___str__) (sc := defScope s_Story___str__) (own := [("day", 3)]) (by decide +kernel))) (qi_f (qf_e T.hK (qe_fld T.ok T.hK "Story" 0 (by rw [T.fl_Story]; rfl) (qe_var 0)))) (fun _ _ _ _ _ e1 => qts_nil) (fun _ _ _ _ _ e1 => (qe_callTy cm_strI T.z_str PyProof.Rows.Boot.«str» (qb_cons (qh_e (qe_var 3)) qb_nil))) (fun l2 => (qs_setLcT 2 4 3 T.hK (compOk2 sc_Story___str__.nd (blkOk_by (N := N_Story___str__) (sc := defScope s_Story___str__) (own := [("seal", 4), ("day", 3)]) (by decide +kernel))) (qi_f (qf_items (qe_fld T.ok T.hK "Story" 1 (by rw [T.fl_Story]; rfl) (qe_var 0)))) (fun _ _ _ _ _ e3 e4 => qts_nil) (fun _ _ _ _ _ e3 e4 => (qe_op (om_add T.hK) (qh_e (qe_op (om_add T.hK) (qh_e (qe_var 4)) (qh_e qe_str))) (qh_e (q_call (ok_day_text T) (hr.mono (by decide)) T.g_day_text T.F_day_text.kp T.b_day_text (qa_cons (qe_var 3) qa_nil))))) (fun l5 => (qs_ret (qe_join T.hK (qh_e (qe_L (ql_lc 5 T.hK (compOk1 sc_Story___str__.nd (blkOk_by (N := N_Story___str__) (sc := defScope s_Story___str__) (own := [("words", 5)]) (by decide +kernel))) (qi_f (qf_e T.hK (qe_tup (qa_cons (qe_var 1) (qa_cons (qe_var 2) qa_nil))))) (fun _ _ _ _ _ e6 => qts_nil) (fun _ _ _ _ _ e6 => (qe_ifExp (qt_cmp (om_ne T.hK hr.units) (qh_e (qe_var 5)) (qh_e (qe_lst qa_nil))) (qe_join T.hK (qh_e (qe_var 5))) (qe_gstr T.c_NOTHING))))))))) (sw_true rfl rfl rfl (by decide +kernel)))) (sw_true rfl rfl rfl (by decide +kernel)))⟩
noncomputable def m_Story___str__ (v0 : D) : M D := callF (a_Story___str__ v0).1
theorem ok_Story___str__ {P : Program} {w : World} {K : PySem.W.Frag} {mg : Str → Option Value} {base : Heap} (T : Txt P w K mg base) : PM.FnOk P w K mg base (L2.CX P w) 4 T.f_Story___str__ T.d_Story___str__ ["self"] (spM T.B (fn1 m_Story___str__)) :=
  fn_ok T.F_Story___str__ sc_Story___str__ ar1 rfl fun cdv A outer s H E hr ds hl => match ds, hl with
    | [v0], _ => ⟨_, rfl, (a_Story___str__ v0).2 T cdv A outer s H E hr⟩

noncomputable def a_Story___eq__ (v0 : D) (v1 : D) : Body ["self", "other"] "Story.__eq__" s_Story___eq__ 6 [v0, v1] (fun T => T.f_Story___eq__) :=
  ⟨_, fun T cdv A outer s H E hr => (qs_ret (qe_and (qe_isiS T.subE "Story" T.ok T.hK T.ct_Story T.z_isinstance T.g_Story (qh_e (qe_var 1))) (qe_one (qe_cmp (om_eq T.hK hr.units) (qh_e (qe_strO T.ok T.hK "Story" T.ct_Story T.str_Story T.fn_Story___str__ (ok_Story___str__ T) (hr.mono (by decide)) T.b_Story___str__ T.z_str PyProof.Rows.Boot.«str» (qe_var 0))) (qh_e (qe_strO T.ok T.hK "Story" T.ct_Story T.str_Story T.fn_Story___str__ (ok_Story___str__ T) (hr.mono (by decide)) T.b_Story___str__ T.z_str PyProof.Rows.Boot.«str» (qe_var 1)))))))⟩
noncomputable def m_Story___eq__ (v0 : D) (v1 : D) : M D := callF (a_Story___eq__ v0 v1).1
theorem ok_Story___eq__ {P : Program} {w : World} {K : PySem.W.Frag} {mg : Str → Option Value} {base : Heap} (T : Txt P w K mg base) : PM.FnOk P w K mg base (L2.CX P w) 7 T.f_Story___eq__ T.d_Story___eq__ ["self", "other"] (spM T.B (fn2 m_Story___eq__)) :=
  fn_ok T.F_Story___eq__ sc_Story___eq__ ar2 rfl fun cdv A outer s H E hr ds hl => match ds, hl with
    | [v0, v1], _ => ⟨_, rfl, (a_Story___eq__ v0 v1).2 T cdv A outer s H E hr⟩

noncomputable def a_Story_concerns (v0 : D) (v1 : D) (v2 : D) : Body ["self", "many", "seals"] "Story.concerns" s_Story_concerns 0 [v0, v1, v2] (fun T => T.f_Story_concerns) :=
  ⟨_, fun T cdv A outer s H E hr => (qs_ret (qe_and (qe_cmp (om_eq T.hK hr.units) (qh_e (qe_callB (cm_len T.hK) T.z_len PyProof.Rows.Boot.«len» (qb_cons (qh_e (qe_fld T.ok T.hK "Story" 0 (by rw [T.fl_Story]; rfl) (qe_var 0))) qb_nil))) (qh_e (qe_var 1))) (qe_one (qe_cmp (om_eq T.hK hr.units) (qh_e (qe_L (ql_callTy (cl_list T.hK rfl) T.z_list PyProof.Rows.Boot.«list» (qb_cons (qh_e (qe_fld T.ok T.hK "Story" 1 (by rw [T.fl_Story]; rfl) (qe_var 0))) qb_nil)))) (qh_e (qe_L (ql_callTy (cl_list T.hK rfl) T.z_list PyProof.Rows.Boot.«list» (qb_cons (qh_e (qe_var 2)) qb_nil))))))))⟩
noncomputable def m_Story_concerns (v0 : D) (v1 : D) (v2 : D) : M D := callF (a_Story_concerns v0 v1 v2).1
theorem ok_Story_concerns {P : Program} {w : World} {K : PySem.W.Frag} {mg : Str → Option Value} {base : Heap} (T : Txt P w K mg base) : PM.FnOk P w K mg base (L2.CX P w) 1 T.f_Story_concerns T.d_Story_concerns ["self", "many", "seals"] (spM T.B (fn3 m_Story_concerns)) :=
  fn_ok T.F_Story_concerns sc_Story_concerns ar3 rfl fun cdv A outer s H E hr ds hl => match ds, hl with
    | [v0, v1, v2], _ => ⟨_, rfl, (a_Story_concerns v0 v1 v2).2 T cdv A outer s H E hr⟩

noncomputable def a_Story___repr__ (v0 : D) : Body ["self"] "Story.__repr__" s_Story___repr__ 6 [v0] (fun T => T.f_Story___repr__) :=
  ⟨_, fun T cdv A outer s H E hr => (qs_ret (qe_js (.cons qe_str (.cons (qe_fmtR rpNo hr T.hK rpNo_ok (qe_strO T.ok T.hK "Story" T.ct_Story T.str_Story T.fn_Story___str__ (ok_Story___str__ T) (hr.mono (by decide)) T.b_Story___str__ T.z_str PyProof.Rows.Boot.«str» (qe_var 0))) (.cons qe_str .nil)))))⟩
noncomputable def m_Story___repr__ (v0 : D) : M D := callF (a_Story___repr__ v0).1
theorem ok_Story___repr__ {P : Program} {w : World} {K : PySem.W.Frag} {mg : Str → Option Value} {base : Heap} (T : Txt P w K mg base) : PM.FnOk P w K mg base (L2.CX P w) 7 T.f_Story___repr__ T.d_Story___repr__ ["self"] (spM T.B (fn1 m_Story___repr__)) :=
  fn_ok T.F_Story___repr__ sc_Story___repr__ ar1 rfl fun cdv A outer s H E hr ds hl => match ds, hl with
    | [v0], _ => ⟨_, rfl, (a_Story___repr__ v0).2 T cdv A outer s H E hr⟩

noncomputable def rp_Story : String → Option (List D → M D) := fun c => if c = "Story" then some (fn1 m_Story___repr__) else none
theorem rp_Story_ok {P : Program} {w : World} {K : PySem.W.Frag} {mg : Str → Option Value} {base : Heap} (T : Txt P w K mg base) {X : Cx} {k : Nat} (F : PM.FnOk X.prog X.w X.K X.mg X.base (L2.CX X.prog X.w) k T.f_Story___repr__ T.d_Story___repr__ ["self"] (spM T.B (fn1 m_Story___repr__))) (hr : PM.Room k X.A) (hX : X.K = K := by rfl) : ReprC T.B X X.A rp_Story := fun c g h => by
  unfold rp_Story at h
  split at h
  · rename_i e
    cases h
    subst e
    exact ⟨_, _, _, _, _, T.ct_Story, by rw [hX]; exact T.repr_Story, by rw [hX]; exact T.fn_Story___repr__, F, hr, by rw [hX]; exact T.b_Story___repr__⟩
  · cases h

noncomputable def a_InvalidStory___init__ (v0 : D) : BodyX "InvalidStory" "value" ["self", "value"] "InvalidStory.__init__" s_InvalidStory___init__ 7 [v0] (fun T => T.f_InvalidStory___init__) (fun T => T.u_InvalidStory___init__) (fun T => T.w_InvalidStory___init__) (fun T => T.C_InvalidStory) :=
  ⟨(_, _), fun T A outer s H E hr => ⟨(qe_js (.cons qe_str (.cons (qe_fmtR rp_Story hr T.hK (rp_Story_ok T (ok_Story___repr__ T) (hr.mono (by decide))) (qe_var 1)) .nil))), (qi_cons T.ox_InvalidStory T.xn_InvalidStory_told_parts (by decide) (qe_tup (qa_cons qe_str (qa_cons (qe_var 1) qa_nil))) qi_nil)⟩⟩
noncomputable def m_InvalidStory___init__ (v0 : D) : M (List D) := (a_InvalidStory___init__ v0).1.1 >>= fun _ => (a_InvalidStory___init__ v0).1.2 [v0]
theorem ok_InvalidStory___init__ {P : Program} {w : World} {K : PySem.W.Frag} {mg : Str → Option Value} {base : Heap} (T : Txt P w K mg base) : PM.FnOk P w K mg base (L2.CX P w) 8 T.f_InvalidStory___init__ T.d_InvalidStory___init__ ["self", "value"] (spX T.B "InvalidStory" (fn1 m_InvalidStory___init__)) :=
  fn_okE T.E_InvalidStory___init__ sc_InvalidStory___init__ T.s_InvalidStory T.xt_InvalidStory T.z_super ar1 rfl rfl rfl rfl 1 rfl (.inl rfl) (by decide) (by decide) T.xn_InvalidStory_value (fun _ => rfl) (fun _ => ⟨_, rfl⟩) fun A outer s H E hr ds hl => match ds, hl with
    | [v0], _ => ⟨_, _, _, rfl, rfl, ((a_InvalidStory___init__ v0).2 T A outer s H E hr).1, by rw [T.xlE]; exact ((a_InvalidStory___init__ v0).2 T A outer s H E hr).2⟩

noncomputable def a_Story_require_alike (v0 : D) (v1 : D) : Body ["self", "other"] "Story.require_alike" s_Story_require_alike 9 [v0, v1] (fun T => T.f_Story_require_alike) :=
  ⟨_, fun T cdv A outer s H E hr => (qs_ifE (QW.qt (qw_or (qt_not (qt_val (qe_isiS T.subE "Story" T.ok T.hK T.ct_Story T.z_isinstance T.g_Story (qh_e (qe_var 1))))) (qw_or1 (qt_not (qt_val (q_meth T.ok T.hK "Story" T.ct_Story T.m_Story_concerns (ok_Story_concerns T) (hr.mono (by decide)) T.b_Story_concerns (qe_var 1) (qa_cons (qe_callB (cm_len T.hK) T.z_len PyProof.Rows.Boot.«len» (qb_cons (qh_e (qe_fld T.ok T.hK "Story" 0 (by rw [T.fl_Story]; rfl) (qe_var 0))) qb_nil)) (qa_cons (qe_fld T.ok T.hK "Story" 1 (by rw [T.fl_Story]; rfl) (qe_var 0)) qa_nil)) (by rw [T.fl_Story]; decide +kernel))))))) (qs_raise "InvalidStory" T.xt_InvalidStory T.ox_InvalidStory T.xi_InvalidStory T.xf_InvalidStory (ok_InvalidStory___init__ T) (hr.mono (by decide)) T.b_InvalidStory___init__ T.g_InvalidStory (qa_cons (qe_var 1) qa_nil) ar1) qs_end)⟩
noncomputable def m_Story_require_alike (v0 : D) (v1 : D) : M D := callF (a_Story_require_alike v0 v1).1
theorem ok_Story_require_alike {P : Program} {w : World} {K : PySem.W.Frag} {mg : Str → Option Value} {base : Heap} (T : Txt P w K mg base) : PM.FnOk P w K mg base (L2.CX P w) 10 T.f_Story_require_alike T.d_Story_require_alike ["self", "other"] (spM T.B (fn2 m_Story_require_alike)) :=
  fn_ok T.F_Story_require_alike sc_Story_require_alike ar2 rfl fun cdv A outer s H E hr ds hl => match ds, hl with
    | [v0, v1], _ => ⟨_, rfl, (a_Story_require_alike v0 v1).2 T cdv A outer s H E hr⟩

noncomputable def a_Story_is_as_bad_as (v0 : D) (v1 : D) : Body ["self", "other", "one", "two", "seal", "day"] "Story.is_as_bad_as" s_Story_is_as_bad_as 10 [v0, v1] (fun T => T.f_Story_is_as_bad_as) :=
  ⟨_, fun T cdv A outer s H E hr => (qs_expr (q_meth T.ok T.hK "Story" T.ct_Story T.m_Story_require_alike (ok_Story_require_alike T) (hr.mono (by decide)) T.b_Story_require_alike (qe_var 0) (qa_cons (qe_var 1) qa_nil) (by rw [T.fl_Story]; decide +kernel)) (qs_if (γ' := fun (a3 : Unit) => [.d v0, .d v1, .no, .no, .no, .no]) (qt_val (qe_callB (cm_any rfl) T.z_any PyProof.Rows.Boot.«any» (qb_cons (qh_e (qe_L (ql_lcT 2 3 T.hK (compOk2 sc_Story_is_as_bad_as.nd (blkOk_by (N := N_Story_is_as_bad_as) (sc := defScope s_Story_is_as_bad_as) (own := [("one", 2), ("two", 3)]) (by decide +kernel))) (qi_f (qf_zip T.z_zip (qe_fld T.ok T.hK "Story" 0 (by rw [T.fl_Story]; rfl) (qe_var 0)) (qe_fld T.ok T.hK "Story" 0 (by rw [T.fl_Story]; rfl) (qe_var 1)))) (fun _ _ _ _ _ e1 e2 => qts_nil) (fun _ _ _ _ _ e1 e2 => (qe_cmp om_lt (qh_e (qe_var 2)) (qh_e (qe_var 3))))))) qb_nil))) (qs_ret qe_bl) (qs_nx () (show SubG [.d v0, .d v1, .no, .no, .no, .no] _ from (.same (.same (.no (.no (.no (.no .nil)))))))) (fun a3 => (qs_ret (qe_callB (cm_all rfl) T.z_all PyProof.Rows.Boot.«all» (qb_cons (qh_e (qe_L (ql_lcT 4 5 T.hK (compOk2 sc_Story_is_as_bad_as.nd (blkOk_by (N := N_Story_is_as_bad_as) (sc := defScope s_Story_is_as_bad_as) (own := [("seal", 4), ("day", 5)]) (by decide +kernel))) (qi_f (qf_items (qe_fld T.ok T.hK "Story" 1 (by rw [T.fl_Story]; rfl) (qe_var 0)))) (fun _ _ _ _ _ e4 e5 => qts_nil) (fun _ _ _ _ _ e4 e5 => (qe_cmp om_le (qh_e (qe_var 5)) (qh_e (qe_ix T.hK (hu1 hr) (qh_e (qe_fld T.ok T.hK "Story" 1 (by rw [T.fl_Story]; rfl) (qe_var 1))) (qe_var 4)))))))) qb_nil))))))⟩
noncomputable def m_Story_is_as_bad_as (v0 : D) (v1 : D) : M D := callF (a_Story_is_as_bad_as v0 v1).1
theorem ok_Story_is_as_bad_as {P : Program} {w : World} {K : PySem.W.Frag} {mg : Str → Option Value} {base : Heap} (T : Txt P w K mg base) : PM.FnOk P w K mg base (L2.CX P w) 11 T.f_Story_is_as_bad_as T.d_Story_is_as_bad_as ["self", "other"] (spM T.B (fn2 m_Story_is_as_bad_as)) :=
  fn_ok T.F_Story_is_as_bad_as sc_Story_is_as_bad_as ar2 rfl fun cdv A outer s H E hr ds hl => match ds, hl with
    | [v0, v1], _ => ⟨_, rfl, (a_Story_is_as_bad_as v0 v1).2 T cdv A outer s H E hr⟩

noncomputable def a__law_bad (v0 : D) (v1 : D) : Body ["_law_one", "_law_two", "_law_k", "_law_mark"] "_law_bad" s__law_bad 0 [v0, v1] (fun T => T.f__law_bad) :=
  ⟨_, fun T cdv A outer s H E hr => (qs_if (γ' := fun (a2 : Unit) => [.d v0, .d v1, .no, .no]) (qt_val (qe_callB (cm_any rfl) T.z_any PyProof.Rows.Boot.«any» (qb_cons (qh_e (qe_L (ql_lc 2 T.hK (compOk1 sc__law_bad.nd (blkOk_by (N := N__law_bad) (sc := defScope s__law_bad) (own := [("_law_k", 2)]) (by decide +kernel))) (qi_f (qf_range1 T.z_range (qe_callB (cm_len T.hK) T.z_len PyProof.Rows.Boot.«len» (qb_cons (qh_e (qe_ix T.hK (hu1 hr) (qh_e (qe_var 0)) qe_int)) qb_nil)))) (fun _ _ _ _ _ e1 => qts_nil) (fun _ _ _ _ _ e1 => (qe_cmp om_lt (qh_e (qe_ix T.hK (hu1 hr) (qh_e (qe_ix T.hK (hu1 hr) (qh_e (qe_var 0)) qe_int)) (qe_var 2))) (qh_e (qe_ix T.hK (hu1 hr) (qh_e (qe_ix T.hK (hu1 hr) (qh_e (qe_var 1)) qe_int)) (qe_var 2)))))))) qb_nil))) (qs_ret qe_bl) (qs_nx () (show SubG [.d v0, .d v1, .no, .no] _ from (.same (.same (.no (.no .nil)))))) (fun a2 => (qs_ret (qe_callB (cm_all rfl) T.z_all PyProof.Rows.Boot.«all» (qb_cons (qh_e (qe_L (ql_lc 3 T.hK (compOk1 sc__law_bad.nd (blkOk_by (N := N__law_bad) (sc := defScope s__law_bad) (own := [("_law_mark", 3)]) (by decide +kernel))) (qi_f (qf_e T.hK (qe_ix T.hK (hu1 hr) (qh_e (qe_var 0)) qe_int))) (fun _ _ _ _ _ e3 => qts_nil) (fun _ _ _ _ _ e3 => (qe_cmp om_le (qh_e (qe_ix T.hK (hu1 hr) (qh_e (qe_ix T.hK (hu1 hr) (qh_e (qe_var 0)) qe_int)) (qe_var 3))) (qh_e (qe_ix T.hK (hu1 hr) (qh_e (qe_ix T.hK (hu1 hr) (qh_e (qe_var 1)) qe_int)) (qe_var 3)))))))) qb_nil)))))⟩
noncomputable def m__law_bad (v0 : D) (v1 : D) : M D := callF (a__law_bad v0 v1).1
theorem ok__law_bad {P : Program} {w : World} {K : PySem.W.Frag} {mg : Str → Option Value} {base : Heap} (T : Txt P w K mg base) : PM.FnOk P w K mg base (L2.CX P w) 1 T.f__law_bad T.d__law_bad ["_law_one", "_law_two"] (spM T.B (fn2 m__law_bad)) :=
  fn_ok T.F__law_bad sc__law_bad ar2 rfl fun cdv A outer s H E hr ds hl => match ds, hl with
    | [v0, v1], _ => ⟨_, rfl, (a__law_bad v0 v1).2 T cdv A outer s H E hr⟩

noncomputable def a_Story_melted (v0 : D) (v1 : D) : Body ["self", "other", "days", "one", "two", "seal", "day"] "Story.melted" s_Story_melted 10 [v0, v1] (fun T => T.f_Story_melted) :=
  ⟨_, fun T cdv A outer s H E hr => (qs_expr (q_meth T.ok T.hK "Story" T.ct_Story T.m_Story_require_alike (ok_Story_require_alike T) (hr.mono (by decide)) T.b_Story_require_alike (qe_var 0) (qa_cons (qe_var 1) qa_nil) (by rw [T.fl_Story]; decide +kernel)) (qs_setLcT 2 3 4 T.hK (compOk2 sc_Story_melted.nd (blkOk_by (N := N_Story_melted) (sc := defScope s_Story_melted) (own := [("one", 3), ("two", 4)]) (by decide +kernel))) (qi_f (qf_zip T.z_zip (qe_fld T.ok T.hK "Story" 0 (by rw [T.fl_Story]; rfl) (qe_var 0)) (qe_fld T.ok T.hK "Story" 0 (by rw [T.fl_Story]; rfl) (qe_var 1)))) (fun _ _ _ _ _ e1 e2 => qts_nil) (fun _ _ _ _ _ e1 e2 => (qe_callB (cm_max2 rfl) T.z_max PyProof.Rows.Boot.«max» (qb_cons (qh_e (qe_var 3)) (qb_cons (qh_e (qe_var 4)) qb_nil)))) (fun l3 => (qs_ret (qe_N (q_make T.ct_Story T.mk_Story (ok_Story___init__ T) (hr.mono (by decide)) T.g_Story T.b_Story___init__ (qa_cons (qe_var 2) (qa_cons (qe_K (qk_dcT 5 6 T.hK (compOk2 sc_Story_melted.nd (blkOk_by (N := N_Story_melted) (sc := defScope s_Story_melted) (own := [("seal", 5), ("day", 6)]) (by decide +kernel))) (qi_f (qf_items (qe_fld T.ok T.hK "Story" 1 (by rw [T.fl_Story]; rfl) (qe_var 0)))) (fun _ _ _ _ _ e4 e5 => qts_nil) (fun _ _ _ _ _ e4 e5 => (qe_var 5)) (fun _ _ _ _ _ e4 e5 => (qe_callB (cm_min2 rfl) T.z_min PyProof.Rows.Boot.«min» (qb_cons (qh_e (qe_var 6)) (qb_cons (qh_e (qe_ix T.hK (hu1 hr) (qh_e (qe_fld T.ok T.hK "Story" 1 (by rw [T.fl_Story]; rfl) (qe_var 1))) (qe_var 5))) qb_nil)))))) qa_nil)))))) (sw_true rfl rfl rfl (by decide +kernel))))⟩
noncomputable def m_Story_melted (v0 : D) (v1 : D) : M D := callF (a_Story_melted v0 v1).1
theorem ok_Story_melted {P : Program} {w : World} {K : PySem.W.Frag} {mg : Str → Option Value} {base : Heap} (T : Txt P w K mg base) : PM.FnOk P w K mg base (L2.CX P w) 11 T.f_Story_melted T.d_Story_melted ["self", "other"] (spM T.B (fn2 m_Story_melted)) :=
  fn_ok T.F_Story_melted sc_Story_melted ar2 rfl fun cdv A outer s H E hr ds hl => match ds, hl with
    | [v0, v1], _ => ⟨_, rfl, (a_Story_melted v0 v1).2 T cdv A outer s H E hr⟩

noncomputable def a_Story___len__ (v0 : D) : Body ["self"] "Story.__len__" s_Story___len__ 0 [v0] (fun T => T.f_Story___len__) :=
  ⟨_, fun T cdv A outer s H E hr => (qs_ret (qe_callB (cm_len T.hK) T.z_len PyProof.Rows.Boot.«len» (qb_cons (qh_e (qe_fld T.ok T.hK "Story" 0 (by rw [T.fl_Story]; rfl) (qe_var 0))) qb_nil)))⟩
noncomputable def m_Story___len__ (v0 : D) : M D := callF (a_Story___len__ v0).1
theorem ok_Story___len__ {P : Program} {w : World} {K : PySem.W.Frag} {mg : Str → Option Value} {base : Heap} (T : Txt P w K mg base) : PM.FnOk P w K mg base (L2.CX P w) 1 T.f_Story___len__ T.d_Story___len__ ["self"] (spM T.B (fn1 m_Story___len__)) :=
  fn_ok T.F_Story___len__ sc_Story___len__ ar1 rfl fun cdv A outer s H E hr ds hl => match ds, hl with
    | [v0], _ => ⟨_, rfl, (a_Story___len__ v0).2 T cdv A outer s H E hr⟩

noncomputable def a__law_pairs_right (v0 : D) : Body ["_law_plain", "_law_one", "_law_two", "_law_made_here", "_law_least", "_law_three", "_law_first", "_law_second", "_law_both", "_law_k", "_law_mark"] "_law_pairs_right" s__law_pairs_right 11 [v0] (fun T => T.f__law_pairs_right) :=
  ⟨_, fun T cdv A outer s H E hr => (qs_for1 (γ' := fun (a11 : Unit) => [.d v0, .no, .no, .no, .no, .no, .no, .no, .no, .no, .no]) 1 () T.hK (passes_of rfl) sc__law_pairs_right.nd (qf_e T.hK (qe_var 0)) (show SubG [.d v0, .no, .no, .no, .no, .no, .no, .no, .no, .no, .no] _ from (.same (.no (.no (.no (.no (.no (.no (.no (.no (.no (.no .nil)))))))))))) (fun t12 a11 => (qs_for1 (γ' := fun (a22 : Unit) => [.d v0, .d t12, .no, .no, .no, .no, .no, .no, .no, .no, .no]) 2 () T.hK (passes_of rfl) sc__law_pairs_right.nd (qf_e T.hK (qe_var 0)) (show SubG [.d v0, .d t12, .no, .no, .no, .no, .no, .no, .no, .no, .no] _ from (.same (.same (.no (.no (.no (.no (.no (.no (.no (.no (.no .nil)))))))))))) (fun t23 a22 => (qs_par 6 7 (q_call (ok__law_made T) (hr.mono (by decide)) T.g__law_made T.F__law_made.kp T.b__law_made (qa_cons (qe_var 1) qa_nil)) (q_call (ok__law_made T) (hr.mono (by decide)) T.g__law_made T.F__law_made.kp T.b__law_made (qa_cons (qe_var 2) qa_nil)) (fun d24 d25 => (qs_if (γ' := fun (a26 : Unit) => [.d v0, .d t12, .d t23, .no, .no, .no, .d d24, .d d25, .no, .no, .no]) (QW.qt (qw_or (qt_cmp (om_ne T.hK hr.units) (qh_e (q_meth T.ok T.hK "Story" T.ct_Story T.m_Story_is_as_bad_as (ok_Story_is_as_bad_as T) (hr.mono (by decide)) T.b_Story_is_as_bad_as (qe_var 6) (qa_cons (qe_var 7) qa_nil) (by rw [T.fl_Story]; decide +kernel))) (qh_e (q_call (ok__law_bad T) (hr.mono (by decide)) T.g__law_bad T.F__law_bad.kp T.b__law_bad (qa_cons (qe_var 1) (qa_cons (qe_var 2) qa_nil))))) (qw_or1 (qt_cmp (om_ne T.hK hr.units) (qh_e (qe_eqS "Story" T.ok T.hK T.ct_Story (T.eq_Story _ rfl) (ok_Story___eq__ T) (hr.mono (by decide)) T.b_Story___eq__ (qe_var 6) (qe_var 7))) (qh_e (qe_cmp (om_eq T.hK hr.units) (qh_e (qe_var 1)) (qh_e (qe_var 2)))))))) (qs_ret qe_bl) (qs_nx () (show SubG [.d v0, .d t12, .d t23, .no, .no, .no, .d d24, .d d25, .no, .no, .no] _ from (.same (.same (.same (.no (.no (.no (.same (.same (.no (.no (.no .nil))))))))))))) (fun a26 => (qs_set 3 (q_meth T.ok T.hK "Story" T.ct_Story T.m_Story_melted (ok_Story_melted T) (hr.mono (by decide)) T.b_Story_melted (qe_var 6) (qa_cons (qe_var 7) qa_nil) (by rw [T.fl_Story]; decide +kernel)) (fun d27 => (qs_set 4 (qe_tup (qa_cons (qe_L (ql_lc 9 T.hK (compOk1 sc__law_pairs_right.nd (blkOk_by (N := N__law_pairs_right) (sc := defScope s__law_pairs_right) (own := [("_law_k", 9)]) (by decide +kernel))) (qi_f (qf_range1 T.z_range (qe_callB (cm_len T.hK) T.z_len PyProof.Rows.Boot.«len» (qb_cons (qh_e (qe_ix T.hK (hu1 hr) (qh_e (qe_var 1)) qe_int)) qb_nil)))) (fun _ _ _ _ _ e30 => qts_nil) (fun _ _ _ _ _ e30 => (qe_callB (cm_max2 rfl) T.z_max PyProof.Rows.Boot.«max» (qb_cons (qh_e (qe_ix T.hK (hu1 hr) (qh_e (qe_ix T.hK (hu1 hr) (qh_e (qe_var 1)) qe_int)) (qe_var 9))) (qb_cons (qh_e (qe_ix T.hK (hu1 hr) (qh_e (qe_ix T.hK (hu1 hr) (qh_e (qe_var 2)) qe_int)) (qe_var 9))) qb_nil)))))) (qa_cons (qe_K (qk_callTy (ck_dict T.hK rfl) T.z_dict PyProof.Rows.Boot.«dict» (qb_cons (qh_e (qe_L (ql_lc 10 T.hK (compOk1 sc__law_pairs_right.nd (blkOk_by (N := N__law_pairs_right) (sc := defScope s__law_pairs_right) (own := [("_law_mark", 10)]) (by decide +kernel))) (qi_f (qf_e T.hK (qe_ix T.hK (hu1 hr) (qh_e (qe_var 1)) qe_int))) (fun _ _ _ _ _ e29 => qts_nil) (fun _ _ _ _ _ e29 => (qe_tup (qa_cons (qe_var 10) (qa_cons (qe_callB (cm_min2 rfl) T.z_min PyProof.Rows.Boot.«min» (qb_cons (qh_e (qe_ix T.hK (hu1 hr) (qh_e (qe_ix T.hK (hu1 hr) (qh_e (qe_var 1)) qe_int)) (qe_var 10))) (qb_cons (qh_e (qe_ix T.hK (hu1 hr) (qh_e (qe_ix T.hK (hu1 hr) (qh_e (qe_var 2)) qe_int)) (qe_var 10))) qb_nil))) qa_nil))))))) qb_nil))) qa_nil))) (fun d28 => (qs_if (γ' := fun (a31 : Unit) => [.d v0, .d t12, .d t23, .d d27, .d d28, .no, .d d24, .d d25, .no, .no, .no]) (QW.qt (qw_or (qt_cmp (om_ne T.hK hr.units) (qh_e (qe_L (q_prop T.ok T.hK "Story" T.ct_Story T.p_Story_days (ok_Story_days T) (hr.mono (by decide)) T.b_Story_days (qe_var 3)))) (qh_e (qe_ix T.hK (hu1 hr) (qh_e (qe_var 4)) qe_int))) (qw_or (qt_cmp (om_ne T.hK hr.units) (qh_e (qe_K (q_prop T.ok T.hK "Story" T.ct_Story T.p_Story_strays (ok_Story_strays T) (hr.mono (by decide)) T.b_Story_strays (qe_var 3)))) (qh_e (qe_ix T.hK (hu1 hr) (qh_e (qe_var 4)) qe_int))) (qw_or1 (qt_cmp (om_ne T.hK hr.units) (qh_e (qe_lenO T.ok T.hK "Story" T.ct_Story T.len_Story T.fn_Story___len__ (ok_Story___len__ T) (hr.mono (by decide)) T.b_Story___len__ T.z_len (qe_var 3))) (qh_e (qe_callB (cm_len T.hK) T.z_len PyProof.Rows.Boot.«len» (qb_cons (qh_e (qe_ix T.hK (hu1 hr) (qh_e (qe_var 1)) qe_int)) qb_nil)))))))) (qs_ret qe_bl) (qs_nx () (show SubG [.d v0, .d t12, .d t23, .d d27, .d d28, .no, .d d24, .d d25, .no, .no, .no] _ from (.same (.same (.same (.same (.same (.no (.same (.same (.no (.no (.no .nil))))))))))))) (fun a31 => (qs_for1 (γ' := fun (a34 : Unit) => [.d v0, .d t12, .d t23, .d d27, .d d28, .no, .d d24, .d d25, .no, .no, .no]) 5 () T.hK (passes_of rfl) sc__law_pairs_right.nd (qf_e T.hK (qe_var 0)) (show SubG [.d v0, .d t12, .d t23, .d d27, .d d28, .no, .d d24, .d d25, .no, .no, .no] _ from (.same (.same (.same (.same (.same (.no (.same (.same (.no (.no (.no .nil)))))))))))) (fun t35 a34 => (qs_set 8 (qe_and (q_call (ok__law_bad T) (hr.mono (by decide)) T.g__law_bad T.F__law_bad.kp T.b__law_bad (qa_cons (qe_var 5) (qa_cons (qe_var 1) qa_nil))) (qe_one (q_call (ok__law_bad T) (hr.mono (by decide)) T.g__law_bad T.F__law_bad.kp T.b__law_bad (qa_cons (qe_var 5) (qa_cons (qe_var 2) qa_nil))))) (fun d36 => (qs_ifE (qt_cmp (om_ne T.hK hr.units) (qh_e (q_meth T.ok T.hK "Story" T.ct_Story T.m_Story_is_as_bad_as (ok_Story_is_as_bad_as T) (hr.mono (by decide)) T.b_Story_is_as_bad_as (q_call (ok__law_made T) (hr.mono (by decide)) T.g__law_made T.F__law_made.kp T.b__law_made (qa_cons (qe_var 5) qa_nil)) (qa_cons (qe_var 3) qa_nil) (by rw [T.fl_Story]; decide +kernel))) (qh_e (qe_var 8))) (qs_ret qe_bl) (qs_nx () (show SubG [.d v0, .d t12, .d t23, .d d27, .d d28, .d t35, .d d24, .d d25, .d d36, .no, .no] _ from (.same (.same (.same (.same (.same (.no (.same (.same (.no (.no (.no .nil))))))))))))))) sc__law_pairs_right.nd)) (fun a34 => (qs_nx () (show SubG [.d v0, .d t12, .d t23, .d d27, .d d28, .no, .d d24, .d d25, .no, .no, .no] _ from (.same (.same (.no (.no (.no (.no (.no (.no (.no (.no (.no .nil)))))))))))))))))) sc__law_pairs_right.nd)) sc__law_pairs_right.nd)))) sc__law_pairs_right.nd)) (fun a22 => (qs_nx () (show SubG [.d v0, .d t12, .no, .no, .no, .no, .no, .no, .no, .no, .no] _ from (.same (.no (.no (.no (.no (.no (.no (.no (.no (.no (.no .nil)))))))))))))))) (fun a11 => (qs_ret qe_bl)))⟩
noncomputable def m__law_pairs_right (v0 : D) : M D := callF (a__law_pairs_right v0).1
theorem ok__law_pairs_right {P : Program} {w : World} {K : PySem.W.Frag} {mg : Str → Option Value} {base : Heap} (T : Txt P w K mg base) : PM.FnOk P w K mg base (L2.CX P w) 12 T.f__law_pairs_right T.d__law_pairs_right ["_law_plain"] (spM T.B (fn1 m__law_pairs_right)) :=
  fn_ok T.F__law_pairs_right sc__law_pairs_right ar1 rfl fun cdv A outer s H E hr ds hl => match ds, hl with
    | [v0], _ => ⟨_, rfl, (a__law_pairs_right v0).2 T cdv A outer s H E hr⟩

noncomputable def a__law_free (v0 : D) : Body ["_law_marks", "_law_one"] "_law_free" s__law_free 0 [v0] (fun T => T.f__law_free) :=
  ⟨_, fun T cdv A outer s H E hr => (qs_ret (qe_ix T.hK (hu1 hr) (qh_e (qe_L (ql_lc 1 T.hK (compOk1 sc__law_free.nd (blkOk_by (N := N__law_free) (sc := defScope s__law_free) (own := [("_law_one", 1)]) (by decide +kernel))) (qi_f (qf_e T.hK (qe_lst (qa_cons qe_str (qa_cons qe_str (qa_cons qe_str (qa_cons qe_str (qa_cons qe_str (qa_cons qe_str qa_nil))))))))) (fun _ _ _ _ _ e1 => (qts_one (qt_cmp (om_notIn T.hK (hu1 hr)) (qh_e (qe_var 1)) (qh_e (qe_var 0))))) (fun _ _ _ _ _ e1 => (qe_var 1))))) qe_int))⟩
noncomputable def m__law_free (v0 : D) : M D := callF (a__law_free v0).1
theorem ok__law_free {P : Program} {w : World} {K : PySem.W.Frag} {mg : Str → Option Value} {base : Heap} (T : Txt P w K mg base) : PM.FnOk P w K mg base (L2.CX P w) 1 T.f__law_free T.d__law_free ["_law_marks"] (spM T.B (fn1 m__law_free)) :=
  fn_ok T.F__law_free sc__law_free ar1 rfl fun cdv A outer s H E hr ds hl => match ds, hl with
    | [v0], _ => ⟨_, rfl, (a__law_free v0).2 T cdv A outer s H E hr⟩

noncomputable def a__law_refused (v0 : D) (v1 : D) (v2 : D) : Body ["_law_story", "_law_way", "_law_value", "error"] "_law_refused" s__law_refused 11 [v0, v1, v2] (fun T => T.f__law_refused) :=
  ⟨_, fun T cdv A outer s H E hr => (qs_tryS T.subE (γ' := fun (a1 : Unit) => [.d v0, .d v1, .d v2, .no]) "InvalidStory" 3 T.xo T.hK T.xt_InvalidStory T.g_InvalidStory (fun pn xe hp => (qs_ifE (qt_cmp (om_eq T.hK hr.units) (qh_e (qe_var 1)) (qh_e qe_int)) (qs_expr (q_meth T.ok T.hK "Story" T.ct_Story T.m_Story_melted (ok_Story_melted T) (hr.mono (by decide)) T.b_Story_melted (qe_var 0) (qa_cons (qe_var 2) qa_nil) (by rw [T.fl_Story]; decide +kernel)) (qs_nx () (show SubG [.d v0, .d v1, .d v2, .no] _ from (.same (.same (.same (.no .nil))))))) (qs_expr (q_meth T.ok T.hK "Story" T.ct_Story T.m_Story_is_as_bad_as (ok_Story_is_as_bad_as T) (hr.mono (by decide)) T.b_Story_is_as_bad_as (qe_var 0) (qa_cons (qe_var 2) qa_nil) (by rw [T.fl_Story]; decide +kernel)) (qs_nx () (show SubG [.d v0, .d v1, .d v2, .no] _ from (.same (.same (.same (.no .nil))))))))) (fun a oe cls d pn e hz hf => (qs_ret (qe_tup (qa_cons (qe_xfS T.xlE T.xo T.hK 3 hz hf) qa_nil)))) (fun a1 => (qs_ret qe_non)) sc__law_refused.nd)⟩
noncomputable def m__law_refused (v0 : D) (v1 : D) (v2 : D) : M D := callF (a__law_refused v0 v1 v2).1
theorem ok__law_refused {P : Program} {w : World} {K : PySem.W.Frag} {mg : Str → Option Value} {base : Heap} (T : Txt P w K mg base) : PM.FnOk P w K mg base (L2.CX P w) 12 T.f__law_refused T.d__law_refused ["_law_story", "_law_way", "_law_value"] (spM T.B (fn3 m__law_refused)) :=
  fn_ok T.F__law_refused sc__law_refused ar3 rfl fun cdv A outer s H E hr ds hl => match ds, hl with
    | [v0, v1, v2], _ => ⟨_, rfl, (a__law_refused v0 v1 v2).2 T cdv A outer s H E hr⟩

noncomputable def a__law_refusals_right (v0 : D) (v1 : D) : Body ["_law_rng_here", "_law_one", "_law_story", "_law_odd", "_law_more", "_law_value", "_law_moved", "_law_way", "_law_found", "_law_mark"] "_law_refusals_right" s__law_refusals_right 12 [v0, v1] (fun T => T.f__law_refusals_right) :=
  ⟨_, fun T cdv A outer s H E hr => (qs_set 2 (q_call (ok__law_made T) (hr.mono (by decide)) T.g__law_made T.F__law_made.kp T.b__law_made (qa_cons (qe_var 1) qa_nil)) (fun d1 => (qs_setL 3 (ql_lst (qa_cons qe_non (qa_cons qe_int (qa_cons qe_str (qa_cons (qe_lst qa_nil) (qa_cons (qe_var 1) (qa_cons (qe_tup (qa_cons (qe_ix T.hK (hu1 hr) (qh_e (qe_var 1)) qe_int) (qa_cons (qe_ix T.hK (hu1 hr) (qh_e (qe_var 1)) qe_int) qa_nil))) (qa_cons (qe_K qk_new) qa_nil)))))))) (fun l2 => (qs_append 3 (q_call (ok__law_made T) (hr.mono (by decide)) T.g__law_made T.F__law_made.kp T.b__law_made (qa_cons (qe_tup (qa_cons (qe_op (om_add T.hK) (qh_e (qe_ix T.hK (hu1 hr) (qh_e (qe_var 1)) qe_int)) (qh_e (qe_lst (qa_cons qe_int qa_nil)))) (qa_cons (qe_ix T.hK (hu1 hr) (qh_e (qe_var 1)) qe_int) qa_nil))) qa_nil)) fun d3 => (qs_setK 4 (qk_callTy (ck_dict T.hK rfl) T.z_dict PyProof.Rows.Boot.«dict» (qb_cons (qh_e (qe_ix T.hK (hu1 hr) (qh_e (qe_var 1)) qe_int)) qb_nil)) (fun l4 => (qs_putK 4 (hu1 hr) qe_int (q_call (ok__law_free T) (hr.mono (by decide)) T.g__law_free T.F__law_free.kp T.b__law_free (qa_cons (qe_L (ql_callB (cl_sorted T.hK rfl) T.z_sorted PyProof.Rows.Boot.«sorted» (qb_cons (qh_e (qe_ix T.hK (hu1 hr) (qh_e (qe_var 1)) qe_int)) qb_nil))) qa_nil)) (fun l5 => (qs_freezeK (es := l5) 4 (qs_append 3 (q_call (ok__law_made T) (hr.mono (by decide)) T.g__law_made T.F__law_made.kp T.b__law_made (qa_cons (qe_tup (qa_cons (qe_ix T.hK (hu1 hr) (qh_e (qe_var 1)) qe_int) (qa_cons (qe_var 4) qa_nil))) qa_nil)) fun d7 => (qs_if (γ' := fun (a10 : List D) => [.d v0, .d v1, .d d1, .l a10, .d (.dct l5), .no, .no, .no, .no, .no]) (qt_cmp (om_ne T.hK hr.units) (qh_e (qe_ix T.hK (hu1 hr) (qh_e (qe_var 1)) qe_int)) (qh_e (qe_lst qa_nil))) (qs_append 3 (q_call (ok__law_made T) (hr.mono (by decide)) T.g__law_made T.F__law_made.kp T.b__law_made (qa_cons (qe_tup (qa_cons (qe_slice T.hK (qh_e (qe_ix T.hK (hu1 hr) (qh_e (qe_var 1)) qe_int)) (qo_some qe_int) qo_none) (qa_cons (qe_ix T.hK (hu1 hr) (qh_e (qe_var 1)) qe_int) qa_nil))) qa_nil)) fun d11 => (qs_nx (((l2 ++ [d3]) ++ [d7]) ++ [d11]) (show SubG [.d v0, .d v1, .d d1, .l (((l2 ++ [d3]) ++ [d7]) ++ [d11]), .d (.dct l5), .no, .no, .no, .no, .no] _ from (.same (.same (.same (.same (.same (.no (.no (.no (.no (.no .nil))))))))))))) (qs_nx ((l2 ++ [d3]) ++ [d7]) (show SubG [.d v0, .d v1, .d d1, .l ((l2 ++ [d3]) ++ [d7]), .d (.dct l5), .no, .no, .no, .no, .no] _ from (.same (.same (.same (.same (.same (.no (.no (.no (.no (.no .nil)))))))))))) (fun a10 => (qs_if (γ' := fun (a18 : List D) => [.d v0, .d v1, .d d1, .l a18, .d (.dct l5), .no, .no, .no, .no, .no]) (qt_cmp (om_ne T.hK hr.units) (qh_e (qe_ix T.hK (hu1 hr) (qh_e (qe_var 1)) qe_int)) (qh_e (qe_K qk_new))) (qs_set 6 (qe_K (qk_callTy (ck_dict T.hK rfl) T.z_dict PyProof.Rows.Boot.«dict» (qb_cons (qh_e (qe_L (ql_lc 9 T.hK (compOk1 sc__law_refusals_right.nd (blkOk_by (N := N__law_refusals_right) (sc := defScope s__law_refusals_right) (own := [("_law_mark", 9)]) (by decide +kernel))) (qi_f (qf_e T.hK (qe_op (om_add T.hK) (qh_e (qe_slice T.hK (qh_e (qe_L (ql_callB (cl_sorted T.hK rfl) T.z_sorted PyProof.Rows.Boot.«sorted» (qb_cons (qh_e (qe_ix T.hK (hu1 hr) (qh_e (qe_var 1)) qe_int)) qb_nil)))) (qo_some qe_int) qo_none)) (qh_e (qe_lst (qa_cons (q_call (ok__law_free T) (hr.mono (by decide)) T.g__law_free T.F__law_free.kp T.b__law_free (qa_cons (qe_L (ql_callB (cl_sorted T.hK rfl) T.z_sorted PyProof.Rows.Boot.«sorted» (qb_cons (qh_e (qe_ix T.hK (hu1 hr) (qh_e (qe_var 1)) qe_int)) qb_nil))) qa_nil)) qa_nil)))))) (fun _ _ _ _ _ e20 => qts_nil) (fun _ _ _ _ _ e20 => (qe_tup (qa_cons (qe_var 9) (qa_cons qe_int qa_nil))))))) qb_nil))) (fun d19 => (qs_append 3 (q_call (ok__law_made T) (hr.mono (by decide)) T.g__law_made T.F__law_made.kp T.b__law_made (qa_cons (qe_tup (qa_cons (qe_ix T.hK (hu1 hr) (qh_e (qe_var 1)) qe_int) (qa_cons (qe_var 6) qa_nil))) qa_nil)) fun d21 => (qs_append 3 (q_call (ok__law_made T) (hr.mono (by decide)) T.g__law_made T.F__law_made.kp T.b__law_made (qa_cons (qe_tup (qa_cons (qe_ix T.hK (hu1 hr) (qh_e (qe_var 1)) qe_int) (qa_cons (qe_K (qk_callTy (ck_dict T.hK rfl) T.z_dict PyProof.Rows.Boot.«dict» (qb_cons (qh_e (qe_L (ql_lc 9 T.hK (compOk1 sc__law_refusals_right.nd (blkOk_by (N := N__law_refusals_right) (sc := defScope s__law_refusals_right) (own := [("_law_mark", 9)]) (by decide +kernel))) (qi_f (qf_e T.hK (qe_slice T.hK (qh_e (qe_L (ql_callB (cl_sorted T.hK rfl) T.z_sorted PyProof.Rows.Boot.«sorted» (qb_cons (qh_e (qe_ix T.hK (hu1 hr) (qh_e (qe_var 1)) qe_int)) qb_nil)))) (qo_some qe_int) qo_none))) (fun _ _ _ _ _ e23 => qts_nil) (fun _ _ _ _ _ e23 => (qe_tup (qa_cons (qe_var 9) (qa_cons qe_int qa_nil))))))) qb_nil))) qa_nil))) qa_nil)) fun d22 => (qs_nx ((a10 ++ [d21]) ++ [d22]) (show SubG [.d v0, .d v1, .d d1, .l ((a10 ++ [d21]) ++ [d22]), .d (.dct l5), .no, .d d19, .no, .no, .no] _ from (.same (.same (.same (.same (.same (.no (.no (.no (.no (.no .nil))))))))))))))) sc__law_refusals_right.nd) (qs_nx a10 (show SubG [.d v0, .d v1, .d d1, .l a10, .d (.dct l5), .no, .no, .no, .no, .no] _ from (.same (.same (.same (.same (.same (.no (.no (.no (.no (.no .nil)))))))))))) (fun a18 => (qs_freezeL (ds := a18) 3 (qs_for1 (γ' := fun (a27 : Unit) => [.d v0, .d v1, .d d1, .d (.lst a18), .d (.dct l5), .no, .no, .no, .no, .no]) 5 () T.hK (passes_of rfl) sc__law_refusals_right.nd (qf_e T.hK (qe_var 3)) (show SubG [.d v0, .d v1, .d d1, .d (.lst a18), .d (.dct l5), .no, .no, .no, .no, .no] _ from (.same (.same (.same (.same (.same (.no (.no (.no (.no (.no .nil))))))))))) (fun t28 a27 => (qs_for1 (γ' := fun (a31 : Unit) => [.d v0, .d v1, .d d1, .d (.lst a18), .d (.dct l5), .d t28, .no, .no, .no, .no]) 7 () T.hK (passes_of rfl) sc__law_refusals_right.nd (qf_range1 T.z_range qe_int) (show SubG [.d v0, .d v1, .d d1, .d (.lst a18), .d (.dct l5), .d t28, .no, .no, .no, .no] _ from (.same (.same (.same (.same (.same (.same (.no (.no (.no (.no .nil))))))))))) (fun t32 a31 => (qs_set 8 (q_call (ok__law_refused T) (hr.mono (by decide)) T.g__law_refused T.F__law_refused.kp T.b__law_refused (qa_cons (qe_var 2) (qa_cons (qe_var 7) (qa_cons (qe_var 5) qa_nil)))) (fun d33 => (qs_ifE (QW.qt (qw_or (qt_isN (qe_var 8)) (qw_or1 (qt_neS "Story" T.ok T.hK T.ct_Story (T.eq_Story _ rfl) (ok_Story___eq__ T) (hr.mono (by decide)) T.b_Story___eq__ (qe_ix T.hK (hu1 hr) (qh_e (qe_var 8)) qe_int) (qe_var 5))))) (qs_ret qe_bl) (qs_nx () (show SubG [.d v0, .d v1, .d d1, .d (.lst a18), .d (.dct l5), .d t28, .no, .d t32, .d d33, .no] _ from (.same (.same (.same (.same (.same (.same (.no (.no (.no (.no .nil)))))))))))))) sc__law_refusals_right.nd)) (fun a31 => (qs_nx () (show SubG [.d v0, .d v1, .d d1, .d (.lst a18), .d (.dct l5), .d t28, .no, .no, .no, .no] _ from (.same (.same (.same (.same (.same (.no (.no (.no (.no (.no .nil))))))))))))))) (fun a27 => (qs_ret (qe_and (qe_cmp (om_eq T.hK hr.units) (qh_e (qe_L (q_prop T.ok T.hK "Story" T.ct_Story T.p_Story_days (ok_Story_days T) (hr.mono (by decide)) T.b_Story_days (qe_var 2)))) (qh_e (qe_ix T.hK (hu1 hr) (qh_e (qe_var 1)) qe_int))) (qe_and (qe_cmp (om_eq T.hK hr.units) (qh_e (qe_K (q_prop T.ok T.hK "Story" T.ct_Story T.p_Story_strays (ok_Story_strays T) (hr.mono (by decide)) T.b_Story_strays (qe_var 2)))) (qh_e (qe_ix T.hK (hu1 hr) (qh_e (qe_var 1)) qe_int))) (qe_one (qe_not (qe_callB (cm_any rfl) T.z_any PyProof.Rows.Boot.«any» (qb_cons (qh_e (qe_L (ql_lc 5 T.hK (compOk1 sc__law_refusals_right.nd (blkOk_by (N := N__law_refusals_right) (sc := defScope s__law_refusals_right) (own := [("_law_value", 5)]) (by decide +kernel))) (qi_f (qf_e T.hK (qe_var 3))) (fun _ _ _ _ _ e34 => qts_nil) (fun _ _ _ _ _ e34 => (qe_eqS "Story" T.ok T.hK T.ct_Story (T.eq_Story _ rfl) (ok_Story___eq__ T) (hr.mono (by decide)) T.b_Story___eq__ (qe_var 2) (qe_var 5)))))) qb_nil))))))))))))))))))) sc__law_refusals_right.nd))) sc__law_refusals_right.nd)) sc__law_refusals_right.nd)⟩
noncomputable def m__law_refusals_right (v0 : D) (v1 : D) : M D := callF (a__law_refusals_right v0 v1).1
theorem ok__law_refusals_right {P : Program} {w : World} {K : PySem.W.Frag} {mg : Str → Option Value} {base : Heap} (T : Txt P w K mg base) : PM.FnOk P w K mg base (L2.CX P w) 13 T.f__law_refusals_right T.d__law_refusals_right ["_law_rng_here", "_law_one"] (spM T.B (fn2 m__law_refusals_right)) :=
  fn_ok T.F__law_refusals_right sc__law_refusals_right ar2 rfl fun cdv A outer s H E hr ds hl => match ds, hl with
    | [v0, v1], _ => ⟨_, rfl, (a__law_refusals_right v0 v1).2 T cdv A outer s H E hr⟩

noncomputable def a_law (v0 : D) : Body ["_law_script", "_law_index", "_law_rng_here", "_law_marks", "_law_many", "_law_plain", "_law_k", "_law_one"] "law" s_law 13 [v0] (fun T => T.f_law) :=
  ⟨_, fun T cdv A outer s H E hr => (qs_for1 (γ' := fun (a8 : Unit) => [.d v0, .no, .no, .no, .no, .no, .no, .no]) 1 () T.hK (passes_of rfl) sc_law.nd (qf_range1 T.z_range (qe_callB (cm_max2 rfl) T.z_max PyProof.Rows.Boot.«max» (qb_cons (qh_e qe_int) (qb_cons (qh_e (qe_callB (cm_min2 rfl) T.z_min PyProof.Rows.Boot.«min» (qb_cons (qh_e qe_int) (qb_cons (qh_e (qe_callB (cm_len T.hK) T.z_len PyProof.Rows.Boot.«len» (qb_cons (qh_e (qe_var 0)) qb_nil))) qb_nil)))) qb_nil)))) (show SubG [.d v0, .no, .no, .no, .no, .no, .no, .no] _ from (.same (.no (.no (.no (.no (.no (.no (.no .nil))))))))) (fun t9 a8 => (qs_set 2 (q_call (ok__law_rng T) (hr.mono (by decide)) T.g__law_rng T.F__law_rng.kp T.b__law_rng (qa_cons (qe_var 0) (qa_cons (qe_var 1) qa_nil))) (fun d10 => (qs_set 3 (qe_L (ql_callB (cl_sorted T.hK rfl) T.z_sorted PyProof.Rows.Boot.«sorted» (qb_cons (qh_e (q_call (ok__law_names T) (hr.mono (by decide)) T.g__law_names T.F__law_names.kp T.b__law_names (qa_cons (qe_var 2) (qa_cons (q_call (ok__law_draw T) (hr.mono (by decide)) T.g__law_draw T.F__law_draw.kp T.b__law_draw (qa_cons (qe_var 2) (qa_cons qe_int qa_nil))) (qa_cons (qe_lst qa_nil) qa_nil))))) qb_nil))) (fun d11 => (qs_set 4 (q_call (ok__law_draw T) (hr.mono (by decide)) T.g__law_draw T.F__law_draw.kp T.b__law_draw (qa_cons (qe_var 2) (qa_cons qe_int qa_nil))) (fun d12 => (qs_set 5 (qe_cL (ql_lst (qa_cons (q_call (ok__law_plain_story T) (hr.mono (by decide)) T.g__law_plain_story T.F__law_plain_story.kp T.b__law_plain_story (qa_cons (qe_var 2) (qa_cons (qe_var 4) (qa_cons (qe_var 3) qa_nil)))) qa_nil))) (fun d13 => (qs_for1 (γ' := fun (a15 : Unit) => [.d v0, .d t9, .d d10, .d d11, .d d12, .d d13, .no, .no]) 6 () T.hK (passes_of rfl) sc_law.nd (qf_range1 T.z_range (qe_op (om_add T.hK) (qh_e qe_int) (qh_e (q_call (ok__law_draw T) (hr.mono (by decide)) T.g__law_draw T.F__law_draw.kp T.b__law_draw (qa_cons (qe_var 2) (qa_cons qe_int qa_nil)))))) (show SubG [.d v0, .d t9, .d d10, .d d11, .d d12, .d d13, .no, .no] _ from (.same (.same (.same (.same (.same (.same (.no (.no .nil))))))))) (fun t16 a15 => (qs_ifE (qt_cmp (om_eq T.hK hr.units) (qh_e (q_call (ok__law_draw T) (hr.mono (by decide)) T.g__law_draw T.F__law_draw.kp T.b__law_draw (qa_cons (qe_var 2) (qa_cons qe_int qa_nil)))) (qh_e qe_int)) (qs_appC (qe_var 5) (q_call (ok__law_plain_story T) (hr.mono (by decide)) T.g__law_plain_story T.F__law_plain_story.kp T.b__law_plain_story (qa_cons (qe_var 2) (qa_cons (qe_var 4) (qa_cons (qe_var 3) qa_nil)))) (qs_nx () (show SubG [.d v0, .d t9, .d d10, .d d11, .d d12, .d d13, .d t16, .no] _ from (.same (.same (.same (.same (.same (.same (.no (.no .nil))))))))))) (qs_appC (qe_var 5) (q_call (ok__law_near T) (hr.mono (by decide)) T.g__law_near T.F__law_near.kp T.b__law_near (qa_cons (qe_var 2) (qa_cons (q_call (ok__law_choice T) (hr.mono (by decide)) T.g__law_choice T.F__law_choice.kp T.b__law_choice (qa_cons (qe_var 2) (qa_cons (qe_var 5) qa_nil))) qa_nil))) (qs_nx () (show SubG [.d v0, .d t9, .d d10, .d d11, .d d12, .d d13, .d t16, .no] _ from (.same (.same (.same (.same (.same (.same (.no (.no .nil))))))))))))) (fun a15 => (qs_frzC 5 (fun d17 => (qs_if (γ' := fun (a19 : Unit) => [.d v0, .d t9, .d d10, .d d11, .d d12, .d d17, .no, .no]) (QW.qt (qw_or (qt_not (qt_val (q_call (ok__law_pairs_right T) (hr.mono (by decide)) T.g__law_pairs_right T.F__law_pairs_right.kp T.b__law_pairs_right (qa_cons (qe_var 5) qa_nil)))) (qw_or1 (qt_not (qt_val (qe_callB (cm_all rfl) T.z_all PyProof.Rows.Boot.«all» (qb_cons (qh_e (qe_L (ql_lc 7 T.hK (compOk1 sc_law.nd (blkOk_by (N := N_law) (sc := defScope s_law) (own := [("_law_one", 7)]) (by decide +kernel))) (qi_f (qf_e T.hK (qe_var 5))) (fun _ _ _ _ _ e18 => qts_nil) (fun _ _ _ _ _ e18 => (q_call (ok__law_new_right T) (hr.mono (by decide)) T.g__law_new_right T.F__law_new_right.kp T.b__law_new_right (qa_cons (qe_var 7) qa_nil)))))) qb_nil))))))) (qs_ret qe_bl) (qs_nx () (show SubG [.d v0, .d t9, .d d10, .d d11, .d d12, .d d17, .no, .no] _ from (.same (.same (.same (.same (.same (.same (.no (.no .nil)))))))))) (fun a19 => (qs_ifE (qt_not (qt_val (q_call (ok__law_refusals_right T) (hr.mono (by decide)) T.g__law_refusals_right T.F__law_refusals_right.kp T.b__law_refusals_right (qa_cons (qe_var 2) (qa_cons (q_call (ok__law_choice T) (hr.mono (by decide)) T.g__law_choice T.F__law_choice.kp T.b__law_choice (qa_cons (qe_var 2) (qa_cons (qe_var 5) qa_nil))) qa_nil))))) (qs_ret qe_bl) (qs_nx () (show SubG [.d v0, .d t9, .d d10, .d d11, .d d12, .d d17, .no, .no] _ from (.same (.no (.no (.no (.no (.no (.no (.no .nil)))))))))))))))))) sc_law.nd)) sc_law.nd)) sc_law.nd)) sc_law.nd)) (fun a8 => (qs_ret qe_bl)))⟩
noncomputable def m_law (v0 : D) : M D := callF (a_law v0).1
theorem ok_law {P : Program} {w : World} {K : PySem.W.Frag} {mg : Str → Option Value} {base : Heap} (T : Txt P w K mg base) : PM.FnOk P w K mg base (L2.CX P w) 14 T.f_law T.d_law ["_law_script"] (spM T.B (fn1 m_law)) :=
  fn_ok T.F_law sc_law ar1 rfl fun cdv A outer s H E hr ds hl => match ds, hl with
    | [v0], _ => ⟨_, rfl, (a_law v0).2 T cdv A outer s H E hr⟩

end Mine
set_option Elab.async false
set_option linter.all false
set_option maxRecDepth 100000
/-! Pl0: plain: what a mirror answers, by weakest preconditions. No program here. -/
namespace PM
open PySem
def wpM {α : Type} (m : M α) (s : Store) (Q : α → Store → Prop) : Prop := match m s with
  | .ok a s' => Q a s'
  | _ => False
theorem wpM_pure {α : Type} {a : α} {s : Store} {Q : α → Store → Prop} (h : Q a s) : wpM (pure a) s Q := h
theorem wpM_bind {α β : Type} {m : M α} {f : α → M β} {s : Store} {Q : β → Store → Prop} (h : wpM m s fun a s' => wpM (f a) s' Q) : wpM (m >>= f) s Q := by
  unfold wpM at h ⊢
  rw [bind_run]
  cases q : m s with
  | ok a s' => rw [q] at h; exact h
  | err e s' => rw [q] at h; exact False.elim h
  | bad => rw [q] at h; exact False.elim h
theorem wpM_mono {α : Type} {m : M α} {s : Store} {Q Q' : α → Store → Prop} (h : wpM m s Q) (k : ∀ a s', Q a s' → Q' a s') : wpM m s Q' := by
  unfold wpM at h ⊢
  cases q : m s with
  | ok a s' => rw [q] at h; exact k _ _ h
  | err e s' => rw [q] at h; exact False.elim h
  | bad => rw [q] at h; exact False.elim h
theorem wpM_ok {α : Type} {m : M α} {s : Store} {Q : α → Store → Prop} (h : wpM m s Q) : ∃ a s', m s = .ok a s' ∧ Q a s' := by
  unfold wpM at h
  cases q : m s with
  | ok a s' => rw [q] at h; exact ⟨a, s', rfl, h⟩
  | err e s' => rw [q] at h; exact False.elim h
  | bad => rw [q] at h; exact False.elim h
theorem wpM_of {α : Type} {m : M α} {s s' : Store} {a : α} {Q : α → Store → Prop} (e : m s = .ok a s') (h : Q a s') : wpM m s Q := by
  unfold wpM
  rw [e]
  exact h
theorem wpM_noErr {α : Type} {m : M α} {s : Store} {Q : α → Store → Prop} (h : wpM m s Q) : wpM (noErr m) s Q := by
  unfold wpM noErr at *
  cases q : m s with
  | ok a s' => rw [q] at h; exact h
  | err e s' => rw [q] at h; exact False.elim h
  | bad => rw [q] at h; exact False.elim h
theorem wpM_if {α : Type} {c : Prop} [Decidable c] {a b : M α} {s : Store} {Q : α → Store → Prop} (h1 : c → wpM a s Q) (h2 : ¬ c → wpM b s Q) : wpM (if c then a else b) s Q := by
  split
  · exact h1 (by assumption)
  · exact h2 (by assumption)
theorem wpM_fits {α : Type} {n : Nat} {m : M α} {s : Store} {Q : α → Store → Prop} (hn : n ≤ 16777216) (h : wpM m s Q) : wpM (fits n m) s Q := by
  unfold fits
  rw [if_pos hn]
  exact h
theorem wpM_guard {α : Type} {c : Bool} {m : M α} {s : Store} {Q : α → Store → Prop} (hc : c = true) (h : wpM m s Q) : wpM (guardM c m) s Q := by
  unfold guardM
  rw [if_pos hc]
  exact h
/-- a comprehension: an invariant over the items done; the store may change -/
theorem wpM_compM {mt : D → M Bool} {me : D → M D} {I : List D → List D → Store → Prop} : ∀ (todo : List D) (done out : List D) (s : Store), I done out s →
    (∀ d done out s, I done out s → wpM (mt d) s fun b s1 => if b = true then wpM (me d) s1 fun y s2 => I (done ++ [d]) (out ++ [y]) s2 else I (done ++ [d]) out s1) →
    wpM (compM mt me todo) s fun ys s' => I (done ++ todo) (out ++ ys) s'
  | [], done, out, s, h, _ => by
    rw [List.append_nil]
    exact wpM_pure (by rw [List.append_nil]; exact h)
  | d :: r, done, out, s, h, st => by
    unfold compM
    refine wpM_bind (wpM_noErr (wpM_mono (st d done out s h) fun b s1 h1 => ?_))
    cases b with
    | true =>
      refine wpM_bind (wpM_noErr (wpM_mono h1 fun y s2 h2 => ?_))
      refine wpM_bind (wpM_mono (wpM_compM r (done ++ [d]) (out ++ [y]) s2 h2 st) fun ys s3 h3 => wpM_pure ?_)
      simpa [List.append_assoc] using h3
    | false =>
      have h1' : I (done ++ [d]) out s1 := h1
      refine wpM_mono (wpM_compM r (done ++ [d]) out s1 h1' st) fun ys s3 h3 => ?_
      simpa [List.append_assoc] using h3
theorem guard_ok {α : Type} {c : Bool} {a : α} {s : Store} (h : c = true) : guardM c (pure a) s = .ok a s := by
  unfold guardM
  rw [if_pos h]
  rfl
theorem mul_ok {i j : Int} {s : Store} (h : (-(2 ^ 64) < i ∧ i < 2 ^ 64) ∨ (-(2 ^ 64) < j ∧ j < 2 ^ 64)) : mMul (.int i) (.int j) s = .ok (.int (i * j)) s := guard_ok (cdec_iff.mpr h)
theorem mod_ok {i j : Int} {s : Store} (h : 0 < j) : mMod (.int i) (.int j) s = .ok (.int (i % j)) s := guard_ok (cdec_iff.mpr h)
theorem div_ok {i j : Int} {s : Store} (h : j ≠ 0 ∧ j.natAbs < 1073741824) : mDiv (.int i) (.int j) s = .ok (.int (i.fdiv j)) s := guard_ok (cdec_iff.mpr h)
theorem pow_ok {i j : Int} {s : Store} (h : 0 ≤ j ∧ j ≤ 1000000 ∧ i.natAbs < 2 ^ 64) : mPow (.int i) (.int j) s = .ok (.int (i ^ j.toNat)) s := guard_ok (cdec_iff.mpr h)
theorem divmod_ok {i j : Int} {s : Store} (h : 0 < j ∧ j < 1073741824) : mDivmod (.int i) (.int j) s = .ok (.tup [.int (i / j), .int (i % j)]) s := guard_ok (cdec_iff.mpr h)
theorem strI_ok {i : Int} {s : Store} (h : i.natAbs.log2 < 1920) : mStrI (.int i) s = .ok (.str (toString i)) s := guard_ok (decide_eq_true h)
/-- a comprehension that changes nothing -/
theorem compM_pure {mt : D → M Bool} {me : D → M D} {c : D → Bool} {f : D → D} {s : Store} : ∀ (ds : List D), (∀ d ∈ ds, mt d s = .ok (c d) s) → (∀ d ∈ ds, c d = true → me d s = .ok (f d) s) → compM mt me ds s = .ok ((ds.filter c).map f) s
  | [], _, _ => rfl
  | d :: r, h1, h2 => by
    have ih := compM_pure r (fun x hx => h1 x (List.mem_cons_of_mem _ hx)) (fun x hx => h2 x (List.mem_cons_of_mem _ hx))
    unfold compM
    rw [bind_ok (show noErr (mt d) s = .ok (c d) s by unfold noErr; rw [h1 d List.mem_cons_self])]
    cases q : c d with
    | true =>
      rw [if_pos rfl, bind_ok (show noErr (me d) s = .ok (f d) s by unfold noErr; rw [h2 d List.mem_cons_self q]), bind_ok ih, List.filter_cons_of_pos q]
      rfl
    | false =>
      rw [if_neg (by decide), ih, List.filter_cons_of_neg (by rw [q]; decide)]
theorem comp_pure {mt : D → M Bool} {me : D → M D} {c : D → Bool} {f : D → D} {s : Store} {ds : List D} (hz : ds.length ≤ 16777216) (h1 : ∀ d ∈ ds, mt d s = .ok (c d) s) (h2 : ∀ d ∈ ds, c d = true → me d s = .ok (f d) s) : comp mt me ⟨yes, ds⟩ s = .ok ((ds.filter c).map f) s := by
  rw [comp_yes]
  unfold fits
  rw [if_pos hz]
  exact compM_pure ds h1 h2
/-- .. without a test -/
theorem comp_all {me : D → M D} {f : D → D} {s : Store} {ds : List D} (hz : ds.length ≤ 16777216) (h2 : ∀ d ∈ ds, me d s = .ok (f d) s) : comp (fun _ => pure true) me ⟨yes, ds⟩ s = .ok (ds.map f) s := by
  have := comp_pure (mt := fun _ => pure true) (me := me) (c := fun _ => true) (f := f) (s := s) hz (fun _ _ => rfl) (fun d hd _ => h2 d hd)
  rwa [List.filter_eq_self.mpr (fun _ _ => rfl)] at this
end PM
set_option Elab.async false
set_option linter.all false
set_option maxRecDepth 100000
set_option maxHeartbeats 400000
namespace Mine
open PySem PM
/-- the rng's cell -/
def Rng (s : Store) (n : Nat) (a b : Int) : Prop := s[n]? = some (.lst [.int a, .int b]) ∧ 0 ≤ a ∧ 0 ≤ b ∧ b < 2147483423
theorem ix_rng0 {s : Store} {n : Nat} {a b : Int} (h : Rng s n a b) : mIx (.cel n) (.int 0) s = .ok (.int a) s := by
  unfold mIx ixOf
  simp [seqOf, dctOf, ixAt, atI, ixN, h.1]
theorem ix_rng1 {s : Store} {n : Nat} {a b : Int} (h : Rng s n a b) : mIx (.cel n) (.int 1) s = .ok (.int b) s := by
  unfold mIx ixOf
  simp [seqOf, dctOf, ixAt, atI, ixN, h.1]
theorem set_rng0 {s : Store} {n : Nat} {a b a' : Int} (h : Rng s n a b) : setCel (.cel n) (.int 0) (.int a') s = .ok () (s.set n (.lst [.int a', .int b])) := by
  unfold setCel
  simp [h.1, ixD, ixN]
theorem set_rng1 {s : Store} {n : Nat} {a b b' : Int} (h : Rng s n a b) : setCel (.cel n) (.int 1) (.int b') s = .ok () (s.set n (.lst [.int a, .int b'])) := by
  unfold setCel
  simp [h.1, ixD, ixN]
theorem rng_set {s : Store} {n : Nat} {a b a' b' : Int} (h : Rng s n a b) (h1 : 0 ≤ a') (h2 : 0 ≤ b') (h3 : b' < 2147483423) : Rng (s.set n (.lst [.int a', .int b'])) n a' b' := by
  refine ⟨?_, h1, h2, h3⟩
  have lt : n < s.length := (List.getElem?_eq_some_iff.mp h.1).1
  rw [List.getElem?_set_self lt]
theorem spec_draw {s : Store} {n : Nat} {a b many : Int} (h : Rng s n a b) (hm : 0 < many) (hm2 : many < 1073741824) :
    wpM (m__law_draw (.cel n) (.int many)) s fun d s' => ∃ r a' b', d = .int r ∧ 0 ≤ r ∧ r < many ∧ s' = s.set n (.lst [.int a', .int b']) ∧ 0 ≤ a' ∧ 0 ≤ b' ∧ b' < 2147483423 := by
  unfold m__law_draw a__law_draw callF
  dsimp only
  simp only [pure_bind', bind_assoc', seqF, ap1, ap2, fn2]
  refine wpM_bind (wpM_of (ix_rng0 h) ?_)
  refine wpM_bind (wpM_of (a := .bl (decide (0 < a))) (s' := s) rfl ?_)
  refine wpM_bind (wpM_of (a := decide (0 < a)) (s' := s) rfl ?_)
  by_cases ha : 0 < a
  · simp only [ha, decide_true, if_true, bind_assoc', pure_bind']
    refine wpM_bind (wpM_of (ix_rng0 h) ?_)
    refine wpM_bind (wpM_guard (cdec_iff.mpr ⟨hm, hm2⟩) (wpM_pure ?_))
    show wpM (setCel (.cel n) (.int 0) (.int (a / many)) >>= _ >>= _) s _
    simp only [bind_assoc', pure_bind']
    refine wpM_bind (wpM_of (set_rng0 h) ?_)
    exact wpM_pure ⟨a % many, a / many, b, rfl, Int.emod_nonneg _ (by omega), Int.emod_lt_of_pos _ hm, rfl, Int.ediv_nonneg h.2.1 (by omega), h.2.2.1, h.2.2.2⟩
  · simp only [ha, decide_false, Bool.false_eq_true, if_false, bind_assoc', pure_bind']
    refine wpM_bind (wpM_of (ix_rng1 h) ?_)
    have hb := h.2.2
    refine wpM_bind (wpM_of (mul_ok (.inl ⟨by omega, by omega⟩)) ?_)
    refine wpM_bind (wpM_of (a := .int (b * 40503 + 7919)) (s' := s) rfl ?_)
    refine wpM_bind (wpM_of (a := .int (b * 40503 + 7919)) (s' := s) rfl ?_)
    refine wpM_bind (wpM_of (mod_ok (by decide)) ?_)
    refine wpM_bind (wpM_of (set_rng1 h) ?_)
    have q1 : 0 ≤ (b * 40503 + 7919) % 2147483423 := Int.emod_nonneg _ (by decide)
    have q2 : (b * 40503 + 7919) % 2147483423 < 2147483423 := Int.emod_lt_of_pos _ (by decide)
    generalize (b * 40503 + 7919) % 2147483423 = b' at q1 q2 ⊢
    have h' := rng_set (a' := a) (b' := b') h h.2.1 q1 q2
    refine wpM_bind (wpM_of (ix_rng1 h') ?_)
    refine wpM_bind (wpM_of (ix_rng1 h') ?_)
    refine wpM_bind (wpM_of (mul_ok (.inl ⟨by omega, by omega⟩)) ?_)
    refine wpM_bind (wpM_of (a := .int (b' * b')) rfl ?_)
    refine wpM_bind (wpM_of (mod_ok (by decide)) ?_)
    refine wpM_bind (wpM_of (div_ok (by decide)) ?_)
    refine wpM_bind (wpM_of (a := .int ((b' * b' % 2147483399).fdiv 17)) rfl ?_)
    refine wpM_bind (wpM_of (mod_ok hm) ?_)
    exact wpM_pure ⟨_, a, b', rfl, Int.emod_nonneg _ (by omega), Int.emod_lt_of_pos _ hm, rfl, h.2.1, q1, q2⟩
theorem len_scr {ns : List Int} {s : Store} : mLen (.scr ns) s = .ok (.int ns.length) s := by
  unfold mLen lenOf
  simp [seqOf]
theorem ix_scr {ns : List Int} {k : Nat} {s : Store} (h : k < ns.length) : ∃ c, mIx (.scr ns) (.int k) s = .ok (.int c) s := by
  refine ⟨ns[k], ?_⟩
  unfold mIx ixOf
  simp [seqOf, dctOf, ixAt, atI, ixN, h]
theorem spec_rng {s : Store} {ns : List Int} {k : Nat} (hk : k < 1000) :
    wpM (m__law_rng (.scr ns) (.int k)) s fun d s' => ∃ a b, d = .cel s.length ∧ s' = s ++ [.lst [.int a, .int b]] ∧ Rng s' s.length a b := by
  unfold m__law_rng a__law_rng callF
  dsimp only
  simp only [pure_bind', bind_assoc', seqF, ap1, ap2, fn2]
  refine wpM_bind (wpM_of len_scr ?_)
  refine wpM_bind (wpM_of (a := .bl (decide ((k : Int) < ns.length))) (s' := s) rfl ?_)
  refine wpM_bind (wpM_of (a := decide ((k : Int) < ns.length)) (s' := s) rfl ?_)
  have cell : ∀ (f : D → M D) Q, (∀ c : Int, 0 ≤ c → wpM (f (.int c)) s Q) → wpM ((if decide ((k : Int) < ns.length) = true then mIx (.scr ns) (.int k) >>= fun x => mAbs x else pure (.int 0)) >>= f) s Q := fun f Q hf => by
    refine wpM_bind ?_
    by_cases h : (k : Int) < ns.length
    · rw [if_pos (decide_eq_true h)]
      obtain ⟨c, e⟩ := ix_scr (ns := ns) (s := s) (k := k) (by omega)
      refine wpM_bind (wpM_of e (wpM_of (a := .int (if c < 0 then -c else c)) (s' := s) rfl (hf _ ?_)))
      split <;> omega
    · rw [if_neg (by simpa using h)]
      exact wpM_pure (hf 0 (by decide))
  refine cell _ _ fun c hc => ?_
  refine wpM_bind (wpM_of (pow_ok (by decide)) ?_)
  refine wpM_bind (wpM_of (a := .int (c - 10 ^ 18)) (s' := s) rfl ?_)
  refine wpM_bind (wpM_of (a := .int (if c - 10 ^ 18 > 0 then c - 10 ^ 18 else 0)) (s' := s) rfl ?_)
  refine wpM_bind (wpM_of (a := .int c) (s' := s) rfl ?_)
  refine wpM_bind (wpM_of (mod_ok (by decide)) ?_)
  refine wpM_bind (wpM_of (mul_ok (.inl (by decide))) ?_)
  refine wpM_bind (wpM_of (a := .int (c % 2147482951 + 5119 * k)) (s' := s) rfl ?_)
  refine wpM_bind (wpM_of (a := .int (c % 2147482951 + 5119 * k + 41)) (s' := s) rfl ?_)
  have q1 : 0 ≤ c % 2147482951 := Int.emod_nonneg _ (by decide)
  have q2 : c % 2147482951 < 2147482951 := Int.emod_lt_of_pos _ (by decide)
  refine wpM_bind (wpM_of (pow_ok ⟨by decide, by decide, by omega⟩) ?_)
  generalize (c % 2147482951 + 5119 * (k : Int) + 41) ^ ((2 : Int).toNat) = p
  refine wpM_bind (wpM_of (a := .int p) (s' := s) rfl ?_)
  refine wpM_bind (wpM_of (mod_ok (by decide)) ?_)
  refine wpM_bind (wpM_of (a := .int (p % 2147482811 + 1)) (s' := s) rfl ?_)
  refine wpM_bind (wpM_fits (by simp) (wpM_pure ?_))
  refine wpM_bind (wpM_of (a := .cel s.length) (s' := s ++ [.lst [.int (if c - 10 ^ 18 > 0 then c - 10 ^ 18 else 0), .int (p % 2147482811 + 1)]]) rfl ?_)
  have q3 : 0 ≤ p % 2147482811 := Int.emod_nonneg _ (by decide)
  have q4 : p % 2147482811 < 2147482811 := Int.emod_lt_of_pos _ (by decide)
  exact wpM_pure ⟨_, _, rfl, rfl, by simp, by split <;> omega, by omega, by omega⟩
theorem len_seq {x : D} {ds : List D} {s : Store} (h : seqOf s x = some ds) : mLen x s = .ok (.int ds.length) s := by
  unfold mLen lenOf
  cases x with
  | str y => cases h
  | _ => simp only [h]
theorem ix_seq {x : D} {ds : List D} {s : Store} {r : Int} (h : seqOf s x = some ds) (h0 : 0 ≤ r) (h1 : r < ds.length) : ∃ d, d ∈ ds ∧ mIx x (.int r) s = .ok d s := by
  have lt : r.toNat < ds.length := by omega
  refine ⟨ds[r.toNat], List.getElem_mem lt, ?_⟩
  have e : atI ds r = some ds[r.toNat] := by
    unfold atI ixN
    rw [if_pos h0, if_pos h1]
    show ds[r.toNat]? = _
    rw [List.getElem?_eq_getElem lt]
  unfold mIx ixOf
  cases x with
  | str y => cases h
  | _ => simp only [h, ixAt, e]
theorem spec_choice {s : Store} {n : Nat} {a b : Int} {x : D} {ds : List D} (h : Rng s n a b) (hx : ∀ mc, seqOf (s.set n mc) x = some ds) (hx0 : seqOf s x = some ds) (h0 : ds ≠ []) (h1 : ds.length < 1073741824) :
    wpM (m__law_choice (.cel n) x) s fun d s' => d ∈ ds ∧ ∃ a' b', s' = s.set n (.lst [.int a', .int b']) ∧ 0 ≤ a' ∧ 0 ≤ b' ∧ b' < 2147483423 := by
  unfold m__law_choice a__law_choice callF
  dsimp only
  simp only [pure_bind', bind_assoc', ap1, fn2]
  refine wpM_bind (wpM_of (len_seq hx0) ?_)
  have hp : 0 < ds.length := List.length_pos_iff.mpr h0
  refine wpM_bind (wpM_mono (spec_draw h (by omega) (by omega)) ?_)
  rintro d s' ⟨r, a', b', rfl, r0, r1, rfl, q⟩
  obtain ⟨d, hd, e⟩ := ix_seq (hx (.lst [.int a', .int b'])) r0 r1
  refine wpM_bind (wpM_of e ?_)
  exact wpM_pure ⟨hd, a', b', rfl, q⟩
end Mine
set_option Elab.async false
set_option linter.all false
set_option maxRecDepth 100000
set_option maxHeartbeats 400000
namespace Mine
open PySem PM
theorem is_integer_int {i : Int} {s : Store} : m_is_integer (.int i) s = .ok (.bl true) s := by
  unfold m_is_integer a_is_integer callF
  dsimp only
  simp [andB, notB, mIsi, D.ty, Ty.isB, bind_run]
theorem is_day_int {i : Int} {s : Store} (h0 : 0 ≤ i) (h1 : i ≤ 1000000000) : m_is_day (.int i) s = .ok (.bl true) s := by
  unfold m_is_day a_is_day callF
  dsimp only
  simp [andB, chainM, mLe, fn1, bind_run, is_integer_int, h0, h1]
end Mine
namespace Mine
open PySem PM
theorem is_stray_int {i : Int} {s : Store} (h0 : 0 ≤ i) (h1 : i ≤ 1000000001) : m_is_stray (.int i) s = .ok (.bl true) s := by
  unfold m_is_stray a_is_stray callF
  dsimp only
  by_cases h : i ≤ 1000000000
  · simp [orB, fn1, bind_run, is_day_int h0 h]
  · have e : i = 1000000001 := by omega
    subst e
    have hd : m_is_day (.int 1000000001) s = .ok (.bl false) s := by
      unfold m_is_day a_is_day callF
      dsimp only
      simp [andB, chainM, mLe, fn1, bind_run, is_integer_int]
    simp [orB, andB, fn1, bind_run, hd, mIsi, D.ty, Ty.isB, mEq, deq, flatD, eqF, flatK]
end Mine
namespace Mine
open PySem PM
/-- a name: one to eight small letters -/
def Nm (x : Str) : Prop := 1 ≤ x.cps.size ∧ x.cps.size ≤ 8 ∧ ∀ c ∈ x.cps.toList, 97 ≤ c ∧ c ≤ 122
theorem in_letters : ∀ c : Nat, 97 ≤ c → c ≤ 122 → inStr (.str ⟨#[c]⟩) (Str.ofString "abcdefghijklmnopqrstuvwxyz") = some true := by
  intro c h0 h1
  have : c = 97 ∨ c = 98 ∨ c = 99 ∨ c = 100 ∨ c = 101 ∨ c = 102 ∨ c = 103 ∨ c = 104 ∨ c = 105 ∨ c = 106 ∨ c = 107 ∨ c = 108 ∨ c = 109 ∨ c = 110 ∨ c = 111 ∨ c = 112 ∨ c = 113 ∨ c = 114 ∨ c = 115 ∨ c = 116 ∨ c = 117 ∨ c = 118 ∨ c = 119 ∨ c = 120 ∨ c = 121 ∨ c = 122 := by omega
  rcases this with rfl | rfl | rfl | rfl | rfl | rfl | rfl | rfl | rfl | rfl | rfl | rfl | rfl | rfl | rfl | rfl | rfl | rfl | rfl | rfl | rfl | rfl | rfl | rfl | rfl | rfl <;> decide +kernel
end Mine
set_option Elab.async false
set_option linter.all false
set_option maxRecDepth 100000
set_option maxHeartbeats 400000
namespace Mine
open PySem PM
theorem is_name_ok {x : Str} {s : Store} (h : Nm x) : m_is_name (.str x) s = .ok (.bl true) s := by
  obtain ⟨h1, h2, h3⟩ := h
  have hl : x.length = x.cps.size := rfl
  have hlen : mLen (.str x) s = .ok (.int x.cps.size) s := by
    unfold mLen lenOf
    dsimp only
    rw [if_pos (by rw [hl]; omega), hl]
  have hc : comp (fun _ => pure true) (fun e2 => mIn e2 (D.str (Str.ofString "abcdefghijklmnopqrstuvwxyz"))) ⟨yes, signs x⟩ s = .ok ((signs x).map fun _ => D.bl true) s := by
    refine comp_all (by unfold signs; rw [List.length_map, Array.length_toList]; omega) fun d hd => ?_
    obtain ⟨c, hc, rfl⟩ := List.mem_map.mp hd
    obtain ⟨q1, q2⟩ := h3 c hc
    unfold mIn inOf
    dsimp only
    rw [in_letters c q1 q2]
  have ha : ∀ l : List D, asBls (l.map fun _ => D.bl true) = some (l.map fun _ => true) := fun l => by
    induction l with
    | nil => rfl
    | cons d l ih => simp [asBls, ih]
  have hall : mAll (.lst ((signs x).map fun _ => D.bl true)) s = .ok (.bl true) s := by
    unfold mAll
    dsimp only
    rw [ha]
    simp
  unfold m_is_name a_is_name callF
  dsimp only
  simp only [pure_bind', bind_assoc', ap1, seqF]
  have e1 : (1 : Int) ≤ (x.cps.size : Int) := by omega
  have e2 : (x.cps.size : Int) ≤ 8 := by omega
  simp [orT, notT, mIsi, D.ty, Ty.isB, asB, bind_run, chainM, hlen, mLe, e1, e2, mItems, D.items, hc, hall]
end Mine
set_option Elab.async false
set_option linter.all false
set_option maxRecDepth 100000
set_option maxHeartbeats 400000
/-! Pq0: plain: evaluation of mirrors at data of known form. No program here. -/
namespace PM
open PySem
theorem noErr_ok {α : Type} {m : M α} {s t : Store} {a : α} (h : m s = .ok a t) : noErr m s = .ok a t := by
  unfold noErr
  rw [h]
theorem fits_ok {α : Type} {n : Nat} {m : M α} {s : Store} (h : n ≤ 16777216) : fits n m s = m s := by
  unfold fits
  rw [if_pos h]
/-! ### one step, where the store is known -/
section
variable {α β γ : Type} {s : Store}
theorem asB_run {b : Bool} : asB (.bl b) s = .ok b s := (rfl)
theorem notT_run {m : M Bool} : notT m s = (m >>= fun b => pure (!b)) s := (rfl)
theorem andT_run {a b : M Bool} : andT a b s = (a >>= fun x => if x = true then b else pure false) s := (rfl)
theorem orT_run {a b : M Bool} : orT a b s = (a >>= fun x => if x = true then pure true else b) s := (rfl)
theorem andB_run {a b : M D} : andB a b s = (a >>= fun x => match x with
  | .bl true => b
  | .bl false => pure (.bl false)
  | _ => bad) s := (rfl)
theorem orB_run {a b : M D} : orB a b s = (a >>= fun x => match x with
  | .bl true => pure (.bl true)
  | .bl false => b
  | _ => bad) s := (rfl)
theorem notB_run {a : M D} : notB a s = (a >>= fun x => match x with
  | .bl b => pure (.bl !b)
  | _ => bad) s := (rfl)
theorem seqF_run {m : M (Fl γ β)} {k : γ → M (Fl α β)} : seqF m k s = (m >>= fun r => match r with
  | .nx a => k a
  | .rt d => pure (.rt d)
  | .bk b => pure (.bk b)
  | .ct b => pure (.ct b)) s := by
  unfold seqF
  rw [bind_run, bind_run]
  cases m s with
  | ok a s' => cases a <;> rfl
  | _ => rfl
theorem aftF_run {m : M (Fl γ Empty)} {k : γ → M (Fl α β)} : aftF m k s = (m >>= fun r => match r with
  | .nx a => k a
  | .rt d => pure (.rt d)
  | .bk b => nomatch b
  | .ct b => nomatch b) s := (rfl)
theorem callF_run {m : M (Fl Unit Empty)} : callF m s = (m >>= fun r => match r with
  | .nx _ => pure .non
  | .rt d => pure d
  | .bk b => nomatch b
  | .ct b => nomatch b) s := (rfl)
theorem initJ_run {toL : α → List D} {m : M (Fl α Empty)} : initJ toL m s = (m >>= fun r => match r with
  | .nx a => pure (toL a)
  | _ => bad) s := (rfl)
theorem fn1_run {f : D → M α} {x : D} : fn1 f [x] s = f x s := (rfl)
theorem fn2_run {f : D → D → M α} {x y : D} : fn2 f [x, y] s = f x y s := (rfl)
theorem fn3_run {f : D → D → D → M α} {x y z : D} : fn3 f [x, y, z] s = f x y z s := (rfl)
theorem ap1_run {f : D → M α} {x : D} : ap1 f [x] s = f x s := (rfl)
theorem ap2_run {f : D → D → M α} {x y : D} : ap2 f [x, y] s = f x y s := (rfl)
theorem un2_run {f : D → D → M α} {x y : D} : un2 f (.tup [x, y]) s = f x y s := (rfl)
theorem noErr_run {m : M α} : noErr m s = (match m s with
  | .ok a s' => .ok a s'
  | .err _ _ => .bad
  | .bad => .bad) := (rfl)
theorem ite_run {c : Prop} [Decidable c] {a b : M α} : (if c then a else b : M α) s = if c then a s else b s := by
  by_cases h : c <;> simp [h]
theorem isi_lst {T : String} {ds : List D} : mIsi T (.lst ds) s = .ok (.bl (Ty.isB T (.b "list"))) s := (rfl)
theorem isi_dct {T : String} {ds : List (D × D)} : mIsi T (.dct ds) s = .ok (.bl (Ty.isB T (.b "dict"))) s := (rfl)
theorem isi2_lst {T U : String} {ds : List D} : mIsi2 T U (.lst ds) s = .ok (.bl (Ty.isB T (.b "list") || Ty.isB U (.b "list"))) s := (rfl)
theorem max_run {i j : Int} : mMax (.int i) (.int j) s = .ok (.int (if j > i then j else i)) s := (rfl)
theorem min_run {i j : Int} : mMin (.int i) (.int j) s = .ok (.int (if j < i then j else i)) s := (rfl)
theorem lt_run {i j : Int} : mLt (.int i) (.int j) s = .ok (.bl (decide (i < j))) s := (rfl)
theorem le_run {i j : Int} : mLe (.int i) (.int j) s = .ok (.bl (decide (i ≤ j))) s := (rfl)
theorem add_run {i j : Int} : mAdd (.int i) (.int j) s = .ok (.int (i + j)) s := (rfl)
theorem sub_run {i j : Int} : mSub (.int i) (.int j) s = .ok (.int (i - j)) s := (rfl)
theorem tup_run {ds : List D} (h : ds.length ≤ 16777216) : mTup ds s = .ok (.tup ds) s := by
  unfold mTup
  rw [fits_ok h]
  rfl
theorem lst_run {ds : List D} (h : ds.length ≤ 16777216) : mLst ds s = .ok (.lst ds) s := by
  unfold mLst
  rw [fits_ok h]
  rfl
theorem tup1_run {a : D} : mTup [a] s = .ok (.tup [a]) s := tup_run (by simp)
theorem tup2_run {a b : D} : mTup [a, b] s = .ok (.tup [a, b]) s := tup_run (by simp)
theorem lst0_run : mLst [] s = .ok (.lst []) s := lst_run (by simp)
theorem lst1_run {a : D} : mLst [a] s = .ok (.lst [a]) s := lst_run (by simp)
theorem guard_true {c : Bool} {m : M α} (h : c = true) : guardM c m s = m s := by
  unfold guardM
  rw [if_pos h]
theorem key_str {x : Str} {m : M α} : guardM (isKey (.str x)) m s = m s := guard_true rfl
theorem key_int {x : Int} {m : M α} : guardM (isKey (.int x)) m s = m s := guard_true rfl
theorem adds_run {a b : Str} (h : a.length + b.length ≤ 16777216) : mAdd (.str a) (.str b) s = .ok (.str (a ++ b)) s := by
  unfold mAdd
  dsimp only
  rw [fits_ok h]
  rfl
theorem addl_run {a b : List D} (h : a.length + b.length ≤ 16777216) : mAdd (.lst a) (.lst b) s = .ok (.lst (a ++ b)) s := by
  unfold mAdd
  dsimp only
  rw [fits_ok h]
  rfl
end
/-! ### comprehensions -/
theorem compM_map {α : Type} {mt : D → M Bool} {me : D → M D} {h : α → D} {c : α → Bool} {g : α → D} {s : Store} : ∀ l : List α, (∀ x ∈ l, mt (h x) s = .ok (c x) s) → (∀ x ∈ l, c x = true → me (h x) s = .ok (g x) s) → compM mt me (l.map h) s = .ok ((l.filter c).map g) s
  | [], _, _ => rfl
  | d :: r, h1, h2 => by
    have ih := compM_map r (fun x hx => h1 x (List.mem_cons_of_mem _ hx)) (fun x hx => h2 x (List.mem_cons_of_mem _ hx))
    rw [List.map_cons]
    unfold compM
    rw [bind_ok (noErr_ok (h1 d List.mem_cons_self))]
    cases q : c d with
    | true =>
      rw [if_pos rfl, bind_ok (noErr_ok (h2 d List.mem_cons_self q)), bind_ok ih, List.filter_cons_of_pos q]
      rfl
    | false => rw [if_neg (by decide), ih, List.filter_cons_of_neg (by rw [q]; decide)]
theorem comp_filter {α : Type} {mt : D → M Bool} {me : D → M D} {h : α → D} {c : α → Bool} {g : α → D} {s : Store} {l : List α} (hz : l.length ≤ 16777216) (h1 : ∀ x ∈ l, mt (h x) s = .ok (c x) s) (h2 : ∀ x ∈ l, c x = true → me (h x) s = .ok (g x) s) :
    comp mt me ⟨yes, l.map h⟩ s = .ok ((l.filter c).map g) s := by
  rw [comp_yes, fits_ok (by rw [List.length_map]; exact hz)]
  exact compM_map l h1 h2
theorem comp_map {α : Type} {mt : D → M Bool} {me : D → M D} {h : α → D} {g : α → D} {s : Store} {l : List α} (hz : l.length ≤ 16777216) (h1 : ∀ x ∈ l, mt (h x) s = .ok true s) (h2 : ∀ x ∈ l, me (h x) s = .ok (g x) s) :
    comp mt me ⟨yes, l.map h⟩ s = .ok (l.map g) s := by
  have := comp_filter (c := fun _ => true) (g := g) hz h1 (fun x hx _ => h2 x hx)
  rwa [List.filter_eq_self.mpr (fun _ _ => rfl)] at this
/-! ### dicts with texts as keys -/
def kv (v : Str → D) (m : Str) : D × D := (.str m, v m)
theorem dHas_str (A : List Str) (v : Str → D) (k : Str) : dHas (A.map (kv v)) (.str k) = decide (k ∈ A) := by
  unfold dHas
  rw [List.any_map]
  induction A with
  | nil => rfl
  | cons m A ih =>
    rw [List.any_cons, ih]
    by_cases e : k = m
    · subst e
      simp [Function.comp, kv, keyEq]
    · have : keyEq (.str m) (.str k) = false := by
        unfold keyEq
        simpa using fun z => e z.symm
      simp [Function.comp, kv, this, e]
theorem dLook_str {A : List Str} {v : Str → D} {k : Str} (h : k ∈ A) : dLook (A.map (kv v)) (.str k) = some (v k) := by
  unfold dLook
  induction A with
  | nil => nomatch h
  | cons m A ih =>
    rw [List.map_cons, List.find?_cons]
    by_cases e : m = k
    · subst e
      simp [kv, keyEq]
    · have : keyEq (kv v m).1 (.str k) = false := by simp [kv, keyEq, e]
      rw [this]
      exact ih ((List.mem_cons.mp h).resolve_left fun z => e z.symm)
theorem dLook_no {A : List Str} {v : Str → D} {k : Str} (h : k ∉ A) : dLook (A.map (kv v)) (.str k) = none := by
  unfold dLook
  rw [List.find?_eq_none.mpr]
  · rfl
  · intro x hx
    obtain ⟨m, hm, rfl⟩ := List.mem_map.mp hx
    have : ¬ m = k := fun z => h (z ▸ hm)
    simp [kv, keyEq, this]
theorem dPut_new {A : List Str} {v : Str → D} {k : Str} {d : D} (h : k ∉ A) : dPut (A.map (kv v)) (.str k) d = (A ++ [k]).map (kv fun m => if m = k then d else v m) := by
  unfold dPut
  rw [dHas_str, if_neg (by simpa using h), List.map_append]
  congr 1
  · refine List.map_congr_left fun m hm => ?_
    have : ¬ m = k := fun z => h (z ▸ hm)
    simp [kv, this]
  · simp [kv]
theorem dPut_old {A : List Str} {v : Str → D} {k : Str} {d : D} (h : k ∈ A) : dPut (A.map (kv v)) (.str k) d = A.map (kv fun m => if m = k then d else v m) := by
  unfold dPut
  rw [dHas_str, if_pos (by simpa using h), List.map_map]
  refine List.map_congr_left fun m hm => ?_
  by_cases e : m = k
  · simp [kv, keyEq, e]
  · simp [kv, keyEq, e]
theorem dMerge_str (v : Str → D) : ∀ (M A : List Str), (A ++ M).Nodup → dMerge (A.map (kv v)) (M.map (kv v)) = (A ++ M).map (kv v)
  | [], A, _ => by rw [List.append_nil]; rfl
  | m :: M, A, nd => by
    have hm : m ∉ A := fun z => by
      have := (List.nodup_append.mp nd).2.2 m z m List.mem_cons_self
      exact this rfl
    have e : dPut (A.map (kv v)) (.str m) (v m) = (A ++ [m]).map (kv v) := by
      rw [dPut_new hm]
      refine List.map_congr_left fun x _ => ?_
      by_cases e : x = m <;> simp [kv, e]
    have nd' : ((A ++ [m]) ++ M).Nodup := by rw [List.append_assoc]; exact nd
    have ih := dMerge_str v M (A ++ [m]) nd'
    show dMerge (dPut (A.map (kv v)) (.str m) (v m)) (M.map (kv v)) = _
    rw [e, ih, List.append_assoc]
    rfl
theorem dMerge_str0 {v : Str → D} {M : List Str} (nd : M.Nodup) : dMerge [] (M.map (kv v)) = M.map (kv v) := dMerge_str v M [] nd
theorem dcM_str {α : Type} {mt : D → M Bool} {mk mv : D → M D} {h : α → D} {k : α → Str} {v : α → D} {s : Store} : ∀ (l : List α) (acc : List (D × D)), (∀ x ∈ l, mt (h x) s = .ok true s) → (∀ x ∈ l, mk (h x) s = .ok (.str (k x)) s) → (∀ x ∈ l, mv (h x) s = .ok (v x) s) →
    dcM mt mk mv (l.map h) acc s = .ok (dMerge acc (l.map fun x => (.str (k x), v x))) s
  | [], acc, _, _, _ => rfl
  | x :: l, acc, h1, h2, h3 => by
    rw [List.map_cons]
    unfold dcM
    rw [bind_ok (noErr_ok (h1 x List.mem_cons_self)), if_pos rfl, bind_ok (noErr_ok (h2 x List.mem_cons_self)), bind_ok (noErr_ok (h3 x List.mem_cons_self))]
    show dcM mt mk mv (l.map h) (dPut acc (.str (k x)) (v x)) s = _
    exact dcM_str l _ (fun x hx => h1 x (List.mem_cons_of_mem _ hx)) (fun x hx => h2 x (List.mem_cons_of_mem _ hx)) (fun x hx => h3 x (List.mem_cons_of_mem _ hx))
theorem dcomp_str {mt : D → M Bool} {mk mv : D → M D} {h : Str → D} {v : Str → D} {s : Store} {M : List Str} (hz : M.length ≤ 16777216) (nd : M.Nodup) (h1 : ∀ x ∈ M, mt (h x) s = .ok true s) (h2 : ∀ x ∈ M, mk (h x) s = .ok (.str x) s) (h3 : ∀ x ∈ M, mv (h x) s = .ok (v x) s) :
    dcomp mt mk mv ⟨yes, M.map h⟩ s = .ok (M.map (kv v)) s := by
  rw [dcomp_yes, fits_ok (by rw [List.length_map]; exact hz), dcM_str M [] h1 h2 h3]
  exact congrArg (fun z => R.ok z s) (dMerge_str0 nd)
theorem asPairs_str (v : Str → D) : ∀ M : List Str, asPairs (M.map fun m => .tup [.str m, v m]) = some (M.map (kv v))
  | [] => rfl
  | m :: M => by
    rw [List.map_cons]
    show Option.map (fun x => (D.str m, v m) :: x) (asPairs (M.map fun m => .tup [.str m, v m])) = _
    rw [asPairs_str v M]
    rfl
theorem dict_pairs {v : Str → D} {M : List Str} {s : Store} (nd : M.Nodup) : mDict (.lst (M.map fun m => .tup [.str m, v m])) s = .ok (M.map (kv v)) s := by
  unfold mDict pairsOf
  dsimp only
  rw [asPairs_str]
  dsimp only [Option.map]
  rw [dMerge_str0 nd]
@[simp] theorem dict_copy {es : List (D × D)} {s : Store} : mDict (.dct es) s = .ok es s := (rfl)
@[simp] theorem list_lst {ds : List D} {s : Store} : mList (.lst ds) s = .ok ds s := (rfl)
@[simp] theorem list_dct {v : Str → D} {M : List Str} {s : Store} : mList (.dct (M.map (kv v))) s = .ok (M.map D.str) s := by
  unfold mList itemsOf
  simp [seqOf, dctOf, kv, Function.comp]
theorem ix_str {v : Str → D} {M : List Str} {k : Str} {s : Store} (h : k ∈ M) : mIx (.dct (M.map (kv v))) (.str k) s = .ok (v k) s := by
  unfold mIx ixOf
  simp [seqOf, dctOf, ixAt, isKey, dLook_str h]
@[simp] theorem ix_tup0 {a : D} {r : List D} {s : Store} : mIx (.tup (a :: r)) (.int 0) s = .ok a s := by
  unfold mIx ixOf
  simp [seqOf, dctOf, ixAt, atI, ixN]
@[simp] theorem ix_tup1 {a b : D} {r : List D} {s : Store} : mIx (.tup (a :: b :: r)) (.int 1) s = .ok b s := by
  have h : (1 : Int) < ((a :: b :: r).length : Nat) := by simp only [List.length_cons]; omega
  unfold mIx ixOf
  simp only [seqOf, dctOf, ixAt, atI, ixN]
  rw [if_pos (by decide), if_pos h]
  rfl
@[simp] theorem ix_lst0 {a : D} {r : List D} {s : Store} : mIx (.lst (a :: r)) (.int 0) s = .ok a s := by
  unfold mIx ixOf
  simp [seqOf, dctOf, ixAt, atI, ixN]
theorem ix_map {f : Nat → D} {n k : Nat} {s : Store} (h : k < n) : mIx (.lst ((List.range n).map f)) (.int k) s = .ok (f k) s := by
  unfold mIx ixOf
  simp [seqOf, dctOf, ixAt, atI, ixN, h]
@[simp] theorem len_lst {ds : List D} {s : Store} : mLen (.lst ds) s = .ok (.int ds.length) s := (rfl)
@[simp] theorem items_lst {ds : List D} {s : Store} : mItems (.lst ds) s = .ok ⟨yes, ds⟩ s := (rfl)
@[simp] theorem items_tup {ds : List D} {s : Store} : mItems (.tup ds) s = .ok ⟨yes, ds⟩ s := (rfl)
@[simp] theorem items_dct {v : Str → D} {M : List Str} {s : Store} : mItems (.dct (M.map (kv v))) s = .ok ⟨yes, M.map D.str⟩ s := by
  unfold mItems D.items
  simp [kv, Function.comp]
@[simp] theorem pairs_dct {v : Str → D} {M : List Str} {s : Store} : mPairs (.dct (M.map (kv v))) s = .ok ⟨yes, M.map fun m => .tup [.str m, v m]⟩ s := by
  unfold mPairs pairsD
  simp [kv, Function.comp]
theorem range_ok {n : Nat} {s : Store} (h : n < 1000000) : mRange1 (.int n) s = .ok ⟨yes, (List.range n).map fun k : Nat => D.int (k : Int)⟩ s := by
  unfold mRange1 rangeD
  dsimp only
  rw [cif_pos (by omega)]
  simp
theorem zip_range {f g : Nat → D} {n : Nat} {s : Store} : mZip (.lst ((List.range n).map f)) (.lst ((List.range n).map g)) s = .ok ⟨yes, (List.range n).map fun k => .tup [f k, g k]⟩ s := by
  unfold mZip
  have : (((List.range n).map f).zip ((List.range n).map g)).map (fun p => D.tup [p.1, p.2]) = (List.range n).map fun k => .tup [f k, g k] := by
    refine List.ext_getElem (by simp) fun i h1 h2 => ?_
    simp
  dsimp only
  rw [this]
  rfl
theorem fld_obj {c : String} {i : Nat} {fs : List D} {s : Store} {d : D} (h : fs[i]? = some d) : mFld c i (.obj c fs) s = .ok d s := by
  unfold mFld objOf
  simp [h]
@[simp] theorem fld0 {c : String} {a : D} {r : List D} {s : Store} : mFld c 0 (.obj c (a :: r)) s = .ok a s := fld_obj rfl
@[simp] theorem fld1 {c : String} {a b : D} {r : List D} {s : Store} : mFld c 1 (.obj c (a :: b :: r)) s = .ok b s := fld_obj rfl
@[simp] theorem isO_obj {c : String} {fs : List D} {s : Store} : isO c (.obj c fs) s = .ok () s := by
  unfold isO objOf
  simp
/-! ### all, any -/
theorem asBls_of {α : Type} (b : α → Bool) (l : List α) : asBls (l.map fun x => D.bl (b x)) = some (l.map b) := by
  induction l with
  | nil => rfl
  | cons d l ih => simp [asBls, ih]
theorem all_map {α : Type} {b : α → Bool} {l : List α} {s : Store} : mAll (.lst (l.map fun x => D.bl (b x))) s = .ok (.bl (l.all b)) s := by
  unfold mAll
  dsimp only
  rw [asBls_of]
  simp [Function.comp, List.all_map]
theorem any_map {α : Type} {b : α → Bool} {l : List α} {s : Store} : mAny (.lst (l.map fun x => D.bl (b x))) s = .ok (.bl (l.any b)) s := by
  unfold mAny
  dsimp only
  rw [asBls_of]
  simp [Function.comp, List.any_map]
/-! ### == -/
theorem allO_map {α : Type} {f : α → Option Bool} {b : α → Bool} : ∀ {l : List α}, (∀ x ∈ l, f x = some (b x)) → allO (l.map f) = some (l.all b)
  | [], _ => rfl
  | x :: l, h => by
    rw [List.map_cons]
    unfold allO
    rw [h x List.mem_cons_self, allO_map fun y hy => h y (List.mem_cons_of_mem _ hy)]
    rfl
theorem deq_lst {α : Type} [DecidableEq α] {n : Nat} {h : α → D} (hh : ∀ a b, deq n (h a) (h b) = some (decide (a = b))) (A B : List α) : deq (n + 1) (.lst (A.map h)) (.lst (B.map h)) = some (decide (A = B)) := by
  show (if (A.map h).length = (B.map h).length then allO (List.zipWith (deq n) (A.map h) (B.map h)) else some false) = _
  rw [List.length_map, List.length_map]
  by_cases e : A.length = B.length
  · rw [if_pos e]
    induction A generalizing B with
    | nil => cases B with
      | nil => rfl
      | cons b B => simp at e
    | cons a A ih => cases B with
      | nil => simp at e
      | cons b B =>
        rw [List.map_cons, List.map_cons, List.zipWith_cons_cons]
        unfold allO
        rw [hh, ih B (by simpa using e)]
        by_cases e1 : a = b <;> by_cases e2 : A = B <;> simp [e1, e2]
  · rw [if_neg e]
    have : ¬ A = B := fun z => e (by rw [z])
    simp [this]
theorem deq_int (n : Nat) (a b : Int) : deq (n + 1) (.int a) (.int b) = some (decide (a = b)) := by
  show some (eqF _ _) = _
  simp [eqF, flatK]
theorem deq_str (n : Nat) (a b : Str) : deq (n + 1) (.str a) (.str b) = some (decide (a = b)) := by
  show some (eqF _ _) = _
  simp [eqF, flatK]
theorem deq_bl (n : Nat) (a b : Bool) : deq (n + 1) (.bl a) (.bl b) = some (a == b) := by
  show some (eqF _ _) = _
  cases a <;> cases b <;> decide
theorem deq_tup2 {n : Nat} {a b c d : D} {x y : Bool} (h1 : deq n a c = some x) (h2 : deq n b d = some y) : deq (n + 1) (.tup [a, b]) (.tup [c, d]) = some (x && y) := by
  show (allO (List.zipWith (deq n) [a, b] [c, d])).map (fun b => b && true) = _
  simp [allO, h1, h2]
theorem deq_kv {n : Nat} {v w : Str → Int} {M : List Str} : deq (n + 2) (.dct (M.map (kv fun m => .int (v m)))) (.dct (M.map (kv fun m => .int (w m)))) = some (M.all fun m => decide (v m = w m)) := by
  show (if (M.map (kv fun m => .int (v m))).length = (M.map (kv fun m => .int (w m))).length then allO ((M.map (kv fun m => .int (v m))).map fun e => match dLook (M.map (kv fun m => .int (w m))) e.1 with
      | some y => deq (n + 1) e.2 y
      | none => some false) else some false) = _
  rw [if_pos (by simp), List.map_map]
  refine allO_map fun m hm => ?_
  show (match dLook (M.map (kv fun m => .int (w m))) (.str m) with | some y => deq (n + 1) (.int (v m)) y | none => some false) = _
  rw [dLook_str hm]
  exact deq_int n _ _
theorem deq_range {n : Nat} {f g : Nat → Int} {k : Nat} : deq (n + 2) (.lst ((List.range k).map fun i => .int (f i))) (.lst ((List.range k).map fun i => .int (g i))) = some ((List.range k).all fun i => decide (f i = g i)) := by
  show (if ((List.range k).map fun i => D.int (f i)).length = ((List.range k).map fun i => D.int (g i)).length then allO (List.zipWith (deq (n + 1)) ((List.range k).map fun i => D.int (f i)) ((List.range k).map fun i => D.int (g i))) else some false) = _
  rw [if_pos (by simp)]
  have : List.zipWith (deq (n + 1)) ((List.range k).map fun i => D.int (f i)) ((List.range k).map fun i => D.int (g i)) = (List.range k).map fun i => deq (n + 1) (.int (f i)) (.int (g i)) := by
    refine List.ext_getElem (by simp) fun i h1 h2 => ?_
    simp
  rw [this]
  exact allO_map fun i _ => deq_int n _ _
theorem eq_ok {x y : D} {b : Bool} {s : Store} (h : deq 60 x y = some b) : mEq x y s = .ok (.bl b) s := by
  unfold mEq
  rw [h]
  rfl
theorem ne_ok {x y : D} {b : Bool} {s : Store} (h : deq 60 x y = some b) : mNe x y s = .ok (.bl !b) s := by
  unfold mNe
  rw [h]
  rfl
@[simp] theorem eq_int {a b : Int} {s : Store} : mEq (.int a) (.int b) s = .ok (.bl (decide (a = b))) s := eq_ok (deq_int 59 a b)
@[simp] theorem eq_str {a b : Str} {s : Store} : mEq (.str a) (.str b) s = .ok (.bl (decide (a = b))) s := eq_ok (deq_str 59 a b)
@[simp] theorem ne_int {a b : Int} {s : Store} : mNe (.int a) (.int b) s = .ok (.bl !(decide (a = b))) s := ne_ok (deq_int 59 a b)
@[simp] theorem ne_bl {a b : Bool} {s : Store} : mNe (.bl a) (.bl b) s = .ok (.bl !(a == b)) s := ne_ok (deq_bl 59 a b)
@[simp] theorem ne_nil {l : List D} {s : Store} : mNe (.lst l) (.lst []) s = .ok (.bl !l.isEmpty) s := by
  refine ne_ok ?_
  cases l with
  | nil => rfl
  | cons a l => rfl
@[simp] theorem ne_nilK {l : List (D × D)} {s : Store} : mNe (.dct l) (.dct []) s = .ok (.bl !l.isEmpty) s := by
  refine ne_ok ?_
  cases l with
  | nil => rfl
  | cons a l => rfl
/-! ### sorted -/
theorem sort_strs {M : List Str} {s : Store} (h : M.length < 64) : mSorted (.lst (M.map D.str)) s = .ok ((isort leS M).map D.str) s := by
  unfold mSorted sortIn
  simp only [seqOf]
  unfold sortD
  cases M with
  | nil => rfl
  | cons m M =>
    have : asInts ((m :: M).map D.str) = none := rfl
    rw [this]
    simp only [asStrs_map, Option.bind]
    rw [if_pos h]
theorem sort_keys {v : Str → D} {M : List Str} {s : Store} (h : M.length < 64) : mSorted (.dct (M.map (kv v))) s = .ok ((isort leS M).map D.str) s := by
  unfold mSorted sortIn
  simp only [seqOf, dctOf, Option.bind]
  rw [if_pos (by rw [List.length_map]; exact h)]
  have e : (M.map (kv v)).map (·.1) = M.map D.str := by simp [kv, Function.comp]
  rw [e]
  unfold sortD
  cases M with
  | nil => rfl
  | cons m M =>
    have : asInts ((m :: M).map D.str) = none := rfl
    rw [this]
    simp only [asStrs_map, Option.bind]
    rw [if_pos h]
theorem isort_id {M : List Str} (h : M.Pairwise fun a b => leS a b = true) : isort leS M = M :=
  (isort_unique leS_tot leS_tr leS_as (List.Perm.refl M) h).symm
/-! ### loops that change nothing -/
theorem loop_pure {mb : D → Unit → M (Fl Unit Unit)} {s : Store} : ∀ {ds : List D}, (∀ d ∈ ds, mb d () s = .ok (.nx ()) s) → loop mb ⟨yes, ds⟩ () s = .ok (.nx ()) s := by
  intro ds h
  rw [loop_yes]
  induction ds with
  | nil => rfl
  | cons d r ih =>
    unfold forM
    rw [bind_ok (h d List.mem_cons_self)]
    exact ih fun x hx => h x (List.mem_cons_of_mem _ hx)
end PM
set_option Elab.async false
set_option linter.all false
set_option maxRecDepth 100000
set_option maxHeartbeats 400000
namespace Mine
open PySem PM
abbrev dL (n : Nat) (d : Nat → Int) : D := .lst ((List.range n).map fun k => .int (d k))
abbrev kL (M : List Str) (v : Str → Int) : D := .dct (M.map (kv fun m => .int (v m)))
abbrev PL (n : Nat) (M : List Str) (d : Nat → Int) (v : Str → Int) : D := .tup [dL n d, kL M v]
abbrev ST (n : Nat) (M : List Str) (d : Nat → Int) (v : Str → Int) : D := .obj "Story" [dL n d, kL M v]
/-- what makes a story -/
structure Good (n : Nat) (M : List Str) (d : Nat → Int) (v : Str → Int) : Prop where
  few : n ≤ 60
  days : ∀ k, k < n → 0 ≤ d k ∧ d k ≤ 1000000000
  nd : M.Nodup
  fewM : M.length ≤ 60
  nm : ∀ m ∈ M, Nm m
  strays : ∀ m ∈ M, 0 ≤ v m ∧ v m ≤ 1000000001
variable {n : Nat} {M : List Str} {d : Nat → Int} {v : Str → Int} {s : Store}
theorem are_strays_ok (h : Good n M d v) : m_are_strays (kL M v) s = .ok (.bl true) s := by
  have hc : comp (fun _ => pure true) (fun e1 => andB (fn1 m_is_name [e1]) (mIx (kL M v) e1 >>= fun d => fn1 m_is_stray [d])) ⟨yes, M.map D.str⟩ s = .ok (M.map fun _ => D.bl true) s := by
    refine comp_map (by have := h.fewM; omega) (fun _ _ => rfl) fun m hm => ?_
    unfold andB
    rw [bind_ok (show fn1 m_is_name [D.str m] s = .ok (.bl true) s from is_name_ok (h.nm m hm))]
    show (mIx (kL M v) (.str m) >>= fun d => fn1 m_is_stray [d]) s = _
    rw [bind_ok (ix_str hm)]
    exact is_stray_int (h.strays m hm).1 (h.strays m hm).2
  dsimp only [m_are_strays, a_are_strays]
  simp [callF_run, andB_run, bind_run, isi_dct, Ty.isB, ap1_run, hc, all_map]
theorem init_ok (h : Good n M d v) : m_Story___init__ (dL n d) (kL M v) s = .ok [dL n d, kL (isort leS M) v] s := by
  have hc : comp (fun _ => pure true) (fun e1 => fn1 m_is_day [e1]) ⟨yes, (List.range n).map fun k => .int (d k)⟩ s = .ok ((List.range n).map fun _ => D.bl true) s := by
    refine comp_map (by have := h.few; simp; omega) (fun _ _ => rfl) fun k hk => ?_
    have hk := h.days k (List.mem_range.mp hk)
    exact is_day_int hk.1 hk.2
  have hp := isort_perm leS M
  have hd : dcomp (fun _ => pure true) (fun e6 => pure e6) (fun e6 => mIx (kL M v) e6) ⟨yes, (isort leS M).map D.str⟩ s = .ok ((isort leS M).map (kv fun m => .int (v m))) s := by
    refine dcomp_str (by rw [hp.length_eq]; have := h.fewM; omega) (hp.nodup_iff.mpr h.nd) (fun _ _ => rfl) (fun _ _ => rfl) fun m hm => ?_
    exact ix_str (hp.mem_iff.mp hm)
  have hs : mSorted (kL M v) s = .ok ((isort leS M).map D.str) s := sort_keys (by have := h.fewM; omega)
  dsimp only [m_Story___init__, a_Story___init__]
  simp [initJ_run, bind_run, orT_run, notT_run, asB_run, isi2_lst, Ty.isB, ap1_run, hc, all_map, are_strays_ok h, fn1_run, seqF_run, hs, hd, toL2]
theorem made_ok (h : Good n M d v) : m__law_made (PL n M d v) s = .ok (ST n (isort leS M) d v) s := by
  unfold m__law_made a__law_made callF
  dsimp only
  simp [bind_run, ap1, fn2, init_ok h]
theorem days_ok : m_Story_days (ST n M d v) s = .ok ((List.range n).map fun k => .int (d k)) s := by
  dsimp only [m_Story_days, a_Story_days]
  simp [bind_run, ap1]
theorem strays_ok : m_Story_strays (ST n M d v) s = .ok (M.map (kv fun m => .int (v m))) s := by
  dsimp only [m_Story_strays, a_Story_strays]
  simp [bind_run, ap1]
theorem len_ok : m_Story___len__ (ST n M d v) s = .ok (.int n) s := by
  unfold m_Story___len__ a_Story___len__ callF
  dsimp only
  simp [bind_run, ap1]
theorem concerns_ok {n' : Nat} {M' : List Str} {v' : Str → Int} : m_Story_concerns (ST n M d v) (.int n') (kL M' v') s = .ok (.bl (decide (n = n') && decide (M = M'))) s := by
  have e : mEq (.lst (M.map D.str)) (.lst (M'.map D.str)) s = .ok (.bl (decide (M = M'))) s := eq_ok (deq_lst (deq_str 58) M M')
  unfold m_Story_concerns a_Story_concerns callF
  dsimp only
  by_cases h : n = n'
  · simp [bind_run, ap1, andB, h, e]
  · have h' : ¬ (n : Int) = n' := by omega
    simp [bind_run, ap1, andB, h, h']
end Mine
set_option Elab.async false
set_option linter.all false
set_option maxRecDepth 100000
set_option maxHeartbeats 400000
namespace Mine
open PySem PM
variable {n : Nat} {M : List Str} {d d' : Nat → Int} {v v' : Str → Int} {s : Store}
theorem alike_ok : m_Story_require_alike (ST n M d v) (ST n M d' v') s = .ok .non s := by
  dsimp only [m_Story_require_alike, a_Story_require_alike]
  simp [callF_run, bind_run, orT_run, notT_run, asB_run, mIsiC, D.ty, Ty.isC, ap1_run, fn3_run, concerns_ok]
/-- as bad as -/
def badB (n : Nat) (M : List Str) (d d' : Nat → Int) (v v' : Str → Int) : Bool := !((List.range n).any fun k => decide (d k < d' k)) && M.all fun m => decide (v m ≤ v' m)
theorem bad_ok (hn : n ≤ 60) (hM : M.length ≤ 60) : m_Story_is_as_bad_as (ST n M d v) (ST n M d' v') s = .ok (.bl (badB n M d d' v v')) s := by
  have h1 : comp (un2 fun e1 e2 => pure true) (un2 fun e1 e2 => mLt e1 e2) ⟨yes, (List.range n).map fun k => .tup [.int (d k), .int (d' k)]⟩ s = .ok ((List.range n).map fun k => .bl (decide (d k < d' k))) s :=
    comp_map (by simp; omega) (fun _ _ => rfl) fun k _ => rfl
  have h2 : comp (un2 fun e1 e2 => pure true) (un2 fun e4 e5 => mFld "Story" 1 (ST n M d' v') >>= fun x => mIx x e4 >>= fun y => mLe e5 y) ⟨yes, M.map fun m => .tup [.str m, .int (v m)]⟩ s = .ok (M.map fun m => .bl (decide (v m ≤ v' m))) s := by
    refine comp_map (by omega) (fun _ _ => rfl) fun m hm => ?_
    simp [un2_run, bind_run, ix_str hm, le_run]
  dsimp only [m_Story_is_as_bad_as, a_Story_is_as_bad_as, badB]
  cases q : (List.range n).any fun k => decide (d k < d' k) with
  | true => simp [callF_run, bind_run, fn2_run, alike_ok, zip_range, h1, any_map, q, asB_run, seqF_run, ite_run, ap1_run]
  | false => simp [callF_run, bind_run, fn2_run, alike_ok, zip_range, h1, any_map, q, asB_run, seqF_run, ite_run, ap1_run, h2, all_map]
theorem lawbad_ok (hn : n ≤ 60) (hM : M.length ≤ 60) : m__law_bad (PL n M d v) (PL n M d' v') s = .ok (.bl (badB n M d d' v v')) s := by
  have h1 : comp (fun e1 => pure true) (fun e1 => mIx (PL n M d v) (.int 0) >>= fun x => mIx x e1 >>= fun x => mIx (PL n M d' v') (.int 0) >>= fun y => mIx y e1 >>= fun y => mLt x y) ⟨yes, (List.range n).map fun k : Nat => D.int (k : Int)⟩ s = .ok ((List.range n).map fun k => .bl (decide (d k < d' k))) s := by
    refine comp_map (by simp; omega) (fun _ _ => rfl) fun k hk => ?_
    have hk := List.mem_range.mp hk
    simp [bind_run, ix_map hk, lt_run]
  have h2 : comp (fun e1 => pure true) (fun e1 => mIx (PL n M d v) (.int 1) >>= fun x => mIx x e1 >>= fun x => mIx (PL n M d' v') (.int 1) >>= fun y => mIx y e1 >>= fun y => mLe x y) ⟨yes, M.map D.str⟩ s = .ok (M.map fun m => .bl (decide (v m ≤ v' m))) s := by
    refine comp_map (by omega) (fun _ _ => rfl) fun m hm => ?_
    simp [bind_run, ix_str hm, le_run]
  have h3 : mRange1 (.int n) s = .ok ⟨yes, (List.range n).map fun k : Nat => D.int (k : Int)⟩ s := range_ok (by omega)
  dsimp only [m__law_bad, a__law_bad, badB]
  cases q : (List.range n).any fun k => decide (d k < d' k) with
  | true => simp [callF_run, bind_run, h3, h1, any_map, q, asB_run, seqF_run, ite_run, ap1_run]
  | false => simp [callF_run, bind_run, h3, h1, any_map, q, asB_run, seqF_run, ite_run, ap1_run, h2, all_map]
abbrev mx (d d' : Nat → Int) (k : Nat) : Int := if d' k > d k then d' k else d k
abbrev mn (v v' : Str → Int) (m : Str) : Int := if v' m < v m then v' m else v m
theorem good_melt (h : Good n M d v) (h' : Good n M d' v') : Good n M (mx d d') (mn v v') :=
  ⟨h.few, fun k hk => by
    have h1 := h.days k hk
    have h2 := h'.days k hk
    unfold mx
    split <;> omega, h.nd, h.fewM, h.nm, fun m hm => by
    have h1 := h.strays m hm
    have h2 := h'.strays m hm
    unfold mn
    split <;> omega⟩
theorem melted_ok (hs : M.Pairwise fun a b => leS a b = true) (h : Good n M d v) (h' : Good n M d' v') : m_Story_melted (ST n M d v) (ST n M d' v') s = .ok (ST n M (mx d d') (mn v v')) s := by
  have hn := h.few
  have hM := h.fewM
  have h1 : comp (un2 fun e1 e2 => pure true) (un2 fun e1 e2 => ap2 mMax [e1, e2]) ⟨yes, (List.range n).map fun k => .tup [.int (d k), .int (d' k)]⟩ s = .ok ((List.range n).map fun k => .int (mx d d' k)) s :=
    comp_map (by simp; omega) (fun _ _ => rfl) fun k _ => rfl
  have h2 : dcomp (un2 fun e1 e2 => pure true) (un2 fun e1 e2 => pure e1) (un2 fun e4 e5 => mFld "Story" 1 (ST n M d' v') >>= fun x => mIx x e4 >>= fun y => ap2 mMin [e5, y]) ⟨yes, M.map fun m => .tup [.str m, .int (v m)]⟩ s = .ok (M.map (kv fun m => .int (mn v v' m))) s := by
    refine dcomp_str (by omega) h.nd (fun _ _ => rfl) (fun _ _ => rfl) fun m hm => ?_
    simp [un2_run, bind_run, ix_str hm, ap2_run, min_run]
  dsimp only [m_Story_melted, a_Story_melted]
  simp [callF_run, bind_run, fn2_run, alike_ok, zip_range, h1, h2, init_ok (good_melt h h'), isort_id hs]
end Mine
set_option Elab.async false
set_option linter.all false
set_option maxRecDepth 100000
set_option maxHeartbeats 400000
/-! Pq3: a story's text; two stories with one text are equal. -/
namespace Mine
open PySem PM TL
/-! ### texts cut at a sign -/
theorem cut_inj {c : Nat} : ∀ {a a' b b' : List Nat}, c ∉ a → c ∉ a' → a ++ c :: b = a' ++ c :: b' → a = a' ∧ b = b'
  | [], [], _, _, _, _, e => ⟨rfl, (List.cons.inj e).2⟩
  | [], x :: a', _, _, _, h, e => absurd ((List.cons.inj e).1) fun z => h (z ▸ List.mem_cons_self)
  | x :: a, [], _, _, h, _, e => absurd ((List.cons.inj e).1) fun z => h (z ▸ List.mem_cons_self)
  | x :: a, y :: a', _, _, h, h', e => by
    have e' := List.cons.inj e
    obtain ⟨r1, r2⟩ := cut_inj (fun z => h (List.mem_cons_of_mem _ z)) (fun z => h' (List.mem_cons_of_mem _ z)) e'.2
    exact ⟨by rw [e'.1, r1], r2⟩
/-- a word's signs: figures, letters, the colon -/
def Wd (w : Str) : Prop := ∀ c ∈ tl w, 48 ≤ c ∧ c ≤ 122
def part (ws : List Str) : Str := if ws = [] then Str.ofString "-" else Txt.join (Str.ofString " ") ws
theorem tl_sp : tl (Str.ofString " ") = [32] := by decide +kernel
theorem tl_mi : tl (Str.ofString "-") = [45] := by decide +kernel
theorem tl_bar : tl (Str.ofString " | ") = [32, 124, 32] := by decide +kernel
theorem tl_colon : tl (Str.ofString ":") = [58] := by decide +kernel
theorem tl_never : tl (Str.ofString "never") = [110, 101, 118, 101, 114] := by decide +kernel
theorem join_mem {S : List Nat} : ∀ {ps : List (List Nat)} {c : Nat}, c ∈ joinL S ps → c ∈ S ∨ ∃ p ∈ ps, c ∈ p
  | [], c, h => nomatch h
  | [p], c, h => .inr ⟨p, List.mem_singleton.mpr rfl, h⟩
  | p :: q :: r, c, h => by
    rcases List.mem_append.mp (show c ∈ p ++ (S ++ joinL S (q :: r)) from h) with h | h
    · exact .inr ⟨p, List.mem_cons_self, h⟩
    · rcases List.mem_append.mp h with h | h
      · exact .inl h
      · rcases join_mem h with h | ⟨x, hx, hc⟩
        · exact .inl h
        · exact .inr ⟨x, List.mem_cons_of_mem _ hx, hc⟩
theorem tl_joined (y : Str) (ws : List Str) : tl (Txt.join y ws) = joinL (tl y) (ws.map tl) := by rw [join_eq, tl_join]
theorem spl_words {ws : List Str} (hne : ws ≠ []) (h : ∀ w ∈ ws, Wd w) : spl [32] 0 [] (tl (Txt.join (Str.ofString " ") ws)) = ws.map tl := by
  rw [tl_joined, tl_sp]
  refine spl_join (fun e => hne (List.map_eq_nil_iff.mp e)) fun p hp => ?_
  obtain ⟨w, hw, rfl⟩ := List.mem_map.mp hp
  intro z
  have := h w hw 32 z
  omega
theorem part_inj {ws ws' : List Str} (h : ∀ w ∈ ws, Wd w) (h' : ∀ w ∈ ws', Wd w) (e : part ws = part ws') : ws = ws' := by
  have bad : ∀ {us : List Str}, us ≠ [] → (∀ w ∈ us, Wd w) → tl (Txt.join (Str.ofString " ") us) ≠ [45] := fun {us} hne hw z => by
    have q := spl_words hne hw
    rw [z] at q
    have q2 : us.map tl = [[45]] := q.symm.trans (by decide +kernel)
    obtain ⟨u, e0, e1⟩ := List.map_eq_singleton_iff.mp q2
    have := hw u (by rw [e0]; exact List.mem_singleton.mpr rfl) 45 (by rw [e1]; simp)
    omega
  unfold part at e
  by_cases n1 : ws = []
  · by_cases n2 : ws' = []
    · rw [n1, n2]
    · rw [if_pos n1, if_neg n2] at e
      exact absurd (by rw [← e, tl_mi]) (bad n2 h')
  · by_cases n2 : ws' = []
    · rw [if_neg n1, if_pos n2] at e
      exact absurd (by rw [e, tl_mi]) (bad n1 h)
    · rw [if_neg n1, if_neg n2] at e
      refine map_tl_inj ?_
      rw [← spl_words n1 h, ← spl_words n2 h', e]
theorem part_free {ws : List Str} (h : ∀ w ∈ ws, Wd w) : 124 ∉ tl (part ws) := by
  unfold part
  split
  · rw [tl_mi]; decide
  · rw [tl_joined, tl_sp]
    intro z
    rcases join_mem z with z | ⟨p, hp, z⟩
    · simp at z
    · obtain ⟨w, hw, rfl⟩ := List.mem_map.mp hp
      have := h w hw 124 z
      omega
theorem two_inj {a b a' b' : Str} (h1 : 124 ∉ tl a) (h2 : 124 ∉ tl a') (e : Txt.join (Str.ofString " | ") [a, b] = Txt.join (Str.ofString " | ") [a', b']) : a = a' ∧ b = b' := by
  have e1 := congrArg tl e
  rw [tl_joined, tl_joined, tl_bar] at e1
  have e2 : (tl a ++ [32]) ++ 124 :: 32 :: tl b = (tl a' ++ [32]) ++ 124 :: 32 :: tl b' := by simpa [joinL] using e1
  obtain ⟨q1, q2⟩ := cut_inj (by simp [h1]) (by simp [h2]) e2
  exact ⟨ext_tl (List.append_cancel_right q1), ext_tl (List.cons.inj q2).2⟩
/-! ### numbers -/
def numT (i : Int) : Str := Str.ofString (toString i)
theorem tl_numT {i : Int} (h : 0 ≤ i) : tl (numT i) = numL i.toNat := by
  have e : ((i.toNat : Nat) : Int) = i := by omega
  rw [← tl_num, e]
  rfl
theorem numT_wd {i : Int} (h : 0 ≤ i) : Wd (numT i) := fun c hc => by
  rw [tl_numT h] at hc
  have := numL_digits i.toNat c hc
  omega
theorem numT_inj {i j : Int} (h : 0 ≤ i) (h' : 0 ≤ j) (e : numT i = numT j) : i = j := by
  have e1 := congrArg tl e
  rw [tl_numT h, tl_numT h'] at e1
  have := numL_inj e1
  omega
theorem numT_len {i : Int} (h : 0 ≤ i) (h1 : i ≤ 1000000001) : (numT i).length ≤ 10 := by
  rw [len_tl, tl_numT h]
  exact numL_len (by decide) (by omega)
def strT (i : Int) : Str := if i = 1000000001 then Str.ofString "never" else numT i
theorem strT_wd {i : Int} (h : 0 ≤ i) : Wd (strT i) := by
  unfold strT
  split
  · intro c hc
    rw [tl_never] at hc
    simp at hc
    omega
  · exact numT_wd h
theorem strT_inj {i j : Int} (h : 0 ≤ i) (h' : 0 ≤ j) (e : strT i = strT j) : i = j := by
  have no : ∀ {k : Int}, 0 ≤ k → Str.ofString "never" ≠ numT k := fun {k} hk z => by
    have e1 := congrArg tl z
    rw [tl_never, tl_numT hk] at e1
    have := numL_digits k.toNat 110 (by rw [← e1]; simp)
    omega
  unfold strT at e
  split at e <;> split at e
  · omega
  · exact absurd e (no h')
  · exact absurd e.symm (no h)
  · exact numT_inj h h' e
theorem strT_len {i : Int} (h : 0 ≤ i) (h1 : i ≤ 1000000001) : (strT i).length ≤ 10 := by
  unfold strT
  split
  · decide +kernel
  · exact numT_len h h1
/-! ### the words of a story -/
def dayW (n : Nat) (d : Nat → Int) : List Str := (List.range n).map fun k => numT (d k)
def strW (M : List Str) (v : Str → Int) : List Str := M.map fun m => m ++ Str.ofString ":" ++ strT (v m)
def storyT (n : Nat) (M : List Str) (d : Nat → Int) (v : Str → Int) : Str := Txt.join (Str.ofString " | ") [part (dayW n d), part (strW M v)]
variable {n n' : Nat} {M M' : List Str} {d d' : Nat → Int} {v v' : Str → Int} {s : Store}
theorem dayW_wd (h : Good n M d v) : ∀ w ∈ dayW n d, Wd w := fun w hw => by
  obtain ⟨k, hk, rfl⟩ := List.mem_map.mp hw
  exact numT_wd (h.days k (List.mem_range.mp hk)).1
theorem strW_wd (h : Good n M d v) : ∀ w ∈ strW M v, Wd w := fun w hw => by
  obtain ⟨m, hm, rfl⟩ := List.mem_map.mp hw
  intro c hc
  rw [tl_append, tl_append, tl_colon] at hc
  rcases List.mem_append.mp hc with hc | hc
  · rcases List.mem_append.mp hc with hc | hc
    · have := (h.nm m hm).2.2 c hc
      omega
    · simp at hc
      omega
  · exact strT_wd (h.strays m hm).1 c hc
theorem dayW_inj (h : ∀ k, k < n → 0 ≤ d k) (h' : ∀ k, k < n' → 0 ≤ d' k) (e : dayW n d = dayW n' d') : n = n' ∧ ∀ k, k < n → d k = d' k := by
  have en : n = n' := by simpa [dayW] using congrArg List.length e
  subst en
  refine ⟨rfl, fun k hk => ?_⟩
  have q := congrArg (fun l => l[k]?) e
  simp [dayW, hk] at q
  exact numT_inj (h k hk) (h' k hk) q
theorem strW_inj : ∀ {M M' : List Str}, (∀ m ∈ M, Nm m ∧ 0 ≤ v m) → (∀ m ∈ M', Nm m ∧ 0 ≤ v' m) → strW M v = strW M' v' → M = M' ∧ ∀ m ∈ M, v m = v' m
  | [], [], _, _, _ => ⟨rfl, fun _ h => nomatch h⟩
  | [], _ :: _, _, _, e => nomatch e
  | _ :: _, [], _, _, e => nomatch e
  | m :: M, m' :: M', h, h', e => by
    have e' := List.cons.inj (show (m ++ Str.ofString ":" ++ strT (v m)) :: strW M v = (m' ++ Str.ofString ":" ++ strT (v' m')) :: strW M' v' from e)
    have e1 := congrArg tl e'.1
    rw [tl_append, tl_append, tl_append, tl_append, tl_colon] at e1
    have e2 : tl m ++ 58 :: tl (strT (v m)) = tl m' ++ 58 :: tl (strT (v' m')) := by simpa using e1
    have f1 : 58 ∉ tl m := fun z => by
      have := (h m List.mem_cons_self).1.2.2 58 z
      omega
    have f2 : 58 ∉ tl m' := fun z => by
      have := (h' m' List.mem_cons_self).1.2.2 58 z
      omega
    obtain ⟨q1, q2⟩ := cut_inj f1 f2 e2
    have em : m = m' := ext_tl q1
    subst em
    have ev : v m = v' m := strT_inj (h m List.mem_cons_self).2 (h' m List.mem_cons_self).2 (ext_tl q2)
    obtain ⟨r1, r2⟩ := strW_inj (fun x hx => h x (List.mem_cons_of_mem _ hx)) (fun x hx => h' x (List.mem_cons_of_mem _ hx)) e'.2
    refine ⟨by rw [r1], fun x hx => ?_⟩
    rcases List.mem_cons.mp hx with rfl | hx
    · exact ev
    · exact r2 x hx
theorem storyT_inj (h : Good n M d v) (h' : Good n' M' d' v') (e : storyT n M d v = storyT n' M' d' v') : n = n' ∧ (∀ k, k < n → d k = d' k) ∧ M = M' ∧ ∀ m ∈ M, v m = v' m := by
  obtain ⟨q1, q2⟩ := two_inj (part_free (dayW_wd h)) (part_free (dayW_wd h')) e
  obtain ⟨r1, r2⟩ := dayW_inj (fun k hk => (h.days k hk).1) (fun k hk => (h'.days k hk).1) (part_inj (dayW_wd h) (dayW_wd h') q1)
  obtain ⟨r3, r4⟩ := strW_inj (fun m hm => ⟨h.nm m hm, (h.strays m hm).1⟩) (fun m hm => ⟨h'.nm m hm, (h'.strays m hm).1⟩) (part_inj (strW_wd h) (strW_wd h') q2)
  exact ⟨r1, r2, r3, r4⟩
theorem storyT_same (hd : ∀ k, k < n → d k = d' k) (hv : ∀ m ∈ M, v m = v' m) : storyT n M d v = storyT n M d' v' := by
  unfold storyT dayW strW
  have e1 : (List.range n).map (fun k => numT (d k)) = (List.range n).map fun k => numT (d' k) := List.map_congr_left fun k hk => by rw [hd k (List.mem_range.mp hk)]
  have e2 : M.map (fun m => m ++ Str.ofString ":" ++ strT (v m)) = M.map fun m => m ++ Str.ofString ":" ++ strT (v' m) := List.map_congr_left fun m hm => by rw [hv m hm]
  rw [e1, e2]
end Mine
set_option Elab.async false
set_option linter.all false
set_option maxRecDepth 100000
set_option maxHeartbeats 400000
/-! Pr0: plain: small data can be shown; sizes of texts. No program here. -/
namespace PM
open PySem PyProof.Rows TL
/-- d is shown by a text of at most b signs -/
def Sh (n : Nat) (d : D) (b : Nat) : Prop := ∃ t, shw n d = some t ∧ t.length ≤ b
theorem Sh.mono {n : Nat} {d : D} {b c : Nat} (h : Sh n d b) (hc : b ≤ c) : Sh n d c := by
  obtain ⟨t, h1, h2⟩ := h
  exact ⟨t, h1, Nat.le_trans h2 hc⟩
theorem log2_ok {i : Int} (h : i.natAbs < 2 ^ 64) : i.natAbs.log2 < 1920 := by
  by_cases h0 : i.natAbs = 0
  · rw [h0]; decide
  · exact (Nat.log2_lt h0).mpr (Nat.lt_trans h (Nat.pow_lt_pow_right (by decide) (by decide)))
theorem num_len {i : Int} (h : 0 ≤ i) (h1 : i < 10 ^ 19) : (Str.ofString (toString i)).length ≤ 19 := by
  rw [len_tl]
  have e : ((i.toNat : Nat) : Int) = i := by omega
  rw [← e, tl_num]
  exact numL_len (by decide) (by omega)
theorem sh_int {n : Nat} {i : Int} (h : 0 ≤ i) (h1 : i < 10 ^ 19) : Sh (n + 1) (.int i) 19 := by
  refine ⟨Str.ofString (toString i), ?_, num_len h h1⟩
  show (if i.natAbs.log2 < 1920 then some (Str.ofString (toString i)) else none) = _
  rw [if_pos (log2_ok (by omega))]
theorem sh_str {n : Nat} {x : Str} {b : Nat} (h : ∀ c ∈ x.cps.toList, c < 16 ^ 8) (hb : x.length ≤ b) (hb2 : b ≤ 1000000) : Sh (n + 1) (.str x) (10 * b + 2) := by
  have hl := PySem.StrLaws.reprText_len x h
  refine ⟨reprText x, ?_, by omega⟩
  show (if (reprText x).length ≤ 16777216 then some (reprText x) else none) = _
  rw [if_pos (by omega)]
theorem seqO_all {α β : Type} {f : α → Option β} {P : β → Prop} : ∀ {l : List α}, (∀ x ∈ l, ∃ y, f x = some y ∧ P y) → ∃ ys, seqO (l.map f) = some ys ∧ ys.length = l.length ∧ ∀ y ∈ ys, P y
  | [], _ => ⟨[], rfl, rfl, fun _ h => nomatch h⟩
  | x :: l, h => by
    obtain ⟨y, e, hy⟩ := h x List.mem_cons_self
    obtain ⟨ys, e2, hl, hys⟩ := seqO_all fun z hz => h z (List.mem_cons_of_mem _ hz)
    refine ⟨y :: ys, ?_, by simp [hl], fun z hz => ?_⟩
    · rw [List.map_cons]
      unfold seqO
      rw [e, e2]
    · rcases List.mem_cons.mp hz with rfl | hz
      · exact hy
      · exact hys z hz
theorem len_app (x y : Str) : (x ++ y).length = x.length + y.length := by
  rw [len_tl, tl_append, List.length_append, ← len_tl, ← len_tl]
theorem sum_le {b : Nat} : ∀ {ts : List Str}, (∀ t ∈ ts, t.length ≤ b) → (ts.map (·.length)).sum ≤ ts.length * b
  | [], _ => by simp
  | t :: ts, h => by
    have h1 := h t List.mem_cons_self
    have h2 := sum_le (b := b) (ts := ts) fun x hx => h x (List.mem_cons_of_mem _ hx)
    rw [List.map_cons, List.sum_cons, List.length_cons, Nat.succ_mul]
    omega
theorem join_len {y : Str} {b : Nat} : ∀ {ts : List Str}, (∀ t ∈ ts, t.length ≤ b) → (Str.join y ts).length ≤ ts.length * (b + y.length)
  | [], _ => by show (Str.empty : Str).length ≤ _; simp [Str.length, Str.empty]
  | [t], h => by
    show t.length ≤ _
    have := h t List.mem_cons_self
    simp
    omega
  | t :: u :: r, h => by
    show (t ++ y ++ Str.join y (u :: r)).length ≤ _
    have h1 := h t List.mem_cons_self
    have h2 := join_len (y := y) (b := b) (ts := u :: r) fun x hx => h x (List.mem_cons_of_mem _ hx)
    rw [len_app, len_app, List.length_cons, Nat.succ_mul]
    omega
theorem textFrom_le {b : Nat} : ∀ {ts : List Str} {k : Nat} {acc : Str}, (∀ t ∈ ts, t.length ≤ b) → (textFrom k acc ts).length ≤ acc.length + ts.length * (b + 2)
  | [], k, acc, _ => by show acc.length ≤ _; omega
  | t :: ts, k, acc, h => by
    have h1 := h t List.mem_cons_self
    have h2 := textFrom_le (b := b) (ts := ts) (k := k + 1) (acc := acc ++ (if k > 0 then ", " else "" : String) ++ t) fun x hx => h x (List.mem_cons_of_mem _ hx)
    show (textFrom (k + 1) (acc ++ (if k > 0 then ", " else "" : String) ++ t) ts).length ≤ _
    have h3 : (acc ++ (if k > 0 then ", " else "" : String) ++ t).length ≤ acc.length + 2 + t.length := by
      rw [len_app, len_app]
      have : ((if k > 0 then ", " else "" : String) : Str).length ≤ 2 := by
        split <;> decide +kernel
      omega
    rw [List.length_cons, Nat.succ_mul]
    omega
theorem sh_lst {n : Nat} {ds : List D} {b : Nat} (h : ∀ d ∈ ds, Sh n d b) : Sh (n + 1) (.lst ds) (2 + ds.length * (b + 2)) := by
  obtain ⟨ys, e, hl, hy⟩ := seqO_all (f := shw n) (P := fun t => t.length ≤ b) h
  refine ⟨listText ys, ?_, ?_⟩
  · show (seqO (ds.map (shw n))).map listText = _
    rw [e]
    rfl
  · unfold listText
    have := textFrom_le (k := 0) (acc := "[") hy
    rw [len_app, ← hl]
    have e1 : ("[" : Str).length = 1 := by decide +kernel
    have e2 : ("]" : Str).length = 1 := by decide +kernel
    omega
theorem sh_tup {n : Nat} {ds : List D} {b : Nat} (h : ∀ d ∈ ds, Sh n d b) : Sh (n + 1) (.tup ds) (3 + ds.length * (b + 2)) := by
  obtain ⟨ys, e, hl, hy⟩ := seqO_all (f := shw n) (P := fun t => t.length ≤ b) h
  refine ⟨tupleText ys, ?_, ?_⟩
  · show (seqO (ds.map (shw n))).map tupleText = _
    rw [e]
    rfl
  · unfold tupleText
    have := join_len (y := ", ") hy
    rw [len_app, len_app, ← hl]
    have e1 : ("(" : Str).length = 1 := by decide +kernel
    have e3 : (", " : Str).length = 2 := by decide +kernel
    have e2 : ((if (ys.length == 1) = true then ",)" else ")" : String) : Str).length ≤ 2 := by split <;> decide +kernel
    rw [e3] at this
    omega
theorem sh_dct {n : Nat} {es : List (D × D)} {b : Nat} (h : ∀ e ∈ es, Sh n e.1 b ∧ Sh n e.2 b) : Sh (n + 1) (.dct es) (2 + es.length * (2 * b + 4)) := by
  obtain ⟨ys, e, hl, hy⟩ := seqO_all (f := shwE (shw n)) (P := fun t => t.length ≤ 2 * b + 2) (l := es) fun e he => by
    obtain ⟨⟨t, h1, h2⟩, t', h3, h4⟩ := h e he
    refine ⟨t ++ ": " ++ t', ?_, ?_⟩
    · unfold shwE
      rw [h1, h3]
    · rw [len_app, len_app]
      have e3 : (": " : Str).length = 2 := by decide +kernel
      omega
  refine ⟨dictText ys, ?_, ?_⟩
  · show (seqO (es.map (shwE (shw n)))).map dictText = _
    rw [e]
    rfl
  · unfold dictText
    have := join_len (y := ", ") hy
    rw [len_app, len_app, ← hl]
    have e1 : ("{" : Str).length = 1 := by decide +kernel
    have e3 : (", " : Str).length = 2 := by decide +kernel
    have e2 : ("}" : Str).length = 1 := by decide +kernel
    rw [e3, show 2 * b + 2 + 2 = 2 * b + 4 from rfl] at this
    omega
theorem repr_sh {d : D} {b : Nat} {s : Store} (h : Sh 20 d b) (hb : b ≤ 16777216) : ∃ t, t.length ≤ b ∧ mRepr d s = .ok (.str t) s := by
  obtain ⟨t, h1, h2⟩ := h
  refine ⟨t, h2, ?_⟩
  unfold mRepr
  rw [h1]
  dsimp only
  rw [fits_ok (by omega)]
  rfl
/-! ### join -/
theorem joined_len {y : Str} {b : Nat} {ts : List Str} (h : ∀ t ∈ ts, t.length ≤ b) : (Txt.join y ts).length ≤ ts.length * (b + y.length) := by
  rw [join_eq]
  exact join_len h
theorem join_run {y : Str} {b : Nat} {ts : List Str} {s : Store} (h : ∀ t ∈ ts, t.length ≤ b) (hb : ts.length * (b + y.length) ≤ 16777216) : mJoin (.str y) (.lst (ts.map D.str)) s = .ok (.str (Txt.join y ts)) s := by
  unfold mJoin
  simp only [seqOf, asStrs_map]
  have := sum_le h
  rw [Nat.mul_add] at hb
  rw [if_pos (by omega)]
end PM
set_option Elab.async false
set_option linter.all false
set_option maxRecDepth 100000
set_option maxHeartbeats 400000
/-! Pq4: str, ==, repr of stories; refusals. -/
namespace Mine
open PySem PM TL
variable {n n' : Nat} {M M' : List Str} {d d' : Nat → Int} {v v' : Str → Int} {s : Store}
theorem is_day_no : m_is_day (.int 1000000001) s = .ok (.bl false) s := by
  dsimp only [m_is_day, a_is_day]
  simp [callF_run, andB_run, bind_run, fn1_run, is_integer_int, chainM, le_run]
theorem strI_run {i : Int} (h : 0 ≤ i) (h1 : i < 10 ^ 19) : mStrI (.int i) s = .ok (.str (numT i)) s := strI_ok (log2_ok (by omega))
theorem day_text_ok {i : Int} (h : 0 ≤ i) (h1 : i ≤ 1000000001) : m_day_text (.int i) s = .ok (.str (strT i)) s := by
  dsimp only [m_day_text, a_day_text]
  unfold strT
  by_cases e : i = 1000000001
  · subst e
    simp [callF_run, andT_run, bind_run, fn1_run, is_integer_int, asB_run, ite_run, seqF_run]
  · simp [callF_run, andT_run, notT_run, bind_run, fn1_run, ap1_run, is_integer_int, asB_run, ite_run, seqF_run, e, is_day_int h (by omega : i ≤ 1000000000), strI_run h (by omega)]
theorem part_len {ws : List Str} (h : ∀ w ∈ ws, w.length ≤ 19) (hl : ws.length ≤ 60) : (part ws).length ≤ 1200 := by
  unfold part
  split
  · decide +kernel
  · have := joined_len (y := Str.ofString " ") h
    have e : (Str.ofString " ").length = 1 := by decide +kernel
    rw [e] at this
    omega
theorem dayW_len (h : Good n M d v) : ∀ w ∈ dayW n d, w.length ≤ 19 := fun w hw => by
  obtain ⟨k, hk, rfl⟩ := List.mem_map.mp hw
  have := h.days k (List.mem_range.mp hk)
  have := numT_len this.1 (by omega)
  omega
theorem nm_len {m : Str} (h : Nm m) : m.length ≤ 8 := h.2.1
theorem strW_len (h : Good n M d v) : ∀ w ∈ strW M v, w.length ≤ 19 := fun w hw => by
  obtain ⟨m, hm, rfl⟩ := List.mem_map.mp hw
  rw [len_app, len_app]
  have h1 := h.strays m hm
  have h2 := strT_len h1.1 h1.2
  have h3 := nm_len (h.nm m hm)
  have e : (Str.ofString ":").length = 1 := by decide +kernel
  omega
theorem str_ok (h : Good n M d v) : m_Story___str__ (ST n M d v) s = .ok (.str (storyT n M d v)) s := by
  have hn := h.few
  have hM := h.fewM
  have h1 : comp (fun e1 => pure true) (fun e1 => ap1 mStrI [e1]) ⟨yes, (List.range n).map fun k => .int (d k)⟩ s = .ok ((dayW n d).map D.str) s := by
    unfold dayW
    rw [List.map_map]
    refine comp_map (by simp; omega) (fun _ _ => rfl) fun k hk => ?_
    have := h.days k (List.mem_range.mp hk)
    exact strI_run this.1 (by omega)
  have h2 : comp (un2 fun e1 e2 => pure true) (un2 fun e3 e4 => mAdd e3 (.str (Str.ofString ":")) >>= fun x => fn1 m_day_text [e4] >>= fun y => mAdd x y) ⟨yes, M.map fun m => .tup [.str m, .int (v m)]⟩ s = .ok ((strW M v).map D.str) s := by
    unfold strW
    rw [List.map_map]
    refine comp_map (by omega) (fun _ _ => rfl) fun m hm => ?_
    have q := h.strays m hm
    have q3 := nm_len (h.nm m hm)
    have q2 := strT_len q.1 q.2
    have e : (Str.ofString ":").length = 1 := by decide +kernel
    rw [un2_run, bind_run, adds_run (by rw [e]; omega)]
    dsimp only
    rw [bind_run, fn1_run, day_text_ok q.1 q.2]
    dsimp only
    rw [adds_run (by rw [len_app, e]; omega)]
    rfl
  have h3 : comp (fun e6 => pure true) (fun e6 => mLst [] >>= fun y => mNe e6 y >>= fun z => asB z >>= fun t => if t = true then mJoin (.str (Str.ofString " ")) e6 else pure (.str (Str.ofString "-"))) ⟨yes, [.lst ((dayW n d).map D.str), .lst ((strW M v).map D.str)]⟩ s = .ok ([part (dayW n d), part (strW M v)].map D.str) s := by
    have hj : ∀ ws : List Str, (∀ w ∈ ws, w.length ≤ 19) → ws.length ≤ 60 → (mLst [] >>= fun y => mNe (.lst (ws.map D.str)) y >>= fun z => asB z >>= fun t => if t = true then mJoin (.str (Str.ofString " ")) (.lst (ws.map D.str)) else pure (.str (Str.ofString "-"))) s = .ok (.str (part ws)) s := fun ws hw hl => by
      have e : (Str.ofString " ").length = 1 := by decide +kernel
      rw [bind_run, lst_run (by decide)]
      dsimp only
      rw [bind_run, ne_nil]
      dsimp only
      rw [bind_run, asB_run]
      dsimp only
      unfold part
      by_cases q : ws = []
      · subst q
        simp
      · rw [if_neg q]
        have : ws.isEmpty = false := by simpa using q
        simp only [List.isEmpty_map, this, Bool.not_false, if_true]
        exact join_run hw (by rw [e]; omega)
    refine comp_map (l := [dayW n d, strW M v]) (h := fun ws => .lst (ws.map D.str)) (g := fun ws => .str (part ws)) (by simp) (fun _ _ => rfl) fun ws hws => ?_
    rcases List.mem_cons.mp hws with rfl | hws
    · exact hj _ (dayW_len h) (by simpa [dayW] using hn)
    · rcases List.mem_cons.mp hws with rfl | hws
      · exact hj _ (strW_len h) (by simpa [strW] using hM)
      · nomatch hws
  have h4 : mJoin (.str (Str.ofString " | ")) (.lst ([part (dayW n d), part (strW M v)].map D.str)) s = .ok (.str (storyT n M d v)) s := by
    have e : (Str.ofString " | ").length = 3 := by decide +kernel
    refine join_run (b := 1200) (fun t ht => ?_) (by rw [e]; simp)
    rcases List.mem_cons.mp ht with rfl | ht
    · exact part_len (dayW_len h) (by simpa [dayW] using hn)
    · rcases List.mem_cons.mp ht with rfl | ht
      · exact part_len (strW_len h) (by simpa [strW] using hM)
      · nomatch ht
  dsimp only [m_Story___str__, a_Story___str__]
  simp only [callF_run, bind_run, pure_run, pure_bind', bind_assoc', fld0, fld1, items_lst, h1, pairs_dct, h2, tup2_run, items_tup, h3, h4]
end Mine
set_option Elab.async false
set_option linter.all false
set_option maxRecDepth 100000
set_option maxHeartbeats 400000
/-! Pq5: ==, repr of stories; refusals. -/
namespace PM
open PySem
theorem eqX_obj {c : String} {g : List D → M D} {fs : List D} {y : D} {s : Store} {ty : Ty} {b : Bool} (ht : y.ty s = some ty) (ho : ty.only c = true) (hg : g [.obj c fs, y] s = .ok (.bl b) s) : mEqX c g (.obj c fs) y s = .ok (.bl b) s := by
  unfold mEqX eqO objOf
  simp [ht, ho, bind_run, noErr_run, hg]
theorem neX_obj {c : String} {g : List D → M D} {fs : List D} {y : D} {s : Store} {ty : Ty} {b : Bool} (ht : y.ty s = some ty) (ho : ty.only c = true) (hg : g [.obj c fs, y] s = .ok (.bl b) s) : mNeX c g (.obj c fs) y s = .ok (.bl !b) s := by
  unfold mNeX eqO objOf
  simp [ht, ho, bind_run, noErr_run, hg]
theorem neX_data {c : String} {g : List D → M D} {x y : D} {s : Store} {b : Bool} (ho : objOf s x = none) (h : deq 60 x y = some b) : mNeX c g x y s = .ok (.bl !b) s := by
  unfold mNeX
  rw [ho]
  exact ne_ok h
end PM
namespace Mine
open PySem PM TL
variable {n n' : Nat} {M M' : List Str} {d d' : Nat → Int} {v v' : Str → Int} {s : Store}
theorem eq_ST (h : Good n M d v) (h' : Good n' M' d' v') : m_Story___eq__ (ST n M d v) (ST n' M' d' v') s = .ok (.bl (decide (storyT n M d v = storyT n' M' d' v'))) s := by
  dsimp only [m_Story___eq__, a_Story___eq__]
  simp [callF_run, andB_run, bind_run, mIsiC, D.ty, Ty.isC, noErr_run, fn1_run, str_ok h, str_ok h', chkStr]
theorem eq_no {y : D} {T : String} (h : y.ty s = some (.b T)) : m_Story___eq__ (ST n M d v) y s = .ok (.bl false) s := by
  dsimp only [m_Story___eq__, a_Story___eq__]
  simp [callF_run, andB_run, bind_run, mIsiC, h, Ty.isC]
theorem story_signs (h : Good n M d v) : ∀ c ∈ tl (storyT n M d v), c < 16 ^ 8 := fun c hc => by
  have pt : ∀ {ws : List Str}, (∀ w ∈ ws, Wd w) → ∀ c ∈ tl (part ws), c ≤ 122 := fun {ws} hw c hc => by
    unfold part at hc
    split at hc
    · rw [tl_mi] at hc
      simp at hc
      omega
    · rw [tl_joined, tl_sp] at hc
      rcases join_mem hc with z | ⟨p, hp, z⟩
      · simp at z
        omega
      · obtain ⟨w, hw', rfl⟩ := List.mem_map.mp hp
        exact (hw w hw' c z).2
  unfold storyT at hc
  rw [tl_joined, tl_bar] at hc
  rcases join_mem hc with z | ⟨p, hp, z⟩
  · simp at z
    omega
  · obtain ⟨w, hw', rfl⟩ := List.mem_map.mp hp
    rcases List.mem_cons.mp hw' with rfl | hw'
    · have := pt (dayW_wd h) c z
      omega
    · rcases List.mem_cons.mp hw' with rfl | hw'
      · have := pt (strW_wd h) c z
        omega
      · nomatch hw'
theorem story_len (h : Good n M d v) : (storyT n M d v).length ≤ 2500 := by
  unfold storyT
  have e : (Str.ofString " | ").length = 3 := by decide +kernel
  have := joined_len (y := Str.ofString " | ") (b := 1200) (ts := [part (dayW n d), part (strW M v)]) (fun t ht => by
    rcases List.mem_cons.mp ht with rfl | ht
    · exact part_len (dayW_len h) (by simpa [dayW] using h.few)
    · rcases List.mem_cons.mp ht with rfl | ht
      · exact part_len (strW_len h) (by simpa [strW] using h.fewM)
      · nomatch ht)
  rw [e] at this
  simp at this
  omega
/-- what can be shown -/
def Shown (y : D) (s : Store) : Prop := ∃ t, mReprT rp_Story y s = .ok (.str t) s ∧ t.length ≤ 1000000
theorem shown_ST (h : Good n M d v) : Shown (ST n M d v) s := by
  obtain ⟨t, ht, e⟩ := repr_sh (s := s) (sh_str (n := 19) (story_signs h) (story_len h) (by decide)) (by decide)
  have e1 : mReprT rpNo (.str (storyT n M d v)) s = .ok (.str t) s := e
  have l1 : (Str.ofString "Story(").length = 6 := by decide +kernel
  have l2 : (Str.ofString ")").length = 1 := by decide +kernel
  have l0 : Str.empty.length = 0 := by decide +kernel
  have r : m_Story___repr__ (ST n M d v) s = .ok (.str (Str.empty ++ Str.ofString "Story(" ++ t ++ Str.ofString ")")) s := by
    dsimp only [m_Story___repr__, a_Story___repr__]
    unfold jsM jsM jsM jsM
    simp only [callF_run, bind_run, pure_run, pure_bind']
    rw [fits_ok (by rw [len_app, l0, l1]; decide)]
    simp only [bind_run, isO_obj, noErr_run, fn1_run, str_ok h, chkStr, pure_run, e1]
    rw [fits_ok (by rw [len_app, len_app, l0, l1]; omega)]
    rw [fits_ok (by rw [len_app, len_app, len_app, l0, l1, l2]; omega)]
    simp only [bind_run, pure_run]
  have lr : (Str.empty ++ Str.ofString "Story(" ++ t ++ Str.ofString ")").length ≤ 30000 := by
    rw [len_app, len_app, len_app, l0, l1, l2]
    omega
  refine ⟨_, ?_, Nat.le_trans lr (by decide)⟩
  unfold mReprT
  have eo : objOf s (ST n M d v) = some ("Story", [dL n d, kL M v]) := rfl
  have er : rp_Story "Story" = some (fn1 m_Story___repr__) := rfl
  rw [eo]
  simp only [er]
  simp only [bind_run, noErr_run, fn1_run, r]
  rw [fits_ok (by omega)]
  rfl
theorem shown_data {y : D} {b : Nat} (ho : objOf s y = none) (h : Sh 20 y b) (hb : b ≤ 1000000) : Shown y s := by
  obtain ⟨t, ht, e⟩ := repr_sh (s := s) h (by omega)
  refine ⟨t, ?_, by omega⟩
  unfold mReprT
  rw [ho]
  exact e
def xOf (y : D) : Exc := ⟨"InvalidStory", [.tup [.str (Str.ofString "InvalidStory"), y], y]⟩
theorem xinit_ok {y : D} (h : Shown y s) : m_InvalidStory___init__ y s = .ok (xOf y).fs s := by
  obtain ⟨t, e, ht⟩ := h
  have l0 : Str.empty.length = 0 := by decide +kernel
  have l1 : (Str.ofString "not a story of the case: ").length = 25 := by decide +kernel
  dsimp only [m_InvalidStory___init__, a_InvalidStory___init__]
  unfold jsM jsM jsM
  simp only [bind_run, pure_run, pure_bind']
  rw [fits_ok (by rw [len_app, l0, l1]; decide)]
  simp only [bind_run, e]
  rw [fits_ok (by rw [len_app, len_app, l0, l1]; omega)]
  simp only [bind_run, pure_run, tup2_run]
  rfl
/-- what is refused -/
inductive Odd (n : Nat) (M : List Str) : D → Prop
  | flat {y : D} {T : String} {b : Nat} : (∀ s, y.ty s = some (.b T)) → (∀ s, objOf s y = none) → Sh 20 y b → b ≤ 1000000 → deq 60 y y = some true → Odd n M y
  | st {n' : Nat} {M' : List Str} {d' : Nat → Int} {v' : Str → Int} : Good n' M' d' v' → ¬ (n' = n ∧ M' = M) → Odd n M (ST n' M' d' v')
theorem alike_no {y : D} (h : Odd n M y) : m_Story_require_alike (ST n M d v) y s = .err (xOf y) s := by
  dsimp only [m_Story_require_alike, a_Story_require_alike]
  cases h with
  | flat h1 h2 h3 h4 h5 =>
    simp [callF_run, bind_run, orT_run, notT_run, asB_run, mIsiC, h1, Ty.isC, noErr_run, fn1_run, xinit_ok (shown_data (h2 s) h3 h4), ite_run]
    rfl
  | @st n' M' d' v' g ne =>
    have e : (decide (n' = n) && decide (M' = M)) = false := by
      cases q : decide (n' = n) && decide (M' = M) with
      | false => rfl
      | true => simp at q; exact absurd q ne
    simp [callF_run, bind_run, orT_run, notT_run, asB_run, mIsiC, D.ty, Ty.isC, ap1_run, fn3_run, concerns_ok, e, noErr_run, fn1_run, xinit_ok (shown_ST g), ite_run]
    rfl
theorem melted_no {y : D} (h : Odd n M y) : m_Story_melted (ST n M d v) y s = .err (xOf y) s := by
  dsimp only [m_Story_melted, a_Story_melted]
  simp [callF_run, bind_run, fn2_run, alike_no h]
theorem bad_no {y : D} (h : Odd n M y) : m_Story_is_as_bad_as (ST n M d v) y s = .err (xOf y) s := by
  dsimp only [m_Story_is_as_bad_as, a_Story_is_as_bad_as]
  simp [callF_run, bind_run, fn2_run, alike_no h]
theorem xfld_ok {y : D} : xFld xls (Str.ofString "value") (xOf y) s = .ok y s := by
  unfold xFld
  have : ((xls (xOf y).c).zip (xOf y).fs).lookup (Str.ofString "value") = some y := by
    show List.lookup (Str.ofString "value") [(Str.ofString "told_parts", _), (Str.ofString "value", y)] = some y
    rw [List.lookup_cons, show (Str.ofString "value" == Str.ofString "told_parts") = false by decide +kernel, List.lookup_cons, show (Str.ofString "value" == Str.ofString "value") = true by decide +kernel]
  rw [this]
  rfl
theorem refused_ok {y : D} {w : Int} (h : Odd n M y) : m__law_refused (ST n M d v) (.int w) y s = .ok (.tup [y]) s := by
  have hs : subs (xOf y).c "InvalidStory" = true := by
    show subs "InvalidStory" "InvalidStory" = true
    decide +kernel
  dsimp only [m__law_refused, a__law_refused]
  rw [callF_run, bind_run, seqF_run, bind_run]
  unfold tryM
  by_cases e : w = 0
  · simp [bind_run, asB_run, e, ite_run, fn2_run, melted_no h, hs, xfld_ok, tup1_run]
  · simp [bind_run, asB_run, e, ite_run, fn2_run, bad_no h, hs, xfld_ok, tup1_run]
theorem self_ok {y : D} (h : Odd n M y) : mNeX "Story" (fn2 m_Story___eq__) y y s = .ok (.bl false) s := by
  cases h with
  | flat h1 h2 h3 h4 h5 => exact neX_data (h2 s) h5
  | @st n' M' d' v' g ne =>
    refine neX_obj (ty := .c "Story") (b := true) rfl rfl ?_
    rw [fn2_run, eq_ST g g]
    simp
theorem differs {y : D} (g : Good n M d v) (h : Odd n M y) : mEqX "Story" (fn2 m_Story___eq__) (ST n M d v) y s = .ok (.bl false) s := by
  cases h with
  | flat h1 h2 h3 h4 h5 => exact eqX_obj (h1 s) rfl (by rw [fn2_run]; exact eq_no (h1 s))
  | @st n' M' d' v' g' ne =>
    refine eqX_obj (ty := .c "Story") rfl rfl ?_
    rw [fn2_run, eq_ST g g']
    have : ¬ storyT n M d v = storyT n' M' d' v' := fun z => by
      obtain ⟨q1, _, q2, _⟩ := storyT_inj g g' z
      exact ne ⟨q1.symm, q2.symm⟩
    simp [this]
end Mine
set_option Elab.async false
set_option linter.all false
set_option maxRecDepth 100000
set_option maxHeartbeats 400000
/-! Pq6: new values, pairs. -/
namespace Mine
open PySem PM TL
variable {n n' : Nat} {M M' : List Str} {d d' d3 : Nat → Int} {v v' v3 : Str → Int} {s : Store}
theorem eq_dL : mEq (dL n d) (dL n d') s = .ok (.bl ((List.range n).all fun k => decide (d k = d' k))) s := eq_ok deq_range
theorem eq_kL : mEq (kL M v) (kL M v') s = .ok (.bl (M.all fun m => decide (v m = v' m))) s := eq_ok deq_kv
theorem ne_dL : mNe (dL n d) (dL n d') s = .ok (.bl !((List.range n).all fun k => decide (d k = d' k))) s := ne_ok deq_range
theorem ne_kL : mNe (kL M v) (kL M v') s = .ok (.bl !(M.all fun m => decide (v m = v' m))) s := ne_ok deq_kv
theorem all_yes {α : Type} {l : List α} : (l.all fun _ => true) = true := by simp
theorem new_ok (hs : M.Pairwise fun a b => leS a b = true) (h : Good n M d v) : m__law_new_right (PL n M d v) s = .ok (.bl true) s := by
  have hn := h.few
  have hM := h.fewM
  have e1 : mSorted (kL M v) s = .ok (M.map D.str) s := by
    rw [sort_keys (by omega), isort_id hs]
  have e2 : mEq (.lst (M.map D.str)) (.lst (M.map D.str)) s = .ok (.bl true) s := by
    rw [eq_ok (deq_lst (deq_str 58) M M)]
    simp
  have e3 : mEq (dL n d) (dL n d) s = .ok (.bl true) s := by rw [eq_dL]; simp
  have e4 : mEq (kL M v) (kL M v) s = .ok (.bl true) s := by rw [eq_kL]; simp
  dsimp only [m__law_new_right, a__law_new_right]
  simp only [callF_run, bind_run, pure_run, pure_bind', fn1_run, made_ok h, isort_id hs, isO_obj, noErr_run, days_ok, strays_ok]
  rw [fits_ok (by simp; omega)]
  simp only [bind_run, pure_run, pure_bind', key_str]
  rw [fits_ok (by simp; omega)]
  simp only [bind_run, pure_run, pure_bind', andB_run, isO_obj, noErr_run, fn1_run, days_ok, strays_ok, ix_tup0, ix_tup1, e3, e4, ap1_run, list_dct, e1, e2]
theorem same_iff (h : Good n M d v) (h' : Good n M d' v') : decide (storyT n M d v = storyT n M d' v') = (((List.range n).all fun k => decide (d k = d' k)) && M.all fun m => decide (v m = v' m)) := by
  rw [Bool.eq_iff_iff]
  simp only [decide_eq_true_eq, Bool.and_eq_true, List.all_eq_true, List.mem_range]
  constructor
  · intro e
    obtain ⟨_, q1, _, q2⟩ := storyT_inj h h' e
    exact ⟨q1, q2⟩
  · rintro ⟨q1, q2⟩
    exact storyT_same q1 q2
theorem badB_melt : badB n M d3 (mx d d') v3 (mn v v') = (badB n M d3 d v3 v && badB n M d3 d' v3 v') := by
  unfold badB
  rw [Bool.eq_iff_iff]
  simp only [Bool.and_eq_true, Bool.not_eq_true', List.any_eq_false, List.all_eq_true, List.mem_range, decide_eq_true_eq]
  constructor
  · rintro ⟨q1, q2⟩
    refine ⟨⟨fun k hk => ?_, fun m hm => ?_⟩, fun k hk => ?_, fun m hm => ?_⟩
    · have := q1 k hk
      unfold mx at this
      split at this <;> omega
    · have := q2 m hm
      unfold mn at this
      split at this <;> omega
    · have := q1 k hk
      unfold mx at this
      split at this <;> omega
    · have := q2 m hm
      unfold mn at this
      split at this <;> omega
  · rintro ⟨⟨q1, q2⟩, q3, q4⟩
    refine ⟨fun k hk => ?_, fun m hm => ?_⟩
    · have := q1 k hk
      have := q3 k hk
      unfold mx
      split <;> omega
    · have := q2 m hm
      have := q4 m hm
      unfold mn
      split <;> omega
theorem chkLen_ok : chkLen (.int n) s = .ok (.int n) s ∨ ¬ n ≤ 60 := by
  by_cases h : n ≤ 60
  · left
    exact guard_ok (cdec_iff.mpr ⟨by omega, by omega⟩)
  · exact .inr h
theorem eq_PL : mEq (PL n M d v) (PL n M d' v') s = .ok (.bl (((List.range n).all fun k => decide (d k = d' k)) && M.all fun m => decide (v m = v' m))) s := eq_ok (deq_tup2 deq_range deq_kv)
end Mine
set_option Elab.async false
set_option linter.all false
set_option maxRecDepth 100000
set_option maxHeartbeats 800000
/-! Pq7: pairs. -/
namespace Mine
open PySem PM TL
variable {n : Nat} {M : List Str} {d d' d3 : Nat → Int} {v v' v3 : Str → Int} {s : Store}
abbrev Sto := (Nat → Int) × (Str → Int)
abbrev plD (n : Nat) (M : List Str) (ps : List Sto) : List D := ps.map fun p => PL n M p.1 p.2
theorem pairs_ok {ps : List Sto} (hs : M.Pairwise fun a b => leS a b = true) (h : ∀ p ∈ ps, Good n M p.1 p.2) : m__law_pairs_right (.lst (plD n M ps)) s = .ok (.bl true) s := by
  dsimp only [m__law_pairs_right, a__law_pairs_right]
  simp only [callF_run, bind_run, pure_run, pure_bind', items_lst, aftF_run]
  rw [loop_pure (s := s) (ds := plD n M ps) fun x hx => ?_]
  rotate_left
  · obtain ⟨p, hp, rfl⟩ := List.mem_map.mp hx
    have g := h p hp
    simp only [bind_run, pure_run, pure_bind', items_lst, aftF_run]
    rw [loop_pure (s := s) (ds := plD n M ps) fun y hy => ?_]
    rotate_left
    · obtain ⟨q, hq, rfl⟩ := List.mem_map.mp hy
      have g' := h q hq
      have hn := g.few
      have hM := g.fewM
      have e1 : mEqX "Story" (fn2 m_Story___eq__) (ST n M p.1 p.2) (ST n M q.1 q.2) s = .ok (.bl (((List.range n).all fun k => decide (p.1 k = q.1 k)) && M.all fun m => decide (p.2 m = q.2 m))) s := by
        refine eqX_obj (ty := .c "Story") rfl rfl ?_
        rw [fn2_run, eq_ST g g', same_iff g g']
      have e2 : comp (fun _ => pure true) (fun e30 => mIx (PL n M p.1 p.2) (.int 0) >>= fun x => mIx x e30 >>= fun d => mIx (PL n M q.1 q.2) (.int 0) >>= fun y => mIx y e30 >>= fun d_1 => ap2 mMax [d, d_1]) ⟨yes, (List.range n).map fun k : Nat => D.int (k : Int)⟩ s = .ok ((List.range n).map fun k => .int (mx p.1 q.1 k)) s := by
        refine comp_map (by simp; omega) (fun _ _ => rfl) fun k hk => ?_
        have hk := List.mem_range.mp hk
        simp [bind_run, ix_map hk, ap2_run, max_run]
      have e3 : comp (fun _ => pure true) (fun e29 => mIx (PL n M p.1 p.2) (.int 1) >>= fun x => mIx x e29 >>= fun d => mIx (PL n M q.1 q.2) (.int 1) >>= fun y => mIx y e29 >>= fun d_1 => ap2 mMin [d, d_1] >>= fun d_2 => mTup [e29, d_2]) ⟨yes, M.map D.str⟩ s = .ok (M.map fun m => .tup [.str m, .int (mn p.2 q.2 m)]) s := by
        refine comp_map (by omega) (fun _ _ => rfl) fun m hm => ?_
        simp [bind_run, ix_str hm, ap2_run, min_run, tup2_run]
      have e4 : mDict (.lst (M.map fun m => .tup [.str m, .int (mn p.2 q.2 m)])) s = .ok (M.map (kv fun m => .int (mn p.2 q.2 m))) s := dict_pairs g.nd
      have e5 : mRange1 (.int n) s = .ok ⟨yes, (List.range n).map fun k : Nat => D.int (k : Int)⟩ s := range_ok (by omega)
      have e6 : chkLen (.int n) s = .ok (.int n) s := guard_ok (cdec_iff.mpr ⟨by omega, by omega⟩)
      have e7 : mNe (dL n (mx p.1 q.1)) (dL n (mx p.1 q.1)) s = .ok (.bl false) s := by rw [ne_dL]; simp
      have e8 : mNe (kL M (mn p.2 q.2)) (kL M (mn p.2 q.2)) s = .ok (.bl false) s := by rw [ne_kL]; simp
      simp only [bind_run, pure_run, pure_bind', bind_assoc', fn1_run, fn2_run, made_ok g, made_ok g', isort_id hs, orT_run, isO_obj, bad_ok hn hM, lawbad_ok hn hM, ne_bl, asB_run, beq_self_eq_true, Bool.not_true, Bool.false_eq_true, if_false, e1, eq_PL, seqF_run, melted_ok hs g g', ix_tup0, ix_tup1, ap1_run, len_lst, List.length_map, List.length_range, e5, e2, items_dct, e3, e4, tup2_run, noErr_run, days_ok, strays_ok, e7, e8, len_ok, e6, ne_int, decide_true, items_lst, aftF_run]
      rw [loop_pure (s := s) (ds := plD n M ps) fun z hz => ?_]
      · rfl
      · obtain ⟨r, hr, rfl⟩ := List.mem_map.mp hz
        have g3 := h r hr
        simp only [bind_run, pure_run, pure_bind', bind_assoc', fn1_run, fn2_run, made_ok g3, isort_id hs, isO_obj, bad_ok hn hM, lawbad_ok hn hM, andB_run, badB_melt]
        cases q1 : badB n M r.1 p.1 r.2 p.2 <;> cases q2 : badB n M r.1 q.1 r.2 q.2 <;> simp [bind_run, asB_run, fn2_run, lawbad_ok hn hM, q1, q2]
    · rfl
  · rfl
end Mine
set_option Elab.async false
set_option linter.all false
set_option maxRecDepth 100000
set_option maxHeartbeats 800000
/-! Pq8: refusals. -/
namespace PM
open PySem
theorem any_strs {M : List Str} {x : Str} : ((M.map D.str).any fun y => eqF y (.str x)) = decide (x ∈ M) := by
  induction M with
  | nil => rfl
  | cons m M ih =>
    rw [List.map_cons, List.any_cons, ih]
    have : eqF (.str m) (.str x) = decide (x = m) := by
      simp [eqF, flatK, eq_comm]
    rw [this]
    by_cases e : x = m <;> simp [e]
theorem notin_strs {M : List Str} {x : Str} {s : Store} : mNotIn (.str x) (.lst (M.map D.str)) s = .ok (.bl !(decide (x ∈ M))) s := by
  unfold mNotIn inOf
  dsimp only [seqOf]
  unfold inAt
  have h : flatD (.str x) = true ∧ (M.map D.str).all flatD = true := ⟨rfl, by simp [flatD]⟩
  dsimp only
  rw [if_pos h, any_strs]
theorem cut_one {α : Type} (xs : List α) : cutD xs (some 1) none = xs.drop 1 := by
  unfold cutD
  have e : HT.sIx xs.length 0 (some 1) = min 1 xs.length := HT.sIx_nat _ _ 1
  rw [e, HT.sIx_none]
  cases xs with
  | nil => rfl
  | cons a r => simp
theorem slice_one {ds : List D} {s : Store} : mSlice (.lst ds) (some 1) none s = .ok (.lst (ds.drop 1)) s := by
  unfold mSlice sliceOf
  simp [seqOf, cut_one]
end PM
namespace Mine
open PySem PM TL
variable {n : Nat} {M : List Str} {d : Nat → Int} {v : Str → Int} {s : Store}
def qs : List Str := [Str.ofString "q", Str.ofString "qq", Str.ofString "qqq", Str.ofString "qqqq", Str.ofString "qqqqq", Str.ofString "qqqqqq"]
theorem qs_nm : ∀ x ∈ qs, Nm x := by
  intro x hx
  have t : ∀ x ∈ qs, (decide (1 ≤ x.cps.size) && decide (x.cps.size ≤ 8) && x.cps.toList.all fun c => decide (97 ≤ c) && decide (c ≤ 122)) = true := by decide +kernel
  have := t x hx
  simp only [Bool.and_eq_true, decide_eq_true_eq, List.all_eq_true] at this
  exact ⟨this.1.1, this.1.2, this.2⟩
theorem qs_nd : qs.Nodup := by decide +kernel
theorem free_ok (h : M.length ≤ 4) : ∃ q, q ∉ M ∧ Nm q ∧ ∀ s, m__law_free (.lst (M.map D.str)) s = .ok (.str q) s := by
  have hne : qs.filter (fun x => !(decide (x ∈ M))) ≠ [] := fun z => by
    have sub : qs ⊆ M := fun x hx => by
      rw [List.filter_eq_nil_iff] at z
      have := z x hx
      simpa using this
    have := List.Nodup.length_le_of_subset qs_nd sub
    have e : qs.length = 6 := rfl
    omega
  obtain ⟨q, r, e⟩ := List.exists_cons_of_ne_nil hne
  have hq : q ∈ qs.filter (fun x => !(decide (x ∈ M))) := by rw [e]; exact List.mem_cons_self
  obtain ⟨hq1, hq2⟩ := List.mem_filter.mp hq
  refine ⟨q, by simpa using hq2, qs_nm q hq1, fun s => ?_⟩
  have hc : comp (fun e1 => mNotIn e1 (.lst (M.map D.str)) >>= fun z => asB z) (fun e1 => pure e1) ⟨yes, qs.map D.str⟩ s = .ok ((qs.filter fun x => !(decide (x ∈ M))).map D.str) s := by
    refine comp_filter (by decide) (fun x _ => ?_) (fun x _ _ => rfl)
    simp [bind_run, notin_strs, asB_run]
  rw [e] at hc
  have hl : mLst [D.str (Str.ofString "q"), D.str (Str.ofString "qq"), D.str (Str.ofString "qqq"), D.str (Str.ofString "qqqq"), D.str (Str.ofString "qqqqq"), D.str (Str.ofString "qqqqqq")] s = .ok (.lst (qs.map D.str)) s := lst_run (by simp)
  dsimp only [m__law_free, a__law_free]
  simp only [callF_run, bind_run, pure_run, pure_bind', hl, items_lst, hc, List.map_cons, ix_lst0]
def dP (n : Nat) (d : Nat → Int) (k : Nat) : Int := if k < n then d k else 0
theorem dL_snoc : mAdd (dL n d) (.lst [.int 0]) s = .ok (dL (n + 1) (dP n d)) s ∨ ¬ n ≤ 60 := by
  by_cases h : n ≤ 60
  · left
    rw [addl_run (by simp; omega)]
    have : (List.range n).map (fun k => D.int (d k)) ++ [.int 0] = (List.range (n + 1)).map fun k => D.int (dP n d k) := by
      rw [List.range_succ, List.map_append]
      congr 1
      · refine List.map_congr_left fun k hk => ?_
        unfold dP
        rw [if_pos (List.mem_range.mp hk)]
      · simp [dP]
    rw [this]
  · exact .inr h
theorem dL_tail : (((List.range n).map fun k => D.int (d k)).drop 1) = (List.range (n - 1)).map fun k => D.int (d (k + 1)) := by
  refine List.ext_getElem (by simp) fun i h1 h2 => ?_
  simp [Nat.add_comm]
theorem good_isort (g : Good n M d v) : Good n (isort leS M) d v := by
  have p := isort_perm leS M
  exact ⟨g.few, g.days, p.nodup_iff.mpr g.nd, by rw [p.length_eq]; exact g.fewM, fun m hm => g.nm m (p.mem_iff.mp hm), fun m hm => g.strays m (p.mem_iff.mp hm)⟩
def vq (q : Str) (v : Str → Int) (m : Str) : Int := if m = q then 5 else v m
theorem put_q {q : Str} (hq : q ∉ M) : dPut (M.map (kv fun m => .int (v m))) (.str q) (.int 5) = (M ++ [q]).map (kv fun m => .int (vq q v m)) := by
  rw [dPut_new hq]
  refine List.map_congr_left fun m _ => ?_
  unfold kv vq
  by_cases e : m = q <;> simp [e]
theorem sh_dL (hn : n ≤ 60) (hd : ∀ k, k < n → 0 ≤ d k ∧ d k ≤ 1000000000) : Sh 19 (dL n d) 2000 := by
  refine Sh.mono (sh_lst (b := 19) fun x hx => ?_) (by simp; omega)
  obtain ⟨k, hk, rfl⟩ := List.mem_map.mp hx
  have := hd k (List.mem_range.mp hk)
  exact sh_int this.1 (by omega)
theorem sh_kL (g : Good n M d v) : Sh 19 (kL M v) 20000 := by
  have hM := g.fewM
  refine Sh.mono (sh_dct (b := 82) fun x hx => ?_) (by simp; omega)
  obtain ⟨m, hm, rfl⟩ := List.mem_map.mp hx
  have h1 := g.nm m hm
  have h2 := g.strays m hm
  refine ⟨Sh.mono (sh_str (b := 8) (fun c hc => ?_) (nm_len h1) (by decide)) (by decide), Sh.mono (sh_int h2.1 (by omega)) (by decide)⟩
  have := h1.2.2 c hc
  omega
theorem odd_PL (g : Good n M d v) : Odd n M (PL n M d v) := by
  refine .flat (T := "tuple") (b := 50000) (fun _ => rfl) (fun _ => rfl) (Sh.mono (sh_tup (b := 20000) fun x hx => ?_) (by simp)) (by decide) ?_
  · rcases List.mem_cons.mp hx with rfl | hx
    · exact (sh_dL g.few g.days).mono (by decide)
    · rcases List.mem_cons.mp hx with rfl | hx
      · exact sh_kL g
      · nomatch hx
  · rw [deq_tup2 deq_range deq_kv]
    simp
theorem odd_non : Odd n M .non := .flat (T := "NoneType") (b := 10) (fun _ => rfl) (fun _ => rfl) ⟨_, rfl, by decide +kernel⟩ (by decide) rfl
theorem odd_zero : Odd n M (.int 0) := .flat (T := "int") (b := 19) (fun _ => rfl) (fun _ => rfl) (sh_int (by decide) (by decide)) (by decide) rfl
theorem odd_str : Odd n M (.str (Str.ofString "0 | -")) := .flat (T := "str") (b := 82) (fun _ => rfl) (fun _ => rfl) (sh_str (b := 8) (by decide +kernel) (by decide +kernel) (by decide)) (by decide) (by rw [deq_str]; simp)
theorem odd_nil : Odd n M (.lst []) := .flat (T := "list") (b := 2) (fun _ => rfl) (fun _ => rfl) (Sh.mono (sh_lst (b := 0) fun _ h => nomatch h) (by decide)) (by decide) rfl
theorem odd_nilK : Odd n M (.dct []) := .flat (T := "dict") (b := 2) (fun _ => rfl) (fun _ => rfl) (Sh.mono (sh_dct (b := 0) fun _ h => nomatch h) (by decide)) (by decide) rfl
end Mine
set_option Elab.async false
set_option linter.all false
set_option maxRecDepth 100000
set_option maxHeartbeats 1600000
/-! Pq9: refusals. -/
namespace Mine
open PySem PM TL
variable {n : Nat} {M : List Str} {d : Nat → Int} {v : Str → Int} {s : Store}
theorem good_tail (g : Good n M d v) : Good (n - 1) M (fun k => d (k + 1)) v :=
  ⟨by have := g.few; omega, fun k hk => g.days (k + 1) (by omega), g.nd, g.fewM, g.nm, g.strays⟩
theorem good_snoc (g : Good n M d v) (hn : n ≤ 6) : Good (n + 1) M (dP n d) v :=
  ⟨by omega, fun k hk => by
    unfold dP
    by_cases h : k < n
    · rw [if_pos h]; exact g.days k h
    · rw [if_neg h]; omega, g.nd, g.fewM, g.nm, g.strays⟩
theorem good_more (g : Good n M d v) (hM : M.length ≤ 4) {q : Str} (hq : q ∉ M) (nq : Nm q) : Good n (M ++ [q]) d (vq q v) :=
  ⟨g.few, g.days, List.nodup_append.mpr ⟨g.nd, by simp, fun a ha b hb => by rw [List.mem_singleton.mp hb]; exact fun z => hq (z ▸ ha)⟩, by simp; omega, fun m hm => by
    rcases List.mem_append.mp hm with hm | hm
    · exact g.nm m hm
    · rw [List.mem_singleton.mp hm]; exact nq, fun m hm => by
    unfold vq
    by_cases e : m = q
    · rw [if_pos e]; omega
    · rw [if_neg e]
      rcases List.mem_append.mp hm with hm | hm
      · exact g.strays m hm
      · exact absurd (List.mem_singleton.mp hm) e⟩
theorem good_drop (g : Good n M d v) : Good n (M.drop 1) d (fun _ => 1) :=
  ⟨g.few, g.days, g.nd.sublist (List.drop_sublist 1 M), by simp; have := g.fewM; omega, fun m hm => g.nm m (List.mem_of_mem_drop hm), fun _ _ => by omega⟩
theorem good_moved (g : Good n M d v) (hM : M.length ≤ 4) {q : Str} (hq : q ∉ M) (nq : Nm q) : Good n (M.drop 1 ++ [q]) d (fun _ => 1) :=
  ⟨g.few, g.days, List.nodup_append.mpr ⟨(good_drop g).nd, by simp, fun a ha b hb => by rw [List.mem_singleton.mp hb]; exact fun z => hq (z ▸ List.mem_of_mem_drop ha)⟩, by simp; omega, fun m hm => by
    rcases List.mem_append.mp hm with hm | hm
    · exact g.nm m (List.mem_of_mem_drop hm)
    · rw [List.mem_singleton.mp hm]; exact nq, fun _ _ => by omega⟩
theorem ones_ok {M : List Str} (hM : M.length ≤ 60) : comp (fun _ => pure true) (fun e20 => mTup [e20, .int 1]) ⟨yes, M.map D.str⟩ s = .ok (M.map fun m => .tup [.str m, .int 1]) s :=
  comp_map (by omega) (fun _ _ => rfl) fun m _ => tup2_run
theorem refusals_ok {r : D} (hs : M.Pairwise fun a b => leS a b = true) (hM : M.length ≤ 4) (hn : n ≤ 6) (g : Good n M d v) : m__law_refusals_right r (PL n M d v) s = .ok (.bl true) s := by
  obtain ⟨q, hq, nq, hfree⟩ := free_ok hM
  have g8 := good_snoc g hn
  have g9 := good_more g hM hq nq
  have g10 := good_tail g
  have g11 := good_moved g hM hq nq
  have g12 := good_drop g
  have o8 : Odd n M (ST (n + 1) (isort leS M) (dP n d) v) := .st (good_isort g8) fun z => by omega
  have o9 : Odd n M (ST n (isort leS (M ++ [q])) d (vq q v)) := .st (good_isort g9) fun z => by
    have := congrArg List.length z.2
    rw [(isort_perm leS _).length_eq] at this
    simp at this
  have o10 : ¬ n = 0 → Odd n M (ST (n - 1) (isort leS M) (fun k => d (k + 1)) v) := fun h0 => .st (good_isort g10) fun z => by omega
  have o11 : Odd n M (ST n (isort leS (M.drop 1 ++ [q])) d fun _ => 1) := .st (good_isort g11) fun z => by
    have : q ∈ isort leS (M.drop 1 ++ [q]) := (isort_perm leS _).mem_iff.mpr (by simp)
    rw [z.2] at this
    exact hq this
  have o12 : ¬ M = [] → Odd n M (ST n (isort leS (M.drop 1)) d fun _ => 1) := fun h0 => .st (good_isort g12) fun z => by
    have := congrArg List.length z.2
    rw [(isort_perm leS _).length_eq] at this
    have : 0 < M.length := List.length_pos_iff.mpr h0
    simp at *
    omega
  have e8 : mAdd (dL n d) (.lst [.int 0]) s = .ok (dL (n + 1) (dP n d)) s := dL_snoc.resolve_right fun z => z (by omega)
  have e9 : mSorted (kL M v) s = .ok (M.map D.str) s := by rw [sort_keys (by omega), isort_id hs]
  have e10 : mSlice (dL n d) (some 1) none s = .ok (dL (n - 1) fun k => d (k + 1)) s := by rw [slice_one, dL_tail]
  have e11 : mSlice (.lst (M.map D.str)) (some 1) none s = .ok (.lst ((M.drop 1).map D.str)) s := by rw [slice_one, List.map_drop]
  have e12 : mAdd (.lst ((M.drop 1).map D.str)) (.lst [.str q]) s = .ok (.lst ((M.drop 1 ++ [q]).map D.str)) s := by
    rw [addl_run (by simp; omega), List.map_append]
    rfl
  have e13 := ones_ok (s := s) (M := M.drop 1 ++ [q]) (by simp; omega)
  have e14 := ones_ok (s := s) (M := M.drop 1) (by simp; omega)
  have e15 : mDict (.lst ((M.drop 1 ++ [q]).map fun m => .tup [.str m, .int 1])) s = .ok ((M.drop 1 ++ [q]).map (kv fun _ => .int 1)) s := dict_pairs g11.nd
  have e16 : mDict (.lst ((M.drop 1).map fun m => .tup [.str m, .int 1])) s = .ok ((M.drop 1).map (kv fun _ => .int 1)) s := dict_pairs g12.nd
  have e17 : mRange1 (.int 2) s = .ok ⟨yes, (List.range 2).map fun k : Nat => D.int (k : Int)⟩ s := range_ok (n := 2) (by decide)
  have h1 : mEq (dL n d) (dL n d) s = .ok (.bl true) s := by rw [eq_dL]; simp
  have h2 : mEq (kL M v) (kL M v) s = .ok (.bl true) s := by rw [eq_kL]; simp
  have h3 : ∀ os : List D, os.length ≤ 20 → (∀ x ∈ os, Odd n M x) → comp (fun _ => pure true) (fun e34 => mEqX "Story" (fn2 m_Story___eq__) (ST n M d v) e34) ⟨yes, os⟩ s = .ok (os.map fun _ => D.bl false) s := fun os hl ho => comp_all (by omega) fun x hx => differs g (ho x hx)
  have h4 : ∀ os : List D, mAny (.lst (os.map fun _ => D.bl false)) s = .ok (.bl false) s := fun os => by
    rw [any_map]
    simp
  have ob : ∀ x ∈ [D.non, D.int 0, D.str (Str.ofString "0 | -"), D.lst [], PL n M d v, PL n M d v, D.dct [], ST (n + 1) M (dP n d) v, ST n (isort leS (M ++ [q])) d (vq q v)], Odd n M x := by
    rw [isort_id hs] at o8
    simp only [List.forall_mem_cons]
    exact ⟨odd_non, odd_zero, odd_str, odd_nil, odd_PL g, odd_PL g, odd_nilK, o8, o9, fun _ h => nomatch h⟩
  have ne1 : mNe (dL n d) (.lst []) s = .ok (.bl !(decide (n = 0))) s := by
    rw [ne_nil]
    cases n <;> simp
  have ne2 : mNe (kL M v) (.dct []) s = .ok (.bl !(decide (M = []))) s := by
    rw [ne_nilK]
    cases M <;> simp
  dsimp only [m__law_refusals_right, a__law_refusals_right]
  simp only [callF_run, bind_run, pure_run, pure_bind', bind_assoc', fn1_run, made_ok g, isort_id hs, lst0_run, ix_tup0, ix_tup1, tup2_run, fits_run, List.length_cons, List.length_nil, Nat.reduceAdd, Nat.reduceLeDiff, if_true, lst1_run, e8, made_ok g8, ap1_run, dict_copy, e9, hfree, key_str]
  have hl : M.length ≤ 16777215 := by omega
  simp only [List.length_map, hl, if_true, put_q hq, made_ok g9, List.length_append, List.length_cons, List.length_nil, Nat.reduceAdd, Nat.reduceLeDiff, ne1, asB_run, seqF_run, bind_run]
  by_cases h0 : n = 0
  · have c1 : (!decide (n = 0)) = false := by simp [h0]
    by_cases h0' : M = []
    · have c2 : (!decide (M = [])) = false := by simp [h0']
      simp only [c1, c2, callF_run, bind_run, pure_run, pure_bind', bind_assoc', fn1_run, isort_id hs, ix_tup0, ix_tup1, tup2_run, fits_run, List.length_cons, List.length_nil, List.length_append, Nat.reduceAdd, Nat.reduceLeDiff, if_true, lst1_run, ap1_run, dict_copy, e9, hfree, asIx, e10, made_ok g10, ne2, asB_run, seqF_run, Bool.false_eq_true, if_false, e11, e12, items_lst, e13, e14, e15, e16, made_ok g11, made_ok g12, aftF_run]
      have hos : ∀ x ∈ ([D.non, D.int 0, D.str (Str.ofString "0 | -"), D.lst [], PL n M d v, PL n M d v, D.dct []] ++ [ST (n + 1) M (dP n d) v] ++ [ST n (isort leS (M ++ [q])) d (vq q v)]), Odd n M x := ob
      rw [loop_pure (s := s) (ds := [D.non, D.int 0, D.str (Str.ofString "0 | -"), D.lst [], PL n M d v, PL n M d v, D.dct []] ++ [ST (n + 1) M (dP n d) v] ++ [ST n (isort leS (M ++ [q])) d (vq q v)]) fun x hx => ?_]
      · simp only [bind_run, pure_run, pure_bind', andB_run, notB_run, isO_obj, noErr_run, fn1_run, days_ok, strays_ok, ix_tup0, ix_tup1, h1, h2, items_lst, h3 _ (by simp) hos, ap1_run, h4, Bool.not_false]
      · have hx := hos x hx
        simp only [bind_run, pure_run, pure_bind', e17, aftF_run]
        rw [loop_pure (s := s) fun y hy => ?_]
        · rfl
        · obtain ⟨k, hk, rfl⟩ := List.mem_map.mp hy
          simp only [bind_run, pure_run, pure_bind', fn3_run, refused_ok hx, orT_run, isNon, Bool.false_eq_true, if_false, ix_tup0, self_ok hx, asB_run]
    · have c2 : (!decide (M = [])) = true := by simp [h0']
      simp only [c1, c2, callF_run, bind_run, pure_run, pure_bind', bind_assoc', fn1_run, isort_id hs, ix_tup0, ix_tup1, tup2_run, fits_run, List.length_cons, List.length_nil, List.length_append, Nat.reduceAdd, Nat.reduceLeDiff, if_true, lst1_run, ap1_run, dict_copy, e9, hfree, asIx, e10, made_ok g10, ne2, asB_run, seqF_run, Bool.false_eq_true, if_false, e11, e12, items_lst, e13, e14, e15, e16, made_ok g11, made_ok g12, aftF_run]
      have hos : ∀ x ∈ ([D.non, D.int 0, D.str (Str.ofString "0 | -"), D.lst [], PL n M d v, PL n M d v, D.dct []] ++ [ST (n + 1) M (dP n d) v] ++ [ST n (isort leS (M ++ [q])) d (vq q v)] ++ [ST n (isort leS (M.drop 1 ++ [q])) d fun _ => 1] ++ [ST n (isort leS (M.drop 1)) d fun _ => 1]), Odd n M x := (fun x hx => (List.mem_append.mp hx).elim ((fun x hx => (List.mem_append.mp hx).elim (ob x) fun hx => by rw [List.mem_singleton.mp hx]; exact o11) x) fun hx => by rw [List.mem_singleton.mp hx]; exact (o12 h0'))
      rw [loop_pure (s := s) (ds := [D.non, D.int 0, D.str (Str.ofString "0 | -"), D.lst [], PL n M d v, PL n M d v, D.dct []] ++ [ST (n + 1) M (dP n d) v] ++ [ST n (isort leS (M ++ [q])) d (vq q v)] ++ [ST n (isort leS (M.drop 1 ++ [q])) d fun _ => 1] ++ [ST n (isort leS (M.drop 1)) d fun _ => 1]) fun x hx => ?_]
      · simp only [bind_run, pure_run, pure_bind', andB_run, notB_run, isO_obj, noErr_run, fn1_run, days_ok, strays_ok, ix_tup0, ix_tup1, h1, h2, items_lst, h3 _ (by simp) hos, ap1_run, h4, Bool.not_false]
      · have hx := hos x hx
        simp only [bind_run, pure_run, pure_bind', e17, aftF_run]
        rw [loop_pure (s := s) fun y hy => ?_]
        · rfl
        · obtain ⟨k, hk, rfl⟩ := List.mem_map.mp hy
          simp only [bind_run, pure_run, pure_bind', fn3_run, refused_ok hx, orT_run, isNon, Bool.false_eq_true, if_false, ix_tup0, self_ok hx, asB_run]
  · have c1 : (!decide (n = 0)) = true := by simp [h0]
    by_cases h0' : M = []
    · have c2 : (!decide (M = [])) = false := by simp [h0']
      simp only [c1, c2, callF_run, bind_run, pure_run, pure_bind', bind_assoc', fn1_run, isort_id hs, ix_tup0, ix_tup1, tup2_run, fits_run, List.length_cons, List.length_nil, List.length_append, Nat.reduceAdd, Nat.reduceLeDiff, if_true, lst1_run, ap1_run, dict_copy, e9, hfree, asIx, e10, made_ok g10, ne2, asB_run, seqF_run, Bool.false_eq_true, if_false, e11, e12, items_lst, e13, e14, e15, e16, made_ok g11, made_ok g12, aftF_run]
      have hos : ∀ x ∈ ([D.non, D.int 0, D.str (Str.ofString "0 | -"), D.lst [], PL n M d v, PL n M d v, D.dct []] ++ [ST (n + 1) M (dP n d) v] ++ [ST n (isort leS (M ++ [q])) d (vq q v)] ++ [ST (n - 1) M (fun k => d (k + 1)) v]), Odd n M x := (fun x hx => (List.mem_append.mp hx).elim (ob x) fun hx => by rw [List.mem_singleton.mp hx]; exact (by have z := o10 h0; rw [isort_id hs] at z; exact z))
      rw [loop_pure (s := s) (ds := [D.non, D.int 0, D.str (Str.ofString "0 | -"), D.lst [], PL n M d v, PL n M d v, D.dct []] ++ [ST (n + 1) M (dP n d) v] ++ [ST n (isort leS (M ++ [q])) d (vq q v)] ++ [ST (n - 1) M (fun k => d (k + 1)) v]) fun x hx => ?_]
      · simp only [bind_run, pure_run, pure_bind', andB_run, notB_run, isO_obj, noErr_run, fn1_run, days_ok, strays_ok, ix_tup0, ix_tup1, h1, h2, items_lst, h3 _ (by simp) hos, ap1_run, h4, Bool.not_false]
      · have hx := hos x hx
        simp only [bind_run, pure_run, pure_bind', e17, aftF_run]
        rw [loop_pure (s := s) fun y hy => ?_]
        · rfl
        · obtain ⟨k, hk, rfl⟩ := List.mem_map.mp hy
          simp only [bind_run, pure_run, pure_bind', fn3_run, refused_ok hx, orT_run, isNon, Bool.false_eq_true, if_false, ix_tup0, self_ok hx, asB_run]
    · have c2 : (!decide (M = [])) = true := by simp [h0']
      simp only [c1, c2, callF_run, bind_run, pure_run, pure_bind', bind_assoc', fn1_run, isort_id hs, ix_tup0, ix_tup1, tup2_run, fits_run, List.length_cons, List.length_nil, List.length_append, Nat.reduceAdd, Nat.reduceLeDiff, if_true, lst1_run, ap1_run, dict_copy, e9, hfree, asIx, e10, made_ok g10, ne2, asB_run, seqF_run, Bool.false_eq_true, if_false, e11, e12, items_lst, e13, e14, e15, e16, made_ok g11, made_ok g12, aftF_run]
      have hos : ∀ x ∈ ([D.non, D.int 0, D.str (Str.ofString "0 | -"), D.lst [], PL n M d v, PL n M d v, D.dct []] ++ [ST (n + 1) M (dP n d) v] ++ [ST n (isort leS (M ++ [q])) d (vq q v)] ++ [ST (n - 1) M (fun k => d (k + 1)) v] ++ [ST n (isort leS (M.drop 1 ++ [q])) d fun _ => 1] ++ [ST n (isort leS (M.drop 1)) d fun _ => 1]), Odd n M x := (fun x hx => (List.mem_append.mp hx).elim ((fun x hx => (List.mem_append.mp hx).elim ((fun x hx => (List.mem_append.mp hx).elim (ob x) fun hx => by rw [List.mem_singleton.mp hx]; exact (by have z := o10 h0; rw [isort_id hs] at z; exact z)) x) fun hx => by rw [List.mem_singleton.mp hx]; exact o11) x) fun hx => by rw [List.mem_singleton.mp hx]; exact (o12 h0'))
      rw [loop_pure (s := s) (ds := [D.non, D.int 0, D.str (Str.ofString "0 | -"), D.lst [], PL n M d v, PL n M d v, D.dct []] ++ [ST (n + 1) M (dP n d) v] ++ [ST n (isort leS (M ++ [q])) d (vq q v)] ++ [ST (n - 1) M (fun k => d (k + 1)) v] ++ [ST n (isort leS (M.drop 1 ++ [q])) d fun _ => 1] ++ [ST n (isort leS (M.drop 1)) d fun _ => 1]) fun x hx => ?_]
      · simp only [bind_run, pure_run, pure_bind', andB_run, notB_run, isO_obj, noErr_run, fn1_run, days_ok, strays_ok, ix_tup0, ix_tup1, h1, h2, items_lst, h3 _ (by simp) hos, ap1_run, h4, Bool.not_false]
      · have hx := hos x hx
        simp only [bind_run, pure_run, pure_bind', e17, aftF_run]
        rw [loop_pure (s := s) fun y hy => ?_]
        · rfl
        · obtain ⟨k, hk, rfl⟩ := List.mem_map.mp hy
          simp only [bind_run, pure_run, pure_bind', fn3_run, refused_ok hx, orT_run, isNon, Bool.false_eq_true, if_false, ix_tup0, self_ok hx, asB_run]
end Mine
set_option Elab.async false
set_option linter.all false
set_option maxRecDepth 100000
set_option maxHeartbeats 400000
/-! Pq10: draws. -/
namespace PM
open PySem
inductive AllP {α β : Type} (P : α → β → Prop) : List α → List β → Prop
  | nil : AllP P [] []
  | cons {a : α} {b : β} {l : List α} {m : List β} : P a b → AllP P l m → AllP P (a :: l) (b :: m)
theorem AllP.len {α β : Type} {P : α → β → Prop} : ∀ {l : List α} {m : List β}, AllP P l m → m.length = l.length
  | _, _, .nil => rfl
  | _, _, .cons _ r => by rw [List.length_cons, List.length_cons, r.len]
theorem AllP.mem {α β : Type} {P : α → β → Prop} {Q : β → Prop} (h : ∀ a b, P a b → Q b) : ∀ {l : List α} {m : List β}, AllP P l m → ∀ b ∈ m, Q b
  | _, _, .nil, b, hb => nomatch hb
  | _, _, .cons p r, b, hb => by
    rcases List.mem_cons.mp hb with rfl | hb
    · exact h _ _ p
    · exact AllP.mem h r b hb
theorem wpM_compA {α : Type} {me : D → M D} {h : α → D} {I : Store → Prop} {P : α → D → Prop} : ∀ {l : List α} {s : Store}, I s → (∀ x ∈ l, ∀ s, I s → wpM (me (h x)) s fun y s' => I s' ∧ P x y) → wpM (compM (fun _ => pure true) me (l.map h)) s fun ys s' => I s' ∧ AllP P l ys
  | [], s, hI, _ => ⟨hI, .nil⟩
  | x :: l, s, hI, st => by
    rw [List.map_cons]
    unfold compM
    refine wpM_bind (wpM_of (noErr_ok (show (pure true : M Bool) s = .ok true s from rfl)) ?_)
    rw [if_pos rfl]
    refine wpM_bind (wpM_noErr (wpM_mono (st x List.mem_cons_self s hI) fun y s1 h1 => ?_))
    refine wpM_bind (wpM_mono (wpM_compA h1.1 fun z hz => st z (List.mem_cons_of_mem _ hz)) fun ys s2 h2 => wpM_pure ⟨h2.1, .cons h1.2 h2.2⟩)
theorem wpM_comp {α : Type} {me : D → M D} {h : α → D} {I : Store → Prop} {P : α → D → Prop} {l : List α} {s : Store} (hz : l.length ≤ 16777216) (hI : I s) (st : ∀ x ∈ l, ∀ s, I s → wpM (me (h x)) s fun y s' => I s' ∧ P x y) : wpM (comp (fun _ => pure true) me ⟨yes, l.map h⟩) s fun ys s' => I s' ∧ AllP P l ys := by
  rw [comp_yes]
  exact wpM_fits (by rw [List.length_map]; exact hz) (wpM_compA hI st)
/-- a loop over the store, by an invariant; it always goes on -/
theorem wpM_for {α : Type} {mb : D → α → M (Fl α α)} {I : List D → α → Store → Prop} {ds : List D} : ∀ (todo done : List D) {a : α} {s : Store}, done ++ todo = ds → I done a s → (∀ d done rest a s, done ++ d :: rest = ds → I done a s → wpM (mb d a) s fun x s' => ∃ a', x = .nx a' ∧ I (done ++ [d]) a' s') → wpM (forM mb todo a) s fun x s' => ∃ a', x = .nx a' ∧ I ds a' s'
  | [], done, a, s, e, h, _ => by
    rw [List.append_nil] at e
    exact wpM_pure ⟨a, rfl, e ▸ h⟩
  | d :: r, done, a, s, e, h, st => by
    unfold forM
    refine wpM_bind (wpM_mono (st d done r a s e h) ?_)
    rintro x s' ⟨a', rfl, h'⟩
    exact wpM_for r (done ++ [d]) (by rw [List.append_assoc]; exact e) h' st
theorem wpM_loop {α : Type} {mb : D → α → M (Fl α α)} {I : List D → α → Store → Prop} {ds : List D} {a : α} {s : Store} (h : I [] a s) (st : ∀ d done rest a s, done ++ d :: rest = ds → I done a s → wpM (mb d a) s fun x s' => ∃ a', x = .nx a' ∧ I (done ++ [d]) a' s') : wpM (loop mb ⟨yes, ds⟩ a) s fun x s' => ∃ a', x = .nx a' ∧ I ds a' s' := by
  rw [loop_yes]
  exact wpM_for ds [] rfl h st
end PM
namespace Mine
open PySem PM TL
/-- the rng at the cell n has been drawn from, nothing else has changed -/
def Drew (n : Nat) (s0 s : Store) : Prop := n < s0.length ∧ ∃ a b : Int, s = s0.set n (.lst [.int a, .int b]) ∧ 0 ≤ a ∧ 0 ≤ b ∧ b < 2147483423
theorem Drew.start {n : Nat} {s : Store} {a b : Int} (h : Rng s n a b) : Drew n s s := by
  obtain ⟨lt, e⟩ := List.getElem?_eq_some_iff.mp h.1
  refine ⟨lt, a, b, ?_, h.2⟩
  rw [← e, List.set_getElem_self]
theorem Drew.rng {n : Nat} {s0 s : Store} (h : Drew n s0 s) : ∃ a b, Rng s n a b := by
  obtain ⟨lt, a, b, rfl, q⟩ := h
  exact ⟨a, b, by rw [List.getElem?_set_self lt], q⟩
theorem Drew.step {n : Nat} {s0 s : Store} {a b : Int} (h : Drew n s0 s) (q : 0 ≤ a ∧ 0 ≤ b ∧ b < 2147483423) : Drew n s0 (s.set n (.lst [.int a, .int b])) := by
  obtain ⟨lt, a', b', rfl, _⟩ := h
  exact ⟨lt, a, b, by rw [List.set_set], q⟩
theorem Drew.trans {n : Nat} {s0 s1 s2 : Store} (h : Drew n s0 s1) (h' : Drew n s1 s2) : Drew n s0 s2 := by
  obtain ⟨_, a, b, rfl, q⟩ := h'
  exact h.step q
theorem draw_ok {n : Nat} {s0 s : Store} {many : Int} (h : Drew n s0 s) (hm : 0 < many) (hm2 : many < 1073741824) : wpM (fn2 m__law_draw [.cel n, .int many]) s fun d s' => Drew n s0 s' ∧ ∃ r, d = .int r ∧ 0 ≤ r ∧ r < many := by
  obtain ⟨a, b, hr⟩ := h.rng
  refine wpM_mono (spec_draw hr hm hm2) ?_
  rintro d s' ⟨r, a', b', rfl, r0, r1, rfl, q⟩
  exact ⟨h.step q, r, rfl, r0, r1⟩
theorem choice_ok {n : Nat} {s0 s : Store} {ds : List D} (h : Drew n s0 s) (h0 : ds ≠ []) (h1 : ds.length < 1073741824) : wpM (fn2 m__law_choice [.cel n, .lst ds]) s fun d s' => Drew n s0 s' ∧ d ∈ ds := by
  obtain ⟨a, b, hr⟩ := h.rng
  refine wpM_mono (spec_choice hr (x := .lst ds) (fun _ => rfl) rfl h0 h1) ?_
  rintro d s' ⟨hd, a', b', rfl, q⟩
  exact ⟨h.step q, hd⟩
/-- a drawn element of a list -/
theorem ix_ok {ds : List D} {r : Int} {s : Store} (h0 : 0 ≤ r) (h1 : r < ds.length) : ∃ d, d ∈ ds ∧ mIx (.lst ds) (.int r) s = .ok d s := ix_seq (x := .lst ds) rfl h0 h1
/-! ### lists of days, of stray days -/
theorem days_of {n : Nat} {B : Int} : ∀ {ys : List D}, ys.length = n → (∀ y ∈ ys, ∃ i, y = .int i ∧ 0 ≤ i ∧ i ≤ B) → ∃ d : Nat → Int, ys = (List.range n).map (fun k => .int (d k)) ∧ ∀ k, k < n → 0 ≤ d k ∧ d k ≤ B := by
  intro ys hl h
  refine ⟨fun k => match ys[k]? with | some (.int i) => i | _ => 0, ?_, fun k hk => ?_⟩
  · refine List.ext_getElem (by simp [hl]) fun k h1 h2 => ?_
    obtain ⟨i, e, _⟩ := h ys[k] (List.getElem_mem h1)
    simp [List.getElem?_eq_getElem h1, e]
  · have h1 : k < ys.length := by omega
    obtain ⟨i, e, q⟩ := h ys[k] (List.getElem_mem h1)
    simp only [List.getElem?_eq_getElem h1, e]
    exact q
theorem strays_of {B : Int} : ∀ {M : List Str} {ys : List D}, M.Nodup → AllP (fun m y => ∃ i, y = .tup [.str m, .int i] ∧ 0 ≤ i ∧ i ≤ B) M ys → ∃ v : Str → Int, ys = M.map (fun m => .tup [.str m, .int (v m)]) ∧ ∀ m ∈ M, 0 ≤ v m ∧ v m ≤ B
  | [], [], _, .nil => ⟨fun _ => 0, rfl, fun _ h => nomatch h⟩
  | m :: M, y :: ys, nd, .cons h r => by
    obtain ⟨i, e, q⟩ := h
    rw [List.nodup_cons] at nd
    obtain ⟨v, e2, q2⟩ := strays_of nd.2 r
    refine ⟨fun x => if x = m then i else v x, ?_, fun x hx => ?_⟩
    · rw [List.map_cons, e, e2]
      congr 1
      · simp
      · refine List.map_congr_left fun x hx => ?_
        have : ¬ x = m := fun z => nd.1 (z ▸ hx)
        simp [this]
    · by_cases e : x = m
      · simp only [e, if_true]; exact q
      · simp only [e, if_false]
        exact q2 x ((List.mem_cons.mp hx).resolve_left e)
end Mine
set_option Elab.async false
set_option linter.all false
set_option maxRecDepth 100000
set_option maxHeartbeats 400000
/-! Pq11: names. -/
namespace Mine
open PySem PM TL
variable {n : Nat} {s0 s : Store}
abbrev abc : Str := Str.ofString "abcdefghijklmnopqrstuvwxyz"
def chr (c : Nat) : Str := ⟨#[c]⟩
theorem abc_list : abc.cps.toList = (List.range 26).map fun k => 97 + k := by decide +kernel
theorem abc_len : abc.length = 26 := by decide +kernel
theorem ix_abc {r : Int} (h0 : 0 ≤ r) (h1 : r < 26) : mIx (.str abc) (.int r) s = .ok (.str (chr (97 + r.toNat))) s := by
  unfold mIx ixOf ixStr
  dsimp only
  rw [if_pos (by rw [abc_len]; decide), abc_list]
  have : atI ((List.range 26).map fun k => 97 + k) r = some (97 + r.toNat) := by
    unfold atI ixN
    rw [if_pos h0, if_pos (by simp; omega)]
    have : r.toNat < 26 := by omega
    simp [this]
  rw [this]
  rfl
theorem tl_chr (c : Nat) : tl (chr c) = [c] := rfl
theorem nm_of {x : Str} (h1 : 1 ≤ (tl x).length) (h2 : (tl x).length ≤ 8) (h3 : ∀ c ∈ tl x, 97 ≤ c ∧ c ≤ 122) : Nm x := ⟨by simpa using h1, by simpa using h2, h3⟩
theorem nm_pos {x : Str} (h : Nm x) : 1 ≤ (tl x).length := by have := h.1; simpa using this
theorem nm_le {x : Str} (h : Nm x) : (tl x).length ≤ 8 := by have := h.2.1; simpa using this
/-- letters one behind the other -/
theorem join_chrs : ∀ {ws : List Str}, (∀ w ∈ ws, ∃ c, w = chr c ∧ 97 ≤ c ∧ c ≤ 122) → (joinL [] (ws.map tl)).length = ws.length ∧ ∀ c ∈ joinL [] (ws.map tl), 97 ≤ c ∧ c ≤ 122
  | [], _ => ⟨rfl, fun _ h => nomatch h⟩
  | [w], h => by
    obtain ⟨c, rfl, q⟩ := h w List.mem_cons_self
    exact ⟨rfl, fun x hx => by rw [List.mem_singleton.mp (show x ∈ [c] from hx)]; exact q⟩
  | w :: u :: r, h => by
    obtain ⟨c, rfl, q⟩ := h w List.mem_cons_self
    obtain ⟨h1, h2⟩ := join_chrs (ws := u :: r) fun x hx => h x (List.mem_cons_of_mem _ hx)
    have e : joinL [] ((chr c :: u :: r).map tl) = c :: joinL [] ((u :: r).map tl) := rfl
    rw [e]
    refine ⟨by rw [List.length_cons, h1]; rfl, fun x hx => ?_⟩
    rcases List.mem_cons.mp hx with rfl | hx
    · exact q
    · exact h2 x hx
theorem strs_of {P : Str → Prop} : ∀ {ys : List D}, (∀ y ∈ ys, ∃ w, y = .str w ∧ P w) → ∃ ws : List Str, ys = ws.map D.str ∧ ∀ w ∈ ws, P w
  | [], _ => ⟨[], rfl, fun _ h => nomatch h⟩
  | y :: ys, h => by
    obtain ⟨w, rfl, q⟩ := h y List.mem_cons_self
    obtain ⟨ws, e, q2⟩ := strs_of fun z hz => h z (List.mem_cons_of_mem _ hz)
    exact ⟨w :: ws, by rw [e]; rfl, fun x hx => by
      rcases List.mem_cons.mp hx with rfl | hx
      · exact q
      · exact q2 x hx⟩
def eight : List Str := [Str.ofString "none", Str.ofString "never", Str.ofString "text", Str.ofString "kept", Str.ofString "astray", Str.ofString "all", Str.ofString "seal", Str.ofString "press"]
theorem eight_nm : ∀ x ∈ eight, Nm x := by
  intro x hx
  have t : ∀ x ∈ eight, (decide (1 ≤ x.cps.size) && decide (x.cps.size ≤ 8) && x.cps.toList.all fun c => decide (97 ≤ c) && decide (c ≤ 122)) = true := by decide +kernel
  have := t x hx
  simp only [Bool.and_eq_true, decide_eq_true_eq, List.all_eq_true] at this
  exact ⟨this.1.1, this.1.2, this.2⟩
/-- the other names -/
def six (w : Str) : Str := ⟨((tl w).take 6).toArray⟩
def fr (w : Str) (k : Nat) : Str := six w ++ chr (97 + k / 26) ++ chr (97 + k % 26)
theorem tl_fr (w : Str) (k : Nat) : tl (fr w k) = (tl w).take 6 ++ [97 + k / 26, 97 + k % 26] := by
  unfold fr
  rw [tl_append, tl_append, tl_chr, tl_chr, List.append_assoc]
  rfl
theorem fr_nm {w : Str} {k : Nat} (h : Nm w) (hk : k < 676) : Nm (fr w k) := by
  refine nm_of (by rw [tl_fr]; simp) (by rw [tl_fr]; simp; omega) fun c hc => ?_
  rw [tl_fr] at hc
  rcases List.mem_append.mp hc with hc | hc
  · exact h.2.2 c (List.mem_of_mem_take hc)
  · simp at hc
    omega
theorem fr_inj {w : Str} {i j : Nat} (hi : i < 26) (hj : j < 26) (e : fr w i = fr w j) : i = j := by
  have e1 := congrArg tl e
  rw [tl_fr, tl_fr] at e1
  have e2 := List.append_cancel_left e1
  simp at e2
  omega
theorem slice6 {w : Str} (h : (tl w).length ≤ 8) : mSlice (.str w) none (some 6) s = .ok (.str (six w)) s := by
  unfold mSlice sliceOf
  dsimp only
  rw [if_pos (by rw [len_tl]; omega)]
  have : cutD w.cps.toList none (some 6) = (tl w).take 6 := by
    unfold cutD
    have e : HT.sIx w.cps.toList.length w.cps.toList.length (some 6) = min 6 w.cps.toList.length := HT.sIx_nat _ _ 6
    rw [HT.sIx_none, e, List.drop_zero, Nat.sub_zero, List.take_eq_take_iff]
    omega
  rw [this]
  rfl
theorem fresh_ok {w : Str} (h : Nm w) : comp (fun _ => pure true) (fun e10 => asIx (.int 6) >>= fun a => mSlice (.str w) none a >>= fun x => mDiv e10 (.int 26) >>= fun y => mIx (.str abc) y >>= fun y => mAdd x y >>= fun x => ap1 mInt [e10] >>= fun z => mMod z (.int 26) >>= fun y => mIx (.str abc) y >>= fun y => mAdd x y) ⟨yes, (List.range 676).map fun k : Nat => D.int (k : Int)⟩ s = .ok (((List.range 676).map (fr w)).map D.str) s := by
  rw [List.map_map]
  refine comp_map (by simp) (fun _ _ => rfl) fun k hk => ?_
  have hk := List.mem_range.mp hk
  have l6 : (six w).length ≤ 6 := by rw [len_tl]; show ((tl w).take 6).length ≤ 6; simp; omega
  have lc : ∀ c, (chr c).length = 1 := fun c => rfl
  have d1 : mDiv (.int (k : Int)) (.int 26) s = .ok (.int ((k : Int).fdiv 26)) s := div_ok (by decide)
  have q1 : (k : Int).fdiv 26 = ((k / 26 : Nat) : Int) := by
    rw [Int.fdiv_eq_ediv_of_nonneg _ (by decide)]
    omega
  have q2 : ((k : Int) % 26) = ((k % 26 : Nat) : Int) := by omega
  have q3 : mIx (.str abc) (.int ((k / 26 : Nat) : Int)) s = .ok (.str (chr (97 + k / 26))) s := by
    rw [ix_abc (by omega) (by omega)]
    congr 4
  have q4 : mIx (.str abc) (.int ((k % 26 : Nat) : Int)) s = .ok (.str (chr (97 + k % 26))) s := by
    rw [ix_abc (by omega) (by omega)]
    congr 4
  have q5 : mAdd (.str (six w)) (.str (chr (97 + k / 26))) s = .ok (.str (six w ++ chr (97 + k / 26))) s := adds_run (by rw [lc]; omega)
  have q6 : mAdd (.str (six w ++ chr (97 + k / 26))) (.str (chr (97 + k % 26))) s = .ok (.str (fr w k)) s := adds_run (by rw [len_app, lc, lc]; omega)
  have q8 : asIx (.int 6) s = .ok (some 6) s := rfl
  have q7 : mInt (.int (k : Int)) s = .ok (.int (k : Int)) s := rfl
  simp only [bind_run, q8, slice6 (nm_le h), d1, q1, q3, q5, ap1_run, q7, mod_ok (show (0 : Int) < 26 by decide), q2, q4, q6]
  rfl
theorem name_ok {U : List Str} (hU : U.length ≤ 4) (h : Drew n s0 s) : wpM (fn2 m__law_name [.cel n, .lst (U.map D.str)]) s fun d s' => Drew n s0 s' ∧ ∃ x, d = .str x ∧ Nm x ∧ x ∉ U := by
  show wpM (m__law_name (.cel n) (.lst (U.map D.str))) s _
  dsimp only [m__law_name, a__law_name]
  unfold callF
  simp only [pure_bind', bind_assoc']
  refine wpM_bind (wpM_mono (draw_ok h (by decide) (by decide)) ?_)
  rintro _ s1 ⟨h1, r1, rfl, r10, r11⟩
  refine wpM_bind (wpM_of (add_run) ?_)
  refine wpM_bind (wpM_of (lst_run (by simp)) ?_)
  refine wpM_bind (wpM_mono (draw_ok h1 (by decide) (by decide)) ?_)
  rintro _ s2 ⟨h2, r2, rfl, r20, r21⟩
  obtain ⟨L, hL, e⟩ := ix_ok (ds := [.int 1, .int 1, .int 2, .int (1 + r1)]) (s := s2) r20 (by simp; omega)
  obtain ⟨L, rfl, hL1, hL2⟩ : ∃ l : Nat, L = .int l ∧ 1 ≤ l ∧ l ≤ 8 := by
    simp at hL
    rcases hL with rfl | rfl | rfl
    · exact ⟨1, rfl, by decide, by decide⟩
    · exact ⟨2, rfl, by decide, by decide⟩
    · exact ⟨(1 + r1).toNat, by congr 1; omega, by omega, by omega⟩
  refine wpM_bind (wpM_of e ?_)
  refine wpM_bind (wpM_of (range_ok (n := L) (by omega)) ?_)
  refine wpM_bind (wpM_mono (wpM_comp (I := Drew n s0) (P := fun _ y => ∃ w, y = D.str w ∧ ∃ c, w = chr c ∧ 97 ≤ c ∧ c ≤ 122) (by simp; omega) h2 fun k _ s3 h3 => ?_) ?_)
  · refine wpM_bind (wpM_mono (draw_ok h3 (by decide) (by decide)) ?_)
    rintro _ s4 ⟨h4, r, rfl, r0, r1⟩
    exact wpM_of (ix_abc r0 r1) ⟨h4, _, rfl, _, rfl, by omega, by omega⟩
  rintro ys s3 ⟨h3, hy⟩
  have hy2 : ∀ y ∈ ys, ∃ w, y = .str w ∧ ∃ c, w = chr c ∧ 97 ≤ c ∧ c ≤ 122 := hy.mem (Q := fun y => ∃ w, y = D.str w ∧ ∃ c, w = chr c ∧ 97 ≤ c ∧ c ≤ 122) fun _ _ q => q
  obtain ⟨ws, rfl, hw⟩ := strs_of (P := fun w => ∃ c, w = chr c ∧ 97 ≤ c ∧ c ≤ 122) hy2
  have hwl : ws.length = L := by have := hy.len; simpa using this
  have j := join_chrs hw
  have e0 : tl (Str.ofString "") = [] := by decide +kernel
  refine wpM_bind (wpM_of (join_run (b := 1) (fun t ht => ?_) ?_) ?_)
  · obtain ⟨c, rfl, _⟩ := hw t ht
    exact Nat.le_refl _
  · have : (Str.ofString "").length = 0 := by decide +kernel
    rw [this]
    omega
  have nw : Nm (Txt.join (Str.ofString "") ws) := by
    refine nm_of ?_ ?_ ?_
    · rw [tl_joined, e0, j.1]; omega
    · rw [tl_joined, e0, j.1]; omega
    · rw [tl_joined, e0]; exact j.2
  generalize Txt.join (Str.ofString "") ws = w0 at nw
  refine wpM_bind (wpM_mono (draw_ok h3 (by decide) (by decide)) ?_)
  rintro _ s4 ⟨h4, r, rfl, r0, r1⟩
  refine wpM_bind (wpM_of eq_int ?_)
  refine wpM_bind (wpM_of asB_run ?_)
  unfold seqF
  simp only [bind_assoc', pure_bind']
  refine wpM_bind (Q := _) (wpM_mono (Q := fun x s' => Drew n s0 s' ∧ ∃ w, x = .nx (.str w) ∧ Nm w) ?_ ?_)
  · by_cases hr : r = 0
    · simp only [hr, decide_true, if_true]
      refine wpM_bind (wpM_of (lst_run (by simp)) ?_)
      refine wpM_bind (wpM_mono (draw_ok h4 (by decide) (by decide)) ?_)
      rintro _ s5 ⟨h5, t, rfl, t0, t1⟩
      obtain ⟨x, hx, e⟩ := ix_ok (ds := eight.map D.str) (s := s5) t0 (by show t < 8; exact t1)
      obtain ⟨w, hw, rfl⟩ := List.mem_map.mp hx
      exact wpM_bind (wpM_of e (wpM_pure ⟨h5, w, rfl, eight_nm w hw⟩))
    · simp only [hr, decide_false, Bool.false_eq_true, if_false]
      exact wpM_pure ⟨h4, w0, rfl, nw⟩
  rintro _ s5 ⟨h5, w, rfl, nw⟩
  dsimp only
  have hne : (w :: (List.range 676).map (fr w)).filter (fun x => !(decide (x ∈ U))) ≠ [] := fun z => by
    rw [List.filter_eq_nil_iff] at z
    have hin : ∀ k, k < 5 → fr w k ∈ U := fun k hk => by
      have := z (fr w k) (List.mem_cons_of_mem _ (List.mem_map.mpr ⟨k, List.mem_range.mpr (by omega), rfl⟩))
      simpa using this
    have nd : ((List.range 5).map (fr w)).Nodup := by
      refine List.pairwise_map.mpr (List.Pairwise.imp_of_mem (fun {a b} ha hb hab q => ?_) (List.nodup_range (n := 5)))
      have ha := List.mem_range.mp ha
      have hb := List.mem_range.mp hb
      exact hab (fr_inj (by omega) (by omega) q)
    have := List.Nodup.length_le_of_subset nd (fun x hx => by
      obtain ⟨k, hk, rfl⟩ := List.mem_map.mp hx
      exact hin k (List.mem_range.mp hk))
    simp at this
    omega
  obtain ⟨q, rest, eq⟩ := List.exists_cons_of_ne_nil hne
  have hq : q ∈ (w :: (List.range 676).map (fr w)).filter (fun x => !(decide (x ∈ U))) := by rw [eq]; exact List.mem_cons_self
  obtain ⟨hq1, hq2⟩ := List.mem_filter.mp hq
  have nq : Nm q := by
    rcases List.mem_cons.mp hq1 with rfl | hq1
    · exact nw
    · obtain ⟨k, hk, rfl⟩ := List.mem_map.mp hq1
      exact fr_nm nw (List.mem_range.mp hk)
  have hc : comp (fun e1 => mNotIn e1 (.lst (U.map D.str)) >>= fun z => asB z) (fun e1 => pure e1) ⟨yes, (w :: (List.range 676).map (fr w)).map D.str⟩ s5 = .ok (((w :: (List.range 676).map (fr w)).filter fun x => !(decide (x ∈ U))).map D.str) s5 := by
    refine comp_filter (by simp) (fun x _ => ?_) (fun x _ _ => rfl)
    simp [bind_run, notin_strs, asB_run]
  rw [eq] at hc
  simp only [bind_assoc', pure_bind']
  refine wpM_bind (wpM_of lst1_run ?_)
  refine wpM_bind (wpM_of (range_ok (n := 676) (by decide)) ?_)
  refine wpM_bind (wpM_of (a := ((List.range 676).map (fr w)).map D.str) (s' := s5) ?_ ?_)
  · exact fresh_ok nw
  refine wpM_bind (wpM_of (addl_run (by simp)) ?_)
  refine wpM_bind (wpM_of items_lst ?_)
  refine wpM_bind (wpM_of hc ?_)
  refine wpM_bind (wpM_of ix_lst0 ?_)
  exact wpM_pure ⟨h5, q, rfl, nq, by simpa using hq2⟩
end Mine
set_option Elab.async false
set_option linter.all false
set_option maxRecDepth 100000
set_option maxHeartbeats 400000
/-! Pq12: rows of names, plain stories, near ones. -/
namespace Mine
open PySem PM TL
variable {n : Nat} {s0 s : Store}
theorem names_ok {r : Int} (h0 : 0 ≤ r) (h1 : r < 5) (h : Drew n s0 s) : wpM (fn3 m__law_names [.cel n, .int r, .lst []]) s fun d s' => Drew n s0 s' ∧ ∃ xs : List Str, d = .lst (xs.map D.str) ∧ xs.Nodup ∧ (∀ x ∈ xs, Nm x) ∧ xs.length ≤ 4 := by
  show wpM (m__law_names (.cel n) (.int r) (.lst [])) s _
  dsimp only [m__law_names, a__law_names]
  unfold callF
  simp only [pure_bind', bind_assoc']
  refine wpM_bind (wpM_fits (by simp) (wpM_pure ?_))
  have er : ((r.toNat : Nat) : Int) = r := by omega
  rw [← er]
  refine wpM_bind (wpM_of (range_ok (n := r.toNat) (by omega)) ?_)
  unfold aftF
  simp only [bind_assoc']
  refine wpM_bind (wpM_mono (wpM_loop (I := fun done a s => Drew n s0 s ∧ ∃ xs : List Str, a = xs.map D.str ∧ xs.Nodup ∧ (∀ x ∈ xs, Nm x) ∧ xs.length = done.length) ⟨h, [], rfl, List.nodup_nil, fun _ z => (nomatch z), rfl⟩ ?_) ?_)
  · rintro d done rest a s1 e ⟨h1, xs, rfl, nd, nm, hl⟩
    have hlt : done.length < r.toNat := by
      have := congrArg List.length e
      simp at this
      omega
    refine wpM_bind (wpM_of (addl_run (by simp; omega)) ?_)
    rw [List.nil_append]
    refine wpM_bind (wpM_mono (name_ok (U := xs) (by omega) h1) ?_)
    rintro _ s2 ⟨h2, x, rfl, nx, hx⟩
    refine wpM_fits (by simp; omega) (wpM_pure ⟨_, rfl, h2, xs ++ [x], by simp, ?_, ?_, by simp [hl]⟩)
    · exact List.nodup_append.mpr ⟨nd, by simp, fun a ha b hb => by rw [List.mem_singleton.mp hb]; exact fun z => hx (z ▸ ha)⟩
    · intro y hy
      rcases List.mem_append.mp hy with hy | hy
      · exact nm y hy
      · rw [List.mem_singleton.mp hy]; exact nx
  · rintro _ s1 ⟨a, rfl, h1, xs, rfl, nd, nm, hl⟩
    dsimp only
    exact wpM_pure ⟨h1, xs, rfl, nd, nm, by rw [hl]; simp; omega⟩
/-- what stands for one turn -/
structure Turn (k : Nat) (M : List Str) : Prop where
  few : k ≤ 6
  nd : M.Nodup
  nm : ∀ m ∈ M, Nm m
  fewM : M.length ≤ 4
  srt : M.Pairwise fun a b => leS a b = true
theorem Turn.good {k : Nat} {M : List Str} (t : Turn k M) {d : Nat → Int} {v : Str → Int} (hd : ∀ i, i < k → 0 ≤ d i ∧ d i ≤ 1000000000) (hv : ∀ m ∈ M, 0 ≤ v m ∧ v m ≤ 1000000001) : Good k M d v :=
  ⟨by have := t.few; omega, hd, t.nd, by have := t.fewM; omega, t.nm, hv⟩
variable {k : Nat} {M : List Str}
theorem plain_ok (t : Turn k M) (h : Drew n s0 s) : wpM (fn3 m__law_plain_story [.cel n, .int k, .lst (M.map D.str)]) s fun d s' => Drew n s0 s' ∧ ∃ dd v, d = PL k M dd v ∧ Good k M dd v := by
  have tf := t.few
  have tm := t.fewM
  show wpM (m__law_plain_story (.cel n) (.int k) (.lst (M.map D.str))) s _
  dsimp only [m__law_plain_story, a__law_plain_story]
  unfold callF
  simp only [pure_bind', bind_assoc']
  refine wpM_bind (wpM_of (lst_run (by simp)) ?_)
  refine wpM_bind (wpM_mono (choice_ok h (by simp) (by simp)) ?_)
  rintro far s1 ⟨h1, hf⟩
  obtain ⟨f, rfl, f0, f1⟩ : ∃ f : Int, far = .int f ∧ 1 ≤ f ∧ f ≤ 1000000000 := by
    simp at hf
    rcases hf with rfl | rfl | rfl
    · exact ⟨1, rfl, by decide, by decide⟩
    · exact ⟨3, rfl, by decide, by decide⟩
    · exact ⟨_, rfl, by decide, by decide⟩
  refine wpM_bind (wpM_of (range_ok (n := k) (by omega)) ?_)
  refine wpM_bind (wpM_mono (wpM_comp (I := Drew n s0) (P := fun _ y => ∃ i, y = D.int i ∧ 0 ≤ i ∧ i ≤ 1000000000) (by simp; omega) h1 fun _ _ s2 h2 => ?_) ?_)
  · refine wpM_bind (wpM_of add_run ?_)
    refine wpM_bind (wpM_mono (draw_ok h2 (by omega) (by omega)) ?_)
    rintro _ s3 ⟨h3, r, rfl, r0, r1⟩
    refine wpM_bind (wpM_of (lst_run (by simp)) ?_)
    refine wpM_mono (choice_ok h3 (by simp) (by simp)) ?_
    rintro y s4 ⟨h4, hy⟩
    refine ⟨h4, ?_⟩
    simp at hy
    rcases hy with rfl | rfl | rfl
    · exact ⟨_, rfl, by omega, by omega⟩
    · exact ⟨_, rfl, by omega, by omega⟩
    · exact ⟨_, rfl, by omega, by omega⟩
  rintro ys s2 ⟨h2, hy⟩
  obtain ⟨dd, rfl, hd⟩ := days_of (n := k) (B := 1000000000) (by have := hy.len; simpa using this) (hy.mem (Q := fun y => ∃ i, y = D.int i ∧ 0 ≤ i ∧ i ≤ 1000000000) fun _ _ q => q)
  refine wpM_bind (wpM_of items_lst ?_)
  refine wpM_bind (wpM_mono (wpM_comp (I := Drew n s0) (P := fun m y => ∃ i, y = D.tup [.str m, .int i] ∧ 0 ≤ i ∧ i ≤ 1000000001) (by omega) h2 fun m _ s3 h3 => ?_) ?_)
  · refine wpM_bind (wpM_of add_run ?_)
    refine wpM_bind (wpM_mono (draw_ok h3 (by omega) (by omega)) ?_)
    rintro _ s4 ⟨h4, r, rfl, r0, r1⟩
    refine wpM_bind (wpM_of (lst_run (by simp)) ?_)
    refine wpM_bind (wpM_mono (choice_ok h4 (by simp) (by simp)) ?_)
    rintro y s5 ⟨h5, hy⟩
    refine wpM_of tup2_run ⟨h5, ?_⟩
    simp at hy
    rcases hy with rfl | rfl | rfl
    · exact ⟨_, rfl, by omega, by omega⟩
    · exact ⟨_, rfl, by omega, by omega⟩
    · exact ⟨_, rfl, by omega, by omega⟩
  rintro zs s3 ⟨h3, hz⟩
  obtain ⟨v, rfl, hv⟩ := strays_of t.nd hz
  refine wpM_bind (wpM_of (dict_pairs t.nd) ?_)
  refine wpM_bind (wpM_of tup2_run ?_)
  exact wpM_pure ⟨h3, dd, v, rfl, t.good hd hv⟩
/-- the new day, the new stray day -/
def clip (top x : Int) : Int := if (if x < top then x else top) > 0 then (if x < top then x else top) else 0
theorem clip_in {top x : Int} (h : 0 ≤ top) : 0 ≤ clip top x ∧ clip top x ≤ top := by
  unfold clip
  split <;> split <;> omega
theorem near_ok (t : Turn k M) {dd : Nat → Int} {v : Str → Int} (g : Good k M dd v) (h : Drew n s0 s) : wpM (fn2 m__law_near [.cel n, PL k M dd v]) s fun d s' => Drew n s0 s' ∧ ∃ dd' v', d = PL k M dd' v' ∧ Good k M dd' v' := by
  have tf := t.few
  have tm := t.fewM
  show wpM (m__law_near (.cel n) (PL k M dd v)) s _
  dsimp only [m__law_near, a__law_near]
  unfold callF
  simp only [pure_bind', bind_assoc']
  refine wpM_bind (wpM_of ix_tup0 ?_)
  refine wpM_bind (wpM_of list_lst ?_)
  refine wpM_bind (wpM_of ix_tup1 ?_)
  refine wpM_bind (wpM_of dict_copy ?_)
  refine wpM_bind (Q := _) (wpM_mono (Q := fun b s' => Drew n s0 s' ∧ (b = true → ¬ k = 0)) ?_ ?_)
  · unfold andT
    simp only [bind_assoc']
    refine wpM_bind (wpM_of lst0_run ?_)
    refine wpM_bind (wpM_of ne_nil ?_)
    refine wpM_bind (wpM_of asB_run ?_)
    by_cases h0 : k = 0
    · subst h0
      exact wpM_pure ⟨h, fun z => nomatch z⟩
    · have e : (!((List.range k).map fun i => D.int (dd i)).isEmpty) = true := by
        cases k with
        | zero => exact absurd rfl h0
        | succ k => simp
      rw [e, if_pos rfl]
      refine wpM_bind (wpM_mono (draw_ok h (by decide) (by decide)) ?_)
      rintro _ s1 ⟨h1, r, rfl, r0, r1⟩
      refine wpM_bind (wpM_of eq_int ?_)
      exact wpM_of asB_run ⟨h1, fun _ => h0⟩
  rintro b s1 ⟨h1, hb⟩
  unfold seqF
  simp only [bind_assoc', pure_bind']
  refine wpM_bind (Q := _) (wpM_mono (Q := fun x s' => Drew n s0 s' ∧ ∃ dd' v', x = .nx ((List.range k).map (fun i => D.int (dd' i)), M.map (kv fun m => .int (v' m))) ∧ Good k M dd' v') ?_ ?_)
  · cases b with
    | true =>
      have k0 := hb rfl
      rw [if_pos rfl]
      refine wpM_bind (wpM_of len_lst ?_)
      have el : ((List.range k).map fun i => D.int (dd i)).length = k := by simp
      rw [el]
      refine wpM_bind (wpM_mono (draw_ok h1 (by omega) (by omega)) ?_)
      rintro _ s2 ⟨h2, r, rfl, r0, r1⟩
      have er : ((r.toNat : Nat) : Int) = r := by omega
      have hr : r.toNat < k := by omega
      refine wpM_bind (wpM_of (a := .int (dd r.toNat)) (s' := s2) (by rw [← er]; exact ix_map hr) ?_)
      refine wpM_bind (wpM_mono (draw_ok h2 (by decide) (by decide)) ?_)
      rintro _ s3 ⟨h3, u, rfl, u0, u1⟩
      refine wpM_bind (wpM_of add_run ?_)
      refine wpM_bind (wpM_of sub_run ?_)
      refine wpM_bind (wpM_of (show ap2 mMin [.int 1000000000, .int (dd r.toNat + u - 1)] s3 = _ from min_run) ?_)
      refine wpM_bind (wpM_of (show ap2 mMax [.int 0, .int _] s3 = _ from max_run) ?_)
      have ei : ixD k (.int r) = some r.toNat := by
        show (if 0 ≤ r then (if r < (k : Int) then some r.toNat else none) else _) = _
        rw [if_pos r0, if_pos r1]
      rw [ei]
      refine wpM_pure ⟨h3, fun i => if i = r.toNat then clip 1000000000 (dd r.toNat + u - 1) else dd i, v, ?_, ?_⟩
      · congr 2
        refine List.ext_getElem (by simp) fun i q1 q2 => ?_
        simp at q1
        rw [List.getElem_set]
        by_cases e : r.toNat = i
        · simp [e, clip]
        · have e' : ¬ i = r.toNat := fun z => e z.symm
          simp [e, e']
      · refine t.good (fun i hi => ?_) g.strays
        by_cases e : i = r.toNat
        · simp only [e, if_true]; exact clip_in (by decide)
        · simp only [e, if_false]; exact g.days i hi
    | false =>
      rw [if_neg (by decide)]
      refine wpM_bind (wpM_of ne_nilK ?_)
      refine wpM_bind (wpM_of asB_run ?_)
      by_cases hm : M = []
      · subst hm
        exact wpM_pure ⟨h1, dd, v, rfl, g⟩
      · have e : (!(M.map (kv fun m => D.int (v m))).isEmpty) = true := by
          cases M with
          | nil => exact absurd rfl hm
          | cons m M => simp
        rw [e, if_pos rfl]
        refine wpM_bind (wpM_of (sort_keys (by omega)) ?_)
        rw [isort_id t.srt]
        refine wpM_bind (wpM_mono (choice_ok h1 (by simpa using hm) (by simp; omega)) ?_)
        rintro y s2 ⟨h2, hy⟩
        obtain ⟨m, hm', rfl⟩ := List.mem_map.mp hy
        refine wpM_bind (wpM_of (ix_str hm') ?_)
        refine wpM_bind (wpM_mono (draw_ok h2 (by decide) (by decide)) ?_)
        rintro _ s3 ⟨h3, u, rfl, u0, u1⟩
        refine wpM_bind (wpM_of add_run ?_)
        refine wpM_bind (wpM_of sub_run ?_)
        refine wpM_bind (wpM_of (show ap2 mMin [.int 1000000001, .int (v m + u - 1)] s3 = _ from min_run) ?_)
        refine wpM_bind (wpM_of (show ap2 mMax [.int 0, .int _] s3 = _ from max_run) ?_)
        refine wpM_guard rfl (wpM_fits (by simp; omega) (wpM_pure ⟨h3, dd, fun x => if x = m then clip 1000000001 (v m + u - 1) else v x, ?_, ?_⟩))
        · congr 2
          rw [dPut_old hm']
          refine List.map_congr_left fun x _ => ?_
          unfold kv clip
          by_cases e : x = m <;> simp [e]
        · refine t.good g.days fun x hx => ?_
          by_cases e : x = m
          · simp only [e, if_true]; exact clip_in (by decide)
          · simp only [e, if_false]; exact g.strays x hx
  rintro _ s2 ⟨h2, dd', v', rfl, g'⟩
  dsimp only
  simp only [bind_assoc', pure_bind']
  refine wpM_bind (wpM_of tup2_run ?_)
  exact wpM_pure ⟨h2, dd', v', rfl, g'⟩
end Mine
set_option Elab.async false
set_option linter.all false
set_option maxRecDepth 100000
set_option maxHeartbeats 400000
/-! Pq13: the law. -/
namespace Mine
open PySem PM TL
/-- the store in a turn: what stood before, the rng, the list of plain stories -/
def InT (pre : List MC) (k : Nat) (M : List Str) (s : Store) : Prop := ∃ (a b : Int) (ps : List Sto), s = pre ++ [.lst [.int a, .int b], .lst (plD k M ps)] ∧ 0 ≤ a ∧ 0 ≤ b ∧ b < 2147483423 ∧ ps ≠ [] ∧ (∀ p ∈ ps, Good k M p.1 p.2)
theorem set_rng {pre : List MC} {x y z : MC} : (pre ++ [x, z]).set pre.length y = pre ++ [y, z] := by simp
theorem set_plain {pre : List MC} {x y z : MC} : (pre ++ [x, z]).set (pre.length + 1) y = pre ++ [x, y] := by
  induction pre with
  | nil => rfl
  | cons p pre ih =>
    show p :: ((pre ++ [x, z]).set (pre.length + 1) y) = p :: (pre ++ [x, y])
    rw [ih]
theorem get_plain {pre : List MC} {x z : MC} : (pre ++ [x, z])[pre.length + 1]? = some z := by
  rw [List.getElem?_append_right (by omega)]
  simp
theorem get_rng {pre : List MC} {x z : MC} : (pre ++ [x, z])[pre.length]? = some x := by simp
theorem drew_two {pre : List MC} {x z : MC} {s : Store} (h : Drew pre.length (pre ++ [x, z]) s) : ∃ a b : Int, s = pre ++ [.lst [.int a, .int b], z] ∧ 0 ≤ a ∧ 0 ≤ b ∧ b < 2147483423 := by
  obtain ⟨_, a, b, rfl, q⟩ := h
  exact ⟨a, b, set_rng, q⟩
theorem drew_one {pre : List MC} {x : MC} {s : Store} (h : Drew pre.length (pre ++ [x]) s) : ∃ a b : Int, s = pre ++ [.lst [.int a, .int b]] ∧ 0 ≤ a ∧ 0 ≤ b ∧ b < 2147483423 := by
  obtain ⟨_, a, b, rfl, q⟩ := h
  exact ⟨a, b, by simp, q⟩
theorem two_start {pre : List MC} {z : MC} {a b : Int} (q : 0 ≤ a ∧ 0 ≤ b ∧ b < 2147483423) : Drew pre.length (pre ++ [.lst [.int a, .int b], z]) (pre ++ [.lst [.int a, .int b], z]) :=
  ⟨by simp, a, b, set_rng.symm, q⟩
theorem law_holds : ∀ ns : List Int, ns.length ≤ 63 → ∃ st, PM.fn1 m_law [.scr ns] [] = .ok (.bl true) st := by
  intro ns hns
  suffices h : wpM (m_law (.scr ns)) [] fun d _ => d = .bl true by
    obtain ⟨d, st, e, rfl⟩ := wpM_ok h
    exact ⟨st, e⟩
  dsimp only [m_law, a_law]
  unfold callF
  simp only [pure_bind', bind_assoc']
  refine wpM_bind (wpM_of (show ap1 mLen [.scr ns] [] = _ from len_scr) ?_)
  refine wpM_bind (wpM_of (show ap2 mMin [.int 4, .int ns.length] [] = _ from min_run) ?_)
  refine wpM_bind (wpM_of (show ap2 mMax [.int 1, .int _] [] = _ from max_run) ?_)
  generalize hN : (if (if (ns.length : Int) < 4 then (ns.length : Int) else 4) > 1 then (if (ns.length : Int) < 4 then (ns.length : Int) else 4) else 1) = N
  have N1 : 1 ≤ N ∧ N ≤ 4 := by
    rw [← hN]
    split <;> split <;> omega
  have eN : ((N.toNat : Nat) : Int) = N := by omega
  rw [← eN]
  refine wpM_bind (wpM_of (range_ok (n := N.toNat) (by omega)) ?_)
  unfold aftF
  simp only [bind_assoc']
  refine wpM_bind (wpM_mono (wpM_loop (I := fun _ _ _ => True) trivial ?_) ?_)
  rotate_left
  · rintro _ s1 ⟨a, rfl, _⟩
    exact wpM_pure rfl
  rintro d done rest _ pre e _
  have hd : d ∈ (List.range N.toNat).map fun k : Nat => D.int (k : Int) := by rw [← e]; simp
  obtain ⟨i, hi, rfl⟩ := List.mem_map.mp hd
  have hi := List.mem_range.mp hi
  refine wpM_bind (wpM_mono (show wpM (fn2 m__law_rng [.scr ns, .int (i : Int)]) pre _ from spec_rng (k := i) (by omega)) ?_)
  rintro _ s1 ⟨a0, b0, rfl, rfl, hr⟩
  have h1 := Drew.start hr
  refine wpM_bind (wpM_mono (draw_ok h1 (by decide) (by decide)) ?_)
  rintro _ s2 ⟨h2, r, rfl, r0, r1⟩
  refine wpM_bind (wpM_of lst0_run ?_)
  refine wpM_bind (wpM_mono (names_ok r0 r1 h2) ?_)
  rintro _ s3 ⟨h3, xs, rfl, nd, nm, hl⟩
  refine wpM_bind (wpM_of (show ap1 mSorted [.lst (xs.map D.str)] s3 = _ from sort_strs (by omega)) ?_)
  refine wpM_bind (wpM_mono (draw_ok h3 (by decide) (by decide)) ?_)
  rintro _ s4 ⟨h4, k, rfl, k0, k1⟩
  have ek : ((k.toNat : Nat) : Int) = k := by omega
  rw [← ek]
  have px := isort_perm leS xs
  have t : Turn k.toNat (isort leS xs) := ⟨by omega, px.nodup_iff.mpr nd, fun m hm => nm m (px.mem_iff.mp hm), by rw [px.length_eq]; exact hl, isort_sorted leS_tot leS_tr xs⟩
  generalize isort leS xs = M at t
  generalize k.toNat = K at t
  refine wpM_bind (wpM_mono (plain_ok t h4) ?_)
  rintro _ s5 ⟨h5, dd, v, rfl, g⟩
  refine wpM_bind (wpM_fits (by simp) (wpM_pure ?_))
  obtain ⟨a5, b5, rfl, q5⟩ := drew_one h5
  refine wpM_bind (wpM_of (a := .cel (pre.length + 1)) (s' := pre ++ [.lst [.int a5, .int b5], .lst (plD K M [(dd, v)])]) ?_ ?_)
  · unfold newC
    simp
  have tw := two_start (pre := pre) (z := .lst (plD K M [(dd, v)])) q5
  refine wpM_bind (wpM_mono (draw_ok tw (by decide) (by decide)) ?_)
  rintro _ s6 ⟨h6, u, rfl, u0, u1⟩
  refine wpM_bind (wpM_of add_run ?_)
  have eu : (((1 + u).toNat : Nat) : Int) = 1 + u := by omega
  rw [← eu]
  refine wpM_bind (wpM_of (range_ok (n := (1 + u).toNat) (by omega)) ?_)
  obtain ⟨a6, b6, rfl, q6⟩ := drew_two h6
  refine wpM_bind (wpM_mono (wpM_loop (I := fun done _ s => ∃ (a b : Int) (ps : List Sto), s = pre ++ [.lst [.int a, .int b], .lst (plD K M ps)] ∧ (0 ≤ a ∧ 0 ≤ b ∧ b < 2147483423) ∧ ps.length = done.length + 1 ∧ (∀ p ∈ ps, Good K M p.1 p.2)) ⟨a6, b6, [(dd, v)], rfl, q6, rfl, fun p hp => by rw [List.mem_singleton.mp hp]; exact g⟩ ?_) ?_)
  · rintro d done rest _ s7 e7 ⟨a, b, ps, rfl, q, hl, hg⟩
    have hlt : done.length < 20 := by
      have := congrArg List.length e7
      simp at this
      omega
    have tw := two_start (pre := pre) (z := .lst (plD K M ps)) q
    have lc : ∀ {a b : Int}, isLc (.cel (pre.length + 1)) (pre ++ [.lst [.int a, .int b], .lst (plD K M ps)]) = .ok () (pre ++ [.lst [.int a, .int b], .lst (plD K M ps)]) := by
      intro a b
      unfold isLc
      simp only [get_plain]
    have ap : ∀ {a b : Int} {d' : Nat → Int} {v' : Str → Int}, appCel (.cel (pre.length + 1)) (PL K M d' v') (pre ++ [.lst [.int a, .int b], .lst (plD K M ps)]) = .ok () (pre ++ [.lst [.int a, .int b], .lst (plD K M (ps ++ [(d', v')]))]) := by
      intro a b d' v'
      unfold appCel
      simp only [get_plain]
      rw [if_pos (by simp; omega), set_plain]
      simp
    have fin : ∀ {d' : Nat → Int} {v' : Str → Int}, Good K M d' v' → ∀ p ∈ ps ++ [(d', v')], Good K M p.1 p.2 := fun g p hp => by
      rcases List.mem_append.mp hp with hp | hp
      · exact hg p hp
      · rw [List.mem_singleton.mp hp]; exact g
    refine wpM_bind (wpM_mono (draw_ok tw (by decide) (by decide)) ?_)
    rintro _ s8 ⟨h8, w, rfl, w0, w1⟩
    refine wpM_bind (wpM_of eq_int ?_)
    refine wpM_bind (wpM_of asB_run ?_)
    obtain ⟨a8, b8, rfl, q8⟩ := drew_two h8
    by_cases hw : w = 0
    · simp only [hw, decide_true, if_true]
      refine wpM_bind (wpM_of lc ?_)
      refine wpM_bind (wpM_mono (plain_ok t (two_start q8)) ?_)
      rintro _ s9 ⟨h9, d', v', rfl, g'⟩
      obtain ⟨a9, b9, rfl, q9⟩ := drew_two h9
      refine wpM_bind (wpM_of ap ?_)
      exact wpM_pure ⟨(), rfl, a9, b9, _, rfl, q9, by simp [hl], fin g'⟩
    · simp only [hw, decide_false, Bool.false_eq_true, if_false]
      refine wpM_bind (wpM_of lc ?_)
      have hr8 : Rng (pre ++ [.lst [.int a8, .int b8], .lst (plD K M ps)]) pre.length a8 b8 := ⟨get_rng, q8⟩
      have hne : plD K M ps ≠ [] := by
        intro z
        have := congrArg List.length z
        simp [hl] at this
      refine wpM_bind (wpM_mono (show wpM (fn2 m__law_choice [.cel pre.length, .cel (pre.length + 1)]) _ _ from spec_choice (ds := plD K M ps) hr8 (fun mc => by simp only [seqOf, set_rng, get_plain]) (by simp only [seqOf, get_plain]) hne (by simp; omega)) ?_)
      rintro x s9 ⟨hx, a9, b9, rfl, q9⟩
      obtain ⟨p, hp, rfl⟩ := List.mem_map.mp hx
      rw [set_rng]
      refine wpM_bind (wpM_mono (near_ok t (hg p hp) (two_start q9)) ?_)
      rintro _ s10 ⟨h10, d', v', rfl, g'⟩
      obtain ⟨a10, b10, rfl, q10⟩ := drew_two h10
      refine wpM_bind (wpM_of ap ?_)
      exact wpM_pure ⟨(), rfl, a10, b10, _, rfl, q10, by simp [hl], fin g'⟩
  rintro _ s7 ⟨_, rfl, a7, b7, ps, rfl, q7, hl7, hg⟩
  have hps : ps.length ≤ 20 := by
    rw [hl7]
    simp
    omega
  simp only [pure_bind', bind_assoc']
  refine wpM_bind (wpM_of (a := .lst (plD K M ps)) (s' := pre ++ [.lst [.int a7, .int b7], .dead]) ?_ ?_)
  · unfold frzC
    simp only [get_plain, set_plain]
  have hnew : comp (fun _ => pure true) (fun e18 => fn1 m__law_new_right [e18]) ⟨yes, plD K M ps⟩ (pre ++ [.lst [.int a7, .int b7], .dead]) = .ok (ps.map fun _ => D.bl true) (pre ++ [.lst [.int a7, .int b7], .dead]) :=
    comp_map (by omega) (fun _ _ => rfl) fun p hp => new_ok t.srt (hg p hp)
  refine wpM_bind (wpM_of (a := false) (s' := pre ++ [.lst [.int a7, .int b7], .dead]) ?_ ?_)
  · simp only [orT_run, notT_run, bind_run, pure_run, pure_bind', fn1_run, pairs_ok t.srt hg, asB_run, Bool.not_true, Bool.false_eq_true, if_false, items_lst, hnew, ap1_run, all_map]
    simp
  unfold seqF
  simp only [Bool.false_eq_true, if_false, pure_bind', bind_assoc']
  unfold notT
  simp only [bind_assoc']
  refine wpM_bind (wpM_mono (choice_ok (two_start (z := .dead) q7) (ds := plD K M ps) (fun z => ?_) (by simp; omega)) ?_)
  · have := congrArg List.length z
    simp [hl7] at this
  rintro x s8 ⟨h8, hx⟩
  obtain ⟨p, hp, rfl⟩ := List.mem_map.mp hx
  refine wpM_bind (wpM_of (show fn2 m__law_refusals_right [.cel pre.length, PL K M p.1 p.2] s8 = _ from refusals_ok t.srt t.fewM t.few (hg p hp)) ?_)
  refine wpM_bind (wpM_of asB_run ?_)
  simp only [pure_bind', Bool.not_true, Bool.false_eq_true, if_false]
  exact wpM_pure ⟨(), rfl, trivial⟩
end Mine
set_option Elab.async false
set_option maxRecDepth 100000
set_option maxHeartbeats 1000000
namespace Mine
open PySem PySem.Spec PyProof.Rows L2 PM
theorem all_mk {l : PySem.W.OpenLaw} {w : World} {K : PySem.W.Frag} {h : Heap} {mg : Str → Option Value} {fa : Addr} (X : K.In h) (G : h.Ns mainGlobals mg) (hfa : mg "law" = some (.ref fa))
    {t_LAST_DAY : Tok} {t_LETTERS : Tok} {t_MOST_LETTERS : Tok} {t_NEVER : Tok} {t_NOTHING : Tok} {C_Story : Addr} {C_InvalidStory : Addr} {f__law_rng : Addr} {oc__law_rng : Value} {kV__law_rng : Value} {dc__law_rng : Value} {pm__law_rng : Value} {ct__law_rng : Value} {od__law_rng : Option Addr} {an__law_rng : Option Addr} {sl__law_rng : Array (Option Value)} {cd__law_rng : Value} {f__law_draw : Addr} {oc__law_draw : Value} {kV__law_draw : Value} {dc__law_draw : Value} {pm__law_draw : Value} {ct__law_draw : Value} {od__law_draw : Option Addr} {an__law_draw : Option Addr} {sl__law_draw : Array (Option Value)} {cd__law_draw : Value} {f__law_name : Addr} {oc__law_name : Value} {kV__law_name : Value} {dc__law_name : Value} {pm__law_name : Value} {ct__law_name : Value} {od__law_name : Option Addr} {an__law_name : Option Addr} {sl__law_name : Array (Option Value)} {cd__law_name : Value} {f__law_names : Addr} {oc__law_names : Value} {kV__law_names : Value} {dc__law_names : Value} {pm__law_names : Value} {ct__law_names : Value} {od__law_names : Option Addr} {an__law_names : Option Addr} {sl__law_names : Array (Option Value)} {cd__law_names : Value} {f__law_choice : Addr} {oc__law_choice : Value} {kV__law_choice : Value} {dc__law_choice : Value} {pm__law_choice : Value} {ct__law_choice : Value} {od__law_choice : Option Addr} {an__law_choice : Option Addr} {sl__law_choice : Array (Option Value)} {cd__law_choice : Value} {f__law_plain_story : Addr} {oc__law_plain_story : Value} {kV__law_plain_story : Value} {dc__law_plain_story : Value} {pm__law_plain_story : Value} {ct__law_plain_story : Value} {od__law_plain_story : Option Addr} {an__law_plain_story : Option Addr} {sl__law_plain_story : Array (Option Value)} {cd__law_plain_story : Value} {f__law_near : Addr} {oc__law_near : Value} {kV__law_near : Value} {dc__law_near : Value} {pm__law_near : Value} {ct__law_near : Value} {od__law_near : Option Addr} {an__law_near : Option Addr} {sl__law_near : Array (Option Value)} {cd__law_near : Value} {f_is_integer : Addr} {oc_is_integer : Value} {kV_is_integer : Value} {dc_is_integer : Value} {pm_is_integer : Value} {ct_is_integer : Value} {od_is_integer : Option Addr} {an_is_integer : Option Addr} {sl_is_integer : Array (Option Value)} {cd_is_integer : Value} {f_is_day : Addr} {oc_is_day : Value} {kV_is_day : Value} {dc_is_day : Value} {pm_is_day : Value} {ct_is_day : Value} {od_is_day : Option Addr} {an_is_day : Option Addr} {sl_is_day : Array (Option Value)} {cd_is_day : Value} {f_is_stray : Addr} {oc_is_stray : Value} {kV_is_stray : Value} {dc_is_stray : Value} {pm_is_stray : Value} {ct_is_stray : Value} {od_is_stray : Option Addr} {an_is_stray : Option Addr} {sl_is_stray : Array (Option Value)} {cd_is_stray : Value} {f_is_name : Addr} {oc_is_name : Value} {kV_is_name : Value} {dc_is_name : Value} {pm_is_name : Value} {ct_is_name : Value} {od_is_name : Option Addr} {an_is_name : Option Addr} {sl_is_name : Array (Option Value)} {cd_is_name : Value} {f_are_strays : Addr} {oc_are_strays : Value} {kV_are_strays : Value} {dc_are_strays : Value} {pm_are_strays : Value} {ct_are_strays : Value} {od_are_strays : Option Addr} {an_are_strays : Option Addr} {sl_are_strays : Array (Option Value)} {cd_are_strays : Value} {f_Story___init__ : Addr} {oc_Story___init__ : Value} {kV_Story___init__ : Value} {dc_Story___init__ : Value} {pm_Story___init__ : Value} {ct_Story___init__ : Value} {od_Story___init__ : Option Addr} {an_Story___init__ : Option Addr} {sl_Story___init__ : Array (Option Value)} {cd_Story___init__ : Value} {f__law_made : Addr} {oc__law_made : Value} {kV__law_made : Value} {dc__law_made : Value} {pm__law_made : Value} {ct__law_made : Value} {od__law_made : Option Addr} {an__law_made : Option Addr} {sl__law_made : Array (Option Value)} {cd__law_made : Value} {f_Story_days : Addr} {oc_Story_days : Value} {kV_Story_days : Value} {dc_Story_days : Value} {pm_Story_days : Value} {ct_Story_days : Value} {od_Story_days : Option Addr} {an_Story_days : Option Addr} {sl_Story_days : Array (Option Value)} {cd_Story_days : Value} {pa_Story_days : Addr} {pr_Story_days : List Value} {f_Story_strays : Addr} {oc_Story_strays : Value} {kV_Story_strays : Value} {dc_Story_strays : Value} {pm_Story_strays : Value} {ct_Story_strays : Value} {od_Story_strays : Option Addr} {an_Story_strays : Option Addr} {sl_Story_strays : Array (Option Value)} {cd_Story_strays : Value} {pa_Story_strays : Addr} {pr_Story_strays : List Value} {f__law_new_right : Addr} {oc__law_new_right : Value} {kV__law_new_right : Value} {dc__law_new_right : Value} {pm__law_new_right : Value} {ct__law_new_right : Value} {od__law_new_right : Option Addr} {an__law_new_right : Option Addr} {sl__law_new_right : Array (Option Value)} {cd__law_new_right : Value} {f_day_text : Addr} {oc_day_text : Value} {kV_day_text : Value} {dc_day_text : Value} {pm_day_text : Value} {ct_day_text : Value} {od_day_text : Option Addr} {an_day_text : Option Addr} {sl_day_text : Array (Option Value)} {cd_day_text : Value} {f_Story___str__ : Addr} {oc_Story___str__ : Value} {kV_Story___str__ : Value} {dc_Story___str__ : Value} {pm_Story___str__ : Value} {ct_Story___str__ : Value} {od_Story___str__ : Option Addr} {an_Story___str__ : Option Addr} {sl_Story___str__ : Array (Option Value)} {cd_Story___str__ : Value} {f_Story___eq__ : Addr} {oc_Story___eq__ : Value} {kV_Story___eq__ : Value} {dc_Story___eq__ : Value} {pm_Story___eq__ : Value} {ct_Story___eq__ : Value} {od_Story___eq__ : Option Addr} {an_Story___eq__ : Option Addr} {sl_Story___eq__ : Array (Option Value)} {cd_Story___eq__ : Value} {f_Story_concerns : Addr} {oc_Story_concerns : Value} {kV_Story_concerns : Value} {dc_Story_concerns : Value} {pm_Story_concerns : Value} {ct_Story_concerns : Value} {od_Story_concerns : Option Addr} {an_Story_concerns : Option Addr} {sl_Story_concerns : Array (Option Value)} {cd_Story_concerns : Value} {f_Story___repr__ : Addr} {oc_Story___repr__ : Value} {kV_Story___repr__ : Value} {dc_Story___repr__ : Value} {pm_Story___repr__ : Value} {ct_Story___repr__ : Value} {od_Story___repr__ : Option Addr} {an_Story___repr__ : Option Addr} {sl_Story___repr__ : Array (Option Value)} {cd_Story___repr__ : Value} {f_InvalidStory___init__ : Addr} {oc_InvalidStory___init__ : Value} {kV_InvalidStory___init__ : Value} {dc_InvalidStory___init__ : Value} {pm_InvalidStory___init__ : Value} {ct_InvalidStory___init__ : Value} {od_InvalidStory___init__ : Option Addr} {an_InvalidStory___init__ : Option Addr} {sl_InvalidStory___init__ : Array (Option Value)} {u_InvalidStory___init__ : Addr} {w_InvalidStory___init__ : Addr} {cc_InvalidStory___init__ : Value} {cl_InvalidStory___init__ : Value} {cd_InvalidStory___init__ : Option Addr} {ld_InvalidStory___init__ : Option Addr} {cs_InvalidStory___init__ : Array (Option Value)} {ls_InvalidStory___init__ : Array (Option Value)} {vs_InvalidStory___init__ : Array Value} {fi_InvalidStory___init__ : Str} {tf_InvalidStory___init__ : Tok} {nm_InvalidStory : Str} {q_InvalidStory : Str} {N_InvalidStory : Addr} {bs_InvalidStory : List Value} {bm_InvalidStory : List Value} {sn_InvalidStory : List Str} {sub_InvalidStory : List Value} {ab_InvalidStory : Bool} {col_InvalidStory : Option Bool} {dd_InvalidStory : Option Addr} {k0_InvalidStory : Option Value} {k1_InvalidStory : Option Value} {k2_InvalidStory : Option Value} {k3_InvalidStory : Option Value} {k5_InvalidStory : Option Value} {f_Story_require_alike : Addr} {oc_Story_require_alike : Value} {kV_Story_require_alike : Value} {dc_Story_require_alike : Value} {pm_Story_require_alike : Value} {ct_Story_require_alike : Value} {od_Story_require_alike : Option Addr} {an_Story_require_alike : Option Addr} {sl_Story_require_alike : Array (Option Value)} {cd_Story_require_alike : Value} {f_Story_is_as_bad_as : Addr} {oc_Story_is_as_bad_as : Value} {kV_Story_is_as_bad_as : Value} {dc_Story_is_as_bad_as : Value} {pm_Story_is_as_bad_as : Value} {ct_Story_is_as_bad_as : Value} {od_Story_is_as_bad_as : Option Addr} {an_Story_is_as_bad_as : Option Addr} {sl_Story_is_as_bad_as : Array (Option Value)} {cd_Story_is_as_bad_as : Value} {f__law_bad : Addr} {oc__law_bad : Value} {kV__law_bad : Value} {dc__law_bad : Value} {pm__law_bad : Value} {ct__law_bad : Value} {od__law_bad : Option Addr} {an__law_bad : Option Addr} {sl__law_bad : Array (Option Value)} {cd__law_bad : Value} {f_Story_melted : Addr} {oc_Story_melted : Value} {kV_Story_melted : Value} {dc_Story_melted : Value} {pm_Story_melted : Value} {ct_Story_melted : Value} {od_Story_melted : Option Addr} {an_Story_melted : Option Addr} {sl_Story_melted : Array (Option Value)} {cd_Story_melted : Value} {f_Story___len__ : Addr} {oc_Story___len__ : Value} {kV_Story___len__ : Value} {dc_Story___len__ : Value} {pm_Story___len__ : Value} {ct_Story___len__ : Value} {od_Story___len__ : Option Addr} {an_Story___len__ : Option Addr} {sl_Story___len__ : Array (Option Value)} {cd_Story___len__ : Value} {f__law_pairs_right : Addr} {oc__law_pairs_right : Value} {kV__law_pairs_right : Value} {dc__law_pairs_right : Value} {pm__law_pairs_right : Value} {ct__law_pairs_right : Value} {od__law_pairs_right : Option Addr} {an__law_pairs_right : Option Addr} {sl__law_pairs_right : Array (Option Value)} {cd__law_pairs_right : Value} {f__law_free : Addr} {oc__law_free : Value} {kV__law_free : Value} {dc__law_free : Value} {pm__law_free : Value} {ct__law_free : Value} {od__law_free : Option Addr} {an__law_free : Option Addr} {sl__law_free : Array (Option Value)} {cd__law_free : Value} {f__law_refused : Addr} {oc__law_refused : Value} {kV__law_refused : Value} {dc__law_refused : Value} {pm__law_refused : Value} {ct__law_refused : Value} {od__law_refused : Option Addr} {an__law_refused : Option Addr} {sl__law_refused : Array (Option Value)} {cd__law_refused : Value} {f__law_refusals_right : Addr} {oc__law_refusals_right : Value} {kV__law_refusals_right : Value} {dc__law_refusals_right : Value} {pm__law_refusals_right : Value} {ct__law_refusals_right : Value} {od__law_refusals_right : Option Addr} {an__law_refusals_right : Option Addr} {sl__law_refusals_right : Array (Option Value)} {cd__law_refusals_right : Value} {f_law : Addr} {oc_law : Value} {kV_law : Value} {dc_law : Value} {pm_law : Value} {ct_law : Value} {od_law : Option Addr} {an_law : Option Addr} {sl_law : Array (Option Value)} {cd_law : Value}
    (c_LAST_DAY : PySem.W.nsIn K mainGlobals "LAST_DAY" = some (some (.int 1000000000 t_LAST_DAY)))
    (c_LETTERS : PySem.W.nsIn K mainGlobals "LETTERS" = some (some (.str "abcdefghijklmnopqrstuvwxyz" t_LETTERS)))
    (c_MOST_LETTERS : PySem.W.nsIn K mainGlobals "MOST_LETTERS" = some (some (.int 8 t_MOST_LETTERS)))
    (c_NEVER : PySem.W.nsIn K mainGlobals "NEVER" = some (some (.int 1000000001 t_NEVER)))
    (c_NOTHING : PySem.W.nsIn K mainGlobals "NOTHING" = some (some (.str "-" t_NOTHING)))
    (z_abs : PySem.W.nsIn K mainGlobals "abs" = some none)
    (z_all : PySem.W.nsIn K mainGlobals "all" = some none)
    (z_any : PySem.W.nsIn K mainGlobals "any" = some none)
    (z_bool : PySem.W.nsIn K mainGlobals "bool" = some none)
    (z_dict : PySem.W.nsIn K mainGlobals "dict" = some none)
    (z_divmod : PySem.W.nsIn K mainGlobals "divmod" = some none)
    (z_int : PySem.W.nsIn K mainGlobals "int" = some none)
    (z_isinstance : PySem.W.nsIn K mainGlobals "isinstance" = some none)
    (z_len : PySem.W.nsIn K mainGlobals "len" = some none)
    (z_list : PySem.W.nsIn K mainGlobals "list" = some none)
    (z_max : PySem.W.nsIn K mainGlobals "max" = some none)
    (z_min : PySem.W.nsIn K mainGlobals "min" = some none)
    (z_range : PySem.W.nsIn K mainGlobals "range" = some none)
    (z_sorted : PySem.W.nsIn K mainGlobals "sorted" = some none)
    (z_str : PySem.W.nsIn K mainGlobals "str" = some none)
    (z_super : PySem.W.nsIn K mainGlobals "super" = some none)
    (z_tuple : PySem.W.nsIn K mainGlobals "tuple" = some none)
    (z_zip : PySem.W.nsIn K mainGlobals "zip" = some none)
    (g_Story : PySem.W.nsIn K mainGlobals "Story" = some (some (.ref C_Story)))
    (g_InvalidStory : PySem.W.nsIn K mainGlobals "InvalidStory" = some (some (.ref C_InvalidStory)))
    (h_bok : bokB K [("Story", C_Story)] [("Story", (["own_days", "own_strays"] : List Str))] subs = true)
    (h_xok : xokB K [("InvalidStory", C_InvalidStory)] xls subs = true)
    (g__law_rng : PySem.W.nsIn K mainGlobals "_law_rng" = some (some (.ref f__law_rng)))
    (l__law_rng : K.lookup f__law_rng = some ⟨oc__law_rng, od__law_rng, .func (PySem.W.fnOf "_law_rng" "_law_rng" (defArgs s__law_rng) (defBody s__law_rng) (defScope s__law_rng) .none kV__law_rng dc__law_rng pm__law_rng an__law_rng cd__law_rng ct__law_rng), sl__law_rng⟩)
    (c__law_rng : PySem.W.codeIn K cd__law_rng "_law_rng" = true)
    (k__law_rng : PySem.W.keepIn K (.ref f__law_rng) = true)
    (g__law_draw : PySem.W.nsIn K mainGlobals "_law_draw" = some (some (.ref f__law_draw)))
    (l__law_draw : K.lookup f__law_draw = some ⟨oc__law_draw, od__law_draw, .func (PySem.W.fnOf "_law_draw" "_law_draw" (defArgs s__law_draw) (defBody s__law_draw) (defScope s__law_draw) .none kV__law_draw dc__law_draw pm__law_draw an__law_draw cd__law_draw ct__law_draw), sl__law_draw⟩)
    (c__law_draw : PySem.W.codeIn K cd__law_draw "_law_draw" = true)
    (k__law_draw : PySem.W.keepIn K (.ref f__law_draw) = true)
    (g__law_name : PySem.W.nsIn K mainGlobals "_law_name" = some (some (.ref f__law_name)))
    (l__law_name : K.lookup f__law_name = some ⟨oc__law_name, od__law_name, .func (PySem.W.fnOf "_law_name" "_law_name" (defArgs s__law_name) (defBody s__law_name) (defScope s__law_name) .none kV__law_name dc__law_name pm__law_name an__law_name cd__law_name ct__law_name), sl__law_name⟩)
    (c__law_name : PySem.W.codeIn K cd__law_name "_law_name" = true)
    (k__law_name : PySem.W.keepIn K (.ref f__law_name) = true)
    (g__law_names : PySem.W.nsIn K mainGlobals "_law_names" = some (some (.ref f__law_names)))
    (l__law_names : K.lookup f__law_names = some ⟨oc__law_names, od__law_names, .func (PySem.W.fnOf "_law_names" "_law_names" (defArgs s__law_names) (defBody s__law_names) (defScope s__law_names) .none kV__law_names dc__law_names pm__law_names an__law_names cd__law_names ct__law_names), sl__law_names⟩)
    (c__law_names : PySem.W.codeIn K cd__law_names "_law_names" = true)
    (k__law_names : PySem.W.keepIn K (.ref f__law_names) = true)
    (g__law_choice : PySem.W.nsIn K mainGlobals "_law_choice" = some (some (.ref f__law_choice)))
    (l__law_choice : K.lookup f__law_choice = some ⟨oc__law_choice, od__law_choice, .func (PySem.W.fnOf "_law_choice" "_law_choice" (defArgs s__law_choice) (defBody s__law_choice) (defScope s__law_choice) .none kV__law_choice dc__law_choice pm__law_choice an__law_choice cd__law_choice ct__law_choice), sl__law_choice⟩)
    (c__law_choice : PySem.W.codeIn K cd__law_choice "_law_choice" = true)
    (k__law_choice : PySem.W.keepIn K (.ref f__law_choice) = true)
    (g__law_plain_story : PySem.W.nsIn K mainGlobals "_law_plain_story" = some (some (.ref f__law_plain_story)))
    (l__law_plain_story : K.lookup f__law_plain_story = some ⟨oc__law_plain_story, od__law_plain_story, .func (PySem.W.fnOf "_law_plain_story" "_law_plain_story" (defArgs s__law_plain_story) (defBody s__law_plain_story) (defScope s__law_plain_story) .none kV__law_plain_story dc__law_plain_story pm__law_plain_story an__law_plain_story cd__law_plain_story ct__law_plain_story), sl__law_plain_story⟩)
    (c__law_plain_story : PySem.W.codeIn K cd__law_plain_story "_law_plain_story" = true)
    (k__law_plain_story : PySem.W.keepIn K (.ref f__law_plain_story) = true)
    (g__law_near : PySem.W.nsIn K mainGlobals "_law_near" = some (some (.ref f__law_near)))
    (l__law_near : K.lookup f__law_near = some ⟨oc__law_near, od__law_near, .func (PySem.W.fnOf "_law_near" "_law_near" (defArgs s__law_near) (defBody s__law_near) (defScope s__law_near) .none kV__law_near dc__law_near pm__law_near an__law_near cd__law_near ct__law_near), sl__law_near⟩)
    (c__law_near : PySem.W.codeIn K cd__law_near "_law_near" = true)
    (k__law_near : PySem.W.keepIn K (.ref f__law_near) = true)
    (g_is_integer : PySem.W.nsIn K mainGlobals "is_integer" = some (some (.ref f_is_integer)))
    (l_is_integer : K.lookup f_is_integer = some ⟨oc_is_integer, od_is_integer, .func (PySem.W.fnOf "is_integer" "is_integer" (defArgs s_is_integer) (defBody s_is_integer) (defScope s_is_integer) .none kV_is_integer dc_is_integer pm_is_integer an_is_integer cd_is_integer ct_is_integer), sl_is_integer⟩)
    (c_is_integer : PySem.W.codeIn K cd_is_integer "is_integer" = true)
    (k_is_integer : PySem.W.keepIn K (.ref f_is_integer) = true)
    (g_is_day : PySem.W.nsIn K mainGlobals "is_day" = some (some (.ref f_is_day)))
    (l_is_day : K.lookup f_is_day = some ⟨oc_is_day, od_is_day, .func (PySem.W.fnOf "is_day" "is_day" (defArgs s_is_day) (defBody s_is_day) (defScope s_is_day) .none kV_is_day dc_is_day pm_is_day an_is_day cd_is_day ct_is_day), sl_is_day⟩)
    (c_is_day : PySem.W.codeIn K cd_is_day "is_day" = true)
    (k_is_day : PySem.W.keepIn K (.ref f_is_day) = true)
    (g_is_stray : PySem.W.nsIn K mainGlobals "is_stray" = some (some (.ref f_is_stray)))
    (l_is_stray : K.lookup f_is_stray = some ⟨oc_is_stray, od_is_stray, .func (PySem.W.fnOf "is_stray" "is_stray" (defArgs s_is_stray) (defBody s_is_stray) (defScope s_is_stray) .none kV_is_stray dc_is_stray pm_is_stray an_is_stray cd_is_stray ct_is_stray), sl_is_stray⟩)
    (c_is_stray : PySem.W.codeIn K cd_is_stray "is_stray" = true)
    (k_is_stray : PySem.W.keepIn K (.ref f_is_stray) = true)
    (g_is_name : PySem.W.nsIn K mainGlobals "is_name" = some (some (.ref f_is_name)))
    (l_is_name : K.lookup f_is_name = some ⟨oc_is_name, od_is_name, .func (PySem.W.fnOf "is_name" "is_name" (defArgs s_is_name) (defBody s_is_name) (defScope s_is_name) .none kV_is_name dc_is_name pm_is_name an_is_name cd_is_name ct_is_name), sl_is_name⟩)
    (c_is_name : PySem.W.codeIn K cd_is_name "is_name" = true)
    (k_is_name : PySem.W.keepIn K (.ref f_is_name) = true)
    (g_are_strays : PySem.W.nsIn K mainGlobals "are_strays" = some (some (.ref f_are_strays)))
    (l_are_strays : K.lookup f_are_strays = some ⟨oc_are_strays, od_are_strays, .func (PySem.W.fnOf "are_strays" "are_strays" (defArgs s_are_strays) (defBody s_are_strays) (defScope s_are_strays) .none kV_are_strays dc_are_strays pm_are_strays an_are_strays cd_are_strays ct_are_strays), sl_are_strays⟩)
    (c_are_strays : PySem.W.codeIn K cd_are_strays "are_strays" = true)
    (k_are_strays : PySem.W.keepIn K (.ref f_are_strays) = true)
    (a_Story___init__ : PySem.W.findIn K (.ref C_Story) "__init__" = some (some (.ref f_Story___init__)))
    (i_Story___init__ : PySem.W.isFn K (.ref f_Story___init__) = true)
    (l_Story___init__ : K.lookup f_Story___init__ = some ⟨oc_Story___init__, od_Story___init__, .func (PySem.W.fnOf "__init__" "Story.__init__" (defArgs s_Story___init__) (defBody s_Story___init__) (defScope s_Story___init__) .none kV_Story___init__ dc_Story___init__ pm_Story___init__ an_Story___init__ cd_Story___init__ ct_Story___init__), sl_Story___init__⟩)
    (c_Story___init__ : PySem.W.codeIn K cd_Story___init__ "Story.__init__" = true)
    (k_Story___init__ : PySem.W.keepIn K (.ref f_Story___init__) = true)
    (mk_Story : PySem.W.makesIn K C_Story = true)
    (kc_Story : PySem.W.keepIn K (.ref C_Story) = true)
    (g__law_made : PySem.W.nsIn K mainGlobals "_law_made" = some (some (.ref f__law_made)))
    (l__law_made : K.lookup f__law_made = some ⟨oc__law_made, od__law_made, .func (PySem.W.fnOf "_law_made" "_law_made" (defArgs s__law_made) (defBody s__law_made) (defScope s__law_made) .none kV__law_made dc__law_made pm__law_made an__law_made cd__law_made ct__law_made), sl__law_made⟩)
    (c__law_made : PySem.W.codeIn K cd__law_made "_law_made" = true)
    (k__law_made : PySem.W.keepIn K (.ref f__law_made) = true)
    (p1_Story_days : PySem.W.findIn K (.ref C_Story) "days" = some (some (.ref pa_Story_days)))
    (p2_Story_days : PySem.W.specialIn K (.ref pa_Story_days) "__get__" = some (some (.builtin "property.__get__")))
    (p3_Story_days : PySem.W.takesIn K (.ref pa_Story_days) = some true)
    (p4_Story_days : PySem.W.recIn K pa_Story_days "property" = some (.ref f_Story_days :: pr_Story_days))
    (l_Story_days : K.lookup f_Story_days = some ⟨oc_Story_days, od_Story_days, .func (PySem.W.fnOf "days" "Story.days" (defArgs s_Story_days) (defBody s_Story_days) (defScope s_Story_days) .none kV_Story_days dc_Story_days pm_Story_days an_Story_days cd_Story_days ct_Story_days), sl_Story_days⟩)
    (c_Story_days : PySem.W.codeIn K cd_Story_days "Story.days" = true)
    (k_Story_days : PySem.W.keepIn K (.ref f_Story_days) = true)
    (p1_Story_strays : PySem.W.findIn K (.ref C_Story) "strays" = some (some (.ref pa_Story_strays)))
    (p2_Story_strays : PySem.W.specialIn K (.ref pa_Story_strays) "__get__" = some (some (.builtin "property.__get__")))
    (p3_Story_strays : PySem.W.takesIn K (.ref pa_Story_strays) = some true)
    (p4_Story_strays : PySem.W.recIn K pa_Story_strays "property" = some (.ref f_Story_strays :: pr_Story_strays))
    (l_Story_strays : K.lookup f_Story_strays = some ⟨oc_Story_strays, od_Story_strays, .func (PySem.W.fnOf "strays" "Story.strays" (defArgs s_Story_strays) (defBody s_Story_strays) (defScope s_Story_strays) .none kV_Story_strays dc_Story_strays pm_Story_strays an_Story_strays cd_Story_strays ct_Story_strays), sl_Story_strays⟩)
    (c_Story_strays : PySem.W.codeIn K cd_Story_strays "Story.strays" = true)
    (k_Story_strays : PySem.W.keepIn K (.ref f_Story_strays) = true)
    (g__law_new_right : PySem.W.nsIn K mainGlobals "_law_new_right" = some (some (.ref f__law_new_right)))
    (l__law_new_right : K.lookup f__law_new_right = some ⟨oc__law_new_right, od__law_new_right, .func (PySem.W.fnOf "_law_new_right" "_law_new_right" (defArgs s__law_new_right) (defBody s__law_new_right) (defScope s__law_new_right) .none kV__law_new_right dc__law_new_right pm__law_new_right an__law_new_right cd__law_new_right ct__law_new_right), sl__law_new_right⟩)
    (c__law_new_right : PySem.W.codeIn K cd__law_new_right "_law_new_right" = true)
    (k__law_new_right : PySem.W.keepIn K (.ref f__law_new_right) = true)
    (g_day_text : PySem.W.nsIn K mainGlobals "day_text" = some (some (.ref f_day_text)))
    (l_day_text : K.lookup f_day_text = some ⟨oc_day_text, od_day_text, .func (PySem.W.fnOf "day_text" "day_text" (defArgs s_day_text) (defBody s_day_text) (defScope s_day_text) .none kV_day_text dc_day_text pm_day_text an_day_text cd_day_text ct_day_text), sl_day_text⟩)
    (c_day_text : PySem.W.codeIn K cd_day_text "day_text" = true)
    (k_day_text : PySem.W.keepIn K (.ref f_day_text) = true)
    (a_Story___str__ : PySem.W.findIn K (.ref C_Story) "__str__" = some (some (.ref f_Story___str__)))
    (i_Story___str__ : PySem.W.isFn K (.ref f_Story___str__) = true)
    (l_Story___str__ : K.lookup f_Story___str__ = some ⟨oc_Story___str__, od_Story___str__, .func (PySem.W.fnOf "__str__" "Story.__str__" (defArgs s_Story___str__) (defBody s_Story___str__) (defScope s_Story___str__) .none kV_Story___str__ dc_Story___str__ pm_Story___str__ an_Story___str__ cd_Story___str__ ct_Story___str__), sl_Story___str__⟩)
    (c_Story___str__ : PySem.W.codeIn K cd_Story___str__ "Story.__str__" = true)
    (k_Story___str__ : PySem.W.keepIn K (.ref f_Story___str__) = true)
    (a_Story___eq__ : PySem.W.findIn K (.ref C_Story) "__eq__" = some (some (.ref f_Story___eq__)))
    (i_Story___eq__ : PySem.W.isFn K (.ref f_Story___eq__) = true)
    (l_Story___eq__ : K.lookup f_Story___eq__ = some ⟨oc_Story___eq__, od_Story___eq__, .func (PySem.W.fnOf "__eq__" "Story.__eq__" (defArgs s_Story___eq__) (defBody s_Story___eq__) (defScope s_Story___eq__) .none kV_Story___eq__ dc_Story___eq__ pm_Story___eq__ an_Story___eq__ cd_Story___eq__ ct_Story___eq__), sl_Story___eq__⟩)
    (c_Story___eq__ : PySem.W.codeIn K cd_Story___eq__ "Story.__eq__" = true)
    (k_Story___eq__ : PySem.W.keepIn K (.ref f_Story___eq__) = true)
    (mo_Story : PySem.W.mroIn K C_Story (.type "object") = some true)
    (ne_Story : PySem.W.findIn K (.ref C_Story) "__ne__" = some (some (.builtin "object.__ne__")))
    (a_Story_concerns : PySem.W.findIn K (.ref C_Story) "concerns" = some (some (.ref f_Story_concerns)))
    (i_Story_concerns : PySem.W.isFn K (.ref f_Story_concerns) = true)
    (l_Story_concerns : K.lookup f_Story_concerns = some ⟨oc_Story_concerns, od_Story_concerns, .func (PySem.W.fnOf "concerns" "Story.concerns" (defArgs s_Story_concerns) (defBody s_Story_concerns) (defScope s_Story_concerns) .none kV_Story_concerns dc_Story_concerns pm_Story_concerns an_Story_concerns cd_Story_concerns ct_Story_concerns), sl_Story_concerns⟩)
    (c_Story_concerns : PySem.W.codeIn K cd_Story_concerns "Story.concerns" = true)
    (k_Story_concerns : PySem.W.keepIn K (.ref f_Story_concerns) = true)
    (a_Story___repr__ : PySem.W.findIn K (.ref C_Story) "__repr__" = some (some (.ref f_Story___repr__)))
    (i_Story___repr__ : PySem.W.isFn K (.ref f_Story___repr__) = true)
    (l_Story___repr__ : K.lookup f_Story___repr__ = some ⟨oc_Story___repr__, od_Story___repr__, .func (PySem.W.fnOf "__repr__" "Story.__repr__" (defArgs s_Story___repr__) (defBody s_Story___repr__) (defScope s_Story___repr__) .none kV_Story___repr__ dc_Story___repr__ pm_Story___repr__ an_Story___repr__ cd_Story___repr__ ct_Story___repr__), sl_Story___repr__⟩)
    (c_Story___repr__ : PySem.W.codeIn K cd_Story___repr__ "Story.__repr__" = true)
    (k_Story___repr__ : PySem.W.keepIn K (.ref f_Story___repr__) = true)
    (xi_InvalidStory___init__ : PySem.W.findIn K (.ref C_InvalidStory) "__init__" = some (some (.ref f_InvalidStory___init__)))
    (xf_InvalidStory___init__ : PySem.W.typeIn K (.ref f_InvalidStory___init__) = some (.type "function"))
    (l_InvalidStory___init__ : K.lookup f_InvalidStory___init__ = some ⟨oc_InvalidStory___init__, od_InvalidStory___init__, .func (PySem.W.ksFn "__init__" "InvalidStory.__init__" (defArgs s_InvalidStory___init__) (defBody s_InvalidStory___init__) (defScope s_InvalidStory___init__) .none kV_InvalidStory___init__ dc_InvalidStory___init__ pm_InvalidStory___init__ an_InvalidStory___init__ (.ref u_InvalidStory___init__) ct_InvalidStory___init__ w_InvalidStory___init__), sl_InvalidStory___init__⟩)
    (d_InvalidStory___init__ : PySem.W.codeIn K (.ref u_InvalidStory___init__) "InvalidStory.__init__" = true)
    (k_InvalidStory___init__ : K.lookup u_InvalidStory___init__ = some ⟨cc_InvalidStory___init__, cd_InvalidStory___init__, .fields vs_InvalidStory___init__, cs_InvalidStory___init__⟩)
    (v_InvalidStory___init__ : vs_InvalidStory___init__[2]? = some (.str fi_InvalidStory___init__ tf_InvalidStory___init__))
    (pf_InvalidStory___init__ : ((l.prog.main.file : Str) == fi_InvalidStory___init__) = true)
    (ce_InvalidStory___init__ : K.lookup w_InvalidStory___init__ = some ⟨cl_InvalidStory___init__, ld_InvalidStory___init__, .cell (some (.ref C_InvalidStory)), ls_InvalidStory___init__⟩)
    (su_InvalidStory___init__ : PySem.W.mroIn K C_InvalidStory (.ref C_InvalidStory) = some true)
    (ss_InvalidStory___init__ : PySem.W.ks_superIn K C_InvalidStory C_InvalidStory "__init__" = some (some (.builtin "ValueError.__init__")))
    (sv_InvalidStory___init__ : PySem.W.subIn K (.ref C_InvalidStory) (.type "ValueError") = some true)
    (st_InvalidStory___init__ : (l.prog.main.scope.names.lookup ("super" : Str)).isSome = false)
    (sy_InvalidStory___init__ : PySem.W.nsIn K cStatics "thirdparty.any" = some none)
    (xc_InvalidStory___init__ : K.lookup C_InvalidStory = some (excClassObj nm_InvalidStory q_InvalidStory C_InvalidStory N_InvalidStory bs_InvalidStory bm_InvalidStory true sn_InvalidStory sub_InvalidStory ab_InvalidStory col_InvalidStory dd_InvalidStory k0_InvalidStory k1_InvalidStory k2_InvalidStory k3_InvalidStory k5_InvalidStory "ValueError.__new__"))
    (xb_InvalidStory___init__ : PySem.HandSPX.refsVE bm_InvalidStory = true)
    (xs_InvalidStory___init__ : PySem.W.findIn K (.ref C_InvalidStory) "__setattr__" = some (some (.builtin "object.__setattr__")))
    (xe_InvalidStory___init__ : PySem.W.subIn K (.ref C_InvalidStory) (.type "BaseException") = some true)
    (xt_InvalidStory___init__ : PySem.W.typeIn K (.ref C_InvalidStory) = some (.type "type"))
    (xk_InvalidStory___init__ : PySem.W.keepIn K (.ref C_InvalidStory) = true)
    (xn_InvalidStory_value : PySem.W.findIn K (.ref C_InvalidStory) "value" = some none)
    (xn_InvalidStory_told_parts : PySem.W.findIn K (.ref C_InvalidStory) "told_parts" = some none)
    (a_Story_require_alike : PySem.W.findIn K (.ref C_Story) "require_alike" = some (some (.ref f_Story_require_alike)))
    (i_Story_require_alike : PySem.W.isFn K (.ref f_Story_require_alike) = true)
    (l_Story_require_alike : K.lookup f_Story_require_alike = some ⟨oc_Story_require_alike, od_Story_require_alike, .func (PySem.W.fnOf "require_alike" "Story.require_alike" (defArgs s_Story_require_alike) (defBody s_Story_require_alike) (defScope s_Story_require_alike) .none kV_Story_require_alike dc_Story_require_alike pm_Story_require_alike an_Story_require_alike cd_Story_require_alike ct_Story_require_alike), sl_Story_require_alike⟩)
    (c_Story_require_alike : PySem.W.codeIn K cd_Story_require_alike "Story.require_alike" = true)
    (k_Story_require_alike : PySem.W.keepIn K (.ref f_Story_require_alike) = true)
    (a_Story_is_as_bad_as : PySem.W.findIn K (.ref C_Story) "is_as_bad_as" = some (some (.ref f_Story_is_as_bad_as)))
    (i_Story_is_as_bad_as : PySem.W.isFn K (.ref f_Story_is_as_bad_as) = true)
    (l_Story_is_as_bad_as : K.lookup f_Story_is_as_bad_as = some ⟨oc_Story_is_as_bad_as, od_Story_is_as_bad_as, .func (PySem.W.fnOf "is_as_bad_as" "Story.is_as_bad_as" (defArgs s_Story_is_as_bad_as) (defBody s_Story_is_as_bad_as) (defScope s_Story_is_as_bad_as) .none kV_Story_is_as_bad_as dc_Story_is_as_bad_as pm_Story_is_as_bad_as an_Story_is_as_bad_as cd_Story_is_as_bad_as ct_Story_is_as_bad_as), sl_Story_is_as_bad_as⟩)
    (c_Story_is_as_bad_as : PySem.W.codeIn K cd_Story_is_as_bad_as "Story.is_as_bad_as" = true)
    (k_Story_is_as_bad_as : PySem.W.keepIn K (.ref f_Story_is_as_bad_as) = true)
    (g__law_bad : PySem.W.nsIn K mainGlobals "_law_bad" = some (some (.ref f__law_bad)))
    (l__law_bad : K.lookup f__law_bad = some ⟨oc__law_bad, od__law_bad, .func (PySem.W.fnOf "_law_bad" "_law_bad" (defArgs s__law_bad) (defBody s__law_bad) (defScope s__law_bad) .none kV__law_bad dc__law_bad pm__law_bad an__law_bad cd__law_bad ct__law_bad), sl__law_bad⟩)
    (c__law_bad : PySem.W.codeIn K cd__law_bad "_law_bad" = true)
    (k__law_bad : PySem.W.keepIn K (.ref f__law_bad) = true)
    (a_Story_melted : PySem.W.findIn K (.ref C_Story) "melted" = some (some (.ref f_Story_melted)))
    (i_Story_melted : PySem.W.isFn K (.ref f_Story_melted) = true)
    (l_Story_melted : K.lookup f_Story_melted = some ⟨oc_Story_melted, od_Story_melted, .func (PySem.W.fnOf "melted" "Story.melted" (defArgs s_Story_melted) (defBody s_Story_melted) (defScope s_Story_melted) .none kV_Story_melted dc_Story_melted pm_Story_melted an_Story_melted cd_Story_melted ct_Story_melted), sl_Story_melted⟩)
    (c_Story_melted : PySem.W.codeIn K cd_Story_melted "Story.melted" = true)
    (k_Story_melted : PySem.W.keepIn K (.ref f_Story_melted) = true)
    (a_Story___len__ : PySem.W.findIn K (.ref C_Story) "__len__" = some (some (.ref f_Story___len__)))
    (i_Story___len__ : PySem.W.isFn K (.ref f_Story___len__) = true)
    (l_Story___len__ : K.lookup f_Story___len__ = some ⟨oc_Story___len__, od_Story___len__, .func (PySem.W.fnOf "__len__" "Story.__len__" (defArgs s_Story___len__) (defBody s_Story___len__) (defScope s_Story___len__) .none kV_Story___len__ dc_Story___len__ pm_Story___len__ an_Story___len__ cd_Story___len__ ct_Story___len__), sl_Story___len__⟩)
    (c_Story___len__ : PySem.W.codeIn K cd_Story___len__ "Story.__len__" = true)
    (k_Story___len__ : PySem.W.keepIn K (.ref f_Story___len__) = true)
    (g__law_pairs_right : PySem.W.nsIn K mainGlobals "_law_pairs_right" = some (some (.ref f__law_pairs_right)))
    (l__law_pairs_right : K.lookup f__law_pairs_right = some ⟨oc__law_pairs_right, od__law_pairs_right, .func (PySem.W.fnOf "_law_pairs_right" "_law_pairs_right" (defArgs s__law_pairs_right) (defBody s__law_pairs_right) (defScope s__law_pairs_right) .none kV__law_pairs_right dc__law_pairs_right pm__law_pairs_right an__law_pairs_right cd__law_pairs_right ct__law_pairs_right), sl__law_pairs_right⟩)
    (c__law_pairs_right : PySem.W.codeIn K cd__law_pairs_right "_law_pairs_right" = true)
    (k__law_pairs_right : PySem.W.keepIn K (.ref f__law_pairs_right) = true)
    (g__law_free : PySem.W.nsIn K mainGlobals "_law_free" = some (some (.ref f__law_free)))
    (l__law_free : K.lookup f__law_free = some ⟨oc__law_free, od__law_free, .func (PySem.W.fnOf "_law_free" "_law_free" (defArgs s__law_free) (defBody s__law_free) (defScope s__law_free) .none kV__law_free dc__law_free pm__law_free an__law_free cd__law_free ct__law_free), sl__law_free⟩)
    (c__law_free : PySem.W.codeIn K cd__law_free "_law_free" = true)
    (k__law_free : PySem.W.keepIn K (.ref f__law_free) = true)
    (g__law_refused : PySem.W.nsIn K mainGlobals "_law_refused" = some (some (.ref f__law_refused)))
    (l__law_refused : K.lookup f__law_refused = some ⟨oc__law_refused, od__law_refused, .func (PySem.W.fnOf "_law_refused" "_law_refused" (defArgs s__law_refused) (defBody s__law_refused) (defScope s__law_refused) .none kV__law_refused dc__law_refused pm__law_refused an__law_refused cd__law_refused ct__law_refused), sl__law_refused⟩)
    (c__law_refused : PySem.W.codeIn K cd__law_refused "_law_refused" = true)
    (k__law_refused : PySem.W.keepIn K (.ref f__law_refused) = true)
    (g__law_refusals_right : PySem.W.nsIn K mainGlobals "_law_refusals_right" = some (some (.ref f__law_refusals_right)))
    (l__law_refusals_right : K.lookup f__law_refusals_right = some ⟨oc__law_refusals_right, od__law_refusals_right, .func (PySem.W.fnOf "_law_refusals_right" "_law_refusals_right" (defArgs s__law_refusals_right) (defBody s__law_refusals_right) (defScope s__law_refusals_right) .none kV__law_refusals_right dc__law_refusals_right pm__law_refusals_right an__law_refusals_right cd__law_refusals_right ct__law_refusals_right), sl__law_refusals_right⟩)
    (c__law_refusals_right : PySem.W.codeIn K cd__law_refusals_right "_law_refusals_right" = true)
    (k__law_refusals_right : PySem.W.keepIn K (.ref f__law_refusals_right) = true)
    (g_law : PySem.W.nsIn K mainGlobals "law" = some (some (.ref f_law)))
    (l_law : K.lookup f_law = some ⟨oc_law, od_law, .func (PySem.W.fnOf "law" "law" (defArgs s_law) (defBody s_law) (defScope s_law) .none kV_law dc_law pm_law an_law cd_law ct_law), sl_law⟩)
    (c_law : PySem.W.codeIn K cd_law "law" = true)
    (k_law : PySem.W.keepIn K (.ref f_law) = true)
    : ∃ (fd : FuncData) (B : Bx), B.K = K ∧ (∀ (s : Shared) (u : Value), BindsTo s fd ⟨[u], []⟩ [("_law_script", u)]) ∧ ∀ base : Heap, K.In base → base.Ns mainGlobals mg → PM.FnOk l.prog w K mg base (L2.CX l.prog w) 14 fa fd ["_law_script"] (spM B (fn1 m_law)) := by
  have e := hfa.symm.trans (PySem.W.mg_of X G g_law)
  cases e
  have T : ∀ base : Heap, ∃ T : Txt l.prog w K mg base, T.B = mkB K [("Story", C_Story)] [("Story", (["own_days", "own_strays"] : List Str))] [("InvalidStory", C_InvalidStory)] xls subs ∧ T.f_law = fa ∧ T.d_law = PySem.W.fnOf "law" "law" (defArgs s_law) (defBody s_law) (defScope s_law) .none kV_law dc_law pm_law an_law cd_law ct_law := fun base => ⟨{
    B := mkB K [("Story", C_Story)] [("Story", (["own_days", "own_strays"] : List Str))] [("InvalidStory", C_InvalidStory)] xls subs,
    hK := rfl,
    ok := bokB_ok h_bok,
    xo := xokB_ok h_xok,
    subE := rfl,
    xlE := rfl,
    t_LAST_DAY := t_LAST_DAY,
    c_LAST_DAY := PySem.W.mg_of X G c_LAST_DAY,
    t_LETTERS := t_LETTERS,
    c_LETTERS := PySem.W.mg_of X G c_LETTERS,
    t_MOST_LETTERS := t_MOST_LETTERS,
    c_MOST_LETTERS := PySem.W.mg_of X G c_MOST_LETTERS,
    t_NEVER := t_NEVER,
    c_NEVER := PySem.W.mg_of X G c_NEVER,
    t_NOTHING := t_NOTHING,
    c_NOTHING := PySem.W.mg_of X G c_NOTHING,
    z_abs := PySem.W.mg_none_of X G z_abs,
    z_all := PySem.W.mg_none_of X G z_all,
    z_any := PySem.W.mg_none_of X G z_any,
    z_bool := PySem.W.mg_none_of X G z_bool,
    z_dict := PySem.W.mg_none_of X G z_dict,
    z_divmod := PySem.W.mg_none_of X G z_divmod,
    z_int := PySem.W.mg_none_of X G z_int,
    z_isinstance := PySem.W.mg_none_of X G z_isinstance,
    z_len := PySem.W.mg_none_of X G z_len,
    z_list := PySem.W.mg_none_of X G z_list,
    z_max := PySem.W.mg_none_of X G z_max,
    z_min := PySem.W.mg_none_of X G z_min,
    z_range := PySem.W.mg_none_of X G z_range,
    z_sorted := PySem.W.mg_none_of X G z_sorted,
    z_str := PySem.W.mg_none_of X G z_str,
    z_super := PySem.W.mg_none_of X G z_super,
    z_tuple := PySem.W.mg_none_of X G z_tuple,
    z_zip := PySem.W.mg_none_of X G z_zip,
    C_Story := C_Story,
    g_Story := PySem.W.mg_of X G g_Story,
    ct_Story := by rfl,
    fl_Story := by rfl,
    C_InvalidStory := C_InvalidStory,
    g_InvalidStory := PySem.W.mg_of X G g_InvalidStory,
    xt_InvalidStory := by rfl,
    g__law_rng := PySem.W.mg_of X G g__law_rng,
    f__law_rng := f__law_rng,
    d__law_rng := PySem.W.fnOf "_law_rng" "_law_rng" (defArgs s__law_rng) (defBody s__law_rng) (defScope s__law_rng) .none kV__law_rng dc__law_rng pm__law_rng an__law_rng cd__law_rng ct__law_rng,
    F__law_rng := fun_mk (st := s__law_rng) l__law_rng c__law_rng k__law_rng,
    b__law_rng := (fun_mk (st := s__law_rng) l__law_rng c__law_rng k__law_rng).binds fun _ _ _ _ _ _ us hl => match us, hl with | [_, _], _ => rfl,
    g__law_draw := PySem.W.mg_of X G g__law_draw,
    f__law_draw := f__law_draw,
    d__law_draw := PySem.W.fnOf "_law_draw" "_law_draw" (defArgs s__law_draw) (defBody s__law_draw) (defScope s__law_draw) .none kV__law_draw dc__law_draw pm__law_draw an__law_draw cd__law_draw ct__law_draw,
    F__law_draw := fun_mk (st := s__law_draw) l__law_draw c__law_draw k__law_draw,
    b__law_draw := (fun_mk (st := s__law_draw) l__law_draw c__law_draw k__law_draw).binds fun _ _ _ _ _ _ us hl => match us, hl with | [_, _], _ => rfl,
    g__law_name := PySem.W.mg_of X G g__law_name,
    f__law_name := f__law_name,
    d__law_name := PySem.W.fnOf "_law_name" "_law_name" (defArgs s__law_name) (defBody s__law_name) (defScope s__law_name) .none kV__law_name dc__law_name pm__law_name an__law_name cd__law_name ct__law_name,
    F__law_name := fun_mk (st := s__law_name) l__law_name c__law_name k__law_name,
    b__law_name := (fun_mk (st := s__law_name) l__law_name c__law_name k__law_name).binds fun _ _ _ _ _ _ us hl => match us, hl with | [_, _], _ => rfl,
    g__law_names := PySem.W.mg_of X G g__law_names,
    f__law_names := f__law_names,
    d__law_names := PySem.W.fnOf "_law_names" "_law_names" (defArgs s__law_names) (defBody s__law_names) (defScope s__law_names) .none kV__law_names dc__law_names pm__law_names an__law_names cd__law_names ct__law_names,
    F__law_names := fun_mk (st := s__law_names) l__law_names c__law_names k__law_names,
    b__law_names := (fun_mk (st := s__law_names) l__law_names c__law_names k__law_names).binds fun _ _ _ _ _ _ us hl => match us, hl with | [_, _, _], _ => rfl,
    g__law_choice := PySem.W.mg_of X G g__law_choice,
    f__law_choice := f__law_choice,
    d__law_choice := PySem.W.fnOf "_law_choice" "_law_choice" (defArgs s__law_choice) (defBody s__law_choice) (defScope s__law_choice) .none kV__law_choice dc__law_choice pm__law_choice an__law_choice cd__law_choice ct__law_choice,
    F__law_choice := fun_mk (st := s__law_choice) l__law_choice c__law_choice k__law_choice,
    b__law_choice := (fun_mk (st := s__law_choice) l__law_choice c__law_choice k__law_choice).binds fun _ _ _ _ _ _ us hl => match us, hl with | [_, _], _ => rfl,
    g__law_plain_story := PySem.W.mg_of X G g__law_plain_story,
    f__law_plain_story := f__law_plain_story,
    d__law_plain_story := PySem.W.fnOf "_law_plain_story" "_law_plain_story" (defArgs s__law_plain_story) (defBody s__law_plain_story) (defScope s__law_plain_story) .none kV__law_plain_story dc__law_plain_story pm__law_plain_story an__law_plain_story cd__law_plain_story ct__law_plain_story,
    F__law_plain_story := fun_mk (st := s__law_plain_story) l__law_plain_story c__law_plain_story k__law_plain_story,
    b__law_plain_story := (fun_mk (st := s__law_plain_story) l__law_plain_story c__law_plain_story k__law_plain_story).binds fun _ _ _ _ _ _ us hl => match us, hl with | [_, _, _], _ => rfl,
    g__law_near := PySem.W.mg_of X G g__law_near,
    f__law_near := f__law_near,
    d__law_near := PySem.W.fnOf "_law_near" "_law_near" (defArgs s__law_near) (defBody s__law_near) (defScope s__law_near) .none kV__law_near dc__law_near pm__law_near an__law_near cd__law_near ct__law_near,
    F__law_near := fun_mk (st := s__law_near) l__law_near c__law_near k__law_near,
    b__law_near := (fun_mk (st := s__law_near) l__law_near c__law_near k__law_near).binds fun _ _ _ _ _ _ us hl => match us, hl with | [_, _], _ => rfl,
    g_is_integer := PySem.W.mg_of X G g_is_integer,
    f_is_integer := f_is_integer,
    d_is_integer := PySem.W.fnOf "is_integer" "is_integer" (defArgs s_is_integer) (defBody s_is_integer) (defScope s_is_integer) .none kV_is_integer dc_is_integer pm_is_integer an_is_integer cd_is_integer ct_is_integer,
    F_is_integer := fun_mk (st := s_is_integer) l_is_integer c_is_integer k_is_integer,
    b_is_integer := (fun_mk (st := s_is_integer) l_is_integer c_is_integer k_is_integer).binds fun _ _ _ _ _ _ us hl => match us, hl with | [_], _ => rfl,
    g_is_day := PySem.W.mg_of X G g_is_day,
    f_is_day := f_is_day,
    d_is_day := PySem.W.fnOf "is_day" "is_day" (defArgs s_is_day) (defBody s_is_day) (defScope s_is_day) .none kV_is_day dc_is_day pm_is_day an_is_day cd_is_day ct_is_day,
    F_is_day := fun_mk (st := s_is_day) l_is_day c_is_day k_is_day,
    b_is_day := (fun_mk (st := s_is_day) l_is_day c_is_day k_is_day).binds fun _ _ _ _ _ _ us hl => match us, hl with | [_], _ => rfl,
    g_is_stray := PySem.W.mg_of X G g_is_stray,
    f_is_stray := f_is_stray,
    d_is_stray := PySem.W.fnOf "is_stray" "is_stray" (defArgs s_is_stray) (defBody s_is_stray) (defScope s_is_stray) .none kV_is_stray dc_is_stray pm_is_stray an_is_stray cd_is_stray ct_is_stray,
    F_is_stray := fun_mk (st := s_is_stray) l_is_stray c_is_stray k_is_stray,
    b_is_stray := (fun_mk (st := s_is_stray) l_is_stray c_is_stray k_is_stray).binds fun _ _ _ _ _ _ us hl => match us, hl with | [_], _ => rfl,
    g_is_name := PySem.W.mg_of X G g_is_name,
    f_is_name := f_is_name,
    d_is_name := PySem.W.fnOf "is_name" "is_name" (defArgs s_is_name) (defBody s_is_name) (defScope s_is_name) .none kV_is_name dc_is_name pm_is_name an_is_name cd_is_name ct_is_name,
    F_is_name := fun_mk (st := s_is_name) l_is_name c_is_name k_is_name,
    b_is_name := (fun_mk (st := s_is_name) l_is_name c_is_name k_is_name).binds fun _ _ _ _ _ _ us hl => match us, hl with | [_], _ => rfl,
    g_are_strays := PySem.W.mg_of X G g_are_strays,
    f_are_strays := f_are_strays,
    d_are_strays := PySem.W.fnOf "are_strays" "are_strays" (defArgs s_are_strays) (defBody s_are_strays) (defScope s_are_strays) .none kV_are_strays dc_are_strays pm_are_strays an_are_strays cd_are_strays ct_are_strays,
    F_are_strays := fun_mk (st := s_are_strays) l_are_strays c_are_strays k_are_strays,
    b_are_strays := (fun_mk (st := s_are_strays) l_are_strays c_are_strays k_are_strays).binds fun _ _ _ _ _ _ us hl => match us, hl with | [_], _ => rfl,
    f_Story___init__ := f_Story___init__,
    d_Story___init__ := PySem.W.fnOf "__init__" "Story.__init__" (defArgs s_Story___init__) (defBody s_Story___init__) (defScope s_Story___init__) .none kV_Story___init__ dc_Story___init__ pm_Story___init__ an_Story___init__ cd_Story___init__ ct_Story___init__,
    F_Story___init__ := fun_mk (st := s_Story___init__) l_Story___init__ c_Story___init__ k_Story___init__,
    b_Story___init__ := (fun_mk (st := s_Story___init__) l_Story___init__ c_Story___init__ k_Story___init__).binds fun _ _ _ _ _ _ us hl => match us, hl with | [_, _, _], _ => rfl,
    mk_Story := ⟨mk_Story, a_Story___init__, i_Story___init__, kc_Story⟩,
    g__law_made := PySem.W.mg_of X G g__law_made,
    f__law_made := f__law_made,
    d__law_made := PySem.W.fnOf "_law_made" "_law_made" (defArgs s__law_made) (defBody s__law_made) (defScope s__law_made) .none kV__law_made dc__law_made pm__law_made an__law_made cd__law_made ct__law_made,
    F__law_made := fun_mk (st := s__law_made) l__law_made c__law_made k__law_made,
    b__law_made := (fun_mk (st := s__law_made) l__law_made c__law_made k__law_made).binds fun _ _ _ _ _ _ us hl => match us, hl with | [_], _ => rfl,
    pa_Story_days := pa_Story_days,
    p_Story_days := ⟨p1_Story_days, p2_Story_days, p3_Story_days, _, p4_Story_days⟩,
    f_Story_days := f_Story_days,
    d_Story_days := PySem.W.fnOf "days" "Story.days" (defArgs s_Story_days) (defBody s_Story_days) (defScope s_Story_days) .none kV_Story_days dc_Story_days pm_Story_days an_Story_days cd_Story_days ct_Story_days,
    F_Story_days := fun_mk (st := s_Story_days) l_Story_days c_Story_days k_Story_days,
    b_Story_days := (fun_mk (st := s_Story_days) l_Story_days c_Story_days k_Story_days).binds fun _ _ _ _ _ _ us hl => match us, hl with | [_], _ => rfl,
    pa_Story_strays := pa_Story_strays,
    p_Story_strays := ⟨p1_Story_strays, p2_Story_strays, p3_Story_strays, _, p4_Story_strays⟩,
    f_Story_strays := f_Story_strays,
    d_Story_strays := PySem.W.fnOf "strays" "Story.strays" (defArgs s_Story_strays) (defBody s_Story_strays) (defScope s_Story_strays) .none kV_Story_strays dc_Story_strays pm_Story_strays an_Story_strays cd_Story_strays ct_Story_strays,
    F_Story_strays := fun_mk (st := s_Story_strays) l_Story_strays c_Story_strays k_Story_strays,
    b_Story_strays := (fun_mk (st := s_Story_strays) l_Story_strays c_Story_strays k_Story_strays).binds fun _ _ _ _ _ _ us hl => match us, hl with | [_], _ => rfl,
    g__law_new_right := PySem.W.mg_of X G g__law_new_right,
    f__law_new_right := f__law_new_right,
    d__law_new_right := PySem.W.fnOf "_law_new_right" "_law_new_right" (defArgs s__law_new_right) (defBody s__law_new_right) (defScope s__law_new_right) .none kV__law_new_right dc__law_new_right pm__law_new_right an__law_new_right cd__law_new_right ct__law_new_right,
    F__law_new_right := fun_mk (st := s__law_new_right) l__law_new_right c__law_new_right k__law_new_right,
    b__law_new_right := (fun_mk (st := s__law_new_right) l__law_new_right c__law_new_right k__law_new_right).binds fun _ _ _ _ _ _ us hl => match us, hl with | [_], _ => rfl,
    g_day_text := PySem.W.mg_of X G g_day_text,
    f_day_text := f_day_text,
    d_day_text := PySem.W.fnOf "day_text" "day_text" (defArgs s_day_text) (defBody s_day_text) (defScope s_day_text) .none kV_day_text dc_day_text pm_day_text an_day_text cd_day_text ct_day_text,
    F_day_text := fun_mk (st := s_day_text) l_day_text c_day_text k_day_text,
    b_day_text := (fun_mk (st := s_day_text) l_day_text c_day_text k_day_text).binds fun _ _ _ _ _ _ us hl => match us, hl with | [_], _ => rfl,
    f_Story___str__ := f_Story___str__,
    d_Story___str__ := PySem.W.fnOf "__str__" "Story.__str__" (defArgs s_Story___str__) (defBody s_Story___str__) (defScope s_Story___str__) .none kV_Story___str__ dc_Story___str__ pm_Story___str__ an_Story___str__ cd_Story___str__ ct_Story___str__,
    F_Story___str__ := fun_mk (st := s_Story___str__) l_Story___str__ c_Story___str__ k_Story___str__,
    b_Story___str__ := (fun_mk (st := s_Story___str__) l_Story___str__ c_Story___str__ k_Story___str__).binds fun _ _ _ _ _ _ us hl => match us, hl with | [_], _ => rfl,
    str_Story := a_Story___str__,
    fn_Story___str__ := i_Story___str__,
    f_Story___eq__ := f_Story___eq__,
    d_Story___eq__ := PySem.W.fnOf "__eq__" "Story.__eq__" (defArgs s_Story___eq__) (defBody s_Story___eq__) (defScope s_Story___eq__) .none kV_Story___eq__ dc_Story___eq__ pm_Story___eq__ an_Story___eq__ cd_Story___eq__ ct_Story___eq__,
    F_Story___eq__ := fun_mk (st := s_Story___eq__) l_Story___eq__ c_Story___eq__ k_Story___eq__,
    b_Story___eq__ := (fun_mk (st := s_Story___eq__) l_Story___eq__ c_Story___eq__ k_Story___eq__).binds fun _ _ _ _ _ _ us hl => match us, hl with | [_, _], _ => rfl,
    eq_Story := fun Y e => ⟨by rw [e]; exact mo_Story, by rw [e]; exact ne_Story, by rw [e]; exact a_Story___eq__, by rw [e]; exact i_Story___eq__⟩,
    f_Story_concerns := f_Story_concerns,
    d_Story_concerns := PySem.W.fnOf "concerns" "Story.concerns" (defArgs s_Story_concerns) (defBody s_Story_concerns) (defScope s_Story_concerns) .none kV_Story_concerns dc_Story_concerns pm_Story_concerns an_Story_concerns cd_Story_concerns ct_Story_concerns,
    F_Story_concerns := fun_mk (st := s_Story_concerns) l_Story_concerns c_Story_concerns k_Story_concerns,
    b_Story_concerns := (fun_mk (st := s_Story_concerns) l_Story_concerns c_Story_concerns k_Story_concerns).binds fun _ _ _ _ _ _ us hl => match us, hl with | [_, _, _], _ => rfl,
    m_Story_concerns := ⟨a_Story_concerns, i_Story_concerns, k_Story_concerns⟩,
    f_Story___repr__ := f_Story___repr__,
    d_Story___repr__ := PySem.W.fnOf "__repr__" "Story.__repr__" (defArgs s_Story___repr__) (defBody s_Story___repr__) (defScope s_Story___repr__) .none kV_Story___repr__ dc_Story___repr__ pm_Story___repr__ an_Story___repr__ cd_Story___repr__ ct_Story___repr__,
    F_Story___repr__ := fun_mk (st := s_Story___repr__) l_Story___repr__ c_Story___repr__ k_Story___repr__,
    b_Story___repr__ := (fun_mk (st := s_Story___repr__) l_Story___repr__ c_Story___repr__ k_Story___repr__).binds fun _ _ _ _ _ _ us hl => match us, hl with | [_], _ => rfl,
    repr_Story := a_Story___repr__,
    fn_Story___repr__ := i_Story___repr__,
    f_InvalidStory___init__ := f_InvalidStory___init__,
    d_InvalidStory___init__ := PySem.W.ksFn "__init__" "InvalidStory.__init__" (defArgs s_InvalidStory___init__) (defBody s_InvalidStory___init__) (defScope s_InvalidStory___init__) .none kV_InvalidStory___init__ dc_InvalidStory___init__ pm_InvalidStory___init__ an_InvalidStory___init__ (.ref u_InvalidStory___init__) ct_InvalidStory___init__ w_InvalidStory___init__,
    b_InvalidStory___init__ := .all fun us hl => match us, hl with | [_, _], _ => rfl,
    u_InvalidStory___init__ := u_InvalidStory___init__,
    w_InvalidStory___init__ := w_InvalidStory___init__,
    E_InvalidStory___init__ := ⟨_, _, _, _, _, _, _, _, rfl, l_InvalidStory___init__, d_InvalidStory___init__⟩,
    ox_InvalidStory := ⟨⟨_, _, _, _, _, _, _, _, _, _, _, _, _, _, _, xc_InvalidStory___init__, xb_InvalidStory___init__⟩, xs_InvalidStory___init__, xe_InvalidStory___init__, xt_InvalidStory___init__, xk_InvalidStory___init__⟩,
    s_InvalidStory := ⟨⟨_, _, _, _, _, l_InvalidStory___init__, rfl, rfl⟩, ⟨_, _, _, _, _, _, k_InvalidStory___init__, v_InvalidStory___init__, pf_InvalidStory___init__⟩, ⟨_, _, _, ce_InvalidStory___init__⟩, su_InvalidStory___init__, ss_InvalidStory___init__, sv_InvalidStory___init__, st_InvalidStory___init__, sy_InvalidStory___init__, ⟨⟨_, _, _, _, _, _, _, _, _, _, _, _, _, _, _, xc_InvalidStory___init__, xb_InvalidStory___init__⟩, xs_InvalidStory___init__, xe_InvalidStory___init__, xt_InvalidStory___init__, xk_InvalidStory___init__⟩⟩,
    xi_InvalidStory := xi_InvalidStory___init__,
    xf_InvalidStory := xf_InvalidStory___init__,
    xn_InvalidStory_value := xn_InvalidStory_value,
    xn_InvalidStory_told_parts := xn_InvalidStory_told_parts,
    f_Story_require_alike := f_Story_require_alike,
    d_Story_require_alike := PySem.W.fnOf "require_alike" "Story.require_alike" (defArgs s_Story_require_alike) (defBody s_Story_require_alike) (defScope s_Story_require_alike) .none kV_Story_require_alike dc_Story_require_alike pm_Story_require_alike an_Story_require_alike cd_Story_require_alike ct_Story_require_alike,
    F_Story_require_alike := fun_mk (st := s_Story_require_alike) l_Story_require_alike c_Story_require_alike k_Story_require_alike,
    b_Story_require_alike := (fun_mk (st := s_Story_require_alike) l_Story_require_alike c_Story_require_alike k_Story_require_alike).binds fun _ _ _ _ _ _ us hl => match us, hl with | [_, _], _ => rfl,
    m_Story_require_alike := ⟨a_Story_require_alike, i_Story_require_alike, k_Story_require_alike⟩,
    f_Story_is_as_bad_as := f_Story_is_as_bad_as,
    d_Story_is_as_bad_as := PySem.W.fnOf "is_as_bad_as" "Story.is_as_bad_as" (defArgs s_Story_is_as_bad_as) (defBody s_Story_is_as_bad_as) (defScope s_Story_is_as_bad_as) .none kV_Story_is_as_bad_as dc_Story_is_as_bad_as pm_Story_is_as_bad_as an_Story_is_as_bad_as cd_Story_is_as_bad_as ct_Story_is_as_bad_as,
    F_Story_is_as_bad_as := fun_mk (st := s_Story_is_as_bad_as) l_Story_is_as_bad_as c_Story_is_as_bad_as k_Story_is_as_bad_as,
    b_Story_is_as_bad_as := (fun_mk (st := s_Story_is_as_bad_as) l_Story_is_as_bad_as c_Story_is_as_bad_as k_Story_is_as_bad_as).binds fun _ _ _ _ _ _ us hl => match us, hl with | [_, _], _ => rfl,
    m_Story_is_as_bad_as := ⟨a_Story_is_as_bad_as, i_Story_is_as_bad_as, k_Story_is_as_bad_as⟩,
    g__law_bad := PySem.W.mg_of X G g__law_bad,
    f__law_bad := f__law_bad,
    d__law_bad := PySem.W.fnOf "_law_bad" "_law_bad" (defArgs s__law_bad) (defBody s__law_bad) (defScope s__law_bad) .none kV__law_bad dc__law_bad pm__law_bad an__law_bad cd__law_bad ct__law_bad,
    F__law_bad := fun_mk (st := s__law_bad) l__law_bad c__law_bad k__law_bad,
    b__law_bad := (fun_mk (st := s__law_bad) l__law_bad c__law_bad k__law_bad).binds fun _ _ _ _ _ _ us hl => match us, hl with | [_, _], _ => rfl,
    f_Story_melted := f_Story_melted,
    d_Story_melted := PySem.W.fnOf "melted" "Story.melted" (defArgs s_Story_melted) (defBody s_Story_melted) (defScope s_Story_melted) .none kV_Story_melted dc_Story_melted pm_Story_melted an_Story_melted cd_Story_melted ct_Story_melted,
    F_Story_melted := fun_mk (st := s_Story_melted) l_Story_melted c_Story_melted k_Story_melted,
    b_Story_melted := (fun_mk (st := s_Story_melted) l_Story_melted c_Story_melted k_Story_melted).binds fun _ _ _ _ _ _ us hl => match us, hl with | [_, _], _ => rfl,
    m_Story_melted := ⟨a_Story_melted, i_Story_melted, k_Story_melted⟩,
    f_Story___len__ := f_Story___len__,
    d_Story___len__ := PySem.W.fnOf "__len__" "Story.__len__" (defArgs s_Story___len__) (defBody s_Story___len__) (defScope s_Story___len__) .none kV_Story___len__ dc_Story___len__ pm_Story___len__ an_Story___len__ cd_Story___len__ ct_Story___len__,
    F_Story___len__ := fun_mk (st := s_Story___len__) l_Story___len__ c_Story___len__ k_Story___len__,
    b_Story___len__ := (fun_mk (st := s_Story___len__) l_Story___len__ c_Story___len__ k_Story___len__).binds fun _ _ _ _ _ _ us hl => match us, hl with | [_], _ => rfl,
    len_Story := a_Story___len__,
    fn_Story___len__ := i_Story___len__,
    g__law_pairs_right := PySem.W.mg_of X G g__law_pairs_right,
    f__law_pairs_right := f__law_pairs_right,
    d__law_pairs_right := PySem.W.fnOf "_law_pairs_right" "_law_pairs_right" (defArgs s__law_pairs_right) (defBody s__law_pairs_right) (defScope s__law_pairs_right) .none kV__law_pairs_right dc__law_pairs_right pm__law_pairs_right an__law_pairs_right cd__law_pairs_right ct__law_pairs_right,
    F__law_pairs_right := fun_mk (st := s__law_pairs_right) l__law_pairs_right c__law_pairs_right k__law_pairs_right,
    b__law_pairs_right := (fun_mk (st := s__law_pairs_right) l__law_pairs_right c__law_pairs_right k__law_pairs_right).binds fun _ _ _ _ _ _ us hl => match us, hl with | [_], _ => rfl,
    g__law_free := PySem.W.mg_of X G g__law_free,
    f__law_free := f__law_free,
    d__law_free := PySem.W.fnOf "_law_free" "_law_free" (defArgs s__law_free) (defBody s__law_free) (defScope s__law_free) .none kV__law_free dc__law_free pm__law_free an__law_free cd__law_free ct__law_free,
    F__law_free := fun_mk (st := s__law_free) l__law_free c__law_free k__law_free,
    b__law_free := (fun_mk (st := s__law_free) l__law_free c__law_free k__law_free).binds fun _ _ _ _ _ _ us hl => match us, hl with | [_], _ => rfl,
    g__law_refused := PySem.W.mg_of X G g__law_refused,
    f__law_refused := f__law_refused,
    d__law_refused := PySem.W.fnOf "_law_refused" "_law_refused" (defArgs s__law_refused) (defBody s__law_refused) (defScope s__law_refused) .none kV__law_refused dc__law_refused pm__law_refused an__law_refused cd__law_refused ct__law_refused,
    F__law_refused := fun_mk (st := s__law_refused) l__law_refused c__law_refused k__law_refused,
    b__law_refused := (fun_mk (st := s__law_refused) l__law_refused c__law_refused k__law_refused).binds fun _ _ _ _ _ _ us hl => match us, hl with | [_, _, _], _ => rfl,
    g__law_refusals_right := PySem.W.mg_of X G g__law_refusals_right,
    f__law_refusals_right := f__law_refusals_right,
    d__law_refusals_right := PySem.W.fnOf "_law_refusals_right" "_law_refusals_right" (defArgs s__law_refusals_right) (defBody s__law_refusals_right) (defScope s__law_refusals_right) .none kV__law_refusals_right dc__law_refusals_right pm__law_refusals_right an__law_refusals_right cd__law_refusals_right ct__law_refusals_right,
    F__law_refusals_right := fun_mk (st := s__law_refusals_right) l__law_refusals_right c__law_refusals_right k__law_refusals_right,
    b__law_refusals_right := (fun_mk (st := s__law_refusals_right) l__law_refusals_right c__law_refusals_right k__law_refusals_right).binds fun _ _ _ _ _ _ us hl => match us, hl with | [_, _], _ => rfl,
    g_law := PySem.W.mg_of X G g_law,
    f_law := fa,
    d_law := PySem.W.fnOf "law" "law" (defArgs s_law) (defBody s_law) (defScope s_law) .none kV_law dc_law pm_law an_law cd_law ct_law,
    F_law := fun_mk (st := s_law) l_law c_law k_law,
    b_law := (fun_mk (st := s_law) l_law c_law k_law).binds fun _ _ _ _ _ _ us hl => match us, hl with | [_], _ => rfl }, rfl, rfl, rfl⟩
  refine ⟨PySem.W.fnOf "law" "law" (defArgs s_law) (defBody s_law) (defScope s_law) .none kV_law dc_law pm_law an_law cd_law ct_law, mkB K [("Story", C_Story)] [("Story", (["own_days", "own_strays"] : List Str))] [("InvalidStory", C_InvalidStory)] xls subs, rfl, fun s u => .of_eq rfl, fun base _ _ => ?_⟩
  obtain ⟨t, e1, e2, e3⟩ := T base
  have := ok_law t
  rw [e1, e2, e3] at this
  exact this
end Mine

open PySem PySem.W PyProof.Rows in
set_option maxRecDepth 100000 in
set_option maxHeartbeats 0 in
theorem PySem.Challenge.cw_stillsure_k36_stories_at_least_as_bad_holds : PySem.Challenge.rw_stillsure_k36_stories_at_least_as_bad.Holds := by
  w_on; o_law; k_head; (case hw => w_witness2)
  k_fill
  refine PM.walk (l := PySem.Challenge.rw_stillsure_k36_stories_at_least_as_bad) (n := 63) (k := 14) (x := "_law_script") (g := PM.fn1 Mine.m_law) rfl (by decide) rfl ⟨⟨rfl, by decide, by decide⟩, rfl⟩ (fun w h Y => PySem.W.kIn_of Y) ?F ?LAW
  case LAW => exact Mine.law_holds
  case F =>
    intro w mg fa h KX G hmg
    refine' Mine.all_mk KX G hmg ?c_LAST_DAY ?c_LETTERS ?c_MOST_LETTERS ?c_NEVER ?c_NOTHING ?z_abs ?z_all ?z_any ?z_bool ?z_dict ?z_divmod ?z_int ?z_isinstance ?z_len ?z_list ?z_max ?z_min ?z_range ?z_sorted ?z_str ?z_super ?z_tuple ?z_zip ?g_Story ?g_InvalidStory ?h_bok ?h_xok ?g__law_rng ?l__law_rng ?c__law_rng ?k__law_rng ?g__law_draw ?l__law_draw ?c__law_draw ?k__law_draw ?g__law_name ?l__law_name ?c__law_name ?k__law_name ?g__law_names ?l__law_names ?c__law_names ?k__law_names ?g__law_choice ?l__law_choice ?c__law_choice ?k__law_choice ?g__law_plain_story ?l__law_plain_story ?c__law_plain_story ?k__law_plain_story ?g__law_near ?l__law_near ?c__law_near ?k__law_near ?g_is_integer ?l_is_integer ?c_is_integer ?k_is_integer ?g_is_day ?l_is_day ?c_is_day ?k_is_day ?g_is_stray ?l_is_stray ?c_is_stray ?k_is_stray ?g_is_name ?l_is_name ?c_is_name ?k_is_name ?g_are_strays ?l_are_strays ?c_are_strays ?k_are_strays ?a_Story___init__ ?i_Story___init__ ?l_Story___init__ ?c_Story___init__ ?k_Story___init__ ?mk_Story ?kc_Story ?g__law_made ?l__law_made ?c__law_made ?k__law_made ?p1_Story_days ?p2_Story_days ?p3_Story_days ?p4_Story_days ?l_Story_days ?c_Story_days ?k_Story_days ?p1_Story_strays ?p2_Story_strays ?p3_Story_strays ?p4_Story_strays ?l_Story_strays ?c_Story_strays ?k_Story_strays ?g__law_new_right ?l__law_new_right ?c__law_new_right ?k__law_new_right ?g_day_text ?l_day_text ?c_day_text ?k_day_text ?a_Story___str__ ?i_Story___str__ ?l_Story___str__ ?c_Story___str__ ?k_Story___str__ ?a_Story___eq__ ?i_Story___eq__ ?l_Story___eq__ ?c_Story___eq__ ?k_Story___eq__ ?mo_Story ?ne_Story ?a_Story_concerns ?i_Story_concerns ?l_Story_concerns ?c_Story_concerns ?k_Story_concerns ?a_Story___repr__ ?i_Story___repr__ ?l_Story___repr__ ?c_Story___repr__ ?k_Story___repr__ ?xi_InvalidStory___init__ ?xf_InvalidStory___init__ ?l_InvalidStory___init__ ?d_InvalidStory___init__ ?k_InvalidStory___init__ ?v_InvalidStory___init__ ?pf_InvalidStory___init__ ?ce_InvalidStory___init__ ?su_InvalidStory___init__ ?ss_InvalidStory___init__ ?sv_InvalidStory___init__ ?st_InvalidStory___init__ ?sy_InvalidStory___init__ ?xc_InvalidStory___init__ ?xb_InvalidStory___init__ ?xs_InvalidStory___init__ ?xe_InvalidStory___init__ ?xt_InvalidStory___init__ ?xk_InvalidStory___init__ ?xn_InvalidStory_value ?xn_InvalidStory_told_parts ?a_Story_require_alike ?i_Story_require_alike ?l_Story_require_alike ?c_Story_require_alike ?k_Story_require_alike ?a_Story_is_as_bad_as ?i_Story_is_as_bad_as ?l_Story_is_as_bad_as ?c_Story_is_as_bad_as ?k_Story_is_as_bad_as ?g__law_bad ?l__law_bad ?c__law_bad ?k__law_bad ?a_Story_melted ?i_Story_melted ?l_Story_melted ?c_Story_melted ?k_Story_melted ?a_Story___len__ ?i_Story___len__ ?l_Story___len__ ?c_Story___len__ ?k_Story___len__ ?g__law_pairs_right ?l__law_pairs_right ?c__law_pairs_right ?k__law_pairs_right ?g__law_free ?l__law_free ?c__law_free ?k__law_free ?g__law_refused ?l__law_refused ?c__law_refused ?k__law_refused ?g__law_refusals_right ?l__law_refusals_right ?c__law_refusals_right ?k__law_refusals_right ?g_law ?l_law ?c_law ?k_law
    (case c_LAST_DAY => k_is)
    (case c_LETTERS => k_is)
    (case c_MOST_LETTERS => k_is)
    (case c_NEVER => k_is)
    (case c_NOTHING => k_is)
    (case z_abs => k_is)
    (case z_all => k_is)
    (case z_any => k_is)
    (case z_bool => k_is)
    (case z_dict => k_is)
    (case z_divmod => k_is)
    (case z_int => k_is)
    (case z_isinstance => k_is)
    (case z_len => k_is)
    (case z_list => k_is)
    (case z_max => k_is)
    (case z_min => k_is)
    (case z_range => k_is)
    (case z_sorted => k_is)
    (case z_str => k_is)
    (case z_super => k_is)
    (case z_tuple => k_is)
    (case z_zip => k_is)
    (case g_Story => k_is)
    (case g_InvalidStory => k_is)
    (case h_bok => kernel_rfl)
    (case h_xok => kernel_rfl)
    (case g__law_rng => k_is)
    (case l__law_rng => k_is)
    (case c__law_rng => k_is)
    (case k__law_rng => k_is)
    (case g__law_draw => k_is)
    (case l__law_draw => k_is)
    (case c__law_draw => k_is)
    (case k__law_draw => k_is)
    (case g__law_name => k_is)
    (case l__law_name => k_is)
    (case c__law_name => k_is)
    (case k__law_name => k_is)
    (case g__law_names => k_is)
    (case l__law_names => k_is)
    (case c__law_names => k_is)
    (case k__law_names => k_is)
    (case g__law_choice => k_is)
    (case l__law_choice => k_is)
    (case c__law_choice => k_is)
    (case k__law_choice => k_is)
    (case g__law_plain_story => k_is)
    (case l__law_plain_story => k_is)
    (case c__law_plain_story => k_is)
    (case k__law_plain_story => k_is)
    (case g__law_near => k_is)
    (case l__law_near => k_is)
    (case c__law_near => k_is)
    (case k__law_near => k_is)
    (case g_is_integer => k_is)
    (case l_is_integer => k_is)
    (case c_is_integer => k_is)
    (case k_is_integer => k_is)
    (case g_is_day => k_is)
    (case l_is_day => k_is)
    (case c_is_day => k_is)
    (case k_is_day => k_is)
    (case g_is_stray => k_is)
    (case l_is_stray => k_is)
    (case c_is_stray => k_is)
    (case k_is_stray => k_is)
    (case g_is_name => k_is)
    (case l_is_name => k_is)
    (case c_is_name => k_is)
    (case k_is_name => k_is)
    (case g_are_strays => k_is)
    (case l_are_strays => k_is)
    (case c_are_strays => k_is)
    (case k_are_strays => k_is)
    (case a_Story___init__ => k_is)
    (case i_Story___init__ => k_is)
    (case l_Story___init__ => k_is)
    (case c_Story___init__ => k_is)
    (case k_Story___init__ => k_is)
    (case mk_Story => k_is)
    (case kc_Story => k_is)
    (case g__law_made => k_is)
    (case l__law_made => k_is)
    (case c__law_made => k_is)
    (case k__law_made => k_is)
    (case p1_Story_days => k_is)
    (case p2_Story_days => k_is)
    (case p3_Story_days => k_is)
    (case p4_Story_days => k_is)
    (case l_Story_days => k_is)
    (case c_Story_days => k_is)
    (case k_Story_days => k_is)
    (case p1_Story_strays => k_is)
    (case p2_Story_strays => k_is)
    (case p3_Story_strays => k_is)
    (case p4_Story_strays => k_is)
    (case l_Story_strays => k_is)
    (case c_Story_strays => k_is)
    (case k_Story_strays => k_is)
    (case g__law_new_right => k_is)
    (case l__law_new_right => k_is)
    (case c__law_new_right => k_is)
    (case k__law_new_right => k_is)
    (case g_day_text => k_is)
    (case l_day_text => k_is)
    (case c_day_text => k_is)
    (case k_day_text => k_is)
    (case a_Story___str__ => k_is)
    (case i_Story___str__ => k_is)
    (case l_Story___str__ => k_is)
    (case c_Story___str__ => k_is)
    (case k_Story___str__ => k_is)
    (case a_Story___eq__ => k_is)
    (case i_Story___eq__ => k_is)
    (case l_Story___eq__ => k_is)
    (case c_Story___eq__ => k_is)
    (case k_Story___eq__ => k_is)
    (case mo_Story => k_is)
    (case ne_Story => k_is)
    (case a_Story_concerns => k_is)
    (case i_Story_concerns => k_is)
    (case l_Story_concerns => k_is)
    (case c_Story_concerns => k_is)
    (case k_Story_concerns => k_is)
    (case a_Story___repr__ => k_is)
    (case i_Story___repr__ => k_is)
    (case l_Story___repr__ => k_is)
    (case c_Story___repr__ => k_is)
    (case k_Story___repr__ => k_is)
    (case xi_InvalidStory___init__ => k_is)
    (case xf_InvalidStory___init__ => k_is)
    (case l_InvalidStory___init__ => k_is)
    (case d_InvalidStory___init__ => k_is)
    (case k_InvalidStory___init__ => k_is)
    (case v_InvalidStory___init__ => exact rfl)
    (case pf_InvalidStory___init__ => kernel_rfl)
    (case ce_InvalidStory___init__ => k_is)
    (case su_InvalidStory___init__ => k_is)
    (case ss_InvalidStory___init__ => ks_is)
    (case sv_InvalidStory___init__ => k_is)
    (case st_InvalidStory___init__ => kernel_rfl)
    (case sy_InvalidStory___init__ => k_is)
    (case xc_InvalidStory___init__ => k_is)
    (case xb_InvalidStory___init__ => kernel_rfl)
    (case xs_InvalidStory___init__ => k_is)
    (case xe_InvalidStory___init__ => k_is)
    (case xt_InvalidStory___init__ => k_is)
    (case xk_InvalidStory___init__ => k_is)
    (case xn_InvalidStory_value => k_is)
    (case xn_InvalidStory_told_parts => k_is)
    (case a_Story_require_alike => k_is)
    (case i_Story_require_alike => k_is)
    (case l_Story_require_alike => k_is)
    (case c_Story_require_alike => k_is)
    (case k_Story_require_alike => k_is)
    (case a_Story_is_as_bad_as => k_is)
    (case i_Story_is_as_bad_as => k_is)
    (case l_Story_is_as_bad_as => k_is)
    (case c_Story_is_as_bad_as => k_is)
    (case k_Story_is_as_bad_as => k_is)
    (case g__law_bad => k_is)
    (case l__law_bad => k_is)
    (case c__law_bad => k_is)
    (case k__law_bad => k_is)
    (case a_Story_melted => k_is)
    (case i_Story_melted => k_is)
    (case l_Story_melted => k_is)
    (case c_Story_melted => k_is)
    (case k_Story_melted => k_is)
    (case a_Story___len__ => k_is)
    (case i_Story___len__ => k_is)
    (case l_Story___len__ => k_is)
    (case c_Story___len__ => k_is)
    (case k_Story___len__ => k_is)
    (case g__law_pairs_right => k_is)
    (case l__law_pairs_right => k_is)
    (case c__law_pairs_right => k_is)
    (case k__law_pairs_right => k_is)
    (case g__law_free => k_is)
    (case l__law_free => k_is)
    (case c__law_free => k_is)
    (case k__law_free => k_is)
    (case g__law_refused => k_is)
    (case l__law_refused => k_is)
    (case c__law_refused => k_is)
    (case k__law_refused => k_is)
    (case g__law_refusals_right => k_is)
    (case l__law_refusals_right => k_is)
    (case c__law_refusals_right => k_is)
    (case k__law_refusals_right => k_is)
    (case g_law => k_is)
    (case l_law => k_is)
    (case c_law => k_is)
    (case k_law => k_is)
