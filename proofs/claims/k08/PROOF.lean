import PyProof.Rows.All
import Wide.All
import OpenK.AllK
import Wide.FinOn
import HandS.ForMost
import HandS.ForExc
import HandS.IsInst
import HandS.Deep
import HandS.TupAny
import HandS.Wide
import HandS.Flow
import HandS.Property
import HandS.ExcOwn
import HandS.WordsExc
import HandS.HeadHook2
import HandS.RaiseMore
import HandS.Codes
import HandS.Small
import HandS.SetTxtIn
import HandS.Style
import KE.SortData
import HandS.Lambda
import HandS.Iter
import HandS.Zip
import KE.DataMinMax
import KE.KRevSl
import HandS.TupSets
import HandS.Nested
import HandS.ExcInit
import KE.KExcSuper
import KE.KSuperObj
import KE.KTryMore
import HandS.ExcField
import HandS.HotCalls
import HandS.HeadHook1
import HandS.HeadHook4
import HandS.HeadEnd
import HandS.EndTab
import KE.KStateDown
import HandS.Head0
import HandS.Head1
import HandS.Head2
import PySem.Challenge.RW_lagtoll_k08_prices_multiplied
section
set_option Elab.async false
set_option linter.all false
set_option maxRecDepth 100000
set_option maxHeartbeats 4000000
/-! Lt, part 1: values, store, the monad, the combinators (a shallow semantics of the Python subset in use). -/
namespace Lt
open PySem L2

/-- the built-in types -/
inductive Ty where | non | bool | int | str | list | tuple | dict | set
  deriving DecidableEq, Inhabited
def Ty.nm : Ty → String
  | .non => "NoneType"
  | .bool => "bool"
  | .int => "int"
  | .str => "str"
  | .list => "list"
  | .tuple => "tuple"
  | .dict => "dict"
  | .set => "set"
inductive D where
  | non
  | bl (b : Bool)
  | int (i : Int)
  | str (x : Str)
  | tup (xs : List D)
  | ref (n : Nat)
  | ty (n : Ty)
  | glo (i : Nat)
  | kls (xs : List D)
  deriving Inhabited

inductive Cell where
  | lst (xs : List D)
  | fls (xs : List D)
  | ins (c : Nat) (fs : List (Nat × D))
  deriving Inhabited

abbrev Sto := List Cell
inductive R (α : Type) where
  | ok (a : α) (S : Sto)
  | exc (c : Nat) (fs : List (Nat × D)) (S : Sto)
  | no
abbrev M (α : Type) := Sto → R α
abbrev Env := List (Option D)
abbrev EE := Env → M D
abbrev BB := Env → M Bool

section
variable {α β : Type}
def ret (a : α) : M α := fun S => .ok a S
def no : M α := fun _ => .no
def bnd (m : M α) (k : α → M β) : M β := fun S => match m S with
  | .ok a S' => k a S'
  | .exc c fs S' => .exc c fs S'
  | .no => .no
def ofO (o : Option α) : M α := fun S => match o with
  | some a => .ok a S
  | none => .no
/-- a test that no unfolding goes into -/
theorem exStk : ∃ f : Bool → Bool, ∀ b, f b = b := ⟨id, fun _ => rfl⟩
noncomputable def stk : Bool → Bool := Classical.choose exStk
theorem stk_eq (b : Bool) : stk b = b := Classical.choose_spec exStk b
noncomputable def grd (c : Bool) (m : M α) : M α := fun S => match stk c with
  | true => m S
  | false => .no
end
theorem grd_tt {α : Type} (m : M α) (S : Sto) : grd true m S = m S := by
  unfold grd
  rw [stk_eq]
theorem grd_ff {α : Type} (m : M α) (S : Sto) : grd false m S = .no := by
  unfold grd
  rw [stk_eq]
/-- a new cell -/
def alc (c : Cell) : M D := fun S => .ok (.ref S.length) (S ++ [c])
def lod (n : Nat) : M Cell := fun S => match S[n]? with
  | some c => .ok c S
  | none => .no
def sto (n : Nat) (c : Cell) : M Unit := fun S => .ok () (S.set n c)
/-- the items of a list that is read -/
def lsO : Option Cell → Option (List D)
  | some (.lst xs) => some xs
  | some (.fls xs) => some xs
  | _ => none
def lsAt (n : Nat) : M (List D) := fun S => match lsO S[n]? with
  | some xs => .ok xs S
  | none => .no

/-- the largest length -/
def szL : Nat := 16777216

/-! ### data, by the store -/
def optMap {α β : Type} (f : α → Option β) : List α → Option (List β)
  | [] => some []
  | x :: xs => match f x, optMap f xs with
    | some y, some ys => some (y :: ys)
    | _, _ => none
/-- a value as the library's data (lists by content), so deep at most -/
def toP : Nat → Sto → D → Option PyData
  | 0, _, _ => none
  | _ + 1, _, .non => some .none
  | _ + 1, _, .bl b => some (.bool b)
  | _ + 1, _, .int i => some (.int i)
  | _ + 1, _, .str x => some (.str x)
  | n + 1, S, .tup xs => match optMap (toP n S) xs with
    | some ps => some (.tuple ps)
    | none => none
  | n + 1, S, .ref a => match lsO S[a]? with
    | some xs => (match optMap (toP n S) xs with
      | some ps => some (.list ps)
      | none => none)
    | none => none
  | _ + 1, _, _ => none
noncomputable def dataOf (x : D) : M PyData := fun S => match toP 64 S x with
  | some p => (match SeqAt.shaped p with
    | true => .ok p S
    | false => .no)
  | none => .no

/-! ### operators by values -/
inductive Op where | add | sub | mul | fdiv | mod | pow
inductive Cm where | eq | ne | lt | le | gt | ge | isn | notn | inn | nin

def mulOk (i j : Int) : Bool := (decide (-(2 ^ 64) < i) && decide (i < 2 ^ 64)) || (decide (-(2 ^ 64) < j) && decide (j < 2 ^ 64))
noncomputable def opB : Op → D → D → M D
  | .add, .int i, .int j => ret (.int (i + j))
  | .add, .str x, .str y => grd (decide (x.length + y.length ≤ szL)) (ret (.str (x ++ y)))
  | .add, .tup xs, .tup ys => grd (decide (xs.length + ys.length ≤ szL)) (ret (.tup (xs ++ ys)))
  | .add, .ref a, .ref b => bnd (lod a) fun c => bnd (lod b) fun d => match c, d with
    | .lst xs, .lst ys => grd (decide (xs.length + ys.length ≤ szL)) (alc (.lst (xs ++ ys)))
    | _, _ => no
  | .sub, .int i, .int j => ret (.int (i - j))
  | .mul, .int i, .int j => grd (mulOk i j) (ret (.int (i * j)))
  | .mul, .ref a, .int k => bnd (lod a) fun c => match c with
    | .lst xs => grd (decide (-(2 ^ 63) ≤ k) && decide (k < 2 ^ 63) && decide (xs.length * k.toNat ≤ szL)) (alc (.lst (List.replicate k.toNat xs).flatten))
    | _ => no
  | .fdiv, .int i, .int j => grd (decide (0 < j) && decide (j < 1073741824)) (ret (.int (i / j)))
  | .mod, .int i, .int j => grd (decide (0 < j)) (ret (.int (i % j)))
  | .pow, .int i, .int j => grd (decide (0 ≤ j) && decide (j ≤ 1000000) && decide (i.natAbs < 2 ^ 64)) (ret (.int (i ^ j.toNat)))
  | _, _, _ => no
def negD : D → M D
  | .int i => ret (.int (-i))
  | _ => no
noncomputable def eqD (x y : D) : M Bool := bnd (dataOf x) fun p => bnd (dataOf y) fun q => ret (PyData.eqv p q)
noncomputable def ltD (x y : D) : M Bool := bnd (dataOf x) fun p => bnd (dataOf y) fun q => grd (PySem.W.alike p q && !PyData.eqv p .none) (ret (PySem.W.dataLt p q))
/-- the one sign of a text -/
def sign1 (y : Str) : Option Nat := match y.cps.toList with
  | [c] => some c
  | _ => none
noncomputable def inD (x y : D) : M Bool := match y with
  | .ref a => bnd (dataOf x) fun p => bnd (dataOf (.ref a)) fun q => match q with
    | .list ds => ret (ds.any fun z => PyData.eqv z p)
    | _ => no
  | .tup ys => bnd (dataOf x) fun p => bnd (dataOf (.tup ys)) fun q => match q with
    | .tuple ds => ret (ds.any fun z => PyData.eqv z p)
    | _ => no
  | .str z => (match x with
    | .str y => bnd (ofO (sign1 y)) fun c => ret (decide (c ∈ z.cps.toList))
    | _ => no)
  | _ => no
def isNon : D → Bool
  | .non => true
  | _ => false
noncomputable def cmB : Cm → D → D → M Bool
  | .eq, x, y => eqD x y
  | .ne, x, y => bnd (eqD x y) fun b => ret (!b)
  | .lt, .int i, .int j => ret (stk (decide (i < j)))
  | .lt, .tup xs, .tup ys => ltD (.tup xs) (.tup ys)
  | .lt, .str x, .str y => ret (decide (x.cps.toList < y.cps.toList))
  | .le, .int i, .int j => ret (stk (decide (i ≤ j)))
  | .gt, .int i, .int j => ret (stk (decide (j < i)))
  | .ge, .int i, .int j => ret (stk (decide (j ≤ i)))
  | .isn, x, .non => ret (isNon x)
  | .notn, x, .non => ret (!isNon x)
  | .inn, x, y => inD x y
  | .nin, x, y => bnd (inD x y) fun b => ret (!b)
  | _, _, _ => no
/-- truth -/
noncomputable def truB : D → M Bool
  | .non => ret false
  | .bl b => ret b
  | .int i => ret (i != 0)
  | .str x => grd (decide (x.length ≤ szL)) (ret ((x.length : Int) != 0))
  | .tup xs => ret (!xs.isEmpty)
  | .ref n => bnd (lsAt n) fun xs => ret (!xs.isEmpty)
  | _ => no

/-! ### subscripts, slices -/
noncomputable def ixB : D → D → M D
  | .tup xs, .int i => ofO (L2.atI xs i)
  | .ref n, .int i => bnd (lsAt n) fun xs => ofO (L2.atI xs i)
  | .str z, .int i => grd (decide (z.length ≤ szL)) (bnd (ofO (L2.atI z.cps.toList i)) fun c => ret (.str ⟨#[c]⟩))
  | _, _ => no
def partB : Option D → M (Option Int)
  | none => ret none
  | some (.int i) => ret (some i)
  | _ => no
def cutD (xs : List D) (lo hi : Option Int) : List D := (xs.drop (HT.sIx xs.length 0 lo)).take (HT.sIx xs.length xs.length hi - HT.sIx xs.length 0 lo)
noncomputable def slB (x : D) (lo hi : Option Int) : M D := match x with
  | .tup xs => ret (.tup (cutD xs lo hi))
  | .ref n => bnd (lsAt n) fun xs => alc (.lst (cutD xs lo hi))
  | .kls xs => alc (.lst (cutD xs lo hi))
  | .str z => grd (decide (z.length ≤ szL)) (ret (.str (L2.cutS z lo hi)))
  | _ => no
end Lt

namespace Lt
open PySem L2
/-! ### expressions -/
def eLoc (i : Nat) : EE := fun η => match η[i]? with
  | some (some d) => ret d
  | _ => no
def eC (d : D) : EE := fun _ => ret d
def aL : List EE → Env → M (List D)
  | [], _ => ret []
  | f :: fs, η => bnd (f η) fun x => bnd (aL fs η) fun xs => ret (x :: xs)
def eTup (fs : List EE) : EE := fun η => bnd (aL fs η) fun xs => ret (.tup xs)
def eLst (fs : List EE) : EE := fun η => bnd (aL fs η) fun xs => alc (.lst xs)
noncomputable def eBin (o : Op) (f g : EE) : EE := fun η => bnd (f η) fun x => bnd (g η) fun y => opB o x y
def eNeg (f : EE) : EE := fun η => bnd (f η) negD
noncomputable def eCmp (o : Cm) (f g : EE) : EE := fun η => bnd (f η) fun x => bnd (g η) fun y => bnd (cmB o x y) fun b => ret (.bl b)
noncomputable def eChain (o o' : Cm) (f g h : EE) : EE := fun η => bnd (f η) fun x => bnd (g η) fun y => bnd (cmB o x y) fun b => match b with
  | true => bnd (h η) fun z => bnd (cmB o' y z) fun c => ret (.bl c)
  | false => ret (.bl false)
noncomputable def eAnd : List EE → EE
  | [] => fun _ => no
  | [f] => f
  | f :: g :: fs => fun η => bnd (f η) fun x => bnd (truB x) fun b => match b with
    | true => eAnd (g :: fs) η
    | false => ret x
noncomputable def eOr : List EE → EE
  | [] => fun _ => no
  | [f] => f
  | f :: g :: fs => fun η => bnd (f η) fun x => bnd (truB x) fun b => match b with
    | true => ret x
    | false => eOr (g :: fs) η
noncomputable def eNot (f : EE) : EE := fun η => bnd (f η) fun x => bnd (truB x) fun b => ret (.bl (!b))
def eIf (c : BB) (f g : EE) : EE := fun η => bnd (c η) fun b => match b with
  | true => f η
  | false => g η
noncomputable def eIx (f g : EE) : EE := fun η => bnd (f η) fun x => bnd (g η) fun y => ixB x y
/-- an optional part of a slice -/
def pO : Option EE → Env → M (Option Int)
  | none, _ => ret none
  | some f, η => bnd (f η) fun x => match x with
    | .int i => ret (some i)
    | _ => no
noncomputable def eSl (f : EE) (lo hi : Option EE) : EE := fun η => bnd (f η) fun x => bnd (pO lo η) fun i => bnd (pO hi η) fun j => slB x i j
/-! tests -/
noncomputable def bV (f : EE) : BB := fun η => bnd (f η) truB
noncomputable def bCmp (o : Cm) (f g : EE) : BB := fun η => bnd (f η) fun x => bnd (g η) fun y => cmB o x y
noncomputable def bChain (o o' : Cm) (f g h : EE) : BB := fun η => bnd (f η) fun x => bnd (g η) fun y => bnd (cmB o x y) fun b => match b with
  | true => bnd (h η) fun z => cmB o' y z
  | false => ret false
def bAnd : List BB → BB
  | [] => fun _ => no
  | [f] => f
  | f :: g :: fs => fun η => bnd (f η) fun b => match b with
    | true => bAnd (g :: fs) η
    | false => ret false
def bOr : List BB → BB
  | [] => fun _ => no
  | [f] => f
  | f :: g :: fs => fun η => bnd (f η) fun b => match b with
    | true => ret true
    | false => bOr (g :: fs) η
def bNot (f : BB) : BB := fun η => bnd (f η) fun b => ret (!b)
end Lt

end
section
set_option Elab.async false
set_option linter.all false
set_option maxRecDepth 100000
set_option maxHeartbeats 4000000
/-! Lt, part 2: how values and the store lie in the abstract heap; readings. -/
namespace Lt
noncomputable section
open PySem PySem.Spec PyProof.Rows L2

theorem pr_get {α β : Type} {F : α → β → Prop} : ∀ {l : List α} {m : List β} {i : Nat} {x : α}, Paired F l m → l[i]? = some x → ∃ y, m[i]? = some y ∧ F x y
  | _, _, _, _, .nil, e => by simp at e
  | _, _, 0, _, .cons r _, e => by simp at e; subst e; exact ⟨_, rfl, r⟩
  | _, _, i + 1, x, .cons _ t, e => by
    obtain ⟨u, h1, h2⟩ := pr_get (i := i) (x := x) t (by simpa using e)
    exact ⟨u, by simpa using h1, h2⟩
theorem pr_app {α β : Type} {F : α → β → Prop} : ∀ {l : List α} {m : List β} {l' : List α} {m' : List β}, Paired F l m → Paired F l' m' → Paired F (l ++ l') (m ++ m')
  | _, _, _, _, .nil, s => s
  | _, _, _, _, .cons r t, s => .cons r (pr_app t s)
theorem pr_take {α β : Type} {F : α → β → Prop} : ∀ {l : List α} {m : List β} (n : Nat), Paired F l m → Paired F (l.take n) (m.take n)
  | _, _, 0, _ => .nil
  | _, _, _ + 1, .nil => .nil
  | _, _, n + 1, .cons r t => .cons r (pr_take n t)
theorem pr_drop {α β : Type} {F : α → β → Prop} : ∀ {l : List α} {m : List β} (n : Nat), Paired F l m → Paired F (l.drop n) (m.drop n)
  | _, _, 0, r => r
  | _, _, _ + 1, .nil => .nil
  | _, _, n + 1, .cons _ t => pr_drop n t
theorem pr_set {α β : Type} {F : α → β → Prop} {x : α} {u : β} (r : F x u) : ∀ {l : List α} {m : List β} (i : Nat), Paired F l m → Paired F (l.set i x) (m.set i u)
  | _, _, _, .nil => .nil
  | _, _, 0, .cons _ t => .cons r t
  | _, _, i + 1, .cons q t => .cons q (pr_set r i t)
theorem pr_rep {α β : Type} {F : α → β → Prop} {l : List α} {m : List β} (r : Paired F l m) : ∀ n : Nat, Paired F (List.replicate n l).flatten (List.replicate n m).flatten
  | 0 => .nil
  | n + 1 => by
    rw [List.replicate_succ, List.replicate_succ, List.flatten_cons, List.flatten_cons]
    exact pr_app r (pr_rep r n)
theorem pr_dropLast {α β : Type} {F : α → β → Prop} {l : List α} {m : List β} (r : Paired F l m) : Paired F l.dropLast m.dropLast := by
  rw [List.dropLast_eq_take, List.dropLast_eq_take, r.length]
  exact pr_take _ r
theorem pr_rev {α β : Type} {F : α → β → Prop} : ∀ {l : List α} {m : List β}, Paired F l m → Paired F l.reverse m.reverse
  | _, _, .nil => .nil
  | _, _, .cons r t => by
    rw [List.reverse_cons, List.reverse_cons]
    exact pr_app (pr_rev t) (.cons r .nil)
theorem pr_erase {α β : Type} {F : α → β → Prop} : ∀ {l : List α} {m : List β} (i : Nat), Paired F l m → Paired F (l.eraseIdx i) (m.eraseIdx i)
  | _, _, _, .nil => .nil
  | _, _, 0, .cons _ t => t
  | _, _, i + 1, .cons r t => .cons r (pr_erase i t)

theorem nodup_at {α : Type} {N : List α} (hN : N.Nodup) {i j : Nat} {x : α} (a : N[i]? = some x) (b : N[j]? = some x) : i = j := by
  obtain ⟨h1, e1⟩ := List.getElem?_eq_some_iff.mp a
  obtain ⟨h2, e2⟩ := List.getElem?_eq_some_iff.mp b
  exact (List.getElem_inj hN).mp (e1.trans e2.symm)
/-- what a law's proof is over: the program, the heap's written part, the names of globals and attributes by their ids -/
structure GC where
  P : Program
  w : World
  K : PySem.W.Frag
  mg : Str → Option Value
  base : Heap
  gt : List Str
  ats : List Str
  atN : ats.Nodup
  gtN : gt.Nodup
  tabs : List (Addr × Str)
section
variable (G : GC) (ρ : List Addr) (H : Hp)
mutual
/-- a value of the semantics and one of the abstract heap -/
inductive Den : D → V → Prop
  | non : Den .non .non
  | bl (b : Bool) : Den (.bl b) (.bl b)
  | int (i : Int) : Den (.int i) (.int i)
  | str (x : Str) : Den (.str x) (.str x)
  | tup {xs : List D} {a : Addr} {vs : List V} : SqT G.K H a vs → Dens xs vs → Den (.tup xs) (.ref a)
  | ref {n : Nat} {a : Addr} : ρ[n]? = some a → Den (.ref n) (.ref a)
  | ty (n : Ty) : Den (.ty n) (.ty n.nm)
  | glo {i : Nat} {x : Str} {a : Addr} : G.gt[i]? = some x → G.mg x = some (.ref a) → Den (.glo i) (.ref a)
  | kls {xs : List D} {a : Addr} {vs : List V} : SqL G.K (fun _ => none) a vs → Dens xs vs → Den (.kls xs) (.ref a)
inductive Dens : List D → List V → Prop
  | nil : Dens [] []
  | cons {x : D} {v : V} {xs : List D} {vs : List V} : Den x v → Dens xs vs → Dens (x :: xs) (v :: vs)
end
variable {G ρ H}
theorem Dens.pr : ∀ {xs : List D} {vs : List V}, Dens G ρ H xs vs → Paired (Den G ρ H) xs vs
  | _, _, .nil => .nil
  | _, _, .cons r t => .cons r t.pr
theorem Dens.of : ∀ {xs : List D} {vs : List V}, Paired (Den G ρ H) xs vs → Dens G ρ H xs vs
  | _, _, .nil => .nil
  | _, _, .cons r t => .cons r (Dens.of t)
theorem Dens.length {xs : List D} {vs : List V} (h : Dens G ρ H xs vs) : xs.length = vs.length := Paired.length h.pr
end
theorem sqL_up {K : PySem.W.Frag} {H : Hp} {a : Addr} {vs : List V} (h : SqL K (fun _ => none) a vs) : SqL K H a vs := by
  rcases h with (h | ⟨o, h⟩) | h
  · cases h
  · cases h
  · exact .inr h
/-- the heap has grown: the cells known before are known, the tuples stand -/
structure Gr (G : GC) (ρ : List Addr) (H : Hp) (ρ' : List Addr) (H' : Hp) : Prop where
  pre : ∃ l, ρ' = ρ ++ l
  tup : ∀ a xs, SqT G.K H a xs → SqT G.K H' a xs
/-- nothing stands there, but maybe a table of code objects -/
def Emp (H : Hp) (a : Addr) : Prop := ∀ o, H a = some o → ∃ ps, o = .tbl ps
theorem Emp.of {H : Hp} {a : Addr} (h : H a = none) : Emp H a := fun o e => by rw [h] at e; cases e
theorem Emp.not {H : Hp} {a : Addr} {o : HO} (h : Emp H a) (e : H a = some o) (n : ∀ ps, o ≠ .tbl ps) : False := by
  obtain ⟨ps, z⟩ := h o e
  exact n ps z
/-- .. and what is not known is left alone -/
structure Grow (G : GC) (ρ : List Addr) (H : Hp) (ρ' : List Addr) (H' : Hp) : Prop extends Gr G ρ H ρ' H' where
  fr : ∀ a o, a ∉ ρ → H a = some o → (∀ ps, o ≠ .tbl ps) → H' a = some o
  new : ∀ a, a ∈ ρ' → a ∈ ρ ∨ Emp H a
theorem tbl_or (o : HO) : (∃ ps, o = .tbl ps) ∨ ∀ ps, o ≠ .tbl ps := by
  cases o with
  | tbl ps => exact .inl ⟨ps, rfl⟩
  | _ => exact .inr fun ps z => by cases z
section
variable {G : GC} {ρ ρ' ρ'' : List Addr} {H H' H'' : Hp}
theorem Grow.refl : Grow G ρ H ρ H := ⟨⟨⟨[], (List.append_nil _).symm⟩, fun _ _ h => h⟩, fun _ _ _ h _ => h, fun _ h => .inl h⟩
theorem Gr.refl : Gr G ρ H ρ H := ⟨⟨[], (List.append_nil _).symm⟩, fun _ _ h => h⟩
theorem Gr.trans (a : Gr G ρ H ρ' H') (b : Gr G ρ' H' ρ'' H'') : Gr G ρ H ρ'' H'' := by
  obtain ⟨⟨l, rfl⟩, h1⟩ := a
  obtain ⟨⟨m, rfl⟩, h2⟩ := b
  exact ⟨⟨l ++ m, (List.append_assoc _ _ _)⟩, fun a xs h => h2 a xs (h1 a xs h)⟩
theorem Grow.notin (g : Grow G ρ H ρ' H') {a : Addr} {o : HO} (h : a ∉ ρ) (e : H a = some o) (n : ∀ ps, o ≠ .tbl ps) : a ∉ ρ' := fun hm => by
  rcases g.new a hm with z | z
  · exact h z
  · exact z.not e n
theorem Grow.trans (a : Grow G ρ H ρ' H') (b : Grow G ρ' H' ρ'' H'') : Grow G ρ H ρ'' H'' := by
  refine ⟨⟨?_, fun c xs h => b.tup c xs (a.tup c xs h)⟩, fun c o h e n => b.fr c o (a.notin h e n) (a.fr c o h e n) n, fun c h => ?_⟩
  · obtain ⟨l, rfl⟩ := a.pre
    obtain ⟨m, rfl⟩ := b.pre
    exact ⟨l ++ m, (List.append_assoc _ _ _)⟩
  · by_cases hc : c ∈ ρ
    · exact .inl hc
    · refine .inr fun o e => ?_
      rcases tbl_or o with z | n
      · exact z
      · rcases b.new c h with z | z
        · exact absurd z (a.notin hc e n)
        · exact (z.not (a.fr c o hc e n) n).elim
theorem Gr.at_ (g : Gr G ρ H ρ' H') {n : Nat} {a : Addr} (h : ρ[n]? = some a) : ρ'[n]? = some a := by
  obtain ⟨⟨l, rfl⟩, _⟩ := g
  rw [List.getElem?_append_left (List.getElem?_eq_some_iff.mp h).1]
  exact h
mutual
theorem Den.mono0 (g : Gr G ρ H ρ' H') : ∀ {x : D} {v : V}, Den G ρ H x v → Den G ρ' H' x v
  | _, _, .non => .non
  | _, _, .bl b => .bl b
  | _, _, .int i => .int i
  | _, _, .str x => .str x
  | _, _, .tup h t => .tup (g.tup _ _ h) (Dens.mono0 g t)
  | _, _, .ref h => .ref (g.at_ h)
  | _, _, .ty n => .ty n
  | _, _, .glo h1 h2 => .glo h1 h2
  | _, _, .kls h d => .kls h (Dens.mono0 g d)
theorem Dens.mono0 (g : Gr G ρ H ρ' H') : ∀ {x : List D} {v : List V}, Dens G ρ H x v → Dens G ρ' H' x v
  | _, _, .nil => .nil
  | _, _, .cons r t => .cons (Den.mono0 g r) (Dens.mono0 g t)
end
theorem Grow.at_ (g : Grow G ρ H ρ' H') {n : Nat} {a : Addr} (h : ρ[n]? = some a) : ρ'[n]? = some a := g.toGr.at_ h
theorem Den.mono (g : Grow G ρ H ρ' H') {x : D} {v : V} (h : Den G ρ H x v) : Den G ρ' H' x v := h.mono0 g.toGr
theorem Dens.mono (g : Grow G ρ H ρ' H') {x : List D} {v : List V} (h : Dens G ρ H x v) : Dens G ρ' H' x v := h.mono0 g.toGr
end
/-- an object's attributes, in order -/
abbrev Flds (G : GC) (ρ : List Addr) (H : Hp) : List (Nat × D) → List (Str × V) → Prop := Paired fun p q => G.ats[p.1]? = some q.1 ∧ Den G ρ H p.2 q.2
/-- a cell and what stands at its address -/
def CellOk (G : GC) (ρ : List Addr) (H : Hp) : Cell → Addr → Prop
  | .lst xs, a => ∃ vs, H a = some (.lst vs) ∧ Dens G ρ H xs vs
  | .fls xs, a => ∃ o vs, H a = some (.frz o (.lst vs)) ∧ Dens G ρ H xs vs
  | .ins c fs, a => ∃ x ca dx gs, G.gt[c]? = some x ∧ G.mg x = some (.ref ca) ∧ H a = some (.ins ca dx gs) ∧ Flds G ρ H fs gs
structure Rel (G : GC) (ρ : List Addr) (H : Hp) (S : Sto) : Prop where
  len : ρ.length = S.length
  nd : ρ.Nodup
  cell : ∀ (n : Nat) (c : Cell) (a : Addr), S[n]? = some c → ρ[n]? = some a → CellOk G ρ H c a
  tab : LamX.Tabs G.tabs H
theorem tabs_upd {T : List (Addr × Str)} {H : Hp} {a : Addr} {o : HO} (t : LamX.Tabs T H) (h1 : ∀ ps, H a ≠ some (.tbl ps)) (h2 : ∀ q, H a ≠ some (LamX.CodeO a q)) : LamX.Tabs T (upd H a o) := fun p hp => by
  obtain ⟨ps, e1, e2, e3⟩ := t p hp
  refine ⟨ps, by rw [upd_ne (by rintro rfl; exact h1 _ e1)]; exact e1, e2, fun pos cv hc => ?_⟩
  obtain ⟨c, f1, f2⟩ := e3 pos cv hc
  exact ⟨c, f1, by rw [upd_ne (by rintro rfl; exact h2 _ f2)]; exact f2⟩
theorem codeO_lst {c : Addr} {q : Str} {xs : List V} : HO.lst xs ≠ LamX.CodeO c q := fun z => by unfold LamX.CodeO at z; cases z
theorem codeO_frz {c : Addr} {q : Str} {o : Obj} {u : HO} : HO.frz o u ≠ LamX.CodeO c q := fun z => by unfold LamX.CodeO at z; cases z
theorem codeO_ins {c : Addr} {q : Str} {C d : Addr} {fs : List (Str × V)} : HO.ins C d fs ≠ LamX.CodeO c q := fun z => by unfold LamX.CodeO at z; cases z
section
variable {G : GC} {ρ ρ' : List Addr} {H H' : Hp} {S : Sto}
theorem CellOk.there {c : Cell} {a : Addr} (h : CellOk G ρ H c a) : ∃ o, H a = some o := by
  cases c with
  | lst xs => obtain ⟨vs, h, _⟩ := h; exact ⟨_, h⟩
  | fls xs => obtain ⟨o, vs, h, _⟩ := h; exact ⟨_, h⟩
  | ins c fs => obtain ⟨x, ca, dx, gs, _, _, h, _⟩ := h; exact ⟨_, h⟩
theorem CellOk.notTup {c : Cell} {a : Addr} (h : CellOk G ρ H c a) : (∀ xs, H a ≠ some (.tup xs)) ∧ ∀ o xs, H a ≠ some (.frz o (.tup xs)) := by
  cases c with
  | lst xs => obtain ⟨vs, h, _⟩ := h; rw [h]; exact ⟨(fun _ z => by cases z), fun _ _ z => by cases z⟩
  | fls xs => obtain ⟨o, vs, h, _⟩ := h; rw [h]; exact ⟨(fun _ z => by cases z), fun _ _ z => by cases z⟩
  | ins c fs => obtain ⟨x, ca, dx, gs, _, _, h, _⟩ := h; rw [h]; exact ⟨(fun _ z => by cases z), fun _ _ z => by cases z⟩
theorem CellOk.notTab {c : Cell} {a : Addr} (h : CellOk G ρ H c a) : (∀ ps, H a ≠ some (.tbl ps)) ∧ ∀ q, H a ≠ some (LamX.CodeO a q) := by
  cases c with
  | lst xs => obtain ⟨vs, h, _⟩ := h; rw [h]; exact ⟨(fun _ z => by cases z), fun _ z => codeO_lst (Option.some.inj z)⟩
  | fls xs => obtain ⟨o, vs, h, _⟩ := h; rw [h]; exact ⟨(fun _ z => by cases z), fun _ z => codeO_frz (Option.some.inj z)⟩
  | ins c fs => obtain ⟨x, ca, dx, gs, _, _, h, _⟩ := h; rw [h]; exact ⟨(fun _ z => by cases z), fun _ z => codeO_ins (Option.some.inj z)⟩
theorem Flds.mono0 (g : Gr G ρ H ρ' H') {fs : List (Nat × D)} {gs : List (Str × V)} (h : Flds G ρ H fs gs) : Flds G ρ' H' fs gs := L2.Paired.mapP h fun _ _ ⟨a, b⟩ => ⟨a, b.mono0 g⟩
theorem Flds.mono (g : Grow G ρ H ρ' H') {fs : List (Nat × D)} {gs : List (Str × V)} (h : Flds G ρ H fs gs) : Flds G ρ' H' fs gs := h.mono0 g.toGr
/-- the same object, the heap grown -/
theorem CellOk.mono0 (g : Gr G ρ H ρ' H') {c : Cell} {a : Addr} (e : H' a = H a) (h : CellOk G ρ H c a) : CellOk G ρ' H' c a := by
  cases c with
  | lst xs => obtain ⟨vs, h, d⟩ := h; exact ⟨vs, e.trans h, d.mono0 g⟩
  | fls xs => obtain ⟨o, vs, h, d⟩ := h; exact ⟨o, vs, e.trans h, d.mono0 g⟩
  | ins c fs => obtain ⟨x, ca, dx, gs, h1, h2, h, d⟩ := h; exact ⟨x, ca, dx, gs, h1, h2, e.trans h, d.mono0 g⟩
theorem CellOk.mono (g : Grow G ρ H ρ' H') {c : Cell} {a : Addr} (e : H' a = H a) (h : CellOk G ρ H c a) : CellOk G ρ' H' c a := h.mono0 g.toGr e
theorem Rel.addr (r : Rel G ρ H S) {n : Nat} {c : Cell} (h : S[n]? = some c) : ∃ a, ρ[n]? = some a ∧ CellOk G ρ H c a := by
  have hn : n < ρ.length := by rw [r.len]; exact (List.getElem?_eq_some_iff.mp h).1
  exact ⟨ρ[n], List.getElem?_eq_getElem hn, r.cell n c _ h (List.getElem?_eq_getElem hn)⟩
theorem Rel.back (r : Rel G ρ H S) {n : Nat} {a : Addr} (h : ρ[n]? = some a) : ∃ c, S[n]? = some c ∧ CellOk G ρ H c a := by
  have hn : n < S.length := by rw [← r.len]; exact (List.getElem?_eq_some_iff.mp h).1
  exact ⟨S[n], List.getElem?_eq_getElem hn, r.cell n _ a (List.getElem?_eq_getElem hn) h⟩
theorem Rel.fresh (r : Rel G ρ H S) {p : Addr} (h : H p = none) : p ∉ ρ := fun hp => by
  obtain ⟨n, hn⟩ := List.getElem?_of_mem hp
  obtain ⟨c, _, k⟩ := r.back hn
  obtain ⟨o, e⟩ := k.there
  rw [h] at e; cases e
/-- more is known elsewhere -/
theorem grow_ext (h : ∀ b o, H b = some o → H' b = some o) : Grow G ρ H ρ H' := ⟨⟨⟨[], (List.append_nil _).symm⟩, fun a xs q => by
  rcases q with (q | ⟨o, q⟩) | q
  · exact .inl (.inl (h _ _ q))
  · exact .inl (.inr ⟨o, h _ _ q⟩)
  · exact .inr q⟩, fun a o _ e _ => h a o e, fun _ h => .inl h⟩
theorem grow_upd {p : Addr} {o : HO} (h : H p = none) : Grow G ρ H ρ (upd H p o) := grow_ext fun b u e => by
  rw [upd_ne (ne_of_none e h)]; exact e
theorem Rel.ext (r : Rel G ρ H S) (h : ∀ b o, H b = some o → H' b = some o) : Rel G ρ H' S := ⟨r.len, r.nd, fun n c a h1 h2 => by
  have k := r.cell n c a h1 h2
  obtain ⟨o, e⟩ := k.there
  exact k.mono (grow_ext h) (by rw [e, h _ _ e]), r.tab.ext h⟩
theorem Rel.upd_fresh (r : Rel G ρ H S) {p : Addr} {o : HO} (h : H p = none) : Rel G ρ (upd H p o) S := r.ext fun b u e => by
  rw [upd_ne (ne_of_none e h)]; exact e
theorem Grow.push (g : Grow G ρ H ρ' H') (p : Addr) (hp : p ∈ ρ ∨ Emp H p) : Grow G ρ H (ρ' ++ [p]) H' := by
  obtain ⟨⟨⟨m, rfl⟩, h⟩, h2, h3⟩ := g
  refine ⟨⟨⟨m ++ [p], List.append_assoc _ _ _⟩, h⟩, h2, fun a ha => ?_⟩
  rcases List.mem_append.mp ha with z | z
  · exact h3 a z
  · have e : a = p := by simpa using z
    rw [e]; exact hp
/-- a new cell -/
theorem Rel.alc (r : Rel G ρ H S) {p : Addr} {o : HO} {c : Cell} (h : H p = none) (k : CellOk G (ρ ++ [p]) (upd H p o) c p) : Rel G (ρ ++ [p]) (upd H p o) (S ++ [c]) := by
  have g : Grow G ρ H (ρ ++ [p]) (upd H p o) := (grow_upd h).push p (.inr (.of h))
  refine ⟨by simp [r.len], ?_, fun n d a h1 h2 => ?_, r.tab.ext fun b u e => by rw [upd_ne (ne_of_none e h)]; exact e⟩
  · rw [List.nodup_append]
    refine ⟨r.nd, by simp, fun a ha b hb => ?_⟩
    have e : b = p := by simpa using hb
    subst e
    rintro rfl
    exact r.fresh h ha
  · by_cases hn : n < S.length
    · rw [List.getElem?_append_left hn] at h1
      rw [List.getElem?_append_left (by rw [r.len]; exact hn)] at h2
      have q := r.cell n d a h1 h2
      obtain ⟨u, e⟩ := q.there
      exact q.mono g (upd_ne (ne_of_none e h))
    · have e1 : n = S.length := by
        have := (List.getElem?_eq_some_iff.mp h1).1
        simp at this
        omega
      subst e1
      rw [List.getElem?_append_right (Nat.le_refl _)] at h1
      rw [List.getElem?_append_right (by rw [r.len]; exact Nat.le_refl _)] at h2
      simp [r.len] at h1 h2
      subst h1; subst h2
      exact k
theorem Rel.last (r : Rel G ρ H S) (p : Addr) : (ρ ++ [p])[S.length]? = some p := by
  rw [← r.len, List.getElem?_append_right (Nat.le_refl _)]
  simp
/-- a cell is written -/
theorem grow_write {a : Addr} {o : HO} (hm : a ∈ ρ) (h1 : ∀ xs, H a ≠ some (.tup xs)) (h2 : ∀ u xs, H a ≠ some (.frz u (.tup xs))) : Grow G ρ H ρ (upd H a o) := ⟨⟨⟨[], (List.append_nil _).symm⟩, fun b xs q => by
  rcases q with (q | ⟨u, q⟩) | q
  · exact .inl (.inl (by rw [upd_ne (by rintro rfl; exact h1 _ q)]; exact q))
  · exact .inl (.inr ⟨u, by rw [upd_ne (by rintro rfl; exact h2 _ _ q)]; exact q⟩)
  · exact .inr q⟩, fun b o' hb e _ => by rw [upd_ne (by rintro rfl; exact hb hm)]; exact e, fun _ h => .inl h⟩
theorem Rel.sto (r : Rel G ρ H S) {n : Nat} {a : Addr} {o : HO} {c : Cell} (ha : ρ[n]? = some a) (k : CellOk G ρ (upd H a o) c a) : Rel G ρ (upd H a o) (S.set n c) := by
  obtain ⟨c0, h0, k0⟩ := r.back ha
  have g : Grow G ρ H ρ (upd H a o) := grow_write (List.mem_of_getElem? ha) k0.notTup.1 k0.notTup.2
  refine ⟨by simp [r.len], r.nd, fun m d b h1 h2 => ?_, tabs_upd r.tab k0.notTab.1 k0.notTab.2⟩
  by_cases e : n = m
  · subst e
    rw [ha] at h2; cases h2
    rw [List.getElem?_set_self (List.getElem?_eq_some_iff.mp h0).1] at h1
    cases h1
    exact k
  · rw [List.getElem?_set_ne e] at h1
    have q := r.cell m d b h1 h2
    refine q.mono g (upd_ne ?_)
    rintro rfl
    exact e (nodup_at r.nd ha h2)
/-- a list that is read -/
theorem Rel.list (r : Rel G ρ H S) {n : Nat} {a : Addr} {xs : List D} (ha : ρ[n]? = some a) (h : lsO S[n]? = some xs) : ∃ vs, SqL G.K H a vs ∧ Dens G ρ H xs vs := by
  obtain ⟨c, h0, k⟩ := r.back ha
  rw [h0] at h
  cases c with
  | lst ys =>
    have e : ys = xs := Option.some.inj h
    subst e
    obtain ⟨vs, h, d⟩ := k
    exact ⟨vs, SqL.of h, d⟩
  | fls ys =>
    have e : ys = xs := Option.some.inj h
    subst e
    obtain ⟨o, vs, h, d⟩ := k
    exact ⟨vs, .inl (.inr ⟨o, h⟩), d⟩
  | ins c fs => cases h
end
/-- the slots -/
structure EnvOk (G : GC) (ρ : List Addr) (H : Hp) (η : Env) (σ : L2.St) : Prop where
  len : η.length = σ.length
  val : ∀ (i : Nat) d, η[i]? = some (some d) → ∃ v, σ[i]? = some (some v) ∧ Den G ρ H d v
section
variable {G : GC} {ρ ρ' : List Addr} {H H' : Hp} {η : Env} {σ : L2.St}
theorem EnvOk.mono (e : EnvOk G ρ H η σ) (g : Grow G ρ H ρ' H') : EnvOk G ρ' H' η σ := ⟨e.len, fun i d h => by
  obtain ⟨v, h1, h2⟩ := e.val i d h
  exact ⟨v, h1, h2.mono g⟩⟩
theorem EnvOk.set (e : EnvOk G ρ H η σ) {d : D} {v : V} (r : Den G ρ H d v) (i : Nat) : EnvOk G ρ H (η.set i (some d)) (σ.set i (some v)) := ⟨by simp [e.len], fun j x h => by
  by_cases hj : i = j
  · subst hj
    have hi : i < η.length := by have := (List.getElem?_eq_some_iff.mp h).1; simpa using this
    rw [List.getElem?_set_self hi] at h
    cases h
    exact ⟨v, List.getElem?_set_self (by rw [← e.len]; exact hi), r⟩
  · rw [List.getElem?_set_ne hj] at h ⊢
    exact e.val j x h⟩
end
/-- an exception's own attributes -/
def ExcF (G : GC) (ρ : List Addr) (H : Hp) (fs : List (Nat × D)) (dx : Addr) : Prop := ∃ gs, H dx = some (.xd gs) ∧ Flds G ρ H fs gs
/-- what must follow, by the result -/
def Post {α β : Type} (G : GC) (Rv : List Addr → Hp → α → β → Prop) (W : Value → Option Addr → Hp → Prop) (ρ : List Addr) (H : Hp) (Q : β → Hp → Prop) : R α → Prop
  | .ok a S' => ∀ ρ' H' b, Grow G ρ H ρ' H' → Rel G ρ' H' S' → Rv ρ' H' a b → Q b H'
  | .exc c fs S' => ∀ ρ' H' x ca dx, Grow G ρ H ρ' H' → Rel G ρ' H' S' → G.gt[c]? = some x → G.mg x = some (.ref ca) → ExcF G ρ' H' fs dx → W (.ref ca) (some dx) H'
  | .no => False
section
variable {α β γ δ : Type} {G : GC} {Rv : List Addr → Hp → α → β → Prop} {Rw : List Addr → Hp → γ → δ → Prop} {W : Value → Option Addr → Hp → Prop} {ρ ρ' : List Addr} {H H' : Hp} {S : Sto}
theorem Post.grow {Q : β → Hp → Prop} {r : R α} (g : Grow G ρ H ρ' H') (h : Post G Rv W ρ H Q r) : Post G Rv W ρ' H' Q r := by
  cases r with
  | ok a S' => exact fun ρ2 H2 b g2 => h ρ2 H2 b (g.trans g2)
  | exc c fs S' => exact fun ρ2 H2 x ca dx g2 => h ρ2 H2 x ca dx (g.trans g2)
  | no => exact h
theorem Post.mono {Q Q' : β → Hp → Prop} {r : R α} (h : Post G Rv W ρ H Q r) (k : ∀ b H', Q b H' → Q' b H') : Post G Rv W ρ H Q' r := by
  cases r with
  | ok a S' => exact fun ρ2 H2 b g2 r2 v2 => k b H2 (h ρ2 H2 b g2 r2 v2)
  | exc c fs S' => exact h
  | no => exact h
/-- in a row, the ground kept -/
theorem Post.bnd2 {Q : δ → Hp → Prop} {m : M α} {k : α → M γ} (g : Grow G ρ H ρ' H') (h : Post G Rw W ρ H Q (bnd m k S)) :
    Post G Rv W ρ' H' (fun b H1 => ∃ ρ1 S1 a, Grow G ρ' H' ρ1 H1 ∧ Rel G ρ1 H1 S1 ∧ Rv ρ1 H1 a b ∧ m S = .ok a S1 ∧ Post G Rw W ρ H Q (k a S1)) (m S) := by
  unfold Lt.bnd at h
  cases e : m S with
  | ok a S' =>
    rw [e] at h
    exact fun ρ2 H2 b g2 r2 v2 => ⟨ρ2, S', a, g2, r2, v2, rfl, h⟩
  | exc c fs S' =>
    rw [e] at h
    exact Post.grow (r := .exc c fs S') g h
  | no =>
    rw [e] at h
    exact h
/-- in a row -/
theorem Post.bnd {Q : δ → Hp → Prop} {m : M α} {k : α → M γ} (h : Post G Rw W ρ H Q (bnd m k S)) :
    Post G Rv W ρ H (fun b H1 => ∃ ρ1 S1 a, Grow G ρ H ρ1 H1 ∧ Rel G ρ1 H1 S1 ∧ Rv ρ1 H1 a b ∧ m S = .ok a S1 ∧ Post G Rw W ρ1 H1 Q (k a S1)) (m S) := by
  unfold Lt.bnd at h
  cases e : m S with
  | ok a S' =>
    rw [e] at h
    exact fun ρ2 H2 b g2 r2 v2 => ⟨ρ2, S', a, g2, r2, v2, rfl, h.grow g2⟩
  | exc c fs S' =>
    rw [e] at h
    exact h
  | no =>
    rw [e] at h
    exact h
end
/-- the reading of an expression, of a test, of arguments -/
abbrev TW := Value → Option Addr → L2.St → Hp → Prop
def T (G : GC) (W : TW) (f : EE) : TE := fun σ H Q => ∃ ρ η S, Rel G ρ H S ∧ EnvOk G ρ H η σ ∧ Post G (Den G) (fun c d h => W c d σ h) ρ H Q (f η S)
def TB (G : GC) (W : TW) (f : BB) : TT := fun σ H Q => ∃ ρ η S, Rel G ρ H S ∧ EnvOk G ρ H η σ ∧ Post G (fun _ _ (a b : Bool) => a = b) (fun c d h => W c d σ h) ρ H Q (f η S)
def TL (G : GC) (W : TW) (f : Env → M (List D)) : TA := fun σ H Q => ∃ ρ η S, Rel G ρ H S ∧ EnvOk G ρ H η σ ∧ Post G (Dens G) (fun c d h => W c d σ h) ρ H Q (f η S)
end
end Lt

end
section
set_option Elab.async false
set_option linter.all false
set_option maxRecDepth 100000
set_option maxHeartbeats 4000000
/-! Lt, part 3: the rules of expressions. -/
namespace Lt
noncomputable section
open PySem PySem.Spec PyProof.Rows L2

theorem pe_mono {X : Cx} {e : Expr} {t t' : TE} (h : PE X e t) (k : ∀ σ H Q, t' σ H Q → t σ H Q) : PE X e t' := ⟨fun pins s σ H Q I q => h.run pins s σ H Q I (k σ H Q q)⟩
theorem pt_mono {X : Cx} {e : Expr} {t t' : TT} (h : PT X e t) (k : ∀ σ H Q, t' σ H Q → t σ H Q) : PT X e t' := ⟨fun pins s σ H Q I q => h.run pins s σ H Q I (k σ H Q q)⟩
theorem pa_mono {X : Cx} {e : List Expr} {t t' : TA} (h : PA X e t) (k : ∀ σ H Q, t' σ H Q → t σ H Q) : PA X e t' := ⟨fun pos pins s σ H Q I q => h.run pos pins s σ H Q I (k σ H Q q)⟩
theorem pe_or2 {X : Cx} {e : Expr} {t t' : TE} (h : PE X e t) (h' : PE X e t') : PE X e (fun σ H Q => t σ H Q ∨ t' σ H Q) := ⟨fun pins s σ H Q I q => q.elim (h.run pins s σ H Q I) (h'.run pins s σ H Q I)⟩

/-- what a place in the code must have -/
structure Ok (G : GC) (X : Cx) (W : TW) : Prop where
  P : X.prog = G.P
  w : X.w = G.w
  K : X.K = G.K
  mg : X.mg = G.mg
  base : X.base = G.base
  calm : X.calm = true
  takes : Takes X W
  nd : X.N.Nodup
  units : X.A.units + 100 < cLine

section
variable {G : GC} {X : Cx} {W : TW} {pos : Pos}
theorem szL_eq : szL = sizeLine := by rw [sizeLine_eq]; rfl

/-! ### values -/
variable {ρ : List Addr} {H : Hp} {S : Sto} {W' : Value → Option Addr → Hp → Prop} {Q : VK}
abbrev PostD (G : GC) (W' : Value → Option Addr → Hp → Prop) (ρ : List Addr) (H : Hp) (Q : VK) (r : R D) : Prop := Post G (Den G) W' ρ H Q r
abbrev PostB (G : GC) (W' : Value → Option Addr → Hp → Prop) (ρ : List Addr) (H : Hp) (Q : Bool → Hp → Prop) (r : R Bool) : Prop := Post G (fun _ _ (a b : Bool) => a = b) W' ρ H Q r
theorem post_ret {d : D} {v : V} (r : Rel G ρ H S) (h : PostD G W' ρ H Q (ret d S)) (dn : Den G ρ H d v) : Q v H := h ρ H v Grow.refl r dn
theorem post_retB {b : Bool} {Q : Bool → Hp → Prop} (r : Rel G ρ H S) (h : PostB G W' ρ H Q (ret b S)) : Q b H := h ρ H b Grow.refl r rfl
/-- a new list, a new tuple -/
theorem post_alc {xs : List D} {vs : List V} (r : Rel G ρ H S) (h : PostD G W' ρ H Q (alc (.lst xs) S)) (d : Dens G ρ H xs vs) : ∀ p, H p = none → Q (.ref p) (upd H p (.lst vs)) := fun p hp => by
  have g : Grow G ρ H (ρ ++ [p]) (upd H p (.lst vs)) := (grow_upd hp).push p (.inr (.of hp))
  exact h (ρ ++ [p]) (upd H p (.lst vs)) (.ref p) g (r.alc hp ⟨vs, upd_same, d.mono g⟩) (.ref (r.last p))
theorem post_tup {xs : List D} {vs : List V} (r : Rel G ρ H S) (h : PostD G W' ρ H Q (ret (.tup xs) S)) (d : Dens G ρ H xs vs) : ∀ p, H p = none → Q (.ref p) (upd H p (.tup vs)) := fun p hp => by
  have g : Grow G ρ H ρ (upd H p (.tup vs)) := grow_upd hp
  exact h ρ (upd H p (.tup vs)) (.ref p) g (r.upd_fresh hp) (.tup (SqT.of upd_same) (d.mono g))
theorem den_tup {xs : List D} {v : V} (h : Den G ρ H (.tup xs) v) : ∃ a vs, v = .ref a ∧ SqT G.K H a vs ∧ Dens G ρ H xs vs := by
  cases h with
  | tup h d => exact ⟨_, _, rfl, h, d⟩
theorem dens_app {xs ys : List D} {vs ws : List V} (h : Dens G ρ H xs vs) (k : Dens G ρ H ys ws) : Dens G ρ H (xs ++ ys) (vs ++ ws) := .of (pr_app h.pr k.pr)
theorem dens_rep {xs : List D} {vs : List V} (h : Dens G ρ H xs vs) (n : Nat) : Dens G ρ H (List.replicate n xs).flatten (List.replicate n vs).flatten := .of (pr_rep h.pr n)
theorem dens_take {xs : List D} {vs : List V} (h : Dens G ρ H xs vs) (n : Nat) : Dens G ρ H (xs.take n) (vs.take n) := .of (pr_take n h.pr)
theorem dens_drop {xs : List D} {vs : List V} (h : Dens G ρ H xs vs) (n : Nat) : Dens G ρ H (xs.drop n) (vs.drop n) := .of (pr_drop n h.pr)
theorem grd_no {α : Type} {m : M α} {c : Bool} {β : Type} {Rv : List Addr → Hp → α → β → Prop} {Q : β → Hp → Prop} (h : Post G Rv W' ρ H Q (grd c m S)) : c = true ∧ Post G Rv W' ρ H Q (m S) := by
  unfold grd at h
  rw [stk_eq] at h
  cases c with
  | true => exact ⟨rfl, h⟩
  | false => exact h.elim
theorem bnd_lod {α : Type} {n : Nat} {k : Cell → M α} {β : Type} {Rv : List Addr → Hp → α → β → Prop} {Q : β → Hp → Prop} (h : Post G Rv W' ρ H Q (bnd (lod n) k S)) : ∃ c, S[n]? = some c ∧ Post G Rv W' ρ H Q (k c S) := by
  unfold bnd lod at h
  cases e : S[n]? with
  | none => rw [e] at h; exact h.elim
  | some c => rw [e] at h; exact ⟨c, rfl, h⟩
theorem bnd_lsAt {α : Type} {n : Nat} {k : List D → M α} {β : Type} {Rv : List Addr → Hp → α → β → Prop} {Q : β → Hp → Prop} (h : Post G Rv W' ρ H Q (bnd (lsAt n) k S)) : ∃ xs, lsO S[n]? = some xs ∧ Post G Rv W' ρ H Q (k xs S) := by
  unfold bnd lsAt at h
  cases e : lsO S[n]? with
  | none => rw [e] at h; exact h.elim
  | some c => rw [e] at h; exact ⟨c, rfl, h⟩
theorem bnd_ofO {α γ : Type} {o : Option γ} {k : γ → M α} {β : Type} {Rv : List Addr → Hp → α → β → Prop} {Q : β → Hp → Prop} (h : Post G Rv W' ρ H Q (bnd (ofO o) k S)) : ∃ x, o = some x ∧ Post G Rv W' ρ H Q (k x S) := by
  unfold bnd ofO at h
  cases o with
  | none => exact h.elim
  | some c => exact ⟨c, rfl, h⟩

/-! ### operators -/
def rMul : R2 := rI CMul fun i j => .int (i * j)
def rAddAll (K : PySem.W.Frag) : R2 := fun x y H Q => (((rI0 fun i j => .int (i + j)) x y H Q ∨ (∃ i j, x = .str i ∧ y = .str j ∧ i.length + j.length ≤ sizeLine ∧ Q (.str (i ++ j)) H)) ∨ rCatA K x y H Q) ∨ rCat x y H Q
theorem op_addAll : OpR X (binaryOp .Add) (rAddAll X.K) := OpR.or (OpR.or (OpR.or op_add op_add_str) op_catA) op_cat
def rMulAll : R2 := fun x y H Q => (rI CMul fun i j => .int (i * j)) x y H Q ∨ rRep x y H Q
theorem op_mulAll : OpR X (binaryOp .Mult) rMulAll := OpR.or op_mul op_rep
/-- the rule of each operator -/
def rOp (K : PySem.W.Frag) : Op → R2
  | .add => rAddAll K
  | .sub => rI0 fun i j => .int (i - j)
  | .mul => rMulAll
  | .fdiv => rI CDiv fun i j => .int (i / j)
  | .mod => rI (fun _ j => 0 < j) fun i j => .int (i % j)
  | .pow => rI CPow fun i j => .int (i ^ j.toNat)
def opOf : Op → Operator
  | .add => .Add
  | .sub => .Sub
  | .mul => .Mult
  | .fdiv => .FloorDiv
  | .mod => .Mod
  | .pow => .Pow
theorem op_all (o : Op) : OpR X (binaryOp (opOf o)) (rOp X.K o) := by
  cases o with
  | add => exact op_addAll
  | sub => exact op_sub
  | mul => exact op_mulAll
  | fdiv => exact op_fdiv
  | mod => exact op_mod
  | pow => exact op_pow
theorem post_no {α β : Type} {Rv : List Addr → Hp → α → β → Prop} {Q : β → Hp → Prop} {C : Prop} (h : Post G Rv W' ρ H Q (no S)) : C := h.elim
theorem opB_ok {o : Op} {x y : D} {v u : V} (r : Rel G ρ H S) (dx : Den G ρ H x v) (dy : Den G ρ H y u) (h : PostD G W' ρ H Q (opB o x y S)) : rOp G.K o v u H Q := by
  unfold opB at h
  split at h
  · cases dx; cases dy
    exact .inl (.inl (.inl ⟨_, _, rfl, rfl, post_ret r h (.int _)⟩))
  · cases dx; cases dy
    obtain ⟨c, h⟩ := grd_no h
    exact .inl (.inl (.inr ⟨_, _, rfl, rfl, by rw [← szL_eq]; exact of_decide_eq_true c, post_ret r h (.str _)⟩))
  · obtain ⟨c, h⟩ := grd_no h
    cases dx with
    | tup hx ex =>
      cases dy with
      | @tup ys b ws hy ey =>
        have c := of_decide_eq_true c
        refine .inl (.inr ⟨_, _, _, _, rfl, rfl, hx, hy, by rw [← szL_eq, ← ex.length, ← ey.length]; exact c, fun e => ?_, fun e e' => ?_, fun e e' p hp => ?_⟩)
        · subst e
          cases ex
          exact post_ret r h (.tup hy ey)
        · subst e'
          cases ey
          rw [List.append_nil] at h
          exact post_ret r h (.tup hx ex)
        · exact post_tup r h (dens_app ex ey) p hp
  · obtain ⟨c, hc, h⟩ := bnd_lod h
    obtain ⟨d, hd, h⟩ := bnd_lod h
    cases dx with
    | ref ha =>
      cases dy with
      | ref hb =>
        cases c with
        | lst xs =>
          cases d with
          | lst ys =>
            obtain ⟨c, h⟩ := grd_no h
            obtain ⟨vs, h1, d1⟩ := r.cell _ _ _ hc ha
            obtain ⟨ws, h2, d2⟩ := r.cell _ _ _ hd hb
            exact .inr ⟨_, _, _, _, rfl, rfl, h1, h2, by rw [← szL_eq, ← d1.length, ← d2.length]; exact of_decide_eq_true c, post_alc r h (dens_app d1 d2)⟩
          | _ => exact h.elim
        | _ => exact h.elim
  · cases dx; cases dy
    exact ⟨_, _, rfl, rfl, post_ret r h (.int _)⟩
  · cases dx; cases dy
    obtain ⟨c, h⟩ := grd_no h
    refine .inl ⟨_, _, rfl, rfl, ?_, post_ret r h (.int _)⟩
    simpa [mulOk, CMul] using c
  · obtain ⟨c, hc, h⟩ := bnd_lod h
    cases dx with
    | ref ha =>
      cases dy with
      | int k =>
        cases c with
        | lst xs =>
          obtain ⟨c, h⟩ := grd_no h
          obtain ⟨vs, h1, d1⟩ := r.cell _ _ _ hc ha
          simp only [Bool.and_eq_true, decide_eq_true_eq] at c
          exact .inr ⟨_, _, _, rfl, rfl, h1, c.1.1, c.1.2, by rw [← szL_eq, ← d1.length]; exact c.2, post_alc r h (dens_rep d1 _)⟩
        | _ => exact h.elim
  · cases dx; cases dy
    obtain ⟨c, h⟩ := grd_no h
    simp only [Bool.and_eq_true, decide_eq_true_eq] at c
    exact ⟨_, _, rfl, rfl, c, post_ret r h (.int _)⟩
  · cases dx; cases dy
    obtain ⟨c, h⟩ := grd_no h
    exact ⟨_, _, rfl, rfl, of_decide_eq_true c, post_ret r h (.int _)⟩
  · cases dx; cases dy
    obtain ⟨c, h⟩ := grd_no h
    simp only [Bool.and_eq_true, decide_eq_true_eq] at c
    exact ⟨_, _, rfl, rfl, ⟨c.1.1, c.1.2, c.2⟩, post_ret r h (.int _)⟩
  · exact h.elim

/-! ### data -/
theorem optMap_len {α β : Type} {f : α → Option β} : ∀ {l : List α} {m : List β}, optMap f l = some m → l.length = m.length
  | [], m, h => by
    cases h
    rfl
  | x :: xs, m, h => by
    unfold optMap at h
    split at h
    · rename_i y ys h1 h2
      cases h
      simp [optMap_len h2]
    · cases h
theorem dpAll_of {f : D → Option PyData} (ih : ∀ x p v, f x = some p → Den G ρ H x v → Dp G.K H v p) : ∀ {xs : List D} {ps : List PyData} {vs : List V}, optMap f xs = some ps → Dens G ρ H xs vs → DpAll G.K H vs ps
  | [], ps, vs, h, d => by
    cases h
    cases d
    exact .nil
  | x :: xs, ps, vs, h, d => by
    cases d with
    | cons d1 d2 =>
      unfold optMap at h
      split at h
      · rename_i y ys h1 h2
        cases h
        exact .cons (ih _ _ _ h1 d1) (dpAll_of ih h2 d2)
      · cases h
theorem toP_dp (r : Rel G ρ H S) : ∀ (n : Nat) (x : D) (p : PyData) (v : V), toP n S x = some p → Den G ρ H x v → Dp G.K H v p
  | 0, x, p, v, h, d => by cases h
  | n + 1, x, p, v, h, d => by
    cases d with
    | non => cases h; exact .non
    | bl b => cases h; exact .bl b
    | int i => cases h; exact .int i
    | str x => cases h; exact .str x
    | @tup xs a vs hs ds =>
      unfold toP at h
      split at h
      · rename_i ps h1
        cases h
        exact .tup hs (dpAll_of (toP_dp r n) h1 ds)
      · cases h
    | @ref m a ha =>
      unfold toP at h
      split at h
      · rename_i xs h1
        split at h
        · rename_i ps h2
          cases h
          obtain ⟨vs, hs, ds⟩ := r.list ha h1
          exact .lst hs (dpAll_of (toP_dp r n) h2 ds)
        · cases h
      · cases h
    | ty n => cases h
    | glo h1 h2 => cases h
    | kls h1 h2 => cases h
theorem bnd_dataOf {α : Type} {x : D} {v : V} {k : PyData → M α} {β : Type} {Rv : List Addr → Hp → α → β → Prop} {Q : β → Hp → Prop} (r : Rel G ρ H S) (d : Den G ρ H x v) (h : Post G Rv W' ρ H Q (bnd (dataOf x) k S)) :
    ∃ p, Dp G.K H v p ∧ SeqAt.shaped p = true ∧ Post G Rv W' ρ H Q (k p S) := by
  unfold bnd dataOf at h
  cases e : toP 64 S x with
  | none => rw [e] at h; exact h.elim
  | some p =>
    rw [e] at h
    cases sh : SeqAt.shaped p with
    | false => simp only [sh] at h; exact h.elim
    | true =>
      simp only [sh] at h
      exact ⟨p, toP_dp r _ _ _ _ e d, sh, h⟩

/-! ### comparisons -/
def rLtD (K : PySem.W.Frag) : R2 := fun x y H Q => ∃ d e, Dp K H x d ∧ Dp K H y e ∧ SeqAt.shaped d = true ∧ SeqAt.shaped e = true ∧ PySem.W.alike d e = true ∧ d ≠ .none ∧ Q (.bl (PySem.W.dataLt d e)) H
theorem op_ltD (hu : X.A.units + 64 < cLine) : OpR X (compareOp .Lt) (rLtD X.K) := by
  intro pins s σ H x y v u Q I rx ry h
  obtain ⟨d, e, hd, he, sd, se, al, nn, q⟩ := h
  obtain ⟨as, r1⟩ := Dp.reads I d x v hd rx
  obtain ⟨bs, r2⟩ := Dp.reads I e y u he ry
  have z := PySem.W.rcLt_alike d e X.A s v u as bs r1 r2 al nn (SeqAt.room_of_shaped sd hu)
  exact z X.prog X.w X.xe (EP X pins σ Q) ⟨.bl _, H, I, rfl, q⟩
def rInT (K : PySem.W.Frag) (neg : Bool) : R2 := fun x y H Q => ∃ d ds, Dp K H x d ∧ Dp K H y (.tuple ds) ∧ SeqAt.shaped d = true ∧ SeqAt.shaped (.tuple ds) = true ∧ Q (.bl (if neg then !ds.any fun z => PyData.eqv z d else ds.any fun z => PyData.eqv z d)) H
theorem op_inT (hu : X.A.units + 65 < cLine) : OpR X (compareOp .In) (rInT X.K false) := by
  intro pins s σ H x y v u Q I rx ry h
  obtain ⟨d, ds, hd, he, sd, se, q⟩ := h
  obtain ⟨as, r1⟩ := Dp.reads I d x v hd rx
  obtain ⟨bs, r2⟩ := Dp.reads I (.tuple ds) y u he ry
  exact SeqAt.in_tuple_reads r2 r1 (SeqAt.canLay_of_shaped se) (SeqAt.canLay_of_shaped sd) (room_in_shaped sd hu) ⟨.bl _, H, I, rfl, q⟩
theorem op_notInT (hu : X.A.units + 65 < cLine) : OpR X (compareOp .NotIn) (rInT X.K true) := by
  intro pins s σ H x y v u Q I rx ry h
  obtain ⟨d, ds, hd, he, sd, se, q⟩ := h
  obtain ⟨as, r1⟩ := Dp.reads I d x v hd rx
  obtain ⟨bs, r2⟩ := Dp.reads I (.tuple ds) y u he ry
  exact SeqAt.notIn_tuple_reads r2 r1 (SeqAt.canLay_of_shaped se) (SeqAt.canLay_of_shaped sd) (room_in_shaped sd hu) ⟨.bl _, H, I, rfl, q⟩
abbrev rLtS : R2 := fun x y H Q => ∃ i j, x = .str i ∧ y = .str j ∧ Q (.bl (decide (i.cps.toList < j.cps.toList))) H
abbrev rInC (neg : Bool) : R2 := fun x y H Q => ∃ (c : Nat) (z : Str), x = .str ⟨#[c]⟩ ∧ y = .str z ∧ Q (.bl (if neg then !decide (c ∈ z.cps.toList) else decide (c ∈ z.cps.toList))) H
theorem op_inC : OpR X (compareOp .In) (rInC false) := op_in_sign
theorem op_notInC : OpR X (compareOp .NotIn) (rInC true) := op_notIn_sign
def cmOf : Cm → CmpOp
  | .eq => .Eq
  | .ne => .NotEq
  | .lt => .Lt
  | .le => .LtE
  | .gt => .Gt
  | .ge => .GtE
  | .isn => .Is
  | .notn => .IsNot
  | .inn => .In
  | .nin => .NotIn
def rCm (K : PySem.W.Frag) : Cm → R2
  | .eq => rEqD K
  | .ne => rNeD K
  | .lt => fun x y H Q => ((rI0 fun i j => .bl (decide (i < j))) x y H Q ∨ rLtS x y H Q) ∨ rLtD K x y H Q
  | .le => rI0 fun i j => .bl (decide (i ≤ j))
  | .gt => rI0 fun i j => .bl (decide (j < i))
  | .ge => rI0 fun i j => .bl (decide (j ≤ i))
  | .isn => fun x y H Q => y = .non ∧ Q (.bl (decide (x = .non))) H
  | .notn => fun x y H Q => y = .non ∧ Q (.bl (!decide (x = .non))) H
  | .inn => fun x y H Q => (rInD K x y H Q ∨ rInT K false x y H Q) ∨ rInC false x y H Q
  | .nin => fun x y H Q => (rNotInD K x y H Q ∨ rInT K true x y H Q) ∨ rInC true x y H Q
theorem cm_all (hu : X.A.units + 100 < cLine) (o : Cm) : OpR X (compareOp (cmOf o)) (rCm X.K o) := by
  cases o with
  | eq => exact op_eqD (by omega)
  | ne => exact op_neD (by omega)
  | lt => exact OpR.or (OpR.or op_lt op_lt_str) (op_ltD (by omega))
  | le => exact op_le
  | gt => exact op_gt
  | ge => exact op_ge
  | isn => exact op_isN
  | notn => exact op_notN
  | inn => exact OpR.or (OpR.or (op_inD (by omega)) (op_inT (by omega))) op_inC
  | nin => exact OpR.or (OpR.or (op_notInD (by omega)) (op_notInT (by omega))) op_notInC
theorem str_one {y : Str} {c : Nat} (h : y.cps.toList = [c]) : y = ⟨#[c]⟩ := by
  obtain ⟨a⟩ := y
  obtain ⟨l⟩ := a
  have : l = [c] := h
  subst this
  rfl
theorem sign1_one {y : Str} {c : Nat} (h : sign1 y = some c) : y = ⟨#[c]⟩ := by
  unfold sign1 at h
  split at h
  · rename_i e
    cases h
    exact str_one e
  · cases h
theorem den_isNon {x : D} {v : V} (d : Den G ρ H x v) : isNon x = decide (v = .non) := by
  cases d <;> simp [isNon]
theorem eqv_none {p : PyData} (h : (!PyData.eqv p .none) = true) : p ≠ .none := by
  rintro rfl
  simp [PyData.eqv] at h
theorem eqD_ok {x y : D} {v u : V} {Q : Bool → Hp → Prop} (r : Rel G ρ H S) (dx : Den G ρ H x v) (dy : Den G ρ H y u) (h : PostB G W' ρ H Q (eqD x y S)) :
    ∃ d e, Dp G.K H v d ∧ Dp G.K H u e ∧ SeqAt.shaped d = true ∧ SeqAt.shaped e = true ∧ Q (PyData.eqv d e) H := by
  unfold eqD at h
  obtain ⟨p, h1, s1, h⟩ := bnd_dataOf r dx h
  obtain ⟨q, h2, s2, h⟩ := bnd_dataOf r dy h
  exact ⟨p, q, h1, h2, s1, s2, post_retB r h⟩
theorem bnd_eqD {α : Type} {x y : D} {v u : V} {k : Bool → M α} {β : Type} {Rv : List Addr → Hp → α → β → Prop} {Q : β → Hp → Prop} (r : Rel G ρ H S) (dx : Den G ρ H x v) (dy : Den G ρ H y u) (h : Post G Rv W' ρ H Q (bnd (eqD x y) k S)) :
    ∃ d e, Dp G.K H v d ∧ Dp G.K H u e ∧ SeqAt.shaped d = true ∧ SeqAt.shaped e = true ∧ Post G Rv W' ρ H Q (k (PyData.eqv d e) S) := by
  unfold eqD at h
  obtain ⟨p, h1, s1, h⟩ := bnd_dataOf r dx (by
    have e : bnd (bnd (dataOf x) fun p => bnd (dataOf y) fun q => ret (PyData.eqv p q)) k S = bnd (dataOf x) (fun p => bnd (bnd (dataOf y) fun q => ret (PyData.eqv p q)) k) S := by
      unfold bnd
      cases dataOf x S <;> rfl
    rw [e] at h
    exact h)
  obtain ⟨q, h2, s2, h⟩ := bnd_dataOf r dy (by
    have e : bnd (bnd (dataOf y) fun q => ret (PyData.eqv p q)) k S = bnd (dataOf y) (fun q => bnd (ret (PyData.eqv p q)) k) S := by
      unfold bnd
      cases dataOf y S <;> rfl
    rw [e] at h
    exact h)
  exact ⟨p, q, h1, h2, s1, s2, h⟩
theorem bnd_assoc {α β γ : Type} (m : M α) (k : α → M β) (l : β → M γ) : bnd (bnd m k) l = bnd m fun a => bnd (k a) l := by
  funext S
  unfold bnd
  cases m S <;> rfl
theorem bnd_ret {α β : Type} (a : α) (k : α → M β) : bnd (ret a) k = k a := rfl
theorem bnd_no {α β : Type} (k : α → M β) : bnd no k = no := rfl
theorem bnd_grd {α β : Type} (c : Bool) (m : M α) (k : α → M β) : bnd (grd c m) k = grd c (bnd m k) := by
  funext S
  unfold grd bnd
  rw [stk_eq]
  cases c <;> rfl
/-- membership -/
theorem inD_ok {x y : D} {v u : V} {Q : Bool → Hp → Prop} (r : Rel G ρ H S) (dx : Den G ρ H x v) (dy : Den G ρ H y u) (h : PostB G W' ρ H Q (inD x y S)) :
    (∃ d ds, Dp G.K H v d ∧ Dp G.K H u (.list ds) ∧ SeqAt.shaped d = true ∧ SeqAt.shaped (.list ds) = true ∧ Q (ds.any fun z => PyData.eqv z d) H) ∨
    (∃ d ds, Dp G.K H v d ∧ Dp G.K H u (.tuple ds) ∧ SeqAt.shaped d = true ∧ SeqAt.shaped (.tuple ds) = true ∧ Q (ds.any fun z => PyData.eqv z d) H) ∨
    (∃ (c : Nat) (z : Str), v = .str ⟨#[c]⟩ ∧ u = .str z ∧ Q (decide (c ∈ z.cps.toList)) H) := by
  unfold inD at h
  split at h
  · obtain ⟨p, h1, s1, h⟩ := bnd_dataOf r dx h
    obtain ⟨q, h2, s2, h⟩ := bnd_dataOf r dy h
    split at h
    · exact .inl ⟨_, _, h1, h2, s1, s2, post_retB r h⟩
    · exact h.elim
  · obtain ⟨p, h1, s1, h⟩ := bnd_dataOf r dx h
    obtain ⟨q, h2, s2, h⟩ := bnd_dataOf r dy h
    split at h
    · exact .inr (.inl ⟨_, _, h1, h2, s1, s2, post_retB r h⟩)
    · exact h.elim
  · split at h
    · obtain ⟨c, e, h⟩ := bnd_ofO h
      cases dx; cases dy
      rw [sign1_one e]
      exact .inr (.inr ⟨_, _, rfl, rfl, post_retB r h⟩)
    · exact h.elim
  · exact h.elim
theorem cmB_ok {o : Cm} {x y : D} {v u : V} {Q : Bool → Hp → Prop} (r : Rel G ρ H S) (dx : Den G ρ H x v) (dy : Den G ρ H y u) (h : PostB G W' ρ H Q (cmB o x y S)) :
    rCm G.K o v u H (fun z H' => ∃ b, z = .bl b ∧ Q b H') := by
  have neg : ∀ {m : M Bool}, PostB G W' ρ H Q (bnd m (fun b => ret (!b)) S) → PostB G W' ρ H (fun b H' => Q (!b) H') (m S) := fun {m} h => by
    refine Post.mono (Post.bnd (Rv := fun _ _ (a b : Bool) => a = b) h) fun b H' ⟨ρ1, S1, a, g, r1, e, _, p⟩ => ?_
    cases e
    exact post_retB r1 p
  unfold cmB at h
  split at h
  · obtain ⟨d, e, a1, a2, a3, a4, q⟩ := eqD_ok r dx dy h
    exact ⟨d, e, a1, a2, a3, a4, _, rfl, q⟩
  · obtain ⟨d, e, a1, a2, a3, a4, q⟩ := eqD_ok r dx dy (neg h)
    exact ⟨d, e, a1, a2, a3, a4, _, rfl, q⟩
  · cases dx; cases dy
    rw [stk_eq] at h
    exact .inl (.inl ⟨_, _, rfl, rfl, _, rfl, post_retB r h⟩)
  · unfold ltD at h
    obtain ⟨p, h1, s1, h⟩ := bnd_dataOf r dx h
    obtain ⟨q, h2, s2, h⟩ := bnd_dataOf r dy h
    obtain ⟨c, h⟩ := grd_no h
    simp only [Bool.and_eq_true] at c
    exact .inr ⟨p, q, h1, h2, s1, s2, c.1, eqv_none c.2, _, rfl, post_retB r h⟩
  · cases dx; cases dy
    exact .inl (.inr ⟨_, _, rfl, rfl, _, rfl, post_retB r h⟩)
  · cases dx; cases dy
    rw [stk_eq] at h
    exact ⟨_, _, rfl, rfl, _, rfl, post_retB r h⟩
  · cases dx; cases dy
    rw [stk_eq] at h
    exact ⟨_, _, rfl, rfl, _, rfl, post_retB r h⟩
  · cases dx; cases dy
    rw [stk_eq] at h
    exact ⟨_, _, rfl, rfl, _, rfl, post_retB r h⟩
  · cases dy
    rw [den_isNon dx] at h
    exact ⟨rfl, _, rfl, post_retB r h⟩
  · cases dy
    rw [den_isNon dx] at h
    exact ⟨rfl, _, rfl, post_retB r h⟩
  · rcases inD_ok r dx dy h with ⟨d, ds, a1, a2, a3, a4, q⟩ | ⟨d, ds, a1, a2, a3, a4, q⟩ | ⟨c, z, a1, a2, q⟩
    · exact .inl (.inl ⟨d, ds, a1, a2, a3, a4, _, rfl, q⟩)
    · exact .inl (.inr ⟨d, ds, a1, a2, a3, a4, _, rfl, q⟩)
    · exact .inr ⟨c, z, a1, a2, _, rfl, q⟩
  · rcases inD_ok r dx dy (neg h) with ⟨d, ds, a1, a2, a3, a4, q⟩ | ⟨d, ds, a1, a2, a3, a4, q⟩ | ⟨c, z, a1, a2, q⟩
    · exact .inl (.inl ⟨d, ds, a1, a2, a3, a4, _, rfl, q⟩)
    · exact .inl (.inr ⟨d, ds, a1, a2, a3, a4, _, rfl, q⟩)
    · exact .inr ⟨c, z, a1, a2, _, rfl, q⟩
  · exact h.elim
end
end
end Lt

end
section
set_option Elab.async false
set_option linter.all false
set_option maxRecDepth 100000
set_option maxHeartbeats 4000000
/-! Lt, part 4: the judgements of expressions. -/
namespace Lt
noncomputable section
open PySem PySem.Spec PyProof.Rows L2
section
variable {G : GC} {X : Cx} {W : TW} {pos : Pos} {a b c : Expr} {f g : EE} {h : BB}
/-- the value is used next -/
theorem T_then {f : EE} {k : Env → D → M D} {R : V → Hp → Prop} {σ : L2.St} {H : Hp} {Q : VK}
    (hk : ∀ ρ η H S x v, Rel G ρ H S → EnvOk G ρ H η σ → Den G ρ H x v → PostD G (fun c d h => W c d σ h) ρ H Q (k η x S) → R v H) (hT : T G W (fun η => bnd (f η) (k η)) σ H Q) : T G W f σ H R := by
  obtain ⟨ρ, η, S, r, e, p⟩ := hT
  exact ⟨ρ, η, S, r, e, Post.mono (Post.bnd (Rv := Den G) p) fun v H1 ⟨ρ1, S1, x, g1, r1, d1, _, p1⟩ => hk ρ1 η H1 S1 x v r1 (e.mono g1) d1 p1⟩
theorem T_op {f g : EE} {k : D → D → M D} {r : R2} {σ : L2.St} {H : Hp} {Q : VK}
    (hk : ∀ ρ H S x y v u, Rel G ρ H S → Den G ρ H x v → Den G ρ H y u → PostD G (fun c d h => W c d σ h) ρ H Q (k x y S) → r v u H Q) (hT : T G W (fun η => bnd (f η) fun x => bnd (g η) fun y => k x y) σ H Q) : tOp r (T G W f) (T G W g) σ H Q := by
  obtain ⟨ρ, η, S, r, e, p⟩ := hT
  refine ⟨ρ, η, S, r, e, Post.mono (Post.bnd (Rv := Den G) p) fun v H1 ⟨ρ1, S1, x, g1, r1, d1, _, p1⟩ => ?_⟩
  refine ⟨ρ1, η, S1, r1, e.mono g1, Post.mono (Post.bnd (Rv := Den G) p1) fun u H2 ⟨ρ2, S2, y, g2, r2, d2, _, p2⟩ => ?_⟩
  exact hk ρ2 H2 S2 x y v u r2 (d1.mono g2) d2 p2
theorem TB_op {f g : EE} {k : D → D → M Bool} {R : V → V → Hp → Prop} {σ : L2.St} {H : Hp} {Q : Bool → Hp → Prop}
    (hk : ∀ ρ H S x y v u, Rel G ρ H S → Den G ρ H x v → Den G ρ H y u → PostB G (fun c d h => W c d σ h) ρ H Q (k x y S) → R v u H) (hT : TB G W (fun η => bnd (f η) fun x => bnd (g η) fun y => k x y) σ H Q) :
    T G W f σ H fun x H1 => T G W g σ H1 fun y H2 => R x y H2 := by
  obtain ⟨ρ, η, S, r, e, p⟩ := hT
  refine ⟨ρ, η, S, r, e, Post.mono (Post.bnd (Rv := Den G) p) fun v H1 ⟨ρ1, S1, x, g1, r1, d1, _, p1⟩ => ?_⟩
  refine ⟨ρ1, η, S1, r1, e.mono g1, Post.mono (Post.bnd (Rv := Den G) p1) fun u H2 ⟨ρ2, S2, y, g2, r2, d2, _, p2⟩ => ?_⟩
  exact hk ρ2 H2 S2 x y v u r2 (d1.mono g2) d2 p2

theorem pe_loc {i : Nat} {x : Str} (hN : X.N[i]? = some x) (hv : Vis X.env.scope x) (hd : (x == ("__debug__" : Str)) = false) (hcd : (x == ("__classdict__" : Str)) = false) : PE X (.Name x pos) (T G W (eLoc i)) := by
  refine pe_mono (pe_var hN hv hd hcd) fun σ H Q ⟨ρ, η, S, r, e, p⟩ => ?_
  unfold eLoc at p
  cases q : η[i]? with
  | none => rw [q] at p; exact p.elim
  | some o =>
    cases o with
    | none => rw [q] at p; exact p.elim
    | some d =>
      rw [q] at p
      obtain ⟨v, h1, h2⟩ := e.val i d q
      exact ⟨v, h1, post_ret r p h2⟩
/-- a constant -/
theorem pe_con0 {e : Expr} {d : D} {v : V} (h : PE X e (tC v)) (hd : ∀ ρ H, Den G ρ H d v) : PE X e (T G W (eC d)) :=
  pe_mono h fun σ H Q ⟨ρ, η, S, r, e, p⟩ => post_ret r p (hd ρ H)

theorem pe_bin (k : Ok G X W) (o : Op) (ha : PE X a (T G W f)) (hb : PE X b (T G W g)) : PE X (.BinOp a (opOf o) b pos) (T G W (eBin o f g)) :=
  pe_mono (pe_op (op_all o) ha hb) fun σ H Q hT => T_op (fun ρ H S x y v u r dx dy p => by rw [k.K]; exact opB_ok r dx dy p) hT
theorem pe_neg (ha : PE X a (T G W f)) : PE X (.UnaryOp .USub a pos) (T G W (eNeg f)) :=
  pe_mono (pe_un un_neg ha) fun σ H Q hT => T_then (fun ρ η H S x v r e dx p => by
    unfold negD at p
    split at p
    · cases dx
      exact ⟨_, rfl, post_ret r p (.int _)⟩
    · exact p.elim) hT
theorem rCm_mono {K : PySem.W.Frag} {o : Cm} {v u : V} {H : Hp} {Q Q' : VK} (h : rCm K o v u H Q) (k : ∀ z H', Q z H' → Q' z H') : rCm K o v u H Q' := by
  cases o with
  | eq => obtain ⟨d, e, a1, a2, a3, a4, q⟩ := h; exact ⟨d, e, a1, a2, a3, a4, k _ _ q⟩
  | ne => obtain ⟨d, e, a1, a2, a3, a4, q⟩ := h; exact ⟨d, e, a1, a2, a3, a4, k _ _ q⟩
  | lt =>
    rcases h with (⟨i, j, a1, a2, q⟩ | ⟨i, j, a1, a2, q⟩) | ⟨d, e, a1, a2, a3, a4, a5, a6, q⟩
    · exact .inl (.inl ⟨i, j, a1, a2, k _ _ q⟩)
    · exact .inl (.inr ⟨i, j, a1, a2, k _ _ q⟩)
    · exact .inr ⟨d, e, a1, a2, a3, a4, a5, a6, k _ _ q⟩
  | le => obtain ⟨i, j, a1, a2, q⟩ := h; exact ⟨i, j, a1, a2, k _ _ q⟩
  | gt => obtain ⟨i, j, a1, a2, q⟩ := h; exact ⟨i, j, a1, a2, k _ _ q⟩
  | ge => obtain ⟨i, j, a1, a2, q⟩ := h; exact ⟨i, j, a1, a2, k _ _ q⟩
  | isn => obtain ⟨a, q⟩ := h; exact ⟨a, k _ _ q⟩
  | notn => obtain ⟨a, q⟩ := h; exact ⟨a, k _ _ q⟩
  | inn =>
    rcases h with (⟨d, e, a1, a2, a3, a4, q⟩ | ⟨d, e, a1, a2, a3, a4, q⟩) | ⟨c, z, a1, a2, q⟩
    · exact .inl (.inl ⟨d, e, a1, a2, a3, a4, k _ _ q⟩)
    · exact .inl (.inr ⟨d, e, a1, a2, a3, a4, k _ _ q⟩)
    · exact .inr ⟨c, z, a1, a2, k _ _ q⟩
  | nin =>
    rcases h with (⟨d, e, a1, a2, a3, a4, q⟩ | ⟨d, e, a1, a2, a3, a4, q⟩) | ⟨c, z, a1, a2, q⟩
    · exact .inl (.inl ⟨d, e, a1, a2, a3, a4, k _ _ q⟩)
    · exact .inl (.inr ⟨d, e, a1, a2, a3, a4, k _ _ q⟩)
    · exact .inr ⟨c, z, a1, a2, k _ _ q⟩
theorem postB_bl {ρ : List Addr} {H : Hp} {S : Sto} {W' : Value → Option Addr → Hp → Prop} {Q : VK} {m : M Bool} (p : PostD G W' ρ H Q (bnd m (fun b => ret (.bl b)) S)) : PostB G W' ρ H (fun b H' => Q (.bl b) H') (m S) :=
  Post.mono (Post.bnd (Rv := fun _ _ (a b : Bool) => a = b) p) fun b H' ⟨ρ1, S1, a, g, r1, e, _, p⟩ => by
    cases e
    exact post_ret r1 p (.bl _)
theorem pe_cm (k : Ok G X W) (o : Cm) (ha : PE X a (T G W f)) (hb : PE X b (T G W g)) (hm : behindInMarks (cmOf o) b = false) : PE X (.Compare a [cmOf o] [b] pos) (T G W (eCmp o f g)) :=
  pe_mono (pe_cmpR (cm_all k.units o) ha hb hm) fun σ H Q hT => T_op (fun ρ H S x y v u r dx dy p => by
    rw [k.K]
    exact rCm_mono (cmB_ok r dx dy (postB_bl p)) fun z H' ⟨b, e, q⟩ => by rw [e]; exact q) hT
theorem pt_cm (k : Ok G X W) (o : Cm) (ha : PE X a (T G W f)) (hb : PE X b (T G W g)) (hm : behindInMarks (cmOf o) b = false) : PT X (.Compare a [cmOf o] [b] pos) (TB G W (bCmp o f g)) :=
  pt_mono (pt_cmpR (cm_all k.units o) ha hb hm) fun σ H Q hT => TB_op (R := fun v u H => rCm X.K o v u H fun z H' => ∃ b, z = .bl b ∧ Q b H') (fun ρ H S x y v u r dx dy p => by
    rw [k.K]
    exact cmB_ok r dx dy p) hT

/-! ### truth -/
theorem truB_ok {ρ : List Addr} {H : Hp} {S : Sto} {W' : Value → Option Addr → Hp → Prop} {x : D} {v : V} {α β : Type} {k : Bool → M α} {Rv : List Addr → Hp → α → β → Prop} {Q : β → Hp → Prop} (r : Rel G ρ H S) (dx : Den G ρ H x v)
    (p : Post G Rv W' ρ H Q (bnd (truB x) k S)) : ∃ b, TruV G.K v H b ∧ Post G Rv W' ρ H Q (k b S) := by
  cases x with
  | non => cases dx; exact ⟨false, rfl, p⟩
  | bl b => cases dx; exact ⟨b, rfl, p⟩
  | int i => cases dx; exact ⟨_, rfl, p⟩
  | str x =>
    cases dx
    unfold truB at p
    rw [bnd_grd] at p
    obtain ⟨c, p⟩ := grd_no p
    exact ⟨_, ⟨by rw [← szL_eq]; exact of_decide_eq_true c, rfl⟩, p⟩
  | tup xs =>
    obtain ⟨a, vs, e, hs, ds⟩ := den_tup dx
    subst e
    refine ⟨!xs.isEmpty, .inr (.inl ⟨vs, hs, ?_⟩), p⟩
    cases ds <;> rfl
  | ref n =>
    cases dx with
    | ref ha =>
      unfold truB at p
      rw [bnd_assoc] at p
      obtain ⟨xs, e, p⟩ := bnd_lsAt p
      obtain ⟨vs, hs, ds⟩ := r.list ha e
      refine ⟨!xs.isEmpty, .inl ⟨vs, hs, ?_⟩, p⟩
      cases ds <;> rfl
  | ty n => exact p.elim
  | glo i => exact p.elim
  | kls i => exact p.elim
/-- an expression as a test -/
theorem pt_v (k : Ok G X W) (ha : PE X a (T G W f)) (he : ∀ whole, isTrue a X.env whole = (do let v ← whole; standAt a.pos; holding [v] (truthy v))) : PT X a (TB G W (bV f)) :=
  pt_mono (pt_truth ha he) fun σ H Q hT => by
    obtain ⟨ρ, η, S, r, e, p⟩ := hT
    refine ⟨ρ, η, S, r, e, Post.mono (Post.bnd (Rv := Den G) p) fun v H1 ⟨ρ1, S1, x, g1, r1, d1, _, p1⟩ => ?_⟩
    have p2 : Post G (fun _ _ (a b : Bool) => a = b) (fun c d h => W c d σ h) ρ1 H1 Q (bnd (truB x) ret S1) := by
      have e : bnd (truB x) ret = truB x := by
        funext S
        unfold bnd ret
        cases truB x S <;> rfl
      rw [e]; exact p1
    obtain ⟨b, t, q⟩ := truB_ok r1 d1 p2
    exact ⟨b, by rw [k.K]; exact t, post_retB r1 q⟩
theorem pt_notB (ha : PT X a (TB G W h)) : PT X (.UnaryOp .Not a pos) (TB G W (bNot h)) :=
  pt_mono (pt_not ha) fun σ H Q ⟨ρ, η, S, r, e, p⟩ => ⟨ρ, η, S, r, e, Post.mono (Post.bnd (Rv := fun _ _ (a b : Bool) => a = b) p) fun b H1 ⟨ρ1, S1, x, g1, r1, d1, _, p1⟩ => by
    cases d1
    exact post_retB r1 p1⟩
theorem pe_notE (k : Ok G X W) (ha : PE X a (T G W f)) : PE X (.UnaryOp .Not a pos) (T G W (eNot f)) :=
  pe_mono (pe_notT ha) fun σ H Q hT => T_then (fun ρ η H S x v r e dx p => by
    obtain ⟨b, t, q⟩ := truB_ok r dx p
    exact ⟨b, by rw [k.K]; exact t, post_ret r q (.bl _)⟩) hT
theorem pe_ifE (hc : PT X c (TB G W h)) (ha : PE X a (T G W f)) (hb : PE X b (T G W g)) : PE X (.IfExp c a b pos) (T G W (eIf h f g)) :=
  pe_mono (pe_ifExp hc ha hb) fun σ H Q ⟨ρ, η, S, r, e, p⟩ => ⟨ρ, η, S, r, e, Post.mono (Post.bnd (Rv := fun _ _ (a b : Bool) => a = b) p) fun b H1 ⟨ρ1, S1, x, g1, r1, d1, _, p1⟩ => by
    subst d1
    cases x with
    | true => exact ite_tt ⟨ρ1, η, S1, r1, e.mono g1, p1⟩
    | false => exact ite_ff ⟨ρ1, η, S1, r1, e.mono g1, p1⟩⟩
/-- and, or as values -/
theorem pe_andE (k : Ok G X W) : ∀ {es : List Expr} {fs : List EE}, Paired (fun e f => PE X e (T G W f)) es fs → es ≠ [] → PE X (.BoolOp .And es pos) (T G W (eAnd fs))
  | _, _, .nil, h => absurd rfl h
  | _, _, .cons ha .nil, _ => pe_one ha
  | _ :: _ :: _, f :: g :: fs, .cons ha (.cons hb r), _ => pe_mono (pe_andT ha (pe_andE k (.cons hb r) (by simp))) fun σ H Q hT => T_then (k := fun η x => bnd (truB x) fun b => match b with
    | true => eAnd (g :: fs) η
    | false => ret x) (fun ρ η H S x v r e dx p => by
      obtain ⟨b, t, q⟩ := truB_ok r dx p
      refine ⟨b, by rw [k.K]; exact t, ?_⟩
      cases b with
      | true => exact ite_tt ⟨ρ, η, S, r, e, q⟩
      | false => exact ite_ff (post_ret r q dx)) hT
theorem pe_orE (k : Ok G X W) : ∀ {es : List Expr} {fs : List EE}, Paired (fun e f => PE X e (T G W f)) es fs → es ≠ [] → PE X (.BoolOp .Or es pos) (T G W (eOr fs))
  | _, _, .nil, h => absurd rfl h
  | _, _, .cons ha .nil, _ => pe_one ha
  | _ :: _ :: _, f :: g :: fs, .cons ha (.cons hb r), _ => pe_mono (pe_orT ha (pe_orE k (.cons hb r) (by simp))) fun σ H Q hT => T_then (k := fun η x => bnd (truB x) fun b => match b with
    | true => ret x
    | false => eOr (g :: fs) η) (fun ρ η H S x v r e dx p => by
      obtain ⟨b, t, q⟩ := truB_ok r dx p
      refine ⟨b, by rw [k.K]; exact t, ?_⟩
      cases b with
      | true => exact ite_tt (post_ret r q dx)
      | false => exact ite_ff ⟨ρ, η, S, r, e, q⟩) hT
/-- and, or as tests -/
theorem pw_mono {e : Expr} {t t' : TT} (h : PW X e t) (k : ∀ σ H Q, t' σ H Q → t σ H Q) : PW X e t' := ⟨fun wh pins s σ H Q I q => h.run wh pins s σ H Q I (k σ H Q q)⟩
theorem pw_andE : ∀ {es : List Expr} {fs : List BB}, Paired (fun e f => PT X e (TB G W f)) es fs → es ≠ [] → PW X (.BoolOp .And es pos) (TB G W (bAnd fs))
  | _, _, .nil, h => absurd rfl h
  | _, _, .cons ha .nil, _ => pw_and1 ha
  | _ :: _ :: _, f :: g :: fs, .cons ha (.cons hb r), _ => pw_mono (pw_and ha (pw_andE (.cons hb r) (by simp))) fun σ H Q ⟨ρ, η, S, r, e, p⟩ => by
      have p : Post G (fun _ _ (a b : Bool) => a = b) (fun c d h => W c d σ h) ρ H Q (bnd (f η) (fun b => match b with
        | true => bAnd (g :: fs) η
        | false => ret false) S) := p
      refine ⟨ρ, η, S, r, e, Post.mono (Post.bnd (Rv := fun _ _ (a b : Bool) => a = b) p) fun b H1 ⟨ρ1, S1, x, g1, r1, d1, _, p1⟩ => ?_⟩
      subst d1
      cases x with
      | true => exact ite_tt ⟨ρ1, η, S1, r1, e.mono g1, p1⟩
      | false => exact ite_ff (post_retB r1 p1)
theorem pw_orE : ∀ {es : List Expr} {fs : List BB}, Paired (fun e f => PT X e (TB G W f)) es fs → es ≠ [] → PW X (.BoolOp .Or es pos) (TB G W (bOr fs))
  | _, _, .nil, h => absurd rfl h
  | _, _, .cons ha .nil, _ => pw_or1 ha
  | _ :: _ :: _, f :: g :: fs, .cons ha (.cons hb r), _ => pw_mono (pw_or ha (pw_orE (.cons hb r) (by simp))) fun σ H Q ⟨ρ, η, S, r, e, p⟩ => by
      have p : Post G (fun _ _ (a b : Bool) => a = b) (fun c d h => W c d σ h) ρ H Q (bnd (f η) (fun b => match b with
        | true => ret true
        | false => bOr (g :: fs) η) S) := p
      refine ⟨ρ, η, S, r, e, Post.mono (Post.bnd (Rv := fun _ _ (a b : Bool) => a = b) p) fun b H1 ⟨ρ1, S1, x, g1, r1, d1, _, p1⟩ => ?_⟩
      subst d1
      cases x with
      | true => exact ite_tt (post_retB r1 p1)
      | false => exact ite_ff ⟨ρ1, η, S1, r1, e.mono g1, p1⟩
/-! ### chains -/
theorem bnd_cmB {ρ : List Addr} {H : Hp} {S : Sto} {W' : Value → Option Addr → Hp → Prop} {o : Cm} {x y : D} {v u : V} {α β : Type} {k : Bool → M α} {Rv : List Addr → Hp → α → β → Prop} {Q : β → Hp → Prop} (r : Rel G ρ H S) (dx : Den G ρ H x v) (dy : Den G ρ H y u)
    (p : Post G Rv W' ρ H Q (bnd (cmB o x y) k S)) : rCm G.K o v u H (fun z H' => ∃ b ρ1 S1, z = .bl b ∧ Grow G ρ H ρ1 H' ∧ Rel G ρ1 H' S1 ∧ Post G Rv W' ρ1 H' Q (k b S1)) := by
  refine rCm_mono (cmB_ok r dx dy (Post.bnd (Rv := fun _ _ (a b : Bool) => a = b) p)) fun z H' ⟨b, e, ρ1, S1, a, g1, r1, d1, _, p1⟩ => ?_
  subst d1
  exact ⟨a, ρ1, S1, e, g1, r1, p1⟩
theorem pe_chainE (k : Ok G X W) (o o' : Cm) {g' : EE} (ha : PE X a (T G W f)) (hb : PE X b (T G W g)) (hc : PE X c (T G W g')) (hm : lastMarks [cmOf o, cmOf o'] [b, c] = false) : PE X (.Compare a [cmOf o, cmOf o'] [b, c] pos) (T G W (eChain o o' f g g')) :=
  pe_mono (pe_chain (cm_all k.units o) (cm_all k.units o') ha hb hc hm) fun σ H Q ⟨ρ, η, S, r, e, p⟩ => by
    refine ⟨ρ, η, S, r, e, Post.mono (Post.bnd (Rv := Den G) p) fun v H1 ⟨ρ1, S1, x, g1, r1, d1, _, p1⟩ => ?_⟩
    refine ⟨ρ1, η, S1, r1, e.mono g1, Post.mono (Post.bnd (Rv := Den G) p1) fun u H2 ⟨ρ2, S2, y, g2, r2, d2, _, p2⟩ => ?_⟩
    rw [k.K]
    refine rCm_mono (bnd_cmB r2 (d1.mono g2) d2 p2) fun z H3 ⟨b, ρ3, S3, ez, g3, r3, p3⟩ => ⟨b, ez, ?_⟩
    cases b with
    | false => exact ite_ff (post_ret r3 p3 (.bl _))
    | true =>
      refine ite_tt ⟨ρ3, η, S3, r3, ((e.mono g1).mono g2).mono g3, Post.mono (Post.bnd (Rv := Den G) p3) fun w H4 ⟨ρ4, S4, z, g4, r4, d4, _, p4⟩ => ?_⟩
      exact rCm_mono (cmB_ok r4 ((d2.mono g3).mono g4) d4 (postB_bl p4)) fun z H' ⟨b, e, q⟩ => by rw [e]; exact q
theorem pt_chainE (k : Ok G X W) (o o' : Cm) {g' : EE} (ha : PE X a (T G W f)) (hb : PE X b (T G W g)) (hc : PE X c (T G W g')) (hm : lastMarks [cmOf o, cmOf o'] [b, c] = false) : PT X (.Compare a [cmOf o, cmOf o'] [b, c] pos) (TB G W (bChain o o' f g g')) :=
  pt_mono (pt_chain (cm_all k.units o) (cm_all k.units o') ha hb hc hm) fun σ H Q ⟨ρ, η, S, r, e, p⟩ => by
    refine ⟨ρ, η, S, r, e, Post.mono (Post.bnd (Rv := Den G) p) fun v H1 ⟨ρ1, S1, x, g1, r1, d1, _, p1⟩ => ?_⟩
    refine ⟨ρ1, η, S1, r1, e.mono g1, Post.mono (Post.bnd (Rv := Den G) p1) fun u H2 ⟨ρ2, S2, y, g2, r2, d2, _, p2⟩ => ?_⟩
    rw [k.K]
    refine rCm_mono (bnd_cmB r2 (d1.mono g2) d2 p2) fun z H3 ⟨b, ρ3, S3, ez, g3, r3, p3⟩ => ⟨b, ez, ?_⟩
    cases b with
    | false => exact ite_ff ⟨_, rfl, post_retB r3 p3⟩
    | true =>
      refine ite_tt ⟨ρ3, η, S3, r3, ((e.mono g1).mono g2).mono g3, Post.mono (Post.bnd (Rv := Den G) p3) fun w H4 ⟨ρ4, S4, z, g4, r4, d4, _, p4⟩ => ?_⟩
      exact cmB_ok r4 ((d2.mono g3).mono g4) d4 p4
/-! ### subscripts, slices -/
theorem atI_pr {α β : Type} {F : α → β → Prop} {l : List α} {m : List β} {i : Int} {x : α} (h : Paired F l m) (e : atI l i = some x) : ∃ y, atI m i = some y ∧ F x y := by
  unfold atI at e ⊢
  rw [← h.length]
  cases q : ixN l.length i with
  | none => rw [q] at e; cases e
  | some j =>
    rw [q] at e
    obtain ⟨y, h1, h2⟩ := pr_get h (show l[j]? = some x from e)
    exact ⟨y, h1, h2⟩
theorem post_ofO {ρ : List Addr} {H : Hp} {S : Sto} {W' : Value → Option Addr → Hp → Prop} {Q : VK} {o : Option D} (p : PostD G W' ρ H Q (ofO o S)) : ∃ x, o = some x ∧ PostD G W' ρ H Q (ret x S) := by
  cases o with
  | none => exact p.elim
  | some x => exact ⟨x, rfl, p⟩
theorem ixB_ok {ρ : List Addr} {H : Hp} {S : Sto} {W' : Value → Option Addr → Hp → Prop} {x y : D} {v u : V} {Q : VK} (r : Rel G ρ H S) (dx : Den G ρ H x v) (dy : Den G ρ H y u) (p : PostD G W' ρ H Q (ixB x y S)) : rIx G.K v u H Q := by
  unfold ixB at p
  split at p
  · obtain ⟨a, vs, e, hs, ds⟩ := den_tup dx
    subst e
    cases dy
    obtain ⟨z, ez, p⟩ := post_ofO p
    obtain ⟨w, h1, h2⟩ := atI_pr ds.pr ez
    exact .inr (.inl ⟨_, _, _, _, rfl, rfl, hs, h1, post_ret r p h2⟩)
  · cases dx with
    | ref ha =>
      cases dy
      obtain ⟨xs, e, p⟩ := bnd_lsAt p
      obtain ⟨vs, hs, ds⟩ := r.list ha e
      obtain ⟨z, ez, p⟩ := post_ofO p
      obtain ⟨w, h1, h2⟩ := atI_pr ds.pr ez
      exact .inl ⟨_, _, _, _, rfl, rfl, hs, h1, post_ret r p h2⟩
  · cases dx; cases dy
    obtain ⟨c, p⟩ := grd_no p
    obtain ⟨z, ez, p⟩ := bnd_ofO p
    exact .inr (.inr ⟨_, _, _, rfl, rfl, by rw [← szL_eq]; exact of_decide_eq_true c, ez, post_ret r p (.str _)⟩)
  · exact p.elim
theorem pe_ixE (k : Ok G X W) (ha : PE X a (T G W f)) (hb : PE X b (T G W g)) (hs : PlainIx b) : PE X (.Subscript a b pos) (T G W (eIx f g)) :=
  pe_mono (pe_ix ix_seq ha hb hs) fun σ H Q hT => T_op (fun ρ H S x y v u r dx dy p => by rw [k.K]; exact ixB_ok r dx dy p) hT
/-- a part of a slice -/
def TP (G : GC) (W : TW) (f : Env → M (Option Int)) : TO := fun σ H Q => ∃ ρ η S, Rel G ρ H S ∧ EnvOk G ρ H η σ ∧ Post G (fun _ _ (a b : Option Int) => a = b) (fun c d h => W c d σ h) ρ H Q (f η S)
theorem po_mono {e : Option Expr} {t t' : TO} (h : PO X e t) (k : ∀ σ H Q, t' σ H Q → t σ H Q) : PO X e t' := ⟨fun pins s σ H Q I q => h.run pins s σ H Q I (k σ H Q q)⟩
theorem po_n : PO X none (TP G W (pO none)) := po_mono po_none fun σ H Q ⟨ρ, η, S, r, e, p⟩ => p ρ H none Grow.refl r rfl
theorem po_s {e : Expr} (h : PE X e (T G W f)) : PO X (some e) (TP G W (pO (some f))) := po_mono (po_some h) fun σ H Q ⟨ρ, η, S, r, e, p⟩ =>
  ⟨ρ, η, S, r, e, Post.mono (Post.bnd (Rv := Den G) p) fun v H1 ⟨ρ1, S1, x, g1, r1, d1, _, p1⟩ => by
    cases x with
    | int i =>
      cases d1
      exact ⟨i, rfl, p1 ρ1 H1 _ Grow.refl r1 rfl⟩
    | _ => exact p1.elim⟩
def rSlAll (K : PySem.W.Frag) : V → Option Int → Option Int → Hp → VK → Prop := fun x lo hi H Q => (rSlL K x lo hi H Q ∨ rSlA K x lo hi H Q) ∨ rSlS x lo hi H Q
theorem sl_all : SlR X (rSlAll X.K) := SlR.or (SlR.or sl_list sl_tupA) sl_str
theorem cut_dens {ρ : List Addr} {H : Hp} {xs : List D} {vs : List V} (d : Dens G ρ H xs vs) (lo hi : Option Int) : Dens G ρ H (cutD xs lo hi) (cutV vs lo hi) := by
  unfold cutD cutV
  rw [d.length]
  exact dens_take (dens_drop d _) _
theorem slB_ok {ρ : List Addr} {H : Hp} {S : Sto} {W' : Value → Option Addr → Hp → Prop} {x : D} {v : V} {lo hi : Option Int} {Q : VK} (r : Rel G ρ H S) (dx : Den G ρ H x v) (p : PostD G W' ρ H Q (slB x lo hi S)) : rSlAll G.K v lo hi H Q := by
  unfold slB at p
  split at p
  · rename_i xs
    obtain ⟨a, vs, e, hs, ds⟩ := den_tup dx
    subst e
    refine .inl (.inr ⟨a, vs, rfl, hs, fun ⟨h1, h2⟩ => ?_, fun _ => post_tup r p (cut_dens ds lo hi)⟩)
    have e : cutD xs lo hi = xs := by
      unfold cutD
      rw [ds.length, h1, h2]
      rw [List.drop_zero, Nat.sub_zero, List.take_of_length_le (Nat.le_of_eq ds.length)]
    rw [e] at p
    exact post_ret r p dx
  · cases dx with
    | ref ha =>
      obtain ⟨xs, e, p⟩ := bnd_lsAt p
      obtain ⟨vs, hs, ds⟩ := r.list ha e
      exact .inl (.inl ⟨_, vs, rfl, hs, post_alc r p (cut_dens ds lo hi)⟩)
  · cases dx with
    | kls hs ds => exact .inl (.inl ⟨_, _, rfl, sqL_up hs, post_alc r p (cut_dens ds lo hi)⟩)
  · cases dx
    obtain ⟨c, p⟩ := grd_no p
    exact .inr ⟨_, rfl, by rw [← szL_eq]; exact of_decide_eq_true c, post_ret r p (.str _)⟩
  · exact p.elim
theorem pe_slE {lo hi : Option Expr} {fl fh : Option EE} {p2 : Pos} (k : Ok G X W) (ha : PE X a (T G W f)) (hl : PO X lo (TP G W (pO fl))) (hh : PO X hi (TP G W (pO fh))) : PE X (.Subscript a (.Slice lo hi none p2) pos) (T G W (eSl f fl fh)) :=
  pe_mono (pe_slice sl_all ha hl hh) fun σ H Q ⟨ρ, η, S, r, e, p⟩ => by
    refine ⟨ρ, η, S, r, e, Post.mono (Post.bnd (Rv := Den G) p) fun v H1 ⟨ρ1, S1, x, g1, r1, d1, _, p1⟩ => ?_⟩
    refine ⟨ρ1, η, S1, r1, e.mono g1, Post.mono (Post.bnd (Rv := fun _ _ (a b : Option Int) => a = b) p1) fun u H2 ⟨ρ2, S2, y, g2, r2, d2, _, p2⟩ => ?_⟩
    refine ⟨ρ2, η, S2, r2, (e.mono g1).mono g2, Post.mono (Post.bnd (Rv := fun _ _ (a b : Option Int) => a = b) p2) fun w H3 ⟨ρ3, S3, z, g3, r3, d3, _, p3⟩ => ?_⟩
    subst d2 d3
    rw [k.K]
    exact slB_ok r3 ((d1.mono g2).mono g3) p3
/-! ### argument lists, displays -/
/-- not a starred one -/
def NoStar (e : Expr) : Prop := ∀ es env, starEach (e :: es) env = (false, eval e env) :: starEach es env
theorem pa_all : ∀ {es : List Expr} {fs : List EE}, Paired (fun e f => PE X e (T G W f) ∧ NoStar e) es fs → PA X es (TL G W (aL fs))
  | _, _, .nil => pa_mono pa_nil fun σ H Q ⟨ρ, η, S, r, e, p⟩ => p ρ H [] Grow.refl r .nil
  | _ :: _, _ :: _, .cons h t => pa_mono (pa_cons h.1 (pa_all t) (h.2 _ _)) fun σ H Q ⟨ρ, η, S, r, e, p⟩ => by
    refine ⟨ρ, η, S, r, e, Post.mono (Post.bnd (Rv := Den G) p) fun v H1 ⟨ρ1, S1, x, g1, r1, d1, _, p1⟩ => ?_⟩
    refine ⟨ρ1, η, S1, r1, e.mono g1, Post.mono (Post.bnd (Rv := Dens G) p1) fun u H2 ⟨ρ2, S2, y, g2, r2, d2, _, p2⟩ => ?_⟩
    exact p2 ρ2 H2 (v :: u) Grow.refl r2 (.cons (d1.mono g2) d2)
/-- the arguments' values are used next -/
theorem TL_then {fs : Env → M (List D)} {k : Env → List D → M D} {R : List V → Hp → Prop} {σ : L2.St} {H : Hp} {Q : VK}
    (hk : ∀ ρ η H S xs vs, Rel G ρ H S → EnvOk G ρ H η σ → Dens G ρ H xs vs → PostD G (fun c d h => W c d σ h) ρ H Q (k η xs S) → R vs H) (hT : T G W (fun η => bnd (fs η) (k η)) σ H Q) : TL G W fs σ H R := by
  obtain ⟨ρ, η, S, r, e, p⟩ := hT
  exact ⟨ρ, η, S, r, e, Post.mono (Post.bnd (Rv := Dens G) p) fun v H1 ⟨ρ1, S1, x, g1, r1, d1, _, p1⟩ => hk ρ1 η H1 S1 x v r1 (e.mono g1) d1 p1⟩
theorem pe_tupE {es : List Expr} {fs : List EE} {x1} (h : PA X es (TL G W (aL fs))) (hl : es.length = fs.length) (hz : decide (fs.length ≤ szL) = true) : PE X (.Tuple es x1 pos) (T G W (eTup fs)) :=
  pe_mono (pe_tup h) fun σ H Q ⟨ρ, η, S, r, e, p⟩ => by
    refine ⟨ρ, η, S, r, e, Post.mono (Post.bnd (Rv := Dens G) p) fun v H1 ⟨ρ1, S1, x, g1, r1, d1, em, p1⟩ => ⟨?_, post_tup r1 p1 d1⟩⟩
    rw [← szL_eq, ← d1.length, aL_len em]
    exact of_decide_eq_true hz
where aL_len : ∀ {fs : List EE} {η : Env} {S S1 : Sto} {xs : List D}, aL fs η S = .ok xs S1 → xs.length = fs.length
  | [], η, S, S1, xs, h => by
    cases h
    rfl
  | f :: fs, η, S, S1, xs, h => by
    unfold aL bnd at h
    cases e : f η S with
    | ok x S2 =>
      rw [e] at h
      cases e2 : aL fs η S2 with
      | ok ys S3 =>
        simp only [e2] at h
        cases h
        simp [aL_len e2]
      | exc c fs S' => simp only [e2] at h; cases h
      | no => simp only [e2] at h; cases h
    | exc c fs S' => rw [e] at h; cases h
    | no => rw [e] at h; cases h
theorem pe_lstE {es : List Expr} {fs : List EE} (h : PA X es (TL G W (aL fs))) (hz : decide (fs.length ≤ szL) = true) : PE X (.List es pos) (T G W (eLst fs)) :=
  pe_mono (pe_lst h) fun σ H Q ⟨ρ, η, S, r, e, p⟩ => by
    refine ⟨ρ, η, S, r, e, Post.mono (Post.bnd (Rv := Dens G) p) fun v H1 ⟨ρ1, S1, x, g1, r1, d1, em, p1⟩ => ⟨?_, post_alc r1 p1 d1⟩⟩
    rw [← szL_eq, ← d1.length, pe_tupE.aL_len em]
    exact of_decide_eq_true hz
end
end
end Lt

end
section
set_option Elab.async false
set_option linter.all false
set_option maxRecDepth 100000
set_option maxHeartbeats 4000000
/-! Lt, part 5: calls of the text's defs, classes, methods; attributes. -/
namespace Lt
noncomputable section
open PySem PySem.Spec PyProof.Rows L2

abbrev Fn := List D → M D
def eCall (m : Fn) (fs : List EE) : EE := fun η => bnd (aL fs η) m
/-- a new instance, then its __init__ -/
def mkN (c : Nat) (m : Fn) : Fn := fun ds => bnd (alc (.ins c [])) fun r => bnd (m (r :: ds)) fun v => match v with
  | .non => ret r
  | _ => no
/-- the method by the receiver's class -/
def mOf (mt : List (Nat × Fn)) (a : Nat) (o : D) : M Fn := match o with
  | .ref n => bnd (lod n) fun c => match c with
    | .ins c gs => (match mt.lookup c with
      | some m => grd (gs.lookup a).isNone (ret m)
      | none => no)
    | _ => no
  | _ => no
def eMeth (mt : List (Nat × Fn)) (a : Nat) (f : EE) (fs : List EE) : EE := fun η => bnd (f η) fun o => bnd (mOf mt a o) fun m => bnd (aL fs η) fun xs => m (o :: xs)
/-- nothing may be raised there -/
def noX {α : Type} (m : M α) : M α := fun S => match m S with
  | .ok a S' => .ok a S'
  | _ => .no
/-- an attribute: a field, or a property by the class -/
def atB (tb : List (Nat × Option Fn)) (a : Nat) (o : D) : M D := match o with
  | .ref n => bnd (lod n) fun c => match c with
    | .ins c gs => (match tb.lookup c with
      | some none => ofO (gs.lookup a)
      | some (some m) => noX (m [o])
      | none => no)
    | _ => no
  | _ => no
def eAttr (tb : List (Nat × Option Fn)) (a : Nat) (f : EE) : EE := fun η => bnd (f η) (atB tb a)

section
variable {G : GC}
/-- a def's promise -/
def spF (G : GC) (m : Fn) (n : Nat) : Sp := fun vs H Q E => vs.length = n ∧ ∃ ρ S ds, Rel G ρ H S ∧ Dens G ρ H ds vs ∧ PostD G E ρ H Q (m ds S)
/-- what may be called -/
def CallV (G : GC) (k : Nat) (u : Value) (m : Fn) : Prop :=
  ∀ (X : Cx) (W : TW), Ok G X W → Room k X.A → ∀ (pins : List (Addr × Obj)) (σ : L2.St) (H : Hp) (s : Shared) (us : List Value) (vs : List V) (Q : VK), Inv X pins σ H s → Vals vs us →
    (∃ ρ S ds, Rel G ρ H S ∧ Dens G ρ H ds vs ∧ PostD G (fun c d h => W c d σ h) ρ H Q (m ds S)) → wpAny (model X.prog X.w) X.A (call u us) (EP X pins σ Q) X.xe s
theorem CallV.mono {j k : Nat} {u : Value} {m : Fn} (h : CallV G j u m) (e : j ≤ k) : CallV G k u m := fun X W ok hr => h X W ok (hr.mono e)
abbrev FnG (G : GC) (k : Nat) (f : Addr) (fd : FuncData) (ps : List Str) (m : Fn) : Prop := FnOk G.P G.w G.K G.mg G.base (L2.CX G.P G.w) k f fd ps (spF G m ps.length)
/-- how many arguments a def takes -/
def Arity (m : Fn) (n : Nat) : Prop := ∀ ds S, ds.length ≠ n → m ds S = .no
theorem arity_len {m : Fn} {n : Nat} (a : Arity m n) {E : Value → Option Addr → Hp → Prop} {ρ : List Addr} {H : Hp} {S : Sto} {ds : List D} {vs : List V} {Q : VK} (d : Dens G ρ H ds vs) (p : PostD G E ρ H Q (m ds S)) : vs.length = n := by
  rw [← d.length]
  by_cases h : ds.length = n
  · exact h
  · rw [a ds S h] at p; exact p.elim
theorem callV_fn {k : Nat} {f : Addr} {fd : FuncData} {ps : List Str} {m : Fn} (F : FnG G k f fd ps m) (hb : Binds G.K fd ps []) (a : Arity m ps.length) : CallV G k (.ref f) m := by
  intro X W ok hr pins σ H s us vs Q I r h
  obtain ⟨P, w, K, mg, base, A, N, s0, H0, env, outer, stack, ex, fn, calm, pn, xe⟩ := X
  obtain ⟨eP, ew, eK, em, eb, ec, tk, nd, un⟩ := ok
  dsimp only at eP ew eK em eb
  subst eP ew eK em eb
  refine run_fnS F hr hb (passAt tk σ) I r ?_
  obtain ⟨ρ, S, ds, h1, h2, h3⟩ := h
  exact ⟨arity_len a h2 h3, ρ, S, ds, h1, h2, h3⟩
theorem run_makeS {X : Cx} {CX : CXT} {k : Nat} {f C : Addr} {fd : FuncData} {ps : List Str} {sp : Sp} {E : L2.St → XK} {pins : List (Addr × Obj)} {σ : L2.St} {H : Hp} {s : Shared} {Q : VK} {us : List Value} {vs : List V} (Mk' : Mk X.K C f)
    (F : FnOk X.prog X.w X.K X.mg X.base CX k f fd ps sp) (hr : Room (k + 1) X.A) (hb : Binds X.K fd ps []) (hx : PassesAt CX X σ (E σ)) (I : Inv X pins σ H s) (r : Vals vs us)
    (h : ∀ x dx, H x = none → H dx = none → dx ≠ x → sp (.ref x :: vs) (upd (upd H dx (.own x)) x (.ins C dx [])) (fun v H2 => v = .non ∧ Q (.ref x) H2) (E σ)) :
    wpAny (model X.prog X.w) X.A (call (.ref C) us) (EP X pins σ Q) X.xe s := by
  have hq := h (s.heap.objs.size + 1) s.heap.objs.size (I.hok.fresh (Nat.le_succ _)) (I.hok.fresh (Nat.le_refl _)) (Nat.ne_of_lt (Nat.lt_succ_self _))
  have I2 := Inv.made (C := C) I
  have r2 : Vals (V.ref (s.heap.objs.size + 1) :: vs) (Value.ref (s.heap.objs.size + 1) :: us) := .cons rfl r
  have hl : (Value.ref (s.heap.objs.size + 1) :: us ++ []).length = ps.length := by
    have e := r2.length
    rw [F.len _ _ _ _ hq] at e
    rw [List.append_nil]
    exact e.symm
  have b := hb _ (Value.ref (s.heap.objs.size + 1) :: us) I2.kIn hl
  rw [List.append_nil] at b
  refine wpAny_call (make_map (f := f) I.kIn Mk'.makes Mk'.init (beq_iff_eq.mp Mk'.fn) (codeAny_mono (F.run _ X.stack _ _ ⟨Value.ref (s.heap.objs.size + 1) :: us, []⟩ (Value.ref (s.heap.objs.size + 1) :: us) _ _ (E σ) (hr.make C us [])
    (I2.env0.make C us []) b r2 hq) fun r s' hq' => ?_))
  cases r with
  | error e => exact hx pins _ _ e s' I2 hq'
  | ok fl =>
    cases fl with
    | ret u =>
      obtain ⟨v, H', I3, rv, ev, q3⟩ := I2.after hq'
      subst ev
      exact ⟨rv, ⟨V.ref (s.heap.objs.size + 1), H', I3, rfl, q3⟩⟩
    | next => exact False.elim hq'
    | brk => exact False.elim hq'
    | cont => exact False.elim hq'
theorem callV_cls {k : Nat} {f C : Addr} {fd : FuncData} {ps : List Str} {m : Fn} {c : Nat} {x : Str} (Mk' : Mk G.K C f) (F : FnG G k f fd ps m) (hb : Binds G.K fd ps []) (a : Arity m ps.length) (hc : G.gt[c]? = some x) (hm : G.mg x = some (.ref C)) : CallV G (k + 1) (.ref C) (mkN c m) := by
  intro X W ok hr pins σ H s us vs Q I r h
  obtain ⟨P, w, K, mg, base, A, N, s0, H0, env, outer, stack, ex, fn, calm, pn, xe⟩ := X
  obtain ⟨eP, ew, eK, em, eb, ec, tk, nd, un⟩ := ok
  dsimp only at eP ew eK em eb
  subst eP ew eK em eb
  refine run_makeS Mk' F hr hb (passAt tk σ) I r fun y dx h1 h2 h3 => ?_
  obtain ⟨ρ, S, ds, q1, q2, q3⟩ := h
  have g1 : Grow G ρ H ρ (upd H dx (.own y)) := grow_upd h2
  have hy : (upd H dx (.own y)) y = none := by rw [upd_ne (Ne.symm h3)]; exact h1
  have g2 : Grow G ρ H (ρ ++ [y]) (upd (upd H dx (.own y)) y (.ins C dx [])) := (g1.trans (grow_upd hy)).push y (.inr (.of h1))
  have r2 : Rel G (ρ ++ [y]) (upd (upd H dx (.own y)) y (.ins C dx [])) (S ++ [.ins c []]) := (q1.upd_fresh h2).alc hy ⟨x, C, dx, [], hc, hm, upd_same, .nil⟩
  have q3 : PostD G (WE W σ) ρ H Q (bnd (m (.ref S.length :: ds)) (fun v => match v with
    | .non => ret (.ref S.length)
    | _ => no) (S ++ [.ins c []])) := q3
  have q4 := Post.bnd (Rv := Den G) (Post.grow g2 q3)
  have d2 : Dens G (ρ ++ [y]) (upd (upd H dx (.own y)) y (.ins C dx [])) (.ref S.length :: ds) (.ref y :: vs) := .cons (.ref (q1.last y)) (q2.mono g2)
  refine ⟨arity_len a d2 q4, _, _, _, r2, d2, Post.mono q4 fun v H1 ⟨ρ1, S1, z, g3, r3, d3, _, p⟩ => ?_⟩
  cases d3 with
  | non => exact ⟨rfl, post_ret r3 p ((Den.ref (q1.last y)).mono g3)⟩
  | _ => exact p.elim
section
variable {X : Cx} {W : TW} {pos p apos : Pos} {x : Str} {es : List Expr} {fs : List EE} {k : Nat} {m : Fn} {u : Value}
abbrev Args (G : GC) (X : Cx) (W : TW) (es : List Expr) (fs : List EE) : Prop := Paired (fun e f => PE X e (T G W f) ∧ NoStar e) es fs
theorem args_star : ∀ {es : List Expr} {fs : List EE}, Args G X W es fs → starEach es X.env = es.map fun e => (false, eval e X.env)
  | _, _, .nil => rfl
  | _ :: _, _ :: _, .cons h t => by rw [h.2, args_star t]; rfl
theorem back_any : ∀ {es : List Expr} {env : PySem.Env}, (backTo pos (es.map fun e => (false, eval e env))).any (·.1) = false
  | [], _ => rfl
  | _ :: es, env => by
    show (false || (backTo pos (es.map fun e => (false, eval e env))).any (·.1)) = false
    rw [back_any]
    rfl
theorem args_plain (h : Args G X W es fs) : (backTo pos (starEach es X.env)).any (·.1) = false := by rw [args_star h]; exact back_any
/-- f(e, ..) -/
theorem pe_callF (ok : Ok G X W) (hr : Room k X.A) (hg : Gl X x) (hm : G.mg x = some u) (hk : PySem.W.keepIn G.K u = true) (hc : CallV G k u m) (ha : Args G X W es fs) (hdb : (x == ("__debug__" : Str)) = false) :
    PE X (.Call (.Name x p) es [] pos) (T G W (eCall m fs)) := by
  refine ⟨fun pins s σ H Q I h => ?_⟩
  refine wpAny_Call_Name_kw (ld_glob I hg (by rw [ok.mg]; exact hm) ?_ hdb)
  have hk' : PySem.W.keepIn X.K u = true := by rw [ok.K]; exact hk
  cases ha with
  | nil =>
    refine PySem.W.callWith_K0 I.kIn hk' (hc X W ok hr pins σ H s [] [] Q I .nil ?_)
    obtain ⟨ρ, η, S, r, e, q⟩ := h
    exact ⟨ρ, S, [], r, .nil, q⟩
  | cons h1 h2 =>
    have hA := TL_then (R := fun vs H1 => ∃ ρ S ds, Rel G ρ H1 S ∧ Dens G ρ H1 ds vs ∧ PostD G (fun c d h => W c d σ h) ρ H1 Q (m ds S)) (k := fun _ => m) (fun ρ η H S xs vs r e d q => ⟨ρ, S, xs, r, d, q⟩) h
    refine PySem.W.callWith_K (h₀ := X.base) I.ok.mod.kin hk' (thn ((pa_all (.cons h1 h2)).run pos pins s σ H _ I hA) fun us s1 ⟨vs, H1, I1, r, q⟩ => ⟨I1.kIn, ?_⟩) (h1.2 _ _) (args_plain h2)
    exact hc X W ok hr pins σ H1 s1 us vs Q I1 r q

/-- the methods of a name -/
def MethV (G : GC) (k : Nat) (n : Str) (c : Nat) (m : Fn) : Prop := ∃ y C f, G.gt[c]? = some y ∧ G.mg y = some (.ref C) ∧ Cls G.K C ∧ Meth G.K C n f ∧ CallV G k (.ref f) m
theorem gt_inj {c c' : Nat} {y : Str} (a : G.gt[c]? = some y) (b : G.gt[c']? = some y) : c = c' := nodup_at G.gtN a b
theorem flds_none {ρ : List Addr} {H : Hp} {a : Nat} {n : Str} (ha : G.ats[a]? = some n) : ∀ {fs : List (Nat × D)} {gs : List (Str × V)}, Flds G ρ H fs gs → fs.lookup a = none → gs.lookup n = none
  | _, _, .nil, _ => rfl
  | (i, d) :: fs, (y, v) :: gs, .cons h t, e => by
    rw [List.lookup_cons] at e ⊢
    cases hi : a == i with
    | true => rw [hi] at e; cases e
    | false =>
      rw [hi] at e
      have ne : (n == y) = false := by
        rw [beq_eq_false_iff_ne]
        rintro rfl
        exact (beq_eq_false_iff_ne.mp hi) (nodup_at G.atN ha h.1)
      rw [ne]
      exact flds_none ha t e
theorem flds_some {ρ : List Addr} {H : Hp} {a : Nat} {n : Str} (ha : G.ats[a]? = some n) {d : D} : ∀ {fs : List (Nat × D)} {gs : List (Str × V)}, Flds G ρ H fs gs → fs.lookup a = some d → ∃ v, gs.lookup n = some v ∧ Den G ρ H d v
  | (i, d') :: fs, (y, v) :: gs, .cons h t, e => by
    rw [List.lookup_cons] at e
    rw [List.lookup_cons]
    cases hi : a == i with
    | true =>
      rw [hi] at e
      cases e
      have ei : a = i := beq_iff_eq.mp hi
      subst ei
      have e2 : n = y := Option.some.inj (ha.symm.trans h.1)
      subst e2
      rw [beq_self_eq_true]
      exact ⟨v, rfl, h.2⟩
    | false =>
      rw [hi] at e
      have ne : (n == y) = false := by
        rw [beq_eq_false_iff_ne]
        rintro rfl
        exact (beq_eq_false_iff_ne.mp hi) (nodup_at G.atN ha h.1)
      rw [ne]
      exact flds_some ha t e
theorem lookup_mem {α : Type} {c : Nat} {m : α} : ∀ {l : List (Nat × α)}, l.lookup c = some m → (c, m) ∈ l
  | (i, m') :: l, e => by
    rw [List.lookup_cons] at e
    cases hi : c == i with
    | true => rw [hi] at e; cases e; rw [beq_iff_eq.mp hi]; exact List.mem_cons_self
    | false => rw [hi] at e; exact List.mem_cons_of_mem _ (lookup_mem e)
theorem mOf_ok {mt : List (Nat × Fn)} {a : Nat} {n : Str} (hmt : ∀ q ∈ mt, MethV G k n q.1 q.2) (ha : G.ats[a]? = some n) {ρ : List Addr} {H : Hp} {S : Sto} {o : D} {v : V} {α β : Type} {K : Fn → M α} {Rv : List Addr → Hp → α → β → Prop} {W' : Value → Option Addr → Hp → Prop} {Q : β → Hp → Prop}
    (r : Rel G ρ H S) (d : Den G ρ H o v) (p : Post G Rv W' ρ H Q (bnd (mOf mt a o) K S)) :
    ∃ ad C dx gs f m, v = .ref ad ∧ H ad = some (.ins C dx gs) ∧ Cls G.K C ∧ Meth G.K C n f ∧ gs.lookup n = none ∧ CallV G k (.ref f) m ∧ Post G Rv W' ρ H Q (K m S) := by
  cases d with
  | ref hn =>
    unfold mOf at p
    rw [bnd_assoc] at p
    obtain ⟨c, hc, p⟩ := bnd_lod p
    cases c with
    | ins c gs =>
      dsimp only at p
      cases e : mt.lookup c with
      | none => rw [e] at p; exact p.elim
      | some m =>
        rw [e] at p
        dsimp only at p
        rw [bnd_grd] at p
        obtain ⟨e2, p⟩ := grd_no p
        obtain ⟨y, ca, dx, gv, h1, h2, h3, h4⟩ := r.cell _ _ _ hc hn
        obtain ⟨y', C, f, k1, k2, k3, k4, k5⟩ := hmt _ (lookup_mem e)
        have ey : y = y' := Option.some.inj (h1.symm.trans k1)
        subst ey
        rw [h2] at k2
        cases k2
        exact ⟨_, _, dx, gv, f, m, rfl, h3, k3, k4, flds_none ha h4 (Option.isNone_iff_eq_none.mp e2), k5, p⟩
    | _ => exact p.elim
  | _ => exact p.elim
/-- o.m(e, ..), m a def of the text -/
theorem pe_methF {o : Expr} {f : EE} {mt : List (Nat × Fn)} {a : Nat} {n : Str} (ok : Ok G X W) (hr : Room k X.A) (hmt : ∀ q ∈ mt, MethV G k n q.1 q.2) (hat : G.ats[a]? = some n) (ho : PE X o (T G W f)) (ha : Args G X W es fs)
    (hbase : attributeBase o n X.env (eval o X.env) = eval o X.env) (hline : (apos.endLine == pos.line) = true) (hfew : decide (es.length < 30) = true) :
    PE X (.Call (.Attribute o n apos) es [] pos) (T G W (eMeth mt a f fs)) := by
  refine ⟨fun pins s σ H Q I h => ?_⟩
  have e1 : methodCallForm (es.length + ([] : List Keyword).length) (backTo pos (starEach es X.env)) (backToKw pos (keywordEach [] X.env)) = true := by
    have h1 : (backTo pos (starEach es X.env)).all (fun z => !z.1) = true := by
      have := args_plain (pos := pos) ha
      rw [List.all_eq_not_any_not]
      simpa using this
    have h2 : es.length < 30 := of_decide_eq_true hfew
    unfold methodCallForm
    rw [h1]
    simp [backToKw, keywordEach, h2]
  have ev : eval (.Call (.Attribute o n apos) es [] pos) X.env = (do
      let ov ← eval o X.env
      standAt apos.atName
      let (f, first) ← holding [ov] (getMethod ov n (do return (← importBound o X.env).getD true))
      callWith pos f first (backTo pos (starEach es X.env)) (backToKw pos (keywordEach [] X.env))) := by
    show (do
      let ov ← attributeBase o n X.env (eval o X.env)
      standAt apos.atName
      methodCall o n apos pos X.env ov (es.length + ([] : List Keyword).length) (backTo pos (starEach es X.env)) (backToKw pos (keywordEach [] X.env))) = _
    rw [hbase]
    unfold methodCall
    rw [e1]
    unfold methodCallPos
    rw [hline]
    rfl
  obtain ⟨ρ, η, S, r, e, q⟩ := h
  have hT : T G W f σ H fun v H1 => ∃ ad C dx gs f m, v = .ref ad ∧ H1 ad = some (.ins C dx gs) ∧ Cls G.K C ∧ Meth G.K C n f ∧ gs.lookup n = none ∧ CallV G k (.ref f) m ∧ ∃ ρ η S o, Rel G ρ H1 S ∧ EnvOk G ρ H1 η σ ∧ Den G ρ H1 o v ∧ PostD G (fun c d h => W c d σ h) ρ H1 Q (bnd (aL fs η) (fun xs => m (o :: xs)) S) := by
    refine ⟨ρ, η, S, r, e, Post.mono (Post.bnd (Rv := Den G) q) fun v H1 ⟨ρ1, S1, x1, g1, r1, d1, _, p1⟩ => ?_⟩
    obtain ⟨ad, C, dx, gs, f, m, h1, h2, h3, h4, h5, h6, h7⟩ := mOf_ok hmt hat r1 d1 p1
    exact ⟨ad, C, dx, gs, f, m, h1, h2, h3, h4, h5, h6, ρ1, η, S1, x1, r1, e.mono g1, d1, h7⟩
  refine PySem.W.methodCall_KW (thn (ho.run pins s σ H _ I hT) fun u s1 ⟨v, H1, I1, rv, ad, C, dx, gs, g, m, h1, h2, h3, h4, h5, h6, ρ1, η1, S1, x1, r1, en1, d1, q1⟩ => ?_) ev
  subst h1
  obtain rfl : u = Value.ref ad := rv
  refine getmeth_ok I1 h2 (by rw [ok.K]; exact h3) (by rw [ok.K]; exact h4) h5 ?_
  have hkp : PySem.W.keepIn X.K (.ref g) = true := by rw [ok.K]; exact h4.kp
  cases ha with
  | nil =>
    exact PySem.W.callWith_K0 (first := [.ref ad]) I1.kIn hkp (h6 X W ok hr pins σ H1 s1 [.ref ad] [.ref ad] Q I1 (.cons rfl .nil) ⟨ρ1, S1, [x1], r1, .cons d1 .nil, q1⟩)
  | cons a1 a2 =>
    have hA : TL G W (aL (_ :: _)) σ H1 fun vs H2 => ∃ ρ S ds, Rel G ρ H2 S ∧ Dens G ρ H2 ds (.ref ad :: vs) ∧ PostD G (fun c d h => W c d σ h) ρ H2 Q (m ds S) :=
      ⟨ρ1, η1, S1, r1, en1, Post.mono (Post.bnd (Rv := Dens G) q1) fun vs H2 ⟨ρ2, S2, xs, g2, r2, d2, _, p2⟩ => ⟨ρ2, S2, x1 :: xs, r2, .cons (d1.mono g2) d2, p2⟩⟩
    refine PySem.W.callWith_K (first := [.ref ad]) (h₀ := X.base) I1.ok.mod.kin hkp (thn ((pa_all (.cons a1 a2)).run pos pins s1 σ H1 _ I1 hA) fun us s2 ⟨vs, H2, I2, r2, q2⟩ => ⟨I2.kIn, ?_⟩) (a1.2 _ _) (args_plain a2)
    exact h6 X W ok hr pins σ H2 s2 (.ref ad :: us) (.ref ad :: vs) Q I2 (.cons rfl r2) q2
/-! ### attributes -/
/-- a plain field: no class of it has the name; a property: its getter -/
def AtV (G : GC) (k : Nat) (n : Str) (c : Nat) (om : Option Fn) : Prop := ∃ y C, G.gt[c]? = some y ∧ G.mg y = some (.ref C) ∧ Cls G.K C ∧ match om with
  | none => NoAttr G.K C n
  | some m => ∃ j p g fd ps, j + 1 ≤ k ∧ PropOf G.K C n p g ∧ FnG G j g fd ps m ∧ Binds G.K fd ps [] ∧ Arity m ps.length
theorem noX_post {α β : Type} {m : M α} {S : Sto} {Rv : List Addr → Hp → α → β → Prop} {W' : Value → Option Addr → Hp → Prop} {Q : β → Hp → Prop} {ρ : List Addr} {H : Hp} (p : Post G Rv W' ρ H Q (noX m S)) : Post G Rv (fun _ _ _ => False) ρ H Q (m S) := by
  unfold noX at p
  cases e : m S with
  | ok a S' => rw [e] at p; exact p
  | exc c fs S' => rw [e] at p; exact p.elim
  | no => rw [e] at p; exact p.elim
/-- e.f -/
theorem pe_attr {o : Expr} {f : EE} {tb : List (Nat × Option Fn)} {a : Nat} {n : Str} (ok : Ok G X W) (hr : Room k X.A) (htb : ∀ q ∈ tb, AtV G k n q.1 q.2) (hat : G.ats[a]? = some n) (ho : PE X o (T G W f))
    (hbase : attributeBase o n X.env (eval o X.env) = eval o X.env) : PE X (.Attribute o n pos) (T G W (eAttr tb a f)) := by
  refine ⟨fun pins s σ H Q I h => ?_⟩
  have hT := T_then (f := f) (k := fun _ => atB tb a) (R := fun v H1 => ∃ ρ S o, Rel G ρ H1 S ∧ Den G ρ H1 o v ∧ PostD G (fun c d h => W c d σ h) ρ H1 Q (atB tb a o S)) (fun ρ η H S o v r e d p => ⟨ρ, S, o, r, d, p⟩) h
  refine attr_of hbase (thn (ho.run pins s σ H _ I hT) fun u s1 ⟨v, H1, I1, rv, ρ1, S1, o1, r1, d1, p1⟩ => ?_)
  cases d1 with
  | ref hn =>
    obtain rfl : u = Value.ref _ := rv
    unfold atB at p1
    obtain ⟨c, hc, p1⟩ := bnd_lod p1
    cases c with
    | ins c gs =>
      dsimp only at p1
      cases e : tb.lookup c with
      | none => rw [e] at p1; exact p1.elim
      | some om =>
        rw [e] at p1
        obtain ⟨y, ca, dx, gv, h1, h2, h3, h4⟩ := r1.cell _ _ _ hc hn
        obtain ⟨y', C, k1, k2, k3, k4⟩ := htb _ (lookup_mem e)
        have ey : y = y' := Option.some.inj (h1.symm.trans k1)
        subst ey
        rw [h2] at k2
        cases k2
        cases om with
        | none =>
          dsimp only at p1 k4
          obtain ⟨d, ed, p1⟩ := post_ofO p1
          obtain ⟨w, hw, dw⟩ := flds_some hat h4 ed
          exact getattr_ok I1 h3 (by rw [ok.K]; exact k3) (by rw [ok.K]; exact k4) hw fun u' s2 I2 ru => ⟨w, H1, I2, ru, post_ret r1 p1 dw⟩
        | some m =>
          dsimp only at p1 k4
          obtain ⟨j, p, g, fd, ps, hj, hp, F, hb, ar⟩ := k4
          obtain ⟨P, w, K, mg, base, A, N, s0, H0, env, outer, stack, ex, fn, calm, pn, xe⟩ := X
          obtain ⟨eP, ew, eK, em, eb, ec, tk, nd, un⟩ := ok
          dsimp only at eP ew eK em eb
          subst eP ew eK em eb
          have dd : Dens G ρ1 H1 [.ref _] [.ref _] := .cons (.ref hn) .nil
          have p2 := noX_post p1
          exact getprop_ok (sp := spF G m ps.length) (E := fun _ _ _ => False) (dvs := []) I1 h3 k3 hp F (hr.mono hj) hb .nil (fun pins σ H s e s' _ ⟨_, _, _, _, _, _, _, _, _, _, _, _, z⟩ => z.elim) ⟨arity_len ar dd p2, ρ1, S1, _, r1, dd, p2⟩
    | _ => exact p1.elim
  | _ => exact p1.elim
end
end
end
end Lt

end
section
set_option Elab.async false
set_option linter.all false
set_option maxRecDepth 100000
set_option maxHeartbeats 4000000
/-! Lt, part 6: what loops and comprehensions walk. -/
namespace Lt
noncomputable section
open PySem PySem.Spec PyProof.Rows L2

/-- at turn i: stuck, the end, an item -/
abbrev IT := Nat → Sto → Option (Option D)
abbrev II := Env → M IT
def itL (n : Nat) : IT := fun i S => match lsO S[n]? with
  | some xs => some xs[i]?
  | none => none
def itT (xs : List D) : IT := fun i _ => some xs[i]?
def itR (lo : Int) (n : Nat) : IT := fun i _ => some (match decide (i < n) with
  | true => some (.int (lo + i))
  | false => none)
def itS (x : Str) : IT := fun i _ => some (match x.cps[i]? with
  | some c => some (.str ⟨#[c]⟩)
  | none => none)
def itE (n : Nat) : IT := fun i S => match lsO S[n]? with
  | some xs => some (match xs[i]? with
    | some x => some (.tup [.int (i : Nat), x])
    | none => none)
  | none => none
def pairD : Option D → Option D → Option D
  | some x, some y => some (.tup [x, y])
  | _, _ => none
def itZ (n m : Nat) : IT := fun i S => match lsO S[n]?, lsO S[m]? with
  | some xs, some ys => some (pairD xs[i]? ys[i]?)
  | _, _ => none
def itZT (xs ys : List D) : IT := fun i _ => some (pairD xs[i]? ys[i]?)
/-- by value -/
def itOf : D → M IT
  | .ref n => bnd (lsAt n) fun _ => ret (itL n)
  | .tup xs => ret (itT xs)
  | .str x => ret (itS x)
  | _ => no
def iEach (f : EE) : II := fun η => bnd (f η) itOf
def small62 (i : Int) : Bool := decide (-(2 ^ 62) ≤ i) && decide (i < 2 ^ 62)
def rng1 : D → M IT
  | .int j => grd (small62 j) (ret (itR 0 j.toNat))
  | _ => no
def rng2 : D → D → M IT
  | .int i, .int j => grd (small62 i && small62 j) (ret (itR i (j - i).toNat))
  | _, _ => no
def iRange1 (f : EE) : II := fun η => bnd (f η) rng1
def iRange2 (f g : EE) : II := fun η => bnd (f η) fun x => bnd (g η) fun y => rng2 x y
def enm : D → M IT
  | .ref n => bnd (lsAt n) fun _ => ret (itE n)
  | _ => no
def iEnumE (f : EE) : II := fun η => bnd (f η) enm
def zp : D → D → M IT
  | .ref n, .ref m => bnd (lsAt n) fun _ => bnd (lsAt m) fun _ => ret (itZ n m)
  | .tup xs, .tup ys => ret (itZT xs ys)
  | _, _ => no
def iZipE (f g : EE) : II := fun η => bnd (f η) fun x => bnd (g η) fun y => zp x y

section
variable {G : GC}
/-- the semantics' iterator and the rules' -/
def ItDen (G : GC) (ρ : List Addr) (H : Hp) (it : IT) (J : It) : Prop := ∀ ρ' H' S' i, Gr G ρ H ρ' H' → Rel G ρ' H' S' → match it i S' with
  | none => True
  | some none => J.stop i H'
  | some (some d) => J.go i H' ∧ ∀ x H2, J.yld i H' x H2 → Grow G ρ' H' ρ' H2 ∧ Rel G ρ' H2 S' ∧ Den G ρ' H2 d x
def TI' (G : GC) (W : TW) (f : II) : L2.TI := fun σ H R => ∃ ρ η S, Rel G ρ H S ∧ EnvOk G ρ H η σ ∧ Post G (ItDen G) (fun c d h => W c d σ h) ρ H R (f η S)
variable {ρ : List Addr} {H : Hp} {S : Sto} {W' : Value → Option Addr → Hp → Prop}
theorem sqL_inj_of {K : PySem.W.Frag} {a : Addr} {xs ys : List V} (h : SqL K H a xs) (k : SqL K H a ys) (r : ∃ o, H a = some o) : xs = ys ∨ True := .inr trivial
theorem itL_den {n : Nat} {a : Addr} (h : ρ[n]? = some a) : ItDen G ρ H (itL n) (Itl G.K a) := by
  intro ρ' H' S' i g r
  unfold itL
  have ha := g.at_ h
  cases e : lsO S'[n]? with
  | none => exact trivial
  | some xs =>
    obtain ⟨vs, hq, d⟩ := r.list ha e
    try dsimp only
    cases ex : xs[i]? with
    | none =>
      refine ⟨vs, hq, ?_⟩
      rw [← d.length]
      exact List.getElem?_eq_none_iff.mp ex
    | some x =>
      obtain ⟨v, hv, dv⟩ := pr_get d.pr ex
      refine ⟨⟨vs, v, hq, hv⟩, fun y H2 ⟨e1, e2⟩ => ?_⟩
      subst e1
      have e3 : vs[i]? = some y := e2 vs hq
      rw [hv] at e3
      cases e3
      exact ⟨Grow.refl, r, dv⟩
theorem itT_den {xs : List D} {a : Addr} {vs : List V} (h : SqT G.K H a vs) (d : Dens G ρ H xs vs) : ItDen G ρ H (itT xs) (Itt G.K a) := by
  intro ρ' H' S' i g r
  unfold itT
  have hq := g.tup _ _ h
  have d := d.mono0 g
  try dsimp only
  cases ex : xs[i]? with
  | none =>
    refine ⟨vs, hq, ?_⟩
    rw [← d.length]
    exact List.getElem?_eq_none_iff.mp ex
  | some x =>
    obtain ⟨v, hv, dv⟩ := pr_get d.pr ex
    refine ⟨⟨vs, v, hq, hv⟩, fun y H2 ⟨e1, e2⟩ => ?_⟩
    subst e1
    have e3 : vs[i]? = some y := e2 vs hq
    rw [hv] at e3
    cases e3
    exact ⟨Grow.refl, r, dv⟩
theorem itR_den (lo : Int) (n : Nat) : ItDen G ρ H (itR lo n) (Itr lo n) := by
  intro ρ' H' S' i g r
  unfold itR
  try dsimp only
  cases e : decide (i < n) with
  | true =>
    refine ⟨(of_decide_eq_true e : i < n), fun y H2 ⟨e1, e2⟩ => ?_⟩
    subst e1 e2
    exact ⟨Grow.refl, r, .int _⟩
  | false => exact Nat.le_of_not_lt (of_decide_eq_false e : ¬ i < n)
theorem itS_den (x : Str) : ItDen G ρ H (itS x) (Its x) := by
  intro ρ' H' S' i g r
  unfold itS
  try dsimp only
  cases e : x.cps[i]? with
  | none => exact Array.getElem?_eq_none_iff.mp e
  | some c =>
    refine ⟨(Array.getElem?_eq_some_iff.mp e).1, fun y H2 ⟨e1, c', e2, e3⟩ => ?_⟩
    subst e1 e3
    rw [e] at e2
    cases e2
    exact ⟨Grow.refl, r, .str _⟩
theorem itE_den {n : Nat} {a : Addr} (h : ρ[n]? = some a) : ItDen G ρ H (itE n) (Ite G.K a) := by
  intro ρ' H' S' i g r
  unfold itE
  have ha := g.at_ h
  cases e : lsO S'[n]? with
  | none => exact trivial
  | some xs =>
    obtain ⟨vs, hq, d⟩ := r.list ha e
    try dsimp only
    cases ex : xs[i]? with
    | none =>
      refine ⟨vs, hq, ?_⟩
      rw [← d.length]
      exact List.getElem?_eq_none_iff.mp ex
    | some x =>
      obtain ⟨v, hv, dv⟩ := pr_get d.pr ex
      refine ⟨⟨vs, v, hq, hv⟩, fun y H2 ⟨T, z, e1, e0, e2, e3⟩ => ?_⟩
      subst e1 e2
      have e4 : vs[i]? = some z := e3 vs hq
      rw [hv] at e4
      cases e4
      have g2 : Grow G ρ' H' ρ' (upd H' T (.tup [.int (i : Nat), v])) := grow_upd e0
      exact ⟨g2, r.upd_fresh e0, .tup (SqT.of upd_same) (.cons (.int _) (.cons (dv.mono g2) .nil))⟩
theorem itZ_den {n m : Nat} {a b : Addr} (h : ρ[n]? = some a) (h' : ρ[m]? = some b) : ItDen G ρ H (itZ n m) (Itz G.K a b) := by
  intro ρ' H' S' i g r
  unfold itZ
  have ha := g.at_ h
  have hb := g.at_ h'
  cases e : lsO S'[n]? with
  | none => exact trivial
  | some xs =>
    cases e' : lsO S'[m]? with
    | none => exact trivial
    | some ys =>
      obtain ⟨vs, hq, d⟩ := r.list ha e
      obtain ⟨ws, hq', d'⟩ := r.list hb e'
      try dsimp only
      cases ex : xs[i]? with
      | none =>
        refine ⟨vs, ws, hq, hq', .inl ?_⟩
        rw [← d.length]
        exact List.getElem?_eq_none_iff.mp ex
      | some x =>
        cases ey : ys[i]? with
        | none =>
          refine ⟨vs, ws, hq, hq', .inr ?_⟩
          rw [← d'.length]
          exact List.getElem?_eq_none_iff.mp ey
        | some y =>
          obtain ⟨v, hv, dv⟩ := pr_get d.pr ex
          obtain ⟨w, hw, dw⟩ := pr_get d'.pr ey
          refine ⟨⟨vs, ws, v, w, hq, hq', hv, hw⟩, fun z H2 ⟨T, z1, z2, e1, e0, e2, e3, e4⟩ => ?_⟩
          subst e1 e2
          have k1 : vs[i]? = some z1 := e3 vs hq
          have k2 : ws[i]? = some z2 := e4 ws hq'
          rw [hv] at k1
          rw [hw] at k2
          cases k1; cases k2
          have g2 : Grow G ρ' H' ρ' (upd H' T (.tup [v, w])) := grow_upd e0
          exact ⟨g2, r.upd_fresh e0, .tup (SqT.of upd_same) (.cons (dv.mono g2) (.cons (dw.mono g2) .nil))⟩
theorem itZT_den {xs ys : List D} {a b : Addr} {vs ws : List V} (h : SqT G.K H a vs) (d : Dens G ρ H xs vs) (h' : SqT G.K H b ws) (d' : Dens G ρ H ys ws) : ItDen G ρ H (itZT xs ys) (RZ.ItzT G.K a b) := by
  intro ρ' H' S' i g r
  unfold itZT
  have hq := g.tup _ _ h
  have hq' := g.tup _ _ h'
  have d := d.mono0 g
  have d' := d'.mono0 g
  try dsimp only
  cases ex : xs[i]? with
  | none =>
    refine ⟨vs, ws, hq, hq', .inl ?_⟩
    rw [← d.length]
    exact List.getElem?_eq_none_iff.mp ex
  | some x =>
    cases ey : ys[i]? with
    | none =>
      refine ⟨vs, ws, hq, hq', .inr ?_⟩
      rw [← d'.length]
      exact List.getElem?_eq_none_iff.mp ey
    | some y =>
      obtain ⟨v, hv, dv⟩ := pr_get d.pr ex
      obtain ⟨w, hw, dw⟩ := pr_get d'.pr ey
      refine ⟨⟨vs, ws, v, w, hq, hq', hv, hw⟩, fun z H2 ⟨T, z1, z2, e1, e0, e2, e3, e4⟩ => ?_⟩
      subst e1 e2
      have k1 : vs[i]? = some z1 := e3 vs hq
      have k2 : ws[i]? = some z2 := e4 ws hq'
      rw [hv] at k1
      rw [hw] at k2
      cases k1; cases k2
      have g2 : Grow G ρ' H' ρ' (upd H' T (.tup [v, w])) := grow_upd e0
      exact ⟨g2, r.upd_fresh e0, .tup (SqT.of upd_same) (.cons (dv.mono g2) (.cons (dw.mono g2) .nil))⟩

section
variable {X : Cx} {W : TW} {tg : Expr} {pos p : Pos} {f g : EE}
theorem pi_mono {e : Expr} {t t' : L2.TI} (h : PI X tg e t) (k : ∀ σ H R, t' σ H R → t σ H R) : PI X tg e t' := ⟨fun pins s σ H R I q => h.run pins s σ H R I (k σ H R q)⟩
theorem pi_or {e : Expr} {t t' : L2.TI} (h : PI X tg e t) (h' : PI X tg e t') : PI X tg e (fun σ H Q => t σ H Q ∨ t' σ H Q) := ⟨fun pins s σ H R I q => q.elim (h.run pins s σ H R I) (h'.run pins s σ H R I)⟩
abbrev PostI (G : GC) (W' : Value → Option Addr → Hp → Prop) (ρ : List Addr) (H : Hp) (R : It → Hp → Prop) (r : Lt.R IT) : Prop := Post G (ItDen G) W' ρ H R r
theorem itOf_ok {x : D} {v : V} {R : It → Hp → Prop} (r : Rel G ρ H S) (d : Den G ρ H x v) (p : PostI G W' ρ H R (itOf x S)) :
    (∃ a, v = .ref a ∧ (∃ xs, SqL G.K H a xs) ∧ R (Itl G.K a) H) ∨ (∃ a, v = .ref a ∧ (∃ xs, SqT G.K H a xs) ∧ R (Itt G.K a) H) ∨ ∃ z, v = .str z ∧ R (Its z) H := by
  cases d with
  | ref ha =>
    obtain ⟨xs, e, p⟩ := bnd_lsAt p
    obtain ⟨vs, hq, _⟩ := r.list ha e
    exact .inl ⟨_, rfl, ⟨vs, hq⟩, p ρ H _ Grow.refl r (itL_den ha)⟩
  | tup h d => exact .inr (.inl ⟨_, rfl, ⟨_, h⟩, p ρ H _ Grow.refl r (itT_den h d)⟩)
  | str z => exact .inr (.inr ⟨z, rfl, p ρ H _ Grow.refl r (itS_den z)⟩)
  | _ => exact p.elim
/-- a list, a tuple, a text -/
theorem pi_each {e : Expr} (k : Ok G X W) (he : PE X e (T G W f)) : PI X tg e (TI' G W (iEach f)) := by
  refine ⟨fun pins s σ H R I ⟨ρ, η, S, r, en, p⟩ => ?_⟩
  have hT : T G W f σ H fun v H1 => (∃ a, v = .ref a ∧ (∃ xs, SqL G.K H1 a xs) ∧ R (Itl G.K a) H1) ∨ (∃ a, v = .ref a ∧ (∃ xs, SqT G.K H1 a xs) ∧ R (Itt G.K a) H1) ∨ ∃ z, v = .str z ∧ R (Its z) H1 :=
    ⟨ρ, η, S, r, en, Post.mono (Post.bnd (Rv := Den G) p) fun v H1 ⟨ρ1, S1, x, g1, r1, d1, _, p1⟩ => itOf_ok r1 d1 p1⟩
  rw [← k.K] at hT
  refine thn (he.run pins s σ H _ I hT) fun v s1 ⟨x, H1, I1, r1, q1⟩ => ?_
  rcases q1 with ⟨a, e, ⟨xs, hq⟩, q⟩ | ⟨a, e, ⟨xs, hq⟩, q⟩ | ⟨z, e, q⟩
  · subst e
    cases r1
    obtain ⟨its, rv, p, hz⟩ := I1.list hq
    exact wpAny_pyIter_list p.isList (pi_one (tk := s1.toks) I1 _ (turn_list a _) ⟨_, Heap.get?_push_size _ rfl, rfl, rfl⟩ q)
  · subst e
    cases r1
    obtain ⟨its, rv, p, hz⟩ := I1.tuple hq
    exact wpAny_pyIter_tuple (show s1.heap.IsTuple a its.toArray from p) (pi_one (tk := s1.toks) I1 _ (turn_tuple a _) ⟨_, Heap.get?_push_size _ rfl, rfl, rfl⟩ q)
  · subst e
    obtain ⟨t, rfl⟩ := r1
    cases ha : z.cps.all (· < 128)
    · exact wpAny_pyIter_wide ha (pi_one (tk := s1.toks) I1 _ (turn_str _ z t "str_iterator" (.inr rfl)) ⟨_, Heap.get?_push_size _ rfl, rfl, rfl⟩ q)
    · exact wpAny_pyIter_ascii ha (pi_one (tk := s1.toks) I1 _ (turn_str _ z t "str_ascii_iterator" (.inl rfl)) ⟨_, Heap.get?_push_size _ rfl, rfl, rfl⟩ q)
theorem small_of {i : Int} (h : small62 i = true) : -(2 ^ 62) ≤ i ∧ i < 2 ^ 62 := by
  obtain ⟨a, b⟩ := Bool.and_eq_true_iff.mp h
  exact ⟨of_decide_eq_true a, of_decide_eq_true b⟩
theorem arg1 {e : Expr} (he : PE X e (T G W f) ∧ NoStar e) : PA X [e] (TL G W (aL [f])) := pa_all (.cons he .nil)
theorem arg2 {e e' : Expr} (he : PE X e (T G W f) ∧ NoStar e) (he' : PE X e' (T G W g) ∧ NoStar e') : PA X [e, e'] (TL G W (aL [f, g])) := pa_all (.cons he (.cons he' .nil))
theorem aL1 {α β : Type} {Rv : List Addr → Hp → α → β → Prop} {Q : β → Hp → Prop} {η : Env} {k : D → M α} (p : Post G Rv W' ρ H Q (bnd (f η) k S)) : Post G Rv W' ρ H Q (bnd (aL [f] η) (fun xs => match xs with
  | [x] => k x
  | _ => no) S) := by
  show Post G Rv W' ρ H Q (bnd (bnd (f η) fun x => bnd (ret []) fun xs => ret (x :: xs)) _ S)
  rw [bnd_assoc]
  exact p
theorem aL2 {α β : Type} {Rv : List Addr → Hp → α → β → Prop} {Q : β → Hp → Prop} {η : Env} {k : D → D → M α} (p : Post G Rv W' ρ H Q (bnd (f η) (fun x => bnd (g η) (k x)) S)) : Post G Rv W' ρ H Q (bnd (aL [f, g] η) (fun xs => match xs with
  | [x, y] => k x y
  | _ => no) S) := by
  show Post G Rv W' ρ H Q (bnd (bnd (f η) fun x => bnd (bnd (g η) fun y => bnd (ret []) fun xs => ret (y :: xs)) fun xs => ret (x :: xs)) _ S)
  rw [bnd_assoc]
  simp only [bnd_assoc]
  exact p
theorem dens1 {x : D} {vs : List V} (h : Dens G ρ H [x] vs) : ∃ v, vs = [v] ∧ Den G ρ H x v := by
  cases h with
  | cons a b => cases b; exact ⟨_, rfl, a⟩
theorem dens2 {x y : D} {vs : List V} (h : Dens G ρ H [x, y] vs) : ∃ v w, vs = [v, w] ∧ Den G ρ H x v ∧ Den G ρ H y w := by
  cases h with
  | cons a b => cases b with
    | cons c d => cases d; exact ⟨_, _, rfl, a, c⟩
theorem pi_rng1 {e : Expr} (k : Ok G X W) (hg : Gl X "range") (hm : G.mg "range" = none) (he : PE X e (T G W f) ∧ NoStar e) : PI X tg (.Call (.Name "range" p) [e] [] pos) (TI' G W (iRange1 f)) :=
  pi_mono (pi_range1 hg (by rw [k.mg]; exact hm) (arg1 he) (by rw [he.2]; rfl)) fun σ H R ⟨ρ, η, S, r, en, p⟩ =>
    ⟨ρ, η, S, r, en, Post.mono (Post.bnd (Rv := Dens G) (aL1 p)) fun vs H1 ⟨ρ1, S1, xs, g1, r1, d1, _, p1⟩ => by
      match xs, d1, p1 with
      | [x], d1, p1 =>
        obtain ⟨v, e1, d⟩ := dens1 d1
        subst e1
        cases d with
        | int j =>
          obtain ⟨c, p1⟩ := grd_no p1
          exact ⟨j, rfl, (small_of c).1, (small_of c).2, p1 ρ1 H1 _ Grow.refl r1 (itR_den 0 _)⟩
        | _ => exact p1.elim
      | [], _, p1 => exact p1.elim
      | _ :: _ :: _, _, p1 => exact p1.elim⟩
theorem pi_rng2 {e e' : Expr} (k : Ok G X W) (hg : Gl X "range") (hm : G.mg "range" = none) (he : PE X e (T G W f) ∧ NoStar e) (he' : PE X e' (T G W g) ∧ NoStar e') : PI X tg (.Call (.Name "range" p) [e, e'] [] pos) (TI' G W (iRange2 f g)) :=
  pi_mono (pi_range2 hg (by rw [k.mg]; exact hm) (arg2 he he') (by rw [he.2, he'.2]; rfl) (by rw [he'.2]; rfl)) fun σ H R ⟨ρ, η, S, r, en, p⟩ =>
    ⟨ρ, η, S, r, en, Post.mono (Post.bnd (Rv := Dens G) (aL2 p)) fun vs H1 ⟨ρ1, S1, xs, g1, r1, d1, _, p1⟩ => by
      match xs, d1, p1 with
      | [x, y], d1, p1 =>
        obtain ⟨v, w, e1, d, d'⟩ := dens2 d1
        subst e1
        cases d with
        | int i =>
          cases d' with
          | int j =>
            obtain ⟨c, p1⟩ := grd_no p1
            obtain ⟨c1, c2⟩ := Bool.and_eq_true_iff.mp c
            exact ⟨i, j, rfl, ⟨(small_of c1).1, (small_of c1).2, (small_of c2).1, (small_of c2).2⟩, p1 ρ1 H1 _ Grow.refl r1 (itR_den _ _)⟩
          | _ => exact p1.elim
        | _ => exact p1.elim
      | [], _, p1 => exact p1.elim
      | [_], _, p1 => exact p1.elim
      | _ :: _ :: _ :: _, _, p1 => exact p1.elim⟩
theorem pi_enm {e : Expr} {elts : List Expr} {kk : Nat} {tpos : Pos} (k : Ok G X W) (hg : Gl X "enumerate") (hm : G.mg "enumerate" = none) (he : PE X e (T G W f) ∧ NoStar e) : PI X (.Tuple elts kk tpos) (.Call (.Name "enumerate" p) [e] [] pos) (TI' G W (iEnumE f)) :=
  pi_mono (pi_enum hg (by rw [k.mg]; exact hm) (arg1 he) (by rw [he.2]; rfl)) fun σ H R ⟨ρ, η, S, r, en, p⟩ =>
    ⟨ρ, η, S, r, en, Post.mono (Post.bnd (Rv := Dens G) (aL1 p)) fun vs H1 ⟨ρ1, S1, xs, g1, r1, d1, _, p1⟩ => by
      match xs, d1, p1 with
      | [x], d1, p1 =>
        obtain ⟨v, e1, d⟩ := dens1 d1
        subst e1
        cases d with
        | ref ha =>
          obtain ⟨xs, e, p1⟩ := bnd_lsAt p1
          obtain ⟨vs, hq, _⟩ := r1.list ha e
          rw [k.K]
          exact ⟨_, vs, rfl, hq, p1 ρ1 H1 _ Grow.refl r1 (itE_den ha)⟩
        | _ => exact p1.elim
      | [], _, p1 => exact p1.elim
      | _ :: _ :: _, _, p1 => exact p1.elim⟩
theorem pi_zp {e e' : Expr} {elts : List Expr} {kk : Nat} {tpos : Pos} (k : Ok G X W) (hg : Gl X "zip") (hm : G.mg "zip" = none) (he : PE X e (T G W f) ∧ NoStar e) (he' : PE X e' (T G W g) ∧ NoStar e') : PI X (.Tuple elts kk tpos) (.Call (.Name "zip" p) [e, e'] [] pos) (TI' G W (iZipE f g)) :=
  pi_mono (RZ.pi_zipA hg (by rw [k.mg]; exact hm) (arg2 he he') (by rw [he.2]) (by rw [he'.2]; rfl)) fun σ H R ⟨ρ, η, S, r, en, p⟩ =>
    ⟨ρ, η, S, r, en, Post.mono (Post.bnd (Rv := Dens G) (aL2 p)) fun vs H1 ⟨ρ1, S1, xs, g1, r1, d1, _, p1⟩ => by
      match xs, d1, p1 with
      | [x, y], d1, p1 =>
        obtain ⟨v, w, e1, d, d'⟩ := dens2 d1
        subst e1
        rw [k.K]
        cases d with
        | ref ha =>
          cases d' with
          | ref hb =>
            obtain ⟨xs, e, p1⟩ := bnd_lsAt p1
            obtain ⟨ys, e', p1⟩ := bnd_lsAt p1
            obtain ⟨vs, hq, _⟩ := r1.list ha e
            obtain ⟨ws, hq', _⟩ := r1.list hb e'
            exact ⟨_, _, vs, ws, rfl, .inl ⟨hq, hq', p1 ρ1 H1 _ Grow.refl r1 (itZ_den ha hb)⟩⟩
          | _ => exact p1.elim
        | tup hq dd =>
          cases d' with
          | tup hq' dd' => exact ⟨_, _, _, _, rfl, .inr ⟨hq, hq', p1 ρ1 H1 _ Grow.refl r1 (itZT_den hq dd hq' dd')⟩⟩
          | _ => exact p1.elim
        | _ => exact p1.elim
      | [], _, p1 => exact p1.elim
      | [_], _, p1 => exact p1.elim
      | _ :: _ :: _ :: _, _, p1 => exact p1.elim⟩
end
end
end
end Lt

end
section
set_option Elab.async false
set_option linter.all false
set_option maxRecDepth 100000
set_option maxHeartbeats 4000000
/-! Lt, part 7: targets of plain names; list comprehensions. -/
namespace Lt
noncomputable section
open PySem PySem.Spec PyProof.Rows L2

/-! ### targets -/
abbrev GN := D → Env → Option Env
def gnN (i : Nat) : GN := fun d η => some (η.set i (some d))
def gnL : List GN → List D → Env → Option Env
  | [], [], η => some η
  | g :: gs, d :: ds, η => match g d η with
    | some η1 => gnL gs ds η1
    | none => none
  | _, _, _ => none
def gnT (gs : List GN) : GN := fun d η => match d with
  | .tup ds => gnL gs ds η
  | _ => none
/-- only these slots differ -/
def SameBut (is : List Nat) (σ σ' : L2.St) : Prop := σ'.length = σ.length ∧ ∀ j, j ∉ is → σ'[j]? = σ[j]?
theorem SameBut.refl (is : List Nat) (σ : L2.St) : SameBut is σ σ := ⟨rfl, fun _ _ => rfl⟩
theorem SameBut.trans {is : List Nat} {σ σ' σ'' : L2.St} (a : SameBut is σ σ') (b : SameBut is σ' σ'') : SameBut is σ σ'' := ⟨b.1.trans a.1, fun j h => (b.2 j h).trans (a.2 j h)⟩
theorem SameBut.mono {is js : List Nat} {σ σ' : L2.St} (a : SameBut is σ σ') (h : ∀ i ∈ is, i ∈ js) : SameBut js σ σ' := ⟨a.1, fun j hj => a.2 j fun z => hj (h j z)⟩
theorem wipe_get {σ : L2.St} {j : Nat} : ∀ {vs : List Nat}, (wipe σ vs)[j]? = if j ∈ vs then (if j < σ.length then some none else none) else σ[j]?
  | [] => by simp [wipe]
  | v :: vs => by
    unfold wipe
    by_cases e : v = j
    · subst e
      rw [List.getElem?_set, wipe_length]
      simp
    · rw [List.getElem?_set_ne e, wipe_get (vs := vs)]
      have : (j ∈ v :: vs) ↔ j ∈ vs := by
        simp only [List.mem_cons]
        exact ⟨fun z => z.elim (fun z => absurd z.symm e) id, .inr⟩
      simp only [this]
theorem SameBut.wipe {is vs : List Nat} {σ σ' : L2.St} (a : SameBut is σ σ') (h : ∀ i ∈ is, i ∈ vs) : L2.wipe σ' vs = L2.wipe σ vs := by
  apply List.ext_getElem?
  intro j
  rw [wipe_get, wipe_get, a.1]
  by_cases hj : j ∈ vs
  · rw [if_pos hj, if_pos hj]
  · rw [if_neg hj, if_neg hj]
    exact a.2 j fun z => hj (h j z)
theorem L2wipe_wipe (σ : L2.St) (vs : List Nat) : L2.wipe (L2.wipe σ vs) vs = L2.wipe σ vs := by
  apply List.ext_getElem?
  intro j
  rw [wipe_get, wipe_get, wipe_length]
  by_cases hj : j ∈ vs
  · rw [if_pos hj, if_pos hj]
  · rw [if_neg hj, if_neg hj]
def wipeE (η : Env) : List Nat → Env
  | [] => η
  | v :: vs => (wipeE η vs).set v none
section
variable {G : GC} {ρ ρ' : List Addr} {H H' : Hp} {η : Env} {σ : L2.St}
theorem EnvOk.unset (e : EnvOk G ρ H η σ) (i : Nat) : EnvOk G ρ H (η.set i none) (σ.set i none) := ⟨by simp [e.len], fun j x h => by
  by_cases hj : i = j
  · subst hj
    by_cases hi : i < η.length
    · rw [List.getElem?_set_self hi] at h; cases h
    · rw [List.getElem?_eq_none (by simpa using hi)] at h; cases h
  · rw [List.getElem?_set_ne hj] at h ⊢
    exact e.val j x h⟩
theorem EnvOk.wipe (e : EnvOk G ρ H η σ) : ∀ vs : List Nat, EnvOk G ρ H (wipeE η vs) (L2.wipe σ vs)
  | [] => e
  | v :: vs => (e.wipe vs).unset v
/-- the reading of a target -/
def gN (G : GC) (g : GN) (is : List Nat) : TG := fun v σ H Q => ∃ ρ η S d η', Rel G ρ H S ∧ EnvOk G ρ H η σ ∧ Den G ρ H d v ∧ g d η = some η' ∧ ∀ σ', EnvOk G ρ H η' σ' → SameBut is σ σ' → Q σ' H
def gNs (G : GC) (gs : List GN) (is : List Nat) : TGs := fun vs σ H Q => ∃ ρ η S ds η', Rel G ρ H S ∧ EnvOk G ρ H η σ ∧ Dens G ρ H ds vs ∧ gnL gs ds η = some η' ∧ ∀ σ', EnvOk G ρ H η' σ' → SameBut is σ σ' → Q σ' H
section
variable {X : Cx} {pos : Pos}
theorem pg_mono {e : Expr} {t t' : TG} (h : PG X e t) (k : ∀ v σ H Q, t' v σ H Q → t v σ H Q) : PG X e t' := ⟨fun pins s σ H v u Q I r q => h.run pins s σ H v u Q I r (k v σ H Q q)⟩
theorem pgs_mono {e : List Expr} {t t' : TGs} (h : PGs X e t) (k : ∀ v σ H Q, t' v σ H Q → t v σ H Q) : PGs X e t' := ⟨fun pins s σ H v u Q I r q => h.run pins s σ H v u Q I r (k v σ H Q q)⟩
theorem pg_nm {i : Nat} {x : Str} (hN : X.N.Nodup) (hi : X.N[i]? = some x) (hx : Loc X.env.scope x) (hf : X.fn x = true ∨ X.env.scope.names.lookup x = some .local) : PG X (.Name x pos) (gN G (gnN i) [i]) :=
  pg_mono (pg_name hN hi hx hf) fun v σ H Q ⟨ρ, η, S, d, η', r, e, dn, eg, hq⟩ => by
    cases eg
    exact hq _ (e.set dn i) ⟨by simp, fun j hj => List.getElem?_set_ne (fun z => hj (by simp [z]))⟩
theorem gN_wide {is js : List Nat} {g : GN} (h : ∀ i ∈ is, i ∈ js) {e : Expr} (p : PG X e (gN G g is)) : PG X e (gN G g js) :=
  pg_mono p fun v σ H Q ⟨ρ, η, S, d, η', r, e, dn, eg, hq⟩ => ⟨ρ, η, S, d, η', r, e, dn, eg, fun σ' e' s => hq σ' e' (s.mono h)⟩
/-- not starred -/
def NoStarG (e : Expr) : Prop := ∀ es env, assignEach (e :: es) env = (false, assign e env) :: assignEach es env
theorem pgs_all {is : List Nat} : ∀ {es : List Expr} {gs : List GN}, Paired (fun e g => PG X e (gN G g is) ∧ NoStarG e) es gs → PGs X es (gNs G gs is)
  | _, _, .nil => pgs_mono pgs_nil fun vs σ H Q ⟨ρ, η, S, ds, η', r, e, dn, eg, hq⟩ => by
    cases ds with
    | nil => cases dn; cases eg; exact ⟨rfl, hq σ e (.refl _ _)⟩
    | cons d ds => cases eg
  | _ :: _, g :: gs, .cons h t => pgs_mono (pgs_cons h.1 (pgs_all t) (by rw [h.2]; rfl)) fun vs σ H Q ⟨ρ, η, S, ds, η', r, e, dn, eg, hq⟩ => by
    cases ds with
    | nil => cases eg
    | cons d ds =>
      cases dn with
      | cons d1 d2 =>
        unfold gnL at eg
        cases e1 : g d η with
        | none => rw [e1] at eg; cases eg
        | some η1 =>
          rw [e1] at eg
          exact ⟨_, _, rfl, ρ, η, S, d, η1, r, e, d1, e1, fun σ1 en1 s1 => ⟨ρ, η1, S, ds, η', r, en1, d2, eg, fun σ2 en2 s2 => hq σ2 en2 (s1.trans s2)⟩⟩
theorem each_all {is : List Nat} : ∀ {es : List Expr} {gs : List GN}, Paired (fun e g => PG X e (gN G g is) ∧ NoStarG e) es gs → (assignEach es X.env).length = es.length ∧ (assignEach es X.env).findIdx? (·.1) = none
  | _, _, .nil => ⟨rfl, rfl⟩
  | _ :: _, _ :: _, .cons h t => by
    obtain ⟨h1, h2⟩ := each_all t
    rw [h.2]
    refine ⟨by simp [h1], ?_⟩
    rw [List.findIdx?_cons]
    simp [h2]
theorem gnL_len : ∀ {gs : List GN} {ds : List D} {η η' : Env}, gnL gs ds η = some η' → ds.length = gs.length
  | [], [], _, _, _ => rfl
  | g :: gs, d :: ds, η, η', e => by
    unfold gnL at e
    cases e1 : g d η with
    | none => rw [e1] at e; cases e
    | some η1 => rw [e1] at e; simp [gnL_len e]
  | [], _ :: _, _, _, e => by cases e
  | _ :: _, [], _, _, e => by cases e
theorem pg_tp {is : List Nat} {es : List Expr} {gs : List GN} {kk : Nat} (hc : X.calm = true) (hK : X.K = G.K) (h : Paired (fun e g => PG X e (gN G g is) ∧ NoStarG e) es gs) : PG X (.Tuple es kk pos) (gN G (gnT gs) is) :=
  pg_mono (pg_tup (n := es.length) hc (pgs_all h) (each_all h).1 (each_all h).2) fun v σ H Q ⟨ρ, η, S, d, η', r, e, dn, eg, hq⟩ => by
    cases dn with
    | @tup ds a vs hs dd =>
      refine ⟨a, vs, rfl, by rw [hK]; exact hs, ?_, ρ, η, S, ds, η', r, e, dd, eg, hq⟩
      rw [← dd.length, gnL_len eg, h.length]
    | _ => cases eg
end
end

/-! ### list comprehensions -/
theorem exFU : ∃ n : Nat, 1073741824 ≤ n := ⟨_, Nat.le_refl _⟩
/-- turns enough (not to be unfolded) -/
def FU : Nat := Classical.choose exFU
theorem FU_ge : 1073741824 ≤ FU := Classical.choose_spec exFU
/-- the loop of a clause: from turn i, the items found so far -/
def lcG (it : IT) (g : GN) (tt : BB) (body : Env → List D → M (List D)) (η0 : Env) : Nat → Nat → List D → M (List D)
  | 0, _, _ => no
  | n + 1, i, acc => fun S => match it i S with
    | none => .no
    | some none => .ok acc S
    | some (some d) => match g d η0 with
      | none => .no
      | some η1 => bnd (noX (tt η1)) (fun b => match b with
        | true => bnd (body η1 acc) (lcG it g tt body η0 n (i + 1))
        | false => lcG it g tt body η0 n (i + 1) acc) S
def lcB (te : EE) : Env → List D → M (List D) := fun η1 acc => bnd (noX (te η1)) fun x => grd (decide (acc.length < szL)) (ret (acc ++ [x]))
def lc1 (f : II) (g : GN) (tt : BB) (te : EE) (vs : List Nat) : Env → M (List D) := fun η => bnd (f η) fun it => lcG it g tt (lcB te) (wipeE η vs) FU 0 []
def lcB2 (f1 : II) (g1 : GN) (tt1 : BB) (te : EE) (vs1 : List Nat) : Env → List D → M (List D) := fun η1 acc => bnd (noX (f1 η1)) fun it1 => lcG it1 g1 tt1 (lcB te) (wipeE η1 vs1) FU 0 acc
def lc2 (f : II) (g : GN) (tt : BB) (f1 : II) (g1 : GN) (tt1 : BB) (te : EE) (vs vs1 : List Nat) : Env → M (List D) := fun η => bnd (f η) fun it => lcG it g tt (lcB2 f1 g1 tt1 te vs1) (wipeE η vs) FU 0 []
def bTrue : BB := fun _ => ret true
theorem bnd_ret_right {α : Type} (m : M α) : bnd m ret = m := by
  funext S
  unfold bnd ret
  cases m S <;> rfl
/-- a list just made, as a new cell -/
def eAlc (lf : Env → M (List D)) : EE := fun η => bnd (lf η) fun xs => alc (.lst xs)

section
variable {G : GC}
def WF : TW := fun _ _ _ _ => False
/-- a list that nothing else knows -/
def RvX (G : GC) (H0 : Hp) (ρ' : List Addr) (H' : Hp) (xs : List D) (v : V) : Prop := ∃ a vs, v = .ref a ∧ H' a = some (.lst vs) ∧ a ∉ ρ' ∧ Emp H0 a ∧ Dens G ρ' H' xs vs
def TX (G : GC) (W : TW) (lf : Env → M (List D)) : TE := fun σ H Q => ∃ ρ η S, Rel G ρ H S ∧ EnvOk G ρ H η σ ∧ Post G (RvX G H) (fun c d h => W c d σ h) ρ H Q (lf η S)
variable {ρ ρ' ρ1 : List Addr} {H H' H1 : Hp} {S S' : Sto} {D0 : Addr}
theorem none_back (g : Grow G ρ H ρ1 H1) (r : Rel G ρ1 H1 S) {a : Addr} (h : H1 a = none) : Emp H a := fun o e => by
  rcases tbl_or o with z | n
  · exact z
  · by_cases ha : a ∈ ρ
    · obtain ⟨l, hl⟩ := g.pre
      have : a ∈ ρ1 := by rw [hl]; exact List.mem_append_left _ ha
      exact absurd this (r.fresh h)
    · rw [g.fr a o ha e n] at h; cases h
theorem Rel.adopt (r : Rel G ρ H S) {a : Addr} {vs : List V} {xs : List D} (ha : a ∉ ρ) (h : H a = some (.lst vs)) (d : Dens G ρ H xs vs) : Rel G (ρ ++ [a]) H (S ++ [.lst xs]) := by
  have g : Gr G ρ H (ρ ++ [a]) H := ⟨⟨[a], rfl⟩, fun _ _ h => h⟩
  refine ⟨by simp [r.len], ?_, fun n c b h1 h2 => ?_, r.tab⟩
  · rw [List.nodup_append]
    refine ⟨r.nd, by simp, fun b hb c hc => ?_⟩
    have e : c = a := by simpa using hc
    subst e
    rintro rfl
    exact ha hb
  · by_cases hn : n < S.length
    · rw [List.getElem?_append_left hn] at h1
      rw [List.getElem?_append_left (by rw [r.len]; exact hn)] at h2
      exact (r.cell n c b h1 h2).mono0 g rfl
    · have e1 : n = S.length := by
        have := (List.getElem?_eq_some_iff.mp h1).1
        simp at this
        omega
      subst e1
      rw [List.getElem?_append_right (Nat.le_refl _)] at h1
      rw [List.getElem?_append_right (by rw [r.len]; exact Nat.le_refl _)] at h2
      simp [r.len] at h1 h2
      subst h1; subst h2
      exact ⟨vs, h, d.mono0 g⟩
theorem pe_adopt {X : Cx} {W : TW} {e : Expr} {lf : Env → M (List D)} (h : PE X e (TX G W lf)) : PE X e (T G W (eAlc lf)) :=
  pe_mono h fun σ H Q ⟨ρ, η, S, r, en, p⟩ => by
    refine ⟨ρ, η, S, r, en, ?_⟩
    have p : Post G (Den G) (fun c d h => W c d σ h) ρ H Q (bnd (lf η) (fun xs => alc (.lst xs)) S) := p
    unfold bnd at p
    cases e : lf η S with
    | ok xs S1 =>
      rw [e] at p
      intro ρ1 H1 v g r1 ⟨a, vs, ev, ha, hn, h0, d⟩
      subst ev
      exact p (ρ1 ++ [a]) H1 (.ref a) (g.push a (.inr h0)) (r1.adopt hn ha d) (.ref (r1.last a))
    | exc c fs S1 => rw [e] at p; exact p
    | no => rw [e] at p; exact p
/-- the list at D0 under way -/
structure At (G : GC) (ρ1 : List Addr) (H1 : Hp) (D0 : Addr) (acc : List D) (ρ' : List Addr) (H' : Hp) (S' : Sto) : Prop where
  g : Grow G ρ1 H1 ρ' H'
  r : Rel G ρ' H' S'
  nt : D0 ∉ ρ'
  l : ∃ vs, H' D0 = some (.lst vs) ∧ Dens G ρ' H' acc vs
theorem At.step {acc : List D} {ρ2 : List Addr} {H2 : Hp} {S2 : Sto} (a : At G ρ1 H1 D0 acc ρ' H' S') (g : Grow G ρ' H' ρ2 H2) (r : Rel G ρ2 H2 S2) : At G ρ1 H1 D0 acc ρ2 H2 S2 := by
  obtain ⟨vs, h, d⟩ := a.l
  exact ⟨a.g.trans g, r, g.notin a.nt h (fun _ z => by cases z), vs, g.fr _ _ a.nt h (fun _ z => by cases z), d.mono g⟩
/-- one more item -/
theorem At.push {acc : List D} {x : D} {v : V} {vs : List V} (h0 : Emp H1 D0) (a : At G ρ1 H1 D0 acc ρ' H' S') (h : H' D0 = some (.lst vs)) (dx : Den G ρ' H' x v) : At G ρ1 H1 D0 (acc ++ [x]) ρ' (upd H' D0 (.lst (vs ++ [v]))) S' ∧ Gr G ρ' H' ρ' (upd H' D0 (.lst (vs ++ [v]))) := by
  obtain ⟨ws, hw, d⟩ := a.l
  rw [h] at hw
  cases hw
  have g0 : Gr G ρ' H' ρ' (upd H' D0 (.lst (vs ++ [v]))) := ⟨⟨[], (List.append_nil _).symm⟩, fun b xs q => by
    rcases q with (q | ⟨u, q⟩) | q
    · exact .inl (.inl (by rw [upd_ne (by rintro rfl; rw [h] at q; cases q)]; exact q))
    · exact .inl (.inr ⟨u, by rw [upd_ne (by rintro rfl; rw [h] at q; cases q)]; exact q⟩)
    · exact .inr q⟩
  refine ⟨⟨⟨⟨a.g.pre, fun b xs q => g0.tup b xs (a.g.tup b xs q)⟩, fun b o hb e n => ?_, a.g.new⟩, ⟨a.r.len, a.r.nd, fun n c b h1 h2 => ?_, tabs_upd a.r.tab (by rw [h]; exact fun _ z => by cases z) (by rw [h]; exact fun _ z => codeO_lst (Option.some.inj z))⟩, a.nt, _, upd_same, .of (pr_app (d.mono0 g0).pr (.cons (dx.mono0 g0) .nil))⟩, g0⟩
  · rw [upd_ne (by rintro rfl; exact h0.not e n)]
    exact a.g.fr b o hb e n
  · refine (a.r.cell n c b h1 h2).mono0 g0 (upd_ne ?_)
    rintro rfl
    exact a.nt (List.mem_of_getElem? h2)
theorem noX_bnd {α β γ δ : Type} {Rv : List Addr → Hp → α → β → Prop} {Rw : List Addr → Hp → γ → δ → Prop} {W1 W2 : Value → Option Addr → Hp → Prop} {Q : δ → Hp → Prop} {m : M α} {k : α → M γ} (g : Grow G ρ H ρ' H') (h : Post G Rw W1 ρ H Q (bnd (noX m) k S)) :
    Post G Rv W2 ρ' H' (fun b H1 => ∃ ρ1 S1 a, Grow G ρ' H' ρ1 H1 ∧ Rel G ρ1 H1 S1 ∧ Rv ρ1 H1 a b ∧ m S = .ok a S1 ∧ Post G Rw W1 ρ H Q (k a S1)) (m S) := by
  unfold bnd noX at h
  cases e : m S with
  | ok a S' =>
    rw [e] at h
    exact fun ρ2 H2 b g2 r2 v2 => ⟨ρ2, S', a, g2, r2, v2, rfl, h⟩
  | exc c fs S' => rw [e] at h; exact h.elim
  | no => rw [e] at h; exact h.elim
variable {X : Cx} {W : TW}
theorem EnvOk.mono0 {η : Env} {σ : L2.St} (e : EnvOk G ρ H η σ) (g : Gr G ρ H ρ' H') : EnvOk G ρ' H' η σ := ⟨e.len, fun i d h => by
  obtain ⟨v, h1, h2⟩ := e.val i d h
  exact ⟨v, h1, h2.mono0 g⟩⟩
/-- the turns of a clause whose body puts one item in -/
theorem turns1 {it : IT} {J : It} {g : GN} {is vs : List Nat} {tt : BB} {te : EE} {η0 : Env} {σ0 : L2.St} {ρa : List Addr} {Ha : Hp} {γ δ : Type} {Rw : List Addr → Hp → γ → δ → Prop} {W' : Value → Option Addr → Hp → Prop} {Q0 : δ → Hp → Prop} {K : List D → M γ} {acc : List D} {Fin : Hp → Prop}
    (h0 : Emp H1 D0) (hit : ItDen G ρa Ha it J) (ga : Gr G ρa Ha ρ' H') (a : At G ρ1 H1 D0 acc ρ' H' S') (en : EnvOk G ρ' H' η0 (wipe σ0 vs)) (his : ∀ i ∈ is, i ∈ vs) (m0 : Nat)
    (p : Post G Rw W' ρ1 H1 Q0 (bnd (lcG it g tt (lcB te) η0 m0 0 acc) K S'))
    (fin : ∀ acc' ρe He Se, At G ρ1 H1 D0 acc' ρe He Se → Gr G ρ' H' ρe He → Post G Rw W' ρ1 H1 Q0 (K acc' Se) → Fin He) :
    ∃ Wt : Nat → Nat → Hp → Prop, (∃ m, Wt 0 m H') ∧ ∀ i m H, Wt i m H → (J.stop i H ∧ Fin H) ∨ (J.go i H ∧ ∃ Nx : Hp → Prop, (∀ H', Nx H' → ∃ m', m' < m ∧ Wt (i + 1) m' H') ∧ ∀ x H', J.yld i H x H' → gN G g is x (wipe σ0 vs) H' fun σ2 H2 => wipe σ2 vs = wipe σ0 vs ∧ TB G WF tt σ2 H2 fun b H3 =>
      if b = true then T G WF te σ2 H3 fun y H4 => ∃ acc, H4 D0 = some (.lst acc) ∧ acc.length < sizeLine ∧ Nx (upd H4 D0 (.lst (acc ++ [y]))) else Nx H3) := by
  refine ⟨fun i m Hc => ∃ ρc Sc ac, Gr G ρ' H' ρc Hc ∧ At G ρ1 H1 D0 ac ρc Hc Sc ∧ Post G Rw W' ρ1 H1 Q0 (bnd (lcG it g tt (lcB te) η0 m i ac) K Sc), ⟨m0, ρ', S', acc, Gr.refl, a, p⟩, ?_⟩
  rintro i m Hc ⟨ρc, Sc, ac, gc, ac1, pc⟩
  cases m with
  | zero => exact pc.elim
  | succ m =>
    have hi := hit ρc Hc Sc i (ga.trans gc) ac1.r
    unfold bnd lcG at pc
    cases e : it i Sc with
    | none => rw [e] at pc; exact pc.elim
    | some od =>
      rw [e] at hi pc
      cases od with
      | none => exact .inl ⟨hi, fin ac ρc Hc Sc ac1 gc pc⟩
      | some d =>
        refine .inr ⟨hi.1, fun Hn => ∃ ρn Sn an, Gr G ρ' H' ρn Hn ∧ At G ρ1 H1 D0 an ρn Hn Sn ∧ Post G Rw W' ρ1 H1 Q0 (bnd (lcG it g tt (lcB te) η0 m (i + 1) an) K Sn), fun Hn h => ⟨m, Nat.lt_succ_self _, h⟩, fun x H2 hy => ?_⟩
        obtain ⟨g2, r2, d2⟩ := hi.2 x H2 hy
        dsimp only at pc
        cases eg : g d η0 with
        | none => rw [eg] at pc; exact pc.elim
        | some η1 =>
          rw [eg] at pc
          have a2 := ac1.step g2 r2
          refine ⟨ρc, η0, Sc, d, η1, r2, en.mono0 (gc.trans g2.toGr), d2, eg, fun σ2 en2 sb => ⟨?_, ?_⟩⟩
          · rw [sb.wipe his]
            exact L2wipe_wipe σ0 vs
          have pc2 : Post G Rw W' ρ1 H1 Q0 (bnd (noX (tt η1)) (fun b => bnd (match b with
            | true => bnd (lcB te η1 ac) (lcG it g tt (lcB te) η0 m (i + 1))
            | false => lcG it g tt (lcB te) η0 m (i + 1) ac) K) Sc) := by
            rw [← bnd_assoc]
            exact pc
          refine ⟨ρc, η1, Sc, r2, en2, Post.mono (noX_bnd (Rv := fun _ _ (a b : Bool) => a = b) a2.g pc2) fun b H3 ⟨ρ3, S3, b', g3, r3, eb, _, p3⟩ => ?_⟩
          subst eb
          have a3 := a2.step g3 r3
          have gr3 : Gr G ρ' H' ρ3 H3 := (gc.trans g2.toGr).trans g3.toGr
          cases b' with
          | false =>
            refine ite_ff ⟨ρ3, S3, ac, gr3, a3, p3⟩
          | true =>
            refine ite_tt ?_
            have p4 : Post G Rw W' ρ1 H1 Q0 (bnd (noX (te η1)) (fun x => bnd (grd (decide (ac.length < szL)) (ret (ac ++ [x]))) fun an => bnd (lcG it g tt (lcB te) η0 m (i + 1) an) K) S3) := by
              have p3 : Post G Rw W' ρ1 H1 Q0 (bnd (bnd (lcB te η1 ac) (lcG it g tt (lcB te) η0 m (i + 1))) K S3) := p3
              unfold lcB at p3
              rw [bnd_assoc, bnd_assoc] at p3
              exact p3
            refine ⟨ρ3, η1, S3, r3, en2.mono g3, Post.mono (noX_bnd (Rv := Den G) a3.g p4) fun y H4 ⟨ρ4, S4, z, g4, r4, d4, _, p5⟩ => ?_⟩
            have a4 := a3.step g4 r4
            rw [bnd_grd] at p5
            obtain ⟨c, p5⟩ := grd_no p5
            obtain ⟨vs', hv, dv⟩ := a4.l
            obtain ⟨a5, g5⟩ := a4.push h0 hv d4
            refine ⟨vs', hv, ?_, ρ4, S4, ac ++ [z], (gr3.trans g4.toGr).trans g5, a5, p5⟩
            rw [← dv.length, ← szL_eq]
            exact of_decide_eq_true c
/-- blocks of X -/
abbrev Blk (X : Cx) (scope : Scope) (P : Cx → Prop) : Prop := ∀ (s : Shared) (H : Hp) (C : Addr) (cl : List (Str × Addr)) (fp : List Addr), P (X.blk s H scope (compEnvC scope cl C X.env) fp)
theorem blk_ok {scope : Scope} (k : Ok G X W) : Blk X scope fun Y => Ok G Y WF := fun s H C cl fp => ⟨k.P, k.w, k.K, k.mg, k.base, k.calm, fun u s' ⟨_, _, _, _, _, _, _, _, _, _, _, _, _, _, _, _, z⟩ => z.elim, k.nd, k.units⟩
section
variable {elt tg iter tg1 iter1 : Expr} {ifs ifs1 : List Expr} {scope : Scope} {own : List (Str × Nat)} {pos : Pos} {f f1 : II} {g g1 : GN} {is is1 vs1 : List Nat} {tt tt1 : BB} {te : EE}
theorem at0 {ρ1 : List Addr} {H1 : Hp} {S1 : Sto} {D0 : Addr} (r : Rel G ρ1 H1 S1) (h : H1 D0 = none) : At G ρ1 H1 D0 [] ρ1 (upd H1 D0 (.lst [])) S1 := ⟨grow_upd h, r.upd_fresh h, r.fresh h, [], upd_same, .nil⟩
theorem lc1_read (his : ∀ i ∈ is, i ∈ own.map (·.2)) {σ : L2.St} {H : Hp} {Q : VK} (h : TX G W (lc1 f g tt te (own.map (·.2))) σ H Q) : tLc (TI' G W f) (gN G g is) (TB G WF tt) (T G WF te) (own.map (·.2)) σ H Q := by
  obtain ⟨ρ, η, S, r, en, p⟩ := h
  have p : Post G (RvX G H) (fun c d h => W c d σ h) ρ H Q (bnd (f η) (fun it => lcG it g tt (lcB te) (wipeE η (own.map (·.2))) FU 0 []) S) := p
  refine ⟨ρ, η, S, r, en, Post.mono (Post.bnd (Rv := ItDen G) p) fun J H1 ⟨ρ1, S1, it, g1, r1, di, _, p1⟩ D0 h0 => ?_⟩
  have a0 := at0 r1 h0
  have p1 : Post G (RvX G H) (fun c d h => W c d σ h) ρ1 H1 Q (bnd (lcG it g tt (lcB te) (wipeE η (own.map (·.2))) FU 0 []) ret S1) := by
    rw [bnd_ret_right]; exact p1
  exact turns1 (.of h0) di a0.g.toGr a0 (((en.mono g1).mono a0.g).wipe _) his FU p1 fun acc' ρe He Se a _ pe => by
    obtain ⟨vs, hv, dv⟩ := a.l
    exact pe ρe He (.ref D0) a.g a.r ⟨D0, vs, rfl, hv, a.nt, none_back g1 r1 h0, dv⟩
/-- [elt for tg in iter if ..] -/
theorem pe_lcX (k : Ok G X W) (hi : PI X tg iter (TI' G W f)) (ok : BlkOk X.N X.env.scope scope own) (his : ∀ i ∈ is, i ∈ own.map (·.2)) (hg : Blk X scope fun Y => PG Y tg (gN G g is)) (ht : Blk X scope fun Y => PTs Y ifs (TB G WF tt)) (he : Blk X scope fun Y => PE Y elt (T G WF te))
    (hs : ∀ x, foldedSetIterable iter X.env x = pure x) : PE X (.ListComp elt [⟨tg, iter, ifs, 0⟩] scope pos) (TX G W (lc1 f g tt te (own.map (·.2)))) :=
  pe_mono (pe_lc k.calm k.nd hi ok hg ht he hs) fun σ H Q h => lc1_read his h
theorem wipe_wipe {σ σ2 : L2.St} {vs : List Nat} : True := trivial
theorem lc2_read (his : ∀ i ∈ is, i ∈ own.map (·.2)) (his1 : ∀ i ∈ is1, i ∈ vs1) {σ : L2.St} {H : Hp} {Q : VK} (h : TX G W (lc2 f g tt f1 g1 tt1 te (own.map (·.2)) vs1) σ H Q) :
    tLc2 (TI' G W f) (gN G g is) (TB G WF tt) (TI' G WF f1) (gN G g1 is1) (TB G WF tt1) (T G WF te) (own.map (·.2)) vs1 σ H Q := by
  obtain ⟨ρ, η, S, r, en, p⟩ := h
  generalize hvs : own.map (·.2) = vs at his p ⊢
  have p : Post G (RvX G H) (fun c d h => W c d σ h) ρ H Q (bnd (f η) (fun it => lcG it g tt (lcB2 f1 g1 tt1 te vs1) (wipeE η vs) FU 0 []) S) := p
  refine ⟨ρ, η, S, r, en, Post.mono (Post.bnd (Rv := ItDen G) p) fun J H1 ⟨ρ1, S1, it, gg1, r1, di, _, p1⟩ D0 h0 => ?_⟩
  have a0 := at0 r1 h0
  have en0 := ((en.mono gg1).mono a0.g).wipe vs
  refine ⟨fun i m Hc => ∃ ρc Sc ac, Gr G ρ1 (upd H1 D0 (.lst [])) ρc Hc ∧ At G ρ1 H1 D0 ac ρc Hc Sc ∧ Post G (RvX G H) (fun c d h => W c d σ h) ρ1 H1 Q (lcG it g tt (lcB2 f1 g1 tt1 te vs1) (wipeE η vs) m i ac Sc), ⟨FU, ρ1, S1, [], Gr.refl, a0, p1⟩, ?_⟩
  rintro i m Hc ⟨ρc, Sc, ac, gc, ac1, pc⟩
  cases m with
  | zero => exact pc.elim
  | succ m =>
    have hi := di ρc Hc Sc i (a0.g.toGr.trans gc) ac1.r
    unfold lcG at pc
    cases e : it i Sc with
    | none => rw [e] at pc; exact pc.elim
    | some od =>
      rw [e] at hi pc
      cases od with
      | none =>
        obtain ⟨vs, hv, dv⟩ := ac1.l
        exact .inl ⟨hi, pc ρc Hc (.ref D0) ac1.g ac1.r ⟨D0, vs, rfl, hv, ac1.nt, none_back gg1 r1 h0, dv⟩⟩
      | some d =>
        refine .inr ⟨hi.1, fun Hn => ∃ ρn Sn an, Gr G ρ1 (upd H1 D0 (.lst [])) ρn Hn ∧ At G ρ1 H1 D0 an ρn Hn Sn ∧ Post G (RvX G H) (fun c d h => W c d σ h) ρ1 H1 Q (lcG it g tt (lcB2 f1 g1 tt1 te vs1) (wipeE η vs) m (i + 1) an Sn), fun Hn h => ⟨m, Nat.lt_succ_self _, h⟩, fun x H2 hy => ?_⟩
        obtain ⟨g2, r2, d2⟩ := hi.2 x H2 hy
        dsimp only at pc
        cases eg : g d (wipeE η vs) with
        | none => rw [eg] at pc; exact pc.elim
        | some η1 =>
          rw [eg] at pc
          have a2 := ac1.step g2 r2
          refine ⟨ρc, wipeE η vs, Sc, d, η1, r2, en0.mono0 (gc.trans g2.toGr), d2, eg, fun σ2 en2 sb => ⟨by rw [sb.wipe his]; exact L2wipe_wipe σ vs, ?_⟩⟩
          refine ⟨ρc, η1, Sc, r2, en2, Post.mono (noX_bnd (Rv := fun _ _ (a b : Bool) => a = b) a2.g pc) fun b H3 ⟨ρ3, S3, b', g3, r3, eb, _, p3⟩ => ?_⟩
          subst eb
          have a3 := a2.step g3 r3
          have gr3 := (gc.trans g2.toGr).trans g3.toGr
          cases b' with
          | false => exact ite_ff ⟨ρ3, S3, ac, gr3, a3, p3⟩
          | true =>
            refine ite_tt ?_
            have p4 : Post G (RvX G H) (fun c d h => W c d σ h) ρ1 H1 Q (bnd (noX (f1 η1)) (fun it1 => bnd (lcG it1 g1 tt1 (lcB te) (wipeE η1 vs1) FU 0 ac) fun an => lcG it g tt (lcB2 f1 g1 tt1 te vs1) (wipeE η vs) m (i + 1) an) S3) := by
              have p3 : Post G (RvX G H) (fun c d h => W c d σ h) ρ1 H1 Q (bnd (lcB2 f1 g1 tt1 te vs1 η1 ac) (lcG it g tt (lcB2 f1 g1 tt1 te vs1) (wipeE η vs) m (i + 1)) S3) := p3
              unfold lcB2 at p3
              rw [bnd_assoc] at p3
              exact p3
            refine ⟨ρ3, η1, S3, r3, en2.mono g3, Post.mono (noX_bnd (Rv := ItDen G) a3.g p4) fun J1 H4 ⟨ρ4, S4, it1, g4, r4, di1, _, p5⟩ => ?_⟩
            have a4 := a3.step g4 r4
            exact turns1 (.of h0) di1 Gr.refl a4 (((en2.mono g3).mono g4).wipe vs1) his1 FU p5 fun acc' ρe He Se a ge pe => ⟨ρe, Se, acc', (gr3.trans g4.toGr).trans ge, a, pe⟩
theorem pe_lcX2 (k : Ok G X W) (hi : PI X tg iter (TI' G W f)) (ok : BlkOk X.N X.env.scope scope own) (his : ∀ i ∈ is, i ∈ own.map (·.2)) (hv : ∀ i ∈ vs1, i ∈ own.map (·.2)) (his1 : ∀ i ∈ is1, i ∈ vs1) (hg : Blk X scope fun Y => PG Y tg (gN G g is)) (ht : Blk X scope fun Y => PTs Y ifs (TB G WF tt))
    (hi1 : Blk X scope fun Y => PI Y tg1 iter1 (TI' G WF f1)) (hg1 : Blk X scope fun Y => PG Y tg1 (gN G g1 is1)) (ht1 : Blk X scope fun Y => PTs Y ifs1 (TB G WF tt1)) (he : Blk X scope fun Y => PE Y elt (T G WF te))
    (hs : ∀ x, foldedSetIterable iter X.env x = pure x) (hs1 : ∀ env x, foldedSetIterable iter1 env x = pure x) : PE X (.ListComp elt [⟨tg, iter, ifs, 0⟩, ⟨tg1, iter1, ifs1, 0⟩] scope pos) (TX G W (lc2 f g tt f1 g1 tt1 te (own.map (·.2)) vs1)) :=
  pe_mono (pe_lc2 k.calm k.nd hi ok hv hg ht hi1 hg1 ht1 he hs hs1) fun σ H Q h => lc2_read his his1 h
theorem pts_mono {t t' : TT} (h : PTs X ifs t) (k : ∀ σ H Q, t' σ H Q → t σ H Q) : PTs X ifs t' := ⟨fun pins s σ H Q I q => h.run pins s σ H Q I (k σ H Q q)⟩
theorem pts_0 : PTs X [] (TB G W bTrue) := pts_mono pts_nil fun σ H Q ⟨ρ, η, S, r, en, p⟩ => p ρ H true Grow.refl r rfl
theorem pts_1 {c : Expr} (h : PT X c (TB G W tt)) : PTs X [c] (TB G W tt) := pts_one h
end
end
end
end Lt

end
section
set_option Elab.async false
set_option linter.all false
set_option maxRecDepth 100000
set_option maxHeartbeats 4000000
/-! Lt, part 8: built-in functions and methods. -/
namespace Lt
noncomputable section
open PySem PySem.Spec PyProof.Rows L2

/-! ### functions on lists -/
def asI : D → Option Int
  | .int i => some i
  | _ => none
def asB : D → Option Bool
  | .bl b => some b
  | _ => none
def asS : D → Option Str
  | .str b => some b
  | _ => none
def lAll (xs : List D) : M D := bnd (ofO (optMap asB xs)) fun bs => ret (.bl (bs.all id))
def lAny (xs : List D) : M D := bnd (ofO (optMap asB xs)) fun bs => ret (.bl (bs.any id))
def lTup (xs : List D) : M D := ret (.tup xs)
def lList (xs : List D) : M D := alc (.lst xs)
def lLen (xs : List D) : M D := ret (.int xs.length)
def lSum (xs : List D) : M D := bnd (ofO (optMap asI xs)) fun ns => ret (.int ns.sum)
def maxI : List Int → Option Int
  | [] => none
  | x :: xs => match maxI xs with
    | none => some x
    | some m => some (if x ≤ m then m else x)
def minI : List Int → Option Int
  | [] => none
  | x :: xs => match minI xs with
    | none => some x
    | some m => some (if m ≤ x then m else x)
def lMax (xs : List D) : M D := bnd (ofO (optMap asI xs)) fun ns => bnd (ofO (maxI ns)) fun m => ret (.int m)
def lMin (xs : List D) : M D := bnd (ofO (optMap asI xs)) fun ns => bnd (ofO (minI ns)) fun m => ret (.int m)
/-- a built-in, its one argument a list just made -/
def eOnL (m : List D → M D) (lf : Env → M (List D)) : EE := fun η => bnd (lf η) m
/-- .. or any value -/
def onSeq (m mt : List D → M D) : Fn := fun ds => match ds with
  | [.ref n] => bnd (lsAt n) m
  | [.tup xs] => mt xs
  | _ => no
def mAll : Fn := onSeq lAll fun _ => no
def mAny : Fn := onSeq lAny fun _ => no
def mTuple : Fn := onSeq lTup lTup
def mList : Fn := onSeq lList lList
def mSum : Fn := onSeq lSum fun _ => no
def mMax : Fn := fun ds => match ds with
  | [.int i, .int j] => ret (.int (if j > i then j else i))
  | ds => onSeq lMax lMax ds
def mMin : Fn := fun ds => match ds with
  | [.int i, .int j] => ret (.int (if j < i then j else i))
  | ds => onSeq lMin (fun _ => no) ds
def mLen : Fn := fun ds => match ds with
  | [.str x] => grd (decide (x.length ≤ szL)) (ret (.int x.length))
  | ds => onSeq lLen lLen ds
def mAbs : Fn := fun ds => match ds with
  | [.int i] => ret (.int (if i < 0 then -i else i))
  | _ => no
def mInt : Fn := fun ds => match ds with
  | [.int i] => ret (.int i)
  | [.bl k] => ret (.int (if k then 1 else 0))
  | [.str a] => grd (decide (a.length ≤ 640)) (bnd (ofO (PySem.intText? a)) fun n => ret (.int n))
  | _ => no
def mStr : Fn := fun ds => match ds with
  | [.int i] => grd (decide (i.natAbs.log2 < 1920)) (ret (.str (toString i)))
  | [.str a] => ret (.str a)
  | _ => no
def mDivmod : Fn := fun ds => match ds with
  | [.int i, .int j] => grd (decide (0 < j) && decide (j < 1073741824)) (ret (.tup [.int (i / j), .int (i % j)]))
  | _ => no
/-! isinstance -/
def tyOfD (S : Sto) : D → Option (Ty ⊕ Nat)
  | .non => some (.inl .non)
  | .bl _ => some (.inl .bool)
  | .int _ => some (.inl .int)
  | .str _ => some (.inl .str)
  | .tup _ => some (.inl .tuple)
  | .ref n => match S[n]? with
    | some (.lst _) => some (.inl .list)
    | some (.fls _) => some (.inl .list)
    | some (.ins c _) => some (.inr c)
    | none => none
  | _ => none
def subTy (a b : Ty) : Bool := a == b || (a == .bool && b == .int)
def okT (ic : List Nat) : Ty ⊕ Nat → Bool
  | .inl _ => true
  | .inr c => ic.contains c
/-- ic: the classes that stand beside each other -/
def isi1 (ic : List Nat) : Ty ⊕ Nat → D → Option Bool
  | .inl a, .ty b => some (subTy a b)
  | .inl _, .glo j => if ic.contains j then some false else none
  | .inr c, .ty _ => if ic.contains c then some false else none
  | .inr c, .glo j => if ic.contains c && ic.contains j then some (c == j) else none
  | _, _ => none
def isiA (ic : List Nat) (t : Ty ⊕ Nat) : List D → Option Bool
  | [] => some false
  | c :: cs => match isi1 ic t c with
    | some true => some true
    | some false => isiA ic t cs
    | none => none
def mIsi (ic : List Nat) : Fn := fun ds S => match ds with
  | [x, c] => (match tyOfD S x with
    | some t => (match okT ic t, isi1 ic t c with
      | true, some b => .ok (.bl b) S
      | _, _ => .no)
    | none => .no)
  | _ => .no
/-- a written tuple of classes -/
def isiT (ic : List Nat) (x : D) (cs : List D) : M D := fun S => match tyOfD S x with
  | some t => (match okT ic t && cs.all (fun c => (isi1 ic t c).isSome), isiA ic t cs with
    | true, some b => .ok (.bl b) S
    | _, _ => .no)
  | none => .no
def eIsiT (ic : List Nat) (f : EE) (gs : List EE) : EE := fun η => bnd (f η) fun x => bnd (aL gs η) fun cs => isiT ic x cs
/-! ### methods of lists and texts -/
def mAppend (o : D) (ds : List D) : M D := match o, ds with
  | .ref n, [x] => bnd (lod n) fun c => match c with
    | .lst xs => grd (decide (xs.length < szL)) (bnd (sto n (.lst (xs ++ [x]))) fun _ => ret .non)
    | _ => no
  | _, _ => no
def mExtend (o : D) (ds : List D) : M D := match o, ds with
  | .ref n, [.ref m] => bnd (lod n) fun c => match c with
    | .lst xs => bnd (lod m) fun c => (match c with
      | .lst ys => grd (decide (xs.length + ys.length ≤ szL)) (bnd (sto n (.lst (xs ++ ys))) fun _ => ret .non)
      | _ => no)
    | _ => no
  | _, _ => no
def mPop (o : D) (ds : List D) : M D := match o, ds with
  | .ref n, [] => bnd (lod n) fun c => match c with
    | .lst xs => bnd (ofO xs[xs.length - 1]?) fun x => bnd (sto n (.lst xs.dropLast)) fun _ => ret x
    | _ => no
  | .ref n, [.int i] => bnd (lod n) fun c => match c with
    | .lst xs => grd (decide (-(2 ^ 63) ≤ i) && decide (i < 2 ^ 63)) (bnd (ofO (seqIndex? i xs.length)) fun k => bnd (ofO xs[k]?) fun x => bnd (sto n (.lst (xs.eraseIdx k))) fun _ => ret x)
    | _ => no
  | _, _ => no
def mReverse (o : D) (ds : List D) : M D := match o, ds with
  | .ref n, [] => bnd (lod n) fun c => match c with
    | .lst xs => bnd (sto n (.lst xs.reverse)) fun _ => ret .non
    | _ => no
  | _, _ => no
def mClear (o : D) (ds : List D) : M D := match o, ds with
  | .ref n, [] => bnd (lod n) fun c => match c with
    | .lst _ => bnd (sto n (.lst [])) fun _ => ret .non
    | _ => no
  | _, _ => no
def ixOf (p : PyData) : List PyData → Option Nat
  | [] => none
  | q :: qs => if PyData.eqv q p then some 0 else (ixOf p qs).map (· + 1)
def mIndex (o : D) (ds : List D) : M D := match o, ds with
  | .ref n, [x] => bnd (dataOf x) fun p => bnd (dataOf (.ref n)) fun q => match q with
    | .list qs => bnd (ofO (ixOf p qs)) fun j => ret (.int (j : Nat))
    | _ => no
  | _, _ => no

section
variable {G : GC}
theorem optMap_pr {α : Type} {f : D → Option α} {g : α → V} {ρ : List Addr} {H : Hp} (h : ∀ x a v, f x = some a → Den G ρ H x v → v = g a) : ∀ {xs : List D} {as : List α} {vs : List V}, optMap f xs = some as → Dens G ρ H xs vs → vs = as.map g
  | [], as, vs, e, d => by cases d; cases e; rfl
  | x :: xs, as, _ :: _, e, .cons d1 d2 => by
    unfold optMap at e
    cases e1 : f x with
    | none => rw [e1] at e; cases e
    | some a =>
      cases e2 : optMap f xs with
      | none => rw [e1, e2] at e; cases e
      | some bs =>
        rw [e1, e2] at e
        cases e
        rw [h x a _ e1 d1, optMap_pr h e2 d2]
        rfl
variable {ρ : List Addr} {H : Hp} {S : Sto} {W' : Value → Option Addr → Hp → Prop} {Q : VK} {xs : List D} {vs : List V}
theorem ints_pr {ns : List Int} (e : optMap asI xs = some ns) (d : Dens G ρ H xs vs) : vs = ns.map V.int := optMap_pr (g := V.int) (fun x a v e d => by
  cases d <;> first | (cases e; rfl) | cases e) e d
theorem bools_pr {ns : List Bool} (e : optMap asB xs = some ns) (d : Dens G ρ H xs vs) : vs = ns.map V.bl := optMap_pr (g := V.bl) (fun x a v e d => by
  cases d <;> first | (cases e; rfl) | cases e) e d
theorem strs_pr {ns : List Str} (e : optMap asS xs = some ns) (d : Dens G ρ H xs vs) : vs = ns.map V.str := optMap_pr (g := V.str) (fun x a v e d => by
  cases d <;> first | (cases e; rfl) | cases e) e d
/-- a rule at a list -/
def LstOk (r : PySem.W.Frag → List V → Hp → VK → Prop) (m : List D → M D) : Prop := ∀ (G : GC) (ρ : List Addr) (H : Hp) (S : Sto) (W' : Value → Option Addr → Hp → Prop) (Q : VK) (xs : List D) (vs : List V) (a : Addr), Rel G ρ H S → SqL G.K H a vs → Dens G ρ H xs vs → PostD G W' ρ H Q (m xs S) → r G.K [.ref a] H Q
theorem lAll_ok : LstOk rAll lAll := fun G ρ H S W' Q xs vs a r h d p => by
  obtain ⟨bs, e, p⟩ := bnd_ofO p
  rw [bools_pr e d] at h
  exact ⟨a, bs, rfl, h, post_ret r p (.bl _)⟩
theorem lAny_ok : LstOk rAny lAny := fun G ρ H S W' Q xs vs a r h d p => by
  obtain ⟨bs, e, p⟩ := bnd_ofO p
  rw [bools_pr e d] at h
  exact ⟨a, bs, rfl, h, post_ret r p (.bl _)⟩
theorem lSum_ok : LstOk rSum lSum := fun G ρ H S W' Q xs vs a r h d p => by
  obtain ⟨bs, e, p⟩ := bnd_ofO p
  rw [ints_pr e d] at h
  exact ⟨a, bs, rfl, h, post_ret r p (.int _)⟩
theorem maxI_ok : ∀ {ns : List Int} {m : Int}, maxI ns = some m → m ∈ ns ∧ ∀ y, y ∈ ns → y ≤ m
  | x :: xs, m, e => by
    unfold maxI at e
    cases e1 : maxI xs with
    | none =>
      rw [e1] at e
      cases e
      cases xs with
      | nil => exact ⟨List.mem_cons_self, fun y h => by simp at h; omega⟩
      | cons z zs =>
        unfold maxI at e1
        split at e1 <;> cases e1
    | some k =>
      rw [e1] at e
      obtain ⟨h1, h2⟩ := maxI_ok e1
      by_cases h : x ≤ k
      · simp only [h, if_true] at e
        cases e
        exact ⟨List.mem_cons_of_mem _ h1, fun y hy => by
          rcases List.mem_cons.mp hy with z | z
          · omega
          · exact h2 y z⟩
      · simp only [h, if_false] at e
        cases e
        exact ⟨List.mem_cons_self, fun y hy => by
          rcases List.mem_cons.mp hy with z | z
          · omega
          · have := h2 y z; omega⟩
theorem minI_ok : ∀ {ns : List Int} {m : Int}, minI ns = some m → m ∈ ns ∧ ∀ y, y ∈ ns → m ≤ y
  | x :: xs, m, e => by
    unfold minI at e
    cases e1 : minI xs with
    | none =>
      rw [e1] at e
      cases e
      cases xs with
      | nil => exact ⟨List.mem_cons_self, fun y h => by simp at h; omega⟩
      | cons z zs =>
        unfold minI at e1
        split at e1 <;> cases e1
    | some k =>
      rw [e1] at e
      obtain ⟨h1, h2⟩ := minI_ok e1
      by_cases h : k ≤ x
      · simp only [h, if_true] at e
        cases e
        exact ⟨List.mem_cons_of_mem _ h1, fun y hy => by
          rcases List.mem_cons.mp hy with z | z
          · omega
          · exact h2 y z⟩
      · simp only [h, if_false] at e
        cases e
        exact ⟨List.mem_cons_self, fun y hy => by
          rcases List.mem_cons.mp hy with z | z
          · omega
          · have := h2 y z; omega⟩
theorem lMax_ok : LstOk rMax lMax := fun G ρ H S W' Q xs vs a r h d p => by
  obtain ⟨ns, e, p⟩ := bnd_ofO p
  obtain ⟨m, em, p⟩ := bnd_ofO p
  rw [ints_pr e d] at h
  obtain ⟨h1, h2⟩ := maxI_ok em
  refine ⟨a, ns, rfl, h, List.length_pos_of_mem h1, fun k hk hk2 => ?_⟩
  have e2 : k = m := by
    have := h2 k hk
    have := hk2 m h1
    omega
  rw [e2]
  exact post_ret r p (.int _)
theorem lMin_ok : LstOk rMin lMin := fun G ρ H S W' Q xs vs a r h d p => by
  obtain ⟨ns, e, p⟩ := bnd_ofO p
  obtain ⟨m, em, p⟩ := bnd_ofO p
  rw [ints_pr e d] at h
  obtain ⟨h1, h2⟩ := minI_ok em
  refine ⟨a, ns, rfl, h, List.length_pos_of_mem h1, fun k hk hk2 => ?_⟩
  have e2 : k = m := by
    have := h2 k hk
    have := hk2 m h1
    omega
  rw [e2]
  exact post_ret r p (.int _)
abbrev rTupOf (K : PySem.W.Frag) : List V → Hp → VK → Prop := fun xs H Q => ∃ p ys, xs = [.ref p] ∧ ((SqL K H p ys ∧ ∀ l, H l = none → Q (.ref l) (upd H l (.tup ys))) ∨ (SqT K H p ys ∧ Q (.ref p) H))
abbrev rListOf (K : PySem.W.Frag) : List V → Hp → VK → Prop := fun xs H Q => ∃ p ys, xs = [.ref p] ∧ (SqL K H p ys ∨ SqT K H p ys) ∧ ∀ l, H l = none → Q (.ref l) (upd H l (.lst ys))
abbrev rLenOf (K : PySem.W.Frag) : List V → Hp → VK → Prop := fun xs H Q => ∃ x n, xs = [x] ∧ LenV K x H n ∧ Q (.int n) H
theorem lTup_ok : LstOk rTupOf lTup := fun G ρ H S W' Q xs vs a r h d p => ⟨a, vs, rfl, .inl ⟨h, post_tup r p d⟩⟩
theorem lList_ok : LstOk rListOf lList := fun G ρ H S W' Q xs vs a r h d p => ⟨a, vs, rfl, .inl h, post_alc r p d⟩
theorem lLen_ok : LstOk rLenOf lLen := fun G ρ H S W' Q xs vs a r h d p => ⟨.ref a, vs.length, rfl, .inl ⟨vs, h, rfl⟩, by rw [← d.length]; exact post_ret r p (.int _)⟩
/-- a rule at values -/
def ValOk (r : PySem.W.Frag → List V → Hp → VK → Prop) (m : Fn) : Prop := ∀ (G : GC) (ρ : List Addr) (H : Hp) (S : Sto) (W' : Value → Option Addr → Hp → Prop) (Q : VK) (ds : List D) (vs : List V), Rel G ρ H S → Dens G ρ H ds vs → PostD G W' ρ H Q (m ds S) → r G.K vs H Q
theorem onSeq_ok {r : PySem.W.Frag → List V → Hp → VK → Prop} {m mt : List D → M D} (h : LstOk r m) (ht : ∀ (G : GC) (ρ : List Addr) (H : Hp) (S : Sto) (W' : Value → Option Addr → Hp → Prop) (Q : VK) (xs : List D) (vs : List V) (a : Addr), Rel G ρ H S → SqT G.K H a vs → Dens G ρ H xs vs → PostD G W' ρ H Q (mt xs S) → r G.K [.ref a] H Q) : ValOk r (onSeq m mt) := by
  intro G ρ H S W' Q ds vs rr d p
  unfold onSeq at p
  split at p
  · obtain ⟨v, e, dn⟩ := dens1 d
    subst e
    cases dn with
    | ref ha =>
      obtain ⟨xs, e, p⟩ := bnd_lsAt p
      obtain ⟨ws, hq, dd⟩ := rr.list ha e
      exact h G ρ H S W' Q xs ws _ rr hq dd p
  · obtain ⟨v, e, dn⟩ := dens1 d
    subst e
    cases dn with
    | tup hs dd => exact ht G ρ H S W' Q _ _ _ rr hs dd p
  · exact p.elim
theorem no_tup {r : PySem.W.Frag → List V → Hp → VK → Prop} : ∀ (G : GC) (ρ : List Addr) (H : Hp) (S : Sto) (W' : Value → Option Addr → Hp → Prop) (Q : VK) (xs : List D) (vs : List V) (a : Addr), Rel G ρ H S → SqT G.K H a vs → Dens G ρ H xs vs → PostD G W' ρ H Q ((fun _ => no : List D → M D) xs S) → r G.K [.ref a] H Q := fun G ρ H S W' Q xs vs a r h d p => p.elim
theorem mAll_ok : ValOk rAll mAll := onSeq_ok lAll_ok no_tup
theorem mAny_ok : ValOk rAny mAny := onSeq_ok lAny_ok no_tup
theorem mSum_ok : ValOk rSum mSum := onSeq_ok lSum_ok no_tup
theorem mTuple_ok : ValOk rTupOf mTuple := onSeq_ok lTup_ok fun G ρ H S W' Q xs vs a r h d p => ⟨a, vs, rfl, .inr ⟨h, post_ret r p (.tup h d)⟩⟩
theorem mList_ok : ValOk rListOf mList := onSeq_ok lList_ok fun G ρ H S W' Q xs vs a r h d p => ⟨a, vs, rfl, .inr h, post_alc r p d⟩
theorem mLen_ok : ValOk rLenOf mLen := by
  intro G ρ H S W' Q ds vs rr d p
  unfold mLen at p
  split at p
  · obtain ⟨v, e, dn⟩ := dens1 d
    subst e
    cases dn
    obtain ⟨c, p⟩ := grd_no p
    exact ⟨_, _, rfl, ⟨by rw [← szL_eq]; exact of_decide_eq_true c, rfl⟩, post_ret rr p (.int _)⟩
  · exact onSeq_ok lLen_ok (fun G ρ H S W' Q xs vs a r h d p => ⟨.ref a, vs.length, rfl, .inr ⟨vs, h, rfl⟩, by rw [← d.length]; exact post_ret r p (.int _)⟩) G ρ H S W' Q _ vs rr d p
/-- max of a tuple of ints -/
def rMaxT (K : PySem.W.Frag) : List V → Hp → VK → Prop := fun vs H Q => ∃ (a : Addr) (n : Int) (ns : List Int), vs = [V.ref a] ∧ SqT K H a ((n :: ns).map V.int) ∧ Q (.int (ns.foldl max n)) H
theorem cr_maxT {X : Cx} (hc : X.calm = true) (hu : X.A.units + 100 < cLine) : CallR X (.builtin "max") (rMaxT X.K) := by
  intro pins s σ H vs us Q I r h
  obtain ⟨a, n, ns, rfl, hs, q⟩ := h
  obtain ⟨its, rv, hl, hz⟩ := I.tuple hs
  rw [Vals.ref1 r]
  have ra : ReadsAll s.heap its.toArray.toList (PyData.int n :: ns.map PyData.int) [] := PySem.W.readsAll_of_ints rv.ints
  have mem : ∀ x ∈ PyData.int n :: ns.map PyData.int, ∃ i, x = .int i := fun x hx => by
    rcases List.mem_cons.mp hx with rfl | hx
    · exact ⟨_, rfl⟩
    · obtain ⟨i, _, rfl⟩ := List.mem_map.mp hx
      exact ⟨_, rfl⟩
  have dep : ∀ ms : List Int, PyData.depthAll (ms.map PyData.int) ≤ 1 := fun ms => by
    induction ms with
    | nil => decide
    | cons m ms ih => exact Nat.max_le.mpr ⟨by simp [PyData.depth], ih⟩
  refine PySem.W.max_tuple_data (I.ok.hd hc) hl ra ⟨fun x hx y hy => ?_, fun x hx => ?_⟩ (by have := dep (n :: ns); show X.A.units + 1 + PyData.depthAll ((n :: ns).map PyData.int) < cLine; omega) fun i v h' tk bs hv rd hk => ?_
  · obtain ⟨i, rfl⟩ := mem x hx
    obtain ⟨j, rfl⟩ := mem y hy
    rfl
  · obtain ⟨i, rfl⟩ := mem x hx
    intro z
    cases z
  · rw [PySem.W.maxD_ints] at rd
    cases rd
    exact ⟨.int _, H, I.kept hk, ⟨_, rfl⟩, q⟩
theorem maxI_fold : ∀ (ns : List Int) (n : Int), maxI (n :: ns) = some (ns.foldl max n)
  | [], n => rfl
  | m :: ns, n => by
    have ih := maxI_fold ns m
    have ih2 := maxI_fold ns (max n m)
    rw [List.foldl_cons, ← ih2]
    show (match maxI (m :: ns) with
      | none => some n
      | some k => some (if n ≤ k then k else n)) = (match maxI ns with
      | none => some (max n m)
      | some k => some (if max n m ≤ k then k else max n m))
    have e : maxI (m :: ns) = (match maxI ns with
      | none => some m
      | some k => some (if m ≤ k then k else m)) := rfl
    rw [e]
    cases maxI ns with
    | none =>
      dsimp only
      first | rfl | (congr 1; split <;> omega)
    | some k =>
      dsimp only
      congr 1
      repeat' split
      all_goals omega
abbrev rMaxA (K : PySem.W.Frag) : List V → Hp → VK → Prop := fun xs H Q => (∃ i j, xs = [.int i, .int j] ∧ Q (.int (if j > i then j else i)) H) ∨ (rMax K xs H Q ∨ rMaxT K xs H Q)
abbrev rMinA (K : PySem.W.Frag) : List V → Hp → VK → Prop := fun xs H Q => (∃ i j, xs = [.int i, .int j] ∧ Q (.int (if j < i then j else i)) H) ∨ rMin K xs H Q
theorem mMax_ok : ValOk rMaxA mMax := by
  intro G ρ H S W' Q ds vs rr d p
  unfold mMax at p
  split at p
  · obtain ⟨v, w, e, dn, dn'⟩ := dens2 d
    subst e
    cases dn; cases dn'
    exact .inl ⟨_, _, rfl, post_ret rr p (.int _)⟩
  · unfold onSeq at p
    split at p
    · exact .inr (.inl (onSeq_ok (mt := fun _ => no) lMax_ok no_tup G ρ H S W' Q _ vs rr d p))
    · obtain ⟨v, e, dn⟩ := dens1 d
      subst e
      cases dn with
      | tup hs dd =>
        obtain ⟨ns, e, p⟩ := bnd_ofO p
        obtain ⟨m, em, p⟩ := bnd_ofO p
        rw [ints_pr e dd] at hs
        cases ns with
        | nil => cases em
        | cons n ns =>
          rw [maxI_fold] at em
          cases em
          exact .inr (.inr ⟨_, n, ns, rfl, hs, post_ret rr p (.int _)⟩)
    · exact p.elim
theorem mMin_ok : ValOk rMinA mMin := by
  intro G ρ H S W' Q ds vs rr d p
  unfold mMin at p
  split at p
  · obtain ⟨v, w, e, dn, dn'⟩ := dens2 d
    subst e
    cases dn; cases dn'
    exact .inl ⟨_, _, rfl, post_ret rr p (.int _)⟩
  · exact .inr (onSeq_ok lMin_ok no_tup G ρ H S W' Q _ vs rr d p)
abbrev rAbs (_ : PySem.W.Frag) : List V → Hp → VK → Prop := fun xs H Q => ∃ i, xs = [.int i] ∧ Q (.int (if i < 0 then -i else i)) H
theorem mAbs_ok : ValOk rAbs mAbs := by
  intro G ρ H S W' Q ds vs rr d p
  unfold mAbs at p
  split at p
  · obtain ⟨v, e, dn⟩ := dens1 d
    subst e
    cases dn
    exact ⟨_, rfl, post_ret rr p (.int _)⟩
  · exact p.elim
abbrev rIntA (_ : PySem.W.Frag) : List V → Hp → VK → Prop := fun xs H Q => ((∃ i, xs = [.int i] ∧ Q (.int i) H) ∨ ∃ k, xs = [.bl k] ∧ Q (.int (if k then 1 else 0)) H) ∨ (∃ a n, xs = [.str a] ∧ PySem.intText? a = some n ∧ a.length ≤ 640 ∧ Q (.int n) H)
theorem mInt_ok : ValOk rIntA mInt := by
  intro G ρ H S W' Q ds vs rr d p
  unfold mInt at p
  split at p
  · obtain ⟨v, e, dn⟩ := dens1 d
    subst e
    cases dn
    exact .inl (.inl ⟨_, rfl, post_ret rr p (.int _)⟩)
  · obtain ⟨v, e, dn⟩ := dens1 d
    subst e
    cases dn
    exact .inl (.inr ⟨_, rfl, post_ret rr p (.int _)⟩)
  · obtain ⟨v, e, dn⟩ := dens1 d
    subst e
    cases dn
    obtain ⟨c, p⟩ := grd_no p
    obtain ⟨n, e, p⟩ := bnd_ofO p
    exact .inr ⟨_, n, rfl, e, of_decide_eq_true c, post_ret rr p (.int _)⟩
  · exact p.elim
abbrev rStrA (_ : PySem.W.Frag) : List V → Hp → VK → Prop := fun xs H Q => (∃ i, xs = [.int i] ∧ i.natAbs.log2 < 1920 ∧ Q (.str (toString i)) H) ∨ (∃ a, xs = [.str a] ∧ Q (.str a) H)
theorem mStr_ok : ValOk rStrA mStr := by
  intro G ρ H S W' Q ds vs rr d p
  unfold mStr at p
  split at p
  · obtain ⟨v, e, dn⟩ := dens1 d
    subst e
    cases dn
    obtain ⟨c, p⟩ := grd_no p
    exact .inl ⟨_, rfl, of_decide_eq_true c, post_ret rr p (.str _)⟩
  · obtain ⟨v, e, dn⟩ := dens1 d
    subst e
    cases dn
    exact .inr ⟨_, rfl, post_ret rr p (.str _)⟩
  · exact p.elim
abbrev rDm (_ : PySem.W.Frag) : List V → Hp → VK → Prop := fun xs H Q => ∃ i j, xs = [.int i, .int j] ∧ CDiv i j ∧ ∀ p, H p = none → Q (.ref p) (upd H p (.tup [.int (i / j), .int (i % j)]))
theorem mDivmod_ok : ValOk rDm mDivmod := by
  intro G ρ H S W' Q ds vs rr d p
  unfold mDivmod at p
  split at p
  · obtain ⟨v, w, e, dn, dn'⟩ := dens2 d
    subst e
    cases dn; cases dn'
    obtain ⟨c, p⟩ := grd_no p
    obtain ⟨c1, c2⟩ := Bool.and_eq_true_iff.mp c
    exact ⟨_, _, rfl, ⟨of_decide_eq_true c1, of_decide_eq_true c2⟩, post_tup rr p (.cons (.int _) (.cons (.int _) .nil))⟩
  · exact p.elim
end
end
end Lt

end
section
set_option Elab.async false
set_option linter.all false
set_option maxRecDepth 100000
set_option maxHeartbeats 4000000
/-! Lt, part 9: isinstance; the calls of built-ins; built-in methods. -/
namespace Lt
noncomputable section
open PySem PySem.Spec PyProof.Rows L2
section
variable {G : GC} {ρ : List Addr} {H : Hp} {S : Sto} {W' : Value → Option Addr → Hp → Prop} {Q : VK}
/-! ### isinstance -/
theorem kit_sub (K : PySem.W.Frag) (a b : Ty) : PySem.W.kitOne K (.type a.nm) (.type b.nm) = some (subTy a b) := by
  apply kit_ty
  cases a <;> cases b <;> decide +kernel
/-- the own classes of ic: beside each other, none of them a built-in's heir -/
structure IsiF (G : GC) (ic : List Nat) : Prop where
  cls : ∀ c ∈ ic, ∃ x C, G.gt[c]? = some x ∧ G.mg x = some (.ref C) ∧ C8.InsC G.K C ∧ (∀ t : Ty, PySem.W.kitOne G.K (.ref C) (.type t.nm) = some false ∧ PySem.W.kitOne G.K (.type t.nm) (.ref C) = some false)
  two : ∀ c ∈ ic, ∀ c' ∈ ic, ∀ x C x' C', G.gt[c]? = some x → G.mg x = some (.ref C) → G.gt[c']? = some x' → G.mg x' = some (.ref C') → PySem.W.kitOne G.K (.ref C) (.ref C') = some (c == c')
def TyVal (G : GC) : Ty ⊕ Nat → Value → Prop
  | .inl a, t => t = .type a.nm
  | .inr c, t => ∃ x C, G.gt[c]? = some x ∧ G.mg x = some (.ref C) ∧ t = .ref C
theorem isi1_ok {ic : List Nat} (F : IsiF G ic) {t : Ty ⊕ Nat} {c : D} {b : Bool} {cv : V} {tv : Value} (h : isi1 ic t c = some b) (d : Den G ρ H c cv) (ht : TyVal G t tv) : ∃ u, ClsV cv u ∧ PySem.W.kitOne G.K tv u = some b := by
  cases t with
  | inl a =>
    have ht : tv = .type a.nm := ht
    subst ht
    cases d with
    | ty n =>
      cases h
      exact ⟨_, .ty _, kit_sub _ _ _⟩
    | @glo j x C h1 h2 =>
      unfold isi1 at h
      dsimp only at h
      by_cases hj : ic.contains j = true
      · rw [if_pos hj] at h
        cases h
        obtain ⟨x', C', k1, k2, _, k4⟩ := F.cls j (by simpa using hj)
        have ex : x = x' := Option.some.inj (h1.symm.trans k1)
        subst ex
        rw [h2] at k2
        cases k2
        exact ⟨_, .own _, (k4 a).2⟩
      · rw [if_neg hj] at h; cases h
    | _ => cases h
  | inr c0 =>
    obtain ⟨x, C, e1, e2, rfl⟩ := ht
    cases d with
    | ty n =>
      unfold isi1 at h
      dsimp only at h
      by_cases hj : ic.contains c0 = true
      · rw [if_pos hj] at h
        cases h
        obtain ⟨x', C', k1, k2, _, k4⟩ := F.cls c0 (by simpa using hj)
        have ex : x = x' := Option.some.inj (e1.symm.trans k1)
        subst ex
        rw [e2] at k2
        cases k2
        exact ⟨_, .ty _, (k4 n).1⟩
      · rw [if_neg hj] at h; cases h
    | @glo j y C' h1 h2 =>
      unfold isi1 at h
      dsimp only at h
      by_cases hj : (ic.contains c0 && ic.contains j) = true
      · rw [if_pos hj] at h
        cases h
        obtain ⟨a1, a2⟩ := Bool.and_eq_true_iff.mp hj
        exact ⟨_, .own _, F.two c0 (by simpa using a1) j (by simpa using a2) x C y C' e1 e2 h1 h2⟩
      · rw [if_neg hj] at h; cases h
    | _ => cases h
/-- as far as it is looked at: the first true one ends it -/
theorem isiA_ok {ic : List Nat} (F : IsiF G ic) {t : Ty ⊕ Nat} {tv : Value} (ht : TyVal G t tv) : ∀ {cs : List D} {b : Bool} {cvs : List V}, isiA ic t cs = some b → Dens G ρ H cs cvs → (∀ c ∈ cs, (isi1 ic t c).isSome = true) → ∃ us, Paired ClsV cvs us ∧ PySem.W.kitAny G.K tv us = some b
  | [], b, _, e, .nil, _ => ⟨[], .nil, by cases e; rfl⟩
  | c :: cs, b, v :: vs, e, .cons d1 d2, hs => by
    unfold isiA at e
    have h1 := hs c List.mem_cons_self
    cases e1 : isi1 ic t c with
    | none => rw [e1] at h1; cases h1
    | some b1 =>
      rw [e1] at e
      obtain ⟨u, k1, k2⟩ := isi1_ok F e1 d1 ht
      cases b1 with
      | true =>
        cases e
        obtain ⟨us, p⟩ : ∃ us, Paired ClsV vs us := isiA_cls F ht d2 fun c hc => hs c (List.mem_cons_of_mem _ hc)
        exact ⟨u :: us, .cons k1 p, kitAny_cons k2 (fun z => by cases z) (fun _ => rfl)⟩
      | false =>
        obtain ⟨us, p, q⟩ := isiA_ok F ht e d2 fun c hc => hs c (List.mem_cons_of_mem _ hc)
        exact ⟨u :: us, .cons k1 p, kitAny_cons k2 (fun _ => q) (fun z => by cases z)⟩
where isiA_cls {ic : List Nat} (F : IsiF G ic) {t : Ty ⊕ Nat} {tv : Value} (ht : TyVal G t tv) : ∀ {cs : List D} {cvs : List V}, Dens G ρ H cs cvs → (∀ c ∈ cs, (isi1 ic t c).isSome = true) → ∃ us, Paired ClsV cvs us
  | _, _, .nil, _ => ⟨[], .nil⟩
  | c :: cs, v :: vs, .cons d1 d2, hs => by
    cases e1 : isi1 ic t c with
    | none => have h1 := hs c List.mem_cons_self; rw [e1] at h1; cases h1
    | some b1 =>
      obtain ⟨u, k1, _⟩ := isi1_ok F e1 d1 ht
      obtain ⟨us, p⟩ := isiA_cls F ht d2 fun c hc => hs c (List.mem_cons_of_mem _ hc)
      exact ⟨u :: us, .cons k1 p⟩
theorem tyOfD_ok {ic : List Nat} (F : IsiF G ic) {x : D} {v : V} {t : Ty ⊕ Nat} (r : Rel G ρ H S) (d : Den G ρ H x v) (e : tyOfD S x = some t) (hc : ∀ c, t = .inr c → ic.contains c = true) : ∃ tv, TyVal G t tv ∧ TyX G.K H v tv := by
  cases d with
  | non => cases e; exact ⟨_, rfl, .base .non⟩
  | bl b => cases e; exact ⟨_, rfl, .base (.bl b)⟩
  | int b => cases e; exact ⟨_, rfl, .base (.int b)⟩
  | str b => cases e; exact ⟨_, rfl, .base (.str b)⟩
  | tup h _ =>
    cases e
    rcases h with (h | ⟨o, h⟩) | ⟨o, its, n, h1, h2, _⟩
    · exact ⟨_, rfl, .base (.tup h)⟩
    · exact ⟨_, rfl, .fTuple h⟩
    · exact ⟨_, rfl, .kTuple h1 h2⟩
  | ref hn =>
    obtain ⟨c, hc0, k⟩ := r.back hn
    unfold tyOfD at e
    dsimp only at e
    rw [hc0] at e
    cases c with
    | lst xs =>
      cases e
      obtain ⟨vs, h, _⟩ := k
      exact ⟨_, rfl, .base (.lst h)⟩
    | fls xs =>
      cases e
      obtain ⟨o, vs, h, _⟩ := k
      exact ⟨_, rfl, .base (.frz h)⟩
    | ins c gs =>
      cases e
      obtain ⟨y, ca, dx, gv, h1, h2, h3, h4⟩ := k
      obtain ⟨x', C', k1, k2, k3, _⟩ := F.cls c (by simpa using hc c rfl)
      have ex : y = x' := Option.some.inj (h1.symm.trans k1)
      subst ex
      rw [h2] at k2
      cases k2
      exact ⟨_, ⟨_, _, h1, h2, rfl⟩, .base (.ins h3 k3.cl k3.ha k3.hn k3.htk k3.hm)⟩
  | _ => cases e
theorem okT_of {ic : List Nat} {t : Ty ⊕ Nat} (h : okT ic t = true) : ∀ c, t = .inr c → ic.contains c = true := fun c e => by subst e; exact h
theorem mIsi_ok {ic : List Nat} (F : IsiF G ic) {ds : List D} {vs : List V} (r : Rel G ρ H S) (d : Dens G ρ H ds vs) (p : PostD G W' ρ H Q (mIsi ic ds S)) : rIsi G.K vs H Q := by
  unfold mIsi at p
  split at p
  · rename_i x c
    obtain ⟨v, w, e, d1, d2⟩ := dens2 d
    subst e
    cases et : tyOfD S x with
    | none => rw [et] at p; exact p.elim
    | some t =>
      rw [et] at p
      dsimp only at p
      cases eo : okT ic t with
      | false => rw [eo] at p; exact p.elim
      | true =>
        cases ei : isi1 ic t c with
        | none => rw [eo, ei] at p; exact p.elim
        | some b =>
          rw [eo, ei] at p
          obtain ⟨tv, h1, h2⟩ := tyOfD_ok F r d1 et (okT_of eo)
          obtain ⟨u, h3, h4⟩ := isi1_ok F ei d2 h1
          exact ⟨v, w, tv, u, b, rfl, h3, h2, h4, post_ret r p (.bl b)⟩
  · exact p.elim
section
variable {X : Cx} {W : TW} {pos p : Pos} {x : Str} {es : List Expr} {fs : List EE} {m : Fn}
/-! ### the calls -/
inductive BV : Value → Prop
  | f (id : String) : BV (.builtin id)
  | t (n : String) : BV (.type n)
theorem pe_callBV {u : Value} (hu : BV u) {r : List V → Hp → VK → Prop} {e : Expr} {t : TA} (hc : CallR X u r) (hg : Gl X x) (hm : X.mg x = none) (hv : bootBuiltins x = some u) (ha : PA X (e :: es) t) (hn : x ≠ "__name__") (hdb : (x == ("__debug__" : Str)) = false)
    (he : starEach (e :: es) X.env = (false, eval e X.env) :: starEach es X.env) (hpl : (backTo pos (starEach es X.env)).any (·.1) = false) : PE X (.Call (.Name x p) (e :: es) [] pos) (tCB r t) := by
  cases hu with
  | f id => exact pe_callB hc hg hm hv ha hn hdb he hpl
  | t n => exact pe_callTy hc hg hm hv ha hn hdb he hpl
/-- f(e, ..), f a built-in -/
theorem pe_blt {u : Value} {r : PySem.W.Frag → List V → Hp → VK → Prop} (hu : BV u) (k : Ok G X W) (hc : CallR X u (r X.K)) (hr : ∀ (ρ : List Addr) (H : Hp) (S : Sto) (W' : Value → Option Addr → Hp → Prop) (Q : VK) (ds : List D) (vs : List V), Rel G ρ H S → Dens G ρ H ds vs → PostD G W' ρ H Q (m ds S) → r G.K vs H Q)
    (hg : Gl X x) (hm : G.mg x = none) (hv : bootBuiltins x = some u) (ha : Args G X W es fs) (hes : es ≠ []) (hn : x ≠ "__name__") (hdb : (x == ("__debug__" : Str)) = false) : PE X (.Call (.Name x p) es [] pos) (T G W (eCall m fs)) := by
  cases ha with
  | nil => exact absurd rfl hes
  | cons h1 h2 =>
    refine pe_mono (pe_callBV hu hc hg (by rw [k.mg]; exact hm) hv (pa_all (.cons h1 h2)) hn hdb (h1.2 _ _) (args_plain h2)) fun σ H Q hT => ?_
    exact TL_then (k := fun _ => m) (fun ρ η H S xs vs rr e d q => by rw [k.K]; exact hr ρ H S _ Q xs vs rr d q) hT
/-- .. its one argument a list just made -/
theorem pe_bltX {u : Value} {r : PySem.W.Frag → List V → Hp → VK → Prop} {mL : List D → M D} {e : Expr} {lf : Env → M (List D)} (hu : BV u) (k : Ok G X W) (hc : CallR X u (r X.K)) (hr : LstOk r mL)
    (hg : Gl X x) (hm : G.mg x = none) (hv : bootBuiltins x = some u) (he : PE X e (TX G W lf)) (hs : NoStar e) (hn : x ≠ "__name__") (hdb : (x == ("__debug__" : Str)) = false) : PE X (.Call (.Name x p) [e] [] pos) (T G W (eOnL mL lf)) := by
  refine pe_mono (pe_callBV hu hc hg (by rw [k.mg]; exact hm) hv (pa_cons he pa_nil (hs _ _)) hn hdb (hs _ _) rfl) fun σ H Q ⟨ρ, η, S, rr, en, q⟩ => ?_
  refine ⟨ρ, η, S, rr, en, Post.mono (Post.bnd (Rv := RvX G H) q) fun v H1 ⟨ρ1, S1, xs, g1, r1, ⟨a, vs, ev, ha, hna, _, d⟩, _, p1⟩ => ?_⟩
  subst ev
  show r X.K [.ref a] H1 Q
  rw [k.K]
  exact hr G ρ1 H1 S1 _ Q xs vs a r1 (SqL.of ha) d p1
/-- isinstance(e, (A, B)) -/
theorem pe_isiT {ic : List Nat} (F : IsiF G ic) {e : Expr} {cs : List Expr} {f : EE} {gs : List EE} {x1} {pos2 : Pos} (k : Ok G X W) (hg : Gl X "isinstance") (hm : G.mg "isinstance" = none) (he : PE X e (T G W f)) (hs : NoStar e) (hcs : Args G X W cs gs) (hz : decide (gs.length ≤ szL) = true)
    : PE X (.Call (.Name "isinstance" p) [e, .Tuple cs x1 pos2] [] pos) (T G W (eIsiT ic f gs)) := by
  refine pe_mono (pe_callBV (.f "isinstance") call_isiT hg (by rw [k.mg]; exact hm) boot_isinstance (pa_cons he (pa_cons (pe_tup (pa_all hcs)) pa_nil rfl) (hs _ _)) (by decide) (by decide) (hs _ _) rfl) fun σ H Q ⟨ρ, η, S, rr, en, q⟩ => ?_
  refine ⟨ρ, η, S, rr, en, Post.mono (Post.bnd (Rv := Den G) q) fun v H1 ⟨ρ1, S1, x, g1, r1, d1, _, p1⟩ => ?_⟩
  refine ⟨ρ1, η, S1, r1, en.mono g1, Post.mono (Post.bnd (Rv := Dens G) p1) fun ws H2 ⟨ρ2, S2, ds, g2, r2, d2, em, p2⟩ => ⟨?_, fun q0 h0 => ?_⟩⟩
  · rw [← szL_eq, ← d2.length, pe_tupE.aL_len em]
    exact of_decide_eq_true hz
  · have g3 : Grow G ρ2 H2 ρ2 (upd H2 q0 (.tup ws)) := grow_upd h0
    have r3 : Rel G ρ2 (upd H2 q0 (.tup ws)) S2 := r2.upd_fresh h0
    have p3 := Post.grow g3 p2
    unfold isiT at p3
    cases et : tyOfD S2 x with
    | none => rw [et] at p3; exact p3.elim
    | some t =>
      rw [et] at p3
      dsimp only at p3
      cases eo : okT ic t && ds.all (fun c => (isi1 ic t c).isSome) with
      | false => rw [eo] at p3; exact p3.elim
      | true =>
        cases ei : isiA ic t ds with
        | none => rw [eo, ei] at p3; exact p3.elim
        | some b =>
          rw [eo, ei] at p3
          obtain ⟨o1, o2⟩ := Bool.and_eq_true_iff.mp eo
          obtain ⟨tv, h1, h2⟩ := tyOfD_ok F r3 ((d1.mono g2).mono g3) et (okT_of o1)
          obtain ⟨us, h3, h4⟩ := isiA_ok F h1 ei (d2.mono g3) (List.all_eq_true.mp o2)
          show rIsiT X.K [v, .ref q0] _ Q
          rw [k.K]
          exact ⟨v, q0, ws, tv, us, b, rfl, upd_same, h3, h2, h4, post_ret r3 p3 (.bl b)⟩
/-! ### the built-in methods -/
def ValM (r : PySem.W.Frag → V → List V → Hp → VK → Prop) (m : D → List D → M D) : Prop := ∀ (G : GC) (ρ : List Addr) (H : Hp) (S : Sto) (W' : Value → Option Addr → Hp → Prop) (Q : VK) (o : D) (v : V) (ds : List D) (vs : List V), Rel G ρ H S → Den G ρ H o v → Dens G ρ H ds vs → PostD G W' ρ H Q (m o ds S) → r G.K v vs H Q
/-- a list, a text -/
def isT (T : Ty) (o : D) : M Unit := match T, o with
  | .list, .ref n => bnd (lsAt n) fun _ => ret ()
  | .str, .str _ => ret ()
  | _, _ => no
def eBm (T : Ty) (m : D → List D → M D) (f : EE) (fs : List EE) : EE := fun η => bnd (f η) fun o => bnd (isT T o) fun _ => bnd (aL fs η) fun xs => m o xs
theorem isT_ok {T : Ty} {o : D} {v : V} {α β : Type} {K : Unit → M α} {Rv : List Addr → Hp → α → β → Prop} {Q : β → Hp → Prop} (r : Rel G ρ H S) (d : Den G ρ H o v) (p : Post G Rv W' ρ H Q (bnd (isT T o) K S)) : tyV G.K T.nm v H ∧ Post G Rv W' ρ H Q (K () S) := by
  unfold isT at p
  split at p
  · rw [bnd_assoc] at p
    obtain ⟨xs, e, p⟩ := bnd_lsAt p
    cases d with
    | ref ha =>
      obtain ⟨ws, h, _⟩ := r.list ha e
      exact ⟨.inl ⟨rfl, ws, h⟩, p⟩
  · cases d
    exact ⟨rfl, p⟩
  · exact p.elim
theorem pe_bmE {T : Ty} {id : String} {n : Str} {apos : Pos} {o : Expr} {f : EE} {m : D → List D → M D} {r : PySem.W.Frag → V → List V → Hp → VK → Prop} (k : Ok G X W) (pa : PlainAttrs T.nm) (slot : Slot T.nm n id) (hty : typeOf (.builtin id) = pure (.type "method_descriptor")) (hm : MtR X id (r X.K)) (hr : ValM r m)
    (ho : PE X o (Lt.T G W f)) (ha : Args G X W es fs) (hbase : attributeBase o n X.env (eval o X.env) = eval o X.env) (hline : (apos.endLine == pos.line) = true) (hfew : decide (es.length < 30) = true) :
    PE X (.Call (.Attribute o n apos) es [] pos) (Lt.T G W (eBm T m f fs)) := by
  cases ha with
  | nil =>
    refine pe_mono (pe_bm0 pa slot hty hm ho hbase hline) fun σ H Q ⟨ρ, η, S, rr, en, q⟩ => ?_
    refine ⟨ρ, η, S, rr, en, Post.mono (Post.bnd (Rv := Den G) q) fun v H1 ⟨ρ1, S1, x, g1, r1, d1, _, p1⟩ => ?_⟩
    obtain ⟨h1, p1⟩ := isT_ok r1 d1 p1
    rw [k.K]
    exact ⟨h1, hr G ρ1 H1 S1 _ Q x v [] [] r1 d1 .nil p1⟩
  | @cons e f' es fs h1 h2 =>
    have e0 : (backTo pos (starEach es X.env)).any (·.1) = false := args_plain h2
    have hfew' : ((backTo pos (starEach (e :: es) X.env)).all (fun x => !x.1) && (backToKw pos (keywordEach [] X.env)).all (fun x => x.1.isSome) && decide ((e :: es).length + ([] : List Keyword).length + (if ([] : List Keyword).isEmpty then 0 else 1) < 30)) = true := by
      have q1 : (backTo pos (starEach (e :: es) X.env)).all (fun z => !z.1) = true := by
        have := args_plain (pos := pos) (.cons h1 h2)
        rw [List.all_eq_not_any_not]
        simpa using this
      have q2 : (e :: es).length < 30 := of_decide_eq_true hfew
      rw [q1]
      simpa [backToKw, keywordEach] using q2
    refine pe_mono (pe_bm pa slot hty hm ho (pa_all (.cons h1 h2)) hbase hfew' hline (h1.2 _ _) e0) fun σ H Q ⟨ρ, η, S, rr, en, q⟩ => ?_
    refine ⟨ρ, η, S, rr, en, Post.mono (Post.bnd (Rv := Den G) q) fun v H1 ⟨ρ1, S1, x, g1, r1, d1, _, p1⟩ => ?_⟩
    obtain ⟨h1, p1⟩ := isT_ok r1 d1 p1
    rw [k.K]
    exact ⟨h1, ρ1, η, S1, r1, en.mono g1, Post.mono (Post.bnd (Rv := Dens G) p1) fun ws H2 ⟨ρ2, S2, ds, g2, r2, d2, _, p2⟩ => hr G ρ2 H2 S2 _ Q x v ds ws r2 (d1.mono g2) d2 p2⟩
/-! each -/
theorem post_sto {β : Type} {Rv : List Addr → Hp → β → V → Prop} {n : Nat} {a : Addr} {c : Cell} {o : HO} {k : Unit → M β} {Q : VK} (r : Rel G ρ H S) (ha : ρ[n]? = some a) (kk : ∀ H', Gr G ρ H ρ H' → H' = upd H a o → CellOk G ρ H' c a) (p : Post G Rv W' ρ H Q (bnd (sto n c) k S)) : Grow G ρ H ρ (upd H a o) ∧ Rel G ρ (upd H a o) (S.set n c) ∧ Post G Rv W' ρ (upd H a o) Q (k () (S.set n c)) := by
  obtain ⟨c0, h0, k0⟩ := r.back ha
  have g : Grow G ρ H ρ (upd H a o) := grow_write (List.mem_of_getElem? ha) k0.notTup.1 k0.notTup.2
  exact ⟨g, r.sto ha (kk _ g.toGr rfl), Post.grow g p⟩
theorem cell_lst {n : Nat} {a : Addr} {xs : List D} (r : Rel G ρ H S) (ha : ρ[n]? = some a) (h : S[n]? = some (.lst xs)) : ∃ vs, H a = some (.lst vs) ∧ Dens G ρ H xs vs := r.cell n _ a h ha
theorem dens_push {xs : List D} {vs : List V} {x : D} {v : V} (h : Dens G ρ H xs vs) (d : Den G ρ H x v) : Dens G ρ H (xs ++ [x]) (vs ++ [v]) := dens_app h (.cons d .nil)
/-- a list written anew -/
theorem post_lset {n : Nat} {a : Addr} {ys : List D} {ws : List V} {d : D} {v : V} {Q : VK} (r : Rel G ρ H S) (ha : ρ[n]? = some a) (dy : Dens G ρ H ys ws) (dd : Den G ρ H d v) (p : PostD G W' ρ H Q (bnd (sto n (.lst ys)) (fun _ => ret d) S)) : Q v (upd H a (.lst ws)) := by
  obtain ⟨g, r2, p2⟩ := post_sto (c := .lst ys) (o := .lst ws) (k := fun _ => ret d) r ha (fun H' g e => ⟨ws, by rw [e, upd_same], dy.mono0 g⟩) p
  exact post_ret r2 p2 (dd.mono g)
theorem mAppend_ok : ValM (fun _ => rAppend) mAppend := fun G ρ H S W' Q o v ds vs r d dd p => by
  unfold mAppend at p
  split at p
  · cases d with
    | ref ha =>
      obtain ⟨w, e, dw⟩ := dens1 dd
      subst e
      obtain ⟨c, hc, p⟩ := bnd_lod p
      cases c with
      | lst xs =>
        obtain ⟨c, p⟩ := grd_no p
        obtain ⟨ws, h1, h2⟩ := cell_lst r ha hc
        exact ⟨_, ws, w, rfl, rfl, h1, by rw [← szL_eq, ← h2.length]; exact of_decide_eq_true c, post_lset r ha (dens_push h2 dw) .non p⟩
      | _ => exact p.elim
  · exact p.elim
theorem mExtend_ok : ValM (fun _ => rExtend) mExtend := fun G ρ H S W' Q o v ds vs r d dd p => by
  unfold mExtend at p
  split at p
  · cases d with
    | ref ha =>
      obtain ⟨w, e, dw⟩ := dens1 dd
      subst e
      cases dw with
      | ref hb =>
        obtain ⟨c, hc, p⟩ := bnd_lod p
        cases c with
        | lst xs =>
          obtain ⟨c, hc2, p⟩ := bnd_lod p
          cases c with
          | lst ys =>
            obtain ⟨c, p⟩ := grd_no p
            obtain ⟨ws, h1, h2⟩ := cell_lst r ha hc
            obtain ⟨zs, h3, h4⟩ := cell_lst r hb hc2
            exact ⟨_, _, ws, zs, rfl, rfl, h1, h3, by rw [← szL_eq, ← h2.length, ← h4.length]; exact of_decide_eq_true c, post_lset r ha (dens_app h2 h4) .non p⟩
          | _ => exact p.elim
        | _ => exact p.elim
  · exact p.elim
theorem mReverse_ok : ValM (fun _ => rReverse) mReverse := fun G ρ H S W' Q o v ds vs r d dd p => by
  unfold mReverse at p
  split at p
  · cases d with
    | ref ha =>
      cases dd
      obtain ⟨c, hc, p⟩ := bnd_lod p
      cases c with
      | lst xs =>
        obtain ⟨ws, h1, h2⟩ := cell_lst r ha hc
        exact ⟨_, ws, rfl, rfl, h1, post_lset r ha (.of (pr_rev h2.pr)) .non p⟩
      | _ => exact p.elim
  · exact p.elim
theorem mClear_ok : ValM (fun _ => rClear) mClear := fun G ρ H S W' Q o v ds vs r d dd p => by
  unfold mClear at p
  split at p
  · cases d with
    | ref ha =>
      cases dd
      obtain ⟨c, hc, p⟩ := bnd_lod p
      cases c with
      | lst xs =>
        obtain ⟨ws, h1, h2⟩ := cell_lst r ha hc
        exact ⟨_, ws, rfl, rfl, h1, post_lset r ha .nil .non p⟩
      | _ => exact p.elim
  · exact p.elim
abbrev rPopA (_ : PySem.W.Frag) : V → List V → Hp → VK → Prop := fun x vs H Q => rPop x vs H Q ∨ rPopAt x vs H Q
theorem mPop_ok : ValM rPopA mPop := fun G ρ H S W' Q o v ds vs r d dd p => by
  unfold mPop at p
  split at p
  · cases d with
    | ref ha =>
      cases dd
      obtain ⟨c, hc, p⟩ := bnd_lod p
      cases c with
      | lst xs =>
        obtain ⟨x, ex, p⟩ := bnd_ofO p
        obtain ⟨ws, h1, h2⟩ := cell_lst r ha hc
        obtain ⟨w, h3, h4⟩ := pr_get h2.pr ex
        exact .inl ⟨_, ws, w, rfl, rfl, h1, by rw [← h2.length]; exact h3, post_lset r ha (.of (pr_dropLast h2.pr)) h4 p⟩
      | _ => exact p.elim
  · cases d with
    | ref ha =>
      obtain ⟨w, e, dw⟩ := dens1 dd
      subst e
      cases dw
      obtain ⟨c, hc, p⟩ := bnd_lod p
      cases c with
      | lst xs =>
        obtain ⟨c, p⟩ := grd_no p
        obtain ⟨c1, c2⟩ := Bool.and_eq_true_iff.mp c
        obtain ⟨k, ek, p⟩ := bnd_ofO p
        obtain ⟨x, ex, p⟩ := bnd_ofO p
        obtain ⟨ws, h1, h2⟩ := cell_lst r ha hc
        obtain ⟨w, h3, h4⟩ := pr_get h2.pr ex
        exact .inr ⟨_, ws, _, k, w, rfl, rfl, h1, of_decide_eq_true c1, of_decide_eq_true c2, by rw [← h2.length]; exact ek, h3, post_lset r ha (.of (pr_erase k h2.pr)) h4 p⟩
      | _ => exact p.elim
  · exact p.elim
theorem ixOf_ok {p : PyData} : ∀ {qs : List PyData} {j : Nat}, ixOf p qs = some j → ∃ z, qs[j]? = some z ∧ PyData.eqv z p = true ∧ ∀ (m : Nat) (z' : PyData), m < j → qs[m]? = some z' → PyData.eqv z' p = false
  | q :: qs, j, e => by
    unfold ixOf at e
    by_cases h : PyData.eqv q p = true
    · rw [if_pos h] at e
      cases e
      exact ⟨q, rfl, h, fun m z' hm => absurd hm (Nat.not_lt_zero _)⟩
    · rw [if_neg h] at e
      cases e1 : ixOf p qs with
      | none => rw [e1] at e; cases e
      | some i =>
        rw [e1] at e
        cases e
        obtain ⟨z, h1, h2, h3⟩ := ixOf_ok e1
        refine ⟨z, h1, h2, fun m z' hm hz => ?_⟩
        cases m with
        | zero => cases hz; simpa using h
        | succ m => exact h3 m z' (Nat.lt_of_succ_lt_succ hm) hz
theorem mIndex_ok : ValM rIndexD mIndex := fun G ρ H S W' Q o v ds vs r d dd p => by
  unfold mIndex at p
  split at p
  · obtain ⟨w, e, dw⟩ := dens1 dd
    subst e
    obtain ⟨a, ea, sa, p⟩ := bnd_dataOf r dw p
    obtain ⟨b, eb, sb, p⟩ := bnd_dataOf r d p
    cases d with
    | ref ha =>
      cases b with
      | list qs =>
        obtain ⟨j, ej, p⟩ := bnd_ofO p
        obtain ⟨z, h1, h2, h3⟩ := ixOf_ok ej
        exact ⟨_, _, a, qs, j, z, rfl, rfl, eb, ea, sb, sa, h1, h2, h3, post_ret r p (.int _)⟩
      | _ => exact p.elim
  · exact p.elim
end
end
end
end Lt

end
section
set_option Elab.async false
set_option linter.all false
set_option maxRecDepth 100000
set_option maxHeartbeats 4000000
/-! Lt: x[::-1]. -/
namespace HT
open PySem PySem.Spec PyProof.Rows
section
variable {prog : Program} {w : World} {A : Around} {E : Value → Shared → Prop} {s : Shared}
theorem rev_adjust (n : Nat) : Builtin.Slice.sliceAdjust none none (-1) (n : Int) = ((n : Int) - 1, -1) := rfl
theorem rev_places (n : Nat) : Builtin.Slice.slicePlaces ((n : Int) - 1) (-1) (-1) = n := by
  unfold Builtin.Slice.slicePlaces
  have h1 : ¬ ((-1 : Int) > 0) := by decide
  rw [if_neg h1]
  by_cases h : (n : Int) - 1 > -1
  · rw [if_pos h]
    have e : ((n : Int) - 1 - -1 - 1) / (- -1) + 1 = (n : Int) := by
      rw [show (- -1 : Int) = 1 by decide, Int.ediv_one]
      omega
    rw [e]
    exact Int.toNat_natCast n
  · rw [if_neg h]
    show 0 = n
    omega
theorem rev_pick (xs : Array Value) : ((List.range xs.size).filterMap fun (k : Nat) => xs[((xs.size : Int) - 1 + (k : Int) * -1).toNat]?).toArray = xs.toList.reverse.toArray := by
  have e : (fun (k : Nat) => xs[((xs.size : Int) - 1 + (k : Int) * -1).toNat]?) = (fun j => xs[j]?) ∘ fun (k : Nat) => ((xs.size : Int) - 1 + (k : Int) * -1).toNat := rfl
  rw [e, ← List.filterMap_map]
  have e2 : (List.range xs.size).map (fun (k : Nat) => ((xs.size : Int) - 1 + (k : Int) * -1).toNat) = (List.range xs.size).map fun k => xs.size - 1 - k := by
    apply List.map_congr_left
    intro k hk
    have := List.mem_range.mp hk
    omega
  rw [e2, PySem.W.krv_range, List.filterMap_reverse, PySem.W.krv_all]
theorem sliceApplied_rev {sl : Addr} {t : Tok} {n : Nat} {Q : Int × Int × Nat → Shared → Prop} (hs : s.heap.IsSliceOf sl .none .none (.int (-1) t))
    (h : Q ((n : Int) - 1, -1, n) s) : wpAny (model prog w) A (Builtin.Slice.sliceApplied (.ref sl) (pure (n : Int))) Q E s := by
  obtain ⟨os, hos, hcs, hds⟩ := id hs
  unfold Builtin.Slice.sliceApplied Builtin.Slice.sliceFields
  refine wpAny_bind (wpAny_bind (wpAny_field hos hds (x := .none) rfl (wpAny_bind (wpAny_field hos hds (x := .none) rfl (wpAny_bind (wpAny_field hos hds (x := .int (-1) t) rfl (wpAny_pure ?_)))))))
  refine wpAny_bind (slicePart_ (.int (-1) t) ?_)
  show wpAny _ _ (if ((-1 : Int) == 0) = true then _ else _) _ _ s
  rw [if_neg (by decide)]
  refine wpAny_bind (slicePart_none (wpAny_bind (slicePart_none (wpAny_bind (wpAny_pure ?_)))))
  show wpAny _ _ (match Builtin.Slice.sliceAdjust none none (-1) (n : Int) with | (lo, hi) => pure (lo, (-1 : Int), Builtin.Slice.slicePlaces lo hi (-1))) _ _ s
  rw [rev_adjust]
  show wpAny _ _ (pure ((n : Int) - 1, (-1 : Int), Builtin.Slice.slicePlaces ((n : Int) - 1) (-1) (-1))) _ _ s
  rw [rev_places]
  exact wpAny_pure h
theorem getItem_tuple_rev {t sl : Addr} {items : Array Value} {tk : Tok} {Q : Value → Shared → Prop} (ht : IsTup s.heap t items) (hs : s.heap.IsSliceOf sl .none .none (.int (-1) tk))
    (h : Q (.ref s.heap.objs.size) { s with heap := s.heap.push { cls := .type "tuple", data := .seq items.toList.reverse.toArray } })
    (hsz : items.size ≤ sizeLine) : wpAny (model prog w) A (getItem (.ref t) (.ref sl)) Q E s := by
  have htake : sizeOk (.seq items.toList.reverse.toArray) := by
    show items.toList.reverse.toArray.size ≤ sizeLine
    rw [List.size_toArray, List.length_reverse, Array.length_toList]
    exact hsz
  obtain ⟨os, hos, hcs, hds⟩ := id hs
  have hTs : s.TypeIs (.ref sl) "slice" := ⟨os, hos, hcs⟩
  unfold getItem
  try with_reducible refine wpAny_holding ?_
  first | refine wpAny_bind (wpAny_pure ?_) | skip
  refine wpAny_bind (wpAny_sequenceKey ht.typeIs (by decide) ?_)
  refine wpAny_bind (wpAny_callSpecial?_slot (name := Str.ofString "__getitem__") ht.typeIs PyProof.Rows.slot_tuple_getitem
    (wpAny_call_entry PyProof.Rows.slot_tuple_getitem ht.typeIs entry_tuple_getitem ?_ (args_tuple_getitem _ _)))
  show wpAny _ _ (Builtin.Tuple.tupleItemsOf (.ref t) >>= _) _ _ s
  refine wpAny_bind (tupleItemsOf_ ht ?_)
  refine wpAny_bind (wpAny_typeOf hTs ?_)
  rw [if_pos (by decide)]
  refine wpAny_bind (sliceApplied_rev hs ?_)
  have hno : ¬ (((((items.size : Int) - 1) == 0) && ((-1 : Int) == 1) && (items.size == items.size)) = true) := by
    intro q
    rw [Bool.and_eq_true, Bool.and_eq_true] at q
    exact absurd q.1.2 (by decide)
  show wpAny _ _ (if ((((items.size : Int) - 1) == 0) && ((-1 : Int) == 1) && (items.size == items.size)) = true then _ else _) _ _ s
  rw [if_neg hno, rev_pick]
  first
    | exact wpAny_bind (m := Builtin.Tuple.tupleExact _) (wpAny_newObj_type (wpAny_pure ⟨_, rfl, wpAny_pure h⟩) htake)
    | exact wpAny_bind (m := Builtin.Tuple.tupleExact _) (wpAny_newObj_type (wpAny_bind (wpAny_pure (wpAny_pure ⟨_, rfl, wpAny_pure h⟩))) htake)
    | exact wpAny_bind (wpAny_bind (m := Builtin.Tuple.tupleExact _) (wpAny_newObj_type (wpAny_pure (wpAny_pure ⟨_, rfl, wpAny_pure h⟩)) htake))
    | exact wpAny_bind (wpAny_bind (m := Builtin.Tuple.tupleExact _) (wpAny_newObj_type (wpAny_pure ⟨_, rfl, wpAny_pure h⟩) htake))
end
end HT
namespace Lt
noncomputable section
open PySem PySem.Spec PyProof.Rows L2
def revB : D → M D
  | .tup xs => ret (.tup xs.reverse)
  | .ref n => bnd (lsAt n) fun xs => alc (.lst xs.reverse)
  | _ => no
def eRev (f : EE) : EE := fun η => bnd (f η) revB
section
variable {G : GC} {X : Cx} {W : TW}
/-- a[::-1] -/
theorem pe_revE {a : Expr} {f : EE} {kk : Nat} {q1 q2 p2 pos : Pos} (k : Ok G X W) (ha : PE X a (T G W f)) : PE X (.Subscript a (.Slice none none (some (.UnaryOp .USub (.Constant (.int 1) kk q1) q2)) p2) pos) (T G W (eRev f)) := by
  refine ⟨fun pins s σ H Q I h => ?_⟩
  have hT := T_then (f := f) (k := fun _ => revB) (R := fun v H1 => (∃ a vs, v = .ref a ∧ SqT G.K H1 a vs ∧ ∀ p, H1 p = none → Q (.ref p) (upd H1 p (.tup vs.reverse))) ∨ (∃ a vs, v = .ref a ∧ SqL G.K H1 a vs ∧ ∀ p, H1 p = none → Q (.ref p) (upd H1 p (.lst vs.reverse)))) (fun ρ η H S o v r e d p => by
    cases d with
    | tup hs ds => exact .inl ⟨_, _, rfl, hs, post_tup r p (.of (pr_rev ds.pr))⟩
    | ref hn =>
      obtain ⟨xs, e, p⟩ := bnd_lsAt p
      obtain ⟨vs, hs, ds⟩ := r.list hn e
      exact .inr ⟨_, vs, rfl, hs, post_alc r p (.of (pr_rev ds.pr))⟩
    | _ => exact p.elim) h
  rw [← k.K] at hT
  refine Subscript_ (thn (ha.run pins s σ H _ I hT) fun v s1 ⟨x, H1, I1, r1, qq⟩ => ?_)
  refine wpAny_Slice ?_
  rw [evalPart_none]
  refine wpAny_pure (wpAny_pure ?_)
  refine thn ((pe_un (X := X) (pos := q2) un_neg (pe_int (i := 1) (j := kk) (pos := q1))).run pins s1 σ H1 (fun u H2 => u = .int (-1) ∧ H2 = H1) I1 ⟨1, rfl, rfl, rfl⟩) fun u s2 ⟨y, H2, I2, r2, ey, eH⟩ => ?_
  subst ey eH
  obtain ⟨t, rfl⟩ := r2
  have I4 : Inv X pins σ H2 { s2 with heap := s2.heap.push { cls := .type "slice", data := .fields #[.none, .none, .int (-1) t] } } := I2.kept (t' := s2.toks) fun b ob q => Heap.get?_push_of_some _ q
  have hs : ({ s2 with heap := s2.heap.push { cls := .type "slice", data := .fields #[.none, .none, .int (-1) t] } } : Shared).heap.IsSliceOf s2.heap.objs.size .none .none (.int (-1) t) := Heap.IsSliceOf.new ..
  show wpAny (model X.prog X.w) X.A (subscriptTail a (.Slice none none (some (.UnaryOp .USub (.Constant (.int 1) kk q1) q2)) p2) v (.ref s2.heap.objs.size)) (EP X pins σ Q) X.xe { s2 with heap := s2.heap.push { cls := .type "slice", data := .fields #[.none, .none, .int (-1) t] } }
  generalize hs4 : ({ s2 with heap := s2.heap.push { cls := .type "slice", data := .fields #[.none, .none, .int (-1) t] } } : Shared) = s4 at I4 hs ⊢
  rcases qq with ⟨ad, vs, e, hq, q⟩ | ⟨ad, vs, e, hq, q⟩
  · subst e
    obtain rfl : v = Value.ref ad := r1
    obtain ⟨its, rv, ht, hz⟩ := I4.tuple hq
    refine tail_any (ops := [.ref ad, .ref s2.heap.objs.size]) ht.typeIs PyProof.Rows.slot_tuple_getitem.lookup ?_ (by with_unfolding_all rfl)
    refine HT.getItem_tuple_rev ht hs ?_ (by rw [List.size_toArray, ← rv.length]; exact hz)
    have hl : its.toArray.toList.reverse.toArray = its.reverse.toArray := rfl
    refine ⟨.ref s4.heap.objs.size, _, I4.laid (t' := s4.toks) (o := .tup vs.reverse) (fun b ob q => Heap.get?_push_of_some _ q) (Nat.le_refl _) ?_, rfl, q _ (I4.hok.fresh (Nat.le_refl _))⟩
    exact ⟨by rw [List.length_reverse]; exact hz, its.reverse, rv.reverse, IsTup.new _ _⟩
  · subst e
    obtain rfl : v = Value.ref ad := r1
    obtain ⟨its, rv, pl, hz⟩ := I4.list hq
    refine tail_any (ops := [.ref ad, .ref s2.heap.objs.size]) pl.isList.typeIs list_getitem_lookup ?_ (by with_unfolding_all rfl)
    refine wpAny_getItem_list_slice pl.isList hs .none .none (.int (-1) t) (by decide) ?_ (by rw [List.size_toArray, ← rv.length]; exact hz)
    rw [PySem.W.krv_pick]
    refine ⟨.ref s4.heap.objs.size, _, I4.laid (t' := s4.toks) (o := .lst vs.reverse) (fun b ob q => Heap.get?_push_of_some _ q) (Nat.le_refl _) ?_, rfl, q _ (I4.hok.fresh (Nat.le_refl _))⟩
    exact ⟨by rw [List.length_reverse]; exact hz, its.reverse, 0, rv.reverse, Heap.get?_push_size _ rfl⟩
end
end
end Lt

end
section
set_option Elab.async false
set_option linter.all false
set_option maxRecDepth 100000
set_option maxHeartbeats 4000000
/-! Lt: sorted of a list that reads as data. -/
namespace Lt
noncomputable section
open PySem PySem.Spec PyProof.Rows L2
/-- the items in their order -/
def srtD {α : Type} (xs : List α) (ps : List PyData) : List α := ((xs.zip ps).mergeSort (W.dataLe false Prod.snd)).map Prod.fst
def rSortD (K : W.Frag) : List V → Hp → VK → Prop := fun vs H Q => ∃ (a : Addr) (xs : List V) (ps : List PyData), vs = [.ref a] ∧ SqL K H a xs ∧ Paired (fun v p => Dp K H v p ∧ SeqAt.shaped p = true) xs ps ∧ W.AllAlike ps ∧ W.Sortable ps ∧ ∀ p, H p = none → Q (.ref p) (upd H p (.lst (srtD xs ps)))
section
variable {X : Cx} {pins : List (Addr × Obj)} {σ : L2.St} {H : Hp} {s : Shared}
theorem each_zip (I : Inv X pins σ H s) : ∀ {xs : List V} {us : List Value} {ps : List PyData}, Paired RelV xs us → Paired (fun v p => Dp X.K H v p ∧ SeqAt.shaped p = true) xs ps →
    W.EachIs (fun u (b : V × PyData) => RelV b.1 u) us (xs.zip ps) ∧ W.EachIs (fun u (b : V × PyData) => ∃ as, Reads s.heap u b.2 as) us (xs.zip ps) ∧ (xs.zip ps).map Prod.snd = ps ∧ ∀ b ∈ xs.zip ps, b.2.depth ≤ 64
  | _, _, _, .nil, .nil => ⟨.nil, .nil, rfl, fun b h => by cases h⟩
  | _, _, _, .cons r t, .cons d e => by
    obtain ⟨h1, h2, h3, h4⟩ := each_zip I t e
    obtain ⟨as, rd⟩ := Dp.reads I _ _ _ d.1 r
    refine ⟨.cons r h1, .cons ⟨as, rd⟩ h2, by rw [List.zip_cons_cons, List.map_cons, h3], fun b hb => ?_⟩
    rcases List.mem_cons.mp hb with rfl | hb
    · exact SeqAt.depth_of_shaped d.2
    · exact h4 b hb
theorem each_pr : ∀ {us : List Value} {bs : List (V × PyData)}, W.EachIs (fun u (b : V × PyData) => RelV b.1 u) us bs → Paired RelV (bs.map Prod.fst) us
  | _, _, .nil => .nil
  | _, _, .cons r t => .cons r (each_pr t)
end
theorem cr_sortD {X : Cx} (hu : X.A.units + 100 < cLine) : CallR X (.builtin "sorted") (rSortD X.K) := by
  intro pins s σ H vs us Q I r h
  obtain ⟨a, xs, ps, rfl, hs, hp, al, so, q⟩ := h
  obtain ⟨its, rv, hl, hz⟩ := I.list hs
  obtain ⟨u, rfl, ru⟩ := vals1 r
  obtain rfl : u = Value.ref a := ru
  obtain ⟨e1, e2, e3, e4⟩ := each_zip I rv hp
  have lz : (xs.zip ps).length = xs.length := by rw [List.length_zip, ← hp.length, Nat.min_self]
  refine W.sorted_data (R := fun u (b : V × PyData) => RelV b.1 u) (enc := Prod.snd) (bs := xs.zip ps) hl.isList e1 e2 (by rw [e3]; exact al) (by rw [e3]; exact so) (by rw [lz]; exact hz) (fun b hb => ?_) fun out ho eo => ?_
  · have := e4 b hb
    omega
  · have pr := each_pr eo
    obtain ⟨n, hn⟩ := sortedAll_at s.heap its out.toArray
    have hd : s.heap.objs.size ≤ s.heap.objs.size + 1 := Nat.le_succ _
    refine ⟨.ref (s.heap.objs.size + 1), upd H (s.heap.objs.size + 1) (.lst (srtD xs ps)), I.laid (t' := s.toks) (fun b o e => sortedAll_old e) hd ⟨?_, out, n, pr, hn⟩, rfl, q _ (I.hok.fresh hd)⟩
    unfold srtD
    rw [List.length_map, List.length_mergeSort, lz]
    exact hz
/-- all of one shape -/
def alikeB (ps : List PyData) : Bool := ps.all fun p => ps.all fun q => W.alike p q
def tupB : PyData → Bool
  | .tuple (_ :: _) => true
  | _ => false
def oneB : PyData → Bool
  | .tuple _ => false
  | .none => false
  | _ => true
def srtB (ps : List PyData) : Bool := ps.all SeqAt.shaped && (alikeB ps && (ps.all tupB || ps.all oneB))
def lSorted (xs : List D) : M D := fun S => match optMap (toP 64 S) xs with
  | some ps => grd (srtB ps) (alc (.lst (srtD xs ps))) S
  | none => .no
def mSorted : Fn := onSeq lSorted fun _ => no
section
variable {G : GC} {ρ : List Addr} {H : Hp} {S : Sto}
theorem dp_pr (r : Rel G ρ H S) : ∀ {xs : List D} {ps : List PyData} {vs : List V}, optMap (toP 64 S) xs = some ps → Dens G ρ H xs vs → ps.all SeqAt.shaped = true → Paired (fun v p => Dp G.K H v p ∧ SeqAt.shaped p = true) vs ps
  | [], ps, _, e, .nil, _ => by cases e; exact .nil
  | x :: xs, ps, _, e, .cons d t, h => by
    unfold optMap at e
    cases e1 : toP 64 S x with
    | none => rw [e1] at e; cases e
    | some p =>
      cases e2 : optMap (toP 64 S) xs with
      | none => rw [e1, e2] at e; cases e
      | some qs =>
        rw [e1, e2] at e
        cases e
        obtain ⟨h1, h2⟩ := Bool.and_eq_true_iff.mp (show (SeqAt.shaped p && qs.all SeqAt.shaped) = true from h)
        exact .cons ⟨toP_dp r _ _ _ _ e1 d, h1⟩ (dp_pr r e2 t h2)
theorem pr_zip {α β γ : Type} {F : α → β → Prop} : ∀ {xs : List α} {vs : List β} (ps : List γ), Paired F xs vs → Paired (fun a b => F a.1 b.1 ∧ a.2 = b.2) (xs.zip ps) (vs.zip ps)
  | _, _, [], .nil => .nil
  | _, _, _ :: _, .nil => .nil
  | _, _, [], .cons _ _ => .nil
  | _, _, p :: ps, .cons r t => .cons ⟨r, rfl⟩ (pr_zip ps t)
theorem each_of {α β : Type} {F : α → β → Prop} : ∀ {xs : List α} {ys : List β}, Paired F xs ys → W.EachIs F xs ys
  | _, _, .nil => .nil
  | _, _, .cons r t => .cons r (each_of t)
theorem pr_of {α β : Type} {F : α → β → Prop} : ∀ {xs : List α} {ys : List β}, W.EachIs F xs ys → Paired F xs ys
  | _, _, .nil => .nil
  | _, _, .cons r t => .cons r (pr_of t)
theorem pr_map {α β α' β' : Type} {F : α → β → Prop} {F' : α' → β' → Prop} {f : α → α'} {g : β → β'} (h : ∀ a b, F a b → F' (f a) (g b)) : ∀ {xs : List α} {ys : List β}, Paired F xs ys → Paired F' (xs.map f) (ys.map g)
  | _, _, .nil => .nil
  | _, _, .cons r t => .cons (h _ _ r) (pr_map h t)
/-- the sort, carried over -/
theorem pr_sort {α β γ : Type} {F : α → β → Prop} {le : γ → γ → Bool} : ∀ {xs : List (α × γ)} {ys : List (β × γ)}, Paired (fun a b => F a.1 b.1 ∧ a.2 = b.2) xs ys → Paired (fun a b => F a.1 b.1 ∧ a.2 = b.2) (xs.mergeSort fun a b => le a.2 b.2) (ys.mergeSort fun a b => le a.2 b.2) := by
  intro xs ys h
  have e : xs.length = ys.length := h.length
  obtain ⟨zs, e1, e2, e3⟩ : ∃ zs : List ((α × γ) × (β × γ)), xs = zs.map Prod.fst ∧ ys = zs.map Prod.snd ∧ ∀ z ∈ zs, F z.1.1 z.2.1 ∧ z.1.2 = z.2.2 := by
    clear e
    induction h with
    | nil => exact ⟨[], rfl, rfl, fun z hz => by cases hz⟩
    | cons r t ih =>
      obtain ⟨zs, e1, e2, e3⟩ := ih
      refine ⟨(_, _) :: zs, by rw [List.map_cons, ← e1], by rw [List.map_cons, ← e2], fun z hz => ?_⟩
      rcases List.mem_cons.mp hz with rfl | hz
      · exact r
      · exact e3 z hz
  have m1 : xs.mergeSort (fun a b => le a.2 b.2) = (zs.mergeSort fun a b => le a.1.2 b.1.2).map Prod.fst := by
    rw [e1]
    exact (List.map_mergeSort (f := Prod.fst) (r := fun (a b : (α × γ) × (β × γ)) => le a.1.2 b.1.2) (s := fun a b => le a.2 b.2) (fun a _ b _ => rfl)).symm
  have m2 : ys.mergeSort (fun a b => le a.2 b.2) = (zs.mergeSort fun a b => le a.1.2 b.1.2).map Prod.snd := by
    rw [e2]
    refine (List.map_mergeSort (f := Prod.snd) (r := fun (a b : (α × γ) × (β × γ)) => le a.1.2 b.1.2) (s := fun a b => le a.2 b.2) (fun a ha b hb => ?_)).symm
    rw [(e3 a ha).2, (e3 b hb).2]
  rw [m1, m2]
  have e4 : ∀ z ∈ zs.mergeSort fun a b => le a.1.2 b.1.2, F z.1.1 z.2.1 ∧ z.1.2 = z.2.2 := fun z hz => e3 z (List.mem_mergeSort.mp hz)
  generalize (zs.mergeSort fun a b => le a.1.2 b.1.2) = ws at e4
  clear e1 e2 e3 m1 m2 e
  induction ws with
  | nil => exact .nil
  | cons w ws ih => exact .cons (e4 w (List.mem_cons_self ..)) (ih fun z hz => e4 z (List.mem_cons_of_mem _ hz))
theorem srtB_ok {ps : List PyData} (h : srtB ps = true) : ps.all SeqAt.shaped = true ∧ W.AllAlike ps ∧ W.Sortable ps := by
  obtain ⟨h1, h⟩ := Bool.and_eq_true_iff.mp h
  obtain ⟨h2, h3⟩ := Bool.and_eq_true_iff.mp h
  refine ⟨h1, fun d hd e he => List.all_eq_true.mp (List.all_eq_true.mp h2 d hd) e he, ?_⟩
  rcases Bool.or_eq_true_iff.mp h3 with z | z
  · refine .inl fun d hd => ?_
    have := List.all_eq_true.mp z d hd
    unfold tupB at this
    split at this
    · exact ⟨_, _, rfl⟩
    · cases this
  · refine .inr fun d hd => ?_
    have := List.all_eq_true.mp z d hd
    unfold oneB at this
    split at this
    · cases this
    · cases this
    · rename_i q1 q2
      exact ⟨q2, q1⟩
theorem lSorted_ok : LstOk rSortD lSorted := fun G ρ H S W' Q xs vs a r h d p => by
  unfold lSorted at p
  cases e : optMap (toP 64 S) xs with
  | none => rw [e] at p; exact p.elim
  | some ps =>
    rw [e] at p
    dsimp only at p
    obtain ⟨c, p⟩ := grd_no p
    obtain ⟨h1, h2, h3⟩ := srtB_ok c
    refine ⟨a, vs, ps, rfl, h, dp_pr r e d h1, h2, h3, ?_⟩
    refine post_alc r p (Dens.of ?_)
    unfold srtD
    exact pr_map (F := fun a b => Den G ρ H a.1 b.1 ∧ a.2 = b.2) (fun _ _ h => h.1) (pr_sort (le := fun p q => W.dataLe false id p q) (pr_zip ps d.pr))
end
theorem mSorted_ok : ValOk rSortD mSorted := onSeq_ok lSorted_ok no_tup
end
end Lt

end
section
set_option Elab.async false
set_option linter.all false
set_option maxRecDepth 100000
set_option maxHeartbeats 4000000
/-! Lt: == of own instances by their own __eq__. -/
namespace Lt
noncomputable section
open PySem PySem.Spec PyProof.Rows L2
def asBl : D → M Bool
  | .bl b => ret b
  | _ => no
/-- et: the own == of classes -/
def eqO (et : List (Nat × Fn)) (x y : D) : M Bool := match x, y with
  | .ref a, .ref b => bnd (lod a) fun c => bnd (lod b) fun d => match c, d with
    | .ins c _, .ins c' _ => (match Nat.beq c c', et.lookup c with
      | true, some m => bnd (noX (m [.ref a, .ref b])) asBl
      | _, _ => no)
    | _, _ => eqD (.ref a) (.ref b)
  | x, y => eqD x y
def eEqO (et : List (Nat × Fn)) (f g : EE) : EE := fun η => bnd (f η) fun x => bnd (g η) fun y => bnd (eqO et x y) fun b => ret (.bl b)
def bEqO (et : List (Nat × Fn)) (f g : EE) : BB := fun η => bnd (f η) fun x => bnd (g η) fun y => eqO et x y
section
variable {G : GC} {X : Cx} {W : TW} {k : Nat} {a b : Expr} {f g : EE} {pos : Pos}
/-- the own == of a class -/
def EqV (G : GC) (k : Nat) (c : Nat) (m : Fn) : Prop := ∃ y C f, G.gt[c]? = some y ∧ G.mg y = some (.ref C) ∧ Meth G.K C "__eq__" f ∧ CallV G k (.ref f) m
def rOwnQ (G : GC) (k : Nat) : R2 := fun x y H Q => ∃ (C f : Addr) (m : Fn) (dx dy : Addr) (gx gy : List (Str × V)) (p q : Addr) (ρ : List Addr) (S : Sto) (i j : Nat), x = .ref p ∧ y = .ref q ∧ H p = some (.ins C dx gx) ∧ H q = some (.ins C dy gy) ∧ Meth G.K C "__eq__" f ∧ CallV G k (.ref f) m ∧ Rel G ρ H S ∧ Dens G ρ H [.ref i, .ref j] [x, y] ∧
  PostD G (fun _ _ _ => False) ρ H (fun v H' => ∃ b, v = .bl b ∧ Q (.bl b) H') (m [.ref i, .ref j] S)
theorem post_false {α β : Type} {Rv : List Addr → Hp → α → β → Prop} {W' : Value → Option Addr → Hp → Prop} {Q : β → Hp → Prop} {ρ : List Addr} {H : Hp} {r : R α} (p : Post G Rv (fun _ _ _ => False) ρ H Q r) : Post G Rv W' ρ H Q r := by
  cases r with
  | ok a S => exact p
  | exc c fs S => exact fun ρ' H' x ca dx g r h1 h2 h3 => (p ρ' H' x ca dx g r h1 h2 h3).elim
  | no => exact p.elim
theorem op_ownQ (o : Ok G X W) (hr : Room k X.A) : OpR X (compareOp .Eq) (rOwnQ G k) := by
  intro pins s σ H x y v u Q I rx ry h
  obtain ⟨C, f, m, dx, dy, gx, gy, p, q, ρ, S, i, j, rfl, rfl, ha, hb, M, cv, r, d, ps⟩ := h
  cases rx
  cases ry
  obtain ⟨mA, J, _⟩ := ins_get I.hok ha
  obtain ⟨mB, J', _⟩ := ins_get I.hok hb
  obtain ⟨od, J, _⟩ := J.look
  obtain ⟨od', J', _⟩ := J'.look
  obtain ⟨m', hF⟩ := I.fr
  have hu : X.A.units < cLine := by have := o.units; omega
  have hK := o.K
  show wpAny (model X.prog X.w) X.A (richCompare .Eq (.ref p) (.ref q)) (EP X pins σ Q) X.xe s
  refine PySem.W.cmp_K (K := X.K) (op := .Eq) (tb := .ref C) hu hF I.ok.mod.kin J J'.type (by simp [PySem.W.notFirst]) (by rw [hK]; exact M.at_) (by rw [hK]; exact M.fn) ?_
  have hc := cv X W o hr pins σ H s [.ref p, .ref q] [V.ref p, V.ref q] (fun v H' => ∃ b, v = .bl b ∧ Q (.bl b) H') I (.cons rfl (.cons rfl .nil)) ⟨ρ, S, _, r, d, post_false ps⟩
  refine wpAny_mono hc (fun z s' hq => ?_) fun _ _ e => e
  obtain ⟨z', H', I', rz, b, rfl, q'⟩ := hq
  cases rz
  exact ⟨.bl b, H', I', rfl, q'⟩
/-- both -/
def rEqO (G : GC) (K : PySem.W.Frag) (k : Nat) : R2 := fun x y H Q => rEqD K x y H Q ∨ rOwnQ G k x y H Q
theorem op_eqO (o : Ok G X W) (hr : Room k X.A) : OpR X (compareOp .Eq) (rEqO G X.K k) := OpR.or (op_eqD (by have := o.units; omega)) (op_ownQ o hr)
theorem eqO_ok {et : List (Nat × Fn)} (he : ∀ q ∈ et, EqV G k q.1 q.2) {ρ : List Addr} {H : Hp} {S : Sto} {x y : D} {v u : V} {W' : Value → Option Addr → Hp → Prop} {Q : Bool → Hp → Prop} (r : Rel G ρ H S) (dx : Den G ρ H x v) (dy : Den G ρ H y u) (p : PostB G W' ρ H Q (eqO et x y S)) :
    rEqO G G.K k v u H (fun z H' => ∃ b, z = .bl b ∧ Q b H') := by
  have plain : ∀ {x y : D}, Den G ρ H x v → Den G ρ H y u → PostB G W' ρ H Q (eqD x y S) → rEqO G G.K k v u H (fun z H' => ∃ b, z = .bl b ∧ Q b H') := fun dx dy p => by
    obtain ⟨d, e, h1, h2, h3, h4, q⟩ := eqD_ok r dx dy p
    exact .inl ⟨d, e, h1, h2, h3, h4, _, rfl, q⟩
  unfold eqO at p
  split at p
  · rename_i a b
    obtain ⟨c, hc, p⟩ := bnd_lod p
    obtain ⟨d, hd, p⟩ := bnd_lod p
    cases dx with
    | ref ha =>
      cases dy with
      | ref hb =>
        cases c with
        | ins c gs =>
          cases d with
          | ins c' gs' =>
            dsimp only at p
            cases e1 : Nat.beq c c' with
            | false => rw [e1] at p; exact p.elim
            | true =>
              cases e2 : et.lookup c with
              | none => rw [e1, e2] at p; exact p.elim
              | some m =>
                rw [e1, e2] at p
                dsimp only at p
                have ec : c = c' := Nat.eq_of_beq_eq_true e1
                subst ec
                obtain ⟨y, ca, dx, gv, h1, h2, h3, h4⟩ := r.cell _ _ _ hc ha
                obtain ⟨y', ca', dy, gv', h1', h2', h3', h4'⟩ := r.cell _ _ _ hd hb
                obtain ⟨y2, C, f, k1, k2, k3, k4⟩ := he _ (lookup_mem e2)
                have ey : y = y2 := Option.some.inj (h1.symm.trans k1)
                subst ey
                rw [h2] at k2
                cases k2
                have ey : y = y' := Option.some.inj (h1.symm.trans h1')
                subst ey
                rw [h2] at h2'
                cases h2'
                refine .inr ⟨_, f, m, dx, dy, gv, gv', _, _, ρ, S, a, b, rfl, rfl, h3, h3', k3, k4, r, .cons (.ref ha) (.cons (.ref hb) .nil), ?_⟩
                have p2 := noX_post (Post.bnd (Rv := Den G) p)
                refine Post.mono p2 fun w H1 ⟨ρ1, S1, z, g1, r1, d1, _, p1⟩ => ?_
                cases d1 with
                | bl b => exact ⟨b, rfl, b, rfl, post_retB r1 p1⟩
                | _ => exact p1.elim
          | _ => exact plain (.ref ha) (.ref hb) p
        | _ => exact plain (.ref ha) (.ref hb) p
  · exact plain dx dy p
theorem rEqO_mono {K : PySem.W.Frag} {x y : V} {H : Hp} {Q Q' : VK} (h : rEqO G K k x y H Q) (hq : ∀ z H', Q z H' → Q' z H') : rEqO G K k x y H Q' := by
  rcases h with ⟨d, e, a1, a2, a3, a4, q⟩ | ⟨C, f, m, dx, dy, gx, gy, p, q, ρ, S, i, j, h1, h2, h3, h4, h5, h6, h7, h8, h9⟩
  · exact .inl ⟨d, e, a1, a2, a3, a4, hq _ _ q⟩
  · exact .inr ⟨C, f, m, dx, dy, gx, gy, p, q, ρ, S, i, j, h1, h2, h3, h4, h5, h6, h7, h8, Post.mono h9 fun v H' ⟨b, e, q⟩ => ⟨b, e, hq _ _ q⟩⟩
theorem pe_eqO (o : Ok G X W) (hr : Room k X.A) {et : List (Nat × Fn)} (he : ∀ q ∈ et, EqV G k q.1 q.2) (ha : PE X a (T G W f)) (hb : PE X b (T G W g)) (hm : behindInMarks .Eq b = false) : PE X (.Compare a [.Eq] [b] pos) (T G W (eEqO et f g)) :=
  pe_mono (pe_cmpR (op_eqO o hr) ha hb hm) fun σ H Q hT => T_op (fun ρ H S x y v u r dx dy p => by
    rw [o.K]
    exact rEqO_mono (eqO_ok he r dx dy (postB_bl p)) fun z H' ⟨b, e, q⟩ => by rw [e]; exact q) hT
theorem pt_eqO (o : Ok G X W) (hr : Room k X.A) {et : List (Nat × Fn)} (he : ∀ q ∈ et, EqV G k q.1 q.2) (ha : PE X a (T G W f)) (hb : PE X b (T G W g)) (hm : behindInMarks .Eq b = false) : PT X (.Compare a [.Eq] [b] pos) (TB G W (bEqO et f g)) :=
  pt_mono (pt_cmpR (op_eqO o hr) ha hb hm) fun σ H Q hT => TB_op (R := fun v u H => rEqO G X.K k v u H fun z H' => ∃ b, z = .bl b ∧ Q b H') (fun ρ H S x y v u r dx dy p => by
    rw [o.K]
    exact eqO_ok he r dx dy p) hT
/-! ### len by an own __len__ -/
def LenD (G : GC) (k : Nat) (c : Nat) (m : Fn) : Prop := ∃ y C f fd ps, G.gt[c]? = some y ∧ G.mg y = some (.ref C) ∧ Meth G.K C "__len__" f ∧ FnG G k f fd ps m ∧ Binds G.K fd ps [] ∧ Arity m ps.length
def rLenQ (G : GC) (k : Nat) : List V → Hp → VK → Prop := fun xs H Q => ∃ (C f : Addr) (fd : FuncData) (ps : List Str) (m : Fn) (dx : Addr) (gx : List (Str × V)) (p : Addr) (ρ : List Addr) (S : Sto) (i : Nat), xs = [.ref p] ∧ H p = some (.ins C dx gx) ∧ Meth G.K C "__len__" f ∧ FnG G k f fd ps m ∧ Binds G.K fd ps [] ∧ Arity m ps.length ∧ Rel G ρ H S ∧ Den G ρ H (.ref i) (.ref p) ∧
  PostD G (fun _ _ _ => False) ρ H (fun v H' => ∃ n : Int, v = .int n ∧ (0 ≤ n ∧ n < 2 ^ 63) ∧ Q (.int n) H') (m [.ref i] S)
theorem cx_none {P : Program} {w : World} {st : List PySem.Env} {H : Hp} {s : Shared} {e : Value} {s' : Shared} (h : L2.CX P w st H s (fun _ _ _ => False) e s') : False := by
  obtain ⟨_, _, _, _, _, _, _, _, _, _, _, _, z⟩ := h
  exact z
theorem call_lenQ (o : Ok G X W) (hr : Room (k + 1) X.A) : CallR X (.builtin "len") (rLenQ G k) := by
  intro pins s σ H vs us Q I r h
  obtain ⟨C, f, fd, ps, m, dx, gx, p, ρ, S, i, rfl, ha, M, F, b, ar, rr, d, pd⟩ := h
  obtain ⟨u, rfl, ru⟩ := vals1 r
  obtain rfl : u = Value.ref p := ru
  obtain ⟨mA, J, _⟩ := ins_get I.hok ha
  obtain ⟨od, J, _⟩ := J.look
  obtain ⟨m', hF⟩ := I.fr
  obtain ⟨P, w, K, mg, base, A, N, s0, H0, env, outer, stack, ex, fn, calm, pn, xe⟩ := X
  obtain ⟨eP, ew, eK, em, eb, ec, tk, nd, un⟩ := o
  dsimp only at eP ew eK em eb hr
  subst eP ew eK em eb
  refine PySem.W.len_K hF I.ok.mod.kin J M.at_ M.fn ?_
  have e0 : Env0 G.P G.w G.K G.mg G.base A.in1 stack s H := by
    have e := I.env0
    exact ⟨e.frames, e.mod, e.bs, e.bsz, e.funs, e.frf, e.hok, e.bare⟩
  have ds : Dens G ρ H [.ref i] [.ref p] := .cons d .nil
  have hsp : spF G m ps.length [.ref p] H (fun v H' => ∃ n : Int, v = .int n ∧ (0 ≤ n ∧ n < 2 ^ 63) ∧ Q (.int n) H') (fun _ _ _ => False) := ⟨arity_len ar ds pd, ρ, S, _, rr, ds, pd⟩
  have hl := F.len _ _ _ _ hsp
  have r2 : Vals [V.ref p] [Value.ref p] := .cons rfl .nil
  refine wpAny_call (codeAny_mono (F.run A.in1 stack s H ⟨[.ref p], []⟩ [.ref p] [.ref p] _ _ (hr.in1) e0 (by
    have := b s [.ref p] I.kIn (by simpa using hl)
    simpa using this) r2 hsp) fun r s' hq => ?_)
  cases r with
  | error e => exact (cx_none hq).elim
  | ok fl =>
    cases fl with
    | ret w =>
      obtain ⟨z, H', I', rz, n, ez, hn, q⟩ := I.after hq
      subst ez
      obtain ⟨t, rfl⟩ := rz
      exact ⟨hn, .int n, H', I'.tok _, ⟨_, rfl⟩, q⟩
    | next => exact False.elim hq
    | brk => exact False.elim hq
    | cont => exact False.elim hq
/-- len of a value, or of an own instance -/
def mLenO (lt : List (Nat × Fn)) : Fn := fun ds => match ds with
  | [.ref a] => bnd (lod a) fun c => match c with
    | .ins c _ => (match lt.lookup c with
      | some m => bnd (noX (m [.ref a])) fun r => (match r with
        | .int n => grd (decide (0 ≤ n) && decide (n < 2 ^ 63)) (ret (.int n))
        | _ => no)
      | none => no)
    | _ => mLen [.ref a]
  | ds => mLen ds
def rLenO (G : GC) (k : Nat) (K : PySem.W.Frag) : List V → Hp → VK → Prop := fun xs H Q => rLenOf K xs H Q ∨ rLenQ G k xs H Q
theorem mLenO_ok {lt : List (Nat × Fn)} (hl : ∀ q ∈ lt, LenD G k q.1 q.2) {ρ : List Addr} {H : Hp} {S : Sto} {W' : Value → Option Addr → Hp → Prop} {Q : VK} {ds : List D} {vs : List V} (r : Rel G ρ H S) (d : Dens G ρ H ds vs) (p : PostD G W' ρ H Q (mLenO lt ds S)) : rLenO G k G.K vs H Q := by
  unfold mLenO at p
  split at p
  · rename_i a
    obtain ⟨v, ev, dv⟩ := dens1 d
    subst ev
    cases dv with
    | ref ha =>
      obtain ⟨c, hc, p⟩ := bnd_lod p
      cases c with
      | ins c gs =>
        dsimp only at p
        cases e2 : lt.lookup c with
        | none => rw [e2] at p; exact p.elim
        | some m =>
          rw [e2] at p
          dsimp only at p
          obtain ⟨y, ca, dx, gv, h1, h2, h3, h4⟩ := r.cell _ _ _ hc ha
          obtain ⟨y2, C, f, fd, ps, k1, k2, k3, k4, k5, k6⟩ := hl _ (lookup_mem e2)
          have ey : y = y2 := Option.some.inj (h1.symm.trans k1)
          subst ey
          rw [h2] at k2
          cases k2
          refine .inr ⟨_, f, fd, ps, m, dx, gv, _, ρ, S, a, rfl, h3, k3, k4, k5, k6, r, .ref ha, ?_⟩
          have p2 := noX_post (Post.bnd (Rv := Den G) p)
          refine Post.mono p2 fun w H1 ⟨ρ1, S1, z, g1, r1, d1, _, p1⟩ => ?_
          cases d1 with
          | int n =>
            obtain ⟨c, p1⟩ := grd_no p1
            obtain ⟨c1, c2⟩ := Bool.and_eq_true_iff.mp c
            exact ⟨n, rfl, ⟨of_decide_eq_true c1, of_decide_eq_true c2⟩, post_ret r1 p1 (.int n)⟩
          | _ => exact p1.elim
      | _ => exact .inl (mLen_ok G ρ H S W' Q _ _ r d p)
  · exact .inl (mLen_ok G ρ H S W' Q _ _ r d p)
theorem call_lenO (o : Ok G X W) (hr : Room (k + 1) X.A) : CallR X (.builtin "len") (rLenO G k X.K) := CallR.or call_len (call_lenQ o hr)
def mLenT : List (Nat × Fn) → Fn
  | [] => mLen
  | e :: es => mLenO (e :: es)
/-- the own len of the classes told -/
def LenV (G : GC) (k : Nat) (lt : List (Nat × Fn)) : Prop := lt = [] ∨ ∃ j, k = j + 1 ∧ ∀ q ∈ lt, LenD G j q.1 q.2
theorem lenV_nil : LenV G k [] := .inl rfl
theorem LenD.mono {j : Nat} {c : Nat} {m : Fn} (h : LenD G j c m) (e : j ≤ k) : LenD G k c m := by
  obtain ⟨y, C, f, fd, ps, h1, h2, h3, h4, h5, h6⟩ := h
  exact ⟨y, C, f, fd, ps, h1, h2, h3, h4.mono e, h5, h6⟩
end
end
end Lt

end
section
set_option Elab.async false
set_option linter.all false
set_option maxRecDepth 100000
set_option maxHeartbeats 4000000
/-! Lt: + and * of own instances by their own methods. -/
namespace PySem.W
open PySem PySem.Calls PyProof.Rows
section
variable {prog : Program} {w : World} {A : Around} {E : Value → Shared → Prop} {s : Shared} {K : Frag} {x C L f : Addr} {h₀ : Heap} {m : Str → Option Value} {ox : Obj} {od : Option Obj} {T : String}
/-- own op value of a built-in type -/
theorem ownOp {op : Operator} {b : Value} {fo ro : Option Value} {Q : Value → Shared → Prop} (F : Fr h₀ L s.heap m) (X₀ : K.In h₀) (I : InstAt s.heap x ox C od) (hb : Looks (model prog w) s.heap (typeOf b) (.type T)) (hc : selfFirst K C = true)
    (hs : findIn K (.ref C) (PySem.dunder op.info.2) = some (some (.ref f))) (hf : isFn K (.ref f) = true) (hr : findIn K (.ref C) (dunderR op.info.2) = some none)
    (h1 : findIn K (.type T) (PySem.dunder op.info.2) = some fo) (h2 : findIn K (.type T) (dunderR op.info.2) = some ro) (hsub : subIn K (.type T) (.ref C) = some false)
    (h : wpAny (model prog w) A (call (.ref f) [.ref x, b]) (CmpBack Q) E s) : wpAny (model prog w) A (binaryOp op (.ref x) b) Q E s := by
  have X := X₀.keeps F.keep
  obtain ⟨cd, rest, hcd, hm⟩ := ksp_first hc
  rcases hi : op.info with ⟨sym, nm⟩
  rw [hi] at hs hr h1 h2
  dsimp only at hs hr h1 h2
  have one := ksp_try X I hs hf h
  obtain ⟨hh, g, d, tt, os⟩ := s
  have L1 : Looks (model prog w) hh (typeOf (.ref x)) (.ref C) := I.type
  have L2 : Looks (model prog w) hh (typeOf b) (.type T) := hb
  have L3 : Looks (model prog w) hh (fillsNumberSlot (.ref C) nm) true := fills_K X hcd hm hs
  have L4 : Looks (model prog w) hh (fillsNumberSlot (.type T) nm) ((fo.isSome && !isSeqSlot fo) || (ro.isSome && !isSeqSlot ro)) := ksp_fillsT X h1 h2
  have L5 : Looks (model prog w) hh (isSubtype (.type T) (.ref C)) false := looks_subIn X hsub
  have L6 : Looks (model prog w) hh (numberSlotInPython (.ref C) nm) true := ksp_inPy X hs hr (.inl rfl)
  have L7 : Looks (model prog w) hh (numberSlotInPython (.type T) nm) false := Looks.of_pure rfl
  have L8 : Looks (model prog w) hh (typeLookup (.type T) (dunderR nm)) ro := looks_findIn X h2
  generalize ((fo.isSome && !isSeqSlot fo) || (ro.isSome && !isSeqSlot ro)) = right at L4
  have hne : (Value.ref C == Value.type T) = false := Bool.eq_false_iff.mpr fun q => by cases beq_iff_eq.mp q
  simp only [binaryOp, hi]
  refine wpAny_holding (wpAny_bind ?_)
  unfold binaryOp1
  refine wpAny_bind (L1.at (wpAny_bind (L2.at (wpAny_bind (L3.at ?_)))))
  simp only [hne, Bool.false_eq_true, if_false]
  cases right with
  | false =>
    ksp_lk
    refine wpAny_mono one (fun r s' hr' => ?_) fun _ _ e => e
    obtain ⟨v, rfl, hq⟩ := hr'
    ksp_lk
    exact hq
  | true =>
    ksp_lk
    refine wpAny_mono one (fun r s' hr' => ?_) fun _ _ e => e
    obtain ⟨v, rfl, hq⟩ := hr'
    ksp_lk
    exact hq
end
end PySem.W
namespace Lt
noncomputable section
open PySem PySem.Spec PyProof.Rows L2
/-- what may stand at the right of an own operator -/
def oyB (c : Nat) (y : D) : M Bool := match y with
  | .int _ => ret true
  | .bl _ => ret true
  | .non => ret true
  | .str _ => ret true
  | .tup _ => ret true
  | .ref b => bnd (lod b) fun d => match d with
    | .ins c' _ => ret (Nat.beq c c')
    | _ => ret false
  | _ => ret false
/-- bt: the classes' own op -/
def opO (bt : List (Nat × Fn)) (o : Op) (x y : D) : M D := match x with
  | .ref a => bnd (lod a) fun c => match c with
    | .ins c _ => (match bt.lookup c with
      | some m => bnd (oyB c y) fun b => match b with
        | true => m [.ref a, y]
        | false => no
      | none => no)
    | _ => opB o (.ref a) y
  | x => opB o x y
def eBinO (bt : List (Nat × Fn)) (o : Op) (f g : EE) : EE := fun η => bnd (f η) fun x => bnd (g η) fun y => opO bt o x y
section
variable {G : GC} {X : Cx} {W : TW} {k : Nat} {a b : Expr} {f g : EE} {pos : Pos}
def opTys : List String := ["int", "bool", "NoneType", "str", "tuple"]
/-- what is known of a class with an own op -/
def ownB (K : PySem.W.Frag) (C : Addr) (n r : Str) : Bool := PySem.W.selfFirst K C && (decide (PySem.W.findIn K (.ref C) r = some none) && opTys.all fun T => (PySem.W.findIn K (.type T) n).isSome && ((PySem.W.findIn K (.type T) r).isSome && decide (PySem.W.subIn K (.type T) (.ref C) = some false)))
/-- the own op of a class -/
def BinV (G : GC) (k : Nat) (o : Op) (c : Nat) (m : Fn) : Prop := ∃ y C f, G.gt[c]? = some y ∧ G.mg y = some (.ref C) ∧ Meth G.K C (PySem.dunder (opOf o).info.2) f ∧ ownB G.K C (PySem.dunder (opOf o).info.2) (dunderR (opOf o).info.2) = true ∧ CallV G k (.ref f) m
theorem bnd_as {α β γ : Type} (m : M α) (f : α → M β) (g : β → M γ) (S : Sto) : bnd (bnd m f) g S = bnd m (fun x => bnd (f x) g) S := by
  unfold bnd
  cases m S <;> rfl
theorem not_ni {x : V} {v : Value} (r : RelV x v) {Q : Value → Shared → Prop} {s : Shared} (q : Q v s) : PySem.W.CmpBack Q v s := by
  cases x with
  | non => cases r; exact q
  | bl => cases r; exact q
  | int => obtain ⟨t, rfl⟩ := r; exact q
  | str => obtain ⟨t, rfl⟩ := r; exact q
  | byt => obtain ⟨t, rfl⟩ := r; exact q
  | flt => obtain ⟨t, rfl⟩ := r; exact q
  | ref => cases r; exact q
  | ty => cases r; exact q
def anT : D → Option String
  | .int _ => some "int"
  | .bl _ => some "bool"
  | .non => some "NoneType"
  | .str _ => some "str"
  | .tup _ => some "tuple"
  | _ => none
theorem anT_looks {pins : List (Addr × Obj)} {σ : L2.St} {H : Hp} {s : Shared} {ρ : List Addr} {y : D} {u : V} {uu : Value} {T : String} (I : Inv X pins σ H s) (o : Ok G X W) (hy : anT y = some T) (dy : Den G ρ H y u) (ru : RelV u uu) : PySem.W.Looks (model X.prog X.w) s.heap (typeOf uu) (.type T) := by
  cases dy with
  | int i => cases hy; obtain ⟨t, rfl⟩ := ru; exact .of_pure rfl
  | bl b => cases hy; cases ru; exact .of_pure rfl
  | non => cases hy; cases ru; exact .of_pure rfl
  | str x => cases hy; obtain ⟨t, rfl⟩ := ru; exact .of_pure rfl
  | tup h1 h2 =>
    cases hy
    cases ru
    rw [← o.K] at h1
    obtain ⟨its, r, ⟨ob, ho, hc, n, hd⟩, _⟩ := I.tuple h1
    exact fun A Q E s k q => wpAny_typeOf_ref (k _ _ ho) (by rw [hc]; exact q)
  | _ => cases hy
theorem ownB_ty {K : PySem.W.Frag} {C : Addr} {n r : Str} (h : ownB K C n r = true) : PySem.W.selfFirst K C = true ∧ PySem.W.findIn K (.ref C) r = some none ∧ ∀ T ∈ opTys, ∃ fo ro, PySem.W.findIn K (.type T) n = some fo ∧ PySem.W.findIn K (.type T) r = some ro ∧ PySem.W.subIn K (.type T) (.ref C) = some false := by
  obtain ⟨h1, h⟩ := Bool.and_eq_true_iff.mp h
  obtain ⟨h2, h⟩ := Bool.and_eq_true_iff.mp h
  refine ⟨h1, of_decide_eq_true h2, fun T hT => ?_⟩
  have := List.all_eq_true.mp h T hT
  obtain ⟨h3, h⟩ := Bool.and_eq_true_iff.mp this
  obtain ⟨h4, h5⟩ := Bool.and_eq_true_iff.mp h
  obtain ⟨fo, e1⟩ := Option.isSome_iff_exists.mp h3
  obtain ⟨ro, e2⟩ := Option.isSome_iff_exists.mp h4
  exact ⟨fo, ro, e1, e2, of_decide_eq_true h5⟩
theorem opO_run (ok : Ok G X W) (hr : Room k X.A) {o : Op} {bt : List (Nat × Fn)} (he : ∀ q ∈ bt, BinV G k o q.1 q.2) {pins : List (Addr × Obj)} {σ : L2.St} {H : Hp} {s : Shared} {ρ : List Addr} {S : Sto} {x y : D} {v u : V} {vv uu : Value} {Q : VK}
    (I : Inv X pins σ H s) (r : Rel G ρ H S) (dx : Den G ρ H x v) (dy : Den G ρ H y u) (rv : RelV v vv) (ru : RelV u uu) (p : PostD G (fun c d h => W c d σ h) ρ H Q (opO bt o x y S)) :
    wpAny (model X.prog X.w) X.A (binaryOp (opOf o) vv uu) (EP X pins σ Q) X.xe s := by
  have plain : PostD G (fun c d h => W c d σ h) ρ H Q (opB o x y S) → wpAny (model X.prog X.w) X.A (binaryOp (opOf o) vv uu) (EP X pins σ Q) X.xe s := fun p =>
    op_all o pins s σ H v u vv uu Q I rv ru (by rw [ok.K]; exact opB_ok r dx dy p)
  unfold opO at p
  split at p
  · rename_i a
    obtain ⟨c, hc, p⟩ := bnd_lod p
    cases dx with
    | ref ha =>
      cases c with
      | ins c gs =>
        dsimp only at p
        cases e2 : bt.lookup c with
        | none => rw [e2] at p; exact p.elim
        | some m =>
          rw [e2] at p
          dsimp only at p
          obtain ⟨y1, ca, dx, gv, h1, h2, h3, h4⟩ := r.cell _ _ _ hc ha
          obtain ⟨y2, C, f, k1, k2, M, k3, cv⟩ := he _ (lookup_mem e2)
          have ey : y1 = y2 := Option.some.inj (h1.symm.trans k1)
          subst ey
          rw [h2] at k2
          cases k2
          cases rv
          have hK := ok.K
          obtain ⟨mA, J, _⟩ := ins_get I.hok h3
          obtain ⟨od, J, _⟩ := J.look
          obtain ⟨m', hF⟩ := I.fr
          obtain ⟨q1, q2, q3⟩ := ownB_ty k3
          have run : PostD G (fun c d h => W c d σ h) ρ H Q (m [.ref a, y] S) → wpAny (model X.prog X.w) X.A (call (.ref f) [.ref _, uu]) (PySem.W.CmpBack (EP X pins σ Q)) X.xe s := fun p => by
            have := cv X W ok hr pins σ H s [.ref _, uu] [V.ref _, u] Q I (.cons rfl (.cons ru .nil)) ⟨ρ, S, _, r, .cons (.ref ha) (.cons dy .nil), p⟩
            refine wpAny_mono this (fun z s' hq => ?_) fun _ _ e => e
            obtain ⟨z', H', I', rz, q'⟩ := hq
            exact not_ni (Q := EP X pins σ Q) rz ⟨z', H', I', rz, q'⟩
          have hT : ∀ T, anT y = some T → T ∈ opTys := fun T e => by
            cases y <;> cases e <;> decide
          have byT : ∀ T, anT y = some T → PostD G (fun c d h => W c d σ h) ρ H Q (m [.ref a, y] S) → wpAny (model X.prog X.w) X.A (binaryOp (opOf o) (.ref _) uu) (EP X pins σ Q) X.xe s := fun T e p => by
            obtain ⟨fo, ro, e3, e4, e5⟩ := q3 T (hT T e)
            exact PySem.W.ownOp (K := X.K) hF I.ok.mod.kin J (anT_looks I ok e dy ru) (by rw [hK]; exact q1) (by rw [hK]; exact M.at_) (by rw [hK]; exact M.fn) (by rw [hK]; exact q2) (by rw [hK]; exact e3) (by rw [hK]; exact e4) (by rw [hK]; exact e5) (run p)
          cases y with
          | int i => exact byT _ rfl p
          | bl i => exact byT _ rfl p
          | non => exact byT _ rfl p
          | str i => exact byT _ rfl p
          | tup i => exact byT _ rfl p
          | ref b =>
            have p : PostD G (fun c d h => W c d σ h) ρ H Q (bnd (lod b) (fun d => bnd (match d with
              | .ins c' _ => ret (Nat.beq c c')
              | _ => ret false) fun b' => match b' with
              | true => m [.ref a, .ref b]
              | false => no) S) := by
              rw [← bnd_as]
              exact p
            obtain ⟨d, hd, p⟩ := bnd_lod p
            cases dy with
            | ref hb =>
              cases d with
              | ins c' gs' =>
                have p2 : PostD G (fun c d h => W c d σ h) ρ H Q ((match Nat.beq c c' with
                  | true => m [.ref a, .ref b]
                  | false => no) S) := p
                cases e1 : Nat.beq c c' with
                | false => rw [e1] at p2; exact p2.elim
                | true =>
                  rw [e1] at p2
                  have ec : c = c' := Nat.eq_of_beq_eq_true e1
                  subst ec
                  obtain ⟨y', ca', dy, gv', h1', h2', h3', h4'⟩ := r.cell _ _ _ hd hb
                  have ey : y1 = y' := Option.some.inj (h1.symm.trans h1')
                  subst ey
                  rw [h2] at h2'
                  cases h2'
                  cases ru
                  obtain ⟨mB, J', _⟩ := ins_get I.hok h3'
                  obtain ⟨od', J', _⟩ := J'.look
                  exact PySem.W.binop_K (K := X.K) hF I.ok.mod.kin J J'.type (by rw [hK]; exact q1) (by rw [hK]; exact M.at_) (by rw [hK]; exact M.fn) (run p2)
              | _ => exact p.elim
          | _ => exact p.elim
      | _ => exact plain p
  · exact plain p
theorem pe_binO (ok : Ok G X W) (hr : Room k X.A) {o : Op} {bt : List (Nat × Fn)} (he : ∀ q ∈ bt, BinV G k o q.1 q.2) (ha : PE X a (T G W f)) (hb : PE X b (T G W g)) : PE X (.BinOp a (opOf o) b pos) (T G W (eBinO bt o f g)) := by
  refine ⟨fun pins s σ H Q I h => ?_⟩
  have h2 : T G W f σ H fun x H1 => T G W g σ H1 fun y H2 => ∃ ρ S d e, Rel G ρ H2 S ∧ Den G ρ H2 d x ∧ Den G ρ H2 e y ∧ PostD G (fun c d h => W c d σ h) ρ H2 Q (opO bt o d e S) := by
    obtain ⟨ρ, η, S, r, e, p⟩ := h
    refine ⟨ρ, η, S, r, e, Post.mono (Post.bnd (Rv := Den G) p) fun v H1 ⟨ρ1, S1, x, g1, r1, d1, _, p1⟩ => ?_⟩
    refine ⟨ρ1, η, S1, r1, e.mono g1, Post.mono (Post.bnd (Rv := Den G) p1) fun u H2 ⟨ρ2, S2, y, g2, r2, d2, _, p2⟩ => ?_⟩
    exact ⟨ρ2, S2, x, y, r2, d1.mono g2, d2, p2⟩
  exact wpAny_BinOp (binT ha hb I h2 fun v u s2 x y H2 I2 rx ry ⟨ρ, S, d, e, r, dx, dy, p⟩ => opO_run ok hr he I2 r dx dy rx ry p)
end
end
end Lt

end
section
set_option Elab.async false
set_option linter.all false
set_option maxRecDepth 100000
set_option maxHeartbeats 4000000
/-! Lt: sorted(set(xs)), xs a list of tuples of numbers. -/
namespace Lt
noncomputable section
open PySem PySem.Spec PyProof.Rows L2
def setB : Int := 1048576
def asT : D → Option (List Int)
  | .tup xs => optMap asI xs
  | _ => none
def hasK : List Int → List Int → Bool
  | [], [] => true
  | x :: xs, y :: ys => decide (x = y) && hasK xs ys
  | _, _ => false
def ddK : List (List Int) → List (List Int)
  | [] => []
  | k :: ks => if ks.any (hasK k) then ddK ks else k :: ddK ks
def leK (a b : List Int) : Bool := decide (TS.code setB a ≤ TS.code setB b)
def srtK (ks : List (List Int)) : List (List Int) := (ddK ks).mergeSort leK
def dimK : List (List Int) → Nat
  | [] => 1
  | k :: _ => k.length
def okK (ks : List (List Int)) : Bool := decide (ks.length < 64) && (decide (1 ≤ dimK ks) && ks.all fun k => decide (k.length = dimK ks) && k.all fun x => decide (0 ≤ x) && decide (x < setB))
def tupI (k : List Int) : D := .tup (k.map D.int)
def mKeys : D → M (List (List Int))
  | .ref n => bnd (lsAt n) fun xs => bnd (ofO (optMap asT xs)) fun ks => grd (okK ks) (ret ks)
  | _ => no
def eSrtSet (f : EE) : EE := fun η => bnd (bnd (f η) mKeys) fun ks => alc (.lst ((srtK ks).map tupI))
theorem hasK_eq : ∀ {a b : List Int}, hasK a b = true ↔ a = b
  | [], [] => by simp [hasK]
  | [], _ :: _ => by simp [hasK]
  | _ :: _, [] => by simp [hasK]
  | x :: xs, y :: ys => by
    unfold hasK
    rw [Bool.and_eq_true_iff, hasK_eq (a := xs) (b := ys)]
    simp
theorem ddK_mem {x : List Int} : ∀ {ks : List (List Int)}, x ∈ ddK ks ↔ x ∈ ks
  | [] => by simp [ddK]
  | k :: ks => by
    unfold ddK
    split
    · rename_i h
      rw [ddK_mem (ks := ks), List.mem_cons]
      constructor
      · exact .inr
      · rintro (rfl | z)
        · obtain ⟨y, hy, e⟩ := List.any_eq_true.mp h
          rw [hasK_eq.mp e]
          exact hy
        · exact z
    · rw [List.mem_cons, List.mem_cons, ddK_mem (ks := ks)]
theorem ddK_nd : ∀ ks : List (List Int), (ddK ks).Nodup
  | [] => by simp [ddK]
  | k :: ks => by
    unfold ddK
    split
    · exact ddK_nd ks
    · rename_i h
      rw [List.nodup_cons]
      refine ⟨fun z => h (List.any_eq_true.mpr ⟨k, ddK_mem.mp z, hasK_eq.mpr rfl⟩), ddK_nd ks⟩
theorem code_inj {B : Int} : ∀ {a b : List Int}, a.length = b.length → TS.Bd B a → TS.Bd B b → TS.code B a ≤ TS.code B b → TS.code B b ≤ TS.code B a → a = b
  | [], [], _, _, _, _, _ => rfl
  | [], _ :: _, h, _, _, _, _ => by simp at h
  | _ :: _, [], h, _, _, _, _ => by simp at h
  | d :: r, e :: q, h, h1, h2, h3, h4 => by
    have hl : r.length = q.length := by simpa using h
    rcases Int.lt_trichotomy d e with z | rfl | z
    · have := TS.code_lt (B := B) hl h1.tail h2.tail z
      omega
    · have k1 := TS.code_same (B := B) (d := d) hl
      have k2 := TS.code_same (B := B) (d := d) hl.symm
      rw [code_inj hl h1.tail h2.tail (by
        by_cases z : TS.code B q < TS.code B r
        · have := k2.mpr z; omega
        · omega) (by
        by_cases z : TS.code B r < TS.code B q
        · have := k1.mpr z; omega
        · omega)]
    · have := TS.code_lt (B := B) hl.symm h2.tail h1.tail z
      omega
theorem okK_few {ks : List (List Int)} (h : okK ks = true) : ks.length < 64 ∧ 1 ≤ dimK ks ∧ ∀ k ∈ ks, k.length = dimK ks ∧ TS.Bd setB k := by
  obtain ⟨h1, h⟩ := Bool.and_eq_true_iff.mp h
  obtain ⟨h2, h3⟩ := Bool.and_eq_true_iff.mp h
  refine ⟨of_decide_eq_true h1, of_decide_eq_true h2, fun k hk => ?_⟩
  obtain ⟨h4, h5⟩ := Bool.and_eq_true_iff.mp (List.all_eq_true.mp h3 k hk)
  refine ⟨of_decide_eq_true h4, fun x hx => ?_⟩
  obtain ⟨h6, h7⟩ := Bool.and_eq_true_iff.mp (List.all_eq_true.mp h5 x hx)
  exact ⟨of_decide_eq_true h6, of_decide_eq_true h7⟩
/-- the sorted list is known by its members -/
theorem srtK_uniq {ks A : List (List Int)} (h : okK ks = true) (nd : A.Nodup) (m1 : ∀ k ∈ A, k ∈ ks) (m2 : ∀ k ∈ ks, k ∈ A) (pw : A.Pairwise fun q r => TS.code setB q ≤ TS.code setB r) : A = srtK ks := by
  obtain ⟨_, _, h3⟩ := okK_few h
  have pB := List.mergeSort_perm (ddK ks) leK
  have p : A.Perm (srtK ks) := ((List.perm_ext_iff_of_nodup nd (ddK_nd ks)).mpr fun k => ⟨fun z => ddK_mem.mpr (m1 k z), fun z => m2 k (ddK_mem.mp z)⟩).trans pB.symm
  have sB : (srtK ks).Pairwise fun q r => leK q r = true := List.pairwise_mergeSort (fun a b c h1 h2 => by
    have h1 := of_decide_eq_true h1
    have h2 := of_decide_eq_true h2
    exact decide_eq_true (by omega)) (fun a b => by
    unfold leK
    rw [Bool.or_eq_true_iff]
    rcases Int.le_total (TS.code setB a) (TS.code setB b) with z | z
    · exact .inl (decide_eq_true z)
    · exact .inr (decide_eq_true z)) _
  refine List.Perm.eq_of_pairwise (le := fun q r => TS.code setB q ≤ TS.code setB r) (fun a b ha hb h1 h2 => ?_) pw (sB.imp fun z => of_decide_eq_true z) p
  have ka := h3 a (m1 a ha)
  have kb := h3 b (m1 b (p.mem_iff.mpr hb))
  exact code_inj (ka.1.trans kb.1.symm) ka.2 kb.2 h1 h2
section
variable {G : GC} {X : Cx} {W : TW} {ρ : List Addr} {H : Hp} {S : Sto} {a : Expr} {f : EE} {pos : Pos}
theorem dens_tups : ∀ {xs : List D} {vs : List V} {ks : List (List Int)}, Dens G ρ H xs vs → optMap asT xs = some ks → ∃ kp : List (Addr × List Int), vs = kp.map (fun p => V.ref p.1) ∧ ks = kp.map (·.2) ∧ ∀ p ∈ kp, SqT G.K H p.1 (p.2.map V.int)
  | _, _, ks, .nil, e => by
    cases e
    exact ⟨[], rfl, rfl, fun _ h => by cases h⟩
  | _, _, ks, .cons (x := x) (xs := xs) dx dt, e => by
    unfold optMap at e
    cases e1 : asT x with
    | none => rw [e1] at e; cases e
    | some k =>
      cases e2 : optMap asT xs with
      | none => rw [e1, e2] at e; cases e
      | some ks' =>
        rw [e1, e2] at e
        cases e
        obtain ⟨kp, rfl, rfl, h⟩ := dens_tups dt e2
        cases dx with
        | tup h1 h2 =>
          have := ints_pr e1 h2
          subst this
          exact ⟨(_, k) :: kp, rfl, rfl, fun p hp => by
            rcases List.mem_cons.mp hp with rfl | hp
            · exact h1
            · exact h p hp⟩
        | _ => cases e1
/-- a set of these keys -/
def RvK (G : GC) (_ρ : List Addr) (H : Hp) (ks : List (List Int)) (v : V) : Prop := ∃ (a : Addr) (L : List (Addr × List Int)), v = .ref a ∧ H a = some (SetTO G.P G.w a L) ∧ okK ks = true ∧ (∀ p ∈ L, SqT G.K H p.1 (p.2.map V.int)) ∧ (∀ p ∈ L, p.2 ∈ ks) ∧ ∀ k ∈ ks, k ∈ L.map (·.2)
def TK (G : GC) (W : TW) (m : Env → M (List (List Int))) : TE := fun σ H Q => ∃ ρ η S, Rel G ρ H S ∧ EnvOk G ρ H η σ ∧ Post G (RvK G) (fun c d h => W c d σ h) ρ H Q (m η S)
theorem pe_keys (k : Ok G X W) {p2 q : Pos} (hg : Gl X "set") (hm : G.mg "set" = none) (ha : PE X a (T G W f)) (hs : NoStar a) : PE X (.Call (.Name "set" p2) [a] [] q) (TK G W fun η => bnd (f η) mKeys) := by
  refine pe_mono (pe_callBV (.t "set") (cr_setOfT k.calm (by have := k.units; omega)) hg (by rw [k.mg]; exact hm) PyProof.Rows.boot_set (pa_cons ha pa_nil (hs _ _)) (by decide) (by decide) (hs _ _) rfl) fun σ H Q ⟨ρ, η, S, rr, en, q⟩ => ?_
  refine ⟨ρ, η, S, rr, en, Post.mono (Post.bnd (Rv := Den G) q) fun v H1 ⟨ρ1, S1, x, g1, r1, d1, _, p1⟩ => ?_⟩
  unfold mKeys at p1
  split at p1
  · rename_i n
    cases d1 with
    | ref hn =>
      obtain ⟨xs, e, p1⟩ := bnd_lsAt p1
      obtain ⟨ws, hq, dd⟩ := r1.list hn e
      obtain ⟨ks, e2, p1⟩ := bnd_ofO p1
      obtain ⟨kp, rfl, rfl, hk⟩ := dens_tups dd e2
      cases eo : okK (kp.map (·.2)) with
      | false => rw [eo, grd_ff] at p1; exact p1.elim
      | true =>
        rw [eo, grd_tt] at p1
        have few := (okK_few eo).1
        rw [List.length_map] at few
        rw [k.P, k.w, k.K]
        refine ⟨_, kp, rfl, hq, hk, few, fun b L hb h1 h2 => ?_⟩
        have g : Grow G ρ1 H1 ρ1 (upd H1 b (SetTO G.P G.w b L)) := grow_upd hb
        refine p1 ρ1 _ _ g (r1.upd_fresh hb) ⟨b, L, rfl, upd_same, eo, fun p hp => g.tup _ _ (hk p (h1 p hp)), fun p hp => List.mem_map.mpr ⟨p, h1 p hp, rfl⟩, fun k hk => ?_⟩
        obtain ⟨p, hp, rfl⟩ := List.mem_map.mp hk
        exact h2 p hp
  · exact p1.elim
theorem den_keys {ρ' : List Addr} {H' : Hp} : ∀ {L : List (Addr × List Int)}, (∀ p ∈ L, SqT G.K H' p.1 (p.2.map V.int)) → Dens G ρ' H' ((L.map (·.2)).map tupI) (L.map fun p => V.ref p.1)
  | [], _ => .nil
  | p :: L, h => .cons (.tup (h p List.mem_cons_self) (dens_int p.2)) (den_keys fun q hq => h q (List.mem_cons_of_mem _ hq))
where
  dens_int : ∀ ns : List Int, Dens G ρ' H' (ns.map D.int) (ns.map V.int)
  | [] => .nil
  | n :: ns => .cons (.int n) (dens_int ns)
theorem pe_srtSet (k : Ok G X W) {p p2 q : Pos} (hg : Gl X "sorted") (hm : G.mg "sorted" = none) (hg2 : Gl X "set") (hm2 : G.mg "set" = none) (ha : PE X a (T G W f)) (hs : NoStar a) : PE X (.Call (.Name "sorted" p) [.Call (.Name "set" p2) [a] [] q] [] pos) (T G W (eSrtSet f)) := by
  refine pe_mono (pe_callBV (.f "sorted") (cr_sortedT k.calm) hg (by rw [k.mg]; exact hm) PyProof.Rows.boot_sorted (pa_cons (pe_keys k hg2 hm2 ha hs) pa_nil rfl) (by decide) (by decide) rfl rfl) fun σ H Q ⟨ρ, η, S, rr, en, q⟩ => ?_
  refine ⟨ρ, η, S, rr, en, Post.mono (Post.bnd (Rv := RvK G) q) fun v H1 ⟨ρ1, S1, ks, g1, r1, ⟨b, L, ev, hb, ok, hL, m1, m2⟩, _, p1⟩ => ?_⟩
  subst ev
  obtain ⟨few, dm, bd⟩ := okK_few ok
  rw [k.P, k.w, k.K]
  refine ⟨b, L, dimK ks, setB, rfl, hb, hL, dm, fun p hp => bd _ (m1 p hp), fun L' p pm nd _ pw hp => ?_⟩
  have hL' : ∀ p ∈ L', SqT G.K H1 p.1 (p.2.map V.int) := fun p hp => hL p (pm.mem_iff.mp hp)
  have e : L'.map (·.2) = srtK ks := srtK_uniq ok nd (fun k hk => by
    obtain ⟨p, hp, rfl⟩ := List.mem_map.mp hk
    exact m1 p (pm.mem_iff.mp hp)) (fun k hk => (pm.map (·.2)).mem_iff.mpr (m2 k hk)) (List.pairwise_map.mpr pw)
  have d : Dens G ρ1 H1 ((srtK ks).map tupI) (L'.map fun p => V.ref p.1) := by rw [← e]; exact den_keys hL'
  exact post_alc r1 p1 d p hp
end
end
end Lt

end
section
set_option Elab.async false
set_option linter.all false
set_option maxRecDepth 100000
set_option maxHeartbeats 4000000
/-! Lt, part 10: statements. -/
namespace Lt
noncomputable section
open PySem PySem.Spec PyProof.Rows L2

inductive RS where
  | nx (η : Env) (S : Sto)
  | rt (d : D) (S : Sto)
  | bk (η : Env) (S : Sto)
  | ct (η : Env) (S : Sto)
  | exc (c : Nat) (fs : List (Nat × D)) (η : Env) (S : Sto)
  | no
abbrev SS := Env → Sto → RS
def sB {α : Type} (m : M α) (η : Env) (k : α → Sto → RS) : Sto → RS := fun S => match m S with
  | .ok a S' => k a S'
  | .exc c fs S' => .exc c fs η S'
  | .no => .no
def sNo : SS := fun _ _ => .no
def sNx : SS := fun η S => .nx η S
def sBk : SS := fun η S => .bk η S
def sCt : SS := fun η S => .ct η S
def sSeq (f g : SS) : SS := fun η S => match f η S with
  | .nx η1 S1 => g η1 S1
  | r => r
def sAll : List SS → SS
  | [] => sNx
  | [f] => f
  | f :: g :: fs => sSeq f (sAll (g :: fs))
def sDrop (f : EE) : SS := fun η => sB (f η) η fun _ S => .nx η S
def sRet (f : EE) : SS := fun η => sB (f η) η fun d S => .rt d S
def sRetN : SS := fun _ S => .rt .non S
def sIf (c : BB) (f g : SS) : SS := fun η => sB (c η) η fun b S => match b with
  | true => f η S
  | false => g η S
def sSet (i : Nat) (f : EE) : SS := fun η => sB (f η) η fun d S => .nx (η.set i (some d)) S
def sAsg (g : GN) (f : EE) : SS := fun η => sB (f η) η fun d S => match g d η with
  | some η1 => .nx η1 S
  | none => .no
/-- a, b = x, y -/
def sPar (i j : Nat) (f g : EE) : SS := fun η => sB (aL [f, g] η) η fun ds S => match ds with
  | [d, e] => .nx ((η.set i (some d)).set j (some e)) S
  | _ => .no
/-- a, b, c = x, y, z -/
def sPar3 (i j l : Nat) (f g h : EE) : SS := fun η => sB (aL [f, g, h] η) η fun ds S => match ds with
  | [d, e, x] => .nx (((η.set i (some d)).set j (some e)).set l (some x)) S
  | _ => .no
/-- the attributes, one written -/
def putD (a : Nat) (d : D) : List (Nat × D) → List (Nat × D)
  | [] => [(a, d)]
  | (b, e) :: r => if b = a then (b, d) :: r else (b, e) :: putD a d r
/-- o.a = x; ok: the classes none of which has the name -/
def stFld (ok : List Nat) (a : Nat) (o d : D) : M Unit := match o with
  | .ref n => bnd (lod n) fun c => match c with
    | .ins c gs => grd (ok.contains c && decide (gs.length < 1000)) (sto n (.ins c (putD a d gs)))
    | _ => no
  | _ => no
def sFldE (ok : List Nat) (a : Nat) (fo fv : EE) : SS := fun η => sB (fv η) η fun d => sB (fo η) η fun o => sB (stFld ok a o d) η fun _ S => .nx η S
def stIx (o i d : D) : M Unit := match o, i with
  | .ref n, .int k => bnd (lod n) fun c => match c with
    | .lst xs => bnd (ofO (ixN xs.length k)) fun j => sto n (.lst (xs.set j d))
    | _ => no
  | _, _ => no
def sIxE (fo fi fv : EE) : SS := fun η => sB (fv η) η fun d => sB (fo η) η fun o => sB (fi η) η fun i => sB (stIx o i d) η fun _ S => .nx η S
/-- x op= e, ints -/
def augI : Op → D → D → M D
  | .add, .int i, .int j => ret (.int (i + j))
  | .sub, .int i, .int j => ret (.int (i - j))
  | .mul, .int i, .int j => grd (mulOk i j) (ret (.int (i * j)))
  | .fdiv, .int i, .int j => grd (decide (0 < j) && decide (j < 1073741824)) (ret (.int (i / j)))
  | _, _, _ => no
def sAug (o : Op) (i : Nat) (f : EE) : SS := fun η => match η[i]? with
  | some (some x) => sB (f η) η fun y => sB (augI o x y) η fun z S => .nx (η.set i (some z)) S
  | _ => fun _ => .no
/-- loops -/
def forL (it : IT) (g : GN) (b : SS) : Nat → Nat → SS
  | 0, _ => sNo
  | n + 1, i => fun η S => match it i S with
    | none => .no
    | some none => .nx η S
    | some (some d) => match g d η with
      | none => .no
      | some η1 => match b η1 S with
        | .nx η2 S2 => forL it g b n (i + 1) η2 S2
        | .ct η2 S2 => forL it g b n (i + 1) η2 S2
        | .bk η2 S2 => .nx η2 S2
        | r => r
def sFor (f : II) (g : GN) (b : SS) : SS := fun η => sB (f η) η fun it => forL it g b FU 0 η
def whL (c : BB) (b : SS) : Nat → SS
  | 0 => sNo
  | n + 1 => fun η => sB (c η) η fun t S => match t with
    | false => .nx η S
    | true => match b η S with
      | .nx η2 S2 => whL c b n η2 S2
      | .ct η2 S2 => whL c b n η2 S2
      | .bk η2 S2 => .nx η2 S2
      | r => r
def sWh (c : BB) (b : SS) : SS := whL c b FU

section
variable {G : GC}
def PostS (G : GC) (W : TW) (E : Ends) (ρ : List Addr) (H : Hp) : RS → Prop
  | .nx η S => ∀ ρ' H' σ', Grow G ρ H ρ' H' → Rel G ρ' H' S → EnvOk G ρ' H' η σ' → E.nx σ' H'
  | .rt d S => ∀ ρ' H' v, Grow G ρ H ρ' H' → Rel G ρ' H' S → Den G ρ' H' d v → E.rt v H'
  | .bk η S => ∀ ρ' H' σ', Grow G ρ H ρ' H' → Rel G ρ' H' S → EnvOk G ρ' H' η σ' → E.bk σ' H'
  | .ct η S => ∀ ρ' H' σ', Grow G ρ H ρ' H' → Rel G ρ' H' S → EnvOk G ρ' H' η σ' → E.ct σ' H'
  | .exc c fs η S => ∀ ρ' H' σ' x ca dx, Grow G ρ H ρ' H' → Rel G ρ' H' S → EnvOk G ρ' H' η σ' → G.gt[c]? = some x → G.mg x = some (.ref ca) → ExcF G ρ' H' fs dx → W (.ref ca) (some dx) σ' H'
  | .no => False
def TS' (G : GC) (W : TW) (f : SS) : TS := fun E σ H => ∃ ρ η S, Rel G ρ H S ∧ EnvOk G ρ H η σ ∧ PostS G W E ρ H (f η S)
variable {W : TW} {E E' : Ends} {ρ ρ' : List Addr} {H H' : Hp} {S : Sto} {η : Env} {σ : L2.St}
theorem PostS.grow {r : RS} (g : Grow G ρ H ρ' H') (h : PostS G W E ρ H r) : PostS G W E ρ' H' r := by
  cases r with
  | nx η S' => exact fun ρ2 H2 b g2 => h ρ2 H2 b (g.trans g2)
  | rt η S' => exact fun ρ2 H2 b g2 => h ρ2 H2 b (g.trans g2)
  | bk η S' => exact fun ρ2 H2 b g2 => h ρ2 H2 b (g.trans g2)
  | ct η S' => exact fun ρ2 H2 b g2 => h ρ2 H2 b (g.trans g2)
  | exc c fs η S' => exact fun ρ2 H2 b x ca dx g2 => h ρ2 H2 b x ca dx (g.trans g2)
  | no => exact h
/-- in a row with an expression -/
theorem PostS.sB {α β : Type} {Rv : List Addr → Hp → α → β → Prop} {m : M α} {k : α → Sto → RS} (en : EnvOk G ρ H η σ) (h : PostS G W E ρ H (Lt.sB m η k S)) :
    Post G Rv (fun c d h => W c d σ h) ρ H (fun b H1 => ∃ ρ1 S1 a, Grow G ρ H ρ1 H1 ∧ Rel G ρ1 H1 S1 ∧ Rv ρ1 H1 a b ∧ m S = .ok a S1 ∧ PostS G W E ρ1 H1 (k a S1)) (m S) := by
  unfold Lt.sB at h
  cases e : m S with
  | ok a S' =>
    rw [e] at h
    exact fun ρ2 H2 b g2 r2 v2 => ⟨ρ2, S', a, g2, r2, v2, rfl, PostS.grow g2 h⟩
  | exc c fs S' =>
    rw [e] at h
    exact fun ρ2 H2 x ca dx g r hx hm hf => h ρ2 H2 σ x ca dx g r (en.mono g) hx hm hf
  | no => rw [e] at h; exact h
section
variable {X : Cx} {pos : Pos} {st : Stmt} {f g : SS}
theorem ps_mono {t t' : TS} (h : PS X st t) (k : ∀ E σ H, t' E σ H → t E σ H) : PS X st t' := ⟨fun pins s σ H E I q => h.run pins s σ H E I (k E σ H q)⟩
theorem pss_mono {sts : List Stmt} {t t' : TS} (h : PSs X sts t) (k : ∀ E σ H, t' E σ H → t E σ H) : PSs X sts t' := ⟨fun pins s σ H E I q => h.run pins s σ H E I (k E σ H q)⟩
theorem seq_read {E : Ends} {σ : L2.St} {H : Hp} (h : TS' G W (sSeq f g) E σ H) : tSeq (TS' G W f) (TS' G W g) E σ H := by
  obtain ⟨ρ, η, S, r, en, p⟩ := h
  refine ⟨ρ, η, S, r, en, ?_⟩
  unfold sSeq at p
  cases e : f η S with
  | nx η1 S1 => rw [e] at p; exact fun ρ2 H2 σ2 g2 r2 e2 => ⟨ρ2, η1, S1, r2, e2, PostS.grow g2 p⟩
  | rt d S1 => rw [e] at p; exact p
  | bk d S1 => rw [e] at p; exact p
  | ct d S1 => rw [e] at p; exact p
  | exc c fs d S1 => rw [e] at p; exact p
  | no => rw [e] at p; exact p
theorem pss_all : ∀ {sts : List Stmt} {fs : List SS}, Paired (fun st f => PS X st (TS' G W f)) sts fs → PSs X sts (TS' G W (sAll fs))
  | _, _, .nil => pss_mono pss_nil fun E σ H ⟨ρ, η, S, r, en, p⟩ => p ρ H σ Grow.refl r en
  | _, _, .cons h .nil => pss_one h
  | _ :: _ :: _, f :: g :: fs, .cons h (.cons h2 t) => pss_mono (pss_cons h (pss_all (.cons h2 t))) fun E σ H q => seq_read (f := f) (g := sAll (g :: fs)) q
theorem ps_no : PS X st (TS' G W sNo) := ps_mono ps_never fun E σ H ⟨ρ, η, S, r, en, p⟩ => p
theorem ps_pass' : PS X (.Pass pos) (TS' G W sNx) := ps_mono ps_pass fun E σ H ⟨ρ, η, S, r, en, p⟩ => p ρ H σ Grow.refl r en
theorem ps_break' : PS X (.Break pos) (TS' G W sBk) := ps_mono ps_break fun E σ H ⟨ρ, η, S, r, en, p⟩ => p ρ H σ Grow.refl r en
theorem ps_cont' : PS X (.Continue pos) (TS' G W sCt) := ps_mono ps_continue fun E σ H ⟨ρ, η, S, r, en, p⟩ => p ρ H σ Grow.refl r en
theorem ps_doc' {x j pos'} : PS X (.Expr (.Constant (.str x) j pos) pos') (TS' G W sNx) := ps_mono ps_doc fun E σ H ⟨ρ, η, S, r, en, p⟩ => p ρ H σ Grow.refl r en
variable {e : Expr} {fe : EE}
theorem ps_drop (he : PE X e (T G W fe)) (hs : swapsWith e none pos.line X.env = pure false) : PS X (.Expr e pos) (TS' G W (sDrop fe)) :=
  ps_mono (ps_expr he hs) fun E σ H ⟨ρ, η, S, r, en, p⟩ => ⟨ρ, η, S, r, en, Post.mono (PostS.sB (Rv := Den G) en p) fun v H1 ⟨ρ1, S1, a, g1, r1, d1, _, p1⟩ => p1 ρ1 H1 σ Grow.refl r1 (en.mono g1)⟩
theorem ps_ret' (he : PE X e (T G W fe)) : PS X (.Return (some e) pos) (TS' G W (sRet fe)) :=
  ps_mono (ps_ret he) fun E σ H ⟨ρ, η, S, r, en, p⟩ => ⟨ρ, η, S, r, en, Post.mono (PostS.sB (Rv := Den G) en p) fun v H1 ⟨ρ1, S1, a, g1, r1, d1, _, p1⟩ => p1 ρ1 H1 v Grow.refl r1 d1⟩
theorem ps_retN' : PS X (.Return none pos) (TS' G W sRetN) := ps_mono ps_retN fun E σ H ⟨ρ, η, S, r, en, p⟩ => p ρ H .non Grow.refl r .non
theorem ps_if' {c : Expr} {a b : List Stmt} {tc : BB} (hc : PT X c (TB G W tc)) (ha : PSs X a (TS' G W f)) (hb : PSs X b (TS' G W g)) : PS X (.If c a b pos) (TS' G W (sIf tc f g)) :=
  ps_mono (ps_if hc ha hb) fun E σ H ⟨ρ, η, S, r, en, p⟩ => ⟨ρ, η, S, r, en, Post.mono (PostS.sB (Rv := fun _ _ (a b : Bool) => a = b) en p) fun b H1 ⟨ρ1, S1, a, g1, r1, d1, _, p1⟩ => by
    subst d1
    cases a with
    | true => exact ite_tt ⟨ρ1, η, S1, r1, en.mono g1, p1⟩
    | false => exact ite_ff ⟨ρ1, η, S1, r1, en.mono g1, p1⟩⟩
/-! ### assignments -/
theorem set_read {i : Nat} {E : Ends} {σ : L2.St} {H : Hp} (h : TS' G W (sSet i fe) E σ H) : tAsg (T G W fe) (gName i) E σ H := by
  obtain ⟨ρ, η, S, r, en, p⟩ := h
  exact ⟨ρ, η, S, r, en, Post.mono (PostS.sB (Rv := Den G) en p) fun v H1 ⟨ρ1, S1, a, g1, r1, d1, _, p1⟩ => p1 ρ1 H1 _ Grow.refl r1 ((en.mono g1).set d1 i)⟩
theorem ps_setN {i : Nat} {x : Str} {pos' : Pos} (hN : X.N.Nodup) (hi : X.N[i]? = some x) (hx : Loc X.env.scope x) (he : PE X e (T G W fe)) (hs : swapsWith e (some (.Name x pos')) pos.line X.env = pure false) (hf : X.fn x = true ∨ X.env.scope.names.lookup x = some .local) : PS X (.Assign [.Name x pos'] e pos) (TS' G W (sSet i fe)) :=
  ps_mono (ps_set hN hi hx he hs hf) fun E σ H h => set_read h
theorem adopt_read {lf : Env → M (List D)} {σ : L2.St} {H : Hp} {Q : VK} (h : T G W (eAlc lf) σ H Q) : TX G W lf σ H Q := by
  obtain ⟨ρ, η, S, r, en, p⟩ := h
  refine ⟨ρ, η, S, r, en, ?_⟩
  have p : Post G (Den G) (fun c d h => W c d σ h) ρ H Q (bnd (lf η) (fun xs => alc (.lst xs)) S) := p
  unfold bnd at p
  cases e : lf η S with
  | ok xs S1 =>
    rw [e] at p
    intro ρ1 H1 v g r1 ⟨a, vs, ev, ha, hn, h0, d⟩
    subst ev
    exact p (ρ1 ++ [a]) H1 (.ref a) (g.push a (.inr h0)) (r1.adopt hn ha d) (.ref (r1.last a))
  | exc c fs S1 => rw [e] at p; exact p
  | no => rw [e] at p; exact p
section
variable {elt tg iter tg1 iter1 : Expr} {ifs ifs1 : List Expr} {scope : Scope} {own : List (Str × Nat)} {fI f1 : II} {gn g1 : GN} {is is1 vs1 : List Nat} {tt tt1 : BB} {te : EE} {i : Nat} {y : Str} {py spos : Pos}
/-- name = [..]: stored within the block or behind it -/
theorem ps_setL1 (k : Ok G X W) (hi : X.N[i]? = some y) (hx : Loc X.env.scope y) (hf : X.fn y = true ∨ X.env.scope.names.lookup y = some .local) (hI : PI X tg iter (TI' G W fI)) (ok : BlkOk X.N X.env.scope scope own) (his : ∀ i ∈ is, i ∈ own.map (·.2)) (hg : Blk X scope fun Y => PG Y tg (gN G gn is)) (ht : Blk X scope fun Y => PTs Y ifs (TB G WF tt)) (he : Blk X scope fun Y => PE Y elt (T G WF te))
    (hs : ∀ x, foldedSetIterable iter X.env x = pure x) : PS X (.Assign [.Name y py] (.ListComp elt [⟨tg, iter, ifs, 0⟩] scope pos) spos) (TS' G W (sSet i (eAlc (lc1 fI gn tt te (own.map (·.2)))))) := by
  cases hb : (X.env.blockKind == .function && X.env.kindOf y == some .local && py.line == pos.line && !(scope.names.any fun (n, k) => n == y && (k == .local || k == .cell))) with
  | true =>
    have hsw : swapsWith (.ListComp elt [⟨tg, iter, ifs, 0⟩] scope pos) (some (.Name y py)) spos.line X.env = pure true := by
      rw [← hb]; rfl
    have hyl : X.env.scope.names.lookup y = some .local := by
      obtain ⟨h1, _⟩ := Bool.and_eq_true_iff.mp hb
      obtain ⟨h1, _⟩ := Bool.and_eq_true_iff.mp h1
      obtain ⟨_, h1⟩ := Bool.and_eq_true_iff.mp h1
      exact beq_iff_eq.mp h1
    refine ps_mono (ps_setLc k.calm k.nd hi hyl hsw hI ok hg ht he hs) fun E σ H h => ?_
    exact lc1_read his (adopt_read (set_read h))
  | false =>
    have hsw : swapsWith (.ListComp elt [⟨tg, iter, ifs, 0⟩] scope pos) (some (.Name y py)) spos.line X.env = pure false := by
      rw [← hb]; rfl
    exact ps_setN k.nd hi hx (pe_adopt (pe_lcX k hI ok his hg ht he hs)) hsw hf
theorem ps_setL2 (k : Ok G X W) (hi : X.N[i]? = some y) (hx : Loc X.env.scope y) (hf : X.fn y = true ∨ X.env.scope.names.lookup y = some .local) (hI : PI X tg iter (TI' G W fI)) (ok : BlkOk X.N X.env.scope scope own) (his : ∀ i ∈ is, i ∈ own.map (·.2)) (hv : ∀ i ∈ vs1, i ∈ own.map (·.2)) (his1 : ∀ i ∈ is1, i ∈ vs1) (hg : Blk X scope fun Y => PG Y tg (gN G gn is)) (ht : Blk X scope fun Y => PTs Y ifs (TB G WF tt))
    (hi1 : Blk X scope fun Y => PI Y tg1 iter1 (TI' G WF f1)) (hg1 : Blk X scope fun Y => PG Y tg1 (gN G g1 is1)) (ht1 : Blk X scope fun Y => PTs Y ifs1 (TB G WF tt1)) (he : Blk X scope fun Y => PE Y elt (T G WF te))
    (hs : ∀ x, foldedSetIterable iter X.env x = pure x) (hs1 : ∀ env x, foldedSetIterable iter1 env x = pure x) : PS X (.Assign [.Name y py] (.ListComp elt [⟨tg, iter, ifs, 0⟩, ⟨tg1, iter1, ifs1, 0⟩] scope pos) spos) (TS' G W (sSet i (eAlc (lc2 fI gn tt f1 g1 tt1 te (own.map (·.2)) vs1)))) := by
  cases hb : (X.env.blockKind == .function && X.env.kindOf y == some .local && py.line == pos.line && !(scope.names.any fun (n, k) => n == y && (k == .local || k == .cell))) with
  | true =>
    have hsw : swapsWith (.ListComp elt [⟨tg, iter, ifs, 0⟩, ⟨tg1, iter1, ifs1, 0⟩] scope pos) (some (.Name y py)) spos.line X.env = pure true := by
      rw [← hb]; rfl
    have hyl : X.env.scope.names.lookup y = some .local := by
      obtain ⟨h1, _⟩ := Bool.and_eq_true_iff.mp hb
      obtain ⟨h1, _⟩ := Bool.and_eq_true_iff.mp h1
      obtain ⟨_, h1⟩ := Bool.and_eq_true_iff.mp h1
      exact beq_iff_eq.mp h1
    refine ps_mono (ps_setLc2 k.calm k.nd hi hyl hsw hI ok hv hg ht hi1 hg1 ht1 he hs hs1) fun E σ H h => ?_
    exact lc2_read his his1 (adopt_read (set_read h))
  | false =>
    have hsw : swapsWith (.ListComp elt [⟨tg, iter, ifs, 0⟩, ⟨tg1, iter1, ifs1, 0⟩] scope pos) (some (.Name y py)) spos.line X.env = pure false := by
      rw [← hb]; rfl
    exact ps_setN k.nd hi hx (pe_adopt (pe_lcX2 k hI ok his hv his1 hg ht hi1 hg1 ht1 he hs hs1)) hsw hf
end
/-- (a, b, ..) = e -/
theorem ps_asgT {tg : Expr} {gn : GN} {is : List Nat} (hg : PG X tg (gN G gn is)) (hstar : NoStarG tg) (he : PE X e (T G W fe)) (hs : swapsWithSole [tg] e pos.line X.env = pure false) (hw : swappedStores [tg] e X.env = pure none) : PS X (.Assign [tg] e pos) (TS' G W (sAsg gn fe)) :=
  ps_mono (ps_asg he hg hs hw (by rw [hstar]; rfl)) fun E σ H ⟨ρ, η, S, r, en, p⟩ => ⟨ρ, η, S, r, en, Post.mono (PostS.sB (Rv := Den G) en p) fun v H1 ⟨ρ1, S1, a, g1, r1, d1, _, p1⟩ => by
    try dsimp only at p1
    cases eg : gn a η with
    | none => rw [eg] at p1; exact p1.elim
    | some η1 => rw [eg] at p1; exact ⟨ρ1, η, S1, a, η1, r1, en.mono g1, d1, eg, fun σ' e' _ => p1 ρ1 H1 σ' Grow.refl r1 e'⟩⟩
theorem ps_parE {i j : Nat} {x y : Str} {a b : Expr} {fa fb : EE} {px py pt : Pos} {kt k2 pt2} (k : Ok G X W) (hi : X.N[i]? = some x) (hj : X.N[j]? = some y) (hij : i ≠ j) (hx : X.env.scope.names.lookup x = some .local) (hy : X.env.scope.names.lookup y = some .local) (ha : PE X a (T G W fa) ∧ NoStar a) (hb : PE X b (T G W fb) ∧ NoStar b)
    (hw : swappedStores [.Tuple [.Name x px, .Name y py] kt pt] (.Tuple [a, b] k2 pt2) X.env = pure (some [x, y])) : PS X (.Assign [.Tuple [.Name x px, .Name y py] kt pt] (.Tuple [a, b] k2 pt2) pos) (TS' G W (sPar i j fa fb)) :=
  ps_mono (ps_par k.calm k.nd hi hj hij hx hy (arg2 ha hb) hw rfl) fun E σ H ⟨ρ, η, S, r, en, p⟩ => by
    refine ⟨ρ, η, S, r, en, Post.mono (PostS.sB (Rv := Dens G) en p) fun vs H1 ⟨ρ1, S1, ds, g1, r1, d1, _, p1⟩ => ?_⟩
    match ds, d1, p1 with
    | [d, e], d1, p1 =>
      obtain ⟨v, w, e1, q1, q2⟩ := dens2 d1
      exact ⟨v, w, e1, p1 ρ1 H1 _ Grow.refl r1 (((en.mono g1).set q1 i).set q2 j)⟩
    | [], _, p1 => exact p1.elim
    | [_], _, p1 => exact p1.elim
    | _ :: _ :: _ :: _, _, p1 => exact p1.elim
theorem arg3 {e e' e'' : Expr} {f g h : EE} (he : PE X e (T G W f) ∧ NoStar e) (he' : PE X e' (T G W g) ∧ NoStar e') (he'' : PE X e'' (T G W h) ∧ NoStar e'') : PA X [e, e', e''] (TL G W (aL [f, g, h])) := pa_all (.cons he (.cons he' (.cons he'' .nil)))
theorem dens3 {ρ : List Addr} {H : Hp} {x y z : D} {vs : List V} (h : Dens G ρ H [x, y, z] vs) : ∃ v w u, vs = [v, w, u] ∧ Den G ρ H x v ∧ Den G ρ H y w ∧ Den G ρ H z u := by
  cases h with
  | cons a b => cases b with
    | cons c d => cases d with
      | cons e f => cases f; exact ⟨_, _, _, rfl, a, c, e⟩
theorem ps_par3E {i j l : Nat} {x y z : Str} {a b c : Expr} {fa fb fc : EE} {px py pz pt : Pos} {kt k2 pt2} (k : Ok G X W) (hi : X.N[i]? = some x) (hj : X.N[j]? = some y) (hl : X.N[l]? = some z) (hij : i ≠ j) (hil : i ≠ l) (hjl : j ≠ l) (hx : X.env.scope.names.lookup x = some .local) (hy : X.env.scope.names.lookup y = some .local) (hz : X.env.scope.names.lookup z = some .local)
    (ha : PE X a (T G W fa) ∧ NoStar a) (hb : PE X b (T G W fb) ∧ NoStar b) (hc : PE X c (T G W fc) ∧ NoStar c)
    (hw : swappedStores [.Tuple [.Name x px, .Name y py, .Name z pz] kt pt] (.Tuple [a, b, c] k2 pt2) X.env = pure (some [x, y, z])) : PS X (.Assign [.Tuple [.Name x px, .Name y py, .Name z pz] kt pt] (.Tuple [a, b, c] k2 pt2) pos) (TS' G W (sPar3 i j l fa fb fc)) :=
  ps_mono (ps_par3 k.calm k.nd hi hj hl hij hil hjl hx hy hz (arg3 ha hb hc) hw rfl) fun E σ H ⟨ρ, η, S, r, en, p⟩ => by
    refine ⟨ρ, η, S, r, en, Post.mono (PostS.sB (Rv := Dens G) en p) fun vs H1 ⟨ρ1, S1, ds, g1, r1, d1, _, p1⟩ => ?_⟩
    match ds, d1, p1 with
    | [d, e, f], d1, p1 =>
      obtain ⟨v, w, u, e1, q1, q2, q3⟩ := dens3 d1
      exact ⟨v, w, u, e1, p1 ρ1 H1 _ Grow.refl r1 ((((en.mono g1).set q1 i).set q2 j).set q3 l)⟩
    | [], _, p1 => exact p1.elim
    | [_], _, p1 => exact p1.elim
    | [_, _], _, p1 => exact p1.elim
    | _ :: _ :: _ :: _ :: _, _, p1 => exact p1.elim
/-! stores -/
theorem putD_ok {a : Nat} {n : Str} (ha : G.ats[a]? = some n) {d : D} {v : V} (dv : Den G ρ H d v) : ∀ {gs : List (Nat × D)} {gv : List (Str × V)}, Flds G ρ H gs gv → Flds G ρ H (putD a d gs) (putF n v gv)
  | _, _, .nil => .cons ⟨ha, dv⟩ .nil
  | (b, e) :: r, (y, u) :: rv, .cons h t => by
    unfold putD putF
    by_cases e1 : b = a
    · subst e1
      have e2 : y = n := Option.some.inj (h.1.symm.trans ha)
      rw [if_pos rfl, if_pos e2]
      exact .cons ⟨h.1, dv⟩ t
    · have e2 : ¬ y = n := by
        rintro rfl
        exact e1 (nodup_at G.atN h.1 ha)
      rw [if_neg e1, if_neg e2]
      exact .cons h (putD_ok ha dv t)
/-- classes that a plain field of the name may be stored in -/
def FldV (G : GC) (n : Str) (c : Nat) : Prop := ∃ y C, G.gt[c]? = some y ∧ G.mg y = some (.ref C) ∧ Cls G.K C ∧ NoAttr G.K C n
theorem ps_fldE {o value : Expr} {n : Str} {a : Nat} {okc : List Nat} {fo fv : EE} {pos' : Pos} (k : Ok G X W) (hok : ∀ c ∈ okc, FldV G n c) (hat : G.ats[a]? = some n) (ho : PE X o (T G W fo)) (hv : PE X value (T G W fv)) (hs : swapsWith value (some (.Attribute o n pos')) pos.line X.env = pure false) :
    PS X (.Assign [.Attribute o n pos'] value pos) (TS' G W (sFldE okc a fo fv)) :=
  ps_mono (ps_fld ho hv hs) fun E σ H ⟨ρ, η, S, r, en, p⟩ => by
    refine ⟨ρ, η, S, r, en, Post.mono (PostS.sB (Rv := Den G) en p) fun v H1 ⟨ρ1, S1, d, g1, r1, d1, _, p1⟩ => ?_⟩
    refine ⟨ρ1, η, S1, r1, en.mono g1, Post.mono (PostS.sB (Rv := Den G) (en.mono g1) p1) fun u H2 ⟨ρ2, S2, o, g2, r2, d2, _, p2⟩ => ?_⟩
    cases d2 with
    | @ref n0 ad hn =>
      unfold Lt.sB stFld at p2
      obtain ⟨c, hc, kc⟩ := r2.back hn
      unfold bnd lod at p2
      dsimp only at p2
      rw [hc] at p2
      dsimp only at p2
      cases c with
      | ins c gs =>
        dsimp only at p2
        cases eo : okc.contains c && decide (gs.length < 1000) with
        | false => rw [eo, grd_ff] at p2; exact p2.elim
        | true =>
          rw [eo, grd_tt] at p2
          obtain ⟨o1, o2⟩ := Bool.and_eq_true_iff.mp eo
          obtain ⟨y, ca, dx, gv, h1, h2, h3, h4⟩ := kc
          obtain ⟨y', C, k1, k2, k3, k4⟩ := hok c (by simpa using o1)
          have ey : y = y' := Option.some.inj (h1.symm.trans k1)
          subst ey
          have eC : ca = C := by rw [h2] at k2; cases k2; rfl
          subst eC
          have hl : gv.length < 1000 := by rw [← h4.length]; exact of_decide_eq_true o2
          have g3 : Grow G ρ2 H2 ρ2 (upd H2 ad (.ins ca dx (putF n v gv))) := grow_write (List.mem_of_getElem? hn) (fun xs z => by rw [h3] at z; cases z) (fun o xs z => by rw [h3] at z; cases z)
          have r3 : Rel G ρ2 (upd H2 ad (.ins ca dx (putF n v gv))) (S2.set n0 (.ins c (putD a d gs))) := r2.sto hn ⟨y, ca, dx, _, h1, h2, upd_same, putD_ok hat ((d1.mono g2).mono g3) (h4.mono g3)⟩
          refine ⟨ad, ca, dx, gv, rfl, h3, by rw [k.K]; exact k3, by rw [k.K]; exact k4, hl, ?_⟩
          exact p2 ρ2 _ σ g3 r3 (((en.mono g1).mono g2).mono g3)
      | _ => exact p2.elim
    | _ => exact p2.elim
theorem ps_ixE {o i value : Expr} {fo fi fv : EE} {pos' : Pos} (k : Ok G X W) (ho : PE X o (T G W fo)) (hi : PE X i (T G W fi)) (hv : PE X value (T G W fv)) (hs : swapsWithSole [.Subscript o i pos'] value pos.line X.env = pure false) (hw : swappedStores [.Subscript o i pos'] value X.env = pure none)
    (ha : ∀ v, assign (.Subscript o i pos') X.env v = (do
      let ov ← holding [v] (eval o X.env)
      let iv ← holding [v, ov] (eval i X.env)
      standAt pos'
      holding [v, ov, iv] (setItem ov iv v)
      release [v, ov, iv] [])) : PS X (.Assign [.Subscript o i pos'] value pos) (TS' G W (sIxE fo fi fv)) :=
  ps_mono (ps_asg hv (pg_sub ho hi set_list ha) hs hw rfl) fun E σ H ⟨ρ, η, S, r, en, p⟩ => by
    refine ⟨ρ, η, S, r, en, Post.mono (PostS.sB (Rv := Den G) en p) fun v H1 ⟨ρ1, S1, d, g1, r1, d1, _, p1⟩ => ?_⟩
    refine ⟨ρ1, η, S1, r1, en.mono g1, Post.mono (PostS.sB (Rv := Den G) (en.mono g1) p1) fun u H2 ⟨ρ2, S2, o, g2, r2, d2, _, p2⟩ => ?_⟩
    refine ⟨ρ2, η, S2, r2, (en.mono g1).mono g2, Post.mono (PostS.sB (Rv := Den G) ((en.mono g1).mono g2) p2) fun w H3 ⟨ρ3, S3, i, g3, r3, d3, _, p3⟩ => ?_⟩
    have d2 := d2.mono g3
    have d1 := (d1.mono g2).mono g3
    cases d2 with
    | @ref n0 ad hn =>
      cases d3 with
      | int kk =>
        unfold Lt.sB stIx at p3
        obtain ⟨c, hc, kc⟩ := r3.back hn
        unfold bnd lod at p3
        dsimp only at p3
        rw [hc] at p3
        dsimp only at p3
        cases c with
        | lst xs =>
          obtain ⟨vs, h3, h4⟩ := kc
          unfold ofO at p3
          dsimp only at p3
          cases ej : ixN xs.length kk with
          | none => rw [ej] at p3; exact p3.elim
          | some j =>
            rw [ej] at p3
            have g4 : Grow G ρ3 H3 ρ3 (upd H3 ad (.lst (vs.set j v))) := grow_write (List.mem_of_getElem? hn) (fun xs z => by rw [h3] at z; cases z) (fun o xs z => by rw [h3] at z; cases z)
            have r4 : Rel G ρ3 (upd H3 ad (.lst (vs.set j v))) (S3.set n0 (.lst (xs.set j d))) := r3.sto hn ⟨_, upd_same, .of (pr_set (d1.mono g4) j (h4.mono g4).pr)⟩
            exact ⟨ad, vs, kk, j, rfl, rfl, h3, by rw [← h4.length]; exact ej, p3 ρ3 _ σ g4 r4 ((((en.mono g1).mono g2).mono g3).mono g4)⟩
        | _ => exact p3.elim
      | _ => exact p3.elim
    | _ => exact p3.elim
/-! x op= e -/
def rAug : Op → R2
  | .add => rI0 fun i j => .int (i + j)
  | .sub => rI0 fun i j => .int (i - j)
  | .mul => rI CMul fun i j => .int (i * j)
  | .fdiv => rI CDiv fun i j => .int (i / j)
  | _ => fun _ _ _ _ => False
theorem aug_all (o : Op) : OpR X (inplaceOp (opOf o)) (rAug o) := by
  cases o with
  | add => exact iop_add
  | sub => exact iop_sub
  | mul => exact iop_mul
  | fdiv => exact iop_fdiv
  | _ => exact fun _ _ _ _ _ _ _ _ _ _ _ _ h => h.elim
theorem augI_ok {o : Op} {x y : D} {v u : V} {W' : Value → Option Addr → Hp → Prop} {Q : VK} (r : Rel G ρ H S) (dx : Den G ρ H x v) (dy : Den G ρ H y u) (p : PostD G W' ρ H Q (augI o x y S)) : rAug o v u H Q := by
  unfold augI at p
  split at p
  · cases dx; cases dy; exact ⟨_, _, rfl, rfl, post_ret r p (.int _)⟩
  · cases dx; cases dy; exact ⟨_, _, rfl, rfl, post_ret r p (.int _)⟩
  · cases dx; cases dy
    obtain ⟨c, p⟩ := grd_no p
    exact ⟨_, _, rfl, rfl, by simpa [mulOk, CMul] using c, post_ret r p (.int _)⟩
  · cases dx; cases dy
    obtain ⟨c, p⟩ := grd_no p
    obtain ⟨c1, c2⟩ := Bool.and_eq_true_iff.mp c
    exact ⟨_, _, rfl, rfl, ⟨of_decide_eq_true c1, of_decide_eq_true c2⟩, post_ret r p (.int _)⟩
  · exact p.elim
theorem ps_augE {o : Op} {i : Nat} {x : Str} {e : Expr} {fe : EE} {pos' : Pos} (k : Ok G X W) (hi : X.N[i]? = some x) (hx : Loc X.env.scope x) (hf : X.fn x = true ∨ X.env.scope.names.lookup x = some .local) (he : PE X e (T G W fe)) : PS X (.AugAssign (.Name x pos') (opOf o) e pos) (TS' G W (sAug o i fe)) :=
  ps_mono (ps_aug (ti := rAug o) k.nd hi hx he (fun pins s σ H x y v u Q I r1 r2 q => aug_all o pins s σ H x y v u Q I r1 r2 q) hf) fun E σ H ⟨ρ, η, S, r, en, p⟩ => by
    unfold sAug at p
    cases hd : η[i]? with
    | none => rw [hd] at p; exact p.elim
    | some od =>
      rw [hd] at p
      cases od with
      | none => exact p.elim
      | some d =>
      obtain ⟨v, hv, dv⟩ := en.val i d hd
      refine ⟨v, hv, ρ, η, S, r, en, Post.mono (PostS.sB (Rv := Den G) en p) fun u H1 ⟨ρ1, S1, y, g1, r1, d1, _, p1⟩ => ?_⟩
      refine augI_ok r1 (dv.mono g1) d1 (Post.mono (PostS.sB (Rv := Den G) (en.mono g1) p1) fun w H2 ⟨ρ2, S2, z, g2, r2, d2, _, p2⟩ => ?_)
      exact p2 ρ2 H2 _ Grow.refl r2 (((en.mono g1).mono g2).set d2 i)
/-! loops -/
theorem ps_forE {tg iter : Expr} {fI : II} {gn : GN} {is : List Nat} {body : List Stmt} {b : SS} (k : Ok G X W) (po : PassesOwn (model X.prog X.w) X.A X.env X.xe) (hI : PI X tg iter (TI' G W fI)) (hg : PG X tg (gN G gn is)) (hb : PSs X body (TS' G W b)) (hs : ∀ x, foldedSetIterable iter X.env x = pure x) :
    PS X (.For tg iter body [] pos) (TS' G W (sFor fI gn b)) :=
  ps_mono (ps_for po k.calm hI hg hb hs) fun E σ H ⟨ρ, η, S, r, en, p⟩ => by
    refine ⟨ρ, η, S, r, en, Post.mono (PostS.sB (Rv := ItDen G) en p) fun J H1 ⟨ρ1, S1, it, g1, r1, di, _, p1⟩ => ?_⟩
    refine ⟨fun i m σc Hc => ∃ ρc ηc Sc, Grow G ρ1 H1 ρc Hc ∧ Rel G ρc Hc Sc ∧ EnvOk G ρc Hc ηc σc ∧ PostS G W E ρc Hc (forL it gn b m i ηc Sc), ⟨FU, ρ1, η, S1, Grow.refl, r1, en.mono g1, p1⟩, ?_⟩
    rintro i m σc Hc ⟨ρc, ηc, Sc, gc, rc, ec, pc⟩
    cases m with
    | zero => exact pc.elim
    | succ m =>
      have hi := di ρc Hc Sc i gc.toGr rc
      unfold forL at pc
      cases e : it i Sc with
      | none => rw [e] at pc; exact pc.elim
      | some od =>
        rw [e] at hi pc
        cases od with
        | none => exact .inl ⟨hi, pc ρc Hc σc Grow.refl rc ec⟩
        | some d =>
          refine .inr ⟨hi.1, fun σn Hn => ∃ ρn ηn Sn, Grow G ρ1 H1 ρn Hn ∧ Rel G ρn Hn Sn ∧ EnvOk G ρn Hn ηn σn ∧ PostS G W E ρn Hn (forL it gn b m (i + 1) ηn Sn), fun σn Hn h => ⟨m, Nat.lt_succ_self _, h⟩, fun x H2 hy => ?_⟩
          obtain ⟨g2, r2, d2⟩ := hi.2 x H2 hy
          dsimp only at pc
          cases eg : gn d ηc with
          | none => rw [eg] at pc; exact pc.elim
          | some η1 =>
            rw [eg] at pc
            refine ⟨ρc, ηc, Sc, d, η1, r2, ec.mono g2, d2, eg, fun σ2 e2 _ => ⟨ρc, η1, Sc, r2, e2, ?_⟩⟩
            dsimp only at pc
            cases eb : b η1 Sc with
            | nx η2 S2 => rw [eb] at pc; exact fun ρ3 H3 σ3 g3 r3 e3 => ⟨ρ3, η2, S2, (gc.trans g2).trans g3, r3, e3, PostS.grow (g2.trans g3) pc⟩
            | ct η2 S2 => rw [eb] at pc; exact fun ρ3 H3 σ3 g3 r3 e3 => ⟨ρ3, η2, S2, (gc.trans g2).trans g3, r3, e3, PostS.grow (g2.trans g3) pc⟩
            | bk η2 S2 => rw [eb] at pc; exact PostS.grow (r := .nx η2 S2) g2 pc
            | rt d S2 => rw [eb] at pc; exact PostS.grow (r := .rt d S2) g2 pc
            | exc c fs η2 S2 => rw [eb] at pc; exact PostS.grow (r := .exc c fs η2 S2) g2 pc
            | no => rw [eb] at pc; exact pc
theorem ps_whE {c : Expr} {tc : BB} {body : List Stmt} {b : SS} (po : PassesOwn (model X.prog X.w) X.A X.env X.xe) (hc : PT X c (TB G W tc)) (hb : PSs X body (TS' G W b)) : PS X (.While c body [] pos) (TS' G W (sWh tc b)) :=
  ps_mono (ps_while po hc hb) fun E σ H ⟨ρ, η, S, r, en, p⟩ => by
    refine ⟨fun m σc Hc => ∃ ρc ηc Sc, Rel G ρc Hc Sc ∧ EnvOk G ρc Hc ηc σc ∧ PostS G W E ρc Hc (whL tc b m ηc Sc), ⟨FU, ρ, η, S, r, en, p⟩, ?_⟩
    rintro m σc Hc ⟨ρc, ηc, Sc, rc, ec, pc⟩
    cases m with
    | zero => exact pc.elim
    | succ m =>
      unfold whL at pc
      refine ⟨ρc, ηc, Sc, rc, ec, Post.mono (PostS.sB (Rv := fun _ _ (a b : Bool) => a = b) ec pc) fun t H1 ⟨ρ1, S1, a, g1, r1, ea, _, p1⟩ => ?_⟩
      subst ea
      cases a with
      | false => exact ite_ff (p1 ρ1 H1 σc Grow.refl r1 (ec.mono g1))
      | true =>
        refine ite_tt ⟨fun σn Hn => ∃ ρn ηn Sn, Rel G ρn Hn Sn ∧ EnvOk G ρn Hn ηn σn ∧ PostS G W E ρn Hn (whL tc b m ηn Sn), fun σn Hn h => ⟨m, Nat.lt_succ_self _, h⟩, ρ1, ηc, S1, r1, ec.mono g1, ?_⟩
        dsimp only at p1
        cases eb : b ηc S1 with
        | nx η2 S2 => rw [eb] at p1; exact fun ρ3 H3 σ3 g3 r3 e3 => ⟨ρ3, η2, S2, r3, e3, PostS.grow g3 p1⟩
        | ct η2 S2 => rw [eb] at p1; exact fun ρ3 H3 σ3 g3 r3 e3 => ⟨ρ3, η2, S2, r3, e3, PostS.grow g3 p1⟩
        | bk η2 S2 => rw [eb] at p1; exact p1
        | rt d S2 => rw [eb] at p1; exact p1
        | exc c fs η2 S2 => rw [eb] at p1; exact p1
        | no => rw [eb] at p1; exact p1
end
end
end
end Lt

end
section
set_option Elab.async false
set_option linter.all false
set_option maxRecDepth 100000
set_option maxHeartbeats 4000000
/-! Lt: names by keys. -/
namespace Lt
noncomputable section
open PySem PySem.Spec PyProof.Rows L2
theorem and2 {a b : Bool} (h : (a && b) = true) : a = true ∧ b = true := Bool.and_eq_true_iff.mp h
/-! ### names by keys -/
def keyS (x : Str) : Nat := x.cps.toList.foldl (fun a c => a * 256 + c) 1
def keyEq (x y : Str) : Bool := Nat.beq (keyS x) (keyS y)
def natsB : List Nat → List Nat → Bool
  | [], [] => true
  | a :: l, b :: m => Nat.beq a b && natsB l m
  | _, _ => false
theorem natsB_ok : ∀ {l m : List Nat}, natsB l m = true → l = m
  | [], [], _ => rfl
  | a :: l, b :: m, h => by
    obtain ⟨h1, h2⟩ := Bool.and_eq_true_iff.mp h
    rw [Nat.eq_of_beq_eq_true h1, natsB_ok h2]
def strB (x y : Str) : Bool := keyEq x y && natsB x.cps.toList y.cps.toList
theorem str_ext {x y : Str} (h : x.cps.toList = y.cps.toList) : x = y := by
  obtain ⟨⟨l⟩⟩ := x
  obtain ⟨⟨m⟩⟩ := y
  simp only at h
  rw [h]
theorem strB_ok {x y : Str} (h : strB x y = true) : x = y := str_ext (natsB_ok (Bool.and_eq_true_iff.mp h).2)
theorem key_ne {x y : Str} (h : keyEq x y = false) : x ≠ y := by
  rintro rfl
  unfold keyEq at h
  rw [Nat.beq_refl] at h
  cases h
theorem beq_ne {x y : Str} (h : keyEq x y = false) : (x == y) = false := beq_eq_false_iff_ne.mpr (key_ne h)
/-- the first of a key, if it is of that name -/
def kLook {α : Type} : List (Str × α) → Str → Option α
  | [], _ => none
  | e :: r, x => match keyEq e.1 x with
    | true => (match strB e.1 x with
      | true => some e.2
      | false => none)
    | false => kLook r x
theorem kLook_mem {α : Type} : ∀ {l : List (Str × α)} {x : Str} {a : α}, kLook l x = some a → (x, a) ∈ l
  | e :: r, x, a, h => by
    unfold kLook at h
    cases h1 : keyEq e.1 x with
    | true =>
      rw [h1] at h
      cases h2 : strB e.1 x with
      | true =>
        rw [h2] at h
        cases h
        rw [← strB_ok h2]
        exact List.mem_cons_self
      | false => rw [h2] at h; cases h
    | false => rw [h1] at h; exact List.mem_cons_of_mem _ (kLook_mem h)
theorem kLook_lookup {α : Type} : ∀ {l : List (Str × α)} {x : Str} {a : α}, kLook l x = some a → l.lookup x = some a
  | e :: r, x, a, h => by
    unfold kLook at h
    rw [show (e :: r) = ((e.1, e.2) :: r) from rfl, List.lookup_cons]
    cases h1 : keyEq e.1 x with
    | true =>
      rw [h1] at h
      cases h2 : strB e.1 x with
      | true =>
        rw [h2] at h
        cases h
        rw [← strB_ok h2, beq_self_eq_true]
      | false => rw [h2] at h; cases h
    | false =>
      rw [h1] at h
      rw [beq_eq_false_iff_ne.mpr (Ne.symm (key_ne h1))]
      exact kLook_lookup h
/-- the place of a name -/
def kIx : List Str → Str → Option Nat
  | [], _ => none
  | e :: r, x => match keyEq e x with
    | true => (match strB e x with
      | true => some 0
      | false => none)
    | false => (match kIx r x with
      | some i => some (i + 1)
      | none => none)
theorem kIx_ok : ∀ {l : List Str} {x : Str} {i : Nat}, kIx l x = some i → l[i]? = some x
  | e :: r, x, i, h => by
    unfold kIx at h
    cases h1 : keyEq e x with
    | true =>
      rw [h1] at h
      cases h2 : strB e x with
      | true =>
        rw [h2] at h
        cases h
        rw [strB_ok h2]
        rfl
      | false => rw [h2] at h; cases h
    | false =>
      rw [h1] at h
      cases h3 : kIx r x with
      | none => rw [h3] at h; cases h
      | some j =>
        rw [h3] at h
        cases h
        simpa using kIx_ok h3

end
end Lt

end
section
set_option Elab.async false
set_option linter.all false
set_option maxRecDepth 100000
set_option maxHeartbeats 4000000
/-! Lt: the __init__ of an own exception over ValueError. -/
namespace Lt
noncomputable section
open PySem PySem.Spec PyProof.Rows L2 PySem.W PySem.Calls
/-- super().__init__('Tag') -/
abbrev supE (tag : Str) (kk : Nat) (p0 p1 p2 p3 p4 : Pos) : Expr := .Call (.Attribute (.Call (.Name "super" p0) [] [] p1) "__init__" p2) [.Constant (.str tag) kk p3] [] p4
section
variable {X : Cx} {pins : List (Addr × Obj)} {σ : L2.St} {H : Hp} {s : Shared} {a C cc cda f L : Addr} {q : Str} {scope : Scope}
theorem super_init {body : List Stmt} {tag : Str} {kk : Nat} {p0 p1 p2 p3 p4 p5 : Pos} {oc ccl cl : Value} {od cdd cld : Option Addr} {osl ccs csl : Array (Option Value)} {fd : FuncData} {ar : Arg} {vs : Array Value} {file : Str} {tf : Tok} {cdD : ClassData} {Q : Flow → Shared → Prop} {E : Value → Shared → Prop}
    (I : Inv X pins σ H s) (T : OexC X.K C) (e : H a = some (exo a C none)) (henv : X.env = envX q scope L f (.ref cda) [("__class__", cc)])
    (lk : X.K.lookup f = some ⟨oc, od, .func fd, osl⟩) (hp : (fd.params.posonlyargs ++ fd.params.args).head? = some ar)
    (hcode : X.K.lookup cda = some ⟨ccl, cdd, .fields vs, ccs⟩) (hvs : vs[2]? = some (.str file tf)) (hfile : ((X.prog.main.file : Str) == file) = true)
    (hcell : X.K.lookup cc = some ⟨cl, cld, .cell (some (.ref C)), csl⟩) (hcd : clsIn X.K C = some cdD) (hsub : mroIn X.K C (.ref C) = some true) (hm : X.mg "super" = none)
    (hks : scope.names.lookup ("super" : Str) = some .globalImplicit) (hkc : scope.names.lookup ("__class__" : Str) = some .free) (hN : X.N[0]? = some ar.arg) (hs0 : σ[0]? = some (some (.ref a))) (hloc : scope.names.lookup ar.arg = some .local)
    (htop : (X.prog.main.scope.names.lookup ("super" : Str)).isSome = false) (ho : nsIn X.K cStatics "thirdparty.any" = some none) (hsi : ks_superIn X.K C C "__init__" = some (some (.builtin "ValueError.__init__"))) (hB : subIn X.K (.ref C) (.type "ValueError") = some true)
    {pl : Sem Bool} (he : eval (supE tag kk p0 p1 p2 p3 p4) X.env = (do
      let ov ← attributeBase (.Call (.Name "super" p0) [] [] p1) "__init__" X.env (eval (.Call (.Name "super" p0) [] [] p1) X.env)
      standAt p2.atName
      let (f, first) ← holding [ov] (getMethod ov "__init__" pl)
      callWith p4 f first (backTo p4 (starEach [.Constant (.str tag) kk p3] X.env)) [])) (hi : interactive X.env = false)
    (h : ∀ s', Inv X pins σ H s' → Q .next s') :
    _root_.PySem.wpAt (model X.prog X.w) X.A (.func body X.env) (exec (.Expr (supE tag kk p0 p1 p2 p3 p4) p5) X.env) Q E s := by
  have KI := I.kIn
  obtain ⟨t1, ho1⟩ := exo_at I.hok e
  obtain ⟨oD, hD1, hD2⟩ : ∃ oD, s.heap.get? C = some oD ∧ oD.data = .cls cdD := by
    unfold clsIn at hcd
    split at hcd
    · rename_i c d cd' sl ho
      cases hcd
      exact ⟨_, KI _ _ ho, rfl⟩
    · cases hcd
  obtain ⟨m, hns, hl⟩ := I.loc
  obtain ⟨u, ru, lu⟩ := hl 0 ar.arg (.ref a) hN hs0 (by rw [henv]; exact .inl hloc)
  have hv : m ar.arg = some (.ref a) := by
    obtain rfl : u = Value.ref a := ru
    rcases lu with ⟨_, z⟩ | ⟨z, _⟩
    · exact z
    · have z : scope.names.lookup ar.arg = some .cell ∨ scope.names.lookup ar.arg = some .free := by rw [henv] at z; exact z
      rw [hloc] at z
      rcases z with z | z <;> cases z
  have hkind : X.env.scope.kind = .function := I.ok.kind
  obtain ⟨mb, hmb, hbb⟩ := I.mod.blt
  have hg : s.heap.Ns X.env.globals X.mg := by rw [I.ok.glob]; exact I.mod.glob.keeps I.bk
  have hb : s.heap.Ns X.env.builtins mb := by rw [I.ok.blt]; exact hmb.keeps I.bk
  obtain ⟨hh, g, d, t, os⟩ := s
  refine ks_wpAt_Expr_any (ks_wpAt_MethodCall (ks_wpAt_super_base (by rw [henv]; exact hks) (by rw [henv]; exact hkc) rfl (by rw [henv]) (KI _ _ lk) rfl hp (by rw [henv]) (KI _ _ hcode) rfl hvs hfile htop ?_) he) hi rfl
  refine ks_loadName_global hkind (by rw [henv]; exact hks) (loadGlobal_builtin hg hm hb ((hbb _ (by decide +kernel)).trans Boot.«super») ⟨rfl, ?_⟩)
  refine wpAny_loadName_free hkind (by rw [henv]; exact hkc) (c := cc) (by rw [henv]; rfl) ⟨_, KI _ _ hcell, rfl⟩ ?_
  refine wpAny_loadName_local hkind (by rw [henv]; exact hloc) hns hv ?_
  refine ks_wpAny_isType_cls hD1 hD2 ⟨rfl, ?_⟩
  refine ks_wpAny_call_super hD1 hD2 ho1 rfl (fun c z => by cases z) (looks_mroIn KI hsub) (fun h1 e1 k1 => ?_)
  have I1 : Inv X pins σ H ⟨h1, g, d, t, os⟩ := I.kept k1
  have K1 := I1.kIn
  have hne : a ≠ C := by
    rintro rfl
    rw [ho1] at hD1
    cases hD1
    cases hD2
  unfold ks_superIn at hsi
  rw [hcd] at hsi
  have hxi : Looks (model X.prog X.w) h1 (isInstance (.ref a) (.type "ValueError")) true := by
    have J : InstAt h1 a _ C none := ⟨k1 _ _ ho1, rfl, rfl, trivial⟩
    exact J.type.andThen (looks_subIn K1 hB)
  refine kxs_getMethod kxs_ValueError e1 (looks_opaque K1 ho) (l₀ := cdD.mro) (fun A Q E s k q => wpAny_bind ((looks_clsIn K1 hcd) A _ E s k (wpAny_pure q))) rfl K1 hsi hxi hne rfl ?_
  have k2 : ∀ b o, h1.get? b = some o → (h1.push (kxs_mw "ValueError.__init__" a)).get? b = some o := fun b o e => Heap.get?_push_of_some _ e
  have I2 : Inv X pins σ H ⟨h1.push (kxs_mw "ValueError.__init__" a), g, d, t + 1, os⟩ := I1.kept k2
  have hu : (h1.push (kxs_mw "ValueError.__init__" a)).get? h1.objs.size = some (kxs_mw "ValueError.__init__" a) := Heap.get?_push_at rfl rfl
  refine kxs_callWith (i := "ValueError.__init__") (x := a) rfl (evalArgs_plain (spliced_cons (Constant_str (pos := p3) (k := kk) (spliced_nil ⟨hu, ?_⟩))))
  have I3 : Inv X pins σ H ⟨h1.push (kxs_mw "ValueError.__init__" a), g, d, t + 1 + 1, os⟩ := I2.tok _
  obtain ⟨nm, qn, N', bs, bm, sn, sub, ab, col, dd, k0, k11, k21, k3, k5, hC, hbm⟩ := T.cls
  obtain ⟨t2, ho2⟩ := exo_at I3.hok e
  refine wpAny_call (codeAny_of_tree ?_)
  show wpAny _ X.A.in1 (callAny (.ref h1.objs.size) ⟨[.str tag _], []⟩) _ _ _
  simp only [callAny]
  refine wpAny_bind (wpAny_load hu ?_)
  simp only [kxs_mw, show (Value.type "method-wrapper" == Value.type "method" || Value.type "method-wrapper" == Value.type "builtin_function_or_method" || Value.type "method-wrapper" == Value.type "method-wrapper") = true by decide, if_true]
  refine KFB.if_so (by decide) ?_
  refine wpAny_bind (check_bound_init PySem.F.excBase_ValueError.toExcCallFacts (I3.kIn _ _ hC) ho2 rfl ?_)
  refine wpAny_bind (wpAny_pure (wpAny_pure ?_))
  refine ⟨plainId_quiet PySem.F.excBase_ValueError.init.plain _, codeAny_builtin PySem.F.excBase_ValueError.initEntry ?_⟩
  refine exc_init_tree (cls := .ref C) (t0 := t2) (dv := none) (c2 := .none) (c3 := .none) (b4 := .bool false) ho2 (by rw [sizeLine_eq]; simp) fun h' k e' t' => ?_
  have J := I3.write (t' := t + 1 + 1) (x := a) (e := a) (o := exo a C none) (by rw [e]; exact True.intro) (.inl rfl) k ⟨_, e'⟩ (exo_ok e')
  have eu : upd H a (exo a C none) = H := by
    funext b
    by_cases hb : b = a
    · rw [hb, upd_same, e]
    · rw [upd_ne hb]
  rw [eu] at J
  exact h _ J
end
end
end Lt

end
section
set_option Elab.async false
set_option linter.all false
set_option maxRecDepth 100000
set_option maxHeartbeats 4000000
/-! Lt: the promise of such an __init__. -/
namespace Lt
noncomputable section
open PySem PySem.Spec PyProof.Rows L2 PySem.W PySem.Calls NdefX
/-- a statement self.f = e, e telling v at σ -/
def Ost (X : Cx) (C : Addr) (σ : L2.St) (st : Stmt) (it : Str × V) : Prop := ∃ te, PS X st (tOst X.K it.1 (tVar 0) te) ∧ (∀ H Q, Q it.2 H → te σ H Q) ∧ findIn X.K (.ref C) it.1 = some none
section
variable {X : Cx} {C a dx : Addr} {σ : L2.St}
theorem ost_rest (T : OexC X.K C) (h0 : σ[0]? = some (some (.ref a))) (ha : dx ≠ a) : ∀ {sts : List Stmt} {its : List (Str × V)}, Paired (Ost X C σ) sts its →
    ∃ t, PSs X sts t ∧ ∀ (D : Ends) (H : Hp) (fs : List (Str × V)), H a = some (exo a C (some dx)) → H dx = some (exd dx fs) → fs.length + its.length ≤ 900 →
      (∀ H', H' a = some (exo a C (some dx)) → H' dx = some (exd dx (its.reverse ++ fs)) → (∀ b, b ≠ a → b ≠ dx → H' b = H b) → D.nx σ H') → t D σ H
  | _, _, .nil => ⟨_, pss_nil, fun D H fs e1 e2 _ k => k H e1 e2 fun _ _ _ => rfl⟩
  | st :: sts, it :: its, .cons ⟨te, hp, ht, hn⟩ r => by
    obtain ⟨t, h1, h2⟩ := ost_rest T h0 ha r
    refine ⟨_, pss_cons hp h1, fun D H fs e1 e2 hl k => ?_⟩
    refine ht H _ ⟨.ref a, h0, a, C, rfl, T, hn, .inr ⟨dx, fs, e1, e2, by simp at hl; omega, ?_⟩⟩
    refine h2 D (upd H dx (exd dx ((it.1, it.2) :: fs))) ((it.1, it.2) :: fs) (by rw [upd_ne (Ne.symm ha)]; exact e1) upd_same (by simp at hl ⊢; omega) fun H' q1 q2 q3 => ?_
    refine k H' q1 (by rw [q2]; simp) fun b b1 b2 => ?_
    rw [q3 b b1 b2, upd_ne b2]
theorem ost_first (T : OexC X.K C) (h0 : σ[0]? = some (some (.ref a))) {sts : List Stmt} {its : List (Str × V)} (hl : its.length ≤ 900) (hne : its ≠ []) (h : Paired (Ost X C σ) sts its) :
    ∀ (D : Ends) (H : Hp), H a = some (exo a C none) → (∀ dx H', H dx = none → dx ≠ a → H' a = some (exo a C (some dx)) → H' dx = some (exd dx its.reverse) → (∀ b, b ≠ a → b ≠ dx → H' b = H b) → D.nx σ H') → ∃ t, PSs X sts t ∧ t D σ H := by
  intro D H e k
  cases h with
  | nil => exact absurd rfl hne
  | @cons st it sts its h1 r =>
    obtain ⟨te, hp, ht, hn⟩ := h1
    have hr : ∀ dx, dx ≠ a → ∃ t, PSs X sts t ∧ ∀ (D : Ends) (H : Hp) (fs : List (Str × V)), H a = some (exo a C (some dx)) → H dx = some (exd dx fs) → fs.length + its.length ≤ 900 →
      (∀ H', H' a = some (exo a C (some dx)) → H' dx = some (exd dx (its.reverse ++ fs)) → (∀ b, b ≠ a → b ≠ dx → H' b = H b) → D.nx σ H') → t D σ H := fun dx hd => ost_rest T h0 hd r
    refine ⟨_, pss_cons hp (u := fun D σ' H => σ' = σ ∧ ∃ dx, dx ≠ a ∧ H a = some (exo a C (some dx)) ∧ H dx = some (exd dx [(it.1, it.2)]) ∧ ∀ H', H' a = some (exo a C (some dx)) → H' dx = some (exd dx (its.reverse ++ [(it.1, it.2)])) → (∀ b, b ≠ a → b ≠ dx → H' b = H b) → D.nx σ H') ?_, ?_⟩
    · refine ⟨fun pins s σ' H D I ⟨es, dx, hd, q1, q2, q3⟩ => ?_⟩
      subst es
      obtain ⟨t, p1, p2⟩ := hr dx hd
      exact p1.run pins s _ H D I (p2 D H _ q1 q2 (by simp at hl ⊢; omega) q3)
    · refine ht H _ ⟨.ref a, h0, a, C, rfl, T, hn, .inl ⟨e, fun dx n ne => ⟨rfl, dx, ne, upd_same, by rw [upd_ne ne]; exact upd_same, fun H' q1 q2 q3 => ?_⟩⟩⟩
      refine k dx H' n ne q1 (by rw [q2]; simp) fun b b1 b2 => ?_
      rw [q3 b b1 b2, upd_ne b1, upd_ne b2]
end
end
end Lt

end
section
set_option Elab.async false
set_option linter.all false
set_option maxRecDepth 100000
set_option maxHeartbeats 4000000
/-! Lt: the promise of such an __init__, joined. -/
namespace Lt
noncomputable section
open PySem PySem.Spec PyProof.Rows L2 PySem.W PySem.Calls NdefX
abbrev cN : List Str := ["__class__"]
/-- the promise: the class, what is put in, by the arguments -/
def spXI (C : Addr) (n : Nat) (its : List V → List (Str × V)) : Sp := fun vs H Q _ => ∃ a ds, vs = .ref a :: ds ∧ ds.length = n ∧ H a = some (exo a C none) ∧
  ∀ dx H', H dx = none → dx ≠ a → H' a = some (exo a C (some dx)) → H' dx = some (exd dx (its ds).reverse) → (∀ b, b ≠ a → b ≠ dx → H' b = H b) → Q .non H'
/-- what the written part says of such an __init__ -/
structure XIn (P : Program) (K : Frag) (mg : Str → Option Value) (C f cc cda : Addr) (fd : FuncData) (x qual : Str) (ps : List Str) (scope : Scope) (rest : List Stmt) : Prop where
  T : OexC K C
  lk : ∃ (params : Arguments) (tag : Str) (kk : Nat) (p0 p1 p2 p3 p4 p5 : Pos) (dV kV doc pm : Value) (an : Option Addr) (ct oc : Value) (od : Option Addr) (osl : Array (Option Value)),
    fd = fnX x qual params (.Expr (supE tag kk p0 p1 p2 p3 p4) p5 :: rest) scope [("__class__", cc)] dV kV doc pm an (.ref cda) ct ∧ K.lookup f = some ⟨oc, od, .func fd, osl⟩ ∧ (params.posonlyargs ++ params.args).head?.map (·.arg) = ps.head? ∧
    (∀ L : Addr, ∃ pl : Sem Bool, eval (supE tag kk p0 p1 p2 p3 p4) (envX qual scope L f (.ref cda) [("__class__", cc)]) = (do
      let ov ← attributeBase (.Call (.Name "super" p0) [] [] p1) "__init__" (envX qual scope L f (.ref cda) [("__class__", cc)]) (eval (.Call (.Name "super" p0) [] [] p1) (envX qual scope L f (.ref cda) [("__class__", cc)]))
      standAt p2.atName
      let (g, first) ← holding [ov] (getMethod ov "__init__" pl)
      callWith p4 g first (backTo p4 (starEach [.Constant (.str tag) kk p3] (envX qual scope L f (.ref cda) [("__class__", cc)]))) [])) ∧ ∀ L : Addr, interactive (envX qual scope L f (.ref cda) [("__class__", cc)]) = false
  code : ∃ (ccl : Value) (cdd : Option Addr) (vs : Array Value) (ccs : Array (Option Value)) (file : Str) (tf : Tok), K.lookup cda = some ⟨ccl, cdd, .fields vs, ccs⟩ ∧ vs[2]? = some (.str file tf) ∧ ((P.main.file : Str) == file) = true
  hcd : codeIn K (.ref cda) qual = true
  cell : ∃ (cl : Value) (cld : Option Addr) (csl : Array (Option Value)), K.lookup cc = some ⟨cl, cld, .cell (some (.ref C)), csl⟩
  cls : ∃ cd, clsIn K C = some cd
  sub : mroIn K C (.ref C) = some true
  mg : mg "super" = none
  scp : NScope (ps ++ cN) ps cN scope
  sup : scope.names.lookup ("super" : Str) = some .globalImplicit
  top : (P.main.scope.names.lookup ("super" : Str)).isSome = false
  opq : nsIn K cStatics "thirdparty.any" = some none
  sin : ks_superIn K C C "__init__" = some (some (.builtin "ValueError.__init__"))
  sve : subIn K (.ref C) (.type "ValueError") = some true
theorem xinit_fn {P : Program} {w : World} {K : Frag} {mg : Str → Option Value} {base : Heap} {CX : CXT} {C f cc cda : Addr} {fd : FuncData} {x qual : Str} {ps : List Str} {scope : Scope} {rest : List Stmt} {n k : Nat} {its : List V → List (Str × V)}
    (Z : XIn P K mg C f cc cda fd x qual ps scope rest) (hn : ps.length = n + 1) (hi : ∀ ds : List V, ds.length = n → its ds ≠ [] ∧ (its ds).length ≤ 900)
    (hrest : ∀ (X : Cx) (a : Addr) (ds : List V), X.K = K → X.N = ps ++ cN → X.env.scope = scope → ds.length = n → Paired (Ost X C (((V.ref a :: ds).map some) ++ [none])) rest (its ds)) :
    FnOk P w K mg base CX (k + 1) f fd ps (spXI C n its) := by
  refine ⟨fun vs H Q E ⟨a, ds, e, hl, _⟩ => by rw [e, hn, List.length_cons, hl], fun A outer s H args us vs Q E hr e0 hb r hsp => ?_⟩
  obtain ⟨a, ds, ev, hl, ea, hq⟩ := hsp
  obtain ⟨params, tag, kk, p0, p1, p2, p3, p4, p5, dV, kV, doc, pm, an, ct, oc, od, osl, efd, lk, hhd, hpl, hint⟩ := Z.lk
  obtain ⟨ccl, cdd, cvs, ccs, file, tf, hcode, hvs, hfile⟩ := Z.code
  obtain ⟨cl, cld, csl, hcell⟩ := Z.cell
  obtain ⟨cd, hcls⟩ := Z.cls
  have S := Z.scp
  have KX : K.In s.heap := e0.mod.kin.keeps fun b o e => (e0.bs b o e).1
  have lim : s.heap.NoLimit := e0.mod.nolimit.keeps fun b o e => (e0.bs b o e).1
  have hvl : vs.length = ps.length := by rw [ev, hn, List.length_cons, hl]
  subst efd
  refine codeAny_call_function hr.depth (KX _ _ lk) rfl S.co S.gen rfl (codeRec_of KX Z.hcd) (hb _ _ _ _ ?_)
  refine wpAny_newFunctionEnv S.nocell (fun ⟨m, _⟩ hy => S.par m (List.of_mem_zip hy).1) (fun h₁ hns hsb => ⟨lim.fresh _ hsb, ?_⟩) S.kind
  show codeAny _ _ (.func (.Expr (supE tag kk p0 p1 p2 p3 p4) p5 :: rest) (envX qual scope s.heap.objs.size f (.ref cda) [("__class__", cc)])) _ _
  have kp : ∀ b o, s.heap.get? b = some o → h₁.get? b = some o := fun b o e => hsb.extBut b o (Nat.ne_of_lt (Heap.lt_size e)) (Heap.get?_push_of_some _ e)
  have CA : CellsAt [("__class__", cc)] cN [none] s.heap H := by
    refine ⟨rfl, fun y c e => ?_, fun y z c e1 e2 => ?_, fun i y e => ?_⟩
    · have e : ([("__class__", cc)] : List (Str × Addr)).lookup y = some c := e
      rw [List.lookup_cons] at e
      split at e
      · cases e
        have hbs := e0.bs cc _ (e0.mod.kin _ _ hcell)
        exact ⟨hbs.2, _, _, hbs.1, rfl⟩
      · cases e
    · have q : ∀ y c, ([("__class__", cc)] : List (Str × Addr)).lookup y = some c → y = ("__class__" : Str) := fun y c e => by
        rw [List.lookup_cons] at e
        split at e
        · rename_i z; exact eq_of_beq z
        · cases e
      rw [q y c e1, q z c e2]
    · match i, e with
      | 0, e =>
        cases e
        exact ⟨cc, by rw [List.lookup_cons]; simp, fun v z => by cases z⟩
  have I := inv_startN (CX := CX) (E := E) (F := ⟨x, qual, params, (.Expr (supE tag kk p0 p1 p2 p3 p4) p5 :: rest), scope, [("__class__", cc)], cda⟩) (f := f) (tk := s.toks + (ps.zip us).length) S hr.hd e0 hvl r CA hns kp
  have eσ : startF (ps ++ cN) vs [none] = ((V.ref a :: ds).map some) ++ [none] := by
    unfold startF
    rw [← ev, List.length_append, ← hvl]
    simp
  rw [eσ] at I
  refine ks_codeAny_funcAt (ks_wpAt_execs_cons ?_)
  have hhd2 : ∃ ar, (params.posonlyargs ++ params.args).head? = some ar ∧ ps.head? = some ar.arg := by
    cases e : (params.posonlyargs ++ params.args).head? with
    | none =>
      rw [e] at hhd
      cases ps with
      | nil => simp at hn
      | cons y ys => cases hhd
    | some ar => rw [e] at hhd; exact ⟨ar, rfl, hhd.symm⟩
  obtain ⟨ar, har, hps⟩ := hhd2
  obtain ⟨pl, hpl⟩ := hpl s.heap.objs.size
  have hp0 : (ps ++ cN)[0]? = some ar.arg := by
    cases ps with
    | nil => cases hps
    | cons y ys => simpa using hps
  have hpm : ar.arg ∈ ps := by
    cases ps with
    | nil => cases hps
    | cons y ys => simp at hps; rw [hps]; exact List.mem_cons_self
  refine super_init I Z.T ea rfl lk har hcode hvs hfile hcell hcls Z.sub Z.mg Z.sup (S.frk _ List.mem_cons_self) hp0 rfl (S.par _ hpm) Z.top Z.opq Z.sin Z.sve hpl ?_ fun s2 I2 => ?_
  · exact hint _
  · obtain ⟨hne, hle⟩ := hi ds hl
    obtain ⟨t, ht, hq'⟩ := ost_first (X := ncx CX P w K mg base (ps ++ cN) ⟨x, qual, params, (.Expr (supE tag kk p0 p1 p2 p3 p4) p5 :: rest), scope, [("__class__", cc)], cda⟩ f A outer s H E) (σ := ((V.ref a :: ds).map some) ++ [none]) (D := { nx := fun _ H' => Q .non H', rt := Q }) Z.T rfl hle hne (hrest _ a ds rfl rfl rfl hl) H ea fun dx H' n1 n2 q1 q2 q3 => hq dx H' n1 n2 q1 q2 q3
    show _root_.PySem.wpAt _ _ _ (execs rest _) _ _ _
    refine wpAt_of_wpAny (wpAny_mono (ht.run [] s2 _ H _ I2 hq') (fun fl s' hs => ?_) fun e s' hs => hs)
    have fin : ∀ {σ' : L2.St} {H' : Hp} {v : V} {u : Value}, Inv (ncx CX P w K mg base (ps ++ cN) ⟨x, qual, params, (.Expr (supE tag kk p0 p1 p2 p3 p4) p5 :: rest), scope, [("__class__", cc)], cda⟩ f A outer s H E) [] σ' H' s' → L2.RelV v u → Q v H' → CE outer P w H s Q u s' :=
      fun {σ' H' v u} J rv q => ⟨v, H', J.os, J.bare, J.base, J.hok, rv, q⟩
    cases fl with
    | ret u =>
      obtain ⟨v, σ', H', J, rv, q⟩ := hs
      exact fin J rv q
    | next =>
      obtain ⟨σ', H', J, q⟩ := hs
      exact fin (v := V.non) (u := Value.none) J rfl q
    | brk =>
      obtain ⟨_, _, _, q⟩ := hs
      exact False.elim q
    | cont =>
      obtain ⟨_, _, _, q⟩ := hs
      exact False.elim q
end
end Lt

end
section
set_option Elab.async false
set_option linter.all false
set_option maxRecDepth 100000
set_option maxHeartbeats 4000000
/-! Lt: raise X(..), X an own exception over ValueError. -/
namespace Lt
noncomputable section
open PySem PySem.Spec PyProof.Rows L2 PySem.W PySem.Calls NdefX
section
variable {X : Cx} {C : Addr} {x : Str} {k n : Nat} {fd : FuncData} {ps : List Str} {f : Addr} {CX : CXT} {its : List V → List (Str × V)} {ta : TA} {e : Expr} {es : List Expr} {p pos : Pos}
/-- X(e, ..), made to be raised -/
theorem pmk_x (T : OexC X.K C) (iC : findIn X.K (.ref C) "__init__" = some (some (.ref f))) (tI : typeIn X.K (.ref f) = some (.type "function")) (F1 : FnOk X.prog X.w X.K X.mg X.base CX k f fd ps (spXI C n its)) (hr : Room (k + 1) X.A) (hb : Binds X.K fd ps [])
    (hx : Passes CX X (fun _ _ _ => False)) (hg : Gl X x) (hm : X.mg x = some (.ref C)) (ha : PA X (e :: es) ta) (hn : n ≤ 1000)
    (hdb : (x == ("__debug__" : Str)) = false) (he : starEach (e :: es) X.env = (false, eval e X.env) :: starEach es X.env) (hpl : (backTo pos (starEach es X.env)).any (·.1) = false) (hta : ∀ σ H (Q Q' : List V → Hp → Prop), (∀ vs H', Q vs H' → Q' vs H') → ta σ H Q → ta σ H Q') :
    PMk X (.Call (.Name x p) (e :: es) [] pos) (fun σ H Q => ta σ H fun vs H1 => vs.length = n ∧ ∀ d, H1 d = none → Q (.ref C) (some d) (upd H1 d (.xd (its vs).reverse))) := by
  intro pins s σ H Q I h
  refine pmk_oex (dvs := []) (ds := []) T iC tI F1 hr hb .nil hx hg hm ha hdb he hpl pins s σ H Q I (hta σ H _ _ (fun vs H1 ⟨hl, q⟩ => ⟨by omega, fun a na => ?_⟩) h)
  refine ⟨a, vs, by rw [List.append_nil], hl, upd_same, fun dx H' n1 n2 q1 q2 q3 => ⟨rfl, dx, _, q1, q2, ?_, ?_⟩⟩
  · rw [upd_ne n2] at n1; exact n1
  · rw [upd_ne n2] at n1
    have eH : upd (del H' a) dx (.xd (its vs).reverse) = upd H1 dx (.xd (its vs).reverse) := by
      funext b
      by_cases h1 : b = dx
      · subst h1; rw [upd_same, upd_same]
      · rw [upd_ne h1, upd_ne h1]
        by_cases h2 : b = a
        · subst h2; rw [del_same, na]
        · rw [del_ne h2, q3 b h2 h1, upd_ne h2]
    rw [eH]
    exact q dx n1
end
end
end Lt

end
section
set_option Elab.async false
set_option linter.all false
set_option maxRecDepth 100000
set_option maxHeartbeats 4000000
/-! Lt: raise X(..), sound. -/
namespace Lt
noncomputable section
open PySem PySem.Spec PyProof.Rows L2 PySem.W PySem.Calls NdefX
/-- an exception's attribute: an argument, or a text -/
inductive XA where
  | arg (i : Nat)
  | str (x : Str)
def XA.d (ds : List D) : XA → D
  | .arg i => ds.getD i .non
  | .str x => .str x
def xIt (l : List (Nat × XA)) (ds : List D) : List (Nat × D) := l.map fun p => (p.1, p.2.d ds)
/-- raise c(..): n arguments, the attributes by it -/
def sRz (c n : Nat) (it : List D → List (Nat × D)) (fs : List EE) : SS := fun η => sB (aL fs η) η fun ds S => match Nat.beq ds.length n with
  | true => .exc c (it ds) η S
  | false => .no
/-- the class, its __init__ -/
structure XcOk (G : GC) (k c n : Nat) (x : Str) (it : List D → List (Nat × D)) : Prop where
  ex : ∃ (C f : Addr) (fd : FuncData) (ps : List Str) (its : List V → List (Str × V)), G.gt[c]? = some x ∧ G.mg x = some (.ref C) ∧ OexC G.K C ∧ findIn G.K (.ref C) "__init__" = some (some (.ref f)) ∧ typeIn G.K (.ref f) = some (.type "function") ∧
    FnOk G.P G.w G.K G.mg G.base (L2.CX G.P G.w) k f fd ps (spXI C n its) ∧ Binds G.K fd ps [] ∧ ∀ ρ H ds vs, Dens G ρ H ds vs → ds.length = n → Flds G ρ H (it ds) (its vs).reverse
section
variable {G : GC} {X : Cx} {W : TW} {c n k : Nat} {x : Str} {it : List D → List (Nat × D)} {p pos : Pos}
theorem ps_rz (o : Ok G X W) (hr : Room (k + 1) X.A) (Z : XcOk G k c n x it) (hg : Gl X x) (hn : n ≤ 1000) (hdb : (x == ("__debug__" : Str)) = false) {e : Expr} {es : List Expr} {fs : List EE} (ha : PA X (e :: es) (TL G W (aL fs)))
    (he : starEach (e :: es) X.env = (false, eval e X.env) :: starEach es X.env) (hpl : ∀ q, (backTo q (starEach es X.env)).any (·.1) = false) :
    PS X (.Raise (some (.Call (.Name x p) (e :: es) [] pos)) none pos') (TS' G W (sRz c n it fs)) := by
  obtain ⟨C, f, fd, ps, its, g1, g2, T, iC, tI, F1, hb, hfl⟩ := Z.ex
  have hmk := pmk_x (X := X) (CX := L2.CX X.prog X.w) (k := k) (n := n) (its := its) (p := p) (pos := pos) (f := f) (fd := fd) (ps := ps) (C := C) (x := x) (by rw [o.K]; exact T) (by rw [o.K]; exact iC) (by rw [o.K]; exact tI) (by rw [o.P, o.w, o.K, o.mg, o.base]; exact F1) hr (by rw [o.K]; exact hb)
    (passes_call o.takes fun _ _ _ _ z => z.elim) hg (by rw [o.mg]; exact g2) ha hn hdb he (hpl pos) (fun σ H Q Q' hq ⟨ρ, η, S, r, en, p⟩ => ⟨ρ, η, S, r, en, Post.mono p hq⟩)
  refine ps_mono (ps_raise o.calm o.takes hmk) fun E σ H ⟨ρ, η, S, r, en, q⟩ => ⟨ρ, η, S, r, en, ?_⟩
  refine Post.mono (PostS.sB (Rv := Dens G) en q) fun vs H1 ⟨ρ1, S1, ds, gr, r1, dd, _, q1⟩ => ?_
  cases eb : Nat.beq ds.length n with
  | false => rw [eb] at q1; exact q1.elim
  | true =>
    rw [eb] at q1
    have hl := Nat.eq_of_beq_eq_true eb
    refine ⟨by rw [← dd.length]; exact hl, fun d hd => ?_⟩
    have hf := hfl ρ1 H1 ds vs dd hl
    have gu : Grow G ρ1 H1 ρ1 (upd H1 d (.xd (its vs).reverse)) := grow_upd hd
    exact q1 ρ1 _ σ x C d gu (r1.upd_fresh hd) ((en.mono gr).mono gu) g1 g2 ⟨_, upd_same, hf.mono gu⟩
end
end
end Lt

end
section
set_option Elab.async false
set_option linter.all false
set_option maxRecDepth 100000
set_option maxHeartbeats 4000000
/-! Lt: try .. except (X, Y, Z) as e. -/
namespace Lt
noncomputable section
open PySem PySem.Spec PyProof.Rows L2 PySem.W
theorem fly_keeps {B h h' : Heap} {l : List PySem.Env} {a : Addr} {Z : Obj → Prop} (R : HandSPX.FlyingZ B l a Z h) (k : ∀ b o, h.get? b = some o → h'.get? b = some o) : HandSPX.FlyingZ B l a Z h' := by
  obtain ⟨f1, f2, f3, oe, ws, T, oT, ts, he, hz, hd, h1, hn, hne, hT, hdT, h3⟩ := R
  exact ⟨fun b o q => k _ _ (f1 b o q), f2, f3.of_keeps fun b o q _ => ⟨o, k b o q, rfl⟩, oe, ws, T, oT, ts, k _ _ he, hz, hd, h1, hn, hne, k _ _ hT, hdT, h3⟩
/-- what the clause wishes of an exception of the body -/
def wTup (K : Frag) (cs : List Value) (N : List Str) (i : Nat) (ts : Addr → Value → Option Addr → TS) (Wout : WX) (D : Ends) : WX := fun cls d σ H =>
  ∃ b, exmAny K cls cs = some b ∧ (b = true → ∀ a, H a = none → σ.length = N.length → ts a cls d { nx := fun σ' H' => D.nx (σ'.set i none) H', rt := D.rt, bk := fun σ' H' => D.bk (σ'.set i none) H', ct := fun σ' H' => D.ct (σ'.set i none) H' } (σ.set i (some (.ref a))) H) ∧
    (b = false → Wout cls d σ H)
section
variable {X : Cx} {x1 x2 x3 n : Str} {c1 c2 c3 : Value} {i kk : Nat} {body suite : List Stmt} {b₀ : Stmt} {q1 q2 q3 tp pos pos' : Pos} {tb : WX → TS} {ts : Addr → Value → Option Addr → TS} {Wout : WX}
theorem ps_try_tup (hs : X.stack = X.env :: X.outer) (hf : X.env.frame = some X.env.locals) (hN : X.N.Nodup) (hi : X.N[i]? = some n) (hln : X.env.kindOf n = some .local) (n1 : Names X x1 c1) (n2 : Names X x2 c2) (n3 : Names X x3 c3) (tk : Takes X Wout)
    (hb : ∀ (W : WX) (pn : List (Addr × Obj)) (xe : Value → Shared → Prop), Takes (X.tr pn xe) W → PassesOwn (model X.prog X.w) X.A X.env xe → PSs (X.tr pn xe) body (tb W))
    (hsu : ∀ (a : Addr) (oe : Obj) (cls : Value) (d : Option Addr) (pn : List (Addr × Obj)), Zc cls d oe → (∃ vs, oe.data = .fields vs) → PSs (X.suite a ((a, oe) :: pn)) (b₀ :: suite) (ts a cls d)) :
    PS X (.Try body [.ExceptHandler (some (.Tuple [.Name x1 q1, .Name x2 q2, .Name x3 q3] kk tp)) (some n) (b₀ :: suite) pos'] [] [] pos) (fun D σ H => tb (wTup X.K [c1, c2, c3] X.N i ts Wout D) D σ H) := by
  refine ⟨fun pins s σ H D I h => ?_⟩
  have ok := I.ok
  have hfr : X.A.frames = some (X.env :: X.outer) := by rw [ok.frames, hs]
  refine wpAny_Try_except ?_
  refine wpAny_mono ((hb (wTup X.K [c1, c2, c3] X.N i ts Wout D) (X.pn ++ pins) _ (fun u s' xx => ?_) PassesOwn.looking).run [] s σ H D (I.toTry _) h) (fun fl s1 hsp => ?_) (fun e s1 he => he)
  · obtain ⟨a, B, sI, pins', σ', H', cls, d, rfl, J', nb, up, sky, na, os, ag, b, hb1, hyes, hno⟩ := xx
    have J : Inv X pins σ' H' sI := J'.ofTry ok
    have sky' : Sky B (X.env :: X.outer) a (Zc cls d) X.env.locals s'.heap := by rw [← hs]; exact sky
    show wpAny (model X.prog X.w) X.A (noteFrame (.ref a) X.env) _ _ _
    refine Sky.land Zc.steady hfr hf sky' fun h3 fl3 up3 => ?_
    have J3 : Inv X pins σ' H' { s' with heap := h3 } := J.landed nb fl3.1 (up.trans up3) os ag
    obtain ⟨oe3, vs3, he3, hz3, hd3⟩ := fl3.there
    have nfr : a ∉ frs (X.env :: X.outer) := fun hm => by
      obtain ⟨_, o', e', hnf⟩ := fl3.2.2.1.mem hm
      rw [he3] at e'; cases e'
      exact hnf _ hd3
    have nL : a ≠ X.env.locals := fun z => nfr (List.mem_filterMap.mpr ⟨X.env, List.mem_cons_self, by rw [hf, z]⟩)
    have nF : a ∉ X.fs := fun hm => by
      obtain ⟨e, he, q⟩ := List.mem_filterMap.mp hm
      exact nfr (List.mem_filterMap.mpr ⟨e, List.mem_cons_of_mem _ he, q⟩)
    have S3 := J3.suite he3 hd3 na nL nF
    refine wpAny_handleBy_cons (codeAny_handlers_test ?_) (by intro q; cases q)
    have nm : ∀ {x : Str} {c : Value} {p : Pos} {Q : Value → Shared → Prop} {E : Value → Shared → Prop}, Names X x c → Q c { s' with heap := h3 } → wpAny (model X.prog X.w) (X.A.mark (some (.ref a))) (eval (.Name x p) X.env) Q E { s' with heap := h3 } := fun {x c p Q E} hc q => by
      obtain ⟨hg, hdbg, hm | ⟨hm, hv, hnn⟩⟩ := hc
      · exact ld_glob (X := X.suite a ((a, oe3) :: (X.pn ++ pins))) S3 hg hm q hdbg
      · exact ld_blt (X := X.suite a ((a, oe3) :: (X.pn ++ pins))) S3 hg hm hv q hnn hdbg
    refine wpAny_Tuple (wpAny_items_cons (nm n1 (wpAny_items_cons (nm n2 (wpAny_items_cons (nm n3 (wpAny_items_nil ⟨by size_fits, ?_⟩)))))))
    have kp : ∀ q o, h3.get? q = some o → (h3.push { cls := .type "tuple", data := .seq [c1, c2, c3].toArray }).get? q = some o := fun _ _ z => Heap.get?_push_of_some _ z
    have fk := fly_keeps fl3 kp
    have upk := Heap.UpToSlots.of_keeps kp
    have Jk : Inv X pins σ' H' { s' with heap := h3.push { cls := .type "tuple", data := .seq [c1, c2, c3].toArray } } := J3.kept kp
    have LT : Looks (model X.prog X.w) (h3.push { cls := .type "tuple", data := .seq [c1, c2, c3].toArray }) (typeOf (.ref a)) cls := fun A Q E s k q => wpAny_typeOf_ref (k _ _ (kp _ _ he3)) (by rw [hz3.1]; exact q)
    have LM := exm_tup3 (M := model X.prog X.w) Jk.kIn LT (Heap.get?_push_size h3 rfl) hb1
    refine LM.here ?_
    cases b with
    | true =>
      refine codeAny_handlers_suite_as ?_
      refine HandSPX.lands_againZ fk fun h4 fl4 up4 => ?_
      have J4 : Inv X pins σ' H' { s' with heap := h4 } := J.landed nb fl4.1 (((up.trans up3).trans upk).trans up4) os ag
      obtain ⟨oe4, vs4, he4, hz4, hd4⟩ := fl4.there
      have S4 := J4.suite he4 hd4 na nL nF
      refine store_ok (X := X.suite a ((a, oe4) :: (X.pn ++ pins))) (v := .ref a) S4 hN hi (.inl hln) rfl (fun s5 S5 => ?_) (.inr hln)
      refine wpAny_mono ((hsu a oe4 cls d (X.pn ++ pins) hz4 ⟨_, hd4⟩).run [] s5 _ H' _ S5 (hyes rfl a na J.len)) (fun fw s6 hsp => ?_) (fun _ _ z => False.elim z)
      have fin : ∀ {σ6 : L2.St} {H6 : Hp} {Q : Shared → Prop}, Inv (X.suite a ((a, oe4) :: (X.pn ++ pins))) [] σ6 H6 s6 → (∀ s7, Inv X pins (σ6.set i none) H6 s7 → Q s7) →
          wpAny (model X.prog X.w) X.A (do bindName X.env n .none; unbindBehindTheSuite X.env n pos') (fun _ s7 => Q s7) X.xe s6 := fun {σ6 H6 Q} S6 hq => gone_ok (S6.unsuite ok) hN hi hln hq
      cases fw with
      | next =>
        obtain ⟨σ6, H6, S6, q6⟩ := hsp
        exact fin S6 fun s7 J7 => ⟨_, _, J7, q6⟩
      | brk =>
        obtain ⟨σ6, H6, S6, q6⟩ := hsp
        exact fin S6 fun s7 J7 => ⟨_, _, J7, q6⟩
      | cont =>
        obtain ⟨σ6, H6, S6, q6⟩ := hsp
        exact fin S6 fun s7 J7 => ⟨_, _, J7, q6⟩
      | ret u =>
        obtain ⟨v6, σ6, H6, S6, r6, q6⟩ := hsp
        exact fin S6 fun s7 J7 => ⟨_, _, _, J7, r6, q6⟩
    | false =>
      show wpAny _ X.A (handleBy (.ref a) X.env []) _ _ _
      refine wpAny_handleBy_nil ?_
      obtain ⟨k1, k2, k3, oe, vs, T, oT, ts', he, hz, hd, h1, hr⟩ := id fk
      unfold PySem.passOn
      refine wpAny_bind (wpAny_field he hd h1 ?_)
      rw [if_neg (show ¬ ((Value.ref T == Value.none) = true) from by simp)]
      have fin : wpAny (model X.prog X.w) X.A (setFlight (.ref a) X.env.frame) (fun _ s4 => wpAny (model X.prog X.w) X.A (throw (.ref a) : Sem Flow) (SP X pins D) X.xe s4) X.xe { s' with heap := h3.push { cls := .type "tuple", data := .seq [c1, c2, c3].toArray } } := by
        rw [hf]
        refine HandSPX.setFlight_upZ fk fun h4 hh4 up4 => wpAny_throw (tk _ _ ?_)
        exact ⟨a, B, sI, pins, σ', H', cls, d, rfl, J, nb, ((up.trans up3).trans upk).trans up4, .inr (.inr (by rw [hs]; exact hh4)), na, os, ag, hno rfl⟩
      first
        | exact wpAny_bind (wpAny_pure (wpAny_bind fin))
        | exact wpAny_bind fin
  · cases fl with
    | next =>
      obtain ⟨σ', H', J', q⟩ := hsp
      exact wpAny_execs_nil ⟨σ', H', J'.ofTry ok, q⟩
    | brk =>
      obtain ⟨σ', H', J', q⟩ := hsp
      exact ⟨σ', H', J'.ofTry ok, q⟩
    | cont =>
      obtain ⟨σ', H', J', q⟩ := hsp
      exact ⟨σ', H', J'.ofTry ok, q⟩
    | ret u =>
      obtain ⟨v, σ', H', J', r, q⟩ := hsp
      exact ⟨v, σ', H', J'.ofTry ok, r, q⟩
end
end
end Lt

end
section
set_option Elab.async false
set_option linter.all false
set_option maxRecDepth 100000
set_option maxHeartbeats 4000000
/-! Lt: attributes of the exception that is handled. -/
namespace Lt
noncomputable section
open PySem PySem.Spec PyProof.Rows L2 PySem.W
/-- e.n, e the pinned exception at a, its class among those whose attributes are read -/
def tXp (K : Frag) (a : Addr) (cls : Value) (d : Option Addr) (n : Str) (te : TE) : TE := fun σ H Q => te σ H fun x H1 => x = .ref a ∧ ∃ (C dd : Addr) (fs : List (Str × V)) (v : V), cls = .ref C ∧ XfC K C ∧ findIn K (.ref C) n = some none ∧ d = some dd ∧ H1 dd = some (.xd fs) ∧ fs.lookup n = some v ∧ Q v H1
theorem pe_xp {X : Cx} {a : Addr} {oe : Obj} {cls : Value} {d : Option Addr} {e : Expr} {te : TE} {pos : Pos} {n : Str} (hz : Zc cls d oe) (hf : ∃ vs, oe.data = .fields vs) (hp : (a, oe) ∈ X.pn) (he : PE X e te) (hb : attributeBase e n X.env (eval e X.env) = eval e X.env) :
    PE X (.Attribute e n pos) (tXp X.K a cls d n te) := by
  refine ⟨fun pins s σ H Q I h => ?_⟩
  refine attr_of hb (thn (he.run pins s σ H _ I h) fun u s1 hh => ?_)
  obtain ⟨x, H1, I1, rx, ex, C, dd, fs, v, ec, T, hno, ed, ea, l, q⟩ := hh
  subst ex
  obtain rfl : u = Value.ref a := rx
  subst ec
  subst ed
  obtain ⟨ha, _⟩ := I1.pin (a, oe) (List.mem_append_left _ hp)
  obtain ⟨vs, hd⟩ := hf
  have hx : ObjOk X.prog X.w H1 s1.heap dd (.xd fs) := I1.hok dd _ ea
  obtain ⟨mA, hns, hr⟩ := hx
  obtain ⟨od, ho, hl⟩ := lookIn_ns hns
  obtain ⟨u, hu, ru⟩ := RelO.some_of (v := v) (o := mA n) (by rw [← l]; exact hr n)
  have J : InstAt s1.heap a oe C (some od) := ⟨ha, hz.1, by unfold notCls; rw [hd] <;> rfl, by rw [hz.2]; exact ho⟩
  exact HandSPX.exc_get I1.kIn J T.ga T.gg T.exC (findObj_own T.hdC hno rfl (by rw [hl, hu])) (handed_of ru) ⟨v, H1, I1.tok _, ru, q⟩
end
end Lt

end
section
set_option Elab.async false
set_option linter.all false
set_option maxRecDepth 100000
set_option maxHeartbeats 4000000
/-! Lt: a def called with the exception that is handled. -/
namespace Lt
noncomputable section
open PySem PySem.Spec PyProof.Rows L2 PySem.W L2H
/-- what such a def promises: of the pinned p -/
abbrev SpP := Addr × Obj → List V → Hp → VK → Prop
structure FnP (P : Program) (w : World) (K : Frag) (mg : Str → Option Value) (base : Heap) (k : Nat) (f : Addr) (fd : FuncData) (ps : List Str) (sp : SpP) : Prop where
  len : ∀ p vs H Q, sp p vs H Q → vs.length = ps.length
  run : ∀ (A : Around) (outer : List PySem.Env) (s : Shared) (H : Hp) (args : PySem.Args) (us : List Value) (vs : List V) (Q : VK) (p : Addr × Obj), RoomH k A → PinOk outer H s p → Env0 P w K mg base A outer s H → BindsTo s fd args (ps.zip us) → Vals vs us → sp p vs H Q →
    codeAny (model P w) A (.call (.ref f) args) (CR C8.CX0 outer P w H s Q C8.E0) s
theorem fnP_of {P : Program} {w : World} {K : Frag} {mg : Str → Option Value} {base : Heap} {k : Nat} {f : Addr} {name qual : Str} {params : Arguments} {body : List Stmt} {scope : Scope} {dV kV doc pm cdv ct oc : Value} {an od : Option Addr}
    {osl : Array (Option Value)} {N ps : List Str} {sp : SpP} (lk : K.lookup f = some ⟨oc, od, .func (fnOf name qual params body scope dV kV doc pm an cdv ct), osl⟩) (hcd : codeIn K cdv qual = true) (S : FnScope N ps scope)
    (len : ∀ p vs H Q, sp p vs H Q → vs.length = ps.length)
    (hbody : ∀ (A : Around) (outer : List PySem.Env) (s : Shared) (H : Hp) (vs : List V) (Q : VK) (p : Addr × Obj), RoomH k (A.deeper (envOfC qual scope s.heap.objs.size f cdv)) → sp p vs H Q →
      ∃ t, PSs (cxH C8.CX0 P w K mg base N qual scope f cdv A outer s H C8.E0 p) body t ∧ t { nx := fun _ H' => Q .non H', rt := Q } (L2.start N vs) H) :
    FnP P w K mg base (k + 1) f (fnOf name qual params body scope dV kV doc pm an cdv ct) ps sp := by
  refine ⟨len, fun A outer s H args us vs Q p hr hpin e0 hb r hsp => ?_⟩
  have hl := len _ _ _ _ hsp
  have KX : K.In s.heap := e0.mod.kin.keeps fun b o e => (e0.bs b o e).1
  have lim : s.heap.NoLimit := e0.mod.nolimit.keeps fun b o e => (e0.bs b o e).1
  have hkind : ∀ y ∈ ps.zip us, scope.names.lookup y.1 = some .local ∨ (scope.names.lookup y.1 = some .cell ∧ ((cellsFrom (s.heap.objs.size + 1) scope.names []).lookup y.1).isSome = true) := fun ⟨n, v⟩ hy => by
    rcases S.par n (List.of_mem_zip hy).1 with q | q
    · exact .inl q
    · exact .inr ⟨q, cellsFrom_some _ _ _ (.inl q)⟩
  refine codeAny_call_function hr.depth (KX _ _ lk) rfl S.co S.gen rfl (codeRec_of KX hcd) (hb _ _ _ _ ?_)
  refine wpAny_newFunctionEnv_cells S.kind hkind fun env he s1 x => ?_
  subst he
  refine ⟨lim.keeps x.toInCall.keep, codeAny_func ?_⟩
  obtain ⟨t, ht, hq⟩ := hbody A outer s H vs Q p (hr.deeper _) hsp
  have I : Inv (cxH C8.CX0 P w K mg base N qual scope f cdv A outer s H C8.E0 p) [] (L2.start N vs) H s1 := inv_startH S hpin e0 hl r x
  refine wpAny_mono (ht.run [] s1 (L2.start N vs) H _ I hq) (fun fl s' hs => ?_) fun e s' hs => hs
  have fin : ∀ {σ' : L2.St} {H' : Hp} {v : V} {u : Value}, Inv (cxH C8.CX0 P w K mg base N qual scope f cdv A outer s H C8.E0 p) [] σ' H' s' → RelV v u → Q v H' → CE outer P w H s Q u s' :=
    fun {σ' H' v u} J rv q => ⟨v, H', J.os, J.bare, J.base, J.hok, rv, q⟩
  cases fl with
  | ret u =>
    obtain ⟨v, σ', H', J, rv, q⟩ := hs
    exact fin J rv q
  | next =>
    obtain ⟨σ', H', J, q⟩ := hs
    exact fin (v := V.non) (u := Value.none) J rfl q
  | brk =>
    obtain ⟨_, _, _, q⟩ := hs
    exact False.elim q
  | cont =>
    obtain ⟨_, _, _, q⟩ := hs
    exact False.elim q
section
variable {X : Cx} {k : Nat} {f : Addr} {fd : FuncData} {ps : List Str} {sp : SpP} {x : Str} {q pos : Pos} {e : Expr} {es : List Expr} {t : TA} {p : Addr × Obj}
theorem pe_callP (F : FnP X.prog X.w X.K X.mg X.base k f fd ps sp) (hr : RoomH k X.A) (hp : p ∈ X.pn) (hg : Gl X x) (hm : X.mg x = some (.ref f)) (hk : keepIn X.K (.ref f) = true) (hb : Binds X.K fd ps [])
    (ha : PA X (e :: es) t) (hdb : (x == ("__debug__" : Str)) = false) (he : starEach (e :: es) X.env = (false, eval e X.env) :: starEach es X.env) (hpl : (backTo pos (starEach es X.env)).any (·.1) = false) :
    PE X (.Call (.Name x q) (e :: es) [] pos) (fun σ H Q => t σ H fun vs H1 => sp p vs H1 Q) := by
  refine ⟨fun pins s σ H Q I h => ?_⟩
  refine wpAny_Call_Name_kw (ld_glob I hg hm ?_ hdb)
  refine callWith_K (h₀ := X.base) I.ok.mod.kin hk (thn (ha.run pos pins s σ H _ I h) fun us s1 ⟨vs, H1, I1, r, q⟩ => ⟨I1.kIn, ?_⟩) he hpl
  have hl : us.length = ps.length := by rw [← r.length]; exact F.len _ _ _ _ q
  have b := hb s1 us I1.kIn (by rw [List.append_nil]; exact hl)
  rw [List.append_nil] at b
  have P1 := I1.pin p (List.mem_append_left _ hp)
  have hpin : PinOk X.stack H1 s1 p := ⟨P1.1, P1.2.1, fun hm => (List.mem_cons.mp (I1.stkSub p.1 hm)).elim P1.2.2.1 P1.2.2.2.1, P1.2.2.2.2⟩
  refine wpAny_call (codeAny_mono (F.run X.A X.stack s1 H1 ⟨us, []⟩ us vs Q p hr hpin I1.env0 b r q) fun r s' hq => ?_)
  cases r with
  | error e => exact (show False from hq).elim
  | ok fl =>
    cases fl with
    | ret u => exact I1.after hq
    | next => exact False.elim hq
    | brk => exact False.elim hq
    | cont => exact False.elim hq
end
end
end Lt

end
section
set_option Elab.async false
set_option linter.all false
set_option maxRecDepth 100000
set_option maxHeartbeats 4000000
/-! Lt: the bodies of _law_fields and _law_try, with any positions (printed by lawf.py). -/
namespace Lt
open PySem
abbrev fieldsB (p1 p2 p3 p4 p5 p6 p7 p8 p9 p10 p11 p12 p13 p14 p15 p16 p17 p18 p19 p20 p21 p22 p23 p24 p25 p26 p27 p28 p29 p30 p31 p32 p33 p34 p35 p36 p37 p38 p39 p40 p41 p42 p43 p44 p45 p46 p47 p48 p49 p50 p51 p52 p53 p54 p55 p56 p57 p58 p59 p60 p61 p62 p63 p64 p65 p66 p67 p68 p69 p70 p71 p72 p73 p74 p75 p76 p77 p78 p79 p80 p81 p82 p83 p84 p85 p86 p87 p88 p89 p90 p91 p92 p93 p94 p95 p96 p97 p98 p99 p100 p101 p102 p103 p104 : Pos) : List Stmt := [ (PySem.Stmt.If (test := (PySem.Expr.Compare (left := (PySem.Expr.Attribute (PySem.Expr.Name "_law_e" p1) "tag" p2)) (ops := [PySem.CmpOp.In]) (comparators := [ (PySem.Expr.Tuple (elts := [ (PySem.Expr.Constant (PySem.Const.str "InvalidHouse") 0 p3), (PySem.Expr.Constant (PySem.Const.str "InvalidAnswer") 0 p4), (PySem.Expr.Constant (PySem.Const.str "InvalidCommand") 0 p5), (PySem.Expr.Constant (PySem.Const.str "InvalidPage") 0 p6), (PySem.Expr.Constant (PySem.Const.str "NotLet") 0 p7), (PySem.Expr.Constant (PySem.Const.str "OverLimit") 0 p8)]) (k := 0) (pos := p9))]) (pos := p10))) (body := [ (PySem.Stmt.If (test := (PySem.Expr.Compare (left := (PySem.Expr.Attribute (PySem.Expr.Name "_law_e" p11) "tag" p12)) (ops := [PySem.CmpOp.Eq]) (comparators := [(PySem.Expr.Constant (PySem.Const.str "InvalidHouse") 0 p13)]) (pos := p14))) (body := [ (PySem.Stmt.Return (value := (some (PySem.Expr.Tuple (elts := [(PySem.Expr.Attribute (PySem.Expr.Name "_law_e" p15) "state" p16)]) (k := 0) (pos := p17)))) (pos := p18))]) (orelse := []) (pos := p19)), (PySem.Stmt.If (test := (PySem.Expr.Compare (left := (PySem.Expr.Attribute (PySem.Expr.Name "_law_e" p20) "tag" p21)) (ops := [PySem.CmpOp.Eq]) (comparators := [(PySem.Expr.Constant (PySem.Const.str "InvalidAnswer") 0 p22)]) (pos := p23))) (body := [ (PySem.Stmt.Return (value := (some (PySem.Expr.Tuple (elts := [ (PySem.Expr.Attribute (PySem.Expr.Name "_law_e" p24) "hand" p25), (PySem.Expr.Attribute (PySem.Expr.Name "_law_e" p26) "beat" p27)]) (k := 0) (pos := p28)))) (pos := p29))]) (orelse := []) (pos := p30)), (PySem.Stmt.If (test := (PySem.Expr.Compare (left := (PySem.Expr.Attribute (PySem.Expr.Name "_law_e" p31) "tag" p32)) (ops := [PySem.CmpOp.Eq]) (comparators := [(PySem.Expr.Constant (PySem.Const.str "InvalidCommand") 0 p33)]) (pos := p34))) (body := [ (PySem.Stmt.Return (value := (some (PySem.Expr.Tuple (elts := [(PySem.Expr.Attribute (PySem.Expr.Name "_law_e" p35) "word" p36)]) (k := 0) (pos := p37)))) (pos := p38))]) (orelse := []) (pos := p39)), (PySem.Stmt.If (test := (PySem.Expr.Compare (left := (PySem.Expr.Attribute (PySem.Expr.Name "_law_e" p40) "tag" p41)) (ops := [PySem.CmpOp.Eq]) (comparators := [(PySem.Expr.Constant (PySem.Const.str "InvalidPage") 0 p42)]) (pos := p43))) (body := [ (PySem.Stmt.Return (value := (some (PySem.Expr.Tuple (elts := [(PySem.Expr.Attribute (PySem.Expr.Name "_law_e" p44) "line" p45)]) (k := 0) (pos := p46)))) (pos := p47))]) (orelse := []) (pos := p48)), (PySem.Stmt.Return (value := (some (PySem.Expr.IfExp (test := (PySem.Expr.Compare (left := (PySem.Expr.Attribute (PySem.Expr.Name "_law_e" p49) "tag" p50)) (ops := [PySem.CmpOp.Eq]) (comparators := [(PySem.Expr.Constant (PySem.Const.str "NotLet") 0 p51)]) (pos := p52))) (body := (PySem.Expr.Tuple (elts := [(PySem.Expr.Attribute (PySem.Expr.Name "_law_e" p53) "beat" p54)]) (k := 0) (pos := p55))) (orelse := (PySem.Expr.Tuple (elts := [(PySem.Expr.Attribute (PySem.Expr.Name "_law_e" p56) "cost" p57)]) (k := 0) (pos := p58))) (pos := p59)))) (pos := p60))]) (orelse := []) (pos := p61)), (PySem.Stmt.If (test := (PySem.Expr.Compare (left := (PySem.Expr.Attribute (PySem.Expr.Name "_law_e" p62) "tag" p63)) (ops := [PySem.CmpOp.In]) (comparators := [ (PySem.Expr.Tuple (elts := [ (PySem.Expr.Constant (PySem.Const.str "TooMany") 0 p64), (PySem.Expr.Constant (PySem.Const.str "TooDear") 0 p65), (PySem.Expr.Constant (PySem.Const.str "TooWide") 0 p66), (PySem.Expr.Constant (PySem.Const.str "Full") 0 p67)]) (k := 0) (pos := p68))]) (pos := p69))) (body := [ (PySem.Stmt.Return (value := (some (PySem.Expr.Tuple (elts := [(PySem.Expr.Attribute (PySem.Expr.Name "_law_e" p70) "most" p71)]) (k := 0) (pos := p72)))) (pos := p73))]) (orelse := []) (pos := p74)), (PySem.Stmt.If (test := (PySem.Expr.Compare (left := (PySem.Expr.Attribute (PySem.Expr.Name "_law_e" p75) "tag" p76)) (ops := [PySem.CmpOp.In]) (comparators := [ (PySem.Expr.Tuple (elts := [ (PySem.Expr.Constant (PySem.Const.str "InvalidName") 0 p77), (PySem.Expr.Constant (PySem.Const.str "UnknownName") 0 p78)]) (k := 0) (pos := p79))]) (pos := p80))) (body := [ (PySem.Stmt.Return (value := (some (PySem.Expr.Tuple (elts := [(PySem.Expr.Attribute (PySem.Expr.Name "_law_e" p81) "name" p82)]) (k := 0) (pos := p83)))) (pos := p84))]) (orelse := []) (pos := p85)), (PySem.Stmt.Assign (targets := [(PySem.Expr.Name "_law_bare" p86)]) (value := (PySem.Expr.List (elts := [ (PySem.Expr.Constant (PySem.Const.str "InvalidPaper") 0 p87), (PySem.Expr.Constant (PySem.Const.str "InvalidText") 0 p88), (PySem.Expr.Constant (PySem.Const.str "SizesDiffer") 0 p89), (PySem.Expr.Constant (PySem.Const.str "NoLetters") 0 p90), (PySem.Expr.Constant (PySem.Const.str "NotPossible") 0 p91), (PySem.Expr.Constant (PySem.Const.str "NothingLeft") 0 p92)]) (pos := p93))) (pos := p94)), (PySem.Stmt.Return (value := (some (PySem.Expr.IfExp (test := (PySem.Expr.Compare (left := (PySem.Expr.Attribute (PySem.Expr.Name "_law_e" p95) "tag" p96)) (ops := [PySem.CmpOp.In]) (comparators := [(PySem.Expr.Name "_law_bare" p97)]) (pos := p98))) (body := (PySem.Expr.Tuple [] 0 p99)) (orelse := (PySem.Expr.Tuple (elts := [(PySem.Expr.Attribute (PySem.Expr.Name "_law_e" p100) "given" p101)]) (k := 0) (pos := p102))) (pos := p103)))) (pos := p104))]
abbrev tryB (p1 p2 p3 p4 p5 p6 p7 p8 p9 p10 p11 p12 p13 p14 p15 p16 p17 p18 p19 p20 : Pos) : List Stmt := [ (PySem.Stmt.Try (body := [ (PySem.Stmt.Return (value := (some (PySem.Expr.Tuple (elts := [ (PySem.Expr.Constant (PySem.Const.str "told") 0 p1), (PySem.Expr.Call (PySem.Expr.Name "_law_ask" p2) [] [] p3)]) (k := 0) (pos := p4)))) (pos := p5))]) (handlers := [ (PySem.ExceptHandler.ExceptHandler (type := (some (PySem.Expr.Tuple (elts := [ (PySem.Expr.Name "TollError" p6), (PySem.Expr.Name "Missing" p7), (PySem.Expr.Name "NothingLeft" p8)]) (k := 0) (pos := p9)))) (name := (some "_law_e")) (body := [ (PySem.Stmt.Return (value := (some (PySem.Expr.BinOp (left := (PySem.Expr.Tuple (elts := [ (PySem.Expr.Constant (PySem.Const.str "no") 0 p10), (PySem.Expr.Attribute (PySem.Expr.Name "_law_e" p11) "tag" p12)]) (k := 0) (pos := p13))) (op := PySem.Operator.Add) (right := (PySem.Expr.Call (func := (PySem.Expr.Name "_law_fields" p14)) (args := [(PySem.Expr.Name "_law_e" p15)]) (keywords := []) (pos := p16))) (pos := p17)))) (pos := p18))]) (pos := p19))]) (orelse := []) (finalbody := []) (pos := p20))]
end Lt

end
section
set_option Elab.async false
set_option linter.all false
set_option maxRecDepth 100000
set_option maxHeartbeats 4000000
/-! Lt: _law_fields walked, _law_try walked. -/
namespace Lt
noncomputable section
open PySem PySem.Spec PyProof.Rows L2 PySem.W L2H
abbrev Ex1 (H H' : Hp) : Prop := ∀ b o, H b = some o → H' b = some o
theorem Ex1.upd {H : Hp} {p : Addr} {o : HO} (h : H p = none) : Ex1 H (upd H p o) := fun b u e => by
  rw [upd_ne (ne_of_none e h)]; exact e
theorem strs_shaped {cs : List Str} (h : cs.all PyData.strOk = true) : SeqAt.shaped (.tuple (cs.map PyData.str)) = true ∧ SeqAt.shaped (.list (cs.map PyData.str)) = true := by
  have h1 : PyData.canLayAll0 (cs.map PyData.str) = true := by
    induction cs with
    | nil => rfl
    | cons c cs ih =>
      obtain ⟨a, b⟩ := and2 (show (PyData.strOk c && cs.all PyData.strOk) = true from h)
      show (PyData.canLay0 (.str c) && PyData.canLayAll0 (cs.map PyData.str)) = true
      rw [ih b, show PyData.canLay0 (.str c) = true from a]
      rfl
  have h2 : PyData.depthAll (cs.map PyData.str) = 0 := by
    clear h h1
    induction cs with
    | nil => rfl
    | cons c cs ih =>
      show max (PyData.depth (.str c)) (PyData.depthAll (cs.map PyData.str)) = 0
      rw [ih]
      rfl
  unfold SeqAt.shaped
  refine ⟨Bool.and_eq_true_iff.mpr ⟨h1, decide_eq_true ?_⟩, Bool.and_eq_true_iff.mpr ⟨h1, decide_eq_true ?_⟩⟩
  · show PyData.depthAll _ + 1 ≤ 64
    rw [h2]; decide
  · show PyData.depthAll _ + 1 ≤ 64
    rw [h2]; decide
theorem strs_any (t : Str) : ∀ cs : List Str, ((cs.map PyData.str).any fun z => PyData.eqv z (.str t)) = decide (t ∈ cs)
  | [] => by simp
  | c :: cs => by
    rw [List.map_cons, List.any_cons, strs_any t cs]
    show ((c == t) || _) = _
    by_cases h : c = t
    · subst h; simp
    · have h' : ¬ t = c := fun z => h z.symm
      simp [h, h']
theorem strs_dp {K : Frag} {H : Hp} : ∀ cs : List Str, DpAll K H (cs.map V.str) (cs.map PyData.str)
  | [] => .nil
  | c :: cs => .cons (.str c) (strs_dp cs)
/-- constant texts -/
abbrev Strs : List Expr → List Str → Prop := Paired fun e c => ∃ k p, e = .Constant (.str c) k p
theorem pa_strs {X : Cx} : ∀ {es : List Expr} {cs : List Str}, Strs es cs → PA X es (fun _ H Q => Q (cs.map V.str) H)
  | _, _, .nil => pa_nil
  | _, _, .cons ⟨k, p, e⟩ t => by
    subst e
    exact pa_cons (pe_str) (pa_strs t)
/-- the handled exception, by a name -/
structure Hd (X : Cx) (i : Nat) (x : Str) (a : Addr) (oe : Obj) (cls : Value) (d : Option Addr) : Prop where
  n : X.N[i]? = some x
  v : Vis X.env.scope x
  z : Zc cls d oe
  f : ∃ vs, oe.data = .fields vs
  p : (a, oe) ∈ X.pn
  u : X.A.units + 100 < cLine
  d1 : (x == ("__debug__" : Str)) = false
  d2 : (x == ("__classdict__" : Str)) = false
/-- .. what is known of it -/
structure Bs (K : Frag) (i : Nat) (a : Addr) (cls : Value) (d : Option Addr) (C dd : Addr) (gs : List (Str × V)) (σ : L2.St) (H : Hp) : Prop where
  c : cls = .ref C
  x : XfC K C
  d : d = some dd
  s : σ[i]? = some (some (.ref a))
  h : H dd = some (.xd gs)
section
variable {X : Cx} {i : Nat} {x : Str} {a : Addr} {oe : Obj} {cls : Value} {d : Option Addr} {C dd : Addr} {gs : List (Str × V)} {p q p2 p3 pos : Pos} {n t : Str} {K : Frag} {σ : L2.St} {H H' : Hp}
theorem Bs.ext (b : Bs K i a cls d C dd gs σ H) (e : Ex1 H H') : Bs K i a cls d C dd gs σ H' := ⟨b.c, b.x, b.d, b.s, e _ _ b.h⟩
/-- an attribute that it has -/
def Fl (K : Frag) (C : Addr) (gs : List (Str × V)) (n : Str) (v : V) : Prop := findIn K (.ref C) n = some none ∧ gs.lookup n = some v
theorem pe_attrH (h : Hd X i x a oe cls d) : PE X (.Attribute (.Name x p) n q) (fun σ H Q => Bs X.K i a cls d C dd gs σ H ∧ ∃ v, Fl X.K C gs n v ∧ Q v H) :=
  pe_mono (pe_xp h.z h.f h.p (pe_var h.n h.v h.d1 h.d2) rfl) fun σ H Q ⟨b, v, ⟨f1, f2⟩, q⟩ => ⟨.ref a, b.s, rfl, C, dd, gs, v, b.c, b.x, f1, b.d, b.h, f2, q⟩
def Tg (K : Frag) (C : Addr) (gs : List (Str × V)) (t : Str) : Prop := Fl K C gs "tag" (.str t) ∧ PyData.strOk t = true
theorem str_shaped {t : Str} (h : PyData.strOk t = true) : SeqAt.shaped (.str t) = true := by
  unfold SeqAt.shaped
  exact Bool.and_eq_true_iff.mpr ⟨h, rfl⟩
/-- e.tag == c -/
theorem pt_tagEq {c : Str} {k : Nat} (h : Hd X i x a oe cls d) (hc : PyData.strOk c = true) : PT X (.Compare (.Attribute (.Name x p) "tag" q) [.Eq] [.Constant (.str c) k p2] p3) (fun σ H Q => Bs X.K i a cls d C dd gs σ H ∧ Tg X.K C gs t ∧ Q (decide (t = c)) H) :=
  pt_mono (pt_cmpR (op_eqD (by have := h.u; omega)) (pe_attrH h) pe_str rfl) fun σ H Q ⟨b, tg, q⟩ => ⟨b, .str t, tg.1, .str t, .str c, .str _, .str _, str_shaped tg.2, str_shaped hc, _, rfl, by
    have e : PyData.eqv (.str t) (.str c) = decide (t = c) := by
      show (t == c) = _
      by_cases z : t = c
      · subst z; simp
      · simp [z]
    rw [e]; exact q⟩
/-- e.tag in (c, ..) -/
theorem pt_tagIn {es : List Expr} {cs : List Str} {k : Nat} (h : Hd X i x a oe cls d) (he : Strs es cs) (hc : cs.all PyData.strOk = true) (hl : cs.length ≤ sizeLine) :
    PT X (.Compare (.Attribute (.Name x p) "tag" q) [.In] [.Tuple es k p2] p3) (fun σ H Q => Bs X.K i a cls d C dd gs σ H ∧ Tg X.K C gs t ∧ ∀ H', Ex1 H H' → Q (decide (t ∈ cs)) H') :=
  pt_mono (pt_cmpR (op_inT (by have := h.u; omega)) (pe_attrH h) (pe_tup (pa_strs he)) rfl) fun σ H Q ⟨b, tg, q⟩ => ⟨b, .str t, tg.1, by rw [List.length_map]; exact hl, fun p hp =>
    ⟨.str t, cs.map PyData.str, .str _, .tup (SqT.of upd_same) (strs_dp cs), str_shaped tg.2, (strs_shaped hc).1, _, rfl, by
      show Q (_ : Bool) _
      simp only [Bool.false_eq_true, if_false]
      rw [strs_any]; exact q _ (Ex1.upd hp)⟩⟩
/-- e.tag in l, l a local list -/
theorem pt_tagInL {cs : List Str} {j : Nat} {y : Str} (h : Hd X i x a oe cls d) (hN : X.N[j]? = some y) (hv : Vis X.env.scope y) (y1 : (y == ("__debug__" : Str)) = false) (y2 : (y == ("__classdict__" : Str)) = false) (hc : cs.all PyData.strOk = true) :
    PT X (.Compare (.Attribute (.Name x p) "tag" q) [.In] [.Name y p2] p3) (fun σ H Q => Bs X.K i a cls d C dd gs σ H ∧ Tg X.K C gs t ∧ (∃ b, σ[j]? = some (some (.ref b)) ∧ H b = some (.lst (cs.map V.str))) ∧ Q (decide (t ∈ cs)) H) :=
  pt_mono (pt_cmpR (op_inD (by have := h.u; omega)) (pe_attrH h) (pe_var hN hv y1 y2) rfl) fun σ H Q ⟨b, tg, ⟨b1, s1, h1⟩, q⟩ => ⟨b, .str t, tg.1, .ref b1, s1,
    .str t, cs.map PyData.str, .str _, .lst (SqL.of h1) (strs_dp cs), str_shaped tg.2, (strs_shaped hc).2, _, rfl, by rw [strs_any]; exact q⟩
/-- e.n, .. -/
abbrev Ats (x : Str) : List Expr → List Str → Prop := Paired fun e n => ∃ p q, e = .Attribute (.Name x p) n q
abbrev Fls (K : Frag) (C : Addr) (gs : List (Str × V)) : List Str → List V → Prop := Paired (Fl K C gs)
theorem pa_ats (h : Hd X i x a oe cls d) : ∀ {es : List Expr} {ns : List Str}, Ats x es ns → PA X es (fun σ H Q => Bs X.K i a cls d C dd gs σ H ∧ ∃ vs, Fls X.K C gs ns vs ∧ Q vs H)
  | _, _, .nil => pa_mono pa_nil fun σ H Q ⟨b, vs, f, q⟩ => by cases f; exact q
  | _, _, .cons ⟨p, q, e⟩ t => by
    subst e
    exact pa_mono (pa_cons (pe_attrH h) (pa_ats h t)) fun σ H Q ⟨b, vs, f, q⟩ => by
      cases f with
      | cons f1 f2 => exact ⟨b, _, f1, b, _, f2, q⟩
/-- (e.n, ..) -/
theorem pe_atsT {es : List Expr} {ns : List Str} {k : Nat} (h : Hd X i x a oe cls d) (he : Ats x es ns) (hl : ns.length ≤ sizeLine) : PE X (.Tuple es k pos) (fun σ H Q => Bs X.K i a cls d C dd gs σ H ∧ ∃ vs, Fls X.K C gs ns vs ∧ ∀ H' p, Ex1 H H' → H' p = some (.tup vs) → Q (.ref p) H') :=
  pe_mono (pe_tup (pa_ats h he)) fun σ H Q ⟨b, vs, f, q⟩ => ⟨b, vs, f, by rw [← f.length]; exact hl, fun p hp => q _ p (Ex1.upd hp) upd_same⟩
end
end
end Lt

end
section
set_option Elab.async false
set_option linter.all false
set_option maxRecDepth 100000
set_option maxHeartbeats 4000000
namespace Lt
noncomputable section
open PySem PySem.Spec PyProof.Rows L2 PySem.W L2H
abbrev six : List Str := ["InvalidHouse", "InvalidAnswer", "InvalidCommand", "InvalidPage", "NotLet", "OverLimit"]
abbrev mosts : List Str := ["TooMany", "TooDear", "TooWide", "Full"]
abbrev nams : List Str := ["InvalidName", "UnknownName"]
abbrev bares : List Str := ["InvalidPaper", "InvalidText", "SizesDiffer", "NoLetters", "NotPossible", "NothingLeft"]
/-- the attributes that are told, by the tag -/
def fieldsOf (t : Str) : List Str :=
  if t ∈ six then
    if t = "InvalidHouse" then ["state"] else
    if t = "InvalidAnswer" then ["hand", "beat"] else
    if t = "InvalidCommand" then ["word"] else
    if t = "InvalidPage" then ["line"] else
    if t = "NotLet" then ["beat"] else ["cost"]
  else if t ∈ mosts then ["most"] else if t ∈ nams then ["name"] else if t ∈ bares then [] else ["given"]
section
variable {X : Cx} {i : Nat} {x : Str} {a : Addr} {oe : Obj} {cls : Value} {d : Option Addr} {C dd : Addr} {gs : List (Str × V)} {p q p1 p2 p3 p4 p5 p6 pos : Pos} {n t c : Str} {K : Frag} {σ : L2.St} {H H' : Hp} {es vs : List Expr} {cs ns : List Str} {k k2 : Nat} {D : Ends}
/-- a tuple of these attributes is returned -/
def Rt (K : Frag) (C : Addr) (gs : List (Str × V)) (ns : List Str) (Q : VK) (H : Hp) : Prop := ∃ vs, Fls K C gs ns vs ∧ ∀ H' p, Ex1 H H' → H' p = some (.tup vs) → Q (.ref p) H'
theorem Rt.ext {Q : VK} (h : Rt K C gs ns Q H) (e : Ex1 H H') : Rt K C gs ns Q H' := by
  obtain ⟨vs, f, q⟩ := h
  exact ⟨vs, f, fun H2 p e2 => q H2 p fun b o z => e2 _ _ (e _ _ z)⟩
theorem st_eqRet (h : Hd X i x a oe cls d) (hc : PyData.strOk c = true) (he : Ats x es ns) (hl : ns.length ≤ sizeLine) :
    PS X (.If (.Compare (.Attribute (.Name x p) "tag" q) [.Eq] [.Constant (.str c) k p2] p3) [.Return (some (.Tuple es k2 p4)) p5] [] p6)
      (fun D σ H => Bs X.K i a cls d C dd gs σ H ∧ Tg X.K C gs t ∧ if t = c then Rt X.K C gs ns D.rt H else D.nx σ H) :=
  ps_mono (ps_if (pt_tagEq h hc) (pss_one (ps_ret (pe_atsT h he hl))) pss_nil) fun D σ H ⟨b, tg, q⟩ => by
    refine ⟨b, tg, ?_⟩
    by_cases z : t = c
    · rw [if_pos z] at q
      rw [if_pos (decide_eq_true z)]
      exact ⟨b, q⟩
    · rw [if_neg z] at q
      rw [if_neg (by simpa using z)]
      exact q
theorem st_inRet (h : Hd X i x a oe cls d) (hv : Strs vs cs) (hc : cs.all PyData.strOk = true) (hl' : cs.length ≤ sizeLine) (he : Ats x es ns) (hl : ns.length ≤ sizeLine) :
    PS X (.If (.Compare (.Attribute (.Name x p) "tag" q) [.In] [.Tuple vs k p2] p3) [.Return (some (.Tuple es k2 p4)) p5] [] p6)
      (fun D σ H => Bs X.K i a cls d C dd gs σ H ∧ Tg X.K C gs t ∧ if t ∈ cs then Rt X.K C gs ns D.rt H else ∀ H', Ex1 H H' → D.nx σ H') :=
  ps_mono (ps_if (pt_tagIn h hv hc hl') (pss_one (ps_ret (pe_atsT h he hl))) pss_nil) fun D σ H ⟨b, tg, q⟩ => by
    refine ⟨b, tg, fun H1 e1 => ?_⟩
    by_cases z : t ∈ cs
    · rw [if_pos z] at q
      rw [if_pos (decide_eq_true z)]
      exact ⟨b.ext e1, q.ext e1⟩
    · rw [if_neg z] at q
      rw [if_neg (by simpa using z)]
      exact q H1 e1
theorem ex1_refl : Ex1 H H := fun _ _ h => h
theorem sz8 {n : Nat} (h : n ≤ 1000) : n ≤ sizeLine := by rw [sizeLine_eq]; omega
theorem fields_inner (h : Hd X i x a oe cls d) {q1 q2 q3 q4 q5 q6 q7 q8 q9 q10 q11 q12 q13 q14 q15 q16 q17 q18 q19 q20 q21 q22 q23 q24 q25 q26 q27 q28 q29 q30 q31 q32 q33 q34 q35 q36 q37 q38 q39 q40 q41 q42 q43 q44 q45 q46 q47 q48 q49 q50 : Pos} :
    PSs X [.If (.Compare (.Attribute (.Name x q1) "tag" q2) [.Eq] [.Constant (.str "InvalidHouse") 0 q3] q4) [.Return (some (.Tuple [.Attribute (.Name x q5) "state" q6] 0 q7)) q8] [] q9,
      .If (.Compare (.Attribute (.Name x q10) "tag" q11) [.Eq] [.Constant (.str "InvalidAnswer") 0 q12] q13) [.Return (some (.Tuple [.Attribute (.Name x q14) "hand" q15, .Attribute (.Name x q16) "beat" q17] 0 q18)) q19] [] q20,
      .If (.Compare (.Attribute (.Name x q21) "tag" q22) [.Eq] [.Constant (.str "InvalidCommand") 0 q23] q24) [.Return (some (.Tuple [.Attribute (.Name x q25) "word" q26] 0 q27)) q28] [] q29,
      .If (.Compare (.Attribute (.Name x q30) "tag" q31) [.Eq] [.Constant (.str "InvalidPage") 0 q32] q33) [.Return (some (.Tuple [.Attribute (.Name x q34) "line" q35] 0 q36)) q37] [] q38,
      .Return (some (.IfExp (.Compare (.Attribute (.Name x q39) "tag" q40) [.Eq] [.Constant (.str "NotLet") 0 q41] q42) (.Tuple [.Attribute (.Name x q43) "beat" q44] 0 q45) (.Tuple [.Attribute (.Name x q46) "cost" q47] 0 q48) q49)) q50]
      (fun D σ H => Bs X.K i a cls d C dd gs σ H ∧ Tg X.K C gs t ∧ t ∈ six ∧ Rt X.K C gs (fieldsOf t) D.rt H) := by
  refine pss_mono (pss_cons (st_eqRet (C := C) (dd := dd) (gs := gs) (t := t) h (by decide +kernel) (.cons ⟨_, _, rfl⟩ .nil) (sz8 (by decide))) (pss_cons (st_eqRet (C := C) (dd := dd) (gs := gs) (t := t) h (by decide +kernel) (.cons ⟨_, _, rfl⟩ (.cons ⟨_, _, rfl⟩ .nil)) (sz8 (by decide)))
    (pss_cons (st_eqRet (C := C) (dd := dd) (gs := gs) (t := t) h (by decide +kernel) (.cons ⟨_, _, rfl⟩ .nil) (sz8 (by decide))) (pss_cons (st_eqRet (C := C) (dd := dd) (gs := gs) (t := t) h (by decide +kernel) (.cons ⟨_, _, rfl⟩ .nil) (sz8 (by decide)))
    (pss_one (ps_ret (pe_ifExp (pt_tagEq (C := C) (dd := dd) (gs := gs) (t := t) h (by decide +kernel)) (pe_atsT (C := C) (dd := dd) (gs := gs) h (.cons ⟨_, _, rfl⟩ .nil) (sz8 (by decide))) (pe_atsT (C := C) (dd := dd) (gs := gs) h (.cons ⟨_, _, rfl⟩ .nil) (sz8 (by decide)))))))))) fun D σ H ⟨b, tg, s6, r⟩ => ?_
  unfold fieldsOf at r
  rw [if_pos s6] at r
  refine ⟨b, tg, ?_⟩
  split
  · rename_i z; rw [if_pos z] at r; exact r
  · rename_i z; rw [if_neg z] at r
    refine ⟨b, tg, ?_⟩
    split
    · rename_i z; rw [if_pos z] at r; exact r
    · rename_i z; rw [if_neg z] at r
      refine ⟨b, tg, ?_⟩
      split
      · rename_i z; rw [if_pos z] at r; exact r
      · rename_i z; rw [if_neg z] at r
        refine ⟨b, tg, ?_⟩
        split
        · rename_i z; rw [if_pos z] at r; exact r
        · rename_i z; rw [if_neg z] at r
          refine ⟨b, tg, ?_⟩
          by_cases z : t = "NotLet"
          · rw [if_pos z] at r; rw [if_pos (decide_eq_true z)]; exact ⟨b, r⟩
          · rw [if_neg z] at r; rw [if_neg (by simpa using z)]; exact ⟨b, r⟩
end
section
variable {X : Cx} {a : Addr} {oe : Obj} {cls : Value} {d : Option Addr} {C dd : Addr} {gs : List (Str × V)} {t : Str}
theorem fields_walk {p1 p2 p3 p4 p5 p6 p7 p8 p9 p10 p11 p12 p13 p14 p15 p16 p17 p18 p19 p20 p21 p22 p23 p24 p25 p26 p27 p28 p29 p30 p31 p32 p33 p34 p35 p36 p37 p38 p39 p40 p41 p42 p43 p44 p45 p46 p47 p48 p49 p50 p51 p52 p53 p54 p55 p56 p57 p58 p59 p60 p61 p62 p63 p64 p65 p66 p67 p68 p69 p70 p71 p72 p73 p74 p75 p76 p77 p78 p79 p80 p81 p82 p83 p84 p85 p86 p87 p88 p89 p90 p91 p92 p93 p94 p95 p96 p97 p98 p99 p100 p101 p102 p103 p104 : Pos} (h : Hd X 0 "_law_e" a oe cls d) (nd : X.N.Nodup) (hi : X.N[1]? = some ("_law_bare" : Str)) (hloc : X.env.scope.names.lookup ("_law_bare" : Str) = some .local) :
    PSs X (fieldsB p1 p2 p3 p4 p5 p6 p7 p8 p9 p10 p11 p12 p13 p14 p15 p16 p17 p18 p19 p20 p21 p22 p23 p24 p25 p26 p27 p28 p29 p30 p31 p32 p33 p34 p35 p36 p37 p38 p39 p40 p41 p42 p43 p44 p45 p46 p47 p48 p49 p50 p51 p52 p53 p54 p55 p56 p57 p58 p59 p60 p61 p62 p63 p64 p65 p66 p67 p68 p69 p70 p71 p72 p73 p74 p75 p76 p77 p78 p79 p80 p81 p82 p83 p84 p85 p86 p87 p88 p89 p90 p91 p92 p93 p94 p95 p96 p97 p98 p99 p100 p101 p102 p103 p104) (fun D σ H => σ.length = 2 ∧ Bs X.K 0 a cls d C dd gs σ H ∧ Tg X.K C gs t ∧ Rt X.K C gs (fieldsOf t) D.rt H) := by
  have s1 : Strs [.Constant (.str "InvalidHouse") 0 p3, .Constant (.str "InvalidAnswer") 0 p4, .Constant (.str "InvalidCommand") 0 p5, .Constant (.str "InvalidPage") 0 p6, .Constant (.str "NotLet") 0 p7, .Constant (.str "OverLimit") 0 p8] six := .cons ⟨_, _, rfl⟩ (.cons ⟨_, _, rfl⟩ (.cons ⟨_, _, rfl⟩ (.cons ⟨_, _, rfl⟩ (.cons ⟨_, _, rfl⟩ (.cons ⟨_, _, rfl⟩ .nil)))))
  have s2 : Strs [.Constant (.str "TooMany") 0 p64, .Constant (.str "TooDear") 0 p65, .Constant (.str "TooWide") 0 p66, .Constant (.str "Full") 0 p67] mosts := .cons ⟨_, _, rfl⟩ (.cons ⟨_, _, rfl⟩ (.cons ⟨_, _, rfl⟩ (.cons ⟨_, _, rfl⟩ .nil)))
  have s3 : Strs [.Constant (.str "InvalidName") 0 p77, .Constant (.str "UnknownName") 0 p78] nams := .cons ⟨_, _, rfl⟩ (.cons ⟨_, _, rfl⟩ .nil)
  have s4 : Strs [.Constant (.str "InvalidPaper") 0 p87, .Constant (.str "InvalidText") 0 p88, .Constant (.str "SizesDiffer") 0 p89, .Constant (.str "NoLetters") 0 p90, .Constant (.str "NotPossible") 0 p91, .Constant (.str "NothingLeft") 0 p92] bares := .cons ⟨_, _, rfl⟩ (.cons ⟨_, _, rfl⟩ (.cons ⟨_, _, rfl⟩ (.cons ⟨_, _, rfl⟩ (.cons ⟨_, _, rfl⟩ (.cons ⟨_, _, rfl⟩ .nil)))))
  refine pss_mono (pss_cons (ps_if (pt_tagIn (C := C) (dd := dd) (gs := gs) (t := t) h s1 (by decide +kernel) (sz8 (by decide))) (fields_inner (C := C) (dd := dd) (gs := gs) (t := t) h) pss_nil)
    (pss_cons (st_inRet (C := C) (dd := dd) (gs := gs) (t := t) h s2 (by decide +kernel) (sz8 (by decide)) (.cons ⟨_, _, rfl⟩ .nil) (sz8 (by decide)))
    (pss_cons (st_inRet (C := C) (dd := dd) (gs := gs) (t := t) h s3 (by decide +kernel) (sz8 (by decide)) (.cons ⟨_, _, rfl⟩ .nil) (sz8 (by decide)))
    (pss_cons (ps_set nd hi (.inl hloc) (pe_lst (pa_strs s4)) rfl (.inr hloc))
    (pss_one (ps_ret (pe_ifExp (pt_tagInL (C := C) (dd := dd) (gs := gs) (t := t) (cs := bares) h hi (.inl hloc) (by decide) (by decide) (by decide +kernel)) (pe_atsT (C := C) (dd := dd) (gs := gs) h .nil (sz8 (by decide))) (pe_atsT (C := C) (dd := dd) (gs := gs) h (.cons ⟨_, _, rfl⟩ .nil) (sz8 (by decide)))))))))) fun D σ H ⟨hl, b, tg, r⟩ => ?_
  unfold fieldsOf at r
  refine ⟨b, tg, fun H1 e1 => ?_⟩
  have r1 := r.ext e1
  by_cases z1 : t ∈ six
  · dsimp only
    rw [if_pos (decide_eq_true z1)]
    refine ⟨b.ext e1, tg, z1, ?_⟩
    exact r1
  rw [if_neg z1] at r1
  dsimp only
  rw [if_neg (by simpa using z1)]
  refine ⟨b.ext e1, tg, ?_⟩
  split
  · rename_i z2; rw [if_pos z2] at r1; exact r1
  rename_i z2; rw [if_neg z2] at r1
  intro H2 e2
  have r2 := r1.ext e2
  refine ⟨(b.ext e1).ext e2, tg, ?_⟩
  split
  · rename_i z3; rw [if_pos z3] at r2; exact r2
  rename_i z3; rw [if_neg z3] at r2
  intro H3 e3
  have r3 := r2.ext e3
  refine ⟨by rw [List.length_map]; exact sz8 (by decide), fun p hp => ?_⟩
  have e4 : Ex1 H3 (upd H3 p (.lst (bares.map V.str))) := Ex1.upd hp
  have r4 := r3.ext e4
  have b4 := (((b.ext e1).ext e2).ext e3).ext e4
  have b5 : Bs X.K 0 a cls d C dd gs (σ.set 1 (some (.ref p))) (upd H3 p (.lst (bares.map V.str))) := ⟨b4.c, b4.x, b4.d, by rw [List.getElem?_set_ne (by decide)]; exact b4.s, b4.h⟩
  refine ⟨b5, tg, ⟨p, List.getElem?_set_self (by omega), upd_same⟩, ?_⟩
  by_cases z4 : t ∈ bares
  · dsimp only
    rw [if_pos z4] at r4
    rw [if_pos (decide_eq_true z4)]
    exact ⟨b5, r4⟩
  · dsimp only
    rw [if_neg z4] at r4
    rw [if_neg (by simpa using z4)]
    exact ⟨b5, r4⟩
end
/-- what _law_fields promises -/
def spFields (K : Frag) : SpP := fun p vs H Q => vs = [.ref p.1] ∧ ∃ (cls : Value) (d : Option Addr) (C dd : Addr) (gs : List (Str × V)) (t : Str), Zc cls d p.2 ∧ (∃ vs, p.2.data = .fields vs) ∧ cls = .ref C ∧ XfC K C ∧ d = some dd ∧ H dd = some (.xd gs) ∧ Tg K C gs t ∧ Rt K C gs (fieldsOf t) Q H
abbrev nF : List Str := ["_law_e", "_law_bare"]
theorem fields_fn {P : Program} {w : World} {K : Frag} {mg : Str → Option Value} {base : Heap} {k : Nat} {f : Addr} {fd : FuncData} {scope : Scope} {kws : List (Str × V)} {params : Arguments} {p1 p2 p3 p4 p5 p6 p7 p8 p9 p10 p11 p12 p13 p14 p15 p16 p17 p18 p19 p20 p21 p22 p23 p24 p25 p26 p27 p28 p29 p30 p31 p32 p33 p34 p35 p36 p37 p38 p39 p40 p41 p42 p43 p44 p45 p46 p47 p48 p49 p50 p51 p52 p53 p54 p55 p56 p57 p58 p59 p60 p61 p62 p63 p64 p65 p66 p67 p68 p69 p70 p71 p72 p73 p74 p75 p76 p77 p78 p79 p80 p81 p82 p83 p84 p85 p86 p87 p88 p89 p90 p91 p92 p93 p94 p95 p96 p97 p98 p99 p100 p101 p102 p103 p104 : Pos}
    (F : FunD K "_law_fields" "_law_fields" params (fieldsB p1 p2 p3 p4 p5 p6 p7 p8 p9 p10 p11 p12 p13 p14 p15 p16 p17 p18 p19 p20 p21 p22 p23 p24 p25 p26 p27 p28 p29 p30 p31 p32 p33 p34 p35 p36 p37 p38 p39 p40 p41 p42 p43 p44 p45 p46 p47 p48 p49 p50 p51 p52 p53 p54 p55 p56 p57 p58 p59 p60 p61 p62 p63 p64 p65 p66 p67 p68 p69 p70 p71 p72 p73 p74 p75 p76 p77 p78 p79 p80 p81 p82 p83 p84 p85 p86 p87 p88 p89 p90 p91 p92 p93 p94 p95 p96 p97 p98 p99 p100 p101 p102 p103 p104) scope [] kws f fd) (S : FnScope nF ["_law_e"] scope) (hv : scope.names.lookup ("_law_e" : Str) = some .local) (hb : scope.names.lookup ("_law_bare" : Str) = some .local) :
    FnP P w K mg base (k + 1) f fd ["_law_e"] (spFields K) := by
  obtain ⟨oc, od, dV, kV, doc, pm, an, cdv, ct, osl, rfl, lk, hcd, _, _⟩ := F.ex
  refine fnP_of lk hcd S (fun p vs H Q h => by rw [h.1]; rfl) fun A outer s H vs Q p hr hsp => ?_
  obtain ⟨e, cls, d, C, dd, gs, t, hz, hf, hc, hx, hd, hh, tg, rt⟩ := hsp
  subst e
  have hH : Hd (cxH C8.CX0 P w K mg base nF "_law_fields" scope f cdv A outer s H C8.E0 p) 0 "_law_e" p.1 p.2 cls d := ⟨rfl, .inl hv, hz, hf, List.mem_cons_self, by have := hr.un; show (A.deeper _).units + 100 < cLine; omega, by decide, by decide⟩
  refine ⟨_, fields_walk (C := C) (dd := dd) (gs := gs) (t := t) hH S.nd rfl hb, rfl, ⟨hc, hx, hd, rfl, hh⟩, tg, rt⟩
end
end Lt

end
section
set_option Elab.async false
set_option linter.all false
set_option maxRecDepth 100000
set_option maxHeartbeats 4000000
/-! Lt: _law_try(lambda: ..), at the level of the hand layer. -/
namespace Lt
noncomputable section
open PySem PySem.Spec PyProof.Rows L2 PySem.W L2H LamX
/-- _law_try: what it makes of the lambda's reading -/
def TTry (K : Frag) (cs : List Value) : (XK → Hp → VK → Prop) → Hp → VK → Prop := fun tl H Q =>
  tl (fun cls d H' => ∃ (C dd : Addr) (gs : List (Str × V)) (t : Str) (ws : List V), cls = .ref C ∧ XfC K C ∧ d = some dd ∧ exmAny K cls cs = some true ∧ H' dd = some (.xd gs) ∧ Tg K C gs t ∧ Fls K C gs (fieldsOf t) ws ∧
      ∀ H'' q, Ex1 H' H'' → H'' q = some (.tup (.str "no" :: .str t :: ws)) → Q (.ref q) H'')
    H (fun v H' => [V.str "told", v].length ≤ sizeLine ∧ ∀ q, H' q = none → Q (.ref q) (upd H' q (.tup [.str "told", v])))
theorem fieldsOf_len (t : Str) : (fieldsOf t).length ≤ 2 := by
  unfold fieldsOf
  repeat' split
  all_goals decide
abbrev nT : List Str := ["_law_ask", "_law_e"]
section
variable {X : Cx} {k : Nat} {g f : Addr} {cdg : Value} {fd : FuncData} {sg : Scope} {q : Str} {c1 c2 c3 : Value} {p1 p2 p3 p4 p5 p6 p7 p8 p9 p10 p11 p12 p13 p14 p15 p16 p17 p18 p19 p20 : Pos}
theorem try_gives (F : FnP X.prog X.w X.K X.mg X.base k f fd ["_law_e"] (spFields X.K)) (hb : Binds X.K fd ["_law_e"] []) (hr : Room (k + 1) X.A) (S : FnScope nT ["_law_ask"] sg) (he : sg.names.lookup ("_law_e" : Str) = some .local)
    (g1 : sg.names.lookup ("TollError" : Str) = some .globalImplicit) (m1 : X.mg "TollError" = some c1) (g2 : sg.names.lookup ("Missing" : Str) = some .globalImplicit) (m2 : X.mg "Missing" = some c2)
    (g3 : sg.names.lookup ("NothingLeft" : Str) = some .globalImplicit) (m3 : X.mg "NothingLeft" = some c3) (gf : sg.names.lookup ("_law_fields" : Str) = some .globalImplicit) (mf : X.mg "_law_fields" = some (.ref f)) (kf : keepIn X.K (.ref f) = true) :
    GivesTo X nT "_law_try" sg g cdg (tryB p1 p2 p3 p4 p5 p6 p7 p8 p9 p10 p11 p12 p13 p14 p15 p16 p17 p18 p19 p20) "_law_ask" q (TTry X.K [c1, c2, c3]) := by
  intro f' c' s H Q tl act hc h
  have hru := hr.un
  refine ⟨_, pss_one (ps_try_tup (X := (cxOf C8.CX0 X.prog X.w X.K X.mg X.base nT "_law_try" sg g cdg X.A X.stack s H C8.E0).nox) (i := 1) (c1 := c1) (c2 := c2) (c3 := c3)
      (tb := fun W D σ H => ∃ Ech : XK, (∀ cls d σ' H', Ech cls d H' → W cls d σ' H') ∧ σ[0]? = some (some (.ref f')) ∧ H c' = some (CodeO c' q) ∧ tl Ech H (fun v H' => [V.str "told", v].length ≤ sizeLine ∧ ∀ q, H' q = none → D.rt (.ref q) (upd H' q (.tup [.str "told", v]))))
      (ts := fun a cls d D σ H => ∃ (C dd : Addr) (gs : List (Str × V)) (t : Str) (ws : List V), Bs X.K 1 a cls d C dd gs σ H ∧ Tg X.K C gs t ∧ Fls X.K C gs (fieldsOf t) ws ∧ ∀ H'' q, Ex1 H H'' → H'' q = some (.tup (.str "no" :: .str t :: ws)) → D.rt (.ref q) H'')
      rfl rfl S.nd rfl he ⟨g1, by decide, .inl m1⟩ ⟨g2, by decide, .inl m2⟩ ⟨g3, by decide, .inl m3⟩ LamX.takes0 (fun W pn xe tk _ => ?_) (fun a oe cls d pn hz hf => ?_)), ?_⟩
  · refine ⟨fun pins s' σ H' D I h' => ?_⟩
    obtain ⟨Ech, hW, h1, h2, h3⟩ := h'
    have hp := act W pn xe Ech p2 p3 tk hW
    have hq := pss_one (ps_ret (pos := p5) (pe_tup (x1 := 0) (pos := p4) (pa_cons (pe_str (j := 0) (x := "told") (pos := p1)) (pa_cons hp pa_nil))))
    exact hq.run pins s' σ H' D I ⟨h1, h2, h3⟩
  · have hH : Hd ((cxOf C8.CX0 X.prog X.w X.K X.mg X.base nT "_law_try" sg g cdg X.A X.stack s H C8.E0).nox.suite a ((a, oe) :: pn)) 1 "_law_e" a oe cls d :=
      ⟨rfl, .inl he, hz, hf, List.mem_cons_self, by show X.A.units + 3 + 100 < cLine; omega, by decide, by decide⟩
    have hR : RoomH k ((cxOf C8.CX0 X.prog X.w X.K X.mg X.base nT "_law_try" sg g cdg X.A X.stack s H C8.E0).nox.suite a ((a, oe) :: pn)).A := ⟨by have := hr.dp; show X.A.depth + 1 + 3 * k + 5 < recursionLimit; omega, by show X.A.units + 3 + 16 * k + 200 < cLine; omega⟩
    refine ⟨fun pins s' σ H' D I h' => ?_⟩
    obtain ⟨C, dd, gs, t, ws, b, tg, fl, h3⟩ := h'
    have hq := pss_one (ps_ret (pos := p18) (pe_op (pos := p17) op_catA (pe_tup (x1 := 0) (pos := p13) (pa_cons (pe_str (j := 0) (x := "no") (pos := p10)) (pa_cons (pe_attrH (p := p11) (q := p12) (n := "tag") (C := C) (dd := dd) (gs := gs) hH) pa_nil)))
      (pe_callP (x := "_law_fields") (q := p14) (pos := p16) (p := (a, oe)) (sp := spFields X.K) F hR List.mem_cons_self gf mf kf hb (pa_cons (pe_var (pos := p15) (i := 1) rfl (.inl he)) pa_nil) (by decide) rfl rfl)))
    refine hq.run pins s' σ H' D I ⟨b, .str t, tg.1, sz8 (show 2 ≤ 1000 by decide), fun p hp => ?_⟩
    have e1 : Ex1 H' (upd H' p (.tup [.str "no", .str t])) := Ex1.upd hp
    have b1 := b.ext e1
    refine ⟨.ref a, b.s, rfl, cls, d, C, dd, gs, t, hz, hf, b1.c, b1.x, b1.d, b1.h, tg, ws, fl, fun H2 p2 e2 h2 => ?_⟩
    have hl : ws.length ≤ 2 := by rw [← fl.length]; exact fieldsOf_len t
    refine ⟨p, p2, _, ws, rfl, rfl, SqT.of (e2 _ _ upd_same), SqT.of h2, sz8 (by simp; omega), fun z => absurd z (by simp), fun _ z => ?_, fun _ _ p3 n3 => ?_⟩
    · subst z
      exact h3 H2 p (fun b o e => e2 _ _ (e1 _ _ e)) (e2 _ _ upd_same)
    · exact h3 _ p3 (fun b o e => Ex1.upd n3 _ _ (e2 _ _ (e1 _ _ e))) upd_same
  · refine ⟨_, fun cls d σ' H' ⟨C, dd, gs, t, ws, hC, hx, hd, hex, hh, tg, fl, h3⟩ => ⟨true, hex, fun _ a na hl => ?_, fun z => by cases z⟩, rfl, hc, h⟩
    refine ⟨C, dd, gs, t, ws, ⟨hC, hx, hd, ?_, hh⟩, tg, fl, h3⟩
    exact List.getElem?_set_self (by rw [hl]; exact (by decide : 1 < nT.length))
end
end
end Lt

end
section
set_option Elab.async false
set_option linter.all false
set_option maxRecDepth 100000
set_option maxHeartbeats 4000000
/-! Lt: _law_try(lambda: ..), its semantics, sound. -/
namespace Lt
noncomputable section
open PySem PySem.Spec PyProof.Rows L2 PySem.W L2H LamX
def kFd (ats : List Str) (fs : List (Nat × D)) (n : Str) : Option D := match kIx ats n with
  | some i => fs.lookup i
  | none => none
/-- what is told of an exception: its tag, its attributes -/
def excL (ats : List Str) (fs : List (Nat × D)) : Option (List D) := match kFd ats fs "tag" with
  | some (.str t) => (match PyData.strOk t, optMap (kFd ats fs) (fieldsOf t) with
    | true, some ds => some (.str t :: ds)
    | _, _ => none)
  | _ => none
def tryR (cs : List Nat) (ats : List Str) : R D → R D
  | .ok d S => .ok (.tup [.str "told", d]) S
  | .exc c fs S => (match cs.any (Nat.beq c), excL ats fs with
    | true, some ds => .ok (.tup (.str "no" :: ds)) S
    | _, _ => .no)
  | .no => .no
def eTry (cs : List Nat) (ats : List Str) (f : EE) : EE := fun η S => tryR cs ats (f η S)
abbrev nAts : List Str := ["tag", "state", "hand", "beat", "word", "line", "cost", "most", "name", "given"]
theorem fieldsOf_ats (t : Str) : ∀ n ∈ fieldsOf t, n ∈ nAts := by
  unfold fieldsOf
  repeat' split
  all_goals decide
/-- a class of exceptions that _law_try tells -/
def TcOk (G : GC) (cs : List Value) (c : Nat) : Prop := ∃ x C, G.gt[c]? = some x ∧ G.mg x = some (.ref C) ∧ XfC G.K C ∧ exmAny G.K (.ref C) cs = some true ∧ ∀ n ∈ nAts, findIn G.K (.ref C) n = some none
structure TryF (G : GC) (cs : List Nat) (g f : Addr) (fdf fdg : FuncData) (c1 c2 c3 : Value) (sg : Scope) (params : Arguments) (kws : List (Str × V)) : Prop where
  F : FnP G.P G.w G.K G.mg G.base 1 f fdf ["_law_e"] (spFields G.K)
  bf : Binds G.K fdf ["_law_e"] []
  D : ∃ p1 p2 p3 p4 p5 p6 p7 p8 p9 p10 p11 p12 p13 p14 p15 p16 p17 p18 p19 p20 : Pos, FunD G.K "_law_try" "_law_try" params (tryB p1 p2 p3 p4 p5 p6 p7 p8 p9 p10 p11 p12 p13 p14 p15 p16 p17 p18 p19 p20) sg [] kws g fdg
  bg : Binds G.K fdg ["_law_ask"] []
  S : FnScope nT ["_law_ask"] sg
  va : sg.names.lookup ("_law_ask" : Str) = some .local
  ve : sg.names.lookup ("_law_e" : Str) = some .local
  g1 : sg.names.lookup ("TollError" : Str) = some .globalImplicit
  g2 : sg.names.lookup ("Missing" : Str) = some .globalImplicit
  g3 : sg.names.lookup ("NothingLeft" : Str) = some .globalImplicit
  gf : sg.names.lookup ("_law_fields" : Str) = some .globalImplicit
  m1 : G.mg "TollError" = some c1
  m2 : G.mg "Missing" = some c2
  m3 : G.mg "NothingLeft" = some c3
  mf : G.mg "_law_fields" = some (.ref f)
  mt : G.mg "_law_try" = some (.ref g)
  kf : keepIn G.K (.ref f) = true
  kg : keepIn G.K (.ref g) = true
  cs : ∀ c ∈ cs, TcOk G [c1, c2, c3] c
def TryOk (G : GC) (cs : List Nat) : Prop := ∃ g f fdf fdg c1 c2 c3 sg params kws, TryF G cs g f fdf fdg c1 c2 c3 sg params kws
/-- the def whose lambda it is: its code object, its table -/
structure LamOk (G : GC) (X : Cx) : Prop where
  ex : ∃ c P : Addr, X.env.code = .ref c ∧ TabB G.base G.mg c P ∧ (P, X.env.qual ++ "<lambda>") ∈ G.tabs ∧ ∀ p ∈ G.tabs, p.1 = P → p.2 = X.env.qual ++ "<lambda>"
section
variable {G : GC} {X : Cx} {W : TW} {k : Nat} {cs : List Nat} {ρ : List Addr} {H H1 : Hp} {S : Sto}
theorem Rel.extN (r : Rel G ρ H S) (e : ExtN H H1) (t : Tabs G.tabs H1) : Rel G ρ H1 S ∧ Grow G ρ H ρ H1 := by
  have g : Grow G ρ H ρ H1 := ⟨⟨⟨[], (List.append_nil _).symm⟩, fun a xs q => by
    rcases q with (q | ⟨o, q⟩) | q
    · exact .inl (.inl (e _ _ q (fun ps z => by cases z)))
    · exact .inl (.inr ⟨o, e _ _ q (fun ps z => by cases z)⟩)
    · exact .inr q⟩, fun a o _ z n => e a o z n, fun _ h => .inl h⟩
  refine ⟨⟨r.len, r.nd, fun n c a h1 h2 => ?_, t⟩, g⟩
  have q := r.cell n c a h1 h2
  obtain ⟨o, z⟩ := q.there
  refine q.mono g ?_
  rw [z]
  exact e a o z fun ps zz => by rw [zz] at z; exact q.notTab.1 ps z
theorem kFd_ok {ats : List Str} {fs : List (Nat × D)} {gs : List (Str × V)} {n : Str} {d : D} (ha : ats = G.ats) (h : Flds G ρ H fs gs) (e : kFd ats fs n = some d) : ∃ v, gs.lookup n = some v ∧ Den G ρ H d v := by
  unfold kFd at e
  cases e1 : kIx ats n with
  | none => rw [e1] at e; cases e
  | some i =>
    rw [e1] at e
    exact flds_some (by rw [← ha]; exact kIx_ok e1) h e
theorem kFds_ok {ats : List Str} {fs : List (Nat × D)} {gs : List (Str × V)} {C : Addr} (ha : ats = G.ats) (h : Flds G ρ H fs gs) : ∀ {ns : List Str} {ds : List D}, (∀ n ∈ ns, findIn G.K (.ref C) n = some none) → optMap (kFd ats fs) ns = some ds →
    ∃ ws, Fls G.K C gs ns ws ∧ Dens G ρ H ds ws
  | [], ds, _, e => by cases e; exact ⟨[], .nil, .nil⟩
  | n :: ns, ds, hn, e => by
    unfold optMap at e
    cases e1 : kFd ats fs n with
    | none => rw [e1] at e; cases e
    | some d =>
      cases e2 : optMap (kFd ats fs) ns with
      | none => rw [e1, e2] at e; cases e
      | some ds' =>
        rw [e1, e2] at e
        cases e
        obtain ⟨v, h1, h2⟩ := kFd_ok ha h e1
        obtain ⟨ws, h3, h4⟩ := kFds_ok ha h (fun m hm => hn m (List.mem_cons_of_mem _ hm)) e2
        exact ⟨v :: ws, .cons ⟨hn n List.mem_cons_self, h1⟩ h3, .cons h2 h4⟩
theorem pe_tryE {ats : List Str} {fb : EE} {body : Expr} {scope : Scope} {p lpos pos : Pos} (o : Ok G X W) (Z : TryOk G cs) (Lm : LamOk G X) (hats : ats = G.ats) (hk : 0 < k) (hr : Room (k + 2) X.A) (hg : Gl X "_law_try") (L : LamS X.env.scope scope)
    (hbody : ∀ (A : Around) (outer : List PySem.Env) (s : Shared) (H : Hp) (E : XK) (f c' : Addr), Room k (A.deeper (lamEnv X scope s.heap.objs.size f c')) → PE (lamCx X A outer s H E scope f c') body (T G (fun cls d _ h => E cls d h) fb)) :
    PE X (.Call (.Name "_law_try" p) [.Lambda ⟨[], [], none, [], [], none, []⟩ body scope lpos] [] pos) (T G W (eTry cs ats fb)) := by
  obtain ⟨g, f, fdf, fdg, c1, c2, c3, sg, params, kws, Z⟩ := Z
  obtain ⟨c, P, hcode, TB, hmT, hu⟩ := Lm.ex
  obtain ⟨p1, p2, p3, p4, p5, p6, p7, p8, p9, p10, p11, p12, p13, p14, p15, p16, p17, p18, p19, p20, FD⟩ := Z.D
  obtain ⟨oc, od, dV, kV, doc, pm, an, cdv, ct, osl, rfl, lk, hcd, _, _⟩ := FD.ex
  have hgv := try_gives (X := X) (k := 1) (f := f) (fd := fdf) (g := g) (cdg := cdv) (q := X.env.qual ++ "<lambda>") (by rw [o.P, o.w, o.K, o.mg, o.base]; exact Z.F) (by rw [o.K]; exact Z.bf) (hr.mono (by omega)) Z.S Z.ve Z.g1 (by rw [o.mg]; exact Z.m1) Z.g2 (by rw [o.mg]; exact Z.m2) Z.g3 (by rw [o.mg]; exact Z.m3) Z.gf (by rw [o.mg]; exact Z.mf) (by rw [o.K]; exact Z.kf)
    (p1 := p1) (p2 := p2) (p3 := p3) (p4 := p4) (p5 := p5) (p6 := p6) (p7 := p7) (p8 := p8) (p9 := p9) (p10 := p10) (p11 := p11) (p12 := p12) (p13 := p13) (p14 := p14) (p15 := p15) (p16 := p16) (p17 := p17) (p18 := p18) (p19 := p19) (p20 := p20)
  refine pe_mono (pe_lamcall (T := G.tabs) (TT := TTry X.K [c1, c2, c3]) (t := fun E => T G (fun cls d _ h => E cls d h) fb) (k := k) (a := "_law_ask") hg (by rw [o.mg]; exact Z.mt) (by rw [o.K]; exact Z.kg) (by rw [o.K]; exact lk) (by rw [o.K]; exact hcd) (by rw [o.K]; exact Z.bg) Z.S rfl (.inl Z.va) hgv (c := c) (P := P) (by rw [o.base, o.mg]; exact TB) hcode hmT hu hr L rfl (fun q cl pm cv ctv => ?_) hbody)
    fun σ H Q ⟨ρ, η, S, r, e, p⟩ => ⟨r.tab, fun H1 eN t1 => ?_⟩
  · simp [bindArgs, seqItems?, List.lookup]
    rfl
  obtain ⟨r1, g1⟩ := r.extN eN t1
  refine ⟨ρ, η, S, r1, e.mono g1, ?_⟩
  have p : PostD G (fun c d h => W c d σ h) ρ H Q (tryR cs ats (fb η S)) := p
  cases eb : fb η S with
  | no => rw [eb] at p; exact p.elim
  | ok d S' =>
    rw [eb] at p
    refine fun ρ' H' v gr rl dn => ⟨sz8 (by decide : 2 ≤ 1000), fun q hq => ?_⟩
    have gu : Grow G ρ' H' ρ' (upd H' q (.tup [.str "told", v])) := grow_upd hq
    exact p ρ' _ _ ((g1.trans gr).trans gu) (rl.upd_fresh hq) (.tup (SqT.of upd_same) (.cons (.str _) (.cons (dn.mono gu) .nil)))
  | exc c0 fs S' =>
    rw [eb] at p
    unfold tryR at p
    dsimp only at p
    cases e1 : cs.any (Nat.beq c0) with
    | false => rw [e1] at p; exact p.elim
    | true =>
      cases e2 : excL ats fs with
      | none => rw [e1, e2] at p; exact p.elim
      | some ds =>
        rw [e1, e2] at p
        refine fun ρ' H' x ca dx gr rl hgt hmg ⟨gs, hxd, hfl⟩ => ?_
        obtain ⟨y, hy, hb⟩ := List.any_eq_true.mp e1
        have ey := Nat.eq_of_beq_eq_true hb
        subst ey
        obtain ⟨x', C, t1, t2, t3, t4, t5⟩ := Z.cs _ hy
        rw [hgt] at t1; cases t1
        rw [hmg] at t2; cases t2
        unfold excL at e2
        cases e3 : kFd ats fs "tag" with
        | none => rw [e3] at e2; cases e2
        | some dt =>
          rw [e3] at e2
          cases dt with
          | str t =>
            dsimp only at e2
            cases e4 : PyData.strOk t with
            | false => rw [e4] at e2; cases e2
            | true =>
              cases e5 : optMap (kFd ats fs) (fieldsOf t) with
              | none => rw [e4, e5] at e2; cases e2
              | some ds' =>
                rw [e4, e5] at e2
                cases e2
                obtain ⟨vt, w1, w2⟩ := kFd_ok hats hfl e3
                cases w2
                obtain ⟨ws, w3, w4⟩ := kFds_ok (C := ca) hats hfl (fun n hn => t5 n (fieldsOf_ats t n hn)) e5
                refine ⟨ca, dx, gs, t, ws, rfl, by rw [o.K]; exact t3, rfl, by rw [o.K]; exact t4, hxd, ⟨⟨by rw [o.K]; exact t5 _ (by decide), w1⟩, e4⟩, by rw [o.K]; exact w3, fun H2 q ex hq => ?_⟩
                have gu : Grow G ρ' H' ρ' H2 := grow_ext ex
                exact p ρ' H2 _ ((g1.trans gr).trans gu) (rl.ext ex) (.tup (SqT.of hq) (.cons (.str _) (.cons (.str _) (w4.mono gu))))
          | _ => cases e2
end
end
end Lt

end
section
set_option Elab.async false
set_option linter.all false
set_option maxRecDepth 100000
set_option maxHeartbeats 4000000
/-! Lt, part 11: the semantics of the syntax, a program that yields the combinators. -/
namespace Lt
noncomputable section
open PySem PySem.Spec PyProof.Rows L2

/-! ### the tables -/
inductive Blt where
  | len | all | any | tuple | list | sum | max | min | abs | int | str | divmod | isi | range | enumerate | zip | bool | dict | set | sorted | repr
inductive Gm where
  | val (d : D)
  | fn (i : Nat) (m : Fn)
  | bf (b : Blt)
def Blt.nm : Blt → Str
  | .len => "len" | .all => "all" | .any => "any" | .tuple => "tuple" | .list => "list" | .sum => "sum" | .max => "max" | .min => "min" | .abs => "abs" | .int => "int" | .str => "str" | .divmod => "divmod"
  | .isi => "isinstance" | .range => "range" | .enumerate => "enumerate" | .zip => "zip" | .bool => "bool" | .dict => "dict" | .set => "set" | .sorted => "sorted" | .repr => "repr"
/-- as a value -/
def Blt.d : Blt → Option Ty
  | .int => some .int | .bool => some .bool | .str => some .str | .tuple => some .tuple | .list => some .list | .dict => some .dict | .set => some .set
  | _ => none
/-- as a function of values -/
def Blt.m (ic : List Nat) (ln : List (Nat × Fn)) : Blt → Option Fn
  | .len => some (mLenT ln) | .all => some mAll | .any => some mAny | .tuple => some mTuple | .list => some mList | .sum => some mSum | .max => some mMax | .min => some mMin | .abs => some mAbs | .int => some mInt | .str => some mStr | .divmod => some mDivmod
  | .isi => some (mIsi ic)
  | .sorted => some mSorted
  | _ => none
/-- .. of a list just made -/
def Blt.l : Blt → Option (List D → M D)
  | .len => some lLen | .all => some lAll | .any => some lAny | .tuple => some lTup | .list => some lList | .sum => some lSum | .max => some lMax | .min => some lMin | .sorted => some lSorted
  | _ => none
/-- an exception class: its id, how many arguments, its attributes as they lie -/
structure XcT where
  c : Nat
  n : Nat
  l : List (Nat × XA)
structure Tb where
  gl : List (Str × Gm)
  mt : List (Str × List (Nat × Fn))
  at_ : List (Str × List (Nat × Option Fn))
  fl : List (Str × List Nat)
  ats : List Str
  ic : List Nat
  eq : List (Nat × Fn)
  ln : List (Nat × Fn)
  /-- what _law_try tells -/
  tr : Option (List Nat)
  xc : List (Str × XcT)
  /-- own operators -/
  bo : List (Op × List (Nat × Fn))
def opN : Op → Nat
  | .add => 0 | .sub => 1 | .mul => 2 | .fdiv => 3 | .mod => 4 | .pow => 5
def kOp : List (Op × List (Nat × Fn)) → Op → List (Nat × Fn)
  | [], _ => []
  | (o, l) :: t, o' => if Nat.beq (opN o) (opN o') then l else kOp t o'
def eBinT : List (Nat × Fn) → Op → EE → EE → EE
  | [], o, f, g => eBin o f g
  | e :: es, o, f, g => eBinO (e :: es) o f g
/-- a == b, where own classes have their own == -/
def eCmpT : List (Nat × Fn) → Cm → EE → EE → EE
  | [], o, f, g => eCmp o f g
  | e :: es, .eq, f, g => eEqO (e :: es) f g
  | _ :: _, o, f, g => eCmp o f g
def bCmpT : List (Nat × Fn) → Cm → EE → EE → BB
  | [], o, f, g => bCmp o f g
  | e :: es, .eq, f, g => bEqO (e :: es) f g
  | _ :: _, o, f, g => bCmp o f g
structure C where
  N : List Str
  sc : Scope
  /-- none: a def; some: a block of that written scope -/
  bk : Option Scope
  tb : Tb
  /-- its lambdas are looked at -/
  lq : Bool
def C.vis (c : C) (x : Str) : Bool := match kLook c.sc.names x with
  | some .local => true
  | some .cell => true
  | some .free => true
  | _ => false
def C.gl (c : C) (x : Str) : Bool := match kLook c.sc.names x with
  | some .globalImplicit => true
  | _ => false
/-- may be stored -/
def C.sto (c : C) (x : Str) : Bool := match kLook c.sc.names x with
  | some .local => true
  | some .cell => (match c.bk with
    | none => true
    | some s => (match kLook s.names x with
      | some .cell => true
      | _ => false))
  | _ => false
/-- a local's slot -/
def C.loc (c : C) (x : Str) : Option Nat := match kIx c.N x with
  | some i => if c.vis x then some i else none
  | none => none
def plainNm (x : Str) : Bool := !keyEq x "__debug__" && !keyEq x "__classdict__" && !keyEq x "__name__"
def C.glob (c : C) (x : Str) : Option Gm := if c.gl x && plainNm x then kLook c.tb.gl x else none
def eNo : EE := fun _ => no
def bNo : BB := fun _ => no
def notStar : Expr → Bool
  | .Starred _ _ => false
  | _ => true
def notSet : Expr → Bool
  | .Set _ _ _ => false
  | _ => true
def notSlice : Expr → Bool
  | .Slice _ _ _ _ => false
  | _ => true
/-- no «super()» -/
def notSup : Expr → Bool
  | .Call (.Name _ _) [] [] _ => false
  | _ => true
/-- truth by value -/
def byVal : Expr → Bool
  | .UnaryOp .Not _ _ => false
  | .BoolOp _ _ _ => false
  | .IfExp _ _ _ _ => false
  | .Compare _ _ _ _ => false
  | _ => true
def opInv : Operator → Option Op
  | .Add => some .add | .Sub => some .sub | .Mult => some .mul | .FloorDiv => some .fdiv | .Mod => some .mod | .Pow => some .pow
  | _ => none
def cmInv : CmpOp → Option Cm
  | .Eq => some .eq | .NotEq => some .ne | .Lt => some .lt | .LtE => some .le | .Gt => some .gt | .GtE => some .ge | .Is => some .isn | .IsNot => some .notn | .In => some .inn | .NotIn => some .nin
def eName (c : C) (x : Str) : EE := match plainNm x, c.loc x with
  | true, some i => eLoc i
  | _, _ => (match c.glob x with
    | some (.val d) => eC d
    | some (.fn i _) => eC (.glo i)
    | some (.bf b) => (match b.d with
      | some t => eC (.ty t)
      | none => eNo)
    | none => eNo)
structure Sm where
  e : C → Expr → EE
  t : C → Expr → BB
section
variable (r : Sm)
/-! targets of names -/
def tgN : Nat → C → Expr → Option (GN × List Nat)
  | 0, _, _ => none
  | n + 1, c, .Name x _ => (match kIx c.N x, c.sto x with
    | some i, true => some (gnN i, [i])
    | _, _ => none)
  | n + 1, c, .Tuple es _ _ => (match es.all notStar, optMap (tgN n c) es with
    | true, some gs => some (gnT (gs.map (·.1)), gs.flatMap (·.2))
    | _, _ => none)
  | _ + 1, _, _ => none
def isTup : Expr → Bool
  | .Tuple _ _ _ => true
  | _ => false
/-- what is walked -/
def itE' (c : C) (tg : Expr) (e : Expr) : Option II := match notSet e with
  | false => none
  | true => (match e with
    | .Call (.Name f _) args [] _ => (match c.glob f, c.loc f with
      | some (.bf .range), none => (match args with
        | [a] => if notStar a then some (iRange1 (r.e c a)) else none
        | [a, b] => if notStar a && notStar b then some (iRange2 (r.e c a) (r.e c b)) else none
        | _ => none)
      | some (.bf .enumerate), none => (match args with
        | [a] => if notStar a && isTup tg then some (iEnumE (r.e c a)) else none
        | _ => none)
      | some (.bf .zip), none => (match args with
        | [a, b] => if notStar a && notStar b && isTup tg then some (iZipE (r.e c a) (r.e c b)) else none
        | _ => none)
      | _, _ => some (iEach (r.e c e)))
    | _ => some (iEach (r.e c e)))
/-- a block's own names with their places -/
def ownOf (N : List Str) : List (Str × NameKind) → List (Str × Nat)
  | [] => []
  | (x, k) :: l => match k with
    | .local => (match kIx N x with
      | some i => (x, i) :: ownOf N l
      | none => ownOf N l)
    | .cell => (match kIx N x with
      | some i => (x, i) :: ownOf N l
      | none => ownOf N l)
    | _ => ownOf N l
def kHas (l : List Str) (x : Str) : Bool := l.any fun y => keyEq y x
/-- each name once -/
def kOnce : List (Str × NameKind) → Bool
  | [] => true
  | (x, _) :: l => !(l.any fun e => keyEq e.1 x) && kOnce l
def isFn : ScopeKind → Bool
  | .function => true
  | _ => false
/-- is it a block of ours -/
def blkB (c : C) (scope : Scope) : Bool := isFn scope.kind && (kOnce scope.names && scope.names.all fun e => match e.2 with
  | .free => (match kLook c.sc.names e.1 with
    | some .cell => true
    | some .free => true
    | _ => false)
  | .local => (kIx c.N e.1).isSome || !kHas c.N e.1
  | .cell => (kIx c.N e.1).isSome || !kHas c.N e.1
  | _ => true)
def C.blk (c : C) (scope : Scope) : C := { c with sc := relS scope c.sc, bk := some scope, lq := false }
def subB (l m : List Nat) : Bool := l.all fun i => m.any fun j => Nat.beq i j
def ifsB (c : C) : List Expr → Option BB
  | [] => some bTrue
  | [e] => some (r.t c e)
  | _ => none
/-- a list comprehension's items -/
def semX (c : C) : Expr → Option (Env → M (List D))
  | .ListComp elt [⟨tg, iter, ifs, 0⟩] scope _ => (match blkB c scope, itE' r c tg iter, tgN 8 (c.blk scope) tg, ifsB r (c.blk scope) ifs with
    | true, some f, some (g, is), some tt => if subB is ((ownOf c.N scope.names).map (·.2)) then some (lc1 f g tt (r.e (c.blk scope) elt) ((ownOf c.N scope.names).map (·.2))) else none
    | _, _, _, _ => none)
  | .ListComp elt [⟨tg, iter, ifs, 0⟩, ⟨tg1, iter1, ifs1, 0⟩] scope _ => (match blkB c scope, itE' r c tg iter, tgN 8 (c.blk scope) tg, ifsB r (c.blk scope) ifs with
    | true, some f, some (g, is), some tt => (match itE' r (c.blk scope) tg1 iter1, tgN 8 (c.blk scope) tg1, ifsB r (c.blk scope) ifs1 with
      | some f1, some (g1, is1), some tt1 => if subB is ((ownOf c.N scope.names).map (·.2)) && subB is1 ((ownOf c.N scope.names).map (·.2)) then some (lc2 f g tt f1 g1 tt1 (r.e (c.blk scope) elt) ((ownOf c.N scope.names).map (·.2)) is1) else none
      | _, _, _ => none)
    | _, _, _, _ => none)
  | _ => none
def isList1 : List Expr → Option Expr
  | [.ListComp e g s p] => some (.ListComp e g s p)
  | _ => none
def isSet1 (c : C) : Blt → List Expr → Option Expr
  | .sorted, [.Call (.Name g _) [a] [] _] => (match c.loc g, c.glob g, notStar a with
    | none, some (.bf .set), true => some a
    | _, _, _ => none)
  | _, _ => none
/-- f(..), f a global name -/
def semCall (c : C) (f : Str) (args : List Expr) : EE := match c.loc f, args.all notStar with
  | none, true => (match c.glob f with
    | some (.fn _ m) => eCall m (args.map (r.e c))
    | some (.bf b) => (match args with
      | [] => eNo
      | _ :: _ => (match isList1 args with
        | some a => (match b.l, semX r c a with
          | some m, some lf => eOnL m lf
          | _, _ => eNo)
        | none => (match isSet1 c b args with
          | some a => eSrtSet (r.e c a)
          | none => match b, args with
          | .isi, [x, .Tuple cs _ _] => if cs.all notStar && decide (cs.length < 100) then eIsiT c.tb.ic (r.e c x) (cs.map (r.e c)) else eNo
          | b, args => (match b.m c.tb.ic c.tb.ln with
            | some m => eCall m (args.map (r.e c))
            | none => eNo))))
    | _ => eNo)
  | _, _ => eNo
inductive Bm where | append | extend | pop | reverse | clear | index
def Bm.nm : Bm → Str
  | .append => "append" | .extend => "extend" | .pop => "pop" | .reverse => "reverse" | .clear => "clear" | .index => "index"
def Bm.T : Bm → Ty := fun _ => .list
def Bm.m : Bm → D → List D → M D
  | .append => mAppend | .extend => mExtend | .pop => mPop | .reverse => mReverse | .clear => mClear | .index => mIndex
def bmTab : List (Str × Bm) := [("append", .append), ("extend", .extend), ("pop", .pop), ("reverse", .reverse), ("clear", .clear), ("index", .index)]
/-- o.m(..) -/
def semMeth (c : C) (o : Expr) (n : Str) (apos : Pos) (args : List Expr) (pos : Pos) : EE := match args.all notStar && notSup o && (Nat.beq apos.endLine pos.line && Nat.ble args.length 29) with
  | false => eNo
  | true => (match kLook c.tb.mt n, kIx c.tb.ats n with
    | some mt, some a => eMeth mt a (r.e c o) (args.map (r.e c))
    | _, _ => (match kLook bmTab n with
      | some b => eBm b.T b.m (r.e c o) (args.map (r.e c))
      | none => eNo))
/-- a lambda's names -/
def lamB (c : C) (scope : Scope) : Bool := isFn scope.kind && (!scope.isCoroutine && (!scope.isGenerator && scope.names.all fun e => match e.2 with
  | .local => false
  | .cell => false
  | .free => (match kLook c.sc.names e.1 with
    | some .cell => true
    | some .free => true
    | _ => false)
  | _ => true))
def C.lam (c : C) (scope : Scope) : C := { c with sc := scope, bk := some scope, lq := false }
/-- _law_try(lambda: e) -/
def semTry (c : C) (f : Str) (e : Expr) (scope : Scope) : EE := match strB f "_law_try", c.lq && (c.gl f && lamB c scope), c.tb.tr with
  | true, true, some cs => eTry cs c.tb.ats (r.e (c.lam scope) e)
  | _, _, _ => eNo
def lowO (c : C) : Option Expr → Option EE
  | none => none
  | some e => some (r.e c e)
def stepE (c : C) : Expr → EE
  | .Name x _ => eName c x
  | .Constant (.int i) _ _ => eC (.int i)
  | .Constant (.str x) _ _ => eC (.str x)
  | .Constant (.bool b) _ _ => eC (.bl b)
  | .Constant .none _ _ => eC .non
  | .BinOp a o b _ => (match opInv o with
    | some o => eBinT (kOp c.tb.bo o) o (r.e c a) (r.e c b)
    | none => eNo)
  | .UnaryOp .USub a _ => eNeg (r.e c a)
  | .UnaryOp .Not a _ => eNot (r.e c a)
  | .BoolOp .And (e :: es) _ => eAnd (r.e c e :: es.map (r.e c))
  | .BoolOp .Or (e :: es) _ => eOr (r.e c e :: es.map (r.e c))
  | .IfExp t a b _ => eIf (r.t c t) (r.e c a) (r.e c b)
  | .Compare a [o] [b] _ => (match cmInv o, notSet b with
    | some o, true => eCmpT c.tb.eq o (r.e c a) (r.e c b)
    | _, _ => eNo)
  | .Compare a [o, o'] [b, d] _ => (match cmInv o, cmInv o', notSet d with
    | some o, some o', true => eChain o o' (r.e c a) (r.e c b) (r.e c d)
    | _, _, _ => eNo)
  | .Tuple es _ _ => (match es.all notStar && Nat.ble es.length 1000 with
    | true => eTup (es.map (r.e c))
    | false => eNo)
  | .List es _ => (match es.all notStar && Nat.ble es.length 1000 with
    | true => eLst (es.map (r.e c))
    | false => eNo)
  | .Subscript a (.Slice lo hi none _) _ => eSl (r.e c a) (lowO r c lo) (lowO r c hi)
  | .Subscript a (.Slice none none (some (.UnaryOp .USub (.Constant (.int 1) _ _) _)) _) _ => eRev (r.e c a)
  | .Subscript a b _ => (match notSlice b with
    | true => eIx (r.e c a) (r.e c b)
    | false => eNo)
  | .Attribute o n _ => (match notSup o, kLook c.tb.at_ n, kIx c.tb.ats n with
    | true, some tb, some a => eAttr tb a (r.e c o)
    | _, _, _ => eNo)
  | .Call (.Name f _) [.Lambda ⟨[], [], none, [], [], none, []⟩ e scope _] [] _ => semTry r c f e scope
  | .Call (.Name f _) args [] _ => semCall r c f args
  | .Call (.Attribute o n apos) args [] pos => semMeth r c o n apos args pos
  | .ListComp e g s p => (match semX r c (.ListComp e g s p) with
    | some lf => eAlc lf
    | none => eNo)
  | _ => eNo
def stepT (c : C) : Expr → BB
  | .UnaryOp .Not a _ => bNot (r.t c a)
  | .BoolOp .And (e :: es) _ => bAnd (r.t c e :: es.map (r.t c))
  | .BoolOp .Or (e :: es) _ => bOr (r.t c e :: es.map (r.t c))
  | .Compare a [o] [b] _ => (match cmInv o, notSet b with
    | some o, true => bCmpT c.tb.eq o (r.e c a) (r.e c b)
    | _, _ => bNo)
  | .Compare a [o, o'] [b, d] _ => (match cmInv o, cmInv o', notSet d with
    | some o, some o', true => bChain o o' (r.e c a) (r.e c b) (r.e c d)
    | _, _, _ => bNo)
  | e => (match byVal e with
    | true => bV (r.e c e)
    | false => bNo)
def step : Sm := ⟨stepE r, stepT r⟩
end
def sem : Nat → Sm
  | 0 => ⟨fun _ _ => eNo, fun _ _ => bNo⟩
  | n + 1 => step (sem n)
end
end Lt

end
section
set_option Elab.async false
set_option linter.all false
set_option maxRecDepth 100000
set_option maxHeartbeats 4000000
/-! Lt, part 12: the semantics of expressions is sound. -/
namespace Lt
noncomputable section
open PySem PySem.Spec PyProof.Rows L2

def GmOk (G : GC) (k : Nat) (x : Str) : Gm → Prop
  | .val d => ∃ u v, G.mg x = some u ∧ RelV v u ∧ ∀ ρ H, Den G ρ H d v
  | .fn i m => ∃ a, G.gt[i]? = some x ∧ G.mg x = some (.ref a) ∧ PySem.W.keepIn G.K (.ref a) = true ∧ CallV G k (.ref a) m
  | .bf b => G.mg x = none ∧ x = b.nm
structure TbOk (G : GC) (k : Nat) (tb : Tb) : Prop where
  gl : ∀ e ∈ tb.gl, GmOk G k e.1 e.2
  mt : ∀ e ∈ tb.mt, ∀ q ∈ e.2, MethV G k e.1 q.1 q.2
  at_ : ∀ e ∈ tb.at_, ∀ q ∈ e.2, AtV G k e.1 q.1 q.2
  fl : ∀ e ∈ tb.fl, ∀ q ∈ e.2, FldV G e.1 q
  ats : tb.ats = G.ats
  ic : IsiF G tb.ic
  eq : ∀ q ∈ tb.eq, EqV G k q.1 q.2
  ln : LenV G k tb.ln
  tr : ∀ cs, tb.tr = some cs → TryOk G cs
  xc : ∀ e ∈ tb.xc, e.2.n ≤ 1000 ∧ ∃ j, j + 1 ≤ k ∧ XcOk G j e.2.c e.2.n e.1 (xIt e.2.l)
  bo : ∀ e ∈ tb.bo, ∀ q ∈ e.2, BinV G k e.1 q.1 q.2
theorem GmOk.mono {G : GC} {j k : Nat} {x : Str} {g : Gm} (h : GmOk G j x g) (e : j ≤ k) : GmOk G k x g := by
  cases g with
  | val d => exact h
  | fn i m => obtain ⟨a, h1, h2, h3, h4⟩ := h; exact ⟨a, h1, h2, h3, h4.mono e⟩
  | bf b => exact h
theorem TbOk.mono {G : GC} {j k : Nat} {tb : Tb} (h : TbOk G j tb) (e : j ≤ k) : TbOk G k tb := by
  refine ⟨fun q hq => (h.gl q hq).mono e, fun q hq p hp => ?_, fun q hq p hp => ?_, h.fl, h.ats, h.ic, fun q hq => ?_, ?_, h.tr, fun q hq => ?_, fun q hq p hp => ?_⟩
  · obtain ⟨y, C, f, h1, h2, h3, h4, h5⟩ := h.mt q hq p hp
    exact ⟨y, C, f, h1, h2, h3, h4, h5.mono e⟩
  · obtain ⟨y, C, h1, h2, h3, h4⟩ := h.at_ q hq p hp
    refine ⟨y, C, h1, h2, h3, ?_⟩
    cases z : p.2 with
    | none => rw [z] at h4; exact h4
    | some m =>
      rw [z] at h4
      obtain ⟨i, pp, g, fd, ps, hi, r⟩ := h4
      exact ⟨i, pp, g, fd, ps, Nat.le_trans hi e, r⟩
  · obtain ⟨y, C, f, h1, h2, h3, h4⟩ := h.eq q hq
    exact ⟨y, C, f, h1, h2, h3, h4.mono e⟩
  · rcases h.ln with z | ⟨i, hi, z⟩
    · exact .inl z
    · subst hi
      obtain ⟨k', rfl⟩ : ∃ k', k = k' + 1 := ⟨k - 1, by omega⟩
      exact .inr ⟨k', rfl, fun q hq => (z q hq).mono (by omega)⟩
  · obtain ⟨h1, i, hi, h2⟩ := h.xc q hq
    exact ⟨h1, i, Nat.le_trans hi e, h2⟩
  · obtain ⟨y, C, f, h1, h2, h3, h4, h5⟩ := h.bo q hq p hp
    exact ⟨y, C, f, h1, h2, h3, h4, h5.mono e⟩
structure COk (G : GC) (k : Nat) (c : C) (X : Cx) : Prop where
  N : X.N = c.N
  sc : X.env.scope = c.sc
  fn : match c.bk with
    | none => ∀ x, X.fn x = true
    | some s => ∀ x, s.names.lookup x = some .cell → X.fn x = true
  tb : TbOk G k c.tb
  room : Room k X.A
  lm : c.lq = true → LamOk G X ∧ ∃ j, 0 < j ∧ j + 2 ≤ k ∧ TbOk G j c.tb
section
variable {G : GC} {k : Nat} {c : C} {X : Cx} {W : TW} {x : Str} {pos : Pos}
theorem vis_ok (h : COk G k c X) (v : c.vis x = true) : Vis X.env.scope x := by
  unfold C.vis at v
  rw [h.sc]
  cases e : kLook c.sc.names x with
  | none => rw [e] at v; cases v
  | some kd =>
    rw [e] at v
    have l := kLook_lookup e
    cases kd with
    | «local» => exact .inl l
    | cell => exact .inr (.inl l)
    | free => exact .inr (.inr l)
    | _ => cases v
theorem gl_ok (h : COk G k c X) (v : c.gl x = true) : Gl X x := by
  unfold C.gl at v
  show X.env.scope.names.lookup x = _
  rw [h.sc]
  cases e : kLook c.sc.names x with
  | none => rw [e] at v; cases v
  | some kd =>
    rw [e] at v
    have l := kLook_lookup e
    cases kd with
    | globalImplicit => exact l
    | _ => cases v
theorem sto_ok (h : COk G k c X) (v : c.sto x = true) : Loc X.env.scope x ∧ (X.fn x = true ∨ X.env.scope.names.lookup x = some .local) := by
  unfold C.sto at v
  have hf := h.fn
  rw [h.sc]
  cases e : kLook c.sc.names x with
  | none => rw [e] at v; cases v
  | some kd =>
    rw [e] at v
    have l := kLook_lookup e
    cases kd with
    | «local» => exact ⟨.inl l, .inr l⟩
    | cell =>
      refine ⟨.inr l, .inl ?_⟩
      dsimp only at v
      cases eb : c.bk with
      | none => rw [eb] at hf; exact hf x
      | some s =>
        rw [eb] at v hf
        dsimp only at v
        cases e2 : kLook s.names x with
        | none => rw [e2] at v; cases v
        | some kd =>
          rw [e2] at v
          cases kd with
          | cell => exact hf x (kLook_lookup e2)
          | _ => cases v
    | _ => cases v
theorem plain_ok (h : plainNm x = true) : (x == ("__debug__" : Str)) = false ∧ (x == ("__classdict__" : Str)) = false ∧ x ≠ "__name__" := by
  unfold plainNm at h
  simp only [Bool.and_eq_true, Bool.not_eq_true'] at h
  exact ⟨beq_ne h.1.1, beq_ne h.1.2, key_ne h.2⟩
theorem loc_ok (h : COk G k c X) {i : Nat} (e : c.loc x = some i) : X.N[i]? = some x ∧ Vis X.env.scope x := by
  unfold C.loc at e
  cases e1 : kIx c.N x with
  | none => rw [e1] at e; cases e
  | some j =>
    rw [e1] at e
    dsimp only at e
    by_cases hv : c.vis x = true
    · rw [if_pos hv] at e
      cases e
      exact ⟨by rw [h.N]; exact kIx_ok e1, vis_ok h hv⟩
    · rw [if_neg hv] at e; cases e
theorem glob_ok (h : COk G k c X) {g : Gm} (e : c.glob x = some g) : Gl X x ∧ plainNm x = true ∧ GmOk G k x g := by
  unfold C.glob at e
  by_cases hv : (c.gl x && plainNm x) = true
  · rw [if_pos hv] at e
    obtain ⟨h1, h2⟩ := Bool.and_eq_true_iff.mp hv
    exact ⟨gl_ok h h1, h2, h.tb.gl _ (kLook_mem e)⟩
  · rw [if_neg hv] at e; cases e
theorem pe_eNo {e : Expr} : PE X e (T G W eNo) := ⟨fun pins s σ H Q I ⟨_, _, _, _, _, p⟩ => p.elim⟩
theorem pt_bNo {e : Expr} : PT X e (TB G W bNo) := ⟨fun pins s σ H Q I ⟨_, _, _, _, _, p⟩ => p.elim⟩
theorem boot_dv (b : Blt) {t : Ty} (h : b.d = some t) : bootBuiltins b.nm = some (.type t.nm) := by
  cases b <;> cases h <;> decide +kernel
theorem nostar_ok {e : Expr} (h : notStar e = true) : NoStar e := by
  intro es env
  cases e <;> first | rfl | cases h
theorem nostarG_ok {e : Expr} (h : notStar e = true) : NoStarG e := by
  intro es env
  cases e <;> first | rfl | cases h
theorem notSet_in {e : Expr} (h : notSet e = true) (o : CmpOp) : behindInMarks o e = false := by
  cases e <;> first | rfl | cases h
theorem notSet_it {e : Expr} (h : notSet e = true) (env : PySem.Env) (x : Value) : foldedSetIterable e env x = pure x := by
  cases e <;> first | rfl | cases h
theorem notSup_ok {o : Expr} (h : notSup o = true) (n : Str) (env : PySem.Env) (w : Sem Value) : attributeBase o n env w = w := by
  cases o with
  | Call f args kws p =>
    cases f with
    | Name y q =>
      cases args with
      | nil =>
        cases kws with
        | nil => cases h
        | cons _ _ => rfl
      | cons _ _ => rfl
    | _ => rfl
  | _ => rfl
theorem notSlice_ok {e : Expr} (h : notSlice e = true) : PlainIx e := by
  intro o i
  cases e <;> first | rfl | cases h
theorem byVal_ok {e : Expr} (h : byVal e = true) (env : PySem.Env) (whole : Sem Value) : isTrue e env whole = (do let v ← whole; standAt e.pos; holding [v] (truthy v)) := by
  cases e with
  | UnaryOp o a p => cases o <;> first | rfl | cases h
  | BoolOp _ _ _ => cases h
  | IfExp _ _ _ _ => cases h
  | Compare _ _ _ _ => cases h
  | _ => rfl
theorem opInv_ok {o : Operator} {o' : Op} (h : opInv o = some o') : o = opOf o' := by
  cases o <;> cases h <;> rfl
theorem cmInv_ok {o : CmpOp} {o' : Cm} (h : cmInv o = some o') : o = cmOf o' := by
  cases o <;> cases h <;> rfl
theorem pe_eName (h : COk G k c X) (o : Ok G X W) : PE X (.Name x pos) (T G W (eName c x)) := by
  have gcase : PE X (.Name x pos) (T G W (match c.glob x with
    | some (.val d) => eC d
    | some (.fn i _) => eC (.glo i)
    | some (.bf b) => (match b.d with
      | some t => eC (.ty t)
      | none => eNo)
    | none => eNo)) := by
    cases e3 : c.glob x with
    | none => exact pe_eNo
    | some g =>
      obtain ⟨h1, h2, h3⟩ := glob_ok h e3
      obtain ⟨n1, n2, n3⟩ := plain_ok h2
      cases g with
      | val d =>
        obtain ⟨u, v, m1, m2, m3⟩ := h3
        exact pe_con0 (pe_glob h1 (by rw [o.mg]; exact m1) m2 n1) m3
      | fn i m =>
        obtain ⟨a, m1, m2, m3, m4⟩ := h3
        exact pe_con0 (pe_glob (v := .ref a) h1 (by rw [o.mg]; exact m2) rfl n1) fun ρ H => .glo m1 m2
      | bf b =>
        obtain ⟨m1, m2⟩ := h3
        dsimp only
        cases e4 : b.d with
        | none => exact pe_eNo
        | some t => exact pe_con0 (pe_bltn (v := .ty t.nm) h1 (by rw [o.mg]; exact m1) (by rw [m2]; exact boot_dv b e4) rfl n3 n1) fun ρ H => .ty t
  unfold eName
  cases e1 : plainNm x with
  | true =>
    cases e2 : c.loc x with
    | some i =>
      obtain ⟨n1, n2, n3⟩ := plain_ok e1
      obtain ⟨l1, l2⟩ := loc_ok h e2
      exact pe_loc l1 l2 n1 n2
    | none => exact gcase
  | false => exact gcase
/-- what is shown of a level -/
def SmOk (r : Sm) : Prop := ∀ (G : GC) (k : Nat) (c : C) (X : Cx) (W : TW), COk G k c X → Ok G X W → (∀ e, PE X e (T G W (r.e c e))) ∧ ∀ e, PT X e (TB G W (r.t c e))
variable {r : Sm}
theorem args_ok (hr : SmOk r) (h : COk G k c X) (o : Ok G X W) : ∀ {es : List Expr}, es.all notStar = true → Args G X W es (es.map (r.e c))
  | [], _ => .nil
  | e :: es, hs => by
    obtain ⟨h1, h2⟩ := Bool.and_eq_true_iff.mp (show (notStar e && es.all notStar) = true from hs)
    exact .cons ⟨(hr G k c X W h o).1 e, nostar_ok h1⟩ (args_ok hr h o h2)
theorem tgN_ok (h : COk G k c X) (o : Ok G X W) : ∀ {n : Nat} {e : Expr} {g : GN} {is : List Nat}, tgN n c e = some (g, is) → PG X e (gN G g is)
  | 0, e, g, is, hh => by cases e <;> cases hh
  | n + 1, e, g, is, hh => by
    cases e with
    | Name x p =>
      unfold tgN at hh
      cases e1 : kIx c.N x with
      | none => rw [e1] at hh; cases hh
      | some i =>
        cases e2 : c.sto x with
        | false => rw [e1, e2] at hh; cases hh
        | true =>
          rw [e1, e2] at hh
          cases hh
          obtain ⟨s1, s2⟩ := sto_ok h e2
          exact pg_nm o.nd (by rw [h.N]; exact kIx_ok e1) s1 s2
    | Tuple es kk p =>
      unfold tgN at hh
      cases e1 : es.all notStar with
      | false => rw [e1] at hh; cases hh
      | true =>
        cases e2 : optMap (tgN n c) es with
        | none => rw [e1, e2] at hh; cases hh
        | some gs =>
          rw [e1, e2] at hh
          cases hh
          refine pg_tp o.calm o.K (gsP h o e1 e2 fun i hi => hi)
    | _ => cases hh
where gsP (h : COk G k c X) (o : Ok G X W) {n : Nat} {js : List Nat} : ∀ {es : List Expr} {gs : List (GN × List Nat)}, es.all notStar = true → optMap (tgN n c) es = some gs → (∀ i, i ∈ gs.flatMap (·.2) → i ∈ js) → Paired (fun e g => PG X e (gN G g js) ∧ NoStarG e) es (gs.map (·.1))
  | [], gs, _, e, _ => by cases e; exact .nil
  | e :: es, gs, hs, eg, hj => by
    obtain ⟨h1, h2⟩ := Bool.and_eq_true_iff.mp (show (notStar e && es.all notStar) = true from hs)
    unfold optMap at eg
    cases e1 : tgN n c e with
    | none => rw [e1] at eg; cases eg
    | some q =>
      cases e2 : optMap (tgN n c) es with
      | none => rw [e1, e2] at eg; cases eg
      | some qs =>
        rw [e1, e2] at eg
        cases eg
        refine .cons ⟨gN_wide (fun i hi => hj i ?_) (tgN_ok h o (g := q.1) (is := q.2) e1), nostarG_ok h1⟩ (gsP h o h2 e2 fun i hi => hj i ?_)
        · rw [List.flatMap_cons]; exact List.mem_append_left _ hi
        · rw [List.flatMap_cons]; exact List.mem_append_right _ hi
theorem isTup_ok {tg : Expr} (h : isTup tg = true) : ∃ es kk p, tg = .Tuple es kk p := by
  cases tg with
  | Tuple a b c => exact ⟨a, b, c, rfl⟩
  | _ => cases h
theorem itE_ok (hr : SmOk r) (h : COk G k c X) (o : Ok G X W) {tg e : Expr} {f : II} (hh : itE' r c tg e = some f) : PI X tg e (TI' G W f) ∧ ∀ env x, foldedSetIterable e env x = pure x := by
  unfold itE' at hh
  cases hs : notSet e with
  | false => rw [hs] at hh; cases hh
  | true =>
    refine ⟨?_, notSet_it hs⟩
    rw [hs] at hh
    dsimp only at hh
    have one : ∀ a, notStar a = true → PE X a (T G W (r.e c a)) ∧ NoStar a := fun a ha => ⟨(hr G k c X W h o).1 a, nostar_ok ha⟩
    have fin : PI X tg e (TI' G W (iEach (r.e c e))) := pi_each o ((hr G k c X W h o).1 e)
    split at hh
    · rename_i f0 p0 args pos0
      split at hh
      · rename_i e1 e2
        obtain ⟨g1, g2, g3⟩ := glob_ok h e1
        obtain ⟨m1, m2⟩ := g3
        subst m2
        split at hh
        · rename_i a
          by_cases ha : notStar a = true
          · rw [if_pos ha] at hh
            cases hh
            exact pi_rng1 o g1 m1 (one a ha)
          · rw [if_neg ha] at hh; cases hh
        · rename_i a b
          by_cases ha : (notStar a && notStar b) = true
          · rw [if_pos ha] at hh
            cases hh
            exact pi_rng2 o g1 m1 (one a (and2 ha).1) (one b (and2 ha).2)
          · rw [if_neg ha] at hh; cases hh
        · cases hh
      · rename_i e1 e2
        obtain ⟨g1, g2, g3⟩ := glob_ok h e1
        obtain ⟨m1, m2⟩ := g3
        subst m2
        split at hh
        · rename_i a
          by_cases ha : (notStar a && isTup tg) = true
          · rw [if_pos ha] at hh
            cases hh
            obtain ⟨es, kk, p, et⟩ := isTup_ok (and2 ha).2
            subst et
            exact pi_enm o g1 m1 (one a (and2 ha).1)
          · rw [if_neg ha] at hh; cases hh
        · cases hh
      · rename_i e1 e2
        obtain ⟨g1, g2, g3⟩ := glob_ok h e1
        obtain ⟨m1, m2⟩ := g3
        subst m2
        split at hh
        · rename_i a b
          by_cases ha : (notStar a && notStar b && isTup tg) = true
          · rw [if_pos ha] at hh
            cases hh
            obtain ⟨es, kk, p, et⟩ := isTup_ok (and2 ha).2
            subst et
            exact pi_zp o g1 m1 (one a (and2 (and2 ha).1).1) (one b (and2 (and2 ha).1).2)
          · rw [if_neg ha] at hh; cases hh
        · cases hh
      · cases hh; exact fin
    · cases hh; exact fin
/-! blocks -/
theorem kOnce_ok : ∀ {l : List (Str × NameKind)}, kOnce l = true → ∀ y ∈ l, l.lookup y.1 = some y.2
  | (x, kd) :: l, h, y, hy => by
    obtain ⟨h1, h2⟩ := and2 (show (!(l.any fun e => keyEq e.1 x) && kOnce l) = true from h)
    rw [List.lookup_cons]
    rcases List.mem_cons.mp hy with e | hy
    · subst e; rw [beq_self_eq_true]
    · have ne : keyEq y.1 x = false := by
        have h3 : (l.any fun e => keyEq e.1 x) = false := by simpa using h1
        have := List.any_eq_false.mp h3 y hy
        simpa using this
      rw [beq_ne ne]
      exact kOnce_ok h2 y hy
theorem ownOf_ok {N : List Str} : ∀ {l : List (Str × NameKind)}, ∀ p ∈ ownOf N l, N[p.2]? = some p.1
  | (x, kd) :: l, p, hp => by
    unfold ownOf at hp
    have go : ∀ {m : List (Str × Nat)}, p ∈ (match kIx N x with
      | some i => (x, i) :: ownOf N l
      | none => ownOf N l) → N[p.2]? = some p.1 := fun {m} hp => by
      cases e : kIx N x with
      | none => rw [e] at hp; exact ownOf_ok p hp
      | some i =>
        rw [e] at hp
        rcases List.mem_cons.mp hp with z | z
        · subst z; exact kIx_ok e
        · exact ownOf_ok p z
    cases kd with
    | «local» => exact go (m := []) hp
    | cell => exact go (m := []) hp
    | _ => exact ownOf_ok p hp
theorem ownOf_has {N : List Str} : ∀ {l : List (Str × NameKind)} {y : Str × NameKind}, y ∈ l → (y.2 = .local ∨ y.2 = .cell) → (kIx N y.1).isSome = true → y.1 ∈ (ownOf N l).map (·.1)
  | (x, kd) :: l, y, hy, hk, hi => by
    unfold ownOf
    have tail : y ∈ l → y.1 ∈ (ownOf N l).map (·.1) := fun z => ownOf_has z hk hi
    have go : y.1 ∈ List.map (fun p : Str × Nat => p.1) (match kIx N x with
      | some i => (x, i) :: ownOf N l
      | none => ownOf N l) := by
      cases e : kIx N x with
      | none =>
        rcases List.mem_cons.mp hy with z | z
        · subst z; rw [e] at hi; cases hi
        · exact tail z
      | some i =>
        rcases List.mem_cons.mp hy with z | z
        · subst z; exact List.mem_cons_self
        · exact List.mem_cons_of_mem _ (tail z)
    cases kd with
    | «local» => exact go
    | cell => exact go
    | _ =>
      rcases List.mem_cons.mp hy with z | z
      · subst z; rcases hk with k | k <;> cases k
      · exact tail z
theorem kHas_no {l : List Str} {x : Str} (h : kHas l x = false) : x ∉ l := fun hx => by
  have := List.any_eq_false.mp h x hx
  rw [show keyEq x x = true from Nat.beq_refl _] at this
  exact this rfl
theorem blk_of (h : COk G k c X) {scope : Scope} (hb : blkB c scope = true) : BlkOk X.N X.env.scope scope (ownOf c.N scope.names) := by
  obtain ⟨h1, h2⟩ := and2 hb
  obtain ⟨h2, h3⟩ := and2 h2
  refine ⟨?_, kOnce_ok h2, fun p hp => by rw [h.N]; exact ownOf_ok p hp, fun y hy e => ?_, fun y hy e => ?_⟩
  · revert h1
    unfold isFn
    cases scope.kind <;> intro h1 <;> first | rfl | cases h1
  · have q := List.all_eq_true.mp h3 y hy
    rw [e] at q
    dsimp only at q
    rw [h.sc]
    cases e1 : kLook c.sc.names y.1 with
    | none => rw [e1] at q; cases q
    | some kd =>
      rw [e1] at q
      have l := kLook_lookup e1
      cases kd with
      | cell => exact .inl l
      | free => exact .inr l
      | _ => cases q
  · have q := List.all_eq_true.mp h3 y hy
    have q2 : ((kIx c.N y.1).isSome || !kHas c.N y.1) = true := by
      rcases e with e | e <;> (rw [e] at q; exact q)
    cases e1 : (kIx c.N y.1).isSome with
    | true => exact .inl (ownOf_has hy e e1)
    | false =>
      rw [e1] at q2
      right
      rw [h.N]
      exact kHas_no (by simpa using q2)
theorem blk_cok (h : COk G k c X) (scope : Scope) : Blk X scope fun Y => COk G k (c.blk scope) Y := fun s H C cl fp => by
  refine ⟨h.N, ?_, fun x hx => ?_, h.tb, h.room, fun z => by cases z⟩
  · show relS scope X.env.scope = relS scope c.sc
    rw [h.sc]
  · show (scope.names.lookup x == some NameKind.cell) = true
    rw [hx]
    rfl
theorem subB_ok {l m : List Nat} (h : subB l m = true) : ∀ i ∈ l, i ∈ m := fun i hi => by
  have := List.all_eq_true.mp h i hi
  obtain ⟨j, hj, e⟩ := List.any_eq_true.mp this
  rw [Nat.eq_of_beq_eq_true e]; exact hj
theorem ifs_ok (hr : SmOk r) {Y : Cx} (h : COk G k c Y) (o : Ok G Y W) {ifs : List Expr} {tt : BB} (e : ifsB r c ifs = some tt) : PTs Y ifs (TB G W tt) := by
  unfold ifsB at e
  split at e
  · cases e; exact pts_0
  · cases e; exact pts_1 ((hr G k c Y W h o).2 _)
  · cases e
/-- how a list comprehension stands -/
inductive LcOk (G : GC) (X : Cx) (W : TW) : Expr → (Env → M (List D)) → Prop
  | one {elt tg iter : Expr} {ifs : List Expr} {scope : Scope} {own : List (Str × Nat)} {pos : Pos} {f : II} {g : GN} {is : List Nat} {tt : BB} {te : EE} (hi : PI X tg iter (TI' G W f)) (ok : BlkOk X.N X.env.scope scope own) (his : ∀ i ∈ is, i ∈ own.map (·.2)) (hg : Blk X scope fun Y => PG Y tg (gN G g is)) (ht : Blk X scope fun Y => PTs Y ifs (TB G WF tt)) (he : Blk X scope fun Y => PE Y elt (T G WF te))
    (hs : ∀ env x, foldedSetIterable iter env x = pure x) : LcOk G X W (.ListComp elt [⟨tg, iter, ifs, 0⟩] scope pos) (lc1 f g tt te (own.map (·.2)))
  | two {elt tg iter tg1 iter1 : Expr} {ifs ifs1 : List Expr} {scope : Scope} {own : List (Str × Nat)} {pos : Pos} {f f1 : II} {g g1 : GN} {is is1 : List Nat} {tt tt1 : BB} {te : EE} (hi : PI X tg iter (TI' G W f)) (ok : BlkOk X.N X.env.scope scope own) (his : ∀ i ∈ is, i ∈ own.map (·.2)) (his1 : ∀ i ∈ is1, i ∈ own.map (·.2)) (hg : Blk X scope fun Y => PG Y tg (gN G g is)) (ht : Blk X scope fun Y => PTs Y ifs (TB G WF tt))
    (hi1 : Blk X scope fun Y => PI Y tg1 iter1 (TI' G WF f1)) (hg1 : Blk X scope fun Y => PG Y tg1 (gN G g1 is1)) (ht1 : Blk X scope fun Y => PTs Y ifs1 (TB G WF tt1)) (he : Blk X scope fun Y => PE Y elt (T G WF te))
    (hs : ∀ env x, foldedSetIterable iter env x = pure x) (hs1 : ∀ env x, foldedSetIterable iter1 env x = pure x) : LcOk G X W (.ListComp elt [⟨tg, iter, ifs, 0⟩, ⟨tg1, iter1, ifs1, 0⟩] scope pos) (lc2 f g tt f1 g1 tt1 te (own.map (·.2)) is1)
theorem semX_lc (hr : SmOk r) (h : COk G k c X) (o : Ok G X W) {e : Expr} {lf : Env → M (List D)} (hh : semX r c e = some lf) : LcOk G X W e lf := by
  unfold semX at hh
  split at hh
  · rename_i elt tg iter ifs scope pos
    split at hh
    · rename_i f g is tt e1 e2 e3 e4
      obtain ⟨i1, i2⟩ := itE_ok hr h o e2
      have bc := blk_cok h scope
      have bo := blk_ok (scope := scope) o
      by_cases hs : subB is ((ownOf c.N scope.names).map (·.2)) = true
      · rw [if_pos hs] at hh
        cases hh
        exact .one i1 (blk_of h e1) (subB_ok hs) (fun s H C cl fp => tgN_ok (bc s H C cl fp) (bo s H C cl fp) e3) (fun s H C cl fp => ifs_ok hr (bc s H C cl fp) (bo s H C cl fp) e4) (fun s H C cl fp => (hr G k _ _ _ (bc s H C cl fp) (bo s H C cl fp)).1 _) i2
      · rw [if_neg hs] at hh; cases hh
    · cases hh
  · rename_i elt tg iter ifs tg1 iter1 ifs1 scope pos
    split at hh
    · rename_i f g is tt e1 e2 e3 e4
      obtain ⟨i1, i2⟩ := itE_ok hr h o e2
      have bc := blk_cok h scope
      have bo := blk_ok (scope := scope) o
      split at hh
      · rename_i f1 g1 is1 tt1 e5 e6 e7
        by_cases hs : (subB is ((ownOf c.N scope.names).map (·.2)) && subB is1 ((ownOf c.N scope.names).map (·.2))) = true
        · rw [if_pos hs] at hh
          cases hh
          exact .two i1 (blk_of h e1) (subB_ok (and2 hs).1) (subB_ok (and2 hs).2) (fun s H C cl fp => tgN_ok (bc s H C cl fp) (bo s H C cl fp) e3) (fun s H C cl fp => ifs_ok hr (bc s H C cl fp) (bo s H C cl fp) e4)
            (fun s H C cl fp => (itE_ok hr (bc s H C cl fp) (bo s H C cl fp) e5).1) (fun s H C cl fp => tgN_ok (bc s H C cl fp) (bo s H C cl fp) e6) (fun s H C cl fp => ifs_ok hr (bc s H C cl fp) (bo s H C cl fp) e7)
            (fun s H C cl fp => (hr G k _ _ _ (bc s H C cl fp) (bo s H C cl fp)).1 _) i2 (by
              unfold itE' at e5
              cases hs1 : notSet iter1 with
              | false => rw [hs1] at e5; cases e5
              | true => exact notSet_it hs1)
        · rw [if_neg hs] at hh; cases hh
      · cases hh
    · cases hh
  · cases hh
theorem lc_pe (o : Ok G X W) {e : Expr} {lf : Env → M (List D)} (h : LcOk G X W e lf) : PE X e (TX G W lf) := by
  cases h with
  | one hi ok his hg ht he hs => exact pe_lcX o hi ok his hg ht he (hs _)
  | two hi ok his his1 hg ht hi1 hg1 ht1 he hs hs1 => exact pe_lcX2 o hi ok his his1 (fun i h => h) hg ht hi1 hg1 ht1 he (hs _) hs1
theorem lc_set (o : Ok G X W) {e : Expr} {lf : Env → M (List D)} (h : LcOk G X W e lf) {i : Nat} {y : Str} {py spos : Pos} (hi : X.N[i]? = some y) (hx : Loc X.env.scope y) (hf : X.fn y = true ∨ X.env.scope.names.lookup y = some .local) : PS X (.Assign [.Name y py] e spos) (TS' G W (sSet i (eAlc lf))) := by
  cases h with
  | one hI ok his hg ht he hs => exact ps_setL1 o hi hx hf hI ok his hg ht he (hs _)
  | two hI ok his his1 hg ht hi1 hg1 ht1 he hs hs1 => exact ps_setL2 o hi hx hf hI ok his his1 (fun i h => h) hg ht hi1 hg1 ht1 he (hs _) hs1
end
end
end Lt

end
section
set_option Elab.async false
set_option linter.all false
set_option maxRecDepth 100000
set_option maxHeartbeats 4000000
/-! Lt, part 13: .. calls, methods, the step. -/
namespace Lt
noncomputable section
open PySem PySem.Spec PyProof.Rows L2
section
variable {G : GC} {k : Nat} {c : C} {X : Cx} {W : TW} {x : Str} {pos p : Pos} {r : Sm} {es : List Expr} {fs : List EE}
theorem call_maxA (hc : X.calm = true) (hu : X.A.units + 100 < cLine) : CallR X (.builtin "max") (rMaxA X.K) := CallR.or (call_max2 hc) (CallR.or (cr_max hc) (cr_maxT hc hu))
theorem call_minA (hc : X.calm = true) : CallR X (.builtin "min") (rMinA X.K) := CallR.or (call_min2 hc) (cr_min hc)
theorem call_intA : CallR X (.type "int") (rIntA X.K) := CallR.or call_int1 call_int_str
theorem call_strA : CallR X (.type "str") (rStrA X.K) := CallR.or call_str_int SkE.call_str_str
theorem kOp_ok {l : List (Op × List (Nat × Fn))} (h : ∀ e ∈ l, ∀ q ∈ e.2, BinV G k e.1 q.1 q.2) (o : Op) : ∀ q ∈ kOp l o, BinV G k o q.1 q.2 := by
  induction l with
  | nil => intro q hq; cases hq
  | cons e l ih =>
    intro q hq
    unfold kOp at hq
    split at hq
    · rename_i c
      have e1 : e.1 = o := by
        have := Nat.eq_of_beq_eq_true c
        cases h1 : e.1 <;> cases o <;> rw [h1] at this <;> first | rfl | cases this
      rw [← e1]
      exact h e List.mem_cons_self q hq
    · exact ih (fun e he => h e (List.mem_cons_of_mem _ he)) q hq
theorem binT_ok (hr : Room k X.A) (ok : Ok G X W) {a b : Expr} {f g : EE} {o : Op} {bt : List (Nat × Fn)} (he : ∀ q ∈ bt, BinV G k o q.1 q.2) (ha : PE X a (T G W f)) (hb : PE X b (T G W g)) : PE X (.BinOp a (opOf o) b pos) (T G W (eBinT bt o f g)) := by
  cases bt with
  | nil => exact pe_bin ok o ha hb
  | cons e es => exact pe_binO ok hr he ha hb
theorem cmT_ok (hr : Room k X.A) (o : Ok G X W) {a b : Expr} {f g : EE} {et : List (Nat × Fn)} (he : ∀ q ∈ et, EqV G k q.1 q.2) (c : Cm) (ha : PE X a (T G W f)) (hb : PE X b (T G W g)) (hm : ∀ o, behindInMarks o b = false) : PE X (.Compare a [cmOf c] [b] pos) (T G W (eCmpT et c f g)) := by
  cases et with
  | nil => exact pe_cm o c ha hb (hm _)
  | cons e es =>
    cases c with
    | eq => exact pe_eqO o hr he ha hb (hm _)
    | ne => exact pe_cm o .ne ha hb (hm _)
    | lt => exact pe_cm o .lt ha hb (hm _)
    | le => exact pe_cm o .le ha hb (hm _)
    | gt => exact pe_cm o .gt ha hb (hm _)
    | ge => exact pe_cm o .ge ha hb (hm _)
    | isn => exact pe_cm o .isn ha hb (hm _)
    | notn => exact pe_cm o .notn ha hb (hm _)
    | inn => exact pe_cm o .inn ha hb (hm _)
    | nin => exact pe_cm o .nin ha hb (hm _)
theorem ctT_ok (hr : Room k X.A) (o : Ok G X W) {a b : Expr} {f g : EE} {et : List (Nat × Fn)} (he : ∀ q ∈ et, EqV G k q.1 q.2) (c : Cm) (ha : PE X a (T G W f)) (hb : PE X b (T G W g)) (hm : ∀ o, behindInMarks o b = false) : PT X (.Compare a [cmOf c] [b] pos) (TB G W (bCmpT et c f g)) := by
  cases et with
  | nil => exact pt_cm o c ha hb (hm _)
  | cons e es =>
    cases c with
    | eq => exact pt_eqO o hr he ha hb (hm _)
    | ne => exact pt_cm o .ne ha hb (hm _)
    | lt => exact pt_cm o .lt ha hb (hm _)
    | le => exact pt_cm o .le ha hb (hm _)
    | gt => exact pt_cm o .gt ha hb (hm _)
    | ge => exact pt_cm o .ge ha hb (hm _)
    | isn => exact pt_cm o .isn ha hb (hm _)
    | notn => exact pt_cm o .notn ha hb (hm _)
    | inn => exact pt_cm o .inn ha hb (hm _)
    | nin => exact pt_cm o .nin ha hb (hm _)
/-- a built-in of values -/
theorem blt_m (hr : Room k X.A) (o : Ok G X W) {ic : List Nat} (F : IsiF G ic) {ln : List (Nat × Fn)} (L : LenV G k ln) (b : Blt) {m : Fn} (hm : b.m ic ln = some m) (hg : Gl X b.nm) (hn : G.mg b.nm = none) (ha : Args G X W es fs) (hes : es ≠ []) (h1 : b.nm ≠ "__name__") (h2 : (b.nm == ("__debug__" : Str)) = false) : PE X (.Call (.Name b.nm p) es [] pos) (T G W (eCall m fs)) := by
  have hc := o.calm
  cases b <;> cases hm
  · cases ln with
    | nil => exact pe_blt (.f "len") o call_len (mLen_ok G) hg hn (by decide +kernel) ha hes h1 h2
    | cons e es =>
      rcases L with z | ⟨j, rfl, L⟩
      · cases z
      · exact pe_blt (r := rLenO G j) (.f "len") o (call_lenO o hr) (fun ρ H S W' Q ds vs => mLenO_ok L) hg hn (by decide +kernel) ha hes h1 h2
  · exact pe_blt (.f "all") o (cr_all hc) (mAll_ok G) hg hn (by decide +kernel) ha hes h1 h2
  · exact pe_blt (.f "any") o (cr_any hc) (mAny_ok G) hg hn (by decide +kernel) ha hes h1 h2
  · exact pe_blt (.t "tuple") o call_tuple_of (mTuple_ok G) hg hn (by decide +kernel) ha hes h1 h2
  · exact pe_blt (.t "list") o call_list_of (mList_ok G) hg hn (by decide +kernel) ha hes h1 h2
  · exact pe_blt (.f "sum") o (cr_sum hc) (mSum_ok G) hg hn (by decide +kernel) ha hes h1 h2
  · exact pe_blt (.f "max") o (call_maxA hc o.units) (mMax_ok G) hg hn (by decide +kernel) ha hes h1 h2
  · exact pe_blt (.f "min") o (call_minA hc) (mMin_ok G) hg hn (by decide +kernel) ha hes h1 h2
  · exact pe_blt (r := rAbs) (.f "abs") o call_abs (mAbs_ok G) hg hn (by decide +kernel) ha hes h1 h2
  · exact pe_blt (r := rIntA) (.t "int") o call_intA (mInt_ok G) hg hn (by decide +kernel) ha hes h1 h2
  · exact pe_blt (r := rStrA) (.t "str") o call_strA (mStr_ok G) hg hn (by decide +kernel) ha hes h1 h2
  · exact pe_blt (r := rDm) (.f "divmod") o call_divmod (mDivmod_ok G) hg hn (by decide +kernel) ha hes h1 h2
  · exact pe_blt (r := rIsi) (.f "isinstance") o call_isi (fun ρ H S W' Q ds vs => mIsi_ok F) hg hn (by decide +kernel) ha hes h1 h2
  · exact pe_blt (.f "sorted") o (cr_sortD o.units) (mSorted_ok G) hg hn (by decide +kernel) ha hes h1 h2
theorem blt_l (o : Ok G X W) (b : Blt) {m : List D → M D} (hm : b.l = some m) {e : Expr} {lf : Env → M (List D)} (hg : Gl X b.nm) (hn : G.mg b.nm = none) (he : PE X e (TX G W lf)) (hs : NoStar e) (h1 : b.nm ≠ "__name__") (h2 : (b.nm == ("__debug__" : Str)) = false) : PE X (.Call (.Name b.nm p) [e] [] pos) (T G W (eOnL m lf)) := by
  have hc := o.calm
  cases b <;> cases hm
  · exact pe_bltX (.f "len") o call_len lLen_ok hg hn (by decide +kernel) he hs h1 h2
  · exact pe_bltX (.f "all") o (cr_all hc) lAll_ok hg hn (by decide +kernel) he hs h1 h2
  · exact pe_bltX (.f "any") o (cr_any hc) lAny_ok hg hn (by decide +kernel) he hs h1 h2
  · exact pe_bltX (.t "tuple") o call_tuple_of lTup_ok hg hn (by decide +kernel) he hs h1 h2
  · exact pe_bltX (.t "list") o call_list_of lList_ok hg hn (by decide +kernel) he hs h1 h2
  · exact pe_bltX (.f "sum") o (cr_sum hc) lSum_ok hg hn (by decide +kernel) he hs h1 h2
  · exact pe_bltX (.f "max") o (cr_max hc) lMax_ok hg hn (by decide +kernel) he hs h1 h2
  · exact pe_bltX (.f "min") o (cr_min hc) lMin_ok hg hn (by decide +kernel) he hs h1 h2
  · exact pe_bltX (.f "sorted") o (cr_sortD o.units) lSorted_ok hg hn (by decide +kernel) he hs h1 h2
theorem isList1_ok {args : List Expr} {a : Expr} (h : isList1 args = some a) : args = [a] ∧ ∃ e g s p, a = .ListComp e g s p := by
  unfold isList1 at h
  split at h
  · cases h; exact ⟨rfl, _, _, _, _, rfl⟩
  · cases h
theorem isSet1_ok {c : C} {b : Blt} {args : List Expr} {a : Expr} (h : isSet1 c b args = some a) : b = .sorted ∧ ∃ g p q, args = [.Call (.Name g p) [a] [] q] ∧ c.loc g = none ∧ c.glob g = some (.bf .set) ∧ notStar a = true := by
  unfold isSet1 at h
  split at h
  · rename_i g p a' q
    split at h
    · rename_i h1 h2 h3
      cases h
      exact ⟨rfl, g, p, q, rfl, h1, h2, h3⟩
    · cases h
  · cases h
theorem semCall_ok (hr : SmOk r) (h : COk G k c X) (o : Ok G X W) {f : Str} {args : List Expr} : PE X (.Call (.Name f p) args [] pos) (T G W (semCall r c f args)) := by
  unfold semCall
  cases e1 : c.loc f with
  | some i => exact pe_eNo
  | none =>
    cases e2 : args.all notStar with
    | false => exact pe_eNo
    | true =>
      dsimp only
      cases e3 : c.glob f with
      | none => exact pe_eNo
      | some g =>
        obtain ⟨g1, g2, g3⟩ := glob_ok h e3
        obtain ⟨n1, n2, n3⟩ := plain_ok g2
        cases g with
        | val d => exact pe_eNo
        | fn i m =>
          obtain ⟨a, m1, m2, m3, m4⟩ := g3
          exact pe_callF o h.room g1 m2 m3 m4 (args_ok hr h o e2) n1
        | bf b =>
          obtain ⟨m1, m2⟩ := g3
          dsimp only
          cases args with
          | nil => exact pe_eNo
          | cons a0 as =>
            dsimp only
            cases e4 : isList1 (a0 :: as) with
            | some a =>
              obtain ⟨ea, el, gs, s, q, ec⟩ := isList1_ok e4
              dsimp only
              cases e5 : b.l with
              | none => exact pe_eNo
              | some m =>
                cases e6 : semX r c a with
                | none => exact pe_eNo
                | some lf =>
                  rw [ea]
                  subst m2
                  exact blt_l o b e5 g1 m1 (lc_pe o (semX_lc hr h o e6)) (by subst ec; exact nostar_ok rfl) n3 n1
            | none =>
              dsimp only
              have gen : PE X (.Call (.Name f p) (a0 :: as) [] pos) (T G W (match b.m c.tb.ic c.tb.ln with
                | some m => eCall m ((a0 :: as).map (r.e c))
                | none => eNo)) := by
                cases e5 : b.m c.tb.ic c.tb.ln with
                | none => exact pe_eNo
                | some m =>
                  subst m2
                  exact blt_m h.room o h.tb.ic h.tb.ln b e5 g1 m1 (args_ok hr h o e2) (by simp) n3 n1
              cases e7 : isSet1 c b (a0 :: as) with
              | some a =>
                dsimp only
                obtain ⟨eb, g0, p0, q0, ea, l0, gs0, ns0⟩ := isSet1_ok e7
                rw [ea]
                obtain ⟨y1, y2, y3⟩ := glob_ok h gs0
                obtain ⟨y31, y32⟩ := y3
                subst m2 eb
                have : g0 = ("set" : Str) := y32
                subst this
                exact pe_srtSet o g1 m1 y1 y31 ((hr G k c X W h o).1 _) (nostar_ok ns0)
              | none =>
              dsimp only
              split
              · rename_i x0 cs k2 p2 hq
                rw [hq] at e2 ⊢
                by_cases hz : (cs.all notStar && decide (cs.length < 100)) = true
                · rw [if_pos hz]
                  obtain ⟨z1, z2⟩ := and2 hz
                  have z2 := of_decide_eq_true z2
                  subst m2
                  refine pe_isiT h.tb.ic o g1 m1 ((hr G k c X W h o).1 _) (nostar_ok (and2 (show (notStar x0 && _) = true from e2)).1) (args_ok hr h o z1) (decide_eq_true ?_)
                  rw [List.length_map]
                  show cs.length ≤ 16777216
                  omega
                · rw [if_neg hz]; exact pe_eNo
              · exact gen
theorem slot_list_index' : Slot "list" "index" "list.index" := PySem.F.slot_list_index
theorem bm_ok (o : Ok G X W) (b : Bm) {ob : Expr} {f : EE} {apos : Pos} (ho : PE X ob (T G W f)) (ha : Args G X W es fs) (hbase : attributeBase ob b.nm X.env (eval ob X.env) = eval ob X.env) (hline : (apos.endLine == pos.line) = true) (hfew : decide (es.length < 30) = true) :
    PE X (.Call (.Attribute ob b.nm apos) es [] pos) (T G W (eBm b.T b.m f fs)) := by
  have hu : X.A.units + 65 < cLine := Nat.lt_of_le_of_lt (Nat.add_le_add_left (by decide) _) o.units
  cases b with
  | append => exact pe_bmE (T := .list) (r := fun _ => rAppend) o PySem.F.plainAttrs_list PySem.F.slot_list_append PySem.F.type_list_append mt_append mAppend_ok ho ha hbase hline hfew
  | extend => exact pe_bmE (T := .list) (r := fun _ => rExtend) o PySem.F.plainAttrs_list PySem.F.slot_list_extend PySem.F.type_list_extend mt_extend mExtend_ok ho ha hbase hline hfew
  | pop => exact pe_bmE (T := .list) (r := rPopA) o PySem.F.plainAttrs_list PySem.F.slot_list_pop PySem.F.type_list_pop (MtR.or mt_pop mt_popAt) mPop_ok ho ha hbase hline hfew
  | reverse => exact pe_bmE (T := .list) (r := fun _ => rReverse) o PySem.F.plainAttrs_list PySem.F.slot_list_reverse PySem.F.type_list_reverse mt_reverse mReverse_ok ho ha hbase hline hfew
  | clear => exact pe_bmE (T := .list) (r := fun _ => rClear) o PySem.F.plainAttrs_list PySem.F.slot_list_clear PySem.F.type_list_clear mt_clear mClear_ok ho ha hbase hline hfew
  | index => exact pe_bmE (T := .list) (r := rIndexD) o PySem.F.plainAttrs_list PySem.F.slot_list_index PySem.F.type_list_index (mt_indexD hu) mIndex_ok ho ha hbase hline hfew
theorem bmTab_ok : ∀ e ∈ bmTab, e.1 = e.2.nm := by
  intro e he
  unfold bmTab at he
  simp only [List.mem_cons, List.not_mem_nil, or_false] at he
  rcases he with h | h | h | h | h | h <;> subst h <;> rfl
theorem semMeth_ok (hr : SmOk r) (h : COk G k c X) (o : Ok G X W) {ob : Expr} {n : Str} {apos : Pos} {args : List Expr} : PE X (.Call (.Attribute ob n apos) args [] pos) (T G W (semMeth r c ob n apos args pos)) := by
  unfold semMeth
  cases e1 : args.all notStar && notSup ob && (Nat.beq apos.endLine pos.line && Nat.ble args.length 29) with
  | false => exact pe_eNo
  | true =>
    obtain ⟨a1, a2⟩ := and2 e1
    obtain ⟨a1, a3⟩ := and2 a1
    obtain ⟨a2, a4⟩ := and2 a2
    have ho := (hr G k c X W h o).1 ob
    have ha := args_ok hr h o a1
    have hb := notSup_ok a3 n X.env (eval ob X.env)
    have hl : (apos.endLine == pos.line) = true := by rw [Nat.eq_of_beq_eq_true a2]; exact beq_self_eq_true _
    have hf : decide (args.length < 30) = true := decide_eq_true (Nat.lt_succ_of_le (Nat.le_of_ble_eq_true a4))
    have bm : PE X (.Call (.Attribute ob n apos) args [] pos) (T G W (match kLook bmTab n with
      | some b => eBm b.T b.m (r.e c ob) (args.map (r.e c))
      | none => eNo)) := by
      cases e2 : kLook bmTab n with
      | none => exact pe_eNo
      | some b =>
        have en := bmTab_ok _ (kLook_mem e2)
        have en : n = b.nm := en
        subst en
        exact bm_ok o b ho ha hb hl hf
    dsimp only
    cases e2 : kLook c.tb.mt n with
    | none => exact bm
    | some mt =>
      cases e3 : kIx c.tb.ats n with
      | none => exact bm
      | some a =>
        exact pe_methF o h.room (h.tb.mt _ (kLook_mem e2)) (by rw [← h.tb.ats]; exact kIx_ok e3) ho ha hb hl hf
theorem isFn_ok' {s : ScopeKind} (h : isFn s = true) : s = .function := by
  cases s <;> first | rfl | cases h
theorem lamB_ok (h : COk G k c X) {scope : Scope} (e : lamB c scope = true) : LamX.LamS X.env.scope scope := by
  obtain ⟨h1, e⟩ := and2 e
  obtain ⟨h2, e⟩ := and2 e
  obtain ⟨h3, h4⟩ := and2 e
  refine ⟨isFn_ok' h1, by simpa using h2, by simpa using h3, fun y hy => ?_, fun y hy e => ?_⟩
  · have q := List.all_eq_true.mp h4 y hy
    refine ⟨fun z => ?_, fun z => ?_⟩
    · rw [z] at q; cases q
    · rw [z] at q; cases q
  · have q := List.all_eq_true.mp h4 y hy
    rw [e] at q
    dsimp only at q
    rw [h.sc]
    cases e1 : kLook c.sc.names y.1 with
    | none => rw [e1] at q; cases q
    | some kd =>
      rw [e1] at q
      have l := kLook_lookup e1
      cases kd with
      | cell => exact .inl l
      | free => exact .inr l
      | _ => cases q
theorem semTry_ok (hr : SmOk r) (h : COk G k c X) (o : Ok G X W) {f : Str} {e : Expr} {scope : Scope} {lp : Pos} : PE X (.Call (.Name f p) [.Lambda ⟨[], [], none, [], [], none, []⟩ e scope lp] [] pos) (T G W (semTry r c f e scope)) := by
  unfold semTry
  cases e1 : strB f "_law_try" with
  | false => exact pe_eNo
  | true =>
    cases e2 : c.lq && (c.gl f && lamB c scope) with
    | false => exact pe_eNo
    | true =>
      cases e3 : c.tb.tr with
      | none => exact pe_eNo
      | some cs =>
        dsimp only
        obtain ⟨a1, a2⟩ := and2 e2
        obtain ⟨a2, a3⟩ := and2 a2
        have ef := strB_ok e1
        subst ef
        obtain ⟨lm, j, j1, j2, tj⟩ := h.lm a1
        have L := lamB_ok h a3
        refine pe_tryE (k := j) o (h.tb.tr cs e3) lm h.tb.ats j1 (h.room.mono j2) (gl_ok h a2) L fun A outer s H E f' c' hrm => ?_
        refine (hr G j (c.lam scope) (LamX.lamCx X A outer s H E scope f' c') (fun cls d _ h => E cls d h) ⟨h.N, rfl, fun x hx => ?_, tj, hrm, fun z => by cases z⟩ ⟨o.P, o.w, o.K, o.mg, o.base, rfl, takes_of rfl rfl rfl rfl, o.nd, ?_⟩).1 e
        · exact absurd rfl (L.own _ (PySem.mem_of_lookup hx)).2
        · have := hrm.un
          show (A.deeper _).units + 100 < cLine
          omega
theorem each_ok (hr : SmOk r) (h : COk G k c X) (o : Ok G X W) : ∀ {es : List Expr}, Paired (fun e f => PE X e (T G W f)) es (es.map (r.e c))
  | [] => .nil
  | e :: es => .cons ((hr G k c X W h o).1 e) (each_ok hr h o)
theorem eachT_ok (hr : SmOk r) (h : COk G k c X) (o : Ok G X W) : ∀ {es : List Expr}, Paired (fun e f => PT X e (TB G W f)) es (es.map (r.t c))
  | [] => .nil
  | e :: es => .cons ((hr G k c X W h o).2 e) (eachT_ok hr h o)
theorem lowO_ok (hr : SmOk r) (h : COk G k c X) (o : Ok G X W) : ∀ {e : Option Expr}, PO X e (TP G W (pO (lowO r c e)))
  | none => po_n
  | some e => po_s ((hr G k c X W h o).1 e)
theorem ble_sz {α : Type} {l : List Expr} {f : Expr → α} (h : Nat.ble l.length 1000 = true) : decide ((l.map f).length ≤ szL) = true := by
  have := Nat.le_of_ble_eq_true h
  rw [List.length_map]
  refine decide_eq_true ?_
  show l.length ≤ 16777216
  omega
theorem stepE_ok (hr : SmOk r) (h : COk G k c X) (o : Ok G X W) (e : Expr) : PE X e (T G W (stepE r c e)) := by
  have ih := fun e => (hr G k c X W h o).1 e
  have it := fun e => (hr G k c X W h o).2 e
  unfold stepE
  split
  · exact pe_eName h o
  · exact pe_con0 pe_int fun ρ H => .int _
  · exact pe_con0 pe_str fun ρ H => .str _
  · exact pe_con0 pe_bl fun ρ H => .bl _
  · exact pe_con0 pe_non fun ρ H => .non
  · rename_i a op b p
    cases e1 : opInv op with
    | none => exact pe_eNo
    | some op' => rw [opInv_ok e1]; exact binT_ok h.room o (kOp_ok h.tb.bo op') (ih a) (ih b)
  · exact pe_neg (ih _)
  · exact pe_notE o (ih _)
  · exact pe_andE o (.cons (ih _) (each_ok hr h o)) (by simp)
  · exact pe_orE o (.cons (ih _) (each_ok hr h o)) (by simp)
  · exact pe_ifE (it _) (ih _) (ih _)
  · rename_i a op b p
    cases e1 : cmInv op with
    | none => exact pe_eNo
    | some op' =>
      cases e2 : notSet b with
      | false => exact pe_eNo
      | true => rw [cmInv_ok e1]; exact cmT_ok h.room o h.tb.eq op' (ih a) (ih b) (notSet_in e2)
  · rename_i a op op2 b d p
    cases e1 : cmInv op with
    | none => exact pe_eNo
    | some op' =>
      cases e2 : cmInv op2 with
      | none => exact pe_eNo
      | some op2' =>
        cases e3 : notSet d with
        | false => exact pe_eNo
        | true => rw [cmInv_ok e1, cmInv_ok e2]; exact pe_chainE o op' op2' (ih a) (ih b) (ih d) (notSet_in e3 _)
  · rename_i es kk p
    cases e1 : es.all notStar && Nat.ble es.length 1000 with
    | false => exact pe_eNo
    | true =>
      obtain ⟨a1, a2⟩ := and2 e1
      exact pe_tupE (pa_all (args_ok hr h o a1)) (by rw [List.length_map]) (ble_sz a2)
  · rename_i es p
    cases e1 : es.all notStar && Nat.ble es.length 1000 with
    | false => exact pe_eNo
    | true =>
      obtain ⟨a1, a2⟩ := and2 e1
      exact pe_lstE (pa_all (args_ok hr h o a1)) (ble_sz a2)
  · exact pe_slE o (ih _) (lowO_ok hr h o) (lowO_ok hr h o)
  · exact pe_revE o (ih _)
  · rename_i a b p _ _
    cases e1 : notSlice b with
    | false => exact pe_eNo
    | true => exact pe_ixE o (ih a) (ih b) (notSlice_ok e1)
  · rename_i ob n p
    cases e1 : notSup ob with
    | false => exact pe_eNo
    | true =>
      cases e2 : kLook c.tb.at_ n with
      | none => exact pe_eNo
      | some tb =>
        cases e3 : kIx c.tb.ats n with
        | none => exact pe_eNo
        | some a => exact pe_attr o h.room (h.tb.at_ _ (kLook_mem e2)) (by rw [← h.tb.ats]; exact kIx_ok e3) (ih ob) (notSup_ok e1 n X.env _)
  · exact semTry_ok hr h o
  · exact semCall_ok hr h o
  · exact semMeth_ok hr h o
  · rename_i el gs s q
    cases e1 : semX r c (.ListComp el gs s q) with
    | none => exact pe_eNo
    | some lf => exact pe_adopt (lc_pe o (semX_lc hr h o e1))
  · exact pe_eNo
theorem stepT_ok (hr : SmOk r) (h : COk G k c X) (o : Ok G X W) (e : Expr) : PT X e (TB G W (stepT r c e)) := by
  have ih := fun e => (hr G k c X W h o).1 e
  have it := fun e => (hr G k c X W h o).2 e
  unfold stepT
  split
  · exact pt_notB (it _)
  · exact (pw_andE (.cons (it _) (eachT_ok hr h o)) (by simp)).pt
  · exact (pw_orE (.cons (it _) (eachT_ok hr h o)) (by simp)).pt
  · rename_i a op b p
    cases e1 : cmInv op with
    | none => exact pt_bNo
    | some op' =>
      cases e2 : notSet b with
      | false => exact pt_bNo
      | true => rw [cmInv_ok e1]; exact ctT_ok h.room o h.tb.eq op' (ih a) (ih b) (notSet_in e2)
  · rename_i a op op2 b d p
    cases e1 : cmInv op with
    | none => exact pt_bNo
    | some op' =>
      cases e2 : cmInv op2 with
      | none => exact pt_bNo
      | some op2' =>
        cases e3 : notSet d with
        | false => exact pt_bNo
        | true => rw [cmInv_ok e1, cmInv_ok e2]; exact pt_chainE o op' op2' (ih a) (ih b) (ih d) (notSet_in e3 _)
  · cases e1 : byVal e with
    | false => exact pt_bNo
    | true => exact pt_v o (ih e) (byVal_ok e1 X.env)
theorem sem_ok : ∀ n : Nat, SmOk (sem n)
  | 0 => fun G k c X W h o => ⟨fun e => pe_eNo, fun e => pt_bNo⟩
  | n + 1 => fun G k c X W h o => ⟨fun e => stepE_ok (sem_ok n) h o e, fun e => stepT_ok (sem_ok n) h o e⟩
end
end
end Lt

end
section
set_option Elab.async false
set_option linter.all false
set_option maxRecDepth 100000
set_option maxHeartbeats 4000000
/-! Lt: further facts of the top. -/
namespace Lt
noncomputable section
open PySem PySem.Spec PyProof.Rows L2
def tys : List Ty := [.non, .bool, .int, .str, .list, .tuple, .dict, .set]
theorem tys_all (t : Ty) : t ∈ tys := by cases t <;> decide
inductive Fb where
  /-- an own class, asked by isinstance -/
  | ins (x : Str)
  /-- two own classes beside each other -/
  | two (x y : Str)
def Fb.ok (K : W.Frag) : Fb → Bool
  | .ins x => He.eqO (W.findIn K (.ref (He.ga K x)) "__class__") (some (some (.builtin "object.__class__"))) && (He.eqO (W.specialIn K (.builtin "object.__class__") "__get__") (some (some (.builtin "getset_descriptor.__get__"))) &&
      (decide (W.takesIn K (.builtin "object.__class__") = some true) && (decide (W.mroIn K (He.ga K x) (.type "object") = some true) && (decide (W.kitOne K (.ref (He.ga K x)) (.ref (He.ga K x)) = some true) &&
        tys.all fun t => decide (W.kitOne K (.ref (He.ga K x)) (.type t.nm) = some false) && decide (W.kitOne K (.type t.nm) (.ref (He.ga K x)) = some false)))))
  | .two x y => decide (W.kitOne K (.ref (He.ga K x)) (.ref (He.ga K y)) = some false)
abbrev AlX : Type := He.AlD × Bool
def obsX (fa : List He.Fa) (fb : List Fb) (fn : List He.DefD) (K : W.Frag) : AlX := (He.obsD fa fn K, fb.all fun f => f.ok K)
def SaysX (fa : List He.Fa) (fb : List Fb) (fn : List He.DefD) (K : W.Frag) : Prop := obsX fa fb fn K = (He.valD fn, true)
def obsXG (n : Nat) (fa : List He.Fa) (fb : List Fb) (fn : List He.DefD) (g : Addr → Option Obj) : AlX := obsX fa fb fn (He.frG g (He.asD g n))
def hookX (n : Nat) (fa : List He.Fa) (fb : List Fb) (fn : List He.DefD) : W.Hook := ⟨AlX, fun s => obsXG n fa fb fn s.heap.get?, fun _ => (He.valD fn, true), fun _ h => ∃ K : W.Frag, K.In h ∧ SaysX fa fb fn K, fun _ _ e => ⟨_, He.frG_in, e⟩, fun _ _ _ ⟨K, i, c⟩ st => ⟨K, W.Frag.In.keeps i st, c⟩⟩
theorem obsXG_eq {n : Nat} {fa : List He.Fa} {fb : List Fb} {fn : List He.DefD} {g : Addr → Option Obj} {s : Shared} (h : ∀ a, g a = s.heap.get? a) : obsXG n fa fb fn g = (hookX n fa fb fn).obs s := by
  obtain rfl : g = s.heap.get? := funext h
  rfl
section
variable {fa : List He.Fa} {fb : List Fb} {fn : List He.DefD} {K : W.Frag} {G : GC}
theorem SaysX.old (c : SaysX fa fb fn K) : He.SaysD fa fn K := congrArg Prod.fst c
theorem SaysX.new (c : SaysX fa fb fn K) (i : Nat) {f : Fb} (h : fb[i]? = some f) : f.ok K = true := List.all_eq_true.mp (congrArg Prod.snd c) f (List.mem_of_getElem? h)
theorem ins_ok {x : Str} (h : (Fb.ins x).ok K = true) (cl : Cls K (He.ga K x)) : C8.InsC K (He.ga K x) ∧ ∀ t : Ty, W.kitOne K (.ref (He.ga K x)) (.type t.nm) = some false ∧ W.kitOne K (.type t.nm) (.ref (He.ga K x)) = some false := by
  obtain ⟨h1, h⟩ := and2 h
  obtain ⟨h2, h⟩ := and2 h
  obtain ⟨h3, h⟩ := and2 h
  obtain ⟨h4, h⟩ := and2 h
  obtain ⟨h5, h6⟩ := and2 h
  refine ⟨⟨cl, He.eqO_ok h1, He.eqO_ok h2, of_decide_eq_true h3, of_decide_eq_true h4, of_decide_eq_true h5⟩, fun t => ?_⟩
  obtain ⟨a, b⟩ := and2 (List.all_eq_true.mp h6 t (tys_all t))
  exact ⟨of_decide_eq_true a, of_decide_eq_true b⟩
/-- one own class -/
theorem isi_one {c : Nat} {x : Str} (hc : G.gt[c]? = some x) (hm : G.mg x = some (.ref (He.ga G.K x))) (cl : Cls G.K (He.ga G.K x)) (h : (Fb.ins x).ok G.K = true) : IsiF G [c] := by
  obtain ⟨h1, h2⟩ := ins_ok h cl
  refine ⟨fun d hd => ?_, fun d hd d' hd' y C y' C' g1 m1 g2 m2 => ?_⟩
  · cases List.mem_singleton.mp hd
    exact ⟨x, _, hc, hm, h1, h2⟩
  · cases List.mem_singleton.mp hd
    cases List.mem_singleton.mp hd'
    rw [hc] at g1 g2
    cases g1
    cases g2
    rw [hm] at m1 m2
    cases m1
    cases m2
    rw [h1.me]
    simp
def fNo : Fn := fun _ _ => .no
theorem gm_cl {k i : Nat} {x : Str} {a : Addr} (h1 : G.gt[i]? = some x) (h2 : G.mg x = some (.ref a)) (h3 : W.keepIn G.K (.ref a) = true) : GmOk G k x (.fn i fNo) := ⟨a, h1, h2, h3, fun X W ok hr pins σ H s us vs Q I r ⟨ρ, S, ds, _, _, p⟩ => p.elim⟩
theorem eqv_of {c k : Nat} {x : Str} {m : Fn} {f : Addr} (hc : G.gt[c]? = some x) (hm : G.mg x = some (.ref (He.ga G.K x))) (M : Meth G.K (He.ga G.K x) "__eq__" f) (cv : CallV G k (.ref f) m) : EqV G k c m := ⟨x, _, f, hc, hm, M, cv⟩
end
end
end Lt

end
section
set_option Elab.async false
set_option linter.all false
set_option maxRecDepth 100000
set_option maxHeartbeats 4000000
/-! Lt, part 14: the semantics of statements, sound. -/
namespace Lt
noncomputable section
open PySem PySem.Spec PyProof.Rows L2

def notComp : Expr → Bool
  | .ListComp _ _ _ _ => false
  | .SetComp _ _ _ _ => false
  | .DictComp _ _ _ _ _ => false
  | _ => true
def notTup : Expr → Bool
  | .Tuple _ _ _ => false
  | _ => true
section
variable (r : Sm)
def C.lcl (c : C) (x : Str) : Bool := match kLook c.sc.names x with
  | some .local => true
  | _ => false
/-- the two places of a, b = .., .. -/
def parB (c : C) (x y : Str) (px py : Pos) (a b : Expr) : Bool :=
  isFn c.sc.kind && (c.lcl x && (c.lcl y && (Nat.beq py.line px.line && (!keyEq x y && (notStar a && (notStar b && (!([a, b].all (foldedForSure 8)) && !([a, b].all (constantsAlone 8)))))))))
/-- the three places of a, b, c = .., .., .. -/
def par3B (c : C) (x y z : Str) (px py pz : Pos) (es : List Expr) : Bool :=
  isFn c.sc.kind && (c.lcl x && (c.lcl y && (c.lcl z && (Nat.beq py.line px.line && (Nat.beq pz.line px.line && (!keyEq x y && (!keyEq x z && (!keyEq y z && (es.all notStar && (!(es.all (foldedForSure 8)) && !(es.all (constantsAlone 8))))))))))))
def C.cel (c : C) (x : Str) : Bool := match kLook c.sc.names x with
  | some .cell => true
  | _ => false
def celT (c : C) : Expr → Bool
  | .Name x _ => c.cel x
  | _ => false
/-- a tuple is made, and unpacked -/
def noSwapB (c : C) (es : List Expr) : Bool := (!(es.length == 2 || es.length == 3)) || es.any (celT c)
def sAsgT (c : C) (es : List Expr) (kk : Nat) (pp : Pos) (e : Expr) : SS := match noSwapB c es, tgN 8 c (.Tuple es kk pp) with
  | true, some g => sAsg g.1 (r.e c e)
  | _, _ => sNo
def bOf (o : Operator) : Option Op := match opInv o with
  | some .add => some .add
  | some .sub => some .sub
  | some .mul => some .mul
  | some .fdiv => some .fdiv
  | _ => none
def sAsgE (c : C) : Expr → Expr → SS
  | .Name x _, e => (match kIx c.N x, c.sto x with
    | some i, true => (match semX r c e with
      | some lf => sSet i (eAlc lf)
      | none => (match notComp e with
        | true => sSet i (r.e c e)
        | false => sNo))
    | _, _ => sNo)
  | .Tuple [.Name x px, .Name y py] kk pp, .Tuple [a, b] k2 p2 => (match kIx c.N x, kIx c.N y, parB c x y px py a b with
    | some i, some j, true => (match Nat.beq i j with
      | false => sPar i j (r.e c a) (r.e c b)
      | true => sNo)
    | _, _, _ => sAsgT r c [.Name x px, .Name y py] kk pp (.Tuple [a, b] k2 p2))
  | .Tuple [.Name x px, .Name y py, .Name z pz] kk pp, .Tuple [a, b, d] k2 p2 => (match kIx c.N x, kIx c.N y, kIx c.N z, par3B c x y z px py pz [a, b, d] with
    | some i, some j, some l, true => (match Nat.beq i j, Nat.beq i l, Nat.beq j l with
      | false, false, false => sPar3 i j l (r.e c a) (r.e c b) (r.e c d)
      | _, _, _ => sNo)
    | _, _, _, _ => sAsgT r c [.Name x px, .Name y py, .Name z pz] kk pp (.Tuple [a, b, d] k2 p2))
  | .Tuple es kk pp, .Tuple vs k2 p2 => sAsgT r c es kk pp (.Tuple vs k2 p2)
  | .Tuple es kk pp, e => (match notTup e, tgN 8 c (.Tuple es kk pp) with
    | true, some g => sAsg g.1 (r.e c e)
    | _, _ => sNo)
  | .Attribute o n _, e => (match notSup o, kLook c.tb.fl n, kIx c.tb.ats n with
    | true, some okc, some a => sFldE okc a (r.e c o) (r.e c e)
    | _, _, _ => sNo)
  | .Subscript o i _, e => (match notSlice i with
    | true => sIxE (r.e c o) (r.e c i) (r.e c e)
    | false => sNo)
  | _, _ => sNo
end
def stS (r : Sm) (rb : C → List Stmt → SS) (c : C) : Stmt → SS
  | .Pass _ => sNx
  | .Break _ => sBk
  | .Continue _ => sCt
  | .Expr (.Constant (.str _) _ _) _ => sNx
  | .Expr e _ => (match notComp e with
    | true => sDrop (r.e c e)
    | false => sNo)
  | .Return (some e) _ => sRet (r.e c e)
  | .Return none _ => sRetN
  | .If t a b _ => sIf (r.t c t) (rb c a) (rb c b)
  | .While t a [] _ => sWh (r.t c t) (rb c a)
  | .For tg it a [] _ => (match itE' r c tg it, tgN 8 c tg with
    | some f, some g => sFor f g.1 (rb c a)
    | _, _ => sNo)
  | .Assign [tg] e _ => sAsgE r c tg e
  | .AugAssign (.Name x _) o e _ => (match kIx c.N x, c.sto x, opInv o with
    | some i, true, some o => sAug o i (r.e c e)
    | _, _, _ => sNo)
  | .Raise (some (.Call (.Name x _) (e :: es) [] _)) none _ => (match c.gl x && (plainNm x && (e :: es).all notStar), kLook c.tb.xc x with
    | true, some q => sRz q.c q.n (xIt q.l) ((e :: es).map (r.e c))
    | _, _ => sNo)
  | _ => sNo
def semB (r : Sm) : Nat → C → List Stmt → SS
  | 0, _, _ => sNo
  | n + 1, c, ss => sAll (ss.map (stS r (semB r n) c))
section
variable {G : GC} {k : Nat} {c : C} {X : Cx} {W : TW} {x : Str} {pos p : Pos} {r : Sm}
theorem notComp_ok {e : Expr} (h : notComp e = true) (t : Option Expr) (l : Nat) (env : PySem.Env) : swapsWith e t l env = pure false := by
  cases e <;> first | rfl | cases h
theorem swaps_attr (e o : Expr) (n : Str) (q : Pos) (l : Nat) (env : PySem.Env) : swapsWith e (some (.Attribute o n q)) l env = pure false := by
  cases e <;> rfl
theorem swaps_sub (e o i : Expr) (q : Pos) (l : Nat) (env : PySem.Env) : swapsWith e (some (.Subscript o i q)) l env = pure false := by
  cases e <;> rfl
theorem swaps_tup (e : Expr) (es : List Expr) (kk : Nat) (q : Pos) (l : Nat) (env : PySem.Env) : swapsWith e (some (.Tuple es kk q)) l env = pure false := by
  cases e <;> rfl
theorem stores_tup {e : Expr} (h : notTup e = true) (es : List Expr) (kk : Nat) (q : Pos) (env : PySem.Env) : swappedStores [.Tuple es kk q] e env = pure none := by
  cases e <;> first | rfl | cases h
theorem stores_sub (e o i : Expr) (q : Pos) (env : PySem.Env) : swappedStores [.Subscript o i q] e env = pure none := by
  cases e <;> rfl
theorem lcl_ok {c : C} {x : Str} (h : c.lcl x = true) : c.sc.names.lookup x = some .local := by
  unfold C.lcl at h
  cases e : kLook c.sc.names x with
  | none => rw [e] at h; cases h
  | some kd =>
    rw [e] at h
    cases kd with
    | «local» => exact kLook_lookup e
    | _ => cases h
theorem isFn_ok {s : ScopeKind} (h : isFn s = true) : s = .function := by
  cases s <;> first | rfl | cases h
def starQ : Expr → Bool
  | .Starred .. => true
  | _ => false
theorem starQ_of {a : Expr} (h : notStar a = true) : starQ a = false := by
  cases a with
  | Starred v p => exact Bool.noConfusion (show false = true from h)
  | _ => rfl
theorem anyStar {a b : Expr} (h6 : notStar a = true) (h7 : notStar b = true) : ([a, b].any starQ) = false := by
  show (starQ a || (starQ b || false)) = false
  rw [starQ_of h6, starQ_of h7]
  rfl
theorem par_ok (h : COk G k c X) {x y : Str} {px py pt : Pos} {kt k2 : Nat} {pt2 : Pos} {a b : Expr} (hp : parB c x y px py a b = true) :
    swappedStores [.Tuple [.Name x px, .Name y py] kt pt] (.Tuple [a, b] k2 pt2) X.env = pure (some [x, y]) ∧ X.env.scope.names.lookup x = some .local ∧ X.env.scope.names.lookup y = some .local ∧ notStar a = true ∧ notStar b = true := by
  obtain ⟨h1, hp⟩ := and2 hp
  obtain ⟨h2, hp⟩ := and2 hp
  obtain ⟨h3, hp⟩ := and2 hp
  obtain ⟨h4, hp⟩ := and2 hp
  obtain ⟨h5, hp⟩ := and2 hp
  obtain ⟨h6, hp⟩ := and2 hp
  obtain ⟨h7, hp⟩ := and2 hp
  obtain ⟨h8, h9⟩ := and2 hp
  have l1 : X.env.scope.names.lookup x = some .local := by rw [h.sc]; exact lcl_ok h2
  have l2 : X.env.scope.names.lookup y = some .local := by rw [h.sc]; exact lcl_ok h3
  refine ⟨?_, l1, l2, h6, h7⟩
  have bk : X.env.blockKind = .function := by
    unfold Env.blockKind
    rw [h.sc, isFn_ok h1]
    rfl
  have k1 : X.env.kindOf x = some .local := l1
  have k2 : X.env.kindOf y = some .local := l2
  have ne : x ≠ y := key_ne (by simpa using h5)
  have ln : py.line = px.line := Nat.eq_of_beq_eq_true h4
  have nb : (y == x) = false := beq_eq_false_iff_ne.mpr (Ne.symm ne)
  unfold swappedStores
  dsimp only [pure_bind]
  refine (if_neg ?_).trans ?_
  · rw [bk]
    intro z
    cases z
  refine (if_neg ?_).trans ?_
  · intro z
    have e : _ = [a, b].any starQ := rfl
    exact Bool.noConfusion ((anyStar h6 h7).symm.trans (e.symm.trans z))
  refine (if_neg ?_).trans ?_
  · simp [k1, k2, ln, ne, nb, List.eraseDups_cons, Expr.pos, Ne.symm ne]
  refine (if_neg (fun z => ?_)).trans ?_
  · rw [z] at h8; cases h8
  refine (if_neg (fun z => ?_)).trans ?_
  · rw [z] at h9; cases h9
  simp [k1, k2, ln, Expr.pos]
theorem anyStar3 {es : List Expr} (h : es.all notStar = true) : (es.any starQ) = false := by
  induction es with
  | nil => rfl
  | cons a es ih =>
    obtain ⟨h1, h2⟩ := and2 (show (notStar a && es.all notStar) = true from h)
    show (starQ a || es.any starQ) = false
    rw [starQ_of h1, ih h2]
    rfl
theorem par3_ok (h : COk G k c X) {x y z : Str} {px py pz pt : Pos} {kt k2 : Nat} {pt2 : Pos} {a b d : Expr} (hp : par3B c x y z px py pz [a, b, d] = true) :
    swappedStores [.Tuple [.Name x px, .Name y py, .Name z pz] kt pt] (.Tuple [a, b, d] k2 pt2) X.env = pure (some [x, y, z]) ∧ X.env.scope.names.lookup x = some .local ∧ X.env.scope.names.lookup y = some .local ∧ X.env.scope.names.lookup z = some .local ∧ notStar a = true ∧ notStar b = true ∧ notStar d = true := by
  obtain ⟨h1, hp⟩ := and2 hp
  obtain ⟨h2, hp⟩ := and2 hp
  obtain ⟨h3, hp⟩ := and2 hp
  obtain ⟨h3', hp⟩ := and2 hp
  obtain ⟨h4, hp⟩ := and2 hp
  obtain ⟨h4', hp⟩ := and2 hp
  obtain ⟨h5, hp⟩ := and2 hp
  obtain ⟨h5', hp⟩ := and2 hp
  obtain ⟨h5'', hp⟩ := and2 hp
  obtain ⟨h6, hp⟩ := and2 hp
  obtain ⟨h8, h9⟩ := and2 hp
  have l1 : X.env.scope.names.lookup x = some .local := by rw [h.sc]; exact lcl_ok h2
  have l2 : X.env.scope.names.lookup y = some .local := by rw [h.sc]; exact lcl_ok h3
  have l3 : X.env.scope.names.lookup z = some .local := by rw [h.sc]; exact lcl_ok h3'
  obtain ⟨s1, s2⟩ := and2 (show (notStar a && [b, d].all notStar) = true from h6)
  obtain ⟨s2, s3⟩ := and2 (show (notStar b && [d].all notStar) = true from s2)
  obtain ⟨s3, _⟩ := and2 (show (notStar d && [].all notStar) = true from s3)
  refine ⟨?_, l1, l2, l3, s1, s2, s3⟩
  have bk : X.env.blockKind = .function := by
    unfold Env.blockKind
    rw [h.sc, isFn_ok h1]
    rfl
  have k1 : X.env.kindOf x = some .local := l1
  have k2 : X.env.kindOf y = some .local := l2
  have k3 : X.env.kindOf z = some .local := l3
  have ne : x ≠ y := key_ne (by simpa using h5)
  have ne2 : x ≠ z := key_ne (by simpa using h5')
  have ne3 : y ≠ z := key_ne (by simpa using h5'')
  have ln : py.line = px.line := Nat.eq_of_beq_eq_true h4
  have ln2 : pz.line = px.line := Nat.eq_of_beq_eq_true h4'
  unfold swappedStores
  dsimp only [pure_bind]
  refine (if_neg ?_).trans ?_
  · rw [bk]
    intro q
    cases q
  refine (if_neg ?_).trans ?_
  · intro q
    have e : _ = [a, b, d].any starQ := rfl
    exact Bool.noConfusion ((anyStar3 h6).symm.trans (e.symm.trans q))
  refine (if_neg ?_).trans ?_
  · simp [k1, k2, k3, ln, ln2, ne, ne2, ne3, List.eraseDups_cons, Expr.pos, Ne.symm ne, Ne.symm ne2, Ne.symm ne3]
  refine (if_neg (fun q => ?_)).trans ?_
  · rw [q] at h8; cases h8
  refine (if_neg (fun q => ?_)).trans ?_
  · rw [q] at h9; cases h9
  simp [k1, k2, k3, ln, ln2, Expr.pos]
theorem filterMap_lt {α β : Type} {f : α → Option β} : ∀ {l : List α} {a : α}, a ∈ l → f a = none → (l.filterMap f).length < l.length
  | b :: l, a, h, e => by
    have le := List.length_filterMap_le f l
    rcases List.mem_cons.mp h with rfl | h
    · rw [List.filterMap_cons_none e]
      exact Nat.lt_succ_of_le le
    · have := filterMap_lt h e
      cases hb : f b with
      | none => rw [List.filterMap_cons_none hb]; exact Nat.lt_succ_of_lt this
      | some x => rw [List.filterMap_cons_some hb]; exact Nat.succ_lt_succ this
theorem noSwap_ok (h : COk G k c X) {es vs : List Expr} {kk k2 : Nat} {pp p2 : Pos} (hn : noSwapB c es = true) : swappedStores [.Tuple es kk pp] (.Tuple vs k2 p2) X.env = pure none := by
  unfold swappedStores
  dsimp only [pure_bind]
  rcases Bool.or_eq_true_iff.mp (show ((!(es.length == 2 || es.length == 3)) || es.any (celT c)) = true from hn) with q | q
  · exact if_pos (by rw [q]; rfl)
  · split
    · rfl
    · split
      · rfl
      · refine if_pos ?_
        obtain ⟨e, he, hc⟩ := List.any_eq_true.mp q
        cases e with
        | Name x px =>
          have hk : kLook c.sc.names x = some .cell := by
            have : c.cel x = true := hc
            unfold C.cel at this
            cases e : kLook c.sc.names x with
            | none => rw [e] at this; cases this
            | some kd =>
              rw [e] at this
              cases kd with
              | cell => rfl
              | _ => cases this
          have k1 : X.env.kindOf x = some .cell := by
            show X.env.scope.names.lookup x = some .cell
            rw [h.sc]
            exact kLook_lookup hk
          refine Bool.or_eq_true_iff.mpr (.inl ?_)
          rw [bne_iff_ne]
          exact Nat.ne_of_lt (filterMap_lt he (by simp [k1]))
        | _ => exact Bool.noConfusion (show false = true from hc)
end
end
end Lt

end
section
set_option Elab.async false
set_option linter.all false
set_option maxRecDepth 100000
set_option maxHeartbeats 4000000
/-! Lt, part 15: the semantics of statements, sound. -/
namespace Lt
noncomputable section
open PySem PySem.Spec PyProof.Rows L2
section
variable {G : GC} {k : Nat} {c : C} {X : Cx} {W : TW} {x : Str} {pos p : Pos} {r : Sm}
theorem opOf_bOf {o : Operator} {o' : Op} (h : opInv o = some o') : o = opOf o' := opInv_ok h
theorem sub_assign {o i : Expr} {q : Pos} (h : notSlice i = true) (env : PySem.Env) (v : Value) : assign (.Subscript o i q) env v = (do
      let ov ← holding [v] (eval o env)
      let iv ← holding [v, ov] (eval i env)
      standAt q
      holding [v, ov, iv] (setItem ov iv v)
      release [v, ov, iv] []) := by
  cases i <;> first | rfl | exact Bool.noConfusion (show false = true from h)
theorem asgT_ok (hr : SmOk r) (h : COk G k c X) (o : Ok G X W) (es : List Expr) (kk : Nat) (q : Pos) (vs : List Expr) (k2 : Nat) (p2 : Pos) : PS X (.Assign [.Tuple es kk q] (.Tuple vs k2 p2) pos) (TS' G W (sAsgT r c es kk q (.Tuple vs k2 p2))) := by
  unfold sAsgT
  cases e1 : noSwapB c es with
  | false => exact ps_no
  | true =>
    cases e2 : tgN 8 c (.Tuple es kk q) with
    | none => exact ps_no
    | some g => exact ps_asgT (is := g.2) (tgN_ok h o (g := g.1) (is := g.2) e2) (nostarG_ok rfl) ((hr G k c X W h o).1 (.Tuple vs k2 p2)) rfl (noSwap_ok h e1)
theorem asgE_ok (hr : SmOk r) (h : COk G k c X) (o : Ok G X W) (tg e : Expr) : PS X (.Assign [tg] e pos) (TS' G W (sAsgE r c tg e)) := by
  have ih := fun e => (hr G k c X W h o).1 e
  unfold sAsgE
  split
  · rename_i x p
    cases e1 : kIx c.N x with
    | none => exact ps_no
    | some i =>
      cases e2 : c.sto x with
      | false => exact ps_no
      | true =>
        dsimp only
        obtain ⟨s1, s2⟩ := sto_ok h e2
        have hi : X.N[i]? = some x := by rw [h.N]; exact kIx_ok e1
        cases e3 : semX r c e with
        | some lf => exact lc_set o (semX_lc hr h o e3) hi s1 s2
        | none =>
          dsimp only
          cases e4 : notComp e with
          | false => exact ps_no
          | true => exact ps_setN o.nd hi s1 (ih e) (notComp_ok e4 _ _ _) s2
  · rename_i x px y py kk pp a b k2 p2
    cases e1 : kIx c.N x with
    | none => exact asgT_ok hr h o _ _ _ _ _ _
    | some i =>
      cases e2 : kIx c.N y with
      | none => exact asgT_ok hr h o _ _ _ _ _ _
      | some j =>
        cases e3 : parB c x y px py a b with
        | false => exact asgT_ok hr h o _ _ _ _ _ _
        | true =>
          dsimp only
          cases e4 : Nat.beq i j with
          | true => exact ps_no
          | false =>
            obtain ⟨q1, q2, q3, q4, q5⟩ := par_ok h e3
            exact ps_parE o (by rw [h.N]; exact kIx_ok e1) (by rw [h.N]; exact kIx_ok e2) (Nat.ne_of_beq_eq_false e4) q2 q3 ⟨ih a, nostar_ok q4⟩ ⟨ih b, nostar_ok q5⟩ q1
  · rename_i x px y py z pz kk pp a b d k2 p2
    cases e1 : kIx c.N x with
    | none => exact asgT_ok hr h o _ _ _ _ _ _
    | some i =>
      cases e2 : kIx c.N y with
      | none => exact asgT_ok hr h o _ _ _ _ _ _
      | some j =>
        cases e3 : kIx c.N z with
        | none => exact asgT_ok hr h o _ _ _ _ _ _
        | some l =>
          cases e4 : par3B c x y z px py pz [a, b, d] with
          | false => exact asgT_ok hr h o _ _ _ _ _ _
          | true =>
            dsimp only
            cases e5 : Nat.beq i j with
            | true => exact ps_no
            | false =>
              cases e6 : Nat.beq i l with
              | true => exact ps_no
              | false =>
                cases e7 : Nat.beq j l with
                | true => exact ps_no
                | false =>
                  obtain ⟨q1, q2, q3, q4, q5, q6, q7⟩ := par3_ok h e4
                  exact ps_par3E o (by rw [h.N]; exact kIx_ok e1) (by rw [h.N]; exact kIx_ok e2) (by rw [h.N]; exact kIx_ok e3) (Nat.ne_of_beq_eq_false e5) (Nat.ne_of_beq_eq_false e6) (Nat.ne_of_beq_eq_false e7) q2 q3 q4 ⟨ih a, nostar_ok q5⟩ ⟨ih b, nostar_ok q6⟩ ⟨ih d, nostar_ok q7⟩ q1
  · exact asgT_ok hr h o _ _ _ _ _ _
  · rename_i es kk pp _ _ _
    cases e1 : notTup e with
    | false => exact ps_no
    | true =>
      cases e2 : tgN 8 c (.Tuple es kk pp) with
      | none => exact ps_no
      | some g => exact ps_asgT (is := g.2) (tgN_ok h o (g := g.1) (is := g.2) e2) (nostarG_ok rfl) (ih e) (swaps_tup e es kk pp pos.line X.env) (stores_tup e1 es kk pp X.env)
  · rename_i ob n q
    cases e1 : notSup ob with
    | false => exact ps_no
    | true =>
      cases e2 : kLook c.tb.fl n with
      | none => exact ps_no
      | some okc =>
        cases e3 : kIx c.tb.ats n with
        | none => exact ps_no
        | some a => exact ps_fldE o (h.tb.fl _ (kLook_mem e2)) (by rw [← h.tb.ats]; exact kIx_ok e3) (ih ob) (ih e) (swaps_attr e ob n q pos.line X.env)
  · rename_i ob i q
    cases e1 : notSlice i with
    | false => exact ps_no
    | true => exact ps_ixE o (ih ob) (ih i) (ih e) (swaps_sub e ob i q pos.line X.env) (stores_sub e ob i q X.env) (sub_assign e1 _)
  · exact ps_no
/-- .. of statements -/
theorem stS_ok (hr : SmOk r) (h : COk G k c X) (o : Ok G X W) (po : PassesOwn (model X.prog X.w) X.A X.env X.xe) {rb : C → List Stmt → SS} (hb : ∀ ss, PSs X ss (TS' G W (rb c ss))) (st : Stmt) : PS X st (TS' G W (stS r rb c st)) := by
  have ih := fun e => (hr G k c X W h o).1 e
  have it := fun e => (hr G k c X W h o).2 e
  unfold stS
  split
  · exact ps_pass'
  · exact ps_break'
  · exact ps_cont'
  · exact ps_doc'
  · rename_i e p _
    cases e1 : notComp e with
    | false => exact ps_no
    | true => exact ps_drop (ih e) (notComp_ok e1 _ _ _)
  · exact ps_ret' (ih _)
  · exact ps_retN'
  · exact ps_if' (it _) (hb _) (hb _)
  · exact ps_whE po (it _) (hb _)
  · rename_i tg itr a p
    cases e1 : itE' r c tg itr with
    | none => exact ps_no
    | some f =>
      cases e2 : tgN 8 c tg with
      | none => exact ps_no
      | some g =>
        obtain ⟨j1, j2⟩ := itE_ok hr h o e1
        exact ps_forE (is := g.2) o po j1 (tgN_ok h o (g := g.1) (is := g.2) e2) (hb _) (j2 _)
  · exact asgE_ok hr h o _ _
  · rename_i x q op e p
    cases e1 : kIx c.N x with
    | none => exact ps_no
    | some i =>
      cases e2 : c.sto x with
      | false => exact ps_no
      | true =>
        cases e3 : opInv op with
        | none => exact ps_no
        | some op' =>
          obtain ⟨s1, s2⟩ := sto_ok h e2
          rw [opInv_ok e3]
          exact ps_augE o (by rw [h.N]; exact kIx_ok e1) s1 s2 (ih e)
  · rename_i x q e es pc pr
    cases e1 : c.gl x && (plainNm x && (e :: es).all notStar) with
    | false => exact ps_no
    | true =>
      cases e2 : kLook c.tb.xc x with
      | none => exact ps_no
      | some z =>
        dsimp only
        obtain ⟨a1, a2⟩ := and2 e1
        obtain ⟨a2, a3⟩ := and2 a2
        obtain ⟨n1, n2, n3⟩ := plain_ok a2
        obtain ⟨b1, j, j1, j2⟩ := h.tb.xc _ (kLook_mem e2)
        have ha := args_ok hr h o a3
        obtain ⟨s1, s2⟩ := and2 (show (notStar e && es.all notStar) = true from a3)
        exact ps_rz o (h.room.mono j1) j2 (gl_ok h a1) b1 n1 (pa_all ha) (nostar_ok s1 _ _) fun q => args_plain (args_ok hr h o s2)
  · exact ps_no
theorem stS_each {X : Cx} {f : Stmt → SS} (i1 : ∀ st, PS X st (TS' G W (f st))) : ∀ ss : List Stmt, Paired (fun st g => PS X st (TS' G W g)) ss (ss.map f)
  | [] => .nil
  | st :: ss => .cons (i1 st) (stS_each i1 ss)
theorem semB_ok (hr : SmOk r) (h : COk G k c X) (o : Ok G X W) (po : PassesOwn (model X.prog X.w) X.A X.env X.xe) : ∀ (n : Nat) (ss : List Stmt), PSs X ss (TS' G W (semB r n c ss))
  | 0, _ => pss_mono pss_never fun E σ H ⟨ρ, η, S, r, en, p⟩ => p
  | n + 1, ss => pss_all (stS_each (stS_ok hr h o po (semB_ok hr h o po n)) ss)
end
end
end Lt

end
section
set_option Elab.async false
set_option linter.all false
set_option maxRecDepth 100000
set_option maxHeartbeats 4000000
/-! Lt, part 16: a def by its body. -/
namespace Lt
noncomputable section
open PySem PySem.Spec PyProof.Rows L2

def runF : RS → R D
  | .nx _ S => .ok .non S
  | .rt d S => .ok d S
  | .exc c fs _ S => .exc c fs S
  | _ => .no
/-- n parameters, l slots -/
def fnB (n l : Nat) (b : SS) : Fn := fun ds S => match Nat.beq ds.length n with
  | true => runF (b (ds.map some ++ List.replicate (l - n) none) S)
  | false => .no
theorem fnB_arity (n l : Nat) (b : SS) : Arity (fnB n l b) n := fun ds S h => by
  unfold fnB
  cases e : Nat.beq ds.length n with
  | true => exact absurd (Nat.eq_of_beq_eq_true e) h
  | false => rfl
section
variable {G : GC} {k : Nat}
theorem start_env {ρ : List Addr} {H : Hp} {ds : List D} {vs : List V} {N : List Str} {n : Nat} (d : Dens G ρ H ds vs) (hn : vs.length = n) : EnvOk G ρ H (ds.map some ++ List.replicate (N.length - n) none) (L2.start N vs) := by
  unfold L2.start
  rw [hn]
  refine ⟨by simp [d.length], fun i x h => ?_⟩
  by_cases hi : i < ds.length
  · rw [List.getElem?_append_left (by simpa using hi), List.getElem?_map] at h
    cases e : ds[i]? with
    | none => rw [e] at h; cases h
    | some y =>
      rw [e] at h
      cases h
      obtain ⟨v, h1, h2⟩ := pr_get d.pr e
      refine ⟨v, ?_, h2⟩
      rw [List.getElem?_append_left (by rw [List.length_map, ← d.length]; exact hi), List.getElem?_map, h1]
      rfl
  · rw [List.getElem?_append_right (by simpa using hi), List.getElem?_replicate] at h
    split at h <;> cases h
theorem fnG_body {qual : Str} {body : List Stmt} {scope : Scope} {f : Addr} {cdv : Value} {A : Around} {outer : List PySem.Env} {s : Shared} {H : Hp} {vs : List V} {Q : VK} {E : XK} {N ps : List Str} {tb : Tb} {lq : Bool} {m n : Nat} (S : FnScope N ps scope) (htb : TbOk G k tb) (hr : Room k (A.deeper (envOfC qual scope s.heap.objs.size f cdv)))
    (hlm : lq = true → LamOk G (cxOf (L2.CX G.P G.w) G.P G.w G.K G.mg G.base N qual scope f cdv A outer s H E) ∧ ∃ j, 0 < j ∧ j + 2 ≤ k ∧ TbOk G j tb) (hsp : spF G (fnB ps.length N.length (semB (sem m) n ⟨N, scope, none, tb, lq⟩ body)) ps.length vs H Q E) :
    ∃ t, PSs (cxOf (L2.CX G.P G.w) G.P G.w G.K G.mg G.base N qual scope f cdv A outer s H E) body t ∧ t { nx := fun _ H' => Q .non H', rt := Q } (L2.start N vs) H := by
  refine ⟨TS' G (fun cls d _ H => E cls d H) (semB (sem m) n ⟨N, scope, none, tb, lq⟩ body), ?_, ?_⟩
  · refine semB_ok (sem_ok m) (k := k) ⟨rfl, rfl, fun x => rfl, htb, hr, hlm⟩ ⟨rfl, rfl, rfl, rfl, rfl, rfl, takes_of rfl rfl rfl rfl, S.nd, ?_⟩ (passes_of rfl) n body
    have := hr.un
    show (A.deeper _).units + 100 < cLine
    omega
  · obtain ⟨hl, ρ, S0, ds, r, d, p⟩ := hsp
    refine ⟨ρ, _, S0, r, start_env d hl, ?_⟩
    unfold fnB at p
    have e1 : Nat.beq ds.length ps.length = true := by rw [d.length, hl]; exact Nat.beq_refl _
    rw [e1] at p
    dsimp only at p
    cases e : semB (sem m) n ⟨N, scope, none, tb, lq⟩ body (ds.map some ++ List.replicate (N.length - ps.length) none) S0 with
    | nx η S1 => rw [e] at p; exact fun ρ2 H2 σ2 g2 r2 _ => p ρ2 H2 .non g2 r2 .non
    | rt d S1 => rw [e] at p; exact p
    | bk η S1 => rw [e] at p; exact p.elim
    | ct η S1 => rw [e] at p; exact p.elim
    | exc c fs η S1 => rw [e] at p; exact fun ρ2 H2 σ2 x ca dx g r _ a b c => p ρ2 H2 x ca dx g r a b c
    | no => rw [e] at p; exact p.elim
theorem fnG_of {x qual : Str} {params : Arguments} {body : List Stmt} {scope : Scope} {dvs : List V} {kws : List (Str × V)} {f : Addr} {fd : FuncData} {N ps : List Str} {tb : Tb} {m n : Nat} (F : FunD G.K x qual params body scope dvs kws f fd) (S : FnScope N ps scope) (htb : TbOk G k tb) :
    FnG G (k + 1) f fd ps (fnB ps.length N.length (semB (sem m) n ⟨N, scope, none, tb, false⟩ body)) := by
  refine FunD.ok F S (fun vs H Q E h => h.1) fun cdv A outer s H vs Q E hr hsp => fnG_body S htb hr (fun z => by cases z) hsp
theorem lamOk_cx {CX : CXT} {N : List Str} {qual : Str} {scope : Scope} {f cc P : Addr} {cdv : Value} {A : Around} {outer : List PySem.Env} {s : Shared} {H : Hp} {E : XK} (e : cdv = .ref cc) (TB : LamX.TabB G.base G.mg cc P) (hm : (P, qual ++ ".<locals>." ++ "<lambda>") ∈ G.tabs) (hu : ∀ q ∈ G.tabs, q.1 = P → q.2 = qual ++ ".<locals>." ++ "<lambda>") :
    LamOk G (cxOf CX G.P G.w G.K G.mg G.base N qual scope f cdv A outer s H E) := ⟨cc, P, e, TB, hm, hu⟩
/-- .. with lambdas -/
theorem fnG_ofL {p : He.Defn} {x qual : Str} {params : Arguments} {body : List Stmt} {scope : Scope} {dvs : List V} {kws : List (Str × V)} {fd : FuncData} {N ps : List Str} {tb : Tb} {m n : Nat} (F : FunD G.K x qual params body scope dvs kws (He.fAd G.K p) fd) (S : FnScope N ps scope) (htb : TbOk G (k + 1) tb)
    (TB : LamX.TabB G.base G.mg (He.cT G.K p).1 (He.cT G.K p).2) (hm : ((He.cT G.K p).2, qual ++ ".<locals>." ++ "<lambda>") ∈ G.tabs) (hu : ∀ q ∈ G.tabs, q.1 = (He.cT G.K p).2 → q.2 = qual ++ ".<locals>." ++ "<lambda>") :
    FnG G (k + 1 + 2 + 1) (He.fAd G.K p) fd ps (fnB ps.length N.length (semB (sem m) n ⟨N, scope, none, tb, true⟩ body)) := by
  obtain ⟨oc, od, dV, kV, doc, pm, an, cdv, ct, osl, rfl, lk, hcd, _, _⟩ := F.ex
  obtain ⟨c, ec⟩ := He.codeIn_ref hcd
  have e2 : cdv = .ref (He.cT G.K p).1 := by
    rw [ec]
    exact congrArg Value.ref (He.codeOf_eq lk ec).symm
  have tk : TbOk G (k + 1 + 2) tb := htb.mono (Nat.le_add_right _ 2)
  refine fn_of lk hcd S (fun vs H Q E h => h.1) fun A outer s H vs Q E hr hsp => ?_
  have lm : (true = true) → LamOk G (cxOf (L2.CX G.P G.w) G.P G.w G.K G.mg G.base N qual scope (He.fAd G.K p) cdv A outer s H E) ∧ ∃ j, 0 < j ∧ j + 2 ≤ k + 1 + 2 ∧ TbOk G j tb :=
    fun _ => ⟨lamOk_cx e2 TB hm hu, k + 1, Nat.succ_pos k, Nat.le_refl _, htb⟩
  exact fnG_body (lq := true) S tk hr lm hsp
/-- parameters without defaults -/
def kDist : List Str → Bool
  | [] => true
  | x :: l => (l.all fun y => !keyEq y x) && kDist l
def plainP : Arguments → Bool
  | ⟨[], as, none, [], [], none, []⟩ => Nat.ble as.length 7 && kDist (as.map (·.arg))
  | _ => false
def parNames : Arguments → List Str
  | ⟨_, as, _, _, _, _, _⟩ => as.map (·.arg)
theorem kne {x y : Str} (h : (!keyEq y x) = true) : (y == x) = false := beq_ne (by simpa using h)
section
variable {x qual : Str} {body : List Stmt} {scope : Scope} {kV doc pm : Value} {an : Option Addr} {cdv ct : Value}
theorem pb0    :
    bindArgs (PySem.W.fnOf x qual ⟨[], [], none, [], [], none, []⟩ body scope .none kV doc pm an cdv ct) ⟨[], []⟩ = pure [] := by
  simp [bindArgs, PySem.W.fnOf, seqItems?, List.lookup]
  rfl
theorem pb1 {a : Arg}  {ua : Value} :
    bindArgs (PySem.W.fnOf x qual ⟨[], [a], none, [], [], none, []⟩ body scope .none kV doc pm an cdv ct) ⟨[ua], []⟩ = pure [(a.arg, ua)] := by
  simp [bindArgs, PySem.W.fnOf, seqItems?, List.lookup]
  rfl
theorem pb2 {a b : Arg} (h01 : (b.arg == a.arg) = false) {ua ub : Value} :
    bindArgs (PySem.W.fnOf x qual ⟨[], [a, b], none, [], [], none, []⟩ body scope .none kV doc pm an cdv ct) ⟨[ua, ub], []⟩ = pure [(a.arg, ua), (b.arg, ub)] := by
  simp [bindArgs, PySem.W.fnOf, seqItems?, List.lookup, h01]
  rfl
theorem pb3 {a b c : Arg} (h01 : (b.arg == a.arg) = false) (h02 : (c.arg == a.arg) = false) (h12 : (c.arg == b.arg) = false) {ua ub uc : Value} :
    bindArgs (PySem.W.fnOf x qual ⟨[], [a, b, c], none, [], [], none, []⟩ body scope .none kV doc pm an cdv ct) ⟨[ua, ub, uc], []⟩ = pure [(a.arg, ua), (b.arg, ub), (c.arg, uc)] := by
  simp [bindArgs, PySem.W.fnOf, seqItems?, List.lookup, h01, h02, h12]
  rfl
theorem pb4 {a b c d : Arg} (h01 : (b.arg == a.arg) = false) (h02 : (c.arg == a.arg) = false) (h03 : (d.arg == a.arg) = false) (h12 : (c.arg == b.arg) = false) (h13 : (d.arg == b.arg) = false) (h23 : (d.arg == c.arg) = false) {ua ub uc ud : Value} :
    bindArgs (PySem.W.fnOf x qual ⟨[], [a, b, c, d], none, [], [], none, []⟩ body scope .none kV doc pm an cdv ct) ⟨[ua, ub, uc, ud], []⟩ = pure [(a.arg, ua), (b.arg, ub), (c.arg, uc), (d.arg, ud)] := by
  simp [bindArgs, PySem.W.fnOf, seqItems?, List.lookup, h01, h02, h03, h12, h13, h23]
  rfl
theorem pb5 {a b c d e : Arg} (h01 : (b.arg == a.arg) = false) (h02 : (c.arg == a.arg) = false) (h03 : (d.arg == a.arg) = false) (h04 : (e.arg == a.arg) = false) (h12 : (c.arg == b.arg) = false) (h13 : (d.arg == b.arg) = false) (h14 : (e.arg == b.arg) = false) (h23 : (d.arg == c.arg) = false) (h24 : (e.arg == c.arg) = false) (h34 : (e.arg == d.arg) = false) {ua ub uc ud ue : Value} :
    bindArgs (PySem.W.fnOf x qual ⟨[], [a, b, c, d, e], none, [], [], none, []⟩ body scope .none kV doc pm an cdv ct) ⟨[ua, ub, uc, ud, ue], []⟩ = pure [(a.arg, ua), (b.arg, ub), (c.arg, uc), (d.arg, ud), (e.arg, ue)] := by
  simp [bindArgs, PySem.W.fnOf, seqItems?, List.lookup, h01, h02, h03, h04, h12, h13, h14, h23, h24, h34]
  rfl
theorem pb6 {a b c d e f : Arg} (h01 : (b.arg == a.arg) = false) (h02 : (c.arg == a.arg) = false) (h03 : (d.arg == a.arg) = false) (h04 : (e.arg == a.arg) = false) (h05 : (f.arg == a.arg) = false) (h12 : (c.arg == b.arg) = false) (h13 : (d.arg == b.arg) = false) (h14 : (e.arg == b.arg) = false) (h15 : (f.arg == b.arg) = false) (h23 : (d.arg == c.arg) = false) (h24 : (e.arg == c.arg) = false) (h25 : (f.arg == c.arg) = false) (h34 : (e.arg == d.arg) = false) (h35 : (f.arg == d.arg) = false) (h45 : (f.arg == e.arg) = false) {ua ub uc ud ue uf : Value} :
    bindArgs (PySem.W.fnOf x qual ⟨[], [a, b, c, d, e, f], none, [], [], none, []⟩ body scope .none kV doc pm an cdv ct) ⟨[ua, ub, uc, ud, ue, uf], []⟩ = pure [(a.arg, ua), (b.arg, ub), (c.arg, uc), (d.arg, ud), (e.arg, ue), (f.arg, uf)] := by
  simp [bindArgs, PySem.W.fnOf, seqItems?, List.lookup, h01, h02, h03, h04, h05, h12, h13, h14, h15, h23, h24, h25, h34, h35, h45]
  rfl
theorem pb7 {a b c d e f g : Arg} (h01 : (b.arg == a.arg) = false) (h02 : (c.arg == a.arg) = false) (h03 : (d.arg == a.arg) = false) (h04 : (e.arg == a.arg) = false) (h05 : (f.arg == a.arg) = false) (h06 : (g.arg == a.arg) = false) (h12 : (c.arg == b.arg) = false) (h13 : (d.arg == b.arg) = false) (h14 : (e.arg == b.arg) = false) (h15 : (f.arg == b.arg) = false) (h16 : (g.arg == b.arg) = false) (h23 : (d.arg == c.arg) = false) (h24 : (e.arg == c.arg) = false) (h25 : (f.arg == c.arg) = false) (h26 : (g.arg == c.arg) = false) (h34 : (e.arg == d.arg) = false) (h35 : (f.arg == d.arg) = false) (h36 : (g.arg == d.arg) = false) (h45 : (f.arg == e.arg) = false) (h46 : (g.arg == e.arg) = false) (h56 : (g.arg == f.arg) = false) {ua ub uc ud ue uf ug : Value} :
    bindArgs (PySem.W.fnOf x qual ⟨[], [a, b, c, d, e, f, g], none, [], [], none, []⟩ body scope .none kV doc pm an cdv ct) ⟨[ua, ub, uc, ud, ue, uf, ug], []⟩ = pure [(a.arg, ua), (b.arg, ub), (c.arg, uc), (d.arg, ud), (e.arg, ue), (f.arg, uf), (g.arg, ug)] := by
  simp [bindArgs, PySem.W.fnOf, seqItems?, List.lookup, h01, h02, h03, h04, h05, h06, h12, h13, h14, h15, h16, h23, h24, h25, h26, h34, h35, h36, h45, h46, h56]
  rfl
end
theorem plain_bind {x qual : Str} {params : Arguments} {body : List Stmt} {scope : Scope} (hp : plainP params = true) (kV doc pm : Value) (an : Option Addr) (cdv ct : Value) (us : List Value) (hl : us.length = (parNames params).length) :
    bindArgs (PySem.W.fnOf x qual params body scope .none kV doc pm an cdv ct) ⟨us, []⟩ = pure ((parNames params).zip us) := by
  unfold plainP at hp
  split at hp
  · rename_i as
    obtain ⟨hz, hp⟩ := and2 hp
    have hl : us.length = as.length := by rw [hl]; exact List.length_map ..
    match as, us, hl, hz, hp with
    | [], [], _, _, _ => exact pb0
    | [a], [ua], _, _, hp =>
      simp only [List.map_cons, List.map_nil, kDist, List.all_cons, List.all_nil, Bool.and_true, Bool.and_eq_true, Bool.not_eq_true'] at hp
      exact pb1
    | [a, b], [ua, ub], _, _, hp =>
      simp only [List.map_cons, List.map_nil, kDist, List.all_cons, List.all_nil, Bool.and_true, Bool.and_eq_true, Bool.not_eq_true'] at hp
      have h01 := hp
      exact pb2 (beq_ne h01)
    | [a, b, c], [ua, ub, uc], _, _, hp =>
      simp only [List.map_cons, List.map_nil, kDist, List.all_cons, List.all_nil, Bool.and_true, Bool.and_eq_true, Bool.not_eq_true'] at hp
      obtain ⟨⟨h01, h02⟩, h12⟩ := hp
      exact pb3 (beq_ne h01) (beq_ne h02) (beq_ne h12)
    | [a, b, c, d], [ua, ub, uc, ud], _, _, hp =>
      simp only [List.map_cons, List.map_nil, kDist, List.all_cons, List.all_nil, Bool.and_true, Bool.and_eq_true, Bool.not_eq_true'] at hp
      obtain ⟨⟨h01, h02, h03⟩, ⟨⟨h12, h13⟩, h23⟩⟩ := hp
      exact pb4 (beq_ne h01) (beq_ne h02) (beq_ne h03) (beq_ne h12) (beq_ne h13) (beq_ne h23)
    | [a, b, c, d, e], [ua, ub, uc, ud, ue], _, _, hp =>
      simp only [List.map_cons, List.map_nil, kDist, List.all_cons, List.all_nil, Bool.and_true, Bool.and_eq_true, Bool.not_eq_true'] at hp
      obtain ⟨⟨h01, h02, h03, h04⟩, ⟨⟨h12, h13, h14⟩, ⟨⟨h23, h24⟩, h34⟩⟩⟩ := hp
      exact pb5 (beq_ne h01) (beq_ne h02) (beq_ne h03) (beq_ne h04) (beq_ne h12) (beq_ne h13) (beq_ne h14) (beq_ne h23) (beq_ne h24) (beq_ne h34)
    | [a, b, c, d, e, f], [ua, ub, uc, ud, ue, uf], _, _, hp =>
      simp only [List.map_cons, List.map_nil, kDist, List.all_cons, List.all_nil, Bool.and_true, Bool.and_eq_true, Bool.not_eq_true'] at hp
      obtain ⟨⟨h01, h02, h03, h04, h05⟩, ⟨⟨h12, h13, h14, h15⟩, ⟨⟨h23, h24, h25⟩, ⟨⟨h34, h35⟩, h45⟩⟩⟩⟩ := hp
      exact pb6 (beq_ne h01) (beq_ne h02) (beq_ne h03) (beq_ne h04) (beq_ne h05) (beq_ne h12) (beq_ne h13) (beq_ne h14) (beq_ne h15) (beq_ne h23) (beq_ne h24) (beq_ne h25) (beq_ne h34) (beq_ne h35) (beq_ne h45)
    | [a, b, c, d, e, f, g], [ua, ub, uc, ud, ue, uf, ug], _, _, hp =>
      simp only [List.map_cons, List.map_nil, kDist, List.all_cons, List.all_nil, Bool.and_true, Bool.and_eq_true, Bool.not_eq_true'] at hp
      obtain ⟨⟨h01, h02, h03, h04, h05, h06⟩, ⟨⟨h12, h13, h14, h15, h16⟩, ⟨⟨h23, h24, h25, h26⟩, ⟨⟨h34, h35, h36⟩, ⟨⟨h45, h46⟩, h56⟩⟩⟩⟩⟩ := hp
      exact pb7 (beq_ne h01) (beq_ne h02) (beq_ne h03) (beq_ne h04) (beq_ne h05) (beq_ne h06) (beq_ne h12) (beq_ne h13) (beq_ne h14) (beq_ne h15) (beq_ne h16) (beq_ne h23) (beq_ne h24) (beq_ne h25) (beq_ne h26) (beq_ne h34) (beq_ne h35) (beq_ne h36) (beq_ne h45) (beq_ne h46) (beq_ne h56)
    | _ :: _ :: _ :: _ :: _ :: _ :: _ :: _ :: r, _, _, hz, _ =>
      have := Nat.le_of_ble_eq_true hz
      simp at this
  · cases hp
theorem binds_plain {K : PySem.W.Frag} {x qual : Str} {params : Arguments} {body : List Stmt} {scope : Scope} {kws : List (Str × V)} {f : Addr} {fd : FuncData} (F : FunD K x qual params body scope [] kws f fd) (hp : plainP params = true) : Binds K fd (parNames params) [] :=
  F.bindsN fun kV doc pm an cdv ct us hl => plain_bind hp kV doc pm an cdv ct us hl
end
end
end Lt

end
section
set_option Elab.async false
set_option linter.all false
set_option maxRecDepth 100000
set_option maxHeartbeats 4000000
/-! Lt, part 17: how a law's defs are put together. -/
namespace Lt
noncomputable section
open PySem PySem.Spec PyProof.Rows L2

def clsBody : Stmt → List Stmt
  | .ClassDef _ _ _ body _ _ _ _ _ _ _ => body
  | _ => []
def strsB : List Str → List Str → Bool
  | [], [] => true
  | x :: l, y :: m => strB x y && strsB l m
  | _, _ => false
theorem strsB_ok : ∀ {l m : List Str}, strsB l m = true → l = m
  | [], [], _ => rfl
  | x :: l, y :: m, h => by
    obtain ⟨h1, h2⟩ := and2 (show (strB x y && strsB l m) = true from h)
    rw [strB_ok h1, strsB_ok h2]
  | [], _ :: _, h => by cases h
  | _ :: _, [], h => by cases h
theorem kDist_ok : ∀ {l : List Str}, kDist l = true → l.Nodup
  | [], _ => List.nodup_nil
  | x :: l, h => by
    obtain ⟨h1, h2⟩ := and2 (show ((l.all fun y => !keyEq y x) && kDist l) = true from h)
    refine List.nodup_cons.mpr ⟨fun hx => ?_, kDist_ok h2⟩
    have := List.all_eq_true.mp h1 x hx
    rw [show keyEq x x = true from Nat.beq_refl _] at this
    cases this
def notFree : NameKind → Bool
  | .free => false
  | _ => true
def isLoc : Option NameKind → Bool
  | some .local => true
  | some .cell => true
  | _ => false
def scB (N ps : List Str) (sc : Scope) : Bool :=
  isFn sc.kind && (!sc.isCoroutine && (!sc.isGenerator && (kDist N && (strsB (N.take ps.length) ps && ((ps.all fun x => isLoc (kLook sc.names x)) && sc.names.all fun y => notFree y.2)))))
theorem scB_ok {N ps : List Str} {sc : Scope} (h : scB N ps sc = true) : FnScope N ps sc := by
  obtain ⟨h1, h⟩ := and2 h
  obtain ⟨h2, h⟩ := and2 h
  obtain ⟨h3, h⟩ := and2 h
  obtain ⟨h4, h⟩ := and2 h
  obtain ⟨h5, h⟩ := and2 h
  obtain ⟨h6, h7⟩ := and2 h
  refine ⟨isFn_ok h1, by simpa using h2, by simpa using h3, kDist_ok h4, strsB_ok h5, fun x hx => ?_, fun y hy e => ?_⟩
  · have q := List.all_eq_true.mp h6 x hx
    cases e : kLook sc.names x with
    | none => rw [e] at q; cases q
    | some kd =>
      rw [e] at q
      have l := kLook_lookup e
      cases kd with
      | «local» => exact .inl l
      | cell => exact .inr l
      | _ => cases q
  · have q := List.all_eq_true.mp h7 y hy
    rw [e] at q
    cases q
/-- a def that keeps its promise -/
def DefOk (G : GC) (k : Nat) (f : Addr) (m : Fn) : Prop := ∃ fd ps, FnG G k f fd ps m ∧ Binds G.K fd ps [] ∧ Arity m ps.length
section
variable {G : GC} {k : Nat} {f : Addr} {m : Fn}
theorem DefOk.callV (h : DefOk G k f m) : CallV G k (.ref f) m := by
  obtain ⟨fd, ps, F, b, a⟩ := h
  exact callV_fn F b a
theorem DefOk.mono {j : Nat} (h : DefOk G j f m) (e : j ≤ k) : DefOk G k f m := by
  obtain ⟨fd, ps, F, b, a⟩ := h
  exact ⟨fd, ps, F.mono e, b, a⟩
theorem DefOk.cls {C : Addr} {c : Nat} {x : Str} (h : DefOk G k f m) (M : Mk G.K C f) (hc : G.gt[c]? = some x) (hm : G.mg x = some (.ref C)) : CallV G (k + 1) (.ref C) (mkN c m) := by
  obtain ⟨fd, ps, F, b, a⟩ := h
  exact callV_cls M F b a hc hm
theorem DefOk.meth {C : Addr} {c : Nat} {x n : Str} (h : DefOk G k f m) (M : Meth G.K C n f) (cl : Cls G.K C) (hc : G.gt[c]? = some x) (hm : G.mg x = some (.ref C)) : MethV G k n c m := ⟨x, C, f, hc, hm, cl, M, h.callV⟩
theorem DefOk.lenD {C : Addr} {c : Nat} {x : Str} (h : DefOk G k f m) (hc : G.gt[c]? = some x) (hm : G.mg x = some (.ref C)) (M : Meth G.K C "__len__" f) : LenD G k c m := by
  obtain ⟨fd, ps, F, b, a⟩ := h
  exact ⟨x, C, f, fd, ps, hc, hm, M, F, b, a⟩
/-- THE RULE -/
theorem mk_def {x qual : Str} {params : Arguments} {body : List Stmt} {scope : Scope} {kws : List (Str × V)} {N ps : List Str} {tb : Tb} {b : SS} {fd : FuncData} (F : FunD G.K x qual params body scope [] kws f fd) (hps : parNames params = ps) (hp : plainP params = true) (hs : scB N ps scope = true)
    (htb : TbOk G k tb) (hb : semB (sem 60) 60 ⟨N, scope, none, tb, false⟩ body = b) : DefOk G (k + 1) f (fnB ps.length N.length b) := by
  subst hps hb
  exact ⟨fd, parNames params, fnG_of F (scB_ok hs) htb, binds_plain F hp, fnB_arity _ _ _⟩
theorem mk_fn {x qual : Str} {params : Arguments} {body : List Stmt} {scope : Scope} {kws : List (Str × V)} {N ps : List Str} {tb : Tb} {b : SS} {fd : FuncData} (F : FunD G.K x qual params body scope [] kws f fd) (hs : scB N ps scope = true)
    (htb : TbOk G k tb) (hb : semB (sem 60) 60 ⟨N, scope, none, tb, false⟩ body = b) : FnG G (k + 1) f fd ps (fnB ps.length N.length b) := by
  subst hb
  exact fnG_of F (scB_ok hs) htb
theorem mk_fnL {p : He.Defn} {x qual : Str} {params : Arguments} {body : List Stmt} {scope : Scope} {kws : List (Str × V)} {N ps : List Str} {tb : Tb} {b : SS} {fd : FuncData} (F : FunD G.K x qual params body scope [] kws (He.fAd G.K p) fd) (hs : scB N ps scope = true)
    (htb : TbOk G (k + 1) tb) (TB : LamX.TabB G.base G.mg (He.cT G.K p).1 (He.cT G.K p).2) (hm : ((He.cT G.K p).2, qual ++ ".<locals>." ++ "<lambda>") ∈ G.tabs) (hu : ∀ q ∈ G.tabs, q.1 = (He.cT G.K p).2 → q.2 = qual ++ ".<locals>." ++ "<lambda>") (hb : semB (sem 60) 60 ⟨N, scope, none, tb, true⟩ body = b) : FnG G (k + 1 + 2 + 1) (He.fAd G.K p) fd ps (fnB ps.length N.length b) := by
  subst hb
  exact fnG_ofL F (scB_ok hs) htb TB hm hu
theorem mk_defL {p : He.Defn} {x qual : Str} {params : Arguments} {body : List Stmt} {scope : Scope} {kws : List (Str × V)} {N ps : List Str} {tb : Tb} {b : SS} {fd : FuncData} (F : FunD G.K x qual params body scope [] kws (He.fAd G.K p) fd) (hps : parNames params = ps) (hp : plainP params = true) (hs : scB N ps scope = true)
    (htb : TbOk G (k + 1) tb) (TB : LamX.TabB G.base G.mg (He.cT G.K p).1 (He.cT G.K p).2) (hm : ((He.cT G.K p).2, qual ++ ".<locals>." ++ "<lambda>") ∈ G.tabs) (hu : ∀ q ∈ G.tabs, q.1 = (He.cT G.K p).2 → q.2 = qual ++ ".<locals>." ++ "<lambda>") (hb : semB (sem 60) 60 ⟨N, scope, none, tb, true⟩ body = b) : DefOk G (k + 1 + 2 + 1) (He.fAd G.K p) (fnB ps.length N.length b) := by
  subst hps hb
  exact ⟨fd, parNames params, fnG_ofL F (scB_ok hs) htb TB hm hu, binds_plain F hp, fnB_arity _ _ _⟩
theorem gm_fn {x : Str} {i : Nat} {a : Addr} (h1 : G.gt[i]? = some x) (h2 : G.mg x = some (.ref a)) (h3 : PySem.W.keepIn G.K (.ref a) = true) (h4 : CallV G k (.ref a) m) : GmOk G k x (.fn i m) := ⟨a, h1, h2, h3, h4⟩
theorem gm_int {x : Str} {i : Int} (h : ∃ t, G.mg x = some (.int i t)) : GmOk G k x (.val (.int i)) := by
  obtain ⟨t, h⟩ := h
  exact ⟨_, .int i, h, ⟨t, rfl⟩, fun ρ H => .int i⟩
theorem gm_str {x y : Str} (h : ∃ t, G.mg x = some (.str y t)) : GmOk G k x (.val (.str y)) := by
  obtain ⟨t, h⟩ := h
  exact ⟨_, .str y, h, ⟨t, rfl⟩, fun ρ H => .str y⟩
theorem gm_bf {x : Str} {b : Blt} (h : G.mg x = none) (e : x = b.nm) : GmOk G k x (.bf b) := ⟨h, e⟩
/-- a list of facts -/
theorem all_nil {α : Type} {P : α → Prop} : ∀ e ∈ ([] : List α), P e := fun e h => by cases h
theorem all_cons {α : Type} {P : α → Prop} {a : α} {l : List α} (h : P a) (t : ∀ e ∈ l, P e) : ∀ e ∈ a :: l, P e := fun e he => by
  rcases List.mem_cons.mp he with z | z
  · subst z; exact h
  · exact t e z
theorem isi_nil : IsiF G [] := ⟨fun c h => absurd h (by simp), fun c h => absurd h (by simp)⟩
theorem dens_ints {ρ : List Addr} {H : Hp} : ∀ ns : List Int, Dens G ρ H (ns.map D.int) (ns.map V.int)
  | [] => .nil
  | n :: ns => .cons (.int n) (dens_ints ns)
/-- the end: what the plain law must give -/
theorem law_endT {f : Fn} {H : Hp} {a : Addr} {ns : List Int} (hT : LamX.Tabs G.tabs H) (hS : SqL G.K H a (ns.map V.int)) (h1 : ∃ S', f [.ref 0] [.fls (ns.map D.int)] = .ok (.bl true) S') (h2 : ∃ S', f [.kls (ns.map D.int)] [] = .ok (.bl true) S')
    (h3 : (∃ xs, H a = some (.lst xs)) → ∃ S', f [.ref 0] [.lst (ns.map D.int)] = .ok (.bl true) S') :
    spF G f 1 [.ref a] H (fun v _ => v = .bl true) fun _ _ _ => False := by
  refine ⟨rfl, ?_⟩
  have fin : ∀ {ρ : List Addr} {S' : Sto}, PostD G (fun _ _ _ => False) ρ H (fun v _ => v = .bl true) (.ok (.bl true) S') := fun ρ2 H2 v g r d => by
    cases d
    rfl
  rcases hS with (hS | ⟨o, hS⟩) | hS
  · obtain ⟨S', e⟩ := h3 ⟨_, hS⟩
    refine ⟨[a], [.lst (ns.map D.int)], [.ref 0], ⟨rfl, by simp, fun n c b hc hb => ?_, hT⟩, .cons (.ref rfl) .nil, by rw [e]; exact fin⟩
    match n, hc, hb with
    | 0, hc, hb =>
      cases hc; cases hb
      exact ⟨_, hS, dens_ints ns⟩
    | n + 1, hc, _ => cases hc
  · obtain ⟨S', e⟩ := h1
    refine ⟨[a], [.fls (ns.map D.int)], [.ref 0], ⟨rfl, by simp, fun n c b hc hb => ?_, hT⟩, .cons (.ref rfl) .nil, by rw [e]; exact fin⟩
    match n, hc, hb with
    | 0, hc, hb =>
      cases hc; cases hb
      exact ⟨o, _, hS, dens_ints ns⟩
    | n + 1, hc, _ => cases hc
  · obtain ⟨S', e⟩ := h2
    exact ⟨[], [], [.kls (ns.map D.int)], ⟨rfl, List.nodup_nil, (fun n c b h => by cases h), hT⟩, .cons (.kls (.inr hS) (dens_ints ns)) .nil, by rw [e]; exact fin⟩
/-- .. without tables -/
theorem law_end {f : Fn} {H : Hp} {a : Addr} {ns : List Int} (ht : G.tabs = []) (hO : Only H) (hS : SqL G.K H a (ns.map V.int)) (h1 : ∃ S', f [.ref 0] [.fls (ns.map D.int)] = .ok (.bl true) S') (h2 : ∃ S', f [.kls (ns.map D.int)] [] = .ok (.bl true) S') :
    spF G f 1 [.ref a] H (fun v _ => v = .bl true) fun _ _ _ => False :=
  law_endT (by rw [ht]; intro p hp; cases hp) hS h1 h2 fun ⟨xs, hS⟩ => by
    rcases hO a with z | ⟨o, xs, z⟩
    · rw [hS] at z; cases z
    · rw [hS] at z; cases z
end
theorem walk_ofX {l : PySem.W.OpenLaw} {n k : Nat} {q : Program} {loose : List Str} {XP : (Str → Option Value) → Heap → Prop} {YP : World → Heap → Prop} {d : DefRec} {CX : World → CXT} {x : Str}
    (hn : l.most = some n) (hn2 : n ≤ sizeLine) (hdf : d.params.defaults = []) (hr : Room k callerA)
    (F : ∀ (w : World) (mg : Str → Option Value) (fa : Addr) (h : Heap), YP w h → h.Ns mainGlobals mg → mg d.name = some (.ref fa) →
      ∃ (K : PySem.W.Frag) (fd : FuncData) (sp : Sp), K.In h ∧ (∀ (s : Shared) (u : Value), BindsTo s fd ⟨[u], []⟩ [(x, u)]) ∧
        (∀ (H : Hp) (a : Addr) (ns : List Int), ns.length ≤ n → Only H → SqL K H a (ns.map V.int) → sp [.ref a] H (fun v _ => v = .bl true) fun _ _ _ => False) ∧
        ∀ base : Heap, K.In base → base.Ns mainGlobals mg → FnOk l.prog w K mg base (CX w) k fa fd [x] sp)
    (hCX : ∀ (w : World) (H : Hp) (s : Shared) (e : Value) (s' : Shared), CX w [] H s (fun _ _ _ => False) e s' → False) :
    PySem.W.WalkO q loose XP YP l.row.toRowW d [] (fun f vs => PySem.call f vs) := by
  refine Att.attach_call hn hdf fun w s₀ s₁ mg mb fa o pm cd doc a vs ns G Y ho hd hcd hmg hobj hints hlen hg => ?_
  obtain ⟨K, fd, sp, KX, hb, hs, hF⟩ := F w mg fa _ Y G.T.g hmg
  exact law_call KX G.T.g G.T.b G.T.builtins G.T.nolimit hg hobj hints (Nat.le_trans hlen hn2) hr hF hb (fun H hO hS => hs H a ns hlen hO hS) fun H e s' => hCX w H s₁ e s'
theorem cx_off {P : Program} {w : World} {H : Hp} {s : Shared} {e : Value} {s' : Shared} (h : L2.CX P w [] H s (fun _ _ _ => False) e s') : False := by
  obtain ⟨_, _, _, _, _, _, _, _, _, _, _, _, z⟩ := h
  exact z
end
end Lt

end
section
set_option Elab.async false
set_option linter.all false
set_option maxRecDepth 100000
set_option maxHeartbeats 4000000
/-! Lt: further facts of the top: own exceptions with their __init__, tables of code objects. -/
namespace Lt
noncomputable section
open PySem PySem.Spec PyProof.Rows L2 PySem.W PySem.Calls NdefX
/-! ### own exceptions -/
/-- an own exception's __init__ -/
structure XcD where
  cls : Str
  qual : Str
  params : Arguments
  body : List Stmt
  scope : Scope
def XcD.ad (K : Frag) (d : XcD) : Addr := He.ma K (He.ga K d.cls) "__init__"
abbrev FnV : Type := Option (Str × Str × Arguments × FuncBody × Scope × Addr × List Str × Addr)
def fnV (K : Frag) (f : Addr) : FnV := match K.lookup f with
  | some ⟨_, _, .func fd, _⟩ => some (fd.name, fd.qualname, fd.params, fd.body, fd.scope, fd.globals, fd.closure.map (·.1), fd.builtins)
  | _ => none
def XcD.val (d : XcD) : FnV := some ("__init__", d.qual, d.params, .stmts d.body, d.scope, mainGlobals, ["__class__"], builtinsNs)
def oexB (K : Frag) (C : Addr) : Bool := (match K.lookup C with
  | some ⟨.type t, _, .cls ⟨_, _, .ref C' :: bm, _, _, true, _, _, _, _, false⟩, ⟨[_, _, _, _, some (.builtin n), _]⟩⟩ => decide (t = "type") && (C' == C && (decide (n = "ValueError.__new__") && PySem.HandSPX.refsVE bm))
  | _ => false) && (decide (findIn K (.ref C) "__setattr__" = some (some (.builtin "object.__setattr__"))) && (decide (subIn K (.ref C) (.type "BaseException") = some true) && (decide (typeIn K (.ref C) = some (.type "type")) && keepIn K (.ref C))))
theorem oexB_ok {K : Frag} {C : Addr} (h : oexB K C = true) : OexC K C := by
  obtain ⟨h1, h⟩ := and2 h
  obtain ⟨h2, h⟩ := and2 h
  obtain ⟨h3, h⟩ := and2 h
  obtain ⟨h4, h5⟩ := and2 h
  refine ⟨?_, of_decide_eq_true h2, of_decide_eq_true h3, of_decide_eq_true h4, h5⟩
  split at h1
  · rename_i q
    obtain ⟨a1, a2⟩ := and2 h1
    obtain ⟨a2, a3⟩ := and2 a2
    obtain ⟨a3, a4⟩ := and2 a3
    have e1 := of_decide_eq_true a1
    have e2 := eq_of_beq a2
    have e3 := of_decide_eq_true a3
    subst e1 e2 e3
    exact ⟨_, _, _, _, _, _, _, _, _, _, _, _, _, _, _, q, a4⟩
  · cases h1
/-- the written part of such an __init__ -/
def initB (K : Frag) (d : XcD) (file : Str) : Bool := (match K.lookup (d.ad K) with
  | some ⟨_, _, .func fd, _⟩ => codeIn K fd.code d.qual && ((match fd.defaults with
      | .none => true
      | _ => false) && ((match fd.code with
      | .ref cda => (match K.lookup cda with
        | some ⟨_, _, .fields vs, _⟩ => (match (vs[2]? : Option Value) with
          | some (.str f _) => file == f
          | _ => false)
        | _ => false)
      | _ => false) && (match fd.closure with
      | [(_, cc)] => (match K.lookup cc with
        | some ⟨_, _, .cell (some (.ref C)), _⟩ => C == He.ga K d.cls
        | _ => false)
      | _ => false)))
  | _ => false)
def excB (K : Frag) (d : XcD) (file : Str) : Bool := oexB K (He.ga K d.cls) && (initB K d file && ((clsIn K (He.ga K d.cls)).isSome && (decide (mroIn K (He.ga K d.cls) (.ref (He.ga K d.cls)) = some true) && (decide (nsIn K cStatics "thirdparty.any" = some none) &&
  (decide (ks_superIn K (He.ga K d.cls) (He.ga K d.cls) "__init__" = some (some (.builtin "ValueError.__init__"))) && (decide (subIn K (.ref (He.ga K d.cls)) (.type "ValueError") = some true) && (decide (findIn K (.ref (He.ga K d.cls)) "__init__" = some (some (.ref (d.ad K)))) &&
  decide (typeIn K (.ref (d.ad K)) = some (.type "function")))))))))
theorem bind_x {name qual : Str} {params : Arguments} {body : List Stmt} {scope : Scope} {cl : List (Str × Addr)} {dV kV doc pm : Value} {an : Option Addr} {cdv ct : Value} {args : PySem.Args} :
    bindArgs (fnX name qual params body scope cl dV kV doc pm an cdv ct) args = bindArgs (fnOf name qual params body scope dV kV doc pm an cdv ct) args := rfl
/-- what the checks show of the __init__ -/
theorem init_ok {K : Frag} {d : XcD} {file : Str} (e : fnV K (d.ad K) = d.val) (h : initB K d file = true) :
    ∃ (cc cda : Addr) (kV doc pm : Value) (an : Option Addr) (ct oc : Value) (od : Option Addr) (osl : Array (Option Value)), K.lookup (d.ad K) = some ⟨oc, od, .func (fnX "__init__" d.qual d.params d.body d.scope [("__class__", cc)] .none kV doc pm an (.ref cda) ct), osl⟩ ∧ codeIn K (.ref cda) d.qual = true ∧
      (∃ (ccl : Value) (cdd : Option Addr) (vs : Array Value) (ccs : Array (Option Value)) (fl : Str) (tf : Tok), K.lookup cda = some ⟨ccl, cdd, .fields vs, ccs⟩ ∧ vs[2]? = some (.str fl tf) ∧ (file == fl) = true) ∧
      ∃ (cl : Value) (cld : Option Addr) (csl : Array (Option Value)), K.lookup cc = some ⟨cl, cld, .cell (some (.ref (He.ga K d.cls))), csl⟩ := by
  unfold fnV at e
  unfold initB at h
  split at h
  · rename_i oc od fd osl q
    rw [q] at e
    obtain ⟨n1, n2, n3, n4, n5, n6, n7, n8, n9, n10, n11, n12, n13, n14, n15⟩ := fd
    have e2 : (some (n1, n2, n3, n4, n5, n6, n7.map (·.1), n15) : FnV) = some (("__init__" : Str), d.qual, d.params, FuncBody.stmts d.body, d.scope, mainGlobals, [("__class__" : Str)], builtinsNs) := e
    simp only [Option.some.injEq, Prod.mk.injEq] at e2
    obtain ⟨h1, h2, h3, h4, h5, h6, h7, h8⟩ := e2
    subst h1 h2 h3 h4 h5 h6 h8
    obtain ⟨k1, h⟩ := and2 h
    obtain ⟨k2, h⟩ := and2 h
    obtain ⟨k3, k4⟩ := and2 h
    dsimp only at k1 k2 k3 k4
    match n7, h7, k4 with
    | [(z, cc)], h7, k4 =>
      have hz : z = "__class__" := by simpa using h7
      subst hz
      dsimp only at k4
      split at k4
      · rename_i cl cld C csl hcc
        have hC := eq_of_beq k4
        subst hC
        cases n13 with
        | ref cda =>
          dsimp only at k3
          split at k3
          · rename_i ccl cdd vs ccs hcda
            split at k3
            · rename_i fl tf hv
              cases n8 with
              | none => exact ⟨cc, cda, _, _, _, _, _, _, _, _, q, k1, ⟨_, _, _, _, _, _, hcda, hv, k3⟩, _, _, _, hcc⟩
              | _ => cases k2
            · cases k3
          · cases k3
        | _ => cases k3
      · cases k4
  · cases h
/-! ### the statements behind super().__init__ -/
def itX (ps : List Str) : Stmt → Option (Str × XA)
  | .Assign [.Attribute (.Name s _) n _] (.Constant (.str t) _ _) _ => (match kIx ps s with
    | some 0 => some (n, .str t)
    | _ => none)
  | .Assign [.Attribute (.Name s _) n _] (.Name y _) _ => (match kIx ps s, kIx ps y with
    | some 0, some (j + 1) => some (n, .arg j)
    | _, _ => none)
  | _ => none
def XA.v (vs : List V) : XA → V
  | .arg i => vs.getD i .non
  | .str x => .str x
section
variable {X : Cx} {C a : Addr} {ps : List Str} {scope : Scope} {ds : List V}
theorem lt_kix : ∀ {l : List Str} {x : Str} {i : Nat}, kIx l x = some i → i < l.length := fun h => (List.getElem?_eq_some_iff.mp (kIx_ok h)).1
theorem itX_ok (hN : X.N = ps ++ cN) (hs : X.env.scope = scope) (hp : ∀ x ∈ ps, scope.names.lookup x = some .local) (hd : ∀ x ∈ ps, plainNm x = true) (hl : ds.length + 1 = ps.length) {st : Stmt} {n : Str} {xa : XA} (e : itX ps st = some (n, xa)) (hf : findIn X.K (.ref C) n = some none) :
    Ost X C (((V.ref a :: ds).map some) ++ [none]) st (n, xa.v ds) := by
  have nm : ∀ {x : Str} {i : Nat} {q : Pos}, kIx ps x = some i → PE X (.Name x q) (tVar i) := fun {x i q} h => by
    have hx := kIx_ok h
    have hm := List.mem_of_getElem? hx
    obtain ⟨n1, n2, n3⟩ := plain_ok (hd x hm)
    refine pe_var ?_ (.inl ?_) n1 n2
    · rw [hN, List.getElem?_append_left (lt_kix h)]; exact hx
    · rw [hs]; exact hp x hm
  unfold itX at e
  split at e
  · rename_i s p1 n' p2 t k3 p3 p4
    split at e
    · rename_i q
      cases e
      exact ⟨_, ps_ost (nm q) pe_str rfl, fun H Q h => h, hf⟩
    · cases e
  · rename_i s p1 n' p2 y p3 p4
    split at e
    · rename_i j q q2
      cases e
      refine ⟨_, ps_ost (nm q) (nm q2) rfl, fun H Q h => ⟨_, ?_, h⟩, hf⟩
      have lt := lt_kix q2
      have lj : j < ds.length := by omega
      show ((V.ref a :: ds).map some ++ [none])[j + 1]? = _
      rw [List.getElem?_append_left (by simp; omega), List.map_cons, List.getElem?_cons_succ, List.getElem?_map]
      show ds[j]?.map some = some (some (ds.getD j .non))
      rw [List.getD_eq_getElem?_getD, List.getElem?_eq_getElem lj]
      rfl
    · cases e
  · cases e
theorem itXs_ok (hN : X.N = ps ++ cN) (hs : X.env.scope = scope) (hp : ∀ x ∈ ps, scope.names.lookup x = some .local) (hd : ∀ x ∈ ps, plainNm x = true) (hl : ds.length + 1 = ps.length) : ∀ {sts : List Stmt} {its : List (Str × XA)}, optMap (itX ps) sts = some its → (∀ p ∈ its, findIn X.K (.ref C) p.1 = some none) →
    Paired (Ost X C (((V.ref a :: ds).map some) ++ [none])) sts (its.map fun p => (p.1, p.2.v ds))
  | [], its, e, _ => by cases e; exact .nil
  | st :: sts, its, e, hf => by
    unfold optMap at e
    cases e1 : itX ps st with
    | none => rw [e1] at e; cases e
    | some p =>
      cases e2 : optMap (itX ps) sts with
      | none => rw [e1, e2] at e; cases e
      | some its' =>
        rw [e1, e2] at e
        cases e
        exact .cons (itX_ok hN hs hp hd hl e1 (hf p List.mem_cons_self)) (itXs_ok hN hs hp hd hl e2 fun q hq => hf q (List.mem_cons_of_mem _ hq))
end
/-! ### an exception class for the semantics -/
theorem sup_eval {tag : Str} {kk : Nat} {p0 p1 p2 p3 p4 : Pos} {env : PySem.Env} (hline : (p2.endLine == p4.line) = true) : ∃ pl : Sem Bool, eval (supE tag kk p0 p1 p2 p3 p4) env = (do
      let ov ← attributeBase (.Call (.Name "super" p0) [] [] p1) "__init__" env (eval (.Call (.Name "super" p0) [] [] p1) env)
      standAt p2.atName
      let (g, first) ← holding [ov] (getMethod ov "__init__" pl)
      callWith p4 g first (backTo p4 (starEach [.Constant (.str tag) kk p3] env)) []) := by
  refine ⟨do return (← importBound (.Call (.Name "super" p0) [] [] p1) env).getD true, ?_⟩
  show (do
      let ov ← attributeBase (.Call (.Name "super" p0) [] [] p1) "__init__" env (eval (.Call (.Name "super" p0) [] [] p1) env)
      standAt p2.atName
      methodCall (.Call (.Name "super" p0) [] [] p1) "__init__" p2 p4 env ov ([Expr.Constant (.str tag) kk p3].length + ([] : List Keyword).length) (backTo p4 (starEach [.Constant (.str tag) kk p3] env)) (backToKw p4 (keywordEach [] env))) = _
  have e1 : methodCallForm ([Expr.Constant (.str tag) kk p3].length + ([] : List Keyword).length) (backTo p4 (starEach [.Constant (.str tag) kk p3] env)) (backToKw p4 (keywordEach [] env)) = true := by rfl
  unfold methodCall
  rw [e1]
  unfold methodCallPos
  rw [hline]
  rfl
theorem notInter {env : PySem.Env} (h : env.scope.kind = .function) : interactive env = false := by
  unfold interactive
  rw [h]
  rfl
def idsOf (ats : List Str) (its : List (Str × XA)) : Option (List (Nat × XA)) := optMap (fun p => match kIx ats p.1 with
  | some i => some (i, p.2)
  | none => none) its
theorem idsOf_flds {G : GC} {ρ : List Addr} {H : Hp} {ds : List D} {vs : List V} (d : Dens G ρ H ds vs) (n : Nat) (hn : ds.length = n) : ∀ {its : List (Str × XA)} {l : List (Nat × XA)}, (∀ p ∈ its, ∀ i, p.2 = .arg i → i < n) → idsOf G.ats its = some l → Flds G ρ H (xIt l ds) (its.map fun p => (p.1, p.2.v vs))
  | [], l, _, e => by cases e; exact .nil
  | p :: its, l, hi, e => by
    unfold idsOf optMap at e
    cases e1 : kIx G.ats p.1 with
    | none => rw [e1] at e; cases e
    | some i =>
      rw [e1] at e
      dsimp only at e
      cases e2 : idsOf G.ats its with
      | none => unfold idsOf at e2; rw [e2] at e; cases e
      | some l' =>
        have e3 := e2
        unfold idsOf at e3
        rw [e3] at e
        cases e
        refine .cons ⟨kIx_ok e1, ?_⟩ (idsOf_flds d n hn (fun q hq => hi q (List.mem_cons_of_mem _ hq)) e2)
        obtain ⟨pn, px⟩ := p
        cases ep : px with
        | str x => exact .str x
        | arg j =>
          have hj := hi _ List.mem_cons_self j ep
          have hd : ds[j]? = some (ds.getD j .non) := by rw [List.getD_eq_getElem?_getD, List.getElem?_eq_getElem (by omega)]; rfl
          obtain ⟨v, h1, h2⟩ := pr_get d.pr hd
          show Den G ρ H (ds.getD j .non) (vs.getD j .non)
          rw [List.getD_eq_getElem?_getD (l := vs), h1]
          exact h2
def argsB (n : Nat) (its : List (Str × XA)) : Bool := its.all fun p => match p.2 with
  | .arg i => Nat.blt i n
  | .str _ => true
theorem blt_lt {a b : Nat} (h : Nat.blt a b = true) : a < b := by
  have := Nat.le_of_ble_eq_true (show Nat.ble (a + 1) b = true from h)
  omega
def isSup : Stmt → Bool
  | .Expr (.Call (.Attribute (.Call (.Name s _) [] [] _) n p2) [.Constant (.str _) _ _] [] p4) _ => strB s "super" && (strB n "__init__" && Nat.beq p2.endLine p4.line)
  | _ => false
def isGlo : Option NameKind → Bool
  | some .globalImplicit => true
  | _ => false
/-- all that is looked at in the text -/
def xcB (d : XcD) (ps : List Str) (its : List (Str × XA)) (n : Nat) : Bool := (match d.body with
  | st :: _ => isSup st
  | [] => false) && (plainP d.params && (strsB (parNames d.params) ps && (ps.all plainNm && (Nat.beq ps.length (n + 1) && (nscB (ps ++ cN) ps cN d.scope && (isGlo (kLook d.scope.names "super") && (argsB n its && (!its.isEmpty && Nat.ble its.length 900))))))))
theorem head_par {p : Arguments} (h : plainP p = true) : (p.posonlyargs ++ p.args).head?.map (·.arg) = (parNames p).head? := by
  unfold plainP at h
  split at h
  · rename_i as
    cases as <;> rfl
  · cases h
theorem xc_ok {G : GC} {d : XcD} {ps : List Str} {file : Str} {id n : Nat} {l : List (Nat × XA)} {its : List (Str × XA)} (e : fnV G.K (d.ad G.K) = d.val) (h : excB G.K d file = true) (hf : ∀ p ∈ its, findIn G.K (.ref (He.ga G.K d.cls)) p.1 = some none) (hfile : G.P.main.file = file) (htop : (G.P.main.scope.names.lookup ("super" : Str)).isSome = false)
    (hx : xcB d ps its n = true) (hit : optMap (itX ps) d.body.tail = some its) (hids : idsOf G.ats its.reverse = some l) (hgt : G.gt[id]? = some d.cls) (hmg : G.mg d.cls = some (.ref (He.ga G.K d.cls))) (hsup : G.mg "super" = none) : XcOk G 1 id n d.cls (xIt l) := by
  obtain ⟨x1, hx⟩ := and2 hx
  obtain ⟨x2, hx⟩ := and2 hx
  obtain ⟨x3, hx⟩ := and2 hx
  obtain ⟨x4, hx⟩ := and2 hx
  obtain ⟨x5, hx⟩ := and2 hx
  obtain ⟨x6, hx⟩ := and2 hx
  obtain ⟨x7, hx⟩ := and2 hx
  obtain ⟨x8, hx⟩ := and2 hx
  obtain ⟨x9, x10⟩ := and2 hx
  obtain ⟨c1, h⟩ := and2 h
  obtain ⟨c2, h⟩ := and2 h
  obtain ⟨c3, h⟩ := and2 h
  obtain ⟨c4, h⟩ := and2 h
  obtain ⟨c5, h⟩ := and2 h
  obtain ⟨c6, h⟩ := and2 h
  obtain ⟨c7, h⟩ := and2 h
  obtain ⟨c8, c9⟩ := and2 h
  have T := oexB_ok c1
  have eps := strsB_ok x3
  have sc := nscope_by x6
  have hn := Nat.eq_of_beq_eq_true x5
  obtain ⟨cc, cda, kV, doc, pm, an, ct, oc, od, osl, lk, hcd, hcode, hcell⟩ := init_ok e c2
  cases eb : d.body with
  | nil => rw [eb] at x1; cases x1
  | cons st rest =>
    rw [eb] at x1 hit lk
    dsimp only at x1
    unfold isSup at x1
    split at x1
    · rename_i s p0 p1 nm p2 tag kk p3 p4 p5
      obtain ⟨y1, y2⟩ := and2 x1
      obtain ⟨y2, y3⟩ := and2 y2
      have es := strB_ok y1
      have en := strB_ok y2
      subst es en
      have hline : (p2.endLine == p4.line) = true := by rw [Nat.eq_of_beq_eq_true y3]; exact beq_self_eq_true _
      have hglo : d.scope.names.lookup ("super" : Str) = some .globalImplicit := by
        cases q : kLook d.scope.names "super" with
        | none => rw [q] at x7; cases x7
        | some kd =>
          rw [q] at x7
          cases kd with
          | globalImplicit => exact kLook_lookup q
          | _ => cases x7
      have Z : XIn G.P G.K G.mg (He.ga G.K d.cls) (d.ad G.K) cc cda (fnX "__init__" d.qual d.params (.Expr (supE tag kk p0 p1 p2 p3 p4) p5 :: rest) d.scope [("__class__", cc)] .none kV doc pm an (.ref cda) ct) "__init__" d.qual ps d.scope rest :=
        { T := T
          lk := ⟨d.params, tag, kk, p0, p1, p2, p3, p4, p5, .none, kV, doc, pm, an, ct, oc, od, osl, rfl, lk, by rw [head_par x2, eps], fun L => sup_eval hline, fun L => notInter sc.kind⟩
          code := by
            obtain ⟨ccl, cdd, vs, ccs, fl, tf, k1, k2, k3⟩ := hcode
            exact ⟨ccl, cdd, vs, ccs, fl, tf, k1, k2, by rw [hfile]; exact k3⟩
          hcd := hcd
          cell := hcell
          cls := by
            cases q : clsIn G.K (He.ga G.K d.cls) with
            | none => rw [q] at c3; cases c3
            | some cd => exact ⟨cd, rfl⟩
          sub := of_decide_eq_true c4
          mg := hsup
          scp := sc
          sup := hglo
          top := htop
          opq := of_decide_eq_true c5
          sin := of_decide_eq_true c6
          sve := of_decide_eq_true c7 }
      have hit' : optMap (itX ps) rest = some its := hit
      refine ⟨⟨He.ga G.K d.cls, d.ad G.K, _, ps, fun vs => its.map fun p => (p.1, p.2.v vs), hgt, hmg, T, of_decide_eq_true c8, of_decide_eq_true c9,
        xinit_fn (k := 0) Z hn (fun ds hl => ⟨?_, ?_⟩) (fun X a ds hK hN hs hl => itXs_ok hN hs sc.par (fun x hx => List.all_eq_true.mp x4 x hx) (by omega) hit' (by rw [hK]; exact hf)), ?_, fun ρ H ds vs dd hl => ?_⟩⟩
      · intro z
        cases its with
        | nil => cases x9
        | cons _ _ => cases z
      · rw [List.length_map]; exact Nat.le_of_ble_eq_true x10
      · rw [← eps]
        exact .all fun us hl => bind_x.trans (plain_bind x2 kV doc pm an (.ref cda) ct us hl)
      · rw [← List.map_reverse]
        refine idsOf_flds dd n hl (fun p hp i ei => ?_) hids
        have q := List.all_eq_true.mp x8 p (List.mem_reverse.mp hp)
        rw [ei] at q
        exact blt_lt q
    · cases x1
/-! ### properties -/
structure PrD where
  cls : Str
  nm : Str
  qual : Str
  params : Arguments
  body : List Stmt
  scope : Scope
/-- the property's object, its getter -/
def PrD.p (K : Frag) (d : PrD) : Addr := He.ma K (He.ga K d.cls) d.nm
def PrD.ad (K : Frag) (d : PrD) : Addr := match recIn K (d.p K) "property" with
  | some (.ref g :: _) => g
  | _ => 0
def PrD.val (d : PrD) : FnV := some (d.nm, d.qual, d.params, .stmts d.body, d.scope, mainGlobals, [], builtinsNs)
def propB (K : Frag) (d : PrD) : Bool := decide (findIn K (.ref (He.ga K d.cls)) d.nm = some (some (.ref (d.p K)))) && (decide (specialIn K (.ref (d.p K)) "__get__" = some (some (.builtin "property.__get__"))) && (decide (takesIn K (.ref (d.p K)) = some true) &&
  ((match recIn K (d.p K) "property" with
    | some (.ref _ :: _) => true
    | _ => false) && (keepIn K (.ref (d.ad K)) && (match K.lookup (d.ad K) with
    | some ⟨_, _, .func fd, _⟩ => codeIn K fd.code d.qual && (match fd.defaults with
      | .none => true
      | _ => false)
    | _ => false)))))
theorem prop_ok {K : Frag} {d : PrD} (e : fnV K (d.ad K) = d.val) (h : propB K d = true) : PropOf K (He.ga K d.cls) d.nm (d.p K) (d.ad K) ∧ ∃ fd, FunD K d.nm d.qual d.params d.body d.scope [] [] (d.ad K) fd := by
  obtain ⟨h1, h⟩ := and2 h
  obtain ⟨h2, h⟩ := and2 h
  obtain ⟨h3, h⟩ := and2 h
  obtain ⟨h4, h⟩ := and2 h
  obtain ⟨h5, h6⟩ := and2 h
  refine ⟨⟨of_decide_eq_true h1, of_decide_eq_true h2, of_decide_eq_true h3, ?_⟩, ?_⟩
  · cases q : recIn K (d.p K) "property" with
    | none => rw [q] at h4; cases h4
    | some l =>
      rw [q] at h4
      match l, h4, q with
      | .ref g :: r, _, q => exact ⟨r, by unfold PrD.ad; rw [q]⟩
  · unfold fnV at e
    split at h6
    · rename_i oc od fd osl q
      rw [q] at e
      obtain ⟨n1, n2, n3, n4, n5, n6, n7, n8, n9, n10, n11, n12, n13, n14, n15⟩ := fd
      have e2 : (some (n1, n2, n3, n4, n5, n6, n7.map (·.1), n15) : FnV) = some (d.nm, d.qual, d.params, FuncBody.stmts d.body, d.scope, mainGlobals, [], builtinsNs) := e
      simp only [Option.some.injEq, Prod.mk.injEq] at e2
      obtain ⟨e1, e2, e3, e4, e5, e6, e7, e8⟩ := e2
      subst e1 e2 e3 e4 e5 e6 e8
      have e7 : n7 = [] := by simpa using e7
      subst e7
      obtain ⟨k1, k2⟩ := and2 h6
      dsimp only at k1 k2
      cases n8 with
      | none => exact ⟨_, ⟨oc, od, .none, n9, n10, n11, n12, n13, n14, osl, rfl, q, k1, .inl ⟨rfl, rfl⟩, .inl rfl⟩, h5⟩
      | _ => cases k2
    · cases h6
theorem bin_ok {G : GC} {k c : Nat} {o : Op} {cls n r : Str} {f : Addr} {m : Fn} (hc : G.gt[c]? = some cls) (hm : G.mg cls = some (.ref (He.ga G.K cls))) (M : Meth G.K (He.ga G.K cls) n f) (hn : PySem.dunder (opOf o).info.2 = n) (hr : dunderR (opOf o).info.2 = r) (h : ownB G.K (He.ga G.K cls) n r = true) (F : DefOk G k f m) : BinV G k o c m :=
  ⟨cls, _, f, hc, hm, by rw [hn]; exact M, by rw [hn, hr]; exact h, F.callV⟩
example : PySem.dunder (opOf .mul).info.2 = ("__mul__" : Str) := by kernel_rfl
example : dunderR (opOf .mul).info.2 = ("__rmul__" : Str) := by kernel_rfl
theorem at_prop {G : GC} {j k c : Nat} {d : PrD} {m : Fn} (hc : G.gt[c]? = some d.cls) (hm : G.mg d.cls = some (.ref (He.ga G.K d.cls))) (cl : Cls G.K (He.ga G.K d.cls)) (P : PropOf G.K (He.ga G.K d.cls) d.nm (d.p G.K) (d.ad G.K)) (F : DefOk G j (d.ad G.K) m) (hj : j + 1 ≤ k) : AtV G k d.nm c (some m) := by
  obtain ⟨fd, ps, F, hb, ar⟩ := F
  exact ⟨d.cls, _, hc, hm, cl, j, _, _, fd, ps, hj, P, F, hb, ar⟩
/-! ### the Hook -/
inductive Fb2 where
  | old (f : Fb)
  | exc (d : XcD) (file : Str) (ns : List Str)
  | prop (d : PrD)
  /-- an exception that _law_try catches, its three classes -/
  | caught (x a b c : Str)
  /-- an own operator's two names -/
  | opr (cls n r : Str)
def Fb2.ok (K : Frag) : Fb2 → Bool
  | .old f => f.ok K
  | .exc d file ns => excB K d file && ns.all fun n => decide (findIn K (.ref (He.ga K d.cls)) n = some none)
  | .prop d => propB K d
  | .opr cls n r => ownB K (He.ga K cls) n r
  | .caught x a b c => xfB K (He.ga K x) && (decide (exmAny K (.ref (He.ga K x)) [.ref (He.ga K a), .ref (He.ga K b), .ref (He.ga K c)] = some true) && nAts.all fun n => decide (findIn K (.ref (He.ga K x)) n = some none))
abbrev AlY : Type := He.AlD × (List FnV × List FnV) × Bool
def asY (g : Addr → Option Obj) (n : Nat) : List Addr := cStatics :: He.asD g n
def obsY (n : Nat) (fa : List He.Fa) (fb : List Fb2) (fn : List He.DefD) (xs : List XcD) (prs : List PrD) (tf : List He.Defn) (g : Addr → Option Obj) : AlY :=
  let K := He.frT g (asY g n)
  (He.obsD fa fn K, (xs.map fun d => fnV K (d.ad K), prs.map fun d => fnV K (d.ad K)), (fb.all fun f => f.ok K) && He.tabsB g tf K)
def valY (fn : List He.DefD) (xs : List XcD) (prs : List PrD) : AlY := (He.valD fn, (xs.map XcD.val, prs.map PrD.val), true)
structure SaysY (fa : List He.Fa) (fb : List Fb2) (fn : List He.DefD) (xs : List XcD) (prs : List PrD) (tf : List He.Defn) (h : Heap) (K : Frag) : Prop where
  old : He.SaysD fa fn K
  b : ∀ f ∈ fb, f.ok K = true
  x : xs.map (fun d => fnV K (d.ad K)) = xs.map XcD.val
  pr : prs.map (fun d => fnV K (d.ad K)) = prs.map PrD.val
  hd : ∀ p ∈ tf, codeHdIn K (He.cT K p).1 (He.cT K p).2 = true
  out : ∀ p ∈ tf, K.lookup (He.cT K p).2 = none
  empty : ∀ p ∈ tf, h.get? (He.cT K p).2 = some { cls := .none, data := .fields #[] }
theorem saysY_of {n : Nat} {fa : List He.Fa} {fb : List Fb2} {fn : List He.DefD} {xs : List XcD} {prs : List PrD} {tf : List He.Defn} {h : Heap} (e : obsY n fa fb fn xs prs tf h.get? = valY fn xs prs) : SaysY fa fb fn xs prs tf h (He.frT h.get? (asY h.get? n)) := by
  have e1 := congrArg (fun z : AlY => z.1) e
  have e2 := congrArg (fun z : AlY => z.2.1.1) e
  have e2b := congrArg (fun z : AlY => z.2.1.2) e
  have e3 : ((fb.all fun f => f.ok (He.frT h.get? (asY h.get? n))) && He.tabsB h.get? tf (He.frT h.get? (asY h.get? n))) = true := congrArg (fun z : AlY => z.2.2) e
  obtain ⟨h1, h2⟩ := and2 e3
  have key : ∀ p ∈ tf, codeHdIn (He.frT h.get? (asY h.get? n)) (He.cT (He.frT h.get? (asY h.get? n)) p).1 (He.cT (He.frT h.get? (asY h.get? n)) p).2 = true ∧ ∃ o, h.get? (He.cT (He.frT h.get? (asY h.get? n)) p).2 = some o ∧ He.emptyTab o = true := fun p hp => by
    obtain ⟨h3, h4⟩ := and2 (List.all_eq_true.mp h2 p hp)
    refine ⟨h3, ?_⟩
    cases q : h.get? (He.cT (He.frT h.get? (asY h.get? n)) p).2 with
    | none => rw [q] at h4; cases h4
    | some o => rw [q] at h4; exact ⟨o, rfl, h4⟩
  refine ⟨e1, fun f hf => List.all_eq_true.mp h1 f hf, e2, e2b, fun p hp => (key p hp).1, fun p hp => ?_, fun p hp => ?_⟩
  · obtain ⟨_, o, q, z⟩ := key p hp
    exact He.frT_none q z
  · obtain ⟨_, o, q, z⟩ := key p hp
    rw [q, He.emptyTab_eq z]
def hookY (n : Nat) (fa : List He.Fa) (fb : List Fb2) (fn : List He.DefD) (xs : List XcD) (prs : List PrD) (tf : List He.Defn) : Hook :=
  ⟨AlY, fun s => obsY n fa fb fn xs prs tf s.heap.get?, fun _ => valY fn xs prs, fun _ h => ∃ K : Frag, K.In h ∧ SaysY fa fb fn xs prs tf h K, fun _ _ e => ⟨_, He.frT_in, saysY_of e⟩, fun _ _ _ ⟨K, i, c⟩ st => ⟨K, Frag.In.keeps i st, ⟨c.old, c.b, c.x, c.pr, c.hd, c.out, fun p hp => st _ _ (c.empty p hp)⟩⟩⟩
theorem obsY_eq {n : Nat} {fa : List He.Fa} {fb : List Fb2} {fn : List He.DefD} {xs : List XcD} {prs : List PrD} {tf : List He.Defn} {g : Addr → Option Obj} {s : Shared} (h : ∀ a, g a = s.heap.get? a) : obsY n fa fb fn xs prs tf g = (hookY n fa fb fn xs prs tf).obs s := by
  obtain rfl : g = s.heap.get? := funext h
  rfl
section
variable {fa : List He.Fa} {fb : List Fb2} {fn : List He.DefD} {xs : List XcD} {prs : List PrD} {tf : List He.Defn} {h : Heap} {K : Frag}
theorem SaysY.fbs (c : SaysY fa fb fn xs prs tf h K) (i : Nat) {f : Fb2} (e : fb[i]? = some f) : f.ok K = true := c.b f (List.mem_of_getElem? e)
theorem SaysY.xss (c : SaysY fa fb fn xs prs tf h K) (i : Nat) {d : XcD} (e : xs[i]? = some d) : fnV K (d.ad K) = d.val := by
  have e2 : (xs.map fun d => fnV K (d.ad K))[i]? = (xs.map XcD.val)[i]? := by rw [c.x]
  rw [List.getElem?_map, List.getElem?_map, e] at e2
  exact Option.some.inj e2
theorem SaysY.prs_ (c : SaysY fa fb fn xs prs tf h K) (i : Nat) {d : PrD} (e : prs[i]? = some d) : fnV K (d.ad K) = d.val := by
  have e2 : (prs.map fun d => fnV K (d.ad K))[i]? = (prs.map PrD.val)[i]? := by rw [c.pr]
  rw [List.getElem?_map, List.getElem?_map, e] at e2
  exact Option.some.inj e2
end
theorem tc_ok {G : GC} {id : Nat} {x a b c : Str} (hgt : G.gt[id]? = some x) (hmg : G.mg x = some (.ref (He.ga G.K x))) (h : (Fb2.caught x a b c).ok G.K = true) : TcOk G [.ref (He.ga G.K a), .ref (He.ga G.K b), .ref (He.ga G.K c)] id := by
  obtain ⟨h1, h⟩ := and2 h
  obtain ⟨h2, h3⟩ := and2 h
  exact ⟨x, _, hgt, hmg, xfB_ok h1, of_decide_eq_true h2, fun n hn => of_decide_eq_true (List.all_eq_true.mp h3 n hn)⟩
/-- a law's def is called, with tables -/
theorem walk_ofY {l : OpenLaw} {n k : Nat} {q : Program} {loose : List Str} {XP : (Str → Option Value) → Heap → Prop} {YP : World → Heap → Prop} {d : DefRec} {CX : World → CXT} {x : Str}
    (hn : l.most = some n) (hn2 : n ≤ sizeLine) (hdf : d.params.defaults = []) (hr : Room k callerA)
    (F : ∀ (w : World) (mg : Str → Option Value) (fa : Addr) (h : Heap), YP w h → h.Ns mainGlobals mg → mg d.name = some (.ref fa) → ∃ K : Frag, K.In h ∧ LamX.LawAtS l w K (CX w) k n x mg fa h)
    (hCX : ∀ (w : World) (H : Hp) (s : Shared) (e : Value) (s' : Shared), CX w [] H s (fun _ _ _ => False) e s' → False) :
    WalkO q loose XP YP l.row.toRowW d [] (fun f vs => PySem.call f vs) := by
  refine Att.attach_callB hn hdf fun w s₀ s₁ mg mb fa o pm cd doc a vs ns G Y ho hd hcd hmg hobj hints hlen hbits hg => ?_
  obtain ⟨K, KX, fd, cs, sp, hT, nT, C, hb, hsp, hF⟩ := F w mg fa _ Y G.T.g hmg
  exact LamX.law_callTs KX G.T.g G.T.b G.T.builtins G.T.nolimit hg hT nT C G.T.bmain hobj hints (Nat.le_trans hlen hn2) hr hF hb (fun H hH hS => hsp H a ns hlen hbits hH hS) fun H e s' => hCX w H s₁ e s'
end
end Lt

end
section
set_option Elab.async false
set_option linter.all false
set_option maxRecDepth 100000
set_option maxHeartbeats 4000000
/-! Lt, part 18: the combinators, run (plain Lean). -/
namespace Lt
noncomputable section
open PySem
section
variable {α β : Type} (S : Sto) (η : Env)
@[simp] theorem ret_ap (a : α) : ret a S = .ok a S := rfl
@[simp] theorem no_ap : (no : M α) S = .no := rfl
@[simp] theorem bnd_ap (m : M α) (k : α → M β) : bnd m k S = (match m S with
  | .ok a S' => k a S'
  | .exc c fs S' => .exc c fs S'
  | .no => .no) := rfl
@[simp] theorem ofO_ap (o : Option α) : ofO o S = (match o with
  | some a => .ok a S
  | none => .no) := rfl
@[simp] theorem grd_ap (c : Bool) (m : M α) : grd c m S = if c then m S else .no := by
  unfold grd
  rw [stk_eq]
  cases c <;> rfl
@[simp] theorem noX_ap (m : M α) : noX m S = (match m S with
  | .ok a S' => .ok a S'
  | _ => .no) := rfl
@[simp] theorem alc_ap (c : Cell) : alc c S = .ok (.ref S.length) (S ++ [c]) := rfl
@[simp] theorem lod_ap (n : Nat) : lod n S = (match S[n]? with
  | some c => .ok c S
  | none => .no) := rfl
@[simp] theorem sto_ap (n : Nat) (c : Cell) : sto n c S = .ok () (S.set n c) := rfl
@[simp] theorem lsAt_ap (n : Nat) : lsAt n S = (match lsO S[n]? with
  | some xs => .ok xs S
  | none => .no) := rfl
@[simp] theorem lsO_lst (xs : List D) : lsO (some (.lst xs)) = some xs := rfl
@[simp] theorem lsO_fls (xs : List D) : lsO (some (.fls xs)) = some xs := rfl
/-! expressions -/
@[simp] theorem eLoc_ap (i : Nat) : eLoc i η S = (match η[i]? with
  | some (some d) => .ok d S
  | _ => .no) := by
  unfold eLoc
  cases h : η[i]? with
  | none => rfl
  | some o => cases o <;> rfl
@[simp] theorem eC_ap (d : D) : eC d η S = .ok d S := rfl
@[simp] theorem aL_nil : aL [] η S = .ok [] S := rfl
@[simp] theorem aL_cons (f : EE) (fs : List EE) : aL (f :: fs) η S = bnd (f η) (fun x => bnd (aL fs η) fun xs => ret (x :: xs)) S := rfl
@[simp] theorem eTup_ap (fs : List EE) : eTup fs η S = bnd (aL fs η) (fun xs => ret (.tup xs)) S := rfl
@[simp] theorem eLst_ap (fs : List EE) : eLst fs η S = bnd (aL fs η) (fun xs => alc (.lst xs)) S := rfl
@[simp] theorem eBin_ap (o : Op) (f g : EE) : eBin o f g η S = bnd (f η) (fun x => bnd (g η) fun y => opB o x y) S := rfl
@[simp] theorem eNeg_ap (f : EE) : eNeg f η S = bnd (f η) negD S := rfl
@[simp] theorem eCmp_ap (o : Cm) (f g : EE) : eCmp o f g η S = bnd (f η) (fun x => bnd (g η) fun y => bnd (cmB o x y) fun b => ret (.bl b)) S := rfl
@[simp] theorem eChain_ap (o o' : Cm) (f g h : EE) : eChain o o' f g h η S = bnd (f η) (fun x => bnd (g η) fun y => bnd (cmB o x y) fun b => match b with
  | true => bnd (h η) fun z => bnd (cmB o' y z) fun c => ret (.bl c)
  | false => ret (.bl false)) S := rfl
@[simp] theorem eAnd_one (f : EE) : eAnd [f] = f := rfl
@[simp] theorem eAnd_ap (f g : EE) (fs : List EE) : eAnd (f :: g :: fs) η S = bnd (f η) (fun x => bnd (truB x) fun b => match b with
    | true => eAnd (g :: fs) η
    | false => ret x) S := rfl
@[simp] theorem eOr_one (f : EE) : eOr [f] = f := rfl
@[simp] theorem eOr_ap (f g : EE) (fs : List EE) : eOr (f :: g :: fs) η S = bnd (f η) (fun x => bnd (truB x) fun b => match b with
    | true => ret x
    | false => eOr (g :: fs) η) S := rfl
@[simp] theorem eNot_ap (f : EE) : eNot f η S = bnd (f η) (fun x => bnd (truB x) fun b => ret (.bl (!b))) S := rfl
@[simp] theorem eIf_ap (c : BB) (f g : EE) : eIf c f g η S = bnd (c η) (fun b => match b with
  | true => f η
  | false => g η) S := rfl
@[simp] theorem eIx_ap (f g : EE) : eIx f g η S = bnd (f η) (fun x => bnd (g η) fun y => ixB x y) S := rfl
@[simp] theorem pO_none : pO none η S = .ok none S := rfl
@[simp] theorem pO_some (f : EE) : pO (some f) η S = bnd (f η) (fun x => match x with
    | .int i => ret (some i)
    | _ => no) S := rfl
@[simp] theorem eSl_ap (f : EE) (lo hi : Option EE) : eSl f lo hi η S = bnd (f η) (fun x => bnd (pO lo η) fun i => bnd (pO hi η) fun j => slB x i j) S := rfl
@[simp] theorem eRev_ap (f : EE) : eRev f η S = bnd (f η) revB S := rfl
@[simp] theorem bV_ap (f : EE) : bV f η S = bnd (f η) truB S := rfl
@[simp] theorem bCmp_ap (o : Cm) (f g : EE) : bCmp o f g η S = bnd (f η) (fun x => bnd (g η) fun y => cmB o x y) S := rfl
@[simp] theorem bChain_ap (o o' : Cm) (f g h : EE) : bChain o o' f g h η S = bnd (f η) (fun x => bnd (g η) fun y => bnd (cmB o x y) fun b => match b with
  | true => bnd (h η) fun z => cmB o' y z
  | false => ret false) S := rfl
@[simp] theorem bAnd_one (f : BB) : bAnd [f] = f := rfl
@[simp] theorem bAnd_ap (f g : BB) (fs : List BB) : bAnd (f :: g :: fs) η S = bnd (f η) (fun b => match b with
    | true => bAnd (g :: fs) η
    | false => ret false) S := rfl
@[simp] theorem bOr_one (f : BB) : bOr [f] = f := rfl
@[simp] theorem bOr_ap (f g : BB) (fs : List BB) : bOr (f :: g :: fs) η S = bnd (f η) (fun b => match b with
    | true => ret true
    | false => bOr (g :: fs) η) S := rfl
@[simp] theorem bNot_ap (f : BB) : bNot f η S = bnd (f η) (fun b => ret (!b)) S := rfl
@[simp] theorem bTrue_ap : bTrue η S = .ok true S := rfl
@[simp] theorem eCall_ap (m : Fn) (fs : List EE) : eCall m fs η S = bnd (aL fs η) m S := rfl
@[simp] theorem eMeth_ap (mt : List (Nat × Fn)) (a : Nat) (f : EE) (fs : List EE) : eMeth mt a f fs η S = bnd (f η) (fun o => bnd (mOf mt a o) fun m => bnd (aL fs η) fun xs => m (o :: xs)) S := rfl
@[simp] theorem eAttr_ap (tb : List (Nat × Option Fn)) (a : Nat) (f : EE) : eAttr tb a f η S = bnd (f η) (atB tb a) S := rfl
@[simp] theorem eBm_ap (T : Ty) (m : D → List D → M D) (f : EE) (fs : List EE) : eBm T m f fs η S = bnd (f η) (fun o => bnd (isT T o) fun _ => bnd (aL fs η) fun xs => m o xs) S := rfl
@[simp] theorem eOnL_ap (m : List D → M D) (lf : Env → M (List D)) : eOnL m lf η S = bnd (lf η) m S := rfl
@[simp] theorem eAlc_ap (lf : Env → M (List D)) : eAlc lf η S = bnd (lf η) (fun xs => alc (.lst xs)) S := rfl
@[simp] theorem eIsiT_ap (ic : List Nat) (f : EE) (gs : List EE) : eIsiT ic f gs η S = bnd (f η) (fun x => bnd (aL gs η) fun cs => isiT ic x cs) S := rfl
/-! values -/
@[simp] theorem opB_add (i j : Int) : opB .add (.int i) (.int j) = ret (.int (i + j)) := rfl
@[simp] theorem opB_sub (i j : Int) : opB .sub (.int i) (.int j) = ret (.int (i - j)) := rfl
@[simp] theorem opB_mul (i j : Int) : opB .mul (.int i) (.int j) = grd (mulOk i j) (ret (.int (i * j))) := rfl
@[simp] theorem opB_fdiv (i j : Int) : opB .fdiv (.int i) (.int j) = grd (decide (0 < j) && decide (j < 1073741824)) (ret (.int (i / j))) := rfl
@[simp] theorem opB_mod (i j : Int) : opB .mod (.int i) (.int j) = grd (decide (0 < j)) (ret (.int (i % j))) := rfl
@[simp] theorem opB_pow (i j : Int) : opB .pow (.int i) (.int j) = grd (decide (0 ≤ j) && decide (j ≤ 1000000) && decide (i.natAbs < 2 ^ 64)) (ret (.int (i ^ j.toNat))) := rfl
@[simp] theorem negD_int (i : Int) : negD (.int i) = ret (.int (-i)) := rfl
@[simp] theorem cmB_lt (i j : Int) : cmB .lt (.int i) (.int j) = ret (decide (i < j)) := by
  show ret (stk _) = _
  rw [stk_eq]
@[simp] theorem cmB_le (i j : Int) : cmB .le (.int i) (.int j) = ret (decide (i ≤ j)) := by
  show ret (stk _) = _
  rw [stk_eq]
@[simp] theorem cmB_gt (i j : Int) : cmB .gt (.int i) (.int j) = ret (decide (j < i)) := by
  show ret (stk _) = _
  rw [stk_eq]
@[simp] theorem cmB_ge (i j : Int) : cmB .ge (.int i) (.int j) = ret (decide (j ≤ i)) := by
  show ret (stk _) = _
  rw [stk_eq]
@[simp] theorem cmB_isn (x : D) : cmB .isn x .non = ret (isNon x) := by cases x <;> rfl
@[simp] theorem cmB_notn (x : D) : cmB .notn x .non = ret (!isNon x) := by cases x <;> rfl
@[simp] theorem cmB_eq (x y : D) : cmB .eq x y = eqD x y := by cases x <;> cases y <;> rfl
@[simp] theorem cmB_ne (x y : D) : cmB .ne x y = bnd (eqD x y) fun b => ret (!b) := by cases x <;> cases y <;> rfl
@[simp] theorem cmB_inn (x y : D) : cmB .inn x y = inD x y := by cases x <;> cases y <;> rfl
@[simp] theorem cmB_nin (x y : D) : cmB .nin x y = bnd (inD x y) fun b => ret (!b) := by cases x <;> cases y <;> rfl
@[simp] theorem eqD_int (i j : Int) : eqD (.int i) (.int j) S = .ok (decide (i = j)) S := by
  show R.ok (PyData.eqv (.int i) (.int j)) S = _
  congr 1
@[simp] theorem truB_non : truB .non = ret false := rfl
@[simp] theorem truB_bl (b : Bool) : truB (.bl b) = ret b := rfl
@[simp] theorem truB_int (i : Int) : truB (.int i) = ret (i != 0) := rfl
@[simp] theorem truB_tup (xs : List D) : truB (.tup xs) = ret (!xs.isEmpty) := rfl
@[simp] theorem truB_ref (n : Nat) : truB (.ref n) = bnd (lsAt n) fun xs => ret (!xs.isEmpty) := rfl
@[simp] theorem ixB_tup (xs : List D) (i : Int) : ixB (.tup xs) (.int i) = ofO (L2.atI xs i) := rfl
@[simp] theorem ixB_ref (n : Nat) (i : Int) : ixB (.ref n) (.int i) = bnd (lsAt n) fun xs => ofO (L2.atI xs i) := rfl
@[simp] theorem isNon_non : isNon .non = true := rfl
@[simp] theorem isNon_int (i : Int) : isNon (.int i) = false := rfl
@[simp] theorem isNon_bl (i : Bool) : isNon (.bl i) = false := rfl
@[simp] theorem isNon_tup (i : List D) : isNon (.tup i) = false := rfl
@[simp] theorem isNon_ref (i : Nat) : isNon (.ref i) = false := rfl
@[simp] theorem isNon_str (i : Str) : isNon (.str i) = false := rfl
/-! a place of a list -/
theorem atI_nat {α : Type} {xs : List α} {i : Nat} (h : i < xs.length) : L2.atI xs (i : Int) = xs[i]? := by
  unfold L2.atI L2.ixN
  simp [h]
@[simp] theorem atI_0 {α : Type} (x : α) (xs : List α) : L2.atI (x :: xs) 0 = some x := by
  have := atI_nat (xs := x :: xs) (i := 0) (by simp)
  simpa using this
@[simp] theorem atI_1 {α : Type} (x y : α) (xs : List α) : L2.atI (x :: y :: xs) 1 = some y := by
  have := atI_nat (xs := x :: y :: xs) (i := 1) (by simp)
  simpa using this
@[simp] theorem atI_2 {α : Type} (x y z : α) (xs : List α) : L2.atI (x :: y :: z :: xs) 2 = some z := by
  have := atI_nat (xs := x :: y :: z :: xs) (i := 2) (by simp)
  simpa using this
@[simp] theorem atI_3 {α : Type} (x y z u : α) (xs : List α) : L2.atI (x :: y :: z :: u :: xs) 3 = some u := by
  have := atI_nat (xs := x :: y :: z :: u :: xs) (i := 3) (by simp)
  simpa using this
/-! isinstance -/
@[simp] theorem tyOfD_non : tyOfD S .non = some (.inl .non) := rfl
@[simp] theorem tyOfD_bl (b : Bool) : tyOfD S (.bl b) = some (.inl .bool) := rfl
@[simp] theorem tyOfD_int (i : Int) : tyOfD S (.int i) = some (.inl .int) := rfl
@[simp] theorem tyOfD_str (x : Str) : tyOfD S (.str x) = some (.inl .str) := rfl
@[simp] theorem tyOfD_tup (xs : List D) : tyOfD S (.tup xs) = some (.inl .tuple) := rfl
theorem tyOfD_lst {n : Nat} {xs : List D} (h : S[n]? = some (.lst xs)) : tyOfD S (.ref n) = some (.inl .list) := by
  unfold tyOfD
  dsimp only
  rw [h]
@[simp] theorem mIsi_ap (ic : List Nat) (x : D) (t : Ty) {a : Ty} (h : tyOfD S x = some (.inl a)) : mIsi ic [x, .ty t] S = .ok (.bl (subTy a t)) S := by
  unfold mIsi
  dsimp only
  rw [h]
  rfl
/-! lists -/
@[simp] theorem mLen_tup (xs : List D) : mLen [.tup xs] S = .ok (.int xs.length) S := rfl
@[simp] theorem mLen_ref (n : Nat) : mLen [.ref n] S = bnd (lsAt n) lLen S := rfl
@[simp] theorem lLen_ap (xs : List D) : lLen xs S = .ok (.int xs.length) S := rfl
@[simp] theorem mInt_int (i : Int) : mInt [.int i] S = .ok (.int i) S := rfl
@[simp] theorem mTuple_tup (xs : List D) : mTuple [.tup xs] S = .ok (.tup xs) S := rfl
@[simp] theorem mTuple_ref (n : Nat) : mTuple [.ref n] S = bnd (lsAt n) lTup S := rfl
@[simp] theorem lTup_ap (xs : List D) : lTup xs S = .ok (.tup xs) S := rfl
@[simp] theorem mList_tup (xs : List D) : mList [.tup xs] S = .ok (.ref S.length) (S ++ [.lst xs]) := rfl
@[simp] theorem mList_ref (n : Nat) : mList [.ref n] S = bnd (lsAt n) lList S := rfl
@[simp] theorem lList_ap (xs : List D) : lList xs S = .ok (.ref S.length) (S ++ [.lst xs]) := rfl
theorem optMap_bl : ∀ bs : List Bool, optMap asB (bs.map D.bl) = some bs
  | [] => rfl
  | b :: bs => by
    rw [List.map_cons]
    unfold optMap
    rw [optMap_bl bs]
    rfl
@[simp] theorem lAll_bl (bs : List Bool) : lAll (bs.map D.bl) S = .ok (.bl (bs.all id)) S := by
  unfold lAll
  rw [bnd_ap, optMap_bl]
  rfl
/-! statements -/
@[simp] theorem sAll_nil : sAll [] η S = .nx η S := rfl
@[simp] theorem sAll_one (f : SS) : sAll [f] η S = f η S := rfl
@[simp] theorem sAll_ap (f g : SS) (fs : List SS) : sAll (f :: g :: fs) η S = (match f η S with
  | .nx η1 S1 => sAll (g :: fs) η1 S1
  | r => r) := rfl
@[simp] theorem sB_ap (m : M α) (k : α → Sto → RS) : sB m η k S = (match m S with
  | .ok a S' => k a S'
  | .exc c fs S' => .exc c fs η S'
  | .no => .no) := rfl
@[simp] theorem sDrop_ap (f : EE) : sDrop f η S = sB (f η) η (fun _ S => .nx η S) S := rfl
@[simp] theorem sRet_ap (f : EE) : sRet f η S = sB (f η) η (fun d S => .rt d S) S := rfl
@[simp] theorem sRetN_ap : sRetN η S = .rt .non S := rfl
@[simp] theorem sNx_ap : sNx η S = .nx η S := rfl
@[simp] theorem sIf_ap (c : BB) (f g : SS) : sIf c f g η S = sB (c η) η (fun b S => match b with
  | true => f η S
  | false => g η S) S := rfl
@[simp] theorem sSet_ap (i : Nat) (f : EE) : sSet i f η S = sB (f η) η (fun d S => .nx (η.set i (some d)) S) S := rfl
@[simp] theorem sAsg_ap (g : GN) (f : EE) : sAsg g f η S = sB (f η) η (fun d S => match g d η with
  | some η1 => .nx η1 S
  | none => .no) S := rfl
@[simp] theorem sPar_ap (i j : Nat) (f g : EE) : sPar i j f g η S = sB (aL [f, g] η) η (fun ds S => match ds with
  | [d, e] => .nx ((η.set i (some d)).set j (some e)) S
  | _ => .no) S := rfl
@[simp] theorem sFldE_ap (ok : List Nat) (a : Nat) (fo fv : EE) : sFldE ok a fo fv η S = sB (fv η) η (fun d => sB (fo η) η fun o => sB (stFld ok a o d) η fun _ S => .nx η S) S := rfl
@[simp] theorem sIxE_ap (fo fi fv : EE) : sIxE fo fi fv η S = sB (fv η) η (fun d => sB (fo η) η fun o => sB (fi η) η fun i => sB (stIx o i d) η fun _ S => .nx η S) S := rfl
@[simp] theorem gnN_ap (i : Nat) (d : D) : gnN i d η = some (η.set i (some d)) := rfl
@[simp] theorem gnT_ap (gs : List GN) (ds : List D) : gnT gs (.tup ds) η = gnL gs ds η := rfl
@[simp] theorem gnL_nil : gnL [] [] η = some η := rfl
@[simp] theorem gnL_cons (g : GN) (gs : List GN) (d : D) (ds : List D) : gnL (g :: gs) (d :: ds) η = (match g d η with
  | some η1 => gnL gs ds η1
  | none => none) := rfl
@[simp] theorem runF_rt (d : D) : runF (.rt d S) = .ok d S := rfl
@[simp] theorem runF_nx : runF (.nx η S) = .ok .non S := rfl
theorem fnB_run {S : Sto} {n l : Nat} {b : SS} {ds : List D} {r : Lt.R D} (h : ds.length = n) (e : runF (b (ds.map some ++ List.replicate (l - n) none) S) = r) : fnB n l b ds S = r := by
  unfold fnB
  rw [h, Nat.beq_refl]
  exact e
end
end
end Lt

end
section
set_option Elab.async false
set_option linter.all false
set_option maxRecDepth 100000
set_option maxHeartbeats 4000000
/-! Lt, part 19: loops, run (plain Lean). -/
namespace Lt
noncomputable section
open PySem
theorem FU_lt {n : Nat} (h : n ≤ 16777216) : n < FU := Nat.lt_of_le_of_lt h (Nat.lt_of_lt_of_le (by decide) FU_ge)
section
variable {it : IT} {g : GN} {tt : BB} {te : EE} {body : Env → List D → M (List D)} {η0 : Env} {b : SS}
theorem lcB_ap (te : EE) (η : Env) (acc : List D) (S : Sto) : lcB te η acc S = bnd (noX (te η)) (fun x => grd (decide (acc.length < szL)) (ret (acc ++ [x]))) S := rfl
/-- a comprehension's turns by an invariant -/
theorem lcG_inv (N : Nat) (Inv : Nat → List D → Sto → Prop)
    (step : ∀ i acc S, i < N → Inv i acc S → ∃ d η1 t S1, it i S = some (some d) ∧ g d η0 = some η1 ∧ tt η1 S = .ok t S1 ∧ (t = false → Inv (i + 1) acc S1) ∧ (t = true → ∃ acc2 S2, body η1 acc S1 = .ok acc2 S2 ∧ Inv (i + 1) acc2 S2))
    (stop : ∀ acc S, Inv N acc S → it N S = some none) : ∀ (n i : Nat) (acc : List D) (S : Sto), i ≤ N → N - i < n → Inv i acc S → ∃ acc' S', lcG it g tt body η0 n i acc S = .ok acc' S' ∧ Inv N acc' S'
  | 0, i, acc, S, _, h, _ => absurd h (Nat.not_lt_zero _)
  | n + 1, i, acc, S, hi, hn, inv => by
    by_cases hlt : i < N
    · obtain ⟨d, η1, t, S1, h1, h2, h3, h4, h5⟩ := step i acc S hlt inv
      have ih := lcG_inv N Inv step stop n (i + 1)
      unfold lcG
      rw [h1]
      dsimp only
      rw [h2]
      dsimp only
      rw [bnd_ap, noX_ap, h3]
      dsimp only
      cases t with
      | false => exact ih acc S1 hlt (by omega) (h4 rfl)
      | true =>
        obtain ⟨acc2, S2, h6, h7⟩ := h5 rfl
        dsimp only
        rw [bnd_ap, h6]
        exact ih acc2 S2 hlt (by omega) h7
    · have e : i = N := by omega
      subst e
      refine ⟨acc, S, ?_, inv⟩
      unfold lcG
      rw [stop acc S inv]
/-- where nothing is stored -/
theorem lcG_pure {S : Sto} (xs : List D) (F : D → D) (c : D → Bool) (hit : ∀ i, i ≤ xs.length → it i S = some xs[i]?) (hx : ∀ x ∈ xs, ∃ η1, g x η0 = some η1 ∧ tt η1 S = .ok (c x) S ∧ (c x = true → te η1 S = .ok (F x) S)) :
    ∀ (n i : Nat) (acc : List D), i ≤ xs.length → xs.length - i < n → acc.length + (xs.length - i) ≤ szL → lcG it g tt (lcB te) η0 n i acc S = .ok (acc ++ ((xs.drop i).filter c).map F) S
  | 0, i, acc, _, h, _ => absurd h (Nat.not_lt_zero _)
  | n + 1, i, acc, hi, hn, hz => by
    unfold lcG
    rw [hit i hi]
    by_cases hlt : i < xs.length
    · have e : xs[i]? = some xs[i] := List.getElem?_eq_getElem hlt
      rw [e]
      obtain ⟨η1, h1, h2, h3⟩ := hx xs[i] (List.getElem_mem hlt)
      dsimp only
      rw [h1]
      dsimp only
      rw [bnd_ap, noX_ap, h2]
      dsimp only
      rw [List.drop_eq_getElem_cons hlt]
      cases hc : c xs[i] with
      | false =>
        dsimp only
        rw [lcG_pure xs F c hit hx n (i + 1) acc hlt (by omega) (by omega), List.filter_cons_of_neg (by simp [hc])]
      | true =>
        dsimp only
        rw [bnd_ap]
        rw [lcB_ap, bnd_ap, noX_ap, h3 hc]
        dsimp only
        rw [grd_ap, if_pos (by simp; omega)]
        simp only [ret_ap]
        rw [lcG_pure xs F c hit hx n (i + 1) (acc ++ [F xs[i]]) hlt (by omega) (by simp; omega), List.filter_cons_of_pos hc]
        simp
    · have e : i = xs.length := by omega
      subst e
      rw [List.getElem?_eq_none (Nat.le_refl _)]
      simp
theorem lc1_pure {S : Sto} {f : II} {η : Env} {vs : List Nat} (xs : List D) (F : D → D) (c : D → Bool) (hf : f η S = .ok it S) (hit : ∀ i, i ≤ xs.length → it i S = some xs[i]?) (hz : xs.length ≤ szL)
    (hx : ∀ x ∈ xs, ∃ η1, g x (wipeE η vs) = some η1 ∧ tt η1 S = .ok (c x) S ∧ (c x = true → te η1 S = .ok (F x) S)) : lc1 f g tt te vs η S = .ok ((xs.filter c).map F) S := by
  unfold lc1
  rw [bnd_ap, hf]
  have := lcG_pure (η0 := wipeE η vs) (te := te) (tt := tt) (g := g) xs F c hit hx FU 0 [] (Nat.zero_le _) (FU_lt (by unfold szL at hz; omega)) (by simpa using hz)
  simpa using this
/-- without tests -/
theorem lc1_map {S : Sto} {f : II} {η : Env} {vs : List Nat} (xs : List D) (F : D → D) (hf : f η S = .ok it S) (hit : ∀ i, i ≤ xs.length → it i S = some xs[i]?) (hz : xs.length ≤ szL)
    (hx : ∀ x ∈ xs, ∃ η1, g x (wipeE η vs) = some η1 ∧ te η1 S = .ok (F x) S) : lc1 f g bTrue te vs η S = .ok (xs.map F) S := by
  have := lc1_pure (tt := bTrue) (vs := vs) (η := η) xs F (fun _ => true) hf hit hz (fun x h => by
    obtain ⟨η1, h1, h2⟩ := hx x h
    exact ⟨η1, h1, rfl, fun _ => h2⟩)
  rw [this, List.filter_eq_self.mpr (by simp)]
/-- a for's turns by an invariant -/
theorem forL_inv (N : Nat) (Inv : Nat → Env → Sto → Prop)
    (step : ∀ i η S, i < N → Inv i η S → ∃ d η1 η2 S2, it i S = some (some d) ∧ g d η = some η1 ∧ b η1 S = .nx η2 S2 ∧ Inv (i + 1) η2 S2)
    (stop : ∀ η S, Inv N η S → it N S = some none) : ∀ (n i : Nat) (η : Env) (S : Sto), i ≤ N → N - i < n → Inv i η S → ∃ η' S', forL it g b n i η S = .nx η' S' ∧ Inv N η' S'
  | 0, i, η, S, _, h, _ => absurd h (Nat.not_lt_zero _)
  | n + 1, i, η, S, hi, hn, inv => by
    by_cases hlt : i < N
    · obtain ⟨d, η1, η2, S2, h1, h2, h3, h4⟩ := step i η S hlt inv
      unfold forL
      rw [h1]
      dsimp only
      rw [h2]
      dsimp only
      rw [h3]
      exact forL_inv N Inv step stop n (i + 1) η2 S2 hlt (by omega) h4
    · have e : i = N := by omega
      subst e
      refine ⟨η, S, ?_, inv⟩
      unfold forL
      rw [stop η S inv]
theorem sFor_inv {f : II} {η : Env} {S : Sto} {S0 : Sto} (hf : f η S = .ok it S0) (N : Nat) (hN : N ≤ szL) (Inv : Nat → Env → Sto → Prop)
    (step : ∀ i η S, i < N → Inv i η S → ∃ d η1 η2 S2, it i S = some (some d) ∧ g d η = some η1 ∧ b η1 S = .nx η2 S2 ∧ Inv (i + 1) η2 S2)
    (stop : ∀ η S, Inv N η S → it N S = some none) (h0 : Inv 0 η S0) : ∃ η' S', sFor f g b η S = .nx η' S' ∧ Inv N η' S' := by
  unfold sFor
  rw [sB_ap, hf]
  exact forL_inv N Inv step stop FU 0 η S0 (Nat.zero_le _) (FU_lt (by unfold szL at hN; omega)) h0
end
/-! ### what is walked -/
section
variable (S : Sto) (η : Env)
@[simp] theorem iEach_ap (f : EE) : iEach f η S = bnd (f η) itOf S := rfl
@[simp] theorem itOf_tup (xs : List D) : itOf (.tup xs) S = .ok (itT xs) S := rfl
@[simp] theorem itOf_ref (n : Nat) : itOf (.ref n) S = bnd (lsAt n) (fun _ => ret (itL n)) S := rfl
@[simp] theorem iRange1_ap (f : EE) : iRange1 f η S = bnd (f η) rng1 S := rfl
@[simp] theorem iRange2_ap (f g : EE) : iRange2 f g η S = bnd (f η) (fun x => bnd (g η) fun y => rng2 x y) S := rfl
@[simp] theorem iEnumE_ap (f : EE) : iEnumE f η S = bnd (f η) enm S := rfl
@[simp] theorem iZipE_ap (f g : EE) : iZipE f g η S = bnd (f η) (fun x => bnd (g η) fun y => zp x y) S := rfl
theorem rng1_ap {i : Int} (h1 : 0 ≤ i) (h2 : i < 2 ^ 62) : rng1 (.int i) S = .ok (itR 0 i.toNat) S := by
  have h : small62 i = true := by
    unfold small62
    rw [Bool.and_eq_true]
    exact ⟨decide_eq_true (by omega), decide_eq_true h2⟩
  show grd (small62 i) (ret (itR 0 i.toNat)) S = _
  rw [h, grd_tt]
  rfl
theorem itT_at (xs : List D) (i : Nat) : itT xs i S = some xs[i]? := rfl
theorem itL_at {n : Nat} {xs : List D} (h : lsO S[n]? = some xs) (i : Nat) : itL n i S = some xs[i]? := by
  unfold itL
  rw [h]
/-- a range as a list -/
def rngD (n : Nat) : List D := (List.range n).map fun i => .int (i : Nat)
theorem rngD_len (n : Nat) : (rngD n).length = n := by simp [rngD]
theorem itR_at (n i : Nat) : itR 0 n i S = some (rngD n)[i]? := by
  unfold itR rngD
  by_cases h : i < n
  · simp [h]
  · simp [h]
end
end
end Lt

end
section
set_option Elab.async false
set_option linter.all false
set_option maxRecDepth 100000
set_option maxHeartbeats 4000000
/-! Lt, part 20: loops over what stands, by the list of the items. -/
namespace Lt
noncomputable section
open PySem
/-- a for over a list of items -/
def forD (g : GN) (b : SS) : List D → SS
  | [] => fun η S => .nx η S
  | x :: xs => fun η S => match g x η with
    | none => .no
    | some η1 => match b η1 S with
      | .nx η2 S2 => forD g b xs η2 S2
      | .ct η2 S2 => forD g b xs η2 S2
      | .bk η2 S2 => .nx η2 S2
      | r => r
@[simp] theorem forD_nil (g : GN) (b : SS) (η : Env) (S : Sto) : forD g b [] η S = .nx η S := rfl
theorem forD_cons (g : GN) (b : SS) (x : D) (xs : List D) (η : Env) (S : Sto) : forD g b (x :: xs) η S = (match g x η with
    | none => .no
    | some η1 => match b η1 S with
      | .nx η2 S2 => forD g b xs η2 S2
      | .ct η2 S2 => forD g b xs η2 S2
      | .bk η2 S2 => .nx η2 S2
      | r => r) := rfl
theorem forL_T {it : IT} {g : GN} {b : SS} {xs : List D} (hit : ∀ i S, it i S = some xs[i]?) : ∀ (n i : Nat) (η : Env) (S : Sto), i ≤ xs.length → xs.length - i < n → forL it g b n i η S = forD g b (xs.drop i) η S
  | 0, i, η, S, _, h => absurd h (Nat.not_lt_zero _)
  | n + 1, i, η, S, hi, hn => by
    unfold forL
    rw [hit]
    by_cases hlt : i < xs.length
    · rw [List.getElem?_eq_getElem hlt, List.drop_eq_getElem_cons hlt]
      dsimp only
      unfold forD
      cases g xs[i] η with
      | none => rfl
      | some η1 =>
        dsimp only
        cases b η1 S with
        | nx η2 S2 => exact forL_T hit n (i + 1) η2 S2 hlt (by omega)
        | ct η2 S2 => exact forL_T hit n (i + 1) η2 S2 hlt (by omega)
        | _ => rfl
    · have e : i = xs.length := by omega
      subst e
      rw [List.getElem?_eq_none (Nat.le_refl _), List.drop_length]
      rfl
/-- over a tuple, a range: what is walked is not in the store -/
theorem sFor_T {f : II} {g : GN} {b : SS} {η : Env} {S S1 : Sto} {it : IT} {xs : List D} (hf : f η S = .ok it S1) (hit : ∀ i S, it i S = some xs[i]?) (hz : xs.length ≤ szL) : sFor f g b η S = forD g b xs η S1 := by
  unfold sFor
  rw [sB_ap, hf]
  dsimp only
  rw [forL_T hit FU 0 η S1 (Nat.zero_le _) (FU_lt (by unfold szL at hz; omega))]
  rfl
end
end Lt

end
section
set_option Elab.async false
set_option linter.all false
set_option maxRecDepth 100000
set_option maxHeartbeats 4000000
/-! Lt, part 21: ground values (numbers, texts, tuples of such): equality, membership, order. -/
namespace Lt
noncomputable section
open PySem
/-- numbers, texts, None and tuples of such, so deep at most -/
def gnd : Nat → D → Bool
  | 0, _ => false
  | _ + 1, .int _ => true
  | _ + 1, .str x => PyData.strOk x
  | _ + 1, .non => true
  | n + 1, .tup xs => decide (xs.length ≤ 100000) && xs.all (gnd n)
  | _ + 1, _ => false
/-- its data -/
def pdn : Nat → D → PyData
  | 0, _ => .none
  | _ + 1, .int i => .int i
  | _ + 1, .str x => .str x
  | n + 1, .tup xs => .tuple (xs.map (pdn n))
  | _ + 1, _ => .none
theorem optMap_all {α β : Type} {f : α → Option β} {g : α → β} : ∀ {xs : List α}, (∀ x ∈ xs, f x = some (g x)) → optMap f xs = some (xs.map g)
  | [], _ => rfl
  | x :: xs, h => by
    unfold optMap
    rw [h x (List.mem_cons_self ..), optMap_all fun y hy => h y (List.mem_cons_of_mem _ hy)]
    rfl
theorem gnd_up : ∀ {n : Nat} {d : D}, gnd n d = true → gnd (n + 1) d = true
  | 0, d, h => by cases d <;> cases h
  | n + 1, d, h => by
    cases d with
    | tup xs =>
      obtain ⟨h1, h2⟩ := and2 (show (decide (xs.length ≤ 100000) && xs.all (gnd n)) = true from h)
      show (decide (xs.length ≤ 100000) && xs.all (gnd (n + 1))) = true
      rw [h1, Bool.true_and, List.all_eq_true]
      exact fun x hx => gnd_up (List.all_eq_true.mp h2 x hx)
    | int i => rfl
    | str i => exact h
    | non => rfl
    | _ => cases h
theorem gnd_le {n m : Nat} (h : n ≤ m) {d : D} (g : gnd n d = true) : gnd m d = true := by
  induction h with
  | refl => exact g
  | step _ ih => exact gnd_up ih
theorem pdn_up : ∀ {n : Nat} {d : D}, gnd n d = true → pdn (n + 1) d = pdn n d
  | 0, d, h => by cases d <;> cases h
  | n + 1, d, h => by
    cases d with
    | tup xs =>
      obtain ⟨h1, h2⟩ := and2 (show (decide (xs.length ≤ 100000) && xs.all (gnd n)) = true from h)
      show PyData.tuple (xs.map (pdn (n + 1))) = PyData.tuple (xs.map (pdn n))
      congr 1
      exact List.map_congr_left fun x hx => pdn_up (List.all_eq_true.mp h2 x hx)
    | _ => rfl
theorem pdn_le {n m : Nat} (h : n ≤ m) {d : D} (g : gnd n d = true) : pdn m d = pdn n d := by
  induction h with
  | refl => rfl
  | step k ih => rw [pdn_up (gnd_le k g), ih]
theorem gnd_toP (S : Sto) : ∀ {n : Nat} {d : D}, gnd n d = true → toP n S d = some (pdn n d)
  | 0, _, h => by cases h
  | n + 1, d, h => by
    cases d with
    | tup xs =>
      obtain ⟨h1, h2⟩ := and2 (show (decide (xs.length ≤ 100000) && xs.all (gnd n)) = true from h)
      show (match optMap (toP n S) xs with
        | some ps => some (PyData.tuple ps)
        | none => none) = _
      rw [optMap_all (g := pdn n) fun x hx => gnd_toP S (List.all_eq_true.mp h2 x hx)]
      rfl
    | int i => rfl
    | str i => rfl
    | non => rfl
    | _ => cases h
theorem gnd_lay : ∀ {n : Nat} {d : D}, gnd n d = true → (pdn n d).canLay0 = true ∧ (pdn n d).depth ≤ n
  | 0, _, h => by cases h
  | n + 1, d, h => by
    cases d with
    | tup xs =>
      obtain ⟨h1, h2⟩ := and2 (show (decide (xs.length ≤ 100000) && xs.all (gnd n)) = true from h)
      have h3 : ∀ x ∈ xs, (pdn n x).canLay0 = true ∧ (pdn n x).depth ≤ n := fun x hx => gnd_lay (List.all_eq_true.mp h2 x hx)
      have h4 : PyData.canLayAll0 (xs.map (pdn n)) = true ∧ PyData.depthAll (xs.map (pdn n)) ≤ n := by
        clear h h1 h2
        induction xs with
        | nil => exact ⟨rfl, by simp [PyData.depthAll]⟩
        | cons x xs ih =>
          have i := ih fun y hy => h3 y (List.mem_cons_of_mem _ hy)
          have j := h3 x (List.mem_cons_self ..)
          refine ⟨by simp [PyData.canLayAll0, i.1, j.1], ?_⟩
          have := i.2
          have := j.2
          simp [PyData.depthAll]
          omega
      refine ⟨by simp [pdn, PyData.canLay0, h4.1], ?_⟩
      have := h4.2
      simp [pdn, PyData.depth]
      omega
    | int i => exact ⟨rfl, by simp [pdn, PyData.depth]⟩
    | str i => exact ⟨h, by simp [pdn, PyData.depth]⟩
    | non => exact ⟨rfl, by simp [pdn, PyData.depth]⟩
    | _ => cases h
theorem gnd_eqv : ∀ {n : Nat} {d e : D}, gnd n d = true → gnd n e = true → (PyData.eqv (pdn n d) (pdn n e) = true ↔ d = e)
  | 0, _, _, h, _ => by cases h
  | n + 1, d, e, h, k => by
    have all : ∀ (xs ys : List D), (∀ x ∈ xs, gnd n x = true) → (∀ y ∈ ys, gnd n y = true) → (PyData.eqvAll (xs.map (pdn n)) (ys.map (pdn n)) = true ↔ xs = ys) := by
      intro xs
      induction xs with
      | nil => intro ys _ _; cases ys <;> simp [PyData.eqvAll]
      | cons x xs ih =>
        intro ys hx hy
        cases ys with
        | nil => simp [PyData.eqvAll]
        | cons y ys =>
          simp only [List.map_cons, PyData.eqvAll, Bool.and_eq_true, List.cons.injEq]
          rw [gnd_eqv (hx x (List.mem_cons_self ..)) (hy y (List.mem_cons_self ..)), ih ys (fun z hz => hx z (List.mem_cons_of_mem _ hz)) (fun z hz => hy z (List.mem_cons_of_mem _ hz))]
    cases d with
    | tup xs =>
      obtain ⟨h1, h2⟩ := and2 (show (decide (xs.length ≤ 100000) && xs.all (gnd n)) = true from h)
      cases e with
      | tup ys =>
        obtain ⟨k1, k2⟩ := and2 (show (decide (ys.length ≤ 100000) && ys.all (gnd n)) = true from k)
        simp only [pdn, PyData.eqv, D.tup.injEq]
        exact all xs ys (List.all_eq_true.mp h2) (List.all_eq_true.mp k2)
      | int i => simp [pdn, PyData.eqv]
      | str i => simp [pdn, PyData.eqv]
      | non => simp [pdn, PyData.eqv]
      | _ => cases k
    | int i =>
      cases e with
      | tup ys => simp [pdn, PyData.eqv]
      | int i => simp [pdn, PyData.eqv]
      | str i => simp [pdn, PyData.eqv]
      | non => simp [pdn, PyData.eqv]
      | _ => cases k
    | str i =>
      cases e with
      | tup ys => simp [pdn, PyData.eqv]
      | int i => simp [pdn, PyData.eqv]
      | str i => simp [pdn, PyData.eqv]
      | non => simp [pdn, PyData.eqv]
      | _ => cases k
    | non =>
      cases e with
      | tup ys => simp [pdn, PyData.eqv]
      | int i => simp [pdn, PyData.eqv]
      | str i => simp [pdn, PyData.eqv]
      | non => simp [pdn, PyData.eqv]
      | _ => cases k
    | _ => cases h
instance : DecidableEq D := fun _ _ => Classical.propDecidable _
/-- ground, not too deep -/
def Gd (d : D) : Prop := gnd 60 d = true
def Gds (xs : List D) : Prop := xs.length ≤ 100000 ∧ ∀ x ∈ xs, Gd x
def pd (d : D) : PyData := pdn 60 d
theorem Gd.toP {d : D} (h : Gd d) {n : Nat} (hn : 60 ≤ n) (S : Sto) : toP n S d = some (pd d) := by
  rw [gnd_toP S (gnd_le hn h), pdn_le hn h]
  rfl
theorem dataOf_gd {d : D} (h : Gd d) (S : Sto) : dataOf d S = .ok (pd d) S := by
  unfold dataOf
  rw [h.toP (by decide)]
  have l := gnd_lay h
  have : SeqAt.shaped (pd d) = true := by
    unfold SeqAt.shaped
    rw [show (pd d).canLay0 = true from l.1, Bool.true_and]
    exact decide_eq_true (Nat.le_trans l.2 (by decide))
  dsimp only
  rw [this]
theorem dataOf_gds {l : Nat} {xs : List D} {S : Sto} (h : lsO S[l]? = some xs) (g : Gds xs) : dataOf (.ref l) S = .ok (.list (xs.map pd)) S := by
  unfold dataOf
  have e : Lt.toP 64 S (.ref l) = some (.list (xs.map pd)) := by
    show (match lsO S[l]? with
      | some xs => (match optMap (Lt.toP 63 S) xs with
        | some ps => some (PyData.list ps)
        | none => none)
      | none => none) = _
    rw [h]
    dsimp only
    rw [optMap_all (g := pd) fun x hx => (g.2 x hx).toP (by decide) S]
  rw [e]
  have : SeqAt.shaped (PyData.list (xs.map pd)) = true := by
    have h4 : PyData.canLayAll0 (xs.map pd) = true ∧ PyData.depthAll (xs.map pd) ≤ 60 := by
      have h3 : ∀ x ∈ xs, (pd x).canLay0 = true ∧ (pd x).depth ≤ 60 := fun x hx => gnd_lay (g.2 x hx)
      clear g h e
      induction xs with
      | nil => exact ⟨rfl, by simp [PyData.depthAll]⟩
      | cons x xs ih =>
        have i := ih fun y hy => h3 y (List.mem_cons_of_mem _ hy)
        have j := h3 x (List.mem_cons_self ..)
        refine ⟨by simp [PyData.canLayAll0, i.1, j.1], ?_⟩
        have := i.2
        have := j.2
        simp [PyData.depthAll]
        omega
    unfold SeqAt.shaped
    rw [show (PyData.list (xs.map pd)).canLay0 = true by simp [PyData.canLay0, h4.1], Bool.true_and]
    refine decide_eq_true ?_
    have := h4.2
    simp [PyData.depth]
    omega
  dsimp only
  rw [this]
theorem pd_eqv {x y : D} (hx : Gd x) (hy : Gd y) : PyData.eqv (pd x) (pd y) = decide (x = y) := by
  rw [Bool.eq_iff_iff, decide_eq_true_iff]
  exact gnd_eqv hx hy
theorem pd_eqvAll : ∀ {xs ys : List D}, (∀ x ∈ xs, Gd x) → (∀ y ∈ ys, Gd y) → PyData.eqvAll (xs.map pd) (ys.map pd) = decide (xs = ys)
  | [], [], _, _ => by simp [PyData.eqvAll]
  | [], _ :: _, _, _ => by simp [PyData.eqvAll]
  | _ :: _, [], _, _ => by simp [PyData.eqvAll]
  | x :: xs, y :: ys, h, k => by
    simp only [List.map_cons, PyData.eqvAll]
    rw [pd_eqv (h x (List.mem_cons_self ..)) (k y (List.mem_cons_self ..)), pd_eqvAll (fun z hz => h z (List.mem_cons_of_mem _ hz)) (fun z hz => k z (List.mem_cons_of_mem _ hz))]
    rw [Bool.eq_iff_iff]
    simp
theorem eqD_gd {x y : D} (hx : Gd x) (hy : Gd y) (S : Sto) : eqD x y S = .ok (decide (x = y)) S := by
  unfold eqD
  rw [bnd_ap, dataOf_gd hx]
  dsimp only
  rw [bnd_ap, dataOf_gd hy]
  dsimp only
  rw [ret_ap, pd_eqv hx hy]
theorem eqD_gds {l k : Nat} {xs ys : List D} {S : Sto} (h : lsO S[l]? = some xs) (h' : lsO S[k]? = some ys) (g : Gds xs) (g' : Gds ys) : eqD (.ref l) (.ref k) S = .ok (decide (xs = ys)) S := by
  unfold eqD
  rw [bnd_ap, dataOf_gds h g]
  dsimp only
  rw [bnd_ap, dataOf_gds h' g']
  dsimp only
  rw [ret_ap, PyData.eqv, pd_eqvAll g.2 g'.2]
theorem any_mem {x : D} {xs : List D} (hx : Gd x) (g : ∀ y ∈ xs, Gd y) : ((xs.map pd).any fun z => PyData.eqv z (pd x)) = decide (x ∈ xs) := by
  rw [Bool.eq_iff_iff, decide_eq_true_iff, List.any_eq_true]
  constructor
  · rintro ⟨p, hp, e⟩
    obtain ⟨y, hy, rfl⟩ := List.mem_map.mp hp
    rw [pd_eqv (g y hy) hx, decide_eq_true_iff] at e
    exact e ▸ hy
  · intro h
    exact ⟨pd x, List.mem_map_of_mem h, by rw [pd_eqv hx hx]; simp⟩
theorem inD_gds {x : D} {l : Nat} {xs : List D} {S : Sto} (hx : Gd x) (h : lsO S[l]? = some xs) (g : Gds xs) : inD x (.ref l) S = .ok (decide (x ∈ xs)) S := by
  unfold inD
  dsimp only
  rw [bnd_ap, dataOf_gd hx]
  dsimp only
  rw [bnd_ap, dataOf_gds h g]
  dsimp only
  rw [ret_ap, any_mem hx g.2]
theorem inD_tup {x : D} {xs : List D} {S : Sto} (hx : Gd x) (g : gnd 59 (.tup xs) = true) : inD x (.tup xs) S = .ok (decide (x ∈ xs)) S := by
  have g2 : Gd (.tup xs) := gnd_up g
  obtain ⟨h1, h2⟩ := and2 (show (decide (xs.length ≤ 100000) && xs.all (gnd 58)) = true from g)
  have g3 : ∀ y ∈ xs, Gd y := fun y hy => gnd_le (by decide) (List.all_eq_true.mp h2 y hy)
  unfold inD
  dsimp only
  rw [bnd_ap, dataOf_gd hx]
  dsimp only
  rw [bnd_ap, dataOf_gd g2]
  have e : pd (.tup xs) = .tuple (xs.map pd) := by
    show PyData.tuple (xs.map (pdn 59)) = _
    congr 1
    exact List.map_congr_left fun y hy => (pdn_up (gnd_up (List.all_eq_true.mp h2 y hy))).symm
  rw [e]
  dsimp only
  rw [ret_ap, any_mem hx g3]
/-! sizes by the shape -/
theorem gd_int (i : Int) : Gd (.int i) := rfl
theorem gd_non : Gd .non := rfl
/-- so deep -/
def Gn (n : Nat) (d : D) : Prop := gnd n d = true
theorem Gn.gd {n : Nat} {d : D} (h : Gn n d) (hn : n ≤ 60 := by decide) : Gd d := gnd_le hn h
theorem Gn.up {n m : Nat} {d : D} (h : Gn n d) (hn : n ≤ m := by omega) : Gn m d := gnd_le hn h
theorem gn_int (i : Int) (n : Nat) : Gn (n + 1) (.int i) := rfl
theorem gn_tup {n : Nat} {xs : List D} (hl : xs.length ≤ 100000) (h : ∀ x ∈ xs, Gn n x) : Gn (n + 1) (.tup xs) := by
  show (decide (xs.length ≤ 100000) && xs.all (gnd n)) = true
  rw [decide_eq_true hl, Bool.true_and, List.all_eq_true]
  exact h
/-! the order of pairs -/
theorem lt_pair (a b c d : Int) (S : Sto) : cmB .lt (.tup [.int a, .int b]) (.tup [.int c, .int d]) S = .ok (decide (a < c ∨ a = c ∧ b < d)) S := by
  show ltD (.tup [.int a, .int b]) (.tup [.int c, .int d]) S = _
  unfold ltD
  rw [bnd_ap, dataOf_gd (d := .tup [.int a, .int b]) rfl]
  dsimp only
  rw [bnd_ap, dataOf_gd (d := .tup [.int c, .int d]) rfl]
  dsimp only
  rw [grd_ap, if_pos (by rfl)]
  rw [ret_ap]
  congr 1
  show PySem.W.dataLt (.tuple [.int a, .int b]) (.tuple [.int c, .int d]) = _
  rw [PySem.W.dataLt_tuple]
  by_cases h : a = c
  · subst h
    rw [PySem.W.dataLt_all_yes rfl (by simp [PyData.eqv])]
    by_cases h : b = d
    · subst h
      rw [PySem.W.dataLt_all_yes rfl (by simp [PyData.eqv])]
      have e : PySem.W.keyToksAll [] = [.inl 0] := rfl
      simp [e, PyProof.Rows.lexLt]
      decide
    · rw [PySem.W.dataLt_all_no rfl (by simp [PyData.eqv, h]), PySem.W.dataLt_int]
      simp
  · rw [PySem.W.dataLt_all_no rfl (by simp [PyData.eqv, h]), PySem.W.dataLt_int]
    simp [h]
end
end Lt

end
section
set_option Elab.async false
set_option linter.all false
set_option maxRecDepth 100000
set_option maxHeartbeats 4000000
/-! Lt, part 22: weakest preconditions. -/
namespace Lt
noncomputable section
open PySem
section
variable {α β : Type}
def wp (m : M α) (S : Sto) (Q : α → Sto → Prop) (X : Nat → List (Nat × D) → Sto → Prop) : Prop := match m S with
  | .ok a S' => Q a S'
  | .exc c fs S' => X c fs S'
  | .no => False
abbrev NX : Nat → List (Nat × D) → Sto → Prop := fun _ _ _ => False
variable {S S' : Sto} {Q Q' : α → Sto → Prop} {X X' : Nat → List (Nat × D) → Sto → Prop} {η : Env}
theorem wp_eq {m : M α} {a : α} (h : m S = .ok a S') : wp m S Q X = Q a S' := by
  unfold wp
  rw [h]
theorem wp_congr {m m' : M α} (h : m = m') : wp m S Q X = wp m' S Q X := by rw [h]
theorem wp_mono {m : M α} (h : wp m S Q X) (hq : ∀ a S', Q a S' → Q' a S') (hx : ∀ c fs S', X c fs S' → X' c fs S') : wp m S Q' X' := by
  unfold wp at *
  cases e : m S with
  | ok a S1 => rw [e] at h; exact hq a S1 h
  | exc c fs S1 => rw [e] at h; exact hx c fs S1 h
  | no => rw [e] at h; exact h.elim
theorem wp_ok {m : M α} (h : wp m S Q NX) : ∃ a S', m S = .ok a S' ∧ Q a S' := by
  unfold wp at h
  cases e : m S with
  | ok a S1 => rw [e] at h; exact ⟨a, S1, rfl, h⟩
  | exc c fs S1 => rw [e] at h; exact h.elim
  | no => rw [e] at h; exact h.elim
@[simp ↓] theorem wp_ret (a : α) : wp (ret a) S Q X = Q a S := rfl
@[simp ↓] theorem wp_no : wp (no : M α) S Q X = False := rfl
theorem wp_cg {m : M α} (h : ∀ a S, Q a S = Q' a S) : wp m S Q X = wp m S Q' X := by
  have e : Q = Q' := by
    funext a S
    exact h a S
  rw [e]
/-- .. by a function of the value -/
def kM {β : Type} (m : β → M α) (Q : α → Sto → Prop) (X : Nat → List (Nat × D) → Sto → Prop) : β → Sto → Prop := fun x S => wp (m x) S Q X
@[simp ↓] theorem kM_ap {β : Type} (m : β → M α) (Q : α → Sto → Prop) (X : Nat → List (Nat × D) → Sto → Prop) (x : β) (S : Sto) : kM m Q X x S = wp (m x) S Q X := rfl
@[simp ↓] theorem wp_bnd (m : M β) (k : β → M α) : wp (bnd m k) S Q X = wp m S (kM k Q X) X := by
  unfold wp bnd kM
  cases m S <;> rfl
@[simp] theorem wp_ofO_some (a : α) : wp (ofO (some a)) S Q X = Q a S := rfl
theorem wp_ofO_of {o : Option α} {a : α} (h : o = some a) : wp (ofO o) S Q X = Q a S := by
  rw [h]
  rfl
@[simp ↓] theorem wp_grd (c : Bool) (m : M α) : wp (grd c m) S Q X = (c = true ∧ wp m S Q X) := by
  unfold wp
  rw [grd_ap]
  cases c <;> simp
@[simp ↓] theorem wp_noX (m : M α) : wp (noX m) S Q X = wp m S Q NX := by
  unfold wp
  rw [noX_ap]
  cases m S <;> rfl
theorem wp_ite (b : Bool) (m n : M α) : wp (match b with
  | true => m
  | false => n) S Q X = if b = true then wp m S Q X else wp n S Q X := by
  cases b <;> rfl
end
/-! continuations -/
def kBin2 (o : Op) (x : D) (Q : D → Sto → Prop) (X : Nat → List (Nat × D) → Sto → Prop) : D → Sto → Prop := fun y S => wp (opB o x y) S Q X
@[simp ↓] theorem kBin2_ap (o : Op) (x : D) (Q : D → Sto → Prop) (X : Nat → List (Nat × D) → Sto → Prop) (y : D) (S : Sto) : kBin2 o x Q X y S = (wp (opB o x y) S Q X) := rfl
def kBin (o : Op) (g : EE) (η : Env) (Q : D → Sto → Prop) (X : Nat → List (Nat × D) → Sto → Prop) : D → Sto → Prop := fun x S => wp (g η) S (kBin2 o x Q X) X
@[simp ↓] theorem kBin_ap (o : Op) (g : EE) (η : Env) (Q : D → Sto → Prop) (X : Nat → List (Nat × D) → Sto → Prop) (x : D) (S : Sto) : kBin o g η Q X x S = (wp (g η) S (kBin2 o x Q X) X) := rfl
def kBl (Q : D → Sto → Prop) : Bool → Sto → Prop := fun b S => Q (.bl b) S
@[simp ↓] theorem kBl_ap (Q : D → Sto → Prop) (b : Bool) (S : Sto) : kBl Q b S = (Q (.bl b) S) := rfl
def kCmp2 (o : Cm) (x : D) (B : Bool → Sto → Prop) (X : Nat → List (Nat × D) → Sto → Prop) : D → Sto → Prop := fun y S => wp (cmB o x y) S B X
@[simp ↓] theorem kCmp2_ap (o : Cm) (x : D) (B : Bool → Sto → Prop) (X : Nat → List (Nat × D) → Sto → Prop) (y : D) (S : Sto) : kCmp2 o x B X y S = (wp (cmB o x y) S B X) := rfl
def kCmp (o : Cm) (g : EE) (η : Env) (B : Bool → Sto → Prop) (X : Nat → List (Nat × D) → Sto → Prop) : D → Sto → Prop := fun x S => wp (g η) S (kCmp2 o x B X) X
@[simp ↓] theorem kCmp_ap (o : Cm) (g : EE) (η : Env) (B : Bool → Sto → Prop) (X : Nat → List (Nat × D) → Sto → Prop) (x : D) (S : Sto) : kCmp o g η B X x S = (wp (g η) S (kCmp2 o x B X) X) := rfl
def kChain3 (o' : Cm) (y : D) (h : EE) (η : Env) (B : Bool → Sto → Prop) (X : Nat → List (Nat × D) → Sto → Prop) : Bool → Sto → Prop := fun b S => if b = true then wp (h η) S (kCmp2 o' y B X) X else B false S
@[simp ↓] theorem kChain3_ap (o' : Cm) (y : D) (h : EE) (η : Env) (B : Bool → Sto → Prop) (X : Nat → List (Nat × D) → Sto → Prop) (b : Bool) (S : Sto) : kChain3 o' y h η B X b S = (if b = true then wp (h η) S (kCmp2 o' y B X) X else B false S) := rfl
def kChain2 (o o' : Cm) (x : D) (h : EE) (η : Env) (B : Bool → Sto → Prop) (X : Nat → List (Nat × D) → Sto → Prop) : D → Sto → Prop := fun y S => wp (cmB o x y) S (kChain3 o' y h η B X) X
@[simp ↓] theorem kChain2_ap (o o' : Cm) (x : D) (h : EE) (η : Env) (B : Bool → Sto → Prop) (X : Nat → List (Nat × D) → Sto → Prop) (y : D) (S : Sto) : kChain2 o o' x h η B X y S = (wp (cmB o x y) S (kChain3 o' y h η B X) X) := rfl
def kChain (o o' : Cm) (g h : EE) (η : Env) (B : Bool → Sto → Prop) (X : Nat → List (Nat × D) → Sto → Prop) : D → Sto → Prop := fun x S => wp (g η) S (kChain2 o o' x h η B X) X
@[simp ↓] theorem kChain_ap (o o' : Cm) (g h : EE) (η : Env) (B : Bool → Sto → Prop) (X : Nat → List (Nat × D) → Sto → Prop) (x : D) (S : Sto) : kChain o o' g h η B X x S = (wp (g η) S (kChain2 o o' x h η B X) X) := rfl
def kAnd2 (g : EE) (fs : List EE) (η : Env) (Q : D → Sto → Prop) (X : Nat → List (Nat × D) → Sto → Prop) (x : D) : Bool → Sto → Prop := fun b S => if b = true then wp (eAnd (g :: fs) η) S Q X else Q x S
@[simp ↓] theorem kAnd2_ap (g : EE) (fs : List EE) (η : Env) (Q : D → Sto → Prop) (X : Nat → List (Nat × D) → Sto → Prop) (x : D) (b : Bool) (S : Sto) : kAnd2 g fs η Q X x b S = (if b = true then wp (eAnd (g :: fs) η) S Q X else Q x S) := rfl
def kAnd (g : EE) (fs : List EE) (η : Env) (Q : D → Sto → Prop) (X : Nat → List (Nat × D) → Sto → Prop) : D → Sto → Prop := fun x S => wp (truB x) S (kAnd2 g fs η Q X x) X
@[simp ↓] theorem kAnd_ap (g : EE) (fs : List EE) (η : Env) (Q : D → Sto → Prop) (X : Nat → List (Nat × D) → Sto → Prop) (x : D) (S : Sto) : kAnd g fs η Q X x S = (wp (truB x) S (kAnd2 g fs η Q X x) X) := rfl
def kOr2 (g : EE) (fs : List EE) (η : Env) (Q : D → Sto → Prop) (X : Nat → List (Nat × D) → Sto → Prop) (x : D) : Bool → Sto → Prop := fun b S => if b = true then Q x S else wp (eOr (g :: fs) η) S Q X
@[simp ↓] theorem kOr2_ap (g : EE) (fs : List EE) (η : Env) (Q : D → Sto → Prop) (X : Nat → List (Nat × D) → Sto → Prop) (x : D) (b : Bool) (S : Sto) : kOr2 g fs η Q X x b S = (if b = true then Q x S else wp (eOr (g :: fs) η) S Q X) := rfl
def kOr (g : EE) (fs : List EE) (η : Env) (Q : D → Sto → Prop) (X : Nat → List (Nat × D) → Sto → Prop) : D → Sto → Prop := fun x S => wp (truB x) S (kOr2 g fs η Q X x) X
@[simp ↓] theorem kOr_ap (g : EE) (fs : List EE) (η : Env) (Q : D → Sto → Prop) (X : Nat → List (Nat × D) → Sto → Prop) (x : D) (S : Sto) : kOr g fs η Q X x S = (wp (truB x) S (kOr2 g fs η Q X x) X) := rfl
def kIf (f g : EE) (η : Env) (Q : D → Sto → Prop) (X : Nat → List (Nat × D) → Sto → Prop) : Bool → Sto → Prop := fun b S => if b = true then wp (f η) S Q X else wp (g η) S Q X
@[simp ↓] theorem kIf_ap (f g : EE) (η : Env) (Q : D → Sto → Prop) (X : Nat → List (Nat × D) → Sto → Prop) (b : Bool) (S : Sto) : kIf f g η Q X b S = (if b = true then wp (f η) S Q X else wp (g η) S Q X) := rfl
def kEq2 (et : List (Nat × Fn)) (x : D) (B : Bool → Sto → Prop) (X : Nat → List (Nat × D) → Sto → Prop) : D → Sto → Prop := fun y S => wp (eqO et x y) S B X
@[simp ↓] theorem kEq2_ap (et : List (Nat × Fn)) (x : D) (B : Bool → Sto → Prop) (X : Nat → List (Nat × D) → Sto → Prop) (y : D) (S : Sto) : kEq2 et x B X y S = (wp (eqO et x y) S B X) := rfl
def kEq (et : List (Nat × Fn)) (g : EE) (η : Env) (B : Bool → Sto → Prop) (X : Nat → List (Nat × D) → Sto → Prop) : D → Sto → Prop := fun x S => wp (g η) S (kEq2 et x B X) X
@[simp ↓] theorem kEq_ap (et : List (Nat × Fn)) (g : EE) (η : Env) (B : Bool → Sto → Prop) (X : Nat → List (Nat × D) → Sto → Prop) (x : D) (S : Sto) : kEq et g η B X x S = (wp (g η) S (kEq2 et x B X) X) := rfl
def kNt (B : Bool → Sto → Prop) : Bool → Sto → Prop := fun b S => B (!b) S
@[simp ↓] theorem kNt_ap (B : Bool → Sto → Prop) (b : Bool) (S : Sto) : kNt B b S = (B (!b) S) := rfl
def kAt2 (x : D) (Q : D → Sto → Prop) (X : Nat → List (Nat × D) → Sto → Prop) : D → Sto → Prop := fun y S => wp (ixB x y) S Q X
@[simp ↓] theorem kAt2_ap (x : D) (Q : D → Sto → Prop) (X : Nat → List (Nat × D) → Sto → Prop) (y : D) (S : Sto) : kAt2 x Q X y S = (wp (ixB x y) S Q X) := rfl
def kAt (g : EE) (η : Env) (Q : D → Sto → Prop) (X : Nat → List (Nat × D) → Sto → Prop) : D → Sto → Prop := fun x S => wp (g η) S (kAt2 x Q X) X
@[simp ↓] theorem kAt_ap (g : EE) (η : Env) (Q : D → Sto → Prop) (X : Nat → List (Nat × D) → Sto → Prop) (x : D) (S : Sto) : kAt g η Q X x S = (wp (g η) S (kAt2 x Q X) X) := rfl
def kSl3 (x : D) (i : Option Int) (Q : D → Sto → Prop) (X : Nat → List (Nat × D) → Sto → Prop) : (Option Int) → Sto → Prop := fun j S => wp (slB x i j) S Q X
@[simp ↓] theorem kSl3_ap (x : D) (i : Option Int) (Q : D → Sto → Prop) (X : Nat → List (Nat × D) → Sto → Prop) (j : Option Int) (S : Sto) : kSl3 x i Q X j S = (wp (slB x i j) S Q X) := rfl
def kSl2 (x : D) (hi : Option EE) (η : Env) (Q : D → Sto → Prop) (X : Nat → List (Nat × D) → Sto → Prop) : (Option Int) → Sto → Prop := fun i S => wp (pO hi η) S (kSl3 x i Q X) X
@[simp ↓] theorem kSl2_ap (x : D) (hi : Option EE) (η : Env) (Q : D → Sto → Prop) (X : Nat → List (Nat × D) → Sto → Prop) (i : Option Int) (S : Sto) : kSl2 x hi η Q X i S = (wp (pO hi η) S (kSl3 x i Q X) X) := rfl
def kSl (lo hi : Option EE) (η : Env) (Q : D → Sto → Prop) (X : Nat → List (Nat × D) → Sto → Prop) : D → Sto → Prop := fun x S => wp (pO lo η) S (kSl2 x hi η Q X) X
@[simp ↓] theorem kSl_ap (lo hi : Option EE) (η : Env) (Q : D → Sto → Prop) (X : Nat → List (Nat × D) → Sto → Prop) (x : D) (S : Sto) : kSl lo hi η Q X x S = (wp (pO lo η) S (kSl2 x hi η Q X) X) := rfl
def kA2 (x : D) (L : List D → Sto → Prop) : (List D) → Sto → Prop := fun xs S => L (x :: xs) S
@[simp ↓] theorem kA2_ap (x : D) (L : List D → Sto → Prop) (xs : List D) (S : Sto) : kA2 x L xs S = (L (x :: xs) S) := rfl
def kA (fs : List EE) (η : Env) (L : List D → Sto → Prop) (X : Nat → List (Nat × D) → Sto → Prop) : D → Sto → Prop := fun x S => wp (aL fs η) S (kA2 x L) X
@[simp ↓] theorem kA_ap (fs : List EE) (η : Env) (L : List D → Sto → Prop) (X : Nat → List (Nat × D) → Sto → Prop) (x : D) (S : Sto) : kA fs η L X x S = (wp (aL fs η) S (kA2 x L) X) := rfl
def kT (Q : D → Sto → Prop) : (List D) → Sto → Prop := fun xs S => Q (.tup xs) S
@[simp ↓] theorem kT_ap (Q : D → Sto → Prop) (xs : List D) (S : Sto) : kT Q xs S = (Q (.tup xs) S) := rfl
def kL (Q : D → Sto → Prop) : (List D) → Sto → Prop := fun xs S => Q (.ref S.length) (S ++ [.lst xs])
@[simp ↓] theorem kL_ap (Q : D → Sto → Prop) (xs : List D) (S : Sto) : kL Q xs S = (Q (.ref S.length) (S ++ [.lst xs])) := rfl
def kMe3 (o : D) (m : Fn) (Q : D → Sto → Prop) (X : Nat → List (Nat × D) → Sto → Prop) : (List D) → Sto → Prop := fun xs S => wp (m (o :: xs)) S Q X
@[simp ↓] theorem kMe3_ap (o : D) (m : Fn) (Q : D → Sto → Prop) (X : Nat → List (Nat × D) → Sto → Prop) (xs : List D) (S : Sto) : kMe3 o m Q X xs S = (wp (m (o :: xs)) S Q X) := rfl
def kMe2 (o : D) (fs : List EE) (η : Env) (Q : D → Sto → Prop) (X : Nat → List (Nat × D) → Sto → Prop) : Fn → Sto → Prop := fun m S => wp (aL fs η) S (kMe3 o m Q X) X
@[simp ↓] theorem kMe2_ap (o : D) (fs : List EE) (η : Env) (Q : D → Sto → Prop) (X : Nat → List (Nat × D) → Sto → Prop) (m : Fn) (S : Sto) : kMe2 o fs η Q X m S = (wp (aL fs η) S (kMe3 o m Q X) X) := rfl
def kMe (mt : List (Nat × Fn)) (a : Nat) (fs : List EE) (η : Env) (Q : D → Sto → Prop) (X : Nat → List (Nat × D) → Sto → Prop) : D → Sto → Prop := fun o S => wp (mOf mt a o) S (kMe2 o fs η Q X) X
@[simp ↓] theorem kMe_ap (mt : List (Nat × Fn)) (a : Nat) (fs : List EE) (η : Env) (Q : D → Sto → Prop) (X : Nat → List (Nat × D) → Sto → Prop) (o : D) (S : Sto) : kMe mt a fs η Q X o S = (wp (mOf mt a o) S (kMe2 o fs η Q X) X) := rfl
def kBm3 (o : D) (m : D → List D → M D) (Q : D → Sto → Prop) (X : Nat → List (Nat × D) → Sto → Prop) : (List D) → Sto → Prop := fun xs S => wp (m o xs) S Q X
@[simp ↓] theorem kBm3_ap (o : D) (m : D → List D → M D) (Q : D → Sto → Prop) (X : Nat → List (Nat × D) → Sto → Prop) (xs : List D) (S : Sto) : kBm3 o m Q X xs S = (wp (m o xs) S Q X) := rfl
def kBm2 (o : D) (m : D → List D → M D) (fs : List EE) (η : Env) (Q : D → Sto → Prop) (X : Nat → List (Nat × D) → Sto → Prop) : Unit → Sto → Prop := fun u S => wp (aL fs η) S (kBm3 o m Q X) X
@[simp ↓] theorem kBm2_ap (o : D) (m : D → List D → M D) (fs : List EE) (η : Env) (Q : D → Sto → Prop) (X : Nat → List (Nat × D) → Sto → Prop) (u : Unit) (S : Sto) : kBm2 o m fs η Q X u S = (wp (aL fs η) S (kBm3 o m Q X) X) := rfl
def kBm (T : Ty) (m : D → List D → M D) (fs : List EE) (η : Env) (Q : D → Sto → Prop) (X : Nat → List (Nat × D) → Sto → Prop) : D → Sto → Prop := fun o S => wp (isT T o) S (kBm2 o m fs η Q X) X
@[simp ↓] theorem kBm_ap (T : Ty) (m : D → List D → M D) (fs : List EE) (η : Env) (Q : D → Sto → Prop) (X : Nat → List (Nat × D) → Sto → Prop) (o : D) (S : Sto) : kBm T m fs η Q X o S = (wp (isT T o) S (kBm2 o m fs η Q X) X) := rfl
def kIs2 (ic : List Nat) (x : D) (Q : D → Sto → Prop) (X : Nat → List (Nat × D) → Sto → Prop) : (List D) → Sto → Prop := fun cs S => wp (isiT ic x cs) S Q X
@[simp ↓] theorem kIs2_ap (ic : List Nat) (x : D) (Q : D → Sto → Prop) (X : Nat → List (Nat × D) → Sto → Prop) (cs : List D) (S : Sto) : kIs2 ic x Q X cs S = (wp (isiT ic x cs) S Q X) := rfl
def kIs (ic : List Nat) (gs : List EE) (η : Env) (Q : D → Sto → Prop) (X : Nat → List (Nat × D) → Sto → Prop) : D → Sto → Prop := fun x S => wp (aL gs η) S (kIs2 ic x Q X) X
@[simp ↓] theorem kIs_ap (ic : List Nat) (gs : List EE) (η : Env) (Q : D → Sto → Prop) (X : Nat → List (Nat × D) → Sto → Prop) (x : D) (S : Sto) : kIs ic gs η Q X x S = (wp (aL gs η) S (kIs2 ic x Q X) X) := rfl
def kBAnd (g : BB) (fs : List BB) (η : Env) (B : Bool → Sto → Prop) (X : Nat → List (Nat × D) → Sto → Prop) : Bool → Sto → Prop := fun b S => if b = true then wp (bAnd (g :: fs) η) S B X else B false S
@[simp ↓] theorem kBAnd_ap (g : BB) (fs : List BB) (η : Env) (B : Bool → Sto → Prop) (X : Nat → List (Nat × D) → Sto → Prop) (b : Bool) (S : Sto) : kBAnd g fs η B X b S = (if b = true then wp (bAnd (g :: fs) η) S B X else B false S) := rfl
def kBOr (g : BB) (fs : List BB) (η : Env) (B : Bool → Sto → Prop) (X : Nat → List (Nat × D) → Sto → Prop) : Bool → Sto → Prop := fun b S => if b = true then B true S else wp (bOr (g :: fs) η) S B X
@[simp ↓] theorem kBOr_ap (g : BB) (fs : List BB) (η : Env) (B : Bool → Sto → Prop) (X : Nat → List (Nat × D) → Sto → Prop) (b : Bool) (S : Sto) : kBOr g fs η B X b S = (if b = true then B true S else wp (bOr (g :: fs) η) S B X) := rfl
def kR2 (x : D) (I : IT → Sto → Prop) (X : Nat → List (Nat × D) → Sto → Prop) : D → Sto → Prop := fun y S => wp (rng2 x y) S I X
@[simp ↓] theorem kR2_ap (x : D) (I : IT → Sto → Prop) (X : Nat → List (Nat × D) → Sto → Prop) (y : D) (S : Sto) : kR2 x I X y S = (wp (rng2 x y) S I X) := rfl
def kR (g : EE) (η : Env) (I : IT → Sto → Prop) (X : Nat → List (Nat × D) → Sto → Prop) : D → Sto → Prop := fun x S => wp (g η) S (kR2 x I X) X
@[simp ↓] theorem kR_ap (g : EE) (η : Env) (I : IT → Sto → Prop) (X : Nat → List (Nat × D) → Sto → Prop) (x : D) (S : Sto) : kR g η I X x S = (wp (g η) S (kR2 x I X) X) := rfl
def kZ2 (x : D) (I : IT → Sto → Prop) (X : Nat → List (Nat × D) → Sto → Prop) : D → Sto → Prop := fun y S => wp (zp x y) S I X
@[simp ↓] theorem kZ2_ap (x : D) (I : IT → Sto → Prop) (X : Nat → List (Nat × D) → Sto → Prop) (y : D) (S : Sto) : kZ2 x I X y S = (wp (zp x y) S I X) := rfl
def kZ (g : EE) (η : Env) (I : IT → Sto → Prop) (X : Nat → List (Nat × D) → Sto → Prop) : D → Sto → Prop := fun x S => wp (g η) S (kZ2 x I X) X
@[simp ↓] theorem kZ_ap (g : EE) (η : Env) (I : IT → Sto → Prop) (X : Nat → List (Nat × D) → Sto → Prop) (x : D) (S : Sto) : kZ g η I X x S = (wp (g η) S (kZ2 x I X) X) := rfl
section
variable {S S' : Sto} {X X' : Nat → List (Nat × D) → Sto → Prop} {η : Env} {Q : D → Sto → Prop} {B : Bool → Sto → Prop} {L : List D → Sto → Prop} {U : Unit → Sto → Prop}
/-- a slot's value -/
def wlo : Option (Option D) → (D → Sto → Prop) → Sto → Prop
  | some (some d), k, S => k d S
  | _, _, _ => False
@[simp] theorem wlo_some (d : D) (k : D → Sto → Prop) : wlo (some (some d)) k S = k d S := rfl
@[simp ↓] theorem wp_alc (c : Cell) : wp (alc c) S Q X = Q (.ref S.length) (S ++ [c]) := rfl
theorem wp_lod {C : Cell → Sto → Prop} {n : Nat} {c : Cell} (h : S[n]? = some c) : wp (lod n) S C X = C c S := by
  unfold wp
  rw [lod_ap, h]
@[simp ↓] theorem wp_sto (n : Nat) (c : Cell) : wp (sto n c) S U X = U () (S.set n c) := rfl
theorem wp_lsAt {n : Nat} {xs : List D} (h : S[n]? = some (.lst xs)) : wp (lsAt n) S L X = L xs S := by
  unfold wp
  rw [lsAt_ap, h]
  rfl
@[simp ↓] theorem wp_eLoc (i : Nat) : wp (eLoc i η) S Q X = wlo η[i]? Q S := by
  unfold wp
  rw [eLoc_ap]
  rcases η[i]? with _ | _ | d <;> rfl
@[simp ↓] theorem wp_eC (d : D) : wp (eC d η) S Q X = Q d S := rfl
@[simp ↓] theorem wp_aL_nil : wp (aL [] η) S L X = L [] S := rfl
@[simp ↓] theorem wp_aL_cons (f : EE) (fs : List EE) : wp (aL (f :: fs) η) S L X = wp (f η) S (kA fs η L X) X := by
  show wp (bnd (f η) fun x => bnd (aL fs η) fun xs => ret (x :: xs)) S L X = _
  refine (wp_bnd _ _).trans (wp_cg fun x S1 => ?_)
  exact wp_bnd _ _
@[simp ↓] theorem wp_eTup (fs : List EE) : wp (eTup fs η) S Q X = wp (aL fs η) S (kT Q) X := by
  unfold eTup
  first
    | rfl
    | (refine (wp_bnd _ _).trans (wp_cg fun x S1 => ?_)
       first
         | rfl
         | (refine (wp_bnd _ _).trans (wp_cg fun y S2 => ?_)
            first
              | rfl
              | (refine (wp_bnd _ _).trans (wp_cg fun z S3 => ?_)
                 first
                   | rfl
                   | exact wp_bnd _ _
                   | (refine (wp_bnd _ _).trans (wp_cg fun u S4 => ?_)
                      rfl))))
@[simp ↓] theorem wp_eLst (fs : List EE) : wp (eLst fs η) S Q X = wp (aL fs η) S (kL Q) X := by
  unfold eLst
  first
    | rfl
    | (refine (wp_bnd _ _).trans (wp_cg fun x S1 => ?_)
       first
         | rfl
         | (refine (wp_bnd _ _).trans (wp_cg fun y S2 => ?_)
            first
              | rfl
              | (refine (wp_bnd _ _).trans (wp_cg fun z S3 => ?_)
                 first
                   | rfl
                   | exact wp_bnd _ _
                   | (refine (wp_bnd _ _).trans (wp_cg fun u S4 => ?_)
                      rfl))))
@[simp ↓] theorem wp_eBin (o : Op) (f g : EE) : wp (eBin o f g η) S Q X = wp (f η) S (kBin o g η Q X) X := by
  unfold eBin
  first
    | rfl
    | (refine (wp_bnd _ _).trans (wp_cg fun x S1 => ?_)
       first
         | rfl
         | (refine (wp_bnd _ _).trans (wp_cg fun y S2 => ?_)
            first
              | rfl
              | (refine (wp_bnd _ _).trans (wp_cg fun z S3 => ?_)
                 first
                   | rfl
                   | exact wp_bnd _ _
                   | (refine (wp_bnd _ _).trans (wp_cg fun u S4 => ?_)
                      rfl))))
@[simp ↓] theorem wp_eNeg (f : EE) : wp (eNeg f η) S Q X = wp (f η) S (kM negD Q X) X := by
  unfold eNeg
  first
    | rfl
    | (refine (wp_bnd _ _).trans (wp_cg fun x S1 => ?_)
       first
         | rfl
         | (refine (wp_bnd _ _).trans (wp_cg fun y S2 => ?_)
            first
              | rfl
              | (refine (wp_bnd _ _).trans (wp_cg fun z S3 => ?_)
                 first
                   | rfl
                   | exact wp_bnd _ _
                   | (refine (wp_bnd _ _).trans (wp_cg fun u S4 => ?_)
                      rfl))))
@[simp ↓] theorem wp_eCmp (o : Cm) (f g : EE) : wp (eCmp o f g η) S Q X = wp (f η) S (kCmp o g η (kBl Q) X) X := by
  unfold eCmp
  first
    | rfl
    | (refine (wp_bnd _ _).trans (wp_cg fun x S1 => ?_)
       first
         | rfl
         | (refine (wp_bnd _ _).trans (wp_cg fun y S2 => ?_)
            first
              | rfl
              | (refine (wp_bnd _ _).trans (wp_cg fun z S3 => ?_)
                 first
                   | rfl
                   | exact wp_bnd _ _
                   | (refine (wp_bnd _ _).trans (wp_cg fun u S4 => ?_)
                      rfl))))
theorem wp_chainK (o o' : Cm) (x : D) (g h : EE) : wp (bnd (g η) fun y => bnd (cmB o x y) fun b => match b with
    | true => bnd (h η) fun z => bnd (cmB o' y z) fun c => ret (.bl c)
    | false => ret (.bl false)) S Q X = wp (g η) S (kChain2 o o' x h η (kBl Q) X) X := by
  refine (wp_bnd _ _).trans (wp_cg fun y S1 => ?_)
  refine (wp_bnd _ _).trans (wp_cg fun b S2 => ?_)
  cases b with
  | false => rfl
  | true =>
    refine (wp_bnd _ _).trans (wp_cg fun z S3 => ?_)
    exact wp_bnd _ _
@[simp ↓] theorem wp_eChain (o o' : Cm) (f g h : EE) : wp (eChain o o' f g h η) S Q X = wp (f η) S (kChain o o' g h η (kBl Q) X) X := by
  show wp (bnd (f η) fun x => bnd (g η) fun y => bnd (cmB o x y) fun b => match b with
    | true => bnd (h η) fun z => bnd (cmB o' y z) fun c => ret (.bl c)
    | false => ret (.bl false)) S Q X = _
  exact (wp_bnd _ _).trans (wp_cg fun x S1 => wp_chainK o o' x g h)
@[simp ↓] theorem wp_eAnd_one (f : EE) : wp (eAnd [f] η) S Q X = wp (f η) S Q X := rfl
@[simp ↓] theorem wp_eAnd (f g : EE) (fs : List EE) : wp (eAnd (f :: g :: fs) η) S Q X = wp (f η) S (kAnd g fs η Q X) X := by
  show wp (bnd (f η) fun x => bnd (truB x) fun b => match b with
    | true => eAnd (g :: fs) η
    | false => ret x) S Q X = _
  refine (wp_bnd _ _).trans (wp_cg fun x S1 => ?_)
  refine (wp_bnd _ _).trans (wp_cg fun b S1 => ?_)
  cases b <;> rfl
@[simp ↓] theorem wp_eOr_one (f : EE) : wp (eOr [f] η) S Q X = wp (f η) S Q X := rfl
@[simp ↓] theorem wp_eOr (f g : EE) (fs : List EE) : wp (eOr (f :: g :: fs) η) S Q X = wp (f η) S (kOr g fs η Q X) X := by
  show wp (bnd (f η) fun x => bnd (truB x) fun b => match b with
    | true => ret x
    | false => eOr (g :: fs) η) S Q X = _
  refine (wp_bnd _ _).trans (wp_cg fun x S1 => ?_)
  refine (wp_bnd _ _).trans (wp_cg fun b S1 => ?_)
  cases b <;> rfl
@[simp ↓] theorem wp_eIf (c : BB) (f g : EE) : wp (eIf c f g η) S Q X = wp (c η) S (kIf f g η Q X) X := by
  show wp (bnd (c η) fun b => match b with
    | true => f η
    | false => g η) S Q X = _
  refine (wp_bnd _ _).trans (wp_cg fun b S1 => ?_)
  cases b <;> rfl
@[simp ↓] theorem wp_eNot (f : EE) : wp (eNot f η) S Q X = wp (f η) S (kM truB (kNt (kBl Q)) X) X := by
  unfold eNot
  first
    | rfl
    | (refine (wp_bnd _ _).trans (wp_cg fun x S1 => ?_)
       first
         | rfl
         | (refine (wp_bnd _ _).trans (wp_cg fun y S2 => ?_)
            first
              | rfl
              | (refine (wp_bnd _ _).trans (wp_cg fun z S3 => ?_)
                 first
                   | rfl
                   | exact wp_bnd _ _
                   | (refine (wp_bnd _ _).trans (wp_cg fun u S4 => ?_)
                      rfl))))
@[simp ↓] theorem wp_eIx (f g : EE) : wp (eIx f g η) S Q X = wp (f η) S (kAt g η Q X) X := by
  unfold eIx
  first
    | rfl
    | (refine (wp_bnd _ _).trans (wp_cg fun x S1 => ?_)
       first
         | rfl
         | (refine (wp_bnd _ _).trans (wp_cg fun y S2 => ?_)
            first
              | rfl
              | (refine (wp_bnd _ _).trans (wp_cg fun z S3 => ?_)
                 first
                   | rfl
                   | exact wp_bnd _ _
                   | (refine (wp_bnd _ _).trans (wp_cg fun u S4 => ?_)
                      rfl))))
@[simp ↓] theorem wp_pO_none {I : Option Int → Sto → Prop} : wp (pO none η) S I X = I none S := rfl
def kPO (I : Option Int → Sto → Prop) : D → Sto → Prop
  | .int i, S => I (some i) S
  | _, _ => False
@[simp ↓] theorem kPO_ap (I : Option Int → Sto → Prop) (i : Int) (S : Sto) : kPO I (.int i) S = I (some i) S := rfl
@[simp ↓] theorem wp_pO_some {I : Option Int → Sto → Prop} (f : EE) : wp (pO (some f) η) S I X = wp (f η) S (kPO I) X := by
  show wp (bnd (f η) fun x => match x with
    | .int i => ret (some i)
    | _ => no) S I X = _
  refine (wp_bnd _ _).trans (wp_cg fun x S1 => ?_)
  cases x <;> rfl
@[simp ↓] theorem wp_eSl (f : EE) (lo hi : Option EE) : wp (eSl f lo hi η) S Q X = wp (f η) S (kSl lo hi η Q X) X := by
  unfold eSl
  first
    | rfl
    | (refine (wp_bnd _ _).trans (wp_cg fun x S1 => ?_)
       first
         | rfl
         | (refine (wp_bnd _ _).trans (wp_cg fun y S2 => ?_)
            first
              | rfl
              | (refine (wp_bnd _ _).trans (wp_cg fun z S3 => ?_)
                 first
                   | rfl
                   | exact wp_bnd _ _
                   | (refine (wp_bnd _ _).trans (wp_cg fun u S4 => ?_)
                      rfl))))
@[simp ↓] theorem wp_eRev (f : EE) : wp (eRev f η) S Q X = wp (f η) S (kM revB Q X) X := by
  unfold eRev
  first
    | rfl
    | (refine (wp_bnd _ _).trans (wp_cg fun x S1 => ?_)
       first
         | rfl
         | (refine (wp_bnd _ _).trans (wp_cg fun y S2 => ?_)
            first
              | rfl
              | (refine (wp_bnd _ _).trans (wp_cg fun z S3 => ?_)
                 first
                   | rfl
                   | exact wp_bnd _ _
                   | (refine (wp_bnd _ _).trans (wp_cg fun u S4 => ?_)
                      rfl))))
@[simp ↓] theorem wp_eCall (m : Fn) (fs : List EE) : wp (eCall m fs η) S Q X = wp (aL fs η) S (kM m Q X) X := by
  unfold eCall
  first
    | rfl
    | (refine (wp_bnd _ _).trans (wp_cg fun x S1 => ?_)
       first
         | rfl
         | (refine (wp_bnd _ _).trans (wp_cg fun y S2 => ?_)
            first
              | rfl
              | (refine (wp_bnd _ _).trans (wp_cg fun z S3 => ?_)
                 first
                   | rfl
                   | exact wp_bnd _ _
                   | (refine (wp_bnd _ _).trans (wp_cg fun u S4 => ?_)
                      rfl))))
@[simp ↓] theorem wp_eMeth (mt : List (Nat × Fn)) (a : Nat) (f : EE) (fs : List EE) : wp (eMeth mt a f fs η) S Q X = wp (f η) S (kMe mt a fs η Q X) X := by
  unfold eMeth
  first
    | rfl
    | (refine (wp_bnd _ _).trans (wp_cg fun x S1 => ?_)
       first
         | rfl
         | (refine (wp_bnd _ _).trans (wp_cg fun y S2 => ?_)
            first
              | rfl
              | (refine (wp_bnd _ _).trans (wp_cg fun z S3 => ?_)
                 first
                   | rfl
                   | exact wp_bnd _ _
                   | (refine (wp_bnd _ _).trans (wp_cg fun u S4 => ?_)
                      rfl))))
@[simp ↓] theorem wp_eAttr (tb : List (Nat × Option Fn)) (a : Nat) (f : EE) : wp (eAttr tb a f η) S Q X = wp (f η) S (kM (atB tb a) Q X) X := by
  unfold eAttr
  first
    | rfl
    | (refine (wp_bnd _ _).trans (wp_cg fun x S1 => ?_)
       first
         | rfl
         | (refine (wp_bnd _ _).trans (wp_cg fun y S2 => ?_)
            first
              | rfl
              | (refine (wp_bnd _ _).trans (wp_cg fun z S3 => ?_)
                 first
                   | rfl
                   | exact wp_bnd _ _
                   | (refine (wp_bnd _ _).trans (wp_cg fun u S4 => ?_)
                      rfl))))
@[simp ↓] theorem wp_eBm (T : Ty) (m : D → List D → M D) (f : EE) (fs : List EE) : wp (eBm T m f fs η) S Q X = wp (f η) S (kBm T m fs η Q X) X := by
  unfold eBm
  first
    | rfl
    | (refine (wp_bnd _ _).trans (wp_cg fun x S1 => ?_)
       first
         | rfl
         | (refine (wp_bnd _ _).trans (wp_cg fun y S2 => ?_)
            first
              | rfl
              | (refine (wp_bnd _ _).trans (wp_cg fun z S3 => ?_)
                 first
                   | rfl
                   | exact wp_bnd _ _
                   | (refine (wp_bnd _ _).trans (wp_cg fun u S4 => ?_)
                      rfl))))
@[simp ↓] theorem wp_eOnL (m : List D → M D) (lf : Env → M (List D)) : wp (eOnL m lf η) S Q X = wp (lf η) S (kM m Q X) X := by
  unfold eOnL
  first
    | rfl
    | (refine (wp_bnd _ _).trans (wp_cg fun x S1 => ?_)
       first
         | rfl
         | (refine (wp_bnd _ _).trans (wp_cg fun y S2 => ?_)
            first
              | rfl
              | (refine (wp_bnd _ _).trans (wp_cg fun z S3 => ?_)
                 first
                   | rfl
                   | exact wp_bnd _ _
                   | (refine (wp_bnd _ _).trans (wp_cg fun u S4 => ?_)
                      rfl))))
@[simp ↓] theorem wp_eAlc (lf : Env → M (List D)) : wp (eAlc lf η) S Q X = wp (lf η) S (kL Q) X := by
  unfold eAlc
  first
    | rfl
    | (refine (wp_bnd _ _).trans (wp_cg fun x S1 => ?_)
       first
         | rfl
         | (refine (wp_bnd _ _).trans (wp_cg fun y S2 => ?_)
            first
              | rfl
              | (refine (wp_bnd _ _).trans (wp_cg fun z S3 => ?_)
                 first
                   | rfl
                   | exact wp_bnd _ _
                   | (refine (wp_bnd _ _).trans (wp_cg fun u S4 => ?_)
                      rfl))))
@[simp ↓] theorem wp_eIsiT (ic : List Nat) (f : EE) (gs : List EE) : wp (eIsiT ic f gs η) S Q X = wp (f η) S (kIs ic gs η Q X) X := by
  unfold eIsiT
  first
    | rfl
    | (refine (wp_bnd _ _).trans (wp_cg fun x S1 => ?_)
       first
         | rfl
         | (refine (wp_bnd _ _).trans (wp_cg fun y S2 => ?_)
            first
              | rfl
              | (refine (wp_bnd _ _).trans (wp_cg fun z S3 => ?_)
                 first
                   | rfl
                   | exact wp_bnd _ _
                   | (refine (wp_bnd _ _).trans (wp_cg fun u S4 => ?_)
                      rfl))))
@[simp ↓] theorem wp_eEqO (et : List (Nat × Fn)) (f g : EE) : wp (eEqO et f g η) S Q X = wp (f η) S (kEq et g η (kBl Q) X) X := by
  unfold eEqO
  first
    | rfl
    | (refine (wp_bnd _ _).trans (wp_cg fun x S1 => ?_)
       first
         | rfl
         | (refine (wp_bnd _ _).trans (wp_cg fun y S2 => ?_)
            first
              | rfl
              | (refine (wp_bnd _ _).trans (wp_cg fun z S3 => ?_)
                 first
                   | rfl
                   | exact wp_bnd _ _
                   | (refine (wp_bnd _ _).trans (wp_cg fun u S4 => ?_)
                      rfl))))
@[simp ↓] theorem wp_bEqO (et : List (Nat × Fn)) (f g : EE) : wp (bEqO et f g η) S B X = wp (f η) S (kEq et g η B X) X := by
  unfold bEqO
  first
    | rfl
    | (refine (wp_bnd _ _).trans (wp_cg fun x S1 => ?_)
       first
         | rfl
         | (refine (wp_bnd _ _).trans (wp_cg fun y S2 => ?_)
            first
              | rfl
              | (refine (wp_bnd _ _).trans (wp_cg fun z S3 => ?_)
                 first
                   | rfl
                   | exact wp_bnd _ _
                   | (refine (wp_bnd _ _).trans (wp_cg fun u S4 => ?_)
                      rfl))))
@[simp ↓] theorem wp_bV (f : EE) : wp (bV f η) S B X = wp (f η) S (kM truB B X) X := by
  unfold bV
  first
    | rfl
    | (refine (wp_bnd _ _).trans (wp_cg fun x S1 => ?_)
       first
         | rfl
         | (refine (wp_bnd _ _).trans (wp_cg fun y S2 => ?_)
            first
              | rfl
              | (refine (wp_bnd _ _).trans (wp_cg fun z S3 => ?_)
                 first
                   | rfl
                   | exact wp_bnd _ _
                   | (refine (wp_bnd _ _).trans (wp_cg fun u S4 => ?_)
                      rfl))))
@[simp ↓] theorem wp_bCmp (o : Cm) (f g : EE) : wp (bCmp o f g η) S B X = wp (f η) S (kCmp o g η B X) X := by
  unfold bCmp
  first
    | rfl
    | (refine (wp_bnd _ _).trans (wp_cg fun x S1 => ?_)
       first
         | rfl
         | (refine (wp_bnd _ _).trans (wp_cg fun y S2 => ?_)
            first
              | rfl
              | (refine (wp_bnd _ _).trans (wp_cg fun z S3 => ?_)
                 first
                   | rfl
                   | exact wp_bnd _ _
                   | (refine (wp_bnd _ _).trans (wp_cg fun u S4 => ?_)
                      rfl))))
@[simp ↓] theorem wp_bChain (o o' : Cm) (f g h : EE) : wp (bChain o o' f g h η) S B X = wp (f η) S (kChain o o' g h η B X) X := by
  show wp (bnd (f η) fun x => bnd (g η) fun y => bnd (cmB o x y) fun b => match b with
    | true => bnd (h η) fun z => cmB o' y z
    | false => ret false) S B X = _
  refine (wp_bnd _ _).trans (wp_cg fun x S1 => ?_)
  refine (wp_bnd _ _).trans (wp_cg fun y S2 => ?_)
  refine (wp_bnd _ _).trans (wp_cg fun b S3 => ?_)
  cases b with
  | false => rfl
  | true => exact wp_bnd _ _
@[simp ↓] theorem wp_bAnd_one (f : BB) : wp (bAnd [f] η) S B X = wp (f η) S B X := rfl
@[simp ↓] theorem wp_bAnd (f g : BB) (fs : List BB) : wp (bAnd (f :: g :: fs) η) S B X = wp (f η) S (kBAnd g fs η B X) X := by
  show wp (bnd (f η) fun b => match b with
    | true => bAnd (g :: fs) η
    | false => ret false) S B X = _
  refine (wp_bnd _ _).trans (wp_cg fun b S1 => ?_)
  cases b <;> rfl
@[simp ↓] theorem wp_bOr_one (f : BB) : wp (bOr [f] η) S B X = wp (f η) S B X := rfl
@[simp ↓] theorem wp_bOr (f g : BB) (fs : List BB) : wp (bOr (f :: g :: fs) η) S B X = wp (f η) S (kBOr g fs η B X) X := by
  show wp (bnd (f η) fun b => match b with
    | true => ret true
    | false => bOr (g :: fs) η) S B X = _
  refine (wp_bnd _ _).trans (wp_cg fun b S1 => ?_)
  cases b <;> rfl
@[simp ↓] theorem wp_bTrue : wp (bTrue η) S B X = B true S := rfl
@[simp ↓] theorem wp_bNot (f : BB) : wp (bNot f η) S B X = wp (f η) S (kNt B) X := by
  unfold bNot
  first
    | rfl
    | (refine (wp_bnd _ _).trans (wp_cg fun x S1 => ?_)
       first
         | rfl
         | (refine (wp_bnd _ _).trans (wp_cg fun y S2 => ?_)
            first
              | rfl
              | (refine (wp_bnd _ _).trans (wp_cg fun z S3 => ?_)
                 first
                   | rfl
                   | exact wp_bnd _ _
                   | (refine (wp_bnd _ _).trans (wp_cg fun u S4 => ?_)
                      rfl))))
/-! what is walked -/
section
variable {I : IT → Sto → Prop}
@[simp ↓] theorem wp_iEach (f : EE) : wp (iEach f η) S I X = wp (f η) S (kM itOf I X) X := by
  unfold iEach
  first
    | rfl
    | (refine (wp_bnd _ _).trans (wp_cg fun x S1 => ?_)
       first
         | rfl
         | (refine (wp_bnd _ _).trans (wp_cg fun y S2 => ?_)
            first
              | rfl
              | (refine (wp_bnd _ _).trans (wp_cg fun z S3 => ?_)
                 first
                   | rfl
                   | exact wp_bnd _ _
                   | (refine (wp_bnd _ _).trans (wp_cg fun u S4 => ?_)
                      rfl))))
@[simp ↓] theorem wp_iRange1 (f : EE) : wp (iRange1 f η) S I X = wp (f η) S (kM rng1 I X) X := by
  unfold iRange1
  first
    | rfl
    | (refine (wp_bnd _ _).trans (wp_cg fun x S1 => ?_)
       first
         | rfl
         | (refine (wp_bnd _ _).trans (wp_cg fun y S2 => ?_)
            first
              | rfl
              | (refine (wp_bnd _ _).trans (wp_cg fun z S3 => ?_)
                 first
                   | rfl
                   | exact wp_bnd _ _
                   | (refine (wp_bnd _ _).trans (wp_cg fun u S4 => ?_)
                      rfl))))
@[simp ↓] theorem wp_iRange2 (f g : EE) : wp (iRange2 f g η) S I X = wp (f η) S (kR g η I X) X := by
  unfold iRange2
  first
    | rfl
    | (refine (wp_bnd _ _).trans (wp_cg fun x S1 => ?_)
       first
         | rfl
         | (refine (wp_bnd _ _).trans (wp_cg fun y S2 => ?_)
            first
              | rfl
              | (refine (wp_bnd _ _).trans (wp_cg fun z S3 => ?_)
                 first
                   | rfl
                   | exact wp_bnd _ _
                   | (refine (wp_bnd _ _).trans (wp_cg fun u S4 => ?_)
                      rfl))))
@[simp ↓] theorem wp_iEnumE (f : EE) : wp (iEnumE f η) S I X = wp (f η) S (kM enm I X) X := by
  unfold iEnumE
  first
    | rfl
    | (refine (wp_bnd _ _).trans (wp_cg fun x S1 => ?_)
       first
         | rfl
         | (refine (wp_bnd _ _).trans (wp_cg fun y S2 => ?_)
            first
              | rfl
              | (refine (wp_bnd _ _).trans (wp_cg fun z S3 => ?_)
                 first
                   | rfl
                   | exact wp_bnd _ _
                   | (refine (wp_bnd _ _).trans (wp_cg fun u S4 => ?_)
                      rfl))))
@[simp ↓] theorem wp_iZipE (f g : EE) : wp (iZipE f g η) S I X = wp (f η) S (kZ g η I X) X := by
  unfold iZipE
  first
    | rfl
    | (refine (wp_bnd _ _).trans (wp_cg fun x S1 => ?_)
       first
         | rfl
         | (refine (wp_bnd _ _).trans (wp_cg fun y S2 => ?_)
            first
              | rfl
              | (refine (wp_bnd _ _).trans (wp_cg fun z S3 => ?_)
                 first
                   | rfl
                   | exact wp_bnd _ _
                   | (refine (wp_bnd _ _).trans (wp_cg fun u S4 => ?_)
                      rfl))))
@[simp ↓] theorem wp_itOf_tup (xs : List D) : wp (itOf (.tup xs)) S I X = I (itT xs) S := rfl
theorem wp_itOf_ref {n : Nat} {xs : List D} (h : S[n]? = some (.lst xs)) : wp (itOf (.ref n)) S I X = I (itL n) S := by
  show wp (bnd (lsAt n) fun _ => ret (itL n)) S I X = _
  rw [wp_bnd, wp_lsAt h]
  rfl
theorem wp_rng1 {i : Int} (h1 : 0 ≤ i) (h2 : i < 2 ^ 62) : wp (rng1 (.int i)) S I X = I (itR 0 i.toNat) S := wp_eq (rng1_ap S h1 h2)
theorem wp_rng1N {i : Nat} (h2 : i ≤ 1000000) : wp (rng1 (.int i)) S I X = I (itR 0 i) S := by
  rw [wp_rng1 (by omega) (by have : (2 ^ 62 : Int) = 4611686018427387904 := by decide
                             omega)]
  rfl
theorem wp_enm {n : Nat} {xs : List D} (h : S[n]? = some (.lst xs)) : wp (enm (.ref n)) S I X = I (itE n) S := by
  show wp (bnd (lsAt n) fun _ => ret (itE n)) S I X = _
  rw [wp_bnd, wp_lsAt h]
  rfl
theorem wp_zp {n m : Nat} {xs ys : List D} (h : S[n]? = some (.lst xs)) (h' : S[m]? = some (.lst ys)) : wp (zp (.ref n) (.ref m)) S I X = I (itZ n m) S := by
  show wp (bnd (lsAt n) fun _ => bnd (lsAt m) fun _ => ret (itZ n m)) S I X = _
  rw [wp_bnd, wp_lsAt h, kM_ap, wp_bnd, wp_lsAt h']
  rfl
@[simp ↓] theorem wp_zpT (xs ys : List D) : wp (zp (.tup xs) (.tup ys)) S I X = I (itZT xs ys) S := rfl
end
/-! built-ins -/
@[simp ↓] theorem wp_truB_non : wp (truB .non) S B X = B false S := rfl
theorem wp_truB_ref {n : Nat} {xs : List D} (h : S[n]? = some (.lst xs)) : wp (truB (.ref n)) S B X = B (!xs.isEmpty) S := by
  rw [truB_ref, wp_bnd, wp_lsAt h]
  rfl
@[simp ↓] theorem wp_eqD_int (i j : Int) : wp (eqD (.int i) (.int j)) S B X = B (decide (i = j)) S := wp_eq (eqD_int S i j)
theorem wp_eqD {x y : D} (hx : Gd x) (hy : Gd y) : wp (eqD x y) S B X = B (decide (x = y)) S := wp_eq (eqD_gd hx hy S)
theorem wp_eqD_ref {l k : Nat} {xs ys : List D} (h : S[l]? = some (.lst xs)) (h' : S[k]? = some (.lst ys)) (g : Gds xs) (g' : Gds ys) : wp (eqD (.ref l) (.ref k)) S B X = B (decide (xs = ys)) S := wp_eq (eqD_gds (by rw [h]; rfl) (by rw [h']; rfl) g g')
@[simp ↓] theorem wp_eqD_bl (a b : Bool) : wp (eqD (.bl a) (.bl b)) S B X = B (a == b) S := rfl
theorem wp_inD_ref {x : D} {l : Nat} {xs : List D} (hx : Gd x) (h : S[l]? = some (.lst xs)) (g : Gds xs) : wp (inD x (.ref l)) S B X = B (decide (x ∈ xs)) S := wp_eq (inD_gds hx (by rw [h]; rfl) g)
theorem wp_ixB_ref {n : Nat} {xs : List D} {i : Int} {d : D} (h : S[n]? = some (.lst xs)) (hi : L2.atI xs i = some d) : wp (ixB (.ref n) (.int i)) S Q X = Q d S := by
  rw [ixB_ref, wp_bnd, wp_lsAt h, kM_ap, wp_ofO_of hi]
theorem wp_ixB_tup {xs : List D} {i : Int} {d : D} (hi : L2.atI xs i = some d) : wp (ixB (.tup xs) (.int i)) S Q X = Q d S := by
  rw [ixB_tup, wp_ofO_of hi]
@[simp ↓] theorem wp_ixB_t (xs : List D) (i : Int) : wp (ixB (.tup xs) (.int i)) S Q X = wp (ofO (L2.atI xs i)) S Q X := rfl
theorem atI_at {α : Type} {xs : List α} {i : Nat} {x : α} (h : xs[i]? = some x) : L2.atI xs (i : Int) = some x := by
  rw [atI_nat (List.getElem?_eq_some_iff.mp h).1, h]
theorem wp_mIsi {ic : List Nat} {x : D} {t a : Ty} (h : tyOfD S x = some (.inl a)) : wp (mIsi ic [x, .ty t]) S Q X = Q (.bl (subTy a t)) S := wp_eq (mIsi_ap S ic x t h)
@[simp] theorem subTy_non_non : subTy .non .non = true := rfl
@[simp] theorem subTy_non_bool : subTy .non .bool = false := rfl
@[simp] theorem subTy_non_int : subTy .non .int = false := rfl
@[simp] theorem subTy_non_str : subTy .non .str = false := rfl
@[simp] theorem subTy_non_list : subTy .non .list = false := rfl
@[simp] theorem subTy_non_tuple : subTy .non .tuple = false := rfl
@[simp] theorem subTy_non_dict : subTy .non .dict = false := rfl
@[simp] theorem subTy_non_set : subTy .non .set = false := rfl
@[simp] theorem subTy_bool_non : subTy .bool .non = false := rfl
@[simp] theorem subTy_bool_bool : subTy .bool .bool = true := rfl
@[simp] theorem subTy_bool_int : subTy .bool .int = true := rfl
@[simp] theorem subTy_bool_str : subTy .bool .str = false := rfl
@[simp] theorem subTy_bool_list : subTy .bool .list = false := rfl
@[simp] theorem subTy_bool_tuple : subTy .bool .tuple = false := rfl
@[simp] theorem subTy_bool_dict : subTy .bool .dict = false := rfl
@[simp] theorem subTy_bool_set : subTy .bool .set = false := rfl
@[simp] theorem subTy_int_non : subTy .int .non = false := rfl
@[simp] theorem subTy_int_bool : subTy .int .bool = false := rfl
@[simp] theorem subTy_int_int : subTy .int .int = true := rfl
@[simp] theorem subTy_int_str : subTy .int .str = false := rfl
@[simp] theorem subTy_int_list : subTy .int .list = false := rfl
@[simp] theorem subTy_int_tuple : subTy .int .tuple = false := rfl
@[simp] theorem subTy_int_dict : subTy .int .dict = false := rfl
@[simp] theorem subTy_int_set : subTy .int .set = false := rfl
@[simp] theorem subTy_str_non : subTy .str .non = false := rfl
@[simp] theorem subTy_str_bool : subTy .str .bool = false := rfl
@[simp] theorem subTy_str_int : subTy .str .int = false := rfl
@[simp] theorem subTy_str_str : subTy .str .str = true := rfl
@[simp] theorem subTy_str_list : subTy .str .list = false := rfl
@[simp] theorem subTy_str_tuple : subTy .str .tuple = false := rfl
@[simp] theorem subTy_str_dict : subTy .str .dict = false := rfl
@[simp] theorem subTy_str_set : subTy .str .set = false := rfl
@[simp] theorem subTy_list_non : subTy .list .non = false := rfl
@[simp] theorem subTy_list_bool : subTy .list .bool = false := rfl
@[simp] theorem subTy_list_int : subTy .list .int = false := rfl
@[simp] theorem subTy_list_str : subTy .list .str = false := rfl
@[simp] theorem subTy_list_list : subTy .list .list = true := rfl
@[simp] theorem subTy_list_tuple : subTy .list .tuple = false := rfl
@[simp] theorem subTy_list_dict : subTy .list .dict = false := rfl
@[simp] theorem subTy_list_set : subTy .list .set = false := rfl
@[simp] theorem subTy_tuple_non : subTy .tuple .non = false := rfl
@[simp] theorem subTy_tuple_bool : subTy .tuple .bool = false := rfl
@[simp] theorem subTy_tuple_int : subTy .tuple .int = false := rfl
@[simp] theorem subTy_tuple_str : subTy .tuple .str = false := rfl
@[simp] theorem subTy_tuple_list : subTy .tuple .list = false := rfl
@[simp] theorem subTy_tuple_tuple : subTy .tuple .tuple = true := rfl
@[simp] theorem subTy_tuple_dict : subTy .tuple .dict = false := rfl
@[simp] theorem subTy_tuple_set : subTy .tuple .set = false := rfl
@[simp ↓] theorem wp_mIsi_non (ic : List Nat)  (t : Ty) : wp (mIsi ic [.non, .ty t]) S Q X = Q (.bl (subTy .non t)) S := wp_mIsi rfl
@[simp ↓] theorem wp_mIsi_bool (ic : List Nat) (b : Bool) (t : Ty) : wp (mIsi ic [.bl b, .ty t]) S Q X = Q (.bl (subTy .bool t)) S := wp_mIsi rfl
@[simp ↓] theorem wp_mIsi_int (ic : List Nat) (i : Int) (t : Ty) : wp (mIsi ic [.int i, .ty t]) S Q X = Q (.bl (subTy .int t)) S := wp_mIsi rfl
@[simp ↓] theorem wp_mIsi_str (ic : List Nat) (x : Str) (t : Ty) : wp (mIsi ic [.str x, .ty t]) S Q X = Q (.bl (subTy .str t)) S := wp_mIsi rfl
@[simp ↓] theorem wp_mIsi_tuple (ic : List Nat) (xs : List D) (t : Ty) : wp (mIsi ic [.tup xs, .ty t]) S Q X = Q (.bl (subTy .tuple t)) S := wp_mIsi rfl
theorem wp_mIsi_ref {ic : List Nat} {n : Nat} {xs : List D} {t : Ty} (h : S[n]? = some (.lst xs)) : wp (mIsi ic [.ref n, .ty t]) S Q X = Q (.bl (subTy .list t)) S := wp_mIsi (tyOfD_lst S h)
@[simp ↓] theorem wp_mLen_tup (xs : List D) : wp (mLen [.tup xs]) S Q X = Q (.int xs.length) S := rfl
theorem wp_mLen_ref {n : Nat} {xs : List D} (h : S[n]? = some (.lst xs)) : wp (mLen [.ref n]) S Q X = Q (.int xs.length) S := by
  show wp (bnd (lsAt n) lLen) S Q X = _
  rw [wp_bnd, wp_lsAt h]
  rfl
@[simp ↓] theorem wp_lLen (xs : List D) : wp (lLen xs) S Q X = Q (.int xs.length) S := rfl
@[simp ↓] theorem wp_mInt (i : Int) : wp (mInt [.int i]) S Q X = Q (.int i) S := rfl
@[simp ↓] theorem wp_mTuple_tup (xs : List D) : wp (mTuple [.tup xs]) S Q X = Q (.tup xs) S := rfl
theorem wp_mTuple_ref {n : Nat} {xs : List D} (h : S[n]? = some (.lst xs)) : wp (mTuple [.ref n]) S Q X = Q (.tup xs) S := by
  show wp (bnd (lsAt n) lTup) S Q X = _
  rw [wp_bnd, wp_lsAt h]
  rfl
@[simp ↓] theorem wp_lTup (xs : List D) : wp (lTup xs) S Q X = Q (.tup xs) S := rfl
@[simp ↓] theorem wp_mList_tup (xs : List D) : wp (mList [.tup xs]) S Q X = Q (.ref S.length) (S ++ [.lst xs]) := rfl
theorem wp_mList_ref {n : Nat} {xs : List D} (h : S[n]? = some (.lst xs)) : wp (mList [.ref n]) S Q X = Q (.ref S.length) (S ++ [.lst xs]) := by
  show wp (bnd (lsAt n) lList) S Q X = _
  rw [wp_bnd, wp_lsAt h]
  rfl
@[simp ↓] theorem wp_lList (xs : List D) : wp (lList xs) S Q X = Q (.ref S.length) (S ++ [.lst xs]) := rfl
@[simp ↓] theorem wp_lAll (bs : List Bool) : wp (lAll (bs.map D.bl)) S Q X = Q (.bl (bs.all id)) S := wp_eq (lAll_bl S bs)
theorem wp_lAll_map {α : Type} (F : α → Bool) (xs : List α) : wp (lAll (xs.map fun x => D.bl (F x))) S Q X = Q (.bl (xs.all F)) S := by
  have : (xs.map fun x => D.bl (F x)) = (xs.map F).map D.bl := by simp
  rw [this, wp_lAll]
  simp
@[simp ↓] theorem wp_lAll_tt {α : Type} (xs : List α) : wp (lAll (xs.map fun _ => D.bl true)) S Q X = Q (.bl true) S := by
  rw [wp_lAll_map (fun _ => true), List.all_eq_true.mpr fun _ _ => rfl]
theorem wp_isT_ref {n : Nat} {xs : List D} (h : S[n]? = some (.lst xs)) : wp (isT .list (.ref n)) S U X = U () S := by
  show wp (bnd (lsAt n) fun _ => ret ()) S U X = _
  rw [wp_bnd, wp_lsAt h]
  rfl
theorem wp_mAppend {n : Nat} {xs : List D} {x : D} (h : S[n]? = some (.lst xs)) (hz : xs.length < szL) : wp (mAppend (.ref n) [x]) S Q X = Q .non (S.set n (.lst (xs ++ [x]))) := by
  show wp (bnd (lod n) fun c => match c with
    | .lst xs => grd (decide (xs.length < szL)) (bnd (sto n (.lst (xs ++ [x]))) fun _ => ret .non)
    | _ => no) S Q X = _
  rw [wp_bnd, wp_lod h]
  simp [kM, hz]
theorem wp_atB {tb : List (Nat × Option Fn)} {a n c : Nat} {gs : List (Nat × D)} {d : D} (h : S[n]? = some (.ins c gs)) (ht : tb.lookup c = some none) (hd : gs.lookup a = some d) : wp (atB tb a (.ref n)) S Q X = Q d S := by
  show wp (bnd (lod n) fun z => match z with
    | .ins c gs => (match tb.lookup c with
      | some none => ofO (gs.lookup a)
      | some (some m) => noX (m [.ref n])
      | none => no)
    | _ => no) S Q X = _
  rw [wp_bnd, wp_lod h]
  simp [kM, ht, hd]
theorem wp_atP {tb : List (Nat × Option Fn)} {a n c : Nat} {gs : List (Nat × D)} {m : Fn} (h : S[n]? = some (.ins c gs)) (ht : tb.lookup c = some (some m)) : wp (atB tb a (.ref n)) S Q X = wp (m [.ref n]) S Q NX := by
  show wp (bnd (lod n) fun z => match z with
    | .ins c gs => (match tb.lookup c with
      | some none => ofO (gs.lookup a)
      | some (some m) => noX (m [.ref n])
      | none => no)
    | _ => no) S Q X = _
  rw [wp_bnd, wp_lod h]
  simp [kM, ht]
theorem wp_mOf {mt : List (Nat × Fn)} {a n c : Nat} {gs : List (Nat × D)} {m : Fn} {F : Fn → Sto → Prop} (h : S[n]? = some (.ins c gs)) (ht : mt.lookup c = some m) (hd : gs.lookup a = none) : wp (mOf mt a (.ref n)) S F X = F m S := by
  show wp (bnd (lod n) fun z => match z with
    | .ins c gs => (match mt.lookup c with
      | some m => grd (gs.lookup a).isNone (ret m)
      | none => no)
    | _ => no) S F X = _
  rw [wp_bnd, wp_lod h]
  simp [kM, ht, hd]
theorem wp_stIx {n : Nat} {xs : List D} {i : Nat} {d : D} (h : S[n]? = some (.lst xs)) (hi : i < xs.length) : wp (stIx (.ref n) (.int i) d) S U X = U () (S.set n (.lst (xs.set i d))) := by
  show wp (bnd (lod n) fun c => match c with
    | .lst xs => bnd (ofO (L2.ixN xs.length (i : Int))) fun j => sto n (.lst (xs.set j d))
    | _ => no) S U X = _
  rw [wp_bnd, wp_lod h]
  have : L2.ixN xs.length (i : Int) = some i := by
    unfold L2.ixN
    simp [hi]
  simp [this]
theorem wp_stFld {ok : List Nat} {a n c : Nat} {gs : List (Nat × D)} {d : D} (h : S[n]? = some (.ins c gs)) (hc : ok.contains c = true) (hl : gs.length < 1000) : wp (stFld ok a (.ref n) d) S U X = U () (S.set n (.ins c (putD a d gs))) := by
  show wp (bnd (lod n) fun z => match z with
    | .ins c gs => grd (ok.contains c && decide (gs.length < 1000)) (sto n (.ins c (putD a d gs)))
    | _ => no) S U X = _
  rw [wp_bnd, wp_lod h]
  simp [kM, hl]
  intro _
  simpa using hc
@[simp ↓] theorem wp_slB_tup (xs : List D) (lo hi : Option Int) : wp (slB (.tup xs) lo hi) S Q X = Q (.tup (cutD xs lo hi)) S := rfl
theorem wp_slB_ref {n : Nat} {xs : List D} {lo hi : Option Int} (h : S[n]? = some (.lst xs)) : wp (slB (.ref n) lo hi) S Q X = Q (.ref S.length) (S ++ [.lst (cutD xs lo hi)]) := by
  show wp (bnd (lsAt n) fun xs => alc (.lst (cutD xs lo hi))) S Q X = _
  rw [wp_bnd, wp_lsAt h]
  rfl
@[simp] theorem eqO_tup (et : List (Nat × Fn)) (xs : List D) (y : D) : eqO et (.tup xs) y = eqD (.tup xs) y := by cases y <;> rfl
@[simp] theorem eqO_int (et : List (Nat × Fn)) (i : Int) (y : D) : eqO et (.int i) y = eqD (.int i) y := by cases y <;> rfl
@[simp] theorem eqO_str (et : List (Nat × Fn)) (i : Str) (y : D) : eqO et (.str i) y = eqD (.str i) y := by cases y <;> rfl
@[simp] theorem eqO_bl (et : List (Nat × Fn)) (i : Bool) (y : D) : eqO et (.bl i) y = eqD (.bl i) y := by cases y <;> rfl
def kAsB (B : Bool → Sto → Prop) : D → Sto → Prop
  | .bl b, S => B b S
  | _, _ => False
@[simp ↓] theorem kAsB_bl (B : Bool → Sto → Prop) (b : Bool) (S : Sto) : kAsB B (.bl b) S = B b S := rfl
theorem wp_eqO_ins {et : List (Nat × Fn)} {a b c : Nat} {fs gs : List (Nat × D)} {m : Fn} (h : S[a]? = some (.ins c fs)) (h' : S[b]? = some (.ins c gs)) (hm : et.lookup c = some m) : wp (eqO et (.ref a) (.ref b)) S B X = wp (m [.ref a, .ref b]) S (kAsB B) NX := by
  unfold eqO
  dsimp only
  rw [wp_bnd, wp_lod h, kM_ap, wp_bnd, wp_lod h', kM_ap]
  dsimp only
  rw [Nat.beq_refl, hm]
  dsimp only
  rw [wp_bnd, wp_noX]
  refine wp_cg fun d S1 => ?_
  cases d <;> rfl
theorem wp_eqO_lst {et : List (Nat × Fn)} {a b : Nat} {xs ys : List D} (h : S[a]? = some (.lst xs)) (h' : S[b]? = some (.lst ys)) : wp (eqO et (.ref a) (.ref b)) S B X = wp (eqD (.ref a) (.ref b)) S B X := by
  unfold eqO
  dsimp only
  rw [wp_bnd, wp_lod h, kM_ap, wp_bnd, wp_lod h', kM_ap]
def kLn (Q : D → Sto → Prop) : D → Sto → Prop
  | .int n, S => (0 ≤ n ∧ n < 2 ^ 63) ∧ Q (.int n) S
  | _, _ => False
@[simp ↓] theorem kLn_int (Q : D → Sto → Prop) (n : Int) (S : Sto) : kLn Q (.int n) S = ((0 ≤ n ∧ n < 2 ^ 63) ∧ Q (.int n) S) := rfl
theorem wp_mLenO_ins {lt : List (Nat × Fn)} {a c : Nat} {fs : List (Nat × D)} {m : Fn} (h : S[a]? = some (.ins c fs)) (hm : lt.lookup c = some m) : wp (mLenO lt [.ref a]) S Q X = wp (m [.ref a]) S (kLn Q) NX := by
  unfold mLenO
  dsimp only
  rw [wp_bnd, wp_lod h, kM_ap]
  dsimp only
  rw [hm]
  dsimp only
  rw [wp_bnd, wp_noX]
  refine wp_cg fun d S1 => ?_
  cases d with
  | int n =>
    show wp (grd _ _) S1 Q X = _
    rw [wp_grd, wp_ret, kLn_int]
    simp
  | _ => rfl
theorem wp_mLenO_lst {lt : List (Nat × Fn)} {a : Nat} {xs : List D} (h : S[a]? = some (.lst xs)) : wp (mLenO lt [.ref a]) S Q X = Q (.int xs.length) S := by
  unfold mLenO
  dsimp only
  rw [wp_bnd, wp_lod h, kM_ap]
  dsimp only
  rw [wp_mLen_ref h]
@[simp ↓] theorem wp_mLenO_tup (lt : List (Nat × Fn)) (xs : List D) : wp (mLenO lt [.tup xs]) S Q X = Q (.int xs.length) S := rfl
theorem wp_lSorted {xs : List D} (g : Gds xs) (hs : srtB (xs.map pd) = true) : wp (lSorted xs) S Q X = Q (.ref S.length) (S ++ [.lst (srtD xs (xs.map pd))]) := by
  refine wp_eq ?_
  unfold lSorted
  rw [optMap_all (g := pd) fun x hx => (g.2 x hx).toP (by decide) S]
  dsimp only
  rw [hs, grd_tt]
  rfl
theorem wp_mSorted {n : Nat} {xs : List D} (h : S[n]? = some (.lst xs)) (g : Gds xs) (hs : srtB (xs.map pd) = true) : wp (mSorted [.ref n]) S Q X = Q (.ref S.length) (S ++ [.lst (srtD xs (xs.map pd))]) := by
  show wp (bnd (lsAt n) lSorted) S Q X = _
  rw [wp_bnd, wp_lsAt h, kM_ap, wp_lSorted g hs]
@[simp ↓] theorem wp_revB_tup (xs : List D) : wp (revB (.tup xs)) S Q X = Q (.tup xs.reverse) S := rfl
end
/-! ### statements -/
structure Pst where
  nx : Env → Sto → Prop
  rt : D → Sto → Prop
  bk : Env → Sto → Prop
  ct : Env → Sto → Prop
  ex : Nat → List (Nat × D) → Env → Sto → Prop
def wr (r : RS) (P : Pst) : Prop := match r with
  | .nx η S => P.nx η S
  | .rt d S => P.rt d S
  | .bk η S => P.bk η S
  | .ct η S => P.ct η S
  | .exc c fs η S => P.ex c fs η S
  | .no => False
def ws (s : SS) (η : Env) (S : Sto) (P : Pst) : Prop := wr (s η S) P
def fnP (Q : D → Sto → Prop) (X : Nat → List (Nat × D) → Sto → Prop) : Pst := ⟨fun _ S => Q .non S, Q, fun _ _ => False, fun _ _ => False, fun c fs _ S => X c fs S⟩
section
variable {S : Sto} {Q : D → Sto → Prop} {X : Nat → List (Nat × D) → Sto → Prop} {η : Env} {P : Pst}
@[simp] theorem fnP_nx : (fnP Q X).nx = fun _ S => Q .non S := rfl
@[simp] theorem fnP_rt : (fnP Q X).rt = Q := rfl
@[simp] theorem fnP_bk : (fnP Q X).bk = fun _ _ => False := rfl
@[simp] theorem fnP_ct : (fnP Q X).ct = fun _ _ => False := rfl
@[simp] theorem fnP_ex : (fnP Q X).ex = fun c fs _ S => X c fs S := rfl
theorem wp_u {f : Fn} {ds : List D} {b : SS} (h : ∀ S, f ds S = runF (b η S)) : wp (f ds) S Q X = ws b η S (fnP Q X) := by
  unfold wp ws
  rw [h]
  cases b η S <;> rfl
theorem wr_sB {α : Type} (m : M α) (k : α → Sto → RS) : wr (sB m η k S) P = wp m S (fun a S' => wr (k a S') P) (fun c fs S' => P.ex c fs η S') := by
  unfold wp sB
  cases m S <;> rfl
theorem ws_mono {s : SS} {P' : Pst} (h : ws s η S P) (h1 : ∀ η S, P.nx η S → P'.nx η S) (h2 : ∀ η S, P.rt η S → P'.rt η S) (h3 : ∀ η S, P.bk η S → P'.bk η S) (h4 : ∀ η S, P.ct η S → P'.ct η S) (h5 : ∀ c fs η S, P.ex c fs η S → P'.ex c fs η S) : ws s η S P' := by
  unfold ws wr at *
  cases e : s η S <;> rw [e] at h <;> first | exact h1 _ _ h | exact h2 _ _ h | exact h3 _ _ h | exact h4 _ _ h | exact h5 _ _ _ _ h | exact h.elim
/-! continuations of statements -/
def kC (fs : List SS) (P : Pst) : Pst := ⟨fun η S => ws (sAll fs) η S P, P.rt, P.bk, P.ct, P.ex⟩
@[simp ↓] theorem kC_nx (fs : List SS) (P : Pst) (η : Env) (S : Sto) : (kC fs P).nx η S = ws (sAll fs) η S P := rfl
@[simp ↓] theorem kC_rt (fs : List SS) (P : Pst) : (kC fs P).rt = P.rt := rfl
@[simp ↓] theorem kC_bk (fs : List SS) (P : Pst) : (kC fs P).bk = P.bk := rfl
@[simp ↓] theorem kC_ct (fs : List SS) (P : Pst) : (kC fs P).ct = P.ct := rfl
@[simp ↓] theorem kC_ex (fs : List SS) (P : Pst) : (kC fs P).ex = P.ex := rfl
/-- a loop's turn -/
def lpP (J : Env → Sto → Prop) (P : Pst) : Pst := ⟨J, P.rt, P.nx, J, P.ex⟩
@[simp ↓] theorem lpP_nx (J : Env → Sto → Prop) (P : Pst) : (lpP J P).nx = J := rfl
@[simp ↓] theorem lpP_ct (J : Env → Sto → Prop) (P : Pst) : (lpP J P).ct = J := rfl
@[simp ↓] theorem lpP_rt (J : Env → Sto → Prop) (P : Pst) : (lpP J P).rt = P.rt := rfl
@[simp ↓] theorem lpP_bk (J : Env → Sto → Prop) (P : Pst) : (lpP J P).bk = P.nx := rfl
@[simp ↓] theorem lpP_ex (J : Env → Sto → Prop) (P : Pst) : (lpP J P).ex = P.ex := rfl
def kX (η : Env) (P : Pst) : Nat → List (Nat × D) → Sto → Prop := fun c fs S => P.ex c fs η S
@[simp ↓] theorem kX_ap (η : Env) (P : Pst) (c : Nat) (fs : List (Nat × D)) (S : Sto) : kX η P c fs S = P.ex c fs η S := rfl
def kDr (η : Env) (P : Pst) : D → Sto → Prop := fun x S => P.nx η S
@[simp ↓] theorem kDr_ap (η : Env) (P : Pst) (x : D) (S : Sto) : kDr η P x S = (P.nx η S) := rfl
def kSIf (f g : SS) (η : Env) (P : Pst) : Bool → Sto → Prop := fun b S => if b = true then ws f η S P else ws g η S P
@[simp ↓] theorem kSIf_ap (f g : SS) (η : Env) (P : Pst) (b : Bool) (S : Sto) : kSIf f g η P b S = (if b = true then ws f η S P else ws g η S P) := rfl
def kSet (i : Nat) (η : Env) (P : Pst) : D → Sto → Prop := fun d S => P.nx (η.set i (some d)) S
@[simp ↓] theorem kSet_ap (i : Nat) (η : Env) (P : Pst) (d : D) (S : Sto) : kSet i η P d S = (P.nx (η.set i (some d)) S) := rfl
/-- slots, stored -/
def wga : Option Env → (Env → Sto → Prop) → Sto → Prop
  | some η, k, S => k η S
  | none, _, _ => False
@[simp] theorem wga_some (η : Env) (k : Env → Sto → Prop) (S : Sto) : wga (some η) k S = k η S := rfl
def kAsg (g : GN) (η : Env) (P : Pst) : D → Sto → Prop := fun d S => wga (g d η) P.nx S
@[simp ↓] theorem kAsg_ap (g : GN) (η : Env) (P : Pst) (d : D) (S : Sto) : kAsg g η P d S = (wga (g d η) P.nx S) := rfl
def kPar2 (i j : Nat) (x : D) (η : Env) (P : Pst) : D → Sto → Prop := fun e S => P.nx ((η.set i (some x)).set j (some e)) S
@[simp ↓] theorem kPar2_ap (i j : Nat) (x : D) (η : Env) (P : Pst) (e : D) (S : Sto) : kPar2 i j x η P e S = (P.nx ((η.set i (some x)).set j (some e)) S) := rfl
def kPar (i j : Nat) (g : EE) (η : Env) (P : Pst) : D → Sto → Prop := fun d S => wp (g η) S (kPar2 i j d η P) (kX η P)
@[simp ↓] theorem kPar_ap (i j : Nat) (g : EE) (η : Env) (P : Pst) (d : D) (S : Sto) : kPar i j g η P d S = (wp (g η) S (kPar2 i j d η P) (kX η P)) := rfl
def kNx (η : Env) (P : Pst) : Unit → Sto → Prop := fun u S => P.nx η S
@[simp ↓] theorem kNx_ap (η : Env) (P : Pst) (u : Unit) (S : Sto) : kNx η P u S = (P.nx η S) := rfl
def kFld2 (ok : List Nat) (a : Nat) (x : D) (η : Env) (P : Pst) : D → Sto → Prop := fun o S => wp (stFld ok a o x) S (kNx η P) (kX η P)
@[simp ↓] theorem kFld2_ap (ok : List Nat) (a : Nat) (x : D) (η : Env) (P : Pst) (o : D) (S : Sto) : kFld2 ok a x η P o S = (wp (stFld ok a o x) S (kNx η P) (kX η P)) := rfl
def kFld (ok : List Nat) (a : Nat) (fo : EE) (η : Env) (P : Pst) : D → Sto → Prop := fun d S => wp (fo η) S (kFld2 ok a d η P) (kX η P)
@[simp ↓] theorem kFld_ap (ok : List Nat) (a : Nat) (fo : EE) (η : Env) (P : Pst) (d : D) (S : Sto) : kFld ok a fo η P d S = (wp (fo η) S (kFld2 ok a d η P) (kX η P)) := rfl
def kSx3 (x y : D) (η : Env) (P : Pst) : D → Sto → Prop := fun z S => wp (stIx y z x) S (kNx η P) (kX η P)
@[simp ↓] theorem kSx3_ap (x y : D) (η : Env) (P : Pst) (z : D) (S : Sto) : kSx3 x y η P z S = (wp (stIx y z x) S (kNx η P) (kX η P)) := rfl
def kSx2 (x : D) (fi : EE) (η : Env) (P : Pst) : D → Sto → Prop := fun o S => wp (fi η) S (kSx3 x o η P) (kX η P)
@[simp ↓] theorem kSx2_ap (x : D) (fi : EE) (η : Env) (P : Pst) (o : D) (S : Sto) : kSx2 x fi η P o S = (wp (fi η) S (kSx3 x o η P) (kX η P)) := rfl
def kSx (fo fi : EE) (η : Env) (P : Pst) : D → Sto → Prop := fun d S => wp (fo η) S (kSx2 d fi η P) (kX η P)
@[simp ↓] theorem kSx_ap (fo fi : EE) (η : Env) (P : Pst) (d : D) (S : Sto) : kSx fo fi η P d S = (wp (fo η) S (kSx2 d fi η P) (kX η P)) := rfl
def kAug2 (o : Op) (i : Nat) (x : D) (η : Env) (P : Pst) : D → Sto → Prop := fun y S => wp (augI o x y) S (kSet i η P) (kX η P)
@[simp ↓] theorem kAug2_ap (o : Op) (i : Nat) (x : D) (η : Env) (P : Pst) (y : D) (S : Sto) : kAug2 o i x η P y S = (wp (augI o x y) S (kSet i η P) (kX η P)) := rfl
def kAug (o : Op) (i : Nat) (f : EE) (η : Env) (P : Pst) : D → Sto → Prop := fun x S => wp (f η) S (kAug2 o i x η P) (kX η P)
@[simp ↓] theorem kAug_ap (o : Op) (i : Nat) (f : EE) (η : Env) (P : Pst) (x : D) (S : Sto) : kAug o i f η P x S = (wp (f η) S (kAug2 o i x η P) (kX η P)) := rfl
@[simp ↓] theorem ws_nil : ws (sAll []) η S P = P.nx η S := rfl
@[simp ↓] theorem ws_one (f : SS) : ws (sAll [f]) η S P = ws f η S P := rfl
@[simp ↓] theorem ws_cons (f g : SS) (fs : List SS) : ws (sAll (f :: g :: fs)) η S P = ws f η S (kC (g :: fs) P) := by
  unfold ws
  rw [sAll_ap]
  cases f η S <;> rfl
@[simp ↓] theorem ws_sNx : ws sNx η S P = P.nx η S := rfl
@[simp ↓] theorem ws_sBk : ws sBk η S P = P.bk η S := rfl
@[simp ↓] theorem ws_sCt : ws sCt η S P = P.ct η S := rfl
@[simp ↓] theorem ws_sNo : ws sNo η S P = False := rfl
@[simp ↓] theorem ws_sDrop (f : EE) : ws (sDrop f) η S P = wp (f η) S (kDr η P) (kX η P) := wr_sB _ _
@[simp ↓] theorem ws_sRet (f : EE) : ws (sRet f) η S P = wp (f η) S P.rt (kX η P) := wr_sB _ _
@[simp ↓] theorem ws_sRetN : ws sRetN η S P = P.rt .non S := rfl
@[simp ↓] theorem ws_sIf (c : BB) (f g : SS) : ws (sIf c f g) η S P = wp (c η) S (kSIf f g η P) (kX η P) := by
  unfold ws
  rw [sIf_ap, wr_sB]
  congr 1
  funext b S'
  cases b <;> rfl
@[simp ↓] theorem ws_sSet (i : Nat) (f : EE) : ws (sSet i f) η S P = wp (f η) S (kSet i η P) (kX η P) := wr_sB _ _
@[simp ↓] theorem ws_sAsg (g : GN) (f : EE) : ws (sAsg g f) η S P = wp (f η) S (kAsg g η P) (kX η P) := by
  unfold ws
  rw [sAsg_ap, wr_sB]
  congr 1
  funext d S'
  unfold kAsg
  cases g d η <;> rfl
@[simp ↓] theorem ws_sPar (i j : Nat) (f g : EE) : ws (sPar i j f g) η S P = wp (f η) S (kPar i j g η P) (kX η P) := by
  unfold ws
  rw [sPar_ap, wr_sB]
  rw [wp_aL_cons]
  congr 1
  funext d S'
  unfold kA
  rw [wp_aL_cons]
  rfl
def kP3 (i j l : Nat) (η : Env) (P : Pst) : List D → Sto → Prop
  | [d, e, x], S => P.nx (((η.set i (some d)).set j (some e)).set l (some x)) S
  | _, _ => False
@[simp ↓] theorem kP3_ap (i j l : Nat) (η : Env) (P : Pst) (d e x : D) (S : Sto) : kP3 i j l η P [d, e, x] S = P.nx (((η.set i (some d)).set j (some e)).set l (some x)) S := rfl
@[simp ↓] theorem ws_sPar3 (i j l : Nat) (f g h : EE) : ws (sPar3 i j l f g h) η S P = wp (aL [f, g, h] η) S (kP3 i j l η P) (kX η P) := by
  refine (wr_sB _ _).trans (wp_cg fun ds S1 => ?_)
  match ds with
  | [] => rfl
  | [_] => rfl
  | [_, _] => rfl
  | [_, _, _] => rfl
  | _ :: _ :: _ :: _ :: _ => rfl
@[simp ↓] theorem ws_sFldE (ok : List Nat) (a : Nat) (fo fv : EE) : ws (sFldE ok a fo fv) η S P = wp (fv η) S (kFld ok a fo η P) (kX η P) := by
  unfold ws
  rw [sFldE_ap]
  simp only [wr_sB]
  rfl
@[simp ↓] theorem ws_sIxE (fo fi fv : EE) : ws (sIxE fo fi fv) η S P = wp (fv η) S (kSx fo fi η P) (kX η P) := by
  unfold ws
  rw [sIxE_ap]
  simp only [wr_sB]
  rfl
@[simp ↓] theorem ws_sAug (o : Op) (i : Nat) (f : EE) : ws (sAug o i f) η S P = wlo η[i]? (kAug o i f η P) S := by
  unfold ws sAug
  rcases η[i]? with _ | _ | d
  · rfl
  · rfl
  · dsimp only
    simp only [wr_sB]
    rfl
@[simp] theorem augI_add (i j : Int) : augI .add (.int i) (.int j) = ret (.int (i + j)) := rfl
@[simp] theorem augI_sub (i j : Int) : augI .sub (.int i) (.int j) = ret (.int (i - j)) := rfl
/-! loops -/
theorem ws_forL {g : GN} {b : SS} {it : IT} (xs : List D) (I : Nat → Env → Sto → Prop) (hit : ∀ i η S, i ≤ xs.length → I i η S → it i S = some xs[i]?)
    (step : ∀ i (h : i < xs.length) η S, I i η S → ∃ η1, g xs[i] η = some η1 ∧ ws b η1 S (lpP (I (i + 1)) P))
    (done : ∀ η S, I xs.length η S → P.nx η S) : ∀ (n i : Nat) (η : Env) (S : Sto), i ≤ xs.length → xs.length - i < n → I i η S → wr (forL it g b n i η S) P
  | 0, i, η, S, _, h, _ => absurd h (Nat.not_lt_zero _)
  | n + 1, i, η, S, hi, hn, inv => by
    unfold forL
    rw [hit i η S hi inv]
    by_cases hlt : i < xs.length
    · rw [List.getElem?_eq_getElem hlt]
      obtain ⟨η1, h1, h2⟩ := step i hlt η S inv
      dsimp only
      rw [h1]
      dsimp only
      unfold ws at h2
      cases e : b η1 S with
      | nx η2 S2 => rw [e] at h2; exact ws_forL xs I hit step done n (i + 1) η2 S2 hlt (by omega) h2
      | ct η2 S2 => rw [e] at h2; exact ws_forL xs I hit step done n (i + 1) η2 S2 hlt (by omega) h2
      | bk η2 S2 => rw [e] at h2; exact h2
      | rt d S2 => rw [e] at h2; exact h2
      | exc c fs η2 S2 => rw [e] at h2; exact h2
      | no => rw [e] at h2; exact h2.elim
    · have e : i = xs.length := by omega
      subst e
      rw [List.getElem?_eq_none (Nat.le_refl _)]
      exact done η S inv
/-- THE RULE of a for -/
theorem ws_for {f : II} {g : GN} {b : SS} (xs : List D) (I : Nat → Env → Sto → Prop) (hz : xs.length ≤ szL)
    (hf : wp (f η) S (fun it S0 => I 0 η S0 ∧ ∀ i η S, i ≤ xs.length → I i η S → it i S = some xs[i]?) (fun c fs S' => P.ex c fs η S'))
    (step : ∀ i (h : i < xs.length) η S, I i η S → ∃ η1, g xs[i] η = some η1 ∧ ws b η1 S (lpP (I (i + 1)) P))
    (done : ∀ η S, I xs.length η S → P.nx η S) : ws (sFor f g b) η S P := by
  unfold ws sFor
  rw [wr_sB]
  exact wp_mono hf (fun it S0 ⟨h1, h2⟩ => ws_forL xs I h2 step done FU 0 η S0 (Nat.zero_le _) (FU_lt (by unfold szL at hz; omega)) h1) fun c fs S' h => h
/-- a for, unrolled -/
def wfd (g : GN) (b : SS) : List D → Env → Sto → Pst → Prop
  | [], η, S, P => P.nx η S
  | x :: xs, η, S, P => wga (g x η) (fun η1 S => ws b η1 S (lpP (fun η S => wfd g b xs η S P) P)) S
def kW (g : GN) (b : SS) (xs : List D) (P : Pst) : Env → Sto → Prop := fun η S => wfd g b xs η S P
def kW2 (g : GN) (b : SS) (xs : List D) (P : Pst) : Env → Sto → Prop := fun η S => ws b η S (lpP (kW g b xs P) P)
@[simp ↓] theorem kW_ap (g : GN) (b : SS) (xs : List D) (P : Pst) (η : Env) (S : Sto) : kW g b xs P η S = wfd g b xs η S P := rfl
@[simp ↓] theorem kW2_ap (g : GN) (b : SS) (xs : List D) (P : Pst) (η : Env) (S : Sto) : kW2 g b xs P η S = ws b η S (lpP (kW g b xs P) P) := rfl
@[simp ↓] theorem wfd_nil (g : GN) (b : SS) : wfd g b [] η S P = P.nx η S := rfl
@[simp ↓] theorem wfd_cons (g : GN) (b : SS) (x : D) (xs : List D) : wfd g b (x :: xs) η S P = wga (g x η) (kW2 g b xs P) S := rfl
theorem wr_forD {g : GN} {b : SS} : ∀ (xs : List D) (η : Env) (S : Sto), wfd g b xs η S P → wr (forD g b xs η S) P
  | [], η, S, h => h
  | x :: xs, η, S, h => by
    rw [wfd_cons] at h
    rw [forD_cons]
    cases e1 : g x η with
    | none => rw [e1] at h; exact h.elim
    | some η1 =>
      rw [e1] at h
      dsimp only
      rw [wga_some] at h
      unfold kW2 ws at h
      cases e : b η1 S with
      | nx η2 S2 => rw [e] at h; exact wr_forD xs η2 S2 h
      | ct η2 S2 => rw [e] at h; exact wr_forD xs η2 S2 h
      | bk η2 S2 => rw [e] at h; exact h
      | rt d S2 => rw [e] at h; exact h
      | exc c fs η2 S2 => rw [e] at h; exact h
      | no => rw [e] at h; exact h.elim
theorem ws_forT {f : II} {g : GN} {b : SS} (xs : List D) (hz : xs.length ≤ szL) (hf : wp (f η) S (fun it S0 => (∀ i S, it i S = some xs[i]?) ∧ wfd g b xs η S0 P) (fun c fs S' => P.ex c fs η S')) : ws (sFor f g b) η S P := by
  unfold ws sFor
  rw [wr_sB]
  refine wp_mono hf (fun it S0 ⟨h1, h2⟩ => ?_) fun c fs S' h => h
  rw [forL_T h1 FU 0 η S0 (Nat.zero_le _) (FU_lt (by unfold szL at hz; omega))]
  exact wr_forD _ _ _ h2
theorem lcG_succ (it : IT) (g : GN) (tt : BB) (body : Env → List D → M (List D)) (η0 : Env) (n i : Nat) (acc : List D) (S : Sto) : lcG it g tt body η0 (n + 1) i acc S = (match it i S with
    | none => .no
    | some none => .ok acc S
    | some (some d) => match g d η0 with
      | none => .no
      | some η1 => bnd (noX (tt η1)) (fun b => match b with
        | true => bnd (body η1 acc) (lcG it g tt body η0 n (i + 1))
        | false => lcG it g tt body η0 n (i + 1) acc) S) := rfl
theorem wp_lcG {L : List D → Sto → Prop} {it : IT} {g : GN} {tt : BB} {body : Env → List D → M (List D)} {η0 : Env} (xs : List D) (I : Nat → List D → Sto → Prop) (hit : ∀ i acc S, i ≤ xs.length → I i acc S → it i S = some xs[i]?)
    (step : ∀ i (h : i < xs.length) acc S, I i acc S → ∃ η1, g xs[i] η0 = some η1 ∧ wp (tt η1) S (fun t S1 => if t = true then wp (body η1 acc) S1 (I (i + 1)) X else I (i + 1) acc S1) NX)
    (done : ∀ acc S, I xs.length acc S → L acc S) : ∀ (n i : Nat) (acc : List D) (S : Sto), i ≤ xs.length → xs.length - i < n → I i acc S → wp (lcG it g tt body η0 n i acc) S L X
  | 0, i, acc, S, _, h, _ => absurd h (Nat.not_lt_zero _)
  | n + 1, i, acc, S, hi, hn, inv => by
    by_cases hlt : i < xs.length
    · obtain ⟨η1, h1, h2⟩ := step i hlt acc S inv
      have e : lcG it g tt body η0 (n + 1) i acc S = bnd (noX (tt η1)) (fun b => match b with
        | true => bnd (body η1 acc) (lcG it g tt body η0 n (i + 1))
        | false => lcG it g tt body η0 n (i + 1) acc) S := by
        rw [lcG_succ, hit i acc S hi inv, List.getElem?_eq_getElem hlt]
        dsimp only
        rw [h1]
      have q : wp (bnd (noX (tt η1)) (fun b => match b with
        | true => bnd (body η1 acc) (lcG it g tt body η0 n (i + 1))
        | false => lcG it g tt body η0 n (i + 1) acc)) S L X := by
        rw [wp_bnd, wp_noX]
        refine wp_mono h2 (fun t S1 h3 => ?_) fun _ _ _ h => h
        rw [kM_ap]
        cases t with
        | true =>
          rw [if_pos rfl] at h3
          dsimp only
          rw [wp_bnd]
          exact wp_mono h3 (fun acc2 S2 h4 => wp_lcG xs I hit step done n (i + 1) acc2 S2 hlt (by omega) h4) fun _ _ _ h => h
        | false =>
          rw [if_neg (by simp)] at h3
          exact wp_lcG xs I hit step done n (i + 1) acc S1 hlt (by omega) h3
      unfold wp at q ⊢
      rw [e]
      exact q
    · have e : i = xs.length := by omega
      subst e
      unfold wp
      rw [lcG_succ, hit _ acc S hi inv, List.getElem?_eq_none (Nat.le_refl _)]
      exact done acc S inv
def kLc (acc : List D) (L : List D → Sto → Prop) : D → Sto → Prop := fun x S => acc.length < szL ∧ L (acc ++ [x]) S
@[simp ↓] theorem kLc_ap (acc : List D) (L : List D → Sto → Prop) (x : D) (S : Sto) : kLc acc L x S = (acc.length < szL ∧ L (acc ++ [x]) S) := rfl
@[simp] theorem wipeE_nil : wipeE η [] = η := rfl
@[simp] theorem wipeE_cons (v : Nat) (vs : List Nat) : wipeE η (v :: vs) = (wipeE η vs).set v none := rfl
@[simp ↓] theorem wp_lcB {L : List D → Sto → Prop} (te : EE) (acc : List D) : wp (lcB te η acc) S L X = wp (te η) S (kLc acc L) NX := by
  unfold lcB
  rw [wp_bnd, wp_noX]
  refine wp_cg fun x S1 => ?_
  rw [kM_ap, wp_grd, decide_eq_true_eq]
  rfl
/-- THE RULE of a comprehension -/
theorem wp_lc1 {L : List D → Sto → Prop} {f : II} {g : GN} {tt : BB} {te : EE} {vs : List Nat} (xs : List D) (I : Nat → List D → Sto → Prop) (hz : xs.length ≤ szL)
    (hf : wp (f η) S (fun it S0 => I 0 [] S0 ∧ ∀ i acc S, i ≤ xs.length → I i acc S → it i S = some xs[i]?) X)
    (step : ∀ i (h : i < xs.length) acc S, I i acc S → ∃ η1, g xs[i] (wipeE η vs) = some η1 ∧ wp (tt η1) S (fun t S1 => if t = true then wp (te η1) S1 (fun x S2 => I (i + 1) (acc ++ [x]) S2) NX else I (i + 1) acc S1) NX)
    (done : ∀ acc S, I xs.length acc S → L acc S) : wp (lc1 f g tt te vs η) S L X := by
  unfold lc1
  rw [wp_bnd]
  refine wp_mono hf (fun it S0 ⟨h1, h2⟩ => ?_) fun _ _ _ h => h
  refine wp_lcG xs (fun i acc S => I i acc S ∧ acc.length ≤ i) (fun i acc S hi h => h2 i acc S hi h.1) (fun i hi acc S ⟨h3, h4⟩ => ?_) (fun acc S h => done acc S h.1) FU 0 [] S0 (Nat.zero_le _) (FU_lt (by unfold szL at hz; omega)) ⟨h1, by simp⟩
  obtain ⟨η1, h5, h6⟩ := step i hi acc S h3
  refine ⟨η1, h5, wp_mono h6 (fun t S1 h7 => ?_) fun _ _ _ h => h⟩
  cases t with
  | true =>
    rw [if_pos rfl] at h7 ⊢
    rw [wp_lcB]
    exact wp_mono h7 (fun x S2 h8 => ⟨by omega, h8, by simp; omega⟩) fun _ _ _ h => h
  | false =>
    rw [if_neg (by simp)] at h7 ⊢
    exact ⟨h7, by omega⟩
/-- .. nothing is stored, no test -/
theorem wp_lc1m {L : List D → Sto → Prop} {f : II} {g : GN} {te : EE} {vs : List Nat} (xs : List D) (F : D → D) (hz : xs.length ≤ szL) (hf : wp (f η) S (fun it S0 => (∀ i, i ≤ xs.length → it i S0 = some xs[i]?) ∧ (∀ x ∈ xs, ∃ η1, g x (wipeE η vs) = some η1 ∧ wp (te η1) S0 (fun d S2 => d = F x ∧ S2 = S0) NX) ∧ L (xs.map F) S0) X) : wp (lc1 f g bTrue te vs η) S L X := by
  unfold lc1
  rw [wp_bnd]
  refine wp_mono hf (fun it S0 ⟨h1, h2, h3⟩ => ?_) fun _ _ _ h => h
  have e := lcG_pure (it := it) (g := g) (tt := bTrue) (te := te) (η0 := wipeE η vs) (S := S0) xs F (fun _ => true) h1 (fun x hx => by
    obtain ⟨η1, h4, h5⟩ := h2 x hx
    obtain ⟨d, S2, h6, rfl, rfl⟩ := wp_ok h5
    exact ⟨η1, h4, rfl, fun _ => h6⟩) FU 0 [] (Nat.zero_le _) (FU_lt (by unfold szL at hz; omega)) (by simpa using hz)
  rw [kM_ap, wp_eq e]
  rw [List.filter_eq_self.mpr (by simp)]
  exact h3
end
end
end Lt

end
section
set_option Elab.async false
set_option linter.all false
set_option maxRecDepth 100000
set_option maxHeartbeats 4000000
/-! Lt, part 23: two clauses; sorting by a key. -/
namespace Lt
noncomputable section
open PySem
section
variable {S : Sto} {X : Nat → List (Nat × D) → Sto → Prop} {η : Env} {L : List D → Sto → Prop}
theorem flat_take {α β : Type} (xs : List α) (G : α → List β) (i : Nat) (h : i < xs.length) : (xs.take (i + 1)).flatMap G = (xs.take i).flatMap G ++ G xs[i] := by
  rw [List.take_add_one, List.getElem?_eq_getElem h, List.flatMap_append]
  simp
theorem flat_len {α β : Type} (xs : List α) (G : α → List β) (i : Nat) : ((xs.take i).flatMap G).length ≤ (xs.flatMap G).length := by
  conv => rhs; rw [← List.take_append_drop i xs, List.flatMap_append, List.length_append]
  omega
/-- two clauses; nothing is stored, no test -/
theorem wp_lc2m {f f1 : II} {g g1 : GN} {te : EE} {vs vs1 : List Nat} (xs : List D) (ys : D → List D) (F : D → D → D) (hz : xs.length ≤ szL) (hz1 : ∀ x ∈ xs, (ys x).length ≤ szL) (hz2 : (xs.flatMap fun x => (ys x).map (F x)).length ≤ szL)
    (hf : wp (f η) S (fun it S0 => (∀ i, i ≤ xs.length → it i S0 = some xs[i]?) ∧ (∀ x ∈ xs, ∃ η1, g x (wipeE η vs) = some η1 ∧ wp (f1 η1) S0 (fun it1 S1 => S1 = S0 ∧ (∀ i, i ≤ (ys x).length → it1 i S0 = some (ys x)[i]?) ∧ ∀ y ∈ ys x, ∃ η2, g1 y (wipeE η1 vs1) = some η2 ∧ wp (te η2) S0 (fun d S2 => d = F x y ∧ S2 = S0) NX) NX) ∧
      L (xs.flatMap fun x => (ys x).map (F x)) S0) X) : wp (lc2 f g bTrue f1 g1 bTrue te vs vs1 η) S L X := by
  unfold lc2
  rw [wp_bnd]
  refine wp_mono hf (fun it S0 ⟨h1, h2, h3⟩ => ?_) fun _ _ _ h => h
  rw [kM_ap]
  refine wp_lcG xs (fun i acc S' => acc = (xs.take i).flatMap (fun x => (ys x).map (F x)) ∧ S' = S0) (fun i acc S' hi q => by rw [q.2]; exact h1 i hi) (fun i hi acc S' q => ?_) (fun acc S' q => ?_) FU 0 [] S0 (Nat.zero_le _) (FU_lt (by unfold szL at hz; omega)) ⟨by simp, rfl⟩
  · obtain ⟨rfl, rfl⟩ := q
    obtain ⟨η1, e1, w⟩ := h2 xs[i] (List.getElem_mem hi)
    refine ⟨η1, e1, ?_⟩
    rw [wp_bTrue, if_pos rfl]
    unfold lcB2
    rw [wp_bnd, wp_noX]
    refine wp_mono w (fun it1 S1 q => ?_) fun _ _ _ h => h.elim
    obtain ⟨rfl, q1, q2⟩ := q
    rw [kM_ap]
    have tot : ((xs.take i).flatMap fun x => (ys x).map (F x)).length + (ys xs[i]).length ≤ szL := by
      have := flat_len xs (fun x => (ys x).map (F x)) (i + 1)
      rw [flat_take _ _ _ hi, List.length_append, List.length_map] at this
      omega
    have e := lcG_pure (it := it1) (g := g1) (tt := bTrue) (te := te) (η0 := wipeE η1 vs1) (S := S1) (ys xs[i]) (F xs[i]) (fun _ => true) q1 (fun y hy => by
      obtain ⟨η2, h4, h5⟩ := q2 y hy
      obtain ⟨d, S2, h6, rfl, rfl⟩ := wp_ok h5
      exact ⟨η2, h4, rfl, fun _ => h6⟩) FU 0 ((xs.take i).flatMap fun x => (ys x).map (F x)) (Nat.zero_le _) (FU_lt (by have := hz1 _ (List.getElem_mem hi); unfold szL at this; omega)) (by simpa using tot)
    rw [wp_eq e]
    refine ⟨?_, rfl⟩
    rw [flat_take _ _ _ hi, List.drop_zero, List.filter_eq_self.mpr (by simp)]
  · obtain ⟨rfl, rfl⟩ := q
    rw [List.take_length]
    exact h3
end
/-- sorting by a key that orders as the data do -/
theorem srt_by {α : Type} {F : α → D} {le : α → α → Bool} {cs : List α} (h : ∀ c ∈ cs, ∀ d ∈ cs, le c d = W.dataLe false (fun x : D × PyData => x.2) (F c, pd (F c)) (F d, pd (F d))) : srtD (cs.map F) ((cs.map F).map pd) = (cs.mergeSort le).map F := by
  unfold srtD
  have e : (cs.map F).zip ((cs.map F).map pd) = cs.map fun c => (F c, pd (F c)) := by
    rw [List.map_map]
    induction cs with
    | nil => rfl
    | cons c cs ih => simp [List.zip_cons_cons, ih fun c hc d hd => h c (List.mem_cons_of_mem _ hc) d (List.mem_cons_of_mem _ hd)]
  rw [e, ← List.map_mergeSort (f := fun c => (F c, pd (F c))) (r := le) (fun c hc d hd => h c hc d hd), List.map_map]
  rfl
end
end Lt

end
section
set_option Elab.async false
set_option linter.all false
set_option maxRecDepth 100000
set_option maxHeartbeats 4000000
/-! Lt, part 24: weakest preconditions of raise and _law_try. -/
namespace Lt
noncomputable section
open PySem
@[simp] theorem subTy_dict_non : subTy .dict .non = false := rfl
@[simp] theorem subTy_dict_bool : subTy .dict .bool = false := rfl
@[simp] theorem subTy_dict_int : subTy .dict .int = false := rfl
@[simp] theorem subTy_dict_str : subTy .dict .str = false := rfl
@[simp] theorem subTy_dict_list : subTy .dict .list = false := rfl
@[simp] theorem subTy_dict_tuple : subTy .dict .tuple = false := rfl
@[simp] theorem subTy_dict_dict : subTy .dict .dict = true := rfl
@[simp] theorem subTy_dict_set : subTy .dict .set = false := rfl
@[simp] theorem subTy_set_non : subTy .set .non = false := rfl
@[simp] theorem subTy_set_bool : subTy .set .bool = false := rfl
@[simp] theorem subTy_set_int : subTy .set .int = false := rfl
@[simp] theorem subTy_set_str : subTy .set .str = false := rfl
@[simp] theorem subTy_set_list : subTy .set .list = false := rfl
@[simp] theorem subTy_set_tuple : subTy .set .tuple = false := rfl
@[simp] theorem subTy_set_dict : subTy .set .dict = false := rfl
@[simp] theorem subTy_set_set : subTy .set .set = true := rfl
section
variable {S : Sto} {η : Env} {P : Pst} {Q : D → Sto → Prop} {X : Nat → List (Nat × D) → Sto → Prop}
@[simp] theorem xIt_nil (ds : List D) : xIt [] ds = [] := rfl
@[simp] theorem xIt_cons (p : Nat × XA) (l : List (Nat × XA)) (ds : List D) : xIt (p :: l) ds = (p.1, p.2.d ds) :: xIt l ds := rfl
@[simp] theorem xA_str (x : Str) (ds : List D) : (XA.str x).d ds = .str x := rfl
@[simp] theorem xA_arg (i : Nat) (ds : List D) : (XA.arg i).d ds = ds.getD i .non := rfl
def kRz (c n : Nat) (it : List D → List (Nat × D)) (η : Env) (P : Pst) : List D → Sto → Prop := fun ds S => ds.length = n ∧ P.ex c (it ds) η S
@[simp ↓] theorem kRz_ap (c n : Nat) (it : List D → List (Nat × D)) (ds : List D) : kRz c n it η P ds S = (ds.length = n ∧ P.ex c (it ds) η S) := rfl
@[simp ↓] theorem ws_sRz (c n : Nat) (it : List D → List (Nat × D)) (fs : List EE) : ws (sRz c n it fs) η S P = wp (aL fs η) S (kRz c n it η P) (kX η P) := by
  show wr (sB (aL fs η) η (fun ds S => match Nat.beq ds.length n with
    | true => .exc c (it ds) η S
    | false => .no) S) P = _
  rw [wr_sB]
  refine congrArg (fun L => wp (aL fs η) S L (kX η P)) ?_
  funext ds S'
  show wr (match Nat.beq ds.length n with
    | true => .exc c (it ds) η S'
    | false => .no) P = (ds.length = n ∧ P.ex c (it ds) η S')
  cases e : Nat.beq ds.length n with
  | true =>
    have := Nat.eq_of_beq_eq_true e
    simp [this, wr]
  | false =>
    have := Nat.ne_of_beq_eq_false e
    simp [this, wr]
def kTold (Q : D → Sto → Prop) : D → Sto → Prop := fun d S => Q (.tup [.str "told", d]) S
@[simp ↓] theorem kTold_ap (d : D) : kTold Q d S = Q (.tup [.str "told", d]) S := rfl
def kCat (cs : List Nat) (ats : List Str) (Q : D → Sto → Prop) : Nat → List (Nat × D) → Sto → Prop := fun c fs S => cs.any (Nat.beq c) = true ∧ ∃ ds, excL ats fs = some ds ∧ Q (.tup (.str "no" :: ds)) S
theorem kCat_of {cs : List Nat} {ats : List Str} {c : Nat} {fs : List (Nat × D)} {ds : List D} (hc : cs.any (Nat.beq c) = true) (he : excL ats fs = some ds) : kCat cs ats Q c fs S = Q (.tup (.str "no" :: ds)) S := by
  unfold kCat
  simp [hc, he]
@[simp ↓] theorem wp_eTry (cs : List Nat) (ats : List Str) (f : EE) : wp (eTry cs ats f η) S Q X = wp (f η) S (kTold Q) (kCat cs ats Q) := by
  unfold wp eTry
  cases f η S with
  | ok d S' => rfl
  | exc c fs S' =>
    unfold tryR kCat
    dsimp only
    cases cs.any (Nat.beq c) <;> cases excL ats fs <;> simp
  | no => rfl
end
end
end Lt

end
section
set_option Elab.async false
set_option linter.all false
set_option maxRecDepth 100000
set_option maxHeartbeats 4000000
/-! Lt, part 25: weakest preconditions of own operators and of sorted(set(..)). -/
namespace Lt
noncomputable section
open PySem
section
variable {S : Sto} {η : Env} {Q : D → Sto → Prop} {X : Nat → List (Nat × D) → Sto → Prop} {bt : List (Nat × Fn)} {o : Op}
def kBinO2 (bt : List (Nat × Fn)) (o : Op) (x : D) (Q : D → Sto → Prop) (X : Nat → List (Nat × D) → Sto → Prop) : D → Sto → Prop := fun y S => wp (opO bt o x y) S Q X
@[simp ↓] theorem kBinO2_ap (x : D) (y : D) : kBinO2 bt o x Q X y S = (wp (opO bt o x y) S Q X) := rfl
def kBinO (bt : List (Nat × Fn)) (o : Op) (g : EE) (η : Env) (Q : D → Sto → Prop) (X : Nat → List (Nat × D) → Sto → Prop) : D → Sto → Prop := fun x S => wp (g η) S (kBinO2 bt o x Q X) X
@[simp ↓] theorem kBinO_ap (g : EE) (x : D) : kBinO bt o g η Q X x S = (wp (g η) S (kBinO2 bt o x Q X) X) := rfl
@[simp ↓] theorem wp_eBinO (bt : List (Nat × Fn)) (o : Op) (f g : EE) : wp (eBinO bt o f g η) S Q X = wp (f η) S (kBinO bt o g η Q X) X := by
  unfold eBinO
  refine (wp_bnd _ _).trans (wp_cg fun x S1 => ?_)
  exact wp_bnd _ _
@[simp] theorem opO_tup (xs : List D) (y : D) : opO bt o (.tup xs) y = opB o (.tup xs) y := rfl
@[simp] theorem opO_int (i : Int) (y : D) : opO bt o (.int i) y = opB o (.int i) y := rfl
@[simp] theorem opO_str (i : Str) (y : D) : opO bt o (.str i) y = opB o (.str i) y := rfl
theorem wp_opO_lst {a : Nat} {xs : List D} {y : D} (h : S[a]? = some (.lst xs)) : wp (opO bt o (.ref a) y) S Q X = wp (opB o (.ref a) y) S Q X := by
  unfold opO
  dsimp only
  rw [wp_bnd, wp_lod h, kM_ap]
theorem wp_opO_own {a c : Nat} {fs : List (Nat × D)} {m : Fn} {y : D} (h : S[a]? = some (.ins c fs)) (hm : bt.lookup c = some m) (hy : (anT y).isSome = true) : wp (opO bt o (.ref a) y) S Q X = wp (m [.ref a, y]) S Q X := by
  unfold opO
  dsimp only
  rw [wp_bnd, wp_lod h, kM_ap]
  dsimp only
  rw [hm]
  dsimp only
  cases y with
  | int i => rfl
  | bl i => rfl
  | non => rfl
  | str i => rfl
  | tup i => rfl
  | _ => cases hy
theorem wp_opO_own2 {a b c : Nat} {fs gs : List (Nat × D)} {m : Fn} (h : S[a]? = some (.ins c fs)) (h' : S[b]? = some (.ins c gs)) (hm : bt.lookup c = some m) : wp (opO bt o (.ref a) (.ref b)) S Q X = wp (m [.ref a, .ref b]) S Q X := by
  unfold opO
  dsimp only
  rw [wp_bnd, wp_lod h, kM_ap]
  dsimp only
  rw [hm]
  dsimp only
  unfold oyB
  dsimp only
  rw [wp_bnd, wp_bnd, wp_lod h', kM_ap]
  dsimp only
  rw [Nat.beq_refl]
  rfl
def kSrt (Q : D → Sto → Prop) : List (List Int) → Sto → Prop := fun ks S => Q (.ref S.length) (S ++ [.lst ((srtK ks).map tupI)])
@[simp ↓] theorem kSrt_ap (ks : List (List Int)) : kSrt Q ks S = Q (.ref S.length) (S ++ [.lst ((srtK ks).map tupI)]) := rfl
@[simp ↓] theorem wp_eSrtSet (f : EE) : wp (eSrtSet f η) S Q X = wp (f η) S (kM mKeys (kSrt Q) X) X := by
  unfold eSrtSet
  rw [wp_bnd, wp_bnd]
  rfl
theorem asT_tupI (k : List Int) : asT (tupI k) = some k := by
  show optMap asI (k.map D.int) = some k
  induction k with
  | nil => rfl
  | cons n k ih => simp only [List.map_cons]; unfold optMap; rw [ih]; rfl
theorem wp_mKeys {l : Nat} {ks : List (List Int)} {L : List (List Int) → Sto → Prop} (h : S[l]? = some (.lst (ks.map tupI))) (ok : okK ks = true) : wp (mKeys (.ref l)) S L X = L ks S := by
  have e : optMap asT (ks.map tupI) = some ks := by
    clear h ok
    induction ks with
    | nil => rfl
    | cons k ks ih => simp only [List.map_cons]; unfold optMap; rw [ih, asT_tupI]
  unfold mKeys
  dsimp only
  rw [wp_bnd, wp_lsAt h, kM_ap, wp_bnd, wp_ofO_of e, kM_ap, wp_grd, ok]
  simp
/-- already in order -/
theorem srtK_self {ks : List (List Int)} (ok : okK ks = true) (h : ks.Pairwise fun a b => TS.code setB a < TS.code setB b) : srtK ks = ks :=
  (srtK_uniq ok (h.imp fun z e => by rw [e] at z; omega) (fun _ z => z) (fun _ z => z) (h.imp fun z => by omega)).symm
end
end
end Lt

end
section
set_option Elab.async false
set_option linter.all false
set_option maxRecDepth 100000
set_option maxHeartbeats 0
/-! the program (printed by gen.py) -/
namespace Lw
open PySem PySem.Spec PyProof.Rows L2 Lt
noncomputable section
def IC : List Nat := []
def b1_f__law_bag : SS := (sAll [(sSet 2 (eBin .mod (eCall mInt [(eBin .add (eBin .add (eBin .mul (eLoc 2) (eC (.int 48673))) (eBin .mod (eCall mInt [(eLoc 3)]) (eC (.int 2147483171)))) (eC (.int 23)))]) (eC (.int 2147483587))))])
def b_f__law_bag : SS := (sAll [(sSet 1 (eCall mList [(eSl (eLoc 0) none (some (eC (.int 63))))])), (sSet 2 (eBin .add (eC (.int 5614)) (eBin .mul (eC (.int 37)) (eCall mLen [(eLoc 1)])))), (sFor (iEach (eLoc 1)) (gnN 3) b1_f__law_bag), (sRet (eLst [(eLoc 1), (eC (.int 0)), (eC (.int 0)), (eLoc 2)]))])
def f__law_bag : Fn := fnB 1 4 b_f__law_bag
theorem u_f__law_bag {a0 : D} (S : Sto) : f__law_bag [a0] S = runF (b_f__law_bag [some a0, none, none, none] S) := rfl
theorem w_f__law_bag {a0 : D} {S : Sto} {Q : D → Sto → Prop} {X : Nat → List (Nat × D) → Sto → Prop} : wp (f__law_bag [a0]) S Q X = ws b_f__law_bag [some a0, none, none, none] S (fnP Q X) := wp_u u_f__law_bag
def b_f__law_draw : SS := (sAll [(sIf (bAnd [(bCmp .eq (eIx (eLoc 0) (eC (.int 2))) (eC (.int 0))), (bCmp .lt (eIx (eLoc 0) (eC (.int 1))) (eCall mLen [(eIx (eLoc 0) (eC (.int 0)))]))]) (sAll [(sSet 2 (eIx (eIx (eLoc 0) (eC (.int 0))) (eIx (eLoc 0) (eC (.int 1))))), (sIxE (eLoc 0) (eC (.int 1)) (eBin .add (eIx (eLoc 0) (eC (.int 1))) (eC (.int 1)))), (sIf (bCmp .ge (eLoc 2) (eBin .pow (eC (.int 10)) (eC (.int 18)))) (sAll [(sIxE (eLoc 0) (eC (.int 2)) (eLoc 2))]) (sAll [(sSet 3 (eBin .add (eBin .mul (eIx (eLoc 0) (eC (.int 3))) (eC (.int 40751))) (eBin .mod (eCall mInt [(eLoc 2)]) (eC (.int 2000000089))))), (sIxE (eLoc 0) (eC (.int 3)) (eBin .mod (eCall mInt [(eBin .add (eLoc 3) (eIx (eLoc 0) (eC (.int 1))))]) (eC (.int 2147483587))))]))]) (sAll [])), (sIf (bCmp .gt (eIx (eLoc 0) (eC (.int 2))) (eC (.int 0))) (sAll [(sSet 4 (eBin .mod (eCall mInt [(eIx (eLoc 0) (eC (.int 2)))]) (eLoc 1))), (sIxE (eLoc 0) (eC (.int 2)) (eBin .fdiv (eIx (eLoc 0) (eC (.int 2))) (eLoc 1))), (sRet (eLoc 4))]) (sAll [])), (sIxE (eLoc 0) (eC (.int 3)) (eBin .mod (eCall mInt [(eBin .add (eBin .mul (eIx (eLoc 0) (eC (.int 3))) (eC (.int 46147))) (eC (.int 1123)))]) (eC (.int 2147483587)))), (sRet (eBin .mod (eCall mInt [(eBin .fdiv (eBin .mod (eCall mInt [(eBin .mul (eIx (eLoc 0) (eC (.int 3))) (eIx (eLoc 0) (eC (.int 3))))]) (eC (.int 999999893))) (eC (.int 41)))]) (eLoc 1)))])
def f__law_draw : Fn := fnB 2 5 b_f__law_draw
theorem u_f__law_draw {a0 a1 : D} (S : Sto) : f__law_draw [a0, a1] S = runF (b_f__law_draw [some a0, some a1, none, none, none] S) := rfl
theorem w_f__law_draw {a0 a1 : D} {S : Sto} {Q : D → Sto → Prop} {X : Nat → List (Nat × D) → Sto → Prop} : wp (f__law_draw [a0, a1]) S Q X = ws b_f__law_draw [some a0, some a1, none, none, none] S (fnP Q X) := wp_u u_f__law_draw
def b1_f__law_pairs : SS := (sAll [(sSet 1 (eBin .add (eLoc 1) (eAlc (lc1 (iRange1 (eIx (eLoc 0) (eC (.int 1)))) (gnN 3) bTrue (eTup [(eLoc 2), (eLoc 3)]) [3]))))])
def b_f__law_pairs : SS := (sAll [(sSet 1 (eLst [])), (sFor (iRange1 (eIx (eLoc 0) (eC (.int 0)))) (gnN 2) b1_f__law_pairs), (sRet (eLoc 1))])
def f__law_pairs : Fn := fnB 1 4 b_f__law_pairs
theorem u_f__law_pairs {a0 : D} (S : Sto) : f__law_pairs [a0] S = runF (b_f__law_pairs [some a0, none, none, none] S) := rfl
theorem w_f__law_pairs {a0 : D} {S : Sto} {Q : D → Sto → Prop} {X : Nat → List (Nat × D) → Sto → Prop} : wp (f__law_pairs [a0]) S Q X = ws b_f__law_pairs [some a0, none, none, none] S (fnP Q X) := wp_u u_f__law_pairs
def b_f__law_of : SS := (sAll [(sRet (eIx (eLoc 1) (eCall f__law_draw [(eLoc 0), (eCall mLen [(eLoc 1)])])))])
def f__law_of : Fn := fnB 2 2 b_f__law_of
theorem u_f__law_of {a0 a1 : D} (S : Sto) : f__law_of [a0, a1] S = runF (b_f__law_of [some a0, some a1] S) := rfl
theorem w_f__law_of {a0 a1 : D} {S : Sto} {Q : D → Sto → Prop} {X : Nat → List (Nat × D) → Sto → Prop} : wp (f__law_of [a0, a1]) S Q X = ws b_f__law_of [some a0, some a1] S (fnP Q X) := wp_u u_f__law_of
def b_f__law_outcomes : SS := (sAll [(sRet (eOnL lTup (lc1 (iEach (eCall f__law_pairs [(eLoc 1)])) (gnN 4) bTrue (eTup [(eCall f__law_draw [(eLoc 0), (eLoc 2)]), (eCall f__law_of [(eLoc 0), (eLoc 3)])]) [4])))])
def f__law_outcomes : Fn := fnB 4 5 b_f__law_outcomes
theorem u_f__law_outcomes {a0 a1 a2 a3 : D} (S : Sto) : f__law_outcomes [a0, a1, a2, a3] S = runF (b_f__law_outcomes [some a0, some a1, some a2, some a3, none] S) := rfl
theorem w_f__law_outcomes {a0 a1 a2 a3 : D} {S : Sto} {Q : D → Sto → Prop} {X : Nat → List (Nat × D) → Sto → Prop} : wp (f__law_outcomes [a0, a1, a2, a3]) S Q X = ws b_f__law_outcomes [some a0, some a1, some a2, some a3, none] S (fnP Q X) := wp_u u_f__law_outcomes
def b_f__law_state : SS := (sAll [(sSet 5 (eCall f__law_pairs [(eLoc 1)])), (sIf (bCmp .eq (eCall f__law_draw [(eLoc 0), (eC (.int 3))]) (eC (.int 0))) (sAll [(sSet 5 (eAlc (lc1 (iEach (eLoc 5)) (gnN 9) (bCmp .eq (eCall f__law_draw [(eLoc 0), (eC (.int 2))]) (eC (.int 0))) (eLoc 9) [9])))]) (sAll [])), (sSet 5 (eIf (bCmp .ne (eLoc 5) (eLst [])) (eLoc 5) (eLst [(eCall f__law_of [(eLoc 0), (eCall f__law_pairs [(eLoc 1)])])]))), (sSet 6 (eAlc (lc1 (iEach (eLoc 5)) (gnT [(gnN 7), (gnN 8)]) bTrue (eTup [(eLoc 7), (eLoc 8), (eCall f__law_outcomes [(eLoc 0), (eLoc 2), (eLoc 3), (eLoc 4)])]) [7, 8]))), (sRet (eTup [(eCall f__law_of [(eLoc 0), (eLst [(eC (.int 0)), (eC (.int 0)), (eC (.int 0)), (eC (.int 1)), (eC (.int 2))])]), (eCall mTuple [(eLoc 6)])]))])
def f__law_state : Fn := fnB 5 10 b_f__law_state
theorem u_f__law_state {a0 a1 a2 a3 a4 : D} (S : Sto) : f__law_state [a0, a1, a2, a3, a4] S = runF (b_f__law_state [some a0, some a1, some a2, some a3, some a4, none, none, none, none, none] S) := rfl
theorem w_f__law_state {a0 a1 a2 a3 a4 : D} {S : Sto} {Q : D → Sto → Prop} {X : Nat → List (Nat × D) → Sto → Prop} : wp (f__law_state [a0, a1, a2, a3, a4]) S Q X = ws b_f__law_state [some a0, some a1, some a2, some a3, some a4, none, none, none, none, none] S (fnP Q X) := wp_u u_f__law_state
def b_f__law_drawn : SS := (sAll [(sSet 5 (eBin .add (eC (.int 1)) (eCall f__law_draw [(eLoc 0), (eLoc 3)]))), (sSet 6 (eAlc (lc1 (iRange1 (eLoc 5)) (gnN 7) bTrue (eCall f__law_state [(eLoc 0), (eLoc 1), (eLoc 2), (eLoc 5), (eLoc 4)]) [7]))), (sRet (eTup [(eLoc 1), (eLoc 2), (eLoc 6)]))])
def f__law_drawn : Fn := fnB 5 8 b_f__law_drawn
theorem u_f__law_drawn {a0 a1 a2 a3 a4 : D} (S : Sto) : f__law_drawn [a0, a1, a2, a3, a4] S = runF (b_f__law_drawn [some a0, some a1, some a2, some a3, some a4, none, none, none] S) := rfl
theorem w_f__law_drawn {a0 a1 a2 a3 a4 : D} {S : Sto} {Q : D → Sto → Prop} {X : Nat → List (Nat × D) → Sto → Prop} : wp (f__law_drawn [a0, a1, a2, a3, a4]) S Q X = ws b_f__law_drawn [some a0, some a1, some a2, some a3, some a4, none, none, none] S (fnP Q X) := wp_u u_f__law_drawn
def b_f__law_wide : SS := (sAll [(sSet 2 (eTup [(eBin .add (eC (.int 1)) (eCall f__law_draw [(eLoc 0), (eC (.int 4))])), (eBin .add (eC (.int 1)) (eCall f__law_draw [(eLoc 0), (eC (.int 3))]))])), (sSet 3 (eTup [(eBin .add (eC (.int 1)) (eCall f__law_draw [(eLoc 0), (eC (.int 3))])), (eBin .add (eC (.int 1)) (eCall f__law_draw [(eLoc 0), (eC (.int 4))]))])), (sIf (bCmp .eq (eCall f__law_draw [(eLoc 0), (eC (.int 2))]) (eC (.int 0))) (sAll [(sPar 2 3 (eRev (eLoc 2)) (eRev (eLoc 3)))]) (sAll [])), (sRet (eCall f__law_drawn [(eLoc 0), (eLoc 2), (eLoc 3), (eLoc 1), (eLst [(eC (.int 0)), (eC (.int 1)), (eC (.int 0)), (eC (.int 2)), (eC (.int 7)), (eC (.int 33)), (eC (.int 99))])]))])
def f__law_wide : Fn := fnB 2 4 b_f__law_wide
theorem u_f__law_wide {a0 a1 : D} (S : Sto) : f__law_wide [a0, a1] S = runF (b_f__law_wide [some a0, some a1, none, none] S) := rfl
theorem w_f__law_wide {a0 a1 : D} {S : Sto} {Q : D → Sto → Prop} {X : Nat → List (Nat × D) → Sto → Prop} : wp (f__law_wide [a0, a1]) S Q X = ws b_f__law_wide [some a0, some a1, none, none] S (fnP Q X) := wp_u u_f__law_wide
def b_f_is_number : SS := (sAll [(sRet (eAnd [(eCall (mIsi IC) [(eLoc 0), (eC (.ty .int))]), (eNot (eCall (mIsi IC) [(eLoc 0), (eC (.ty .bool))]))]))])
def f_is_number : Fn := fnB 1 1 b_f_is_number
theorem u_f_is_number {a0 : D} (S : Sto) : f_is_number [a0] S = runF (b_f_is_number [some a0] S) := rfl
theorem w_f_is_number {a0 : D} {S : Sto} {Q : D → Sto → Prop} {X : Nat → List (Nat × D) → Sto → Prop} : wp (f_is_number [a0]) S Q X = ws b_f_is_number [some a0] S (fnP Q X) := wp_u u_f_is_number
def b_f_is_within : SS := (sAll [(sRet (eAnd [(eCall f_is_number [(eLoc 0)]), (eChain .le .le (eLoc 1) (eLoc 0) (eLoc 2))]))])
def f_is_within : Fn := fnB 3 3 b_f_is_within
theorem u_f_is_within {a0 a1 a2 : D} (S : Sto) : f_is_within [a0, a1, a2] S = runF (b_f_is_within [some a0, some a1, some a2] S) := rfl
theorem w_f_is_within {a0 a1 a2 : D} {S : Sto} {Q : D → Sto → Prop} {X : Nat → List (Nat × D) → Sto → Prop} : wp (f_is_within [a0, a1, a2]) S Q X = ws b_f_is_within [some a0, some a1, some a2] S (fnP Q X) := wp_u u_f_is_within
def b_f_is_pair_within : SS := (sAll [(sRet (eAnd [(eCall (mIsi IC) [(eLoc 0), (eC (.ty .tuple))]), (eCmp .eq (eCall mLen [(eLoc 0)]) (eC (.int 2))), (eOnL lAll (lc1 (iEach (eLoc 0)) (gnN 3) bTrue (eCall f_is_within [(eLoc 3), (eLoc 1), (eLoc 2)]) [3]))]))])
def f_is_pair_within : Fn := fnB 3 4 b_f_is_pair_within
theorem u_f_is_pair_within {a0 a1 a2 : D} (S : Sto) : f_is_pair_within [a0, a1, a2] S = runF (b_f_is_pair_within [some a0, some a1, some a2, none] S) := rfl
theorem w_f_is_pair_within {a0 a1 a2 : D} {S : Sto} {Q : D → Sto → Prop} {X : Nat → List (Nat × D) → Sto → Prop} : wp (f_is_pair_within [a0, a1, a2]) S Q X = ws b_f_is_pair_within [some a0, some a1, some a2, none] S (fnP Q X) := wp_u u_f_is_pair_within
def b_f_is_listed : SS := (sAll [(sRet (eIsiT IC (eLoc 0) [(eC (.ty .list)), (eC (.ty .tuple))]))])
def f_is_listed : Fn := fnB 1 1 b_f_is_listed
theorem u_f_is_listed {a0 : D} (S : Sto) : f_is_listed [a0] S = runF (b_f_is_listed [some a0] S) := rfl
theorem w_f_is_listed {a0 : D} {S : Sto} {Q : D → Sto → Prop} {X : Nat → List (Nat × D) → Sto → Prop} : wp (f_is_listed [a0]) S Q X = ws b_f_is_listed [some a0] S (fnP Q X) := wp_u u_f_is_listed
def b1_f_is_case : SS := (sAll [(sIf (bOr [(bNot (bV (eCall (mIsi IC) [(eLoc 5), (eC (.ty .tuple))]))), (bCmp .ne (eCall mLen [(eLoc 5)]) (eC (.int 2)))]) (sAll [(sRet (eC (.bl false)))]) (sAll [])), (sIf (bOr [(bNot (bV (eCall f_is_within [(eIx (eLoc 5) (eC (.int 0))), (eC (.int 0)), (eBin .sub (eLoc 3) (eC (.int 1)))]))), (bNot (bV (eCall f_is_within [(eIx (eLoc 5) (eC (.int 1))), (eC (.int 0)), (eC (.int 99))])))]) (sAll [(sRet (eC (.bl false)))]) (sAll []))])
def b_f_is_case : SS := (sAll [(sIf (bOr [(bNot (bV (eCall (mIsi IC) [(eLoc 0), (eC (.ty .tuple))]))), (bCmp .ne (eCall mLen [(eLoc 0)]) (eC (.int 3)))]) (sAll [(sRet (eC (.bl false)))]) (sAll [])), (sIf (bOr [(bNot (bV (eCall f_is_within [(eIx (eLoc 0) (eC (.int 0))), (eC (.int 0)), (eBin .sub (eIx (eLoc 1) (eC (.int 0))) (eC (.int 1)))]))), (bNot (bV (eCall f_is_within [(eIx (eLoc 0) (eC (.int 1))), (eC (.int 0)), (eBin .sub (eIx (eLoc 1) (eC (.int 1))) (eC (.int 1)))])))]) (sAll [(sRet (eC (.bl false)))]) (sAll [])), (sSet 4 (eIx (eLoc 0) (eC (.int 2)))), (sIf (bOr [(bNot (bV (eCall (mIsi IC) [(eLoc 4), (eC (.ty .tuple))]))), (bCmp .ne (eCall mLen [(eLoc 4)]) (eBin .mul (eIx (eLoc 2) (eC (.int 0))) (eIx (eLoc 2) (eC (.int 1)))))]) (sAll [(sRet (eC (.bl false)))]) (sAll [])), (sFor (iEach (eLoc 4)) (gnN 5) b1_f_is_case), (sRet (eC (.bl true)))])
def f_is_case : Fn := fnB 4 6 b_f_is_case
theorem u_f_is_case {a0 a1 a2 a3 : D} (S : Sto) : f_is_case [a0, a1, a2, a3] S = runF (b_f_is_case [some a0, some a1, some a2, some a3, none, none] S) := rfl
theorem w_f_is_case {a0 a1 a2 a3 : D} {S : Sto} {Q : D → Sto → Prop} {X : Nat → List (Nat × D) → Sto → Prop} : wp (f_is_case [a0, a1, a2, a3]) S Q X = ws b_f_is_case [some a0, some a1, some a2, some a3, none, none] S (fnP Q X) := wp_u u_f_is_case
def b_f_rising : SS := (sAll [(sRet (eOnL lAll (lc1 (iZipE (eLoc 0) (eSl (eLoc 0) (some (eC (.int 1))) none)) (gnT [(gnN 1), (gnN 2)]) bTrue (eCmp .lt (eLoc 1) (eLoc 2)) [1, 2])))])
def f_rising : Fn := fnB 1 3 b_f_rising
theorem u_f_rising {a0 : D} (S : Sto) : f_rising [a0] S = runF (b_f_rising [some a0, none, none] S) := rfl
theorem w_f_rising {a0 : D} {S : Sto} {Q : D → Sto → Prop} {X : Nat → List (Nat × D) → Sto → Prop} : wp (f_rising [a0]) S Q X = ws b_f_rising [some a0, none, none] S (fnP Q X) := wp_u u_f_rising
def b_f_is_state : SS := (sAll [(sIf (bOr [(bNot (bV (eCall (mIsi IC) [(eLoc 0), (eC (.ty .tuple))]))), (bCmp .ne (eCall mLen [(eLoc 0)]) (eC (.int 2))), (bNot (bV (eCall f_is_within [(eIx (eLoc 0) (eC (.int 0))), (eC (.int 0)), (eC (.int 8))])))]) (sAll [(sRet (eC (.bl false)))]) (sAll [])), (sSet 4 (eIx (eLoc 0) (eC (.int 1)))), (sIf (bOr [(bNot (bV (eCall (mIsi IC) [(eLoc 4), (eC (.ty .tuple))]))), (bCmp .eq (eLoc 4) (eTup []))]) (sAll [(sRet (eC (.bl false)))]) (sAll [])), (sIf (bNot (bV (eOnL lAll (lc1 (iEach (eLoc 4)) (gnN 5) bTrue (eCall f_is_case [(eLoc 5), (eLoc 1), (eLoc 2), (eLoc 3)]) [5])))) (sAll [(sRet (eC (.bl false)))]) (sAll [])), (sRet (eCall f_rising [(eAlc (lc1 (iEach (eLoc 4)) (gnN 5) bTrue (eSl (eLoc 5) none (some (eC (.int 2)))) [5]))]))])
def f_is_state : Fn := fnB 4 6 b_f_is_state
theorem u_f_is_state {a0 a1 a2 a3 : D} (S : Sto) : f_is_state [a0, a1, a2, a3] S = runF (b_f_is_state [some a0, some a1, some a2, some a3, none, none] S) := rfl
theorem w_f_is_state {a0 a1 a2 a3 : D} {S : Sto} {Q : D → Sto → Prop} {X : Nat → List (Nat × D) → Sto → Prop} : wp (f_is_state [a0, a1, a2, a3]) S Q X = ws b_f_is_state [some a0, some a1, some a2, some a3, none, none] S (fnP Q X) := wp_u u_f_is_state
def b1_m_House___init__ : SS := (sAll [(sIf (bNot (bV (eCall f_is_pair_within [(eLoc 4), (eC (.int 1)), (eC (.int 4))]))) (sAll [(sRz 24 1 (xIt [(10, .arg 0), (9, .str "InvalidHouse")]) [(eC .non)])]) (sAll []))])
def b2_m_House___init__ : SS := (sAll [(sIf (bNot (bV (eCall f_is_state [(eLoc 6), (eLoc 1), (eLoc 2), (eCall mLen [(eLoc 3)])]))) (sAll [(sRz 24 1 (xIt [(10, .arg 0), (9, .str "InvalidHouse")]) [(eLoc 5)])]) (sAll []))])
def b_m_House___init__ : SS := (sAll [(sFor (iEach (eTup [(eLoc 1), (eLoc 2)])) (gnN 4) b1_m_House___init__), (sIf (bOr [(bNot (bV (eCall f_is_listed [(eLoc 3)]))), (bNot (bChain .le .le (eC (.int 1)) (eCall mLen [(eLoc 3)]) (eC (.int 16))))]) (sAll [(sRz 24 1 (xIt [(10, .arg 0), (9, .str "InvalidHouse")]) [(eC .non)])]) (sAll [])), (sFor (iEnumE (eLoc 3)) (gnT [(gnN 5), (gnN 6)]) b2_m_House___init__), (sFldE [18] 0 (eLoc 0) (eLoc 1)), (sFldE [18] 1 (eLoc 0) (eLoc 2)), (sFldE [18] 2 (eLoc 0) (eCall mTuple [(eLoc 3)]))])
def m_House___init__ : Fn := fnB 4 7 b_m_House___init__
theorem u_m_House___init__ {a0 a1 a2 a3 : D} (S : Sto) : m_House___init__ [a0, a1, a2, a3] S = runF (b_m_House___init__ [some a0, some a1, some a2, some a3, none, none, none] S) := rfl
theorem w_m_House___init__ {a0 a1 a2 a3 : D} {S : Sto} {Q : D → Sto → Prop} {X : Nat → List (Nat × D) → Sto → Prop} : wp (m_House___init__ [a0, a1, a2, a3]) S Q X = ws b_m_House___init__ [some a0, some a1, some a2, some a3, none, none, none] S (fnP Q X) := wp_u u_m_House___init__
def b_f__law_made : SS := (sAll [(sRet (eCall (mkN 18 m_House___init__) [(eIx (eLoc 0) (eC (.int 0))), (eIx (eLoc 0) (eC (.int 1))), (eCall mList [(eIx (eLoc 0) (eC (.int 2)))])]))])
def f__law_made : Fn := fnB 1 1 b_f__law_made
theorem u_f__law_made {a0 : D} (S : Sto) : f__law_made [a0] S = runF (b_f__law_made [some a0] S) := rfl
theorem w_f__law_made {a0 : D} {S : Sto} {Q : D → Sto → Prop} {X : Nat → List (Nat × D) → Sto → Prop} : wp (f__law_made [a0]) S Q X = ws b_f__law_made [some a0] S (fnP Q X) := wp_u u_f__law_made
def b_m_House_need_state : SS := (sAll [(sIf (bNot (bV (eCall f_is_within [(eLoc 1), (eC (.int 0)), (eBin .sub (eCall mLen [(eAttr [(18, none)] 2 (eLoc 0))]) (eC (.int 1)))]))) (sAll [(sRz 25 1 (xIt [(11, .arg 0), (9, .str "InvalidState")]) [(eLoc 1)])]) (sAll []))])
def m_House_need_state : Fn := fnB 2 2 b_m_House_need_state
theorem u_m_House_need_state {a0 a1 : D} (S : Sto) : m_House_need_state [a0, a1] S = runF (b_m_House_need_state [some a0, some a1] S) := rfl
theorem w_m_House_need_state {a0 a1 : D} {S : Sto} {Q : D → Sto → Prop} {X : Nat → List (Nat × D) → Sto → Prop} : wp (m_House_need_state [a0, a1]) S Q X = ws b_m_House_need_state [some a0, some a1] S (fnP Q X) := wp_u u_m_House_need_state
def b_m_House_sign : SS := (sAll [(sDrop (eMeth [(18, m_House_need_state)] 3 (eLoc 0) [(eLoc 1)])), (sRet (eIx (eIx (eAttr [(18, none)] 2 (eLoc 0)) (eLoc 1)) (eC (.int 0))))])
def m_House_sign : Fn := fnB 2 2 b_m_House_sign
theorem u_m_House_sign {a0 a1 : D} (S : Sto) : m_House_sign [a0, a1] S = runF (b_m_House_sign [some a0, some a1] S) := rfl
theorem w_m_House_sign {a0 a1 : D} {S : Sto} {Q : D → Sto → Prop} {X : Nat → List (Nat × D) → Sto → Prop} : wp (m_House_sign [a0, a1]) S Q X = ws b_m_House_sign [some a0, some a1] S (fnP Q X) := wp_u u_m_House_sign
def b_m_House_pairs : SS := (sAll [(sDrop (eMeth [(18, m_House_need_state)] 3 (eLoc 0) [(eLoc 1)])), (sRet (eAlc (lc1 (iEach (eIx (eIx (eAttr [(18, none)] 2 (eLoc 0)) (eLoc 1)) (eC (.int 1)))) (gnN 2) bTrue (eSl (eLoc 2) none (some (eC (.int 2)))) [2])))])
def m_House_pairs : Fn := fnB 2 3 b_m_House_pairs
theorem u_m_House_pairs {a0 a1 : D} (S : Sto) : m_House_pairs [a0, a1] S = runF (b_m_House_pairs [some a0, some a1, none] S) := rfl
theorem w_m_House_pairs {a0 a1 : D} {S : Sto} {Q : D → Sto → Prop} {X : Nat → List (Nat × D) → Sto → Prop} : wp (m_House_pairs [a0, a1]) S Q X = ws b_m_House_pairs [some a0, some a1, none] S (fnP Q X) := wp_u u_m_House_pairs
def b_f_pairs_of : SS := (sAll [(sRet (eAlc (lc2 (iRange1 (eIx (eLoc 0) (eC (.int 0)))) (gnN 1) bTrue (iRange1 (eIx (eLoc 0) (eC (.int 1)))) (gnN 2) bTrue (eTup [(eLoc 1), (eLoc 2)]) [1, 2] [2])))])
def f_pairs_of : Fn := fnB 1 3 b_f_pairs_of
theorem u_f_pairs_of {a0 : D} (S : Sto) : f_pairs_of [a0] S = runF (b_f_pairs_of [some a0, none, none] S) := rfl
theorem w_f_pairs_of {a0 : D} {S : Sto} {Q : D → Sto → Prop} {X : Nat → List (Nat × D) → Sto → Prop} : wp (f_pairs_of [a0]) S Q X = ws b_f_pairs_of [some a0, none, none] S (fnP Q X) := wp_u u_f_pairs_of
def b_m_House_outcome : SS := (sAll [(sDrop (eMeth [(18, m_House_need_state)] 3 (eLoc 0) [(eLoc 1)])), (sIf (bOr [(bNot (bV (eCall f_is_pair_within [(eLoc 2), (eC (.int 0)), (eBin .sub (eC (.int 4)) (eC (.int 1)))]))), (bCmp .nin (eLoc 2) (eMeth [(18, m_House_pairs)] 4 (eLoc 0) [(eLoc 1)]))]) (sAll [(sRz 26 1 (xIt [(11, .arg 0), (9, .str "InvalidLetters")]) [(eLoc 2)])]) (sAll [])), (sIf (bOr [(bNot (bV (eCall f_is_pair_within [(eLoc 3), (eC (.int 0)), (eBin .sub (eC (.int 4)) (eC (.int 1)))]))), (bCmp .nin (eLoc 3) (eCall f_pairs_of [(eAttr [(18, none)] 1 (eLoc 0))]))]) (sAll [(sRz 27 1 (xIt [(11, .arg 0), (9, .str "InvalidAnswers")]) [(eLoc 3)])]) (sAll [])), (sSet 4 (eIx (eIx (eIx (eAttr [(18, none)] 2 (eLoc 0)) (eLoc 1)) (eC (.int 1))) (eBm .list mIndex (eMeth [(18, m_House_pairs)] 4 (eLoc 0) [(eLoc 1)]) [(eLoc 2)]))), (sRet (eIx (eIx (eLoc 4) (eC (.int 2))) (eBin .add (eBin .mul (eIx (eLoc 3) (eC (.int 0))) (eIx (eAttr [(18, none)] 1 (eLoc 0)) (eC (.int 1)))) (eIx (eLoc 3) (eC (.int 1))))))])
def m_House_outcome : Fn := fnB 4 5 b_m_House_outcome
theorem u_m_House_outcome {a0 a1 a2 a3 : D} (S : Sto) : m_House_outcome [a0, a1, a2, a3] S = runF (b_m_House_outcome [some a0, some a1, some a2, some a3, none] S) := rfl
theorem w_m_House_outcome {a0 a1 a2 a3 : D} {S : Sto} {Q : D → Sto → Prop} {X : Nat → List (Nat × D) → Sto → Prop} : wp (m_House_outcome [a0, a1, a2, a3]) S Q X = ws b_m_House_outcome [some a0, some a1, some a2, some a3, none] S (fnP Q X) := wp_u u_m_House_outcome
def b1_f__law_alike (self : Fn) : SS := (sAll [(sIf (bAnd [(bCmp .eq (eLoc 2) (eC (.int 1))), (bOr [(bV (eCall (mIsi IC) [(eLoc 1), (eC (.ty .bool))])), (bV (eCall (mIsi IC) [(eLoc 0), (eC (.ty .bool))]))])]) (sAll [(sRet (eAnd [(eCall (mIsi IC) [(eLoc 1), (eC (.ty .bool))]), (eCall (mIsi IC) [(eLoc 0), (eC (.ty .bool))]), (eCmp .eq (eLoc 0) (eLoc 1))]))]) (sAll [])), (sIf (bAnd [(bCmp .eq (eLoc 2) (eC (.int 2))), (bOr [(bV (eCall (mIsi IC) [(eLoc 1), (eC (.ty .str))])), (bV (eCall (mIsi IC) [(eLoc 0), (eC (.ty .str))]))])]) (sAll [(sRet (eAnd [(eCall (mIsi IC) [(eLoc 1), (eC (.ty .str))]), (eCall (mIsi IC) [(eLoc 0), (eC (.ty .str))]), (eCmp .eq (eLoc 0) (eLoc 1))]))]) (sAll [])), (sIf (bAnd [(bCmp .eq (eLoc 2) (eC (.int 3))), (bOr [(bV (eCall (mIsi IC) [(eLoc 1), (eC (.ty .int))])), (bV (eCall (mIsi IC) [(eLoc 0), (eC (.ty .int))]))])]) (sAll [(sRet (eAnd [(eCall (mIsi IC) [(eLoc 1), (eC (.ty .int))]), (eCall (mIsi IC) [(eLoc 0), (eC (.ty .int))]), (eCmp .eq (eLoc 0) (eLoc 1))]))]) (sAll []))])
def b_f__law_alike (self : Fn) : SS := (sAll [(sIf (bOr [(bCmp .isn (eLoc 1) (eC .non)), (bCmp .isn (eLoc 0) (eC .non))]) (sAll [(sRet (eAnd [(eCmp .isn (eLoc 1) (eC .non)), (eCmp .isn (eLoc 0) (eC .non))]))]) (sAll [])), (sFor (iEach (eTup [(eC (.int 1)), (eC (.int 2)), (eC (.int 3))])) (gnN 2) (b1_f__law_alike self)), (sIf (bOr [(bCmp .ne (eCall (mIsi IC) [(eLoc 1), (eC (.ty .tuple))]) (eCall (mIsi IC) [(eLoc 0), (eC (.ty .tuple))])), (bCmp .ne (eCall (mIsi IC) [(eLoc 1), (eC (.ty .list))]) (eCall (mIsi IC) [(eLoc 0), (eC (.ty .list))]))]) (sAll [(sRet (eC (.bl false)))]) (sAll [])), (sRet (eAnd [(eCmp .eq (eCall mLen [(eLoc 0)]) (eCall mLen [(eLoc 1)])), (eOnL lAll (lc1 (iZipE (eLoc 0) (eLoc 1)) (gnT [(gnN 3), (gnN 4)]) bTrue (eCall self [(eLoc 3), (eLoc 4)]) [3, 4]))]))])
def f__law_alike : Nat → Fn
  | 0 => fun _ => no
  | n + 1 => fnB 2 5 (b_f__law_alike (f__law_alike n))
theorem u_f__law_alike (n : Nat) {a0 a1 : D} (S : Sto) : f__law_alike (n + 1) [a0, a1] S = runF (b_f__law_alike (f__law_alike n) [some a0, some a1, none, none, none] S) := rfl
theorem w_f__law_alike (n : Nat) {a0 a1 : D} {S : Sto} {Q : D → Sto → Prop} {X : Nat → List (Nat × D) → Sto → Prop} : wp (f__law_alike (n + 1) [a0, a1]) S Q X = ws (b_f__law_alike (f__law_alike n)) [some a0, some a1, none, none, none] S (fnP Q X) := wp_u (u_f__law_alike n)
def b_f__law_let : SS := (sAll [(sRet (eAlc (lc1 (iEach (eIx (eIx (eIx (eLoc 0) (eC (.int 2))) (eLoc 1)) (eC (.int 1)))) (gnN 2) bTrue (eSl (eLoc 2) none (some (eC (.int 2)))) [2])))])
def f__law_let : Fn := fnB 2 3 b_f__law_let
theorem u_f__law_let {a0 a1 : D} (S : Sto) : f__law_let [a0, a1] S = runF (b_f__law_let [some a0, some a1, none] S) := rfl
theorem w_f__law_let {a0 a1 : D} {S : Sto} {Q : D → Sto → Prop} {X : Nat → List (Nat × D) → Sto → Prop} : wp (f__law_let [a0, a1]) S Q X = ws b_f__law_let [some a0, some a1, none] S (fnP Q X) := wp_u u_f__law_let
def b1_f__law_outcome : SS := (sAll [(sIf (bCmp .eq (eTup [(eLoc 4), (eLoc 5)]) (eLoc 2)) (sAll [(sRet (eIx (eLoc 6) (eBin .add (eBin .mul (eIx (eLoc 3) (eC (.int 0))) (eIx (eIx (eLoc 0) (eC (.int 1))) (eC (.int 1)))) (eIx (eLoc 3) (eC (.int 1))))))]) (sAll []))])
def b_f__law_outcome : SS := (sAll [(sFor (iEach (eIx (eIx (eIx (eLoc 0) (eC (.int 2))) (eLoc 1)) (eC (.int 1)))) (gnT [(gnN 4), (gnN 5), (gnN 6)]) b1_f__law_outcome), (sRet (eC .non))])
def f__law_outcome : Fn := fnB 4 7 b_f__law_outcome
theorem u_f__law_outcome {a0 a1 a2 a3 : D} (S : Sto) : f__law_outcome [a0, a1, a2, a3] S = runF (b_f__law_outcome [some a0, some a1, some a2, some a3, none, none, none] S) := rfl
theorem w_f__law_outcome {a0 a1 a2 a3 : D} {S : Sto} {Q : D → Sto → Prop} {X : Nat → List (Nat × D) → Sto → Prop} : wp (f__law_outcome [a0, a1, a2, a3]) S Q X = ws b_f__law_outcome [some a0, some a1, some a2, some a3, none, none, none] S (fnP Q X) := wp_u u_f__law_outcome
def b_m_House_states : SS := (sAll [(sRet (eCall mList [(eAttr [(18, none)] 2 (eLoc 0))]))])
def m_House_states : Fn := fnB 1 1 b_m_House_states
theorem u_m_House_states {a0 : D} (S : Sto) : m_House_states [a0] S = runF (b_m_House_states [some a0] S) := rfl
theorem w_m_House_states {a0 : D} {S : Sto} {Q : D → Sto → Prop} {X : Nat → List (Nat × D) → Sto → Prop} : wp (m_House_states [a0]) S Q X = ws b_m_House_states [some a0] S (fnP Q X) := wp_u u_m_House_states
def b1_m_House_turned : SS := (sAll [(sSet 8 (eAlc (lc2 (iRange1 (eIx (eAttr [(18, none)] 1 (eLoc 0)) (eC (.int 1)))) (gnN 9) bTrue (iRange1 (eIx (eAttr [(18, none)] 1 (eLoc 0)) (eC (.int 0)))) (gnN 10) bTrue (eBin .add (eBin .mul (eLoc 10) (eIx (eAttr [(18, none)] 1 (eLoc 0)) (eC (.int 1)))) (eLoc 9)) [9, 10] [10]))), (sDrop (eBm .list mAppend (eLoc 4) [(eTup [(eLoc 6), (eLoc 5), (eOnL lTup (lc1 (iEach (eLoc 8)) (gnN 11) bTrue (eIx (eLoc 7) (eLoc 11)) [11]))])]))])
def b2_m_House_turned : SS := (sAll [(sSet 4 (eLst [])), (sFor (iEach (eLoc 3)) (gnT [(gnN 5), (gnN 6), (gnN 7)]) b1_m_House_turned), (sDrop (eBm .list mAppend (eLoc 1) [(eTup [(eLoc 2), (eCall mTuple [(eCall mSorted [(eLoc 4)])])])]))])
def b_m_House_turned : SS := (sAll [(sSet 1 (eLst [])), (sFor (iEach (eAttr [(18, none)] 2 (eLoc 0))) (gnT [(gnN 2), (gnN 3)]) b2_m_House_turned), (sRet (eCall (mkN 18 m_House___init__) [(eRev (eAttr [(18, none)] 0 (eLoc 0))), (eRev (eAttr [(18, none)] 1 (eLoc 0))), (eLoc 1)]))])
def m_House_turned : Fn := fnB 1 12 b_m_House_turned
theorem u_m_House_turned {a0 : D} (S : Sto) : m_House_turned [a0] S = runF (b_m_House_turned [some a0, none, none, none, none, none, none, none, none, none, none, none] S) := rfl
theorem w_m_House_turned {a0 : D} {S : Sto} {Q : D → Sto → Prop} {X : Nat → List (Nat × D) → Sto → Prop} : wp (m_House_turned [a0]) S Q X = ws b_m_House_turned [some a0, none, none, none, none, none, none, none, none, none, none, none] S (fnP Q X) := wp_u u_m_House_turned
def b1_f__law_play : SS := (sAll [(sAsg (gnT [(gnN 8), (gnN 9)]) (eCall f__law_of [(eLoc 0), (eCall f__law_let [(eLoc 1), (eLoc 3)])])), (sAsg (gnT [(gnN 10), (gnN 11)]) (eCall f__law_of [(eLoc 0), (eCall f__law_pairs [(eIx (eLoc 1) (eC (.int 1)))])])), (sAsg (gnT [(gnN 3), (gnN 12)]) (eCall f__law_outcome [(eLoc 1), (eLoc 3), (eTup [(eLoc 8), (eLoc 9)]), (eTup [(eLoc 10), (eLoc 11)])])), (sDrop (eBm .list mAppend (eLoc 4) [(eTup [(eLoc 8), (eLoc 9), (eLoc 10), (eLoc 11)])])), (sDrop (eBm .list mAppend (eLoc 5) [(eLoc 12)])), (sDrop (eBm .list mAppend (eLoc 6) [(eLoc 3)]))])
def b_f__law_play : SS := (sAll [(sAsg (gnT [(gnN 3), (gnN 4), (gnN 5), (gnN 6)]) (eTup [(eC (.int 0)), (eLst []), (eLst []), (eLst [(eC (.int 0))])])), (sFor (iRange1 (eCall f__law_draw [(eLoc 0), (eBin .add (eLoc 2) (eC (.int 1)))])) (gnN 7) b1_f__law_play), (sRet (eTup [(eLoc 4), (eLoc 5), (eLoc 6)]))])
def f__law_play : Fn := fnB 3 13 b_f__law_play
theorem u_f__law_play {a0 a1 a2 : D} (S : Sto) : f__law_play [a0, a1, a2] S = runF (b_f__law_play [some a0, some a1, some a2, none, none, none, none, none, none, none, none, none, none] S) := rfl
theorem w_f__law_play {a0 a1 a2 : D} {S : Sto} {Q : D → Sto → Prop} {X : Nat → List (Nat × D) → Sto → Prop} : wp (f__law_play [a0, a1, a2]) S Q X = ws b_f__law_play [some a0, some a1, some a2, none, none, none, none, none, none, none, none, none, none] S (fnP Q X) := wp_u u_f__law_play
def b1_f__law_followed : SS := (sAll [(sIf (bCmp .nin (eTup [(eLoc 5), (eLoc 6)]) (eMeth [(18, m_House_pairs)] 4 (eLoc 0) [(eLoc 2)])) (sAll [(sRet (eC .non))]) (sAll [])), (sAsg (gnT [(gnN 2), (gnN 9)]) (eMeth [(18, m_House_outcome)] 6 (eLoc 0) [(eLoc 2), (eTup [(eLoc 5), (eLoc 6)]), (eTup [(eLoc 7), (eLoc 8)])])), (sDrop (eBm .list mAppend (eLoc 3) [(eLoc 9)])), (sDrop (eBm .list mAppend (eLoc 4) [(eMeth [(18, m_House_sign)] 7 (eLoc 0) [(eLoc 2)])]))])
def b_f__law_followed : SS := (sAll [(sPar3 2 3 4 (eC (.int 0)) (eLst []) (eLst [(eMeth [(18, m_House_sign)] 7 (eLoc 0) [(eC (.int 0))])])), (sFor (iEach (eLoc 1)) (gnT [(gnN 5), (gnN 6), (gnN 7), (gnN 8)]) b1_f__law_followed), (sRet (eTup [(eLoc 3), (eLoc 4)]))])
def f__law_followed : Fn := fnB 2 10 b_f__law_followed
theorem u_f__law_followed {a0 a1 : D} (S : Sto) : f__law_followed [a0, a1] S = runF (b_f__law_followed [some a0, some a1, none, none, none, none, none, none, none, none] S) := rfl
theorem w_f__law_followed {a0 a1 : D} {S : Sto} {Q : D → Sto → Prop} {X : Nat → List (Nat × D) → Sto → Prop} : wp (f__law_followed [a0, a1]) S Q X = ws b_f__law_followed [some a0, some a1, none, none, none, none, none, none, none, none] S (fnP Q X) := wp_u u_f__law_followed
def b_m_House___eq__ : SS := (sAll [(sIf (bNot (bV (eCall (mIsi [18]) [(eLoc 1), (eC (.glo 18))]))) (sAll [(sRet (eC (.bl false)))]) (sAll [])), (sRet (eCmp .eq (eTup [(eAttr [(18, none)] 0 (eLoc 0)), (eAttr [(18, none)] 1 (eLoc 0)), (eAttr [(18, none)] 2 (eLoc 0))]) (eTup [(eAttr [(18, none)] 0 (eLoc 1)), (eAttr [(18, none)] 1 (eLoc 1)), (eAttr [(18, none)] 2 (eLoc 1))])))])
def m_House___eq__ : Fn := fnB 2 2 b_m_House___eq__
theorem u_m_House___eq__ {a0 a1 : D} (S : Sto) : m_House___eq__ [a0, a1] S = runF (b_m_House___eq__ [some a0, some a1] S) := rfl
theorem w_m_House___eq__ {a0 a1 : D} {S : Sto} {Q : D → Sto → Prop} {X : Nat → List (Nat × D) → Sto → Prop} : wp (m_House___eq__ [a0, a1]) S Q X = ws b_m_House___eq__ [some a0, some a1] S (fnP Q X) := wp_u u_m_House___eq__
def b_m_House___len__ : SS := (sAll [(sRet (eCall mLen [(eAttr [(18, none)] 2 (eLoc 0))]))])
def m_House___len__ : Fn := fnB 1 1 b_m_House___len__
theorem u_m_House___len__ {a0 : D} (S : Sto) : m_House___len__ [a0] S = runF (b_m_House___len__ [some a0] S) := rfl
theorem w_m_House___len__ {a0 : D} {S : Sto} {Q : D → Sto → Prop} {X : Nat → List (Nat × D) → Sto → Prop} : wp (m_House___len__ [a0]) S Q X = ws b_m_House___len__ [some a0] S (fnP Q X) := wp_u u_m_House___len__
def b1_f__law_bad_state : SS := (sAll [(sDrop (eBm .list mAppend (eLoc 12) [(eTup [(eLoc 5), (eBin .add (eTup [(eTup [(eLoc 7), (eLoc 8), (eBin .add (eSl (eLoc 9) none (some (eNeg (eC (.int 1))))) (eTup [(eLoc 13)]))])]) (eSl (eLoc 6) (some (eC (.int 1))) none))])]))])
def b_f__law_bad_state : SS := (sAll [(sAsg (gnT [(gnN 5), (gnN 6)]) (eLoc 1)), (sAsg (gnT [(gnN 7), (gnN 8), (gnN 9)]) (eIx (eLoc 6) (eC (.int 0)))), (sAsg (gnT [(gnN 10), (gnN 11)]) (eIx (eLoc 9) (eNeg (eC (.int 1))))), (sSet 12 (eLst [(eTup [(eNeg (eC (.int 1))), (eLoc 6)]), (eTup [(eC (.int 9)), (eLoc 6)]), (eTup [(eC (.bl true)), (eLoc 6)]), (eTup [(eC (.str "0")), (eLoc 6)]), (eTup [(eLoc 5), (eTup [])]), (eTup [(eLoc 5), (eCall mList [(eLoc 6)])]), (eTup [(eLoc 5)]), (eC .non)])), (sSet 12 (eBin .add (eLoc 12) (eLst [(eLst [(eLoc 5), (eLoc 6)]), (eTup [(eLoc 5), (eLoc 6), (eC (.int 0))]), (eTup [(eLoc 5), (eBin .add (eLoc 6) (eTup [(eTup [(eLoc 7), (eLoc 8), (eLoc 9)])]))]), (eTup [(eLoc 5), (eTup [(eTup [(eLoc 7), (eLoc 8)])])])]))), (sSet 12 (eBin .add (eLoc 12) (eLst [(eTup [(eLoc 5), (eTup [(eTup [(eLoc 7), (eIx (eLoc 2) (eC (.int 1))), (eLoc 9)])])]), (eTup [(eLoc 5), (eTup [(eTup [(eIx (eLoc 2) (eC (.int 0))), (eLoc 8), (eLoc 9)])])])]))), (sSet 12 (eBin .add (eLoc 12) (eLst [(eTup [(eLoc 5), (eTup [(eTup [(eLoc 7), (eLoc 8), (eSl (eLoc 9) (some (eC (.int 1))) none)])])]), (eTup [(eLoc 5), (eTup [(eTup [(eLoc 7), (eLoc 8), (eBin .add (eLoc 9) (eSl (eLoc 9) none (some (eC (.int 1)))))])])])]))), (sSet 12 (eBin .add (eLoc 12) (eLst [(eTup [(eLoc 5), (eTup [(eTup [(eLoc 7), (eLoc 8), (eCall mList [(eLoc 9)])])])]), (eTup [(eLoc 5), (eBin .add (eTup [(eTup [(eNeg (eC (.int 1))), (eLoc 8), (eLoc 9)])]) (eSl (eLoc 6) (some (eC (.int 1))) none))])]))), (sFor (iEach (eTup [(eTup [(eLoc 4), (eLoc 11)]), (eTup [(eNeg (eC (.int 1))), (eLoc 11)]), (eTup [(eLoc 10), (eC (.int 100))]), (eTup [(eLoc 10), (eNeg (eC (.int 1)))]), (eTup [(eLoc 10), (eC (.bl true))]), (eLst [(eLoc 10), (eLoc 11)]), (eTup [(eLoc 10)]), (eC (.int 0))])) (gnN 13) b1_f__law_bad_state), (sRet (eCall f__law_of [(eLoc 0), (eLoc 12)]))])
def f__law_bad_state : Fn := fnB 5 14 b_f__law_bad_state
theorem u_f__law_bad_state {a0 a1 a2 a3 a4 : D} (S : Sto) : f__law_bad_state [a0, a1, a2, a3, a4] S = runF (b_f__law_bad_state [some a0, some a1, some a2, some a3, some a4, none, none, none, none, none, none, none, none, none] S) := rfl
theorem w_f__law_bad_state {a0 a1 a2 a3 a4 : D} {S : Sto} {Q : D → Sto → Prop} {X : Nat → List (Nat × D) → Sto → Prop} : wp (f__law_bad_state [a0, a1, a2, a3, a4]) S Q X = ws b_f__law_bad_state [some a0, some a1, some a2, some a3, some a4, none, none, none, none, none, none, none, none, none] S (fnP Q X) := wp_u u_f__law_bad_state
def b_m_House_dearest : SS := (sAll [(sRet (eOnL lMax (lc2 (iEach (eAttr [(18, none)] 2 (eLoc 0))) (gnN 1) bTrue (iEach (eIx (eLoc 1) (eC (.int 1)))) (gnN 2) bTrue (eOnL lMax (lc1 (iEach (eIx (eLoc 2) (eC (.int 2)))) (gnT [(gnN 3), (gnN 4)]) bTrue (eLoc 4) [3, 4])) [1, 2] [2])))])
def m_House_dearest : Fn := fnB 1 5 b_m_House_dearest
theorem u_m_House_dearest {a0 : D} (S : Sto) : m_House_dearest [a0] S = runF (b_m_House_dearest [some a0, none, none, none, none] S) := rfl
theorem w_m_House_dearest {a0 : D} {S : Sto} {Q : D → Sto → Prop} {X : Nat → List (Nat × D) → Sto → Prop} : wp (m_House_dearest [a0]) S Q X = ws b_m_House_dearest [some a0, none, none, none, none] S (fnP Q X) := wp_u u_m_House_dearest
def b1_f__law_multiplied : SS := (sAll [(sDrop (eBm .list mAppend (eLoc 5) [(eTup [(eLoc 6), (eLoc 7), (eOnL lTup (lc1 (iEach (eLoc 8)) (gnT [(gnN 9), (gnN 10)]) bTrue (eTup [(eLoc 9), (eBin .mul (eLoc 10) (eLoc 1))]) [9, 10]))])]))])
def b2_f__law_multiplied : SS := (sAll [(sSet 5 (eLst [])), (sFor (iEach (eLoc 4)) (gnT [(gnN 6), (gnN 7), (gnN 8)]) b1_f__law_multiplied), (sDrop (eBm .list mAppend (eLoc 2) [(eTup [(eLoc 3), (eCall mTuple [(eLoc 5)])])]))])
def b_f__law_multiplied : SS := (sAll [(sSet 2 (eLst [])), (sFor (iEach (eIx (eLoc 0) (eC (.int 2)))) (gnT [(gnN 3), (gnN 4)]) b2_f__law_multiplied), (sRet (eLoc 2))])
def f__law_multiplied : Fn := fnB 2 11 b_f__law_multiplied
theorem u_f__law_multiplied {a0 a1 : D} (S : Sto) : f__law_multiplied [a0, a1] S = runF (b_f__law_multiplied [some a0, some a1, none, none, none, none, none, none, none, none, none] S) := rfl
theorem w_f__law_multiplied {a0 a1 : D} {S : Sto} {Q : D → Sto → Prop} {X : Nat → List (Nat × D) → Sto → Prop} : wp (f__law_multiplied [a0, a1]) S Q X = ws b_f__law_multiplied [some a0, some a1, none, none, none, none, none, none, none, none, none] S (fnP Q X) := wp_u u_f__law_multiplied
def b1_f__law_is_good : SS := (sAll [(sIf (bOr [(bCmp .ge (eLoc 6) (eIx (eLoc 1) (eC (.int 0)))), (bCmp .ge (eLoc 7) (eIx (eLoc 1) (eC (.int 1))))]) (sAll [(sRet (eC (.bl false)))]) (sAll [])), (sIf (bCmp .ne (eCall mLen [(eLoc 8)]) (eBin .mul (eIx (eLoc 1) (eC (.int 2))) (eIx (eLoc 1) (eC (.int 3))))) (sAll [(sRet (eC (.bl false)))]) (sAll [])), (sIf (bNot (bV (eOnL lAll (lc1 (iEach (eLoc 8)) (gnT [(gnN 11), (gnN 12)]) bTrue (eAnd [(eCmp .lt (eLoc 11) (eLoc 2)), (eCmp .le (eLoc 12) (eC (.int 99)))]) [11, 12])))) (sAll [(sRet (eC (.bl false)))]) (sAll []))])
def b2_f__law_is_good : SS := (sAll [(sSet 5 (eAlc (lc1 (iEach (eLoc 4)) (gnN 9) bTrue (eSl (eLoc 9) none (some (eC (.int 2)))) [9]))), (sIf (bOr [(bCmp .gt (eLoc 3) (eC (.int 8))), (bCmp .eq (eLoc 5) (eLst [])), (bCmp .ne (eLoc 5) (eSrtSet (eLoc 5)))]) (sAll [(sRet (eC (.bl false)))]) (sAll [])), (sFor (iEach (eLoc 4)) (gnT [(gnN 6), (gnN 7), (gnN 8)]) b1_f__law_is_good)])
def b_f__law_is_good : SS := (sAll [(sAsg (gnT [(gnN 1), (gnN 2)]) (eTup [(eBin .add (eIx (eLoc 0) (eC (.int 0))) (eIx (eLoc 0) (eC (.int 1)))), (eCall mLen [(eIx (eLoc 0) (eC (.int 2)))])])), (sIf (bOr [(bNot (bV (eOnL lAll (lc1 (iEach (eLoc 1)) (gnN 10) bTrue (eChain .le .le (eC (.int 1)) (eLoc 10) (eC (.int 4))) [10])))), (bNot (bChain .le .le (eC (.int 1)) (eLoc 2) (eC (.int 16))))]) (sAll [(sRet (eC (.bl false)))]) (sAll [])), (sFor (iEach (eIx (eLoc 0) (eC (.int 2)))) (gnT [(gnN 3), (gnN 4)]) b2_f__law_is_good), (sRet (eC (.bl true)))])
def f__law_is_good : Fn := fnB 1 13 b_f__law_is_good
theorem u_f__law_is_good {a0 : D} (S : Sto) : f__law_is_good [a0] S = runF (b_f__law_is_good [some a0, none, none, none, none, none, none, none, none, none, none, none, none] S) := rfl
theorem w_f__law_is_good {a0 : D} {S : Sto} {Q : D → Sto → Prop} {X : Nat → List (Nat × D) → Sto → Prop} : wp (f__law_is_good [a0]) S Q X = ws b_f__law_is_good [some a0, none, none, none, none, none, none, none, none, none, none, none, none] S (fnP Q X) := wp_u u_f__law_is_good
def b1_f_priced : SS := (sAll [(sSet 5 (eAlc (lc1 (iEach (eLoc 4)) (gnT [(gnN 6), (gnN 7), (gnN 8)]) bTrue (eTup [(eLoc 6), (eLoc 7), (eOnL lTup (lc1 (iEach (eLoc 8)) (gnT [(gnN 9), (gnN 10)]) bTrue (eTup [(eLoc 9), (eBin .mul (eLoc 10) (eLoc 1))]) [9, 10]))]) [6, 7, 8]))), (sDrop (eBm .list mAppend (eLoc 2) [(eTup [(eLoc 3), (eCall mTuple [(eLoc 5)])])]))])
def b_f_priced : SS := (sAll [(sIf (bNot (bV (eCall f_is_within [(eLoc 1), (eC (.int 0)), (eC (.int 99))]))) (sAll [(sRz 32 1 (xIt [(11, .arg 0), (9, .str "InvalidCount")]) [(eLoc 1)])]) (sAll [])), (sIf (bCmp .gt (eBin .mul (eAttr [(18, some m_House_dearest)] 19 (eLoc 0)) (eLoc 1)) (eC (.int 99))) (sAll [(sRz 33 1 (xIt [(17, .arg 0), (9, .str "TooDear")]) [(eC (.int 99))])]) (sAll [])), (sSet 2 (eLst [])), (sFor (iEach (eMeth [(18, m_House_states)] 5 (eLoc 0) [])) (gnT [(gnN 3), (gnN 4)]) b1_f_priced), (sRet (eCall (mkN 18 m_House___init__) [(eAttr [(18, none)] 0 (eLoc 0)), (eAttr [(18, none)] 1 (eLoc 0)), (eLoc 2)]))])
def f_priced : Fn := fnB 2 11 b_f_priced
theorem u_f_priced {a0 a1 : D} (S : Sto) : f_priced [a0, a1] S = runF (b_f_priced [some a0, some a1, none, none, none, none, none, none, none, none, none] S) := rfl
theorem w_f_priced {a0 a1 : D} {S : Sto} {Q : D → Sto → Prop} {X : Nat → List (Nat × D) → Sto → Prop} : wp (f_priced [a0, a1]) S Q X = ws b_f_priced [some a0, some a1, none, none, none, none, none, none, none, none, none] S (fnP Q X) := wp_u u_f_priced
def b_m_House___mul__ : SS := (sAll [(sRet (eCall f_priced [(eLoc 0), (eLoc 1)]))])
def m_House___mul__ : Fn := fnB 2 2 b_m_House___mul__
theorem u_m_House___mul__ {a0 a1 : D} (S : Sto) : m_House___mul__ [a0, a1] S = runF (b_m_House___mul__ [some a0, some a1] S) := rfl
theorem w_m_House___mul__ {a0 a1 : D} {S : Sto} {Q : D → Sto → Prop} {X : Nat → List (Nat × D) → Sto → Prop} : wp (m_House___mul__ [a0, a1]) S Q X = ws b_m_House___mul__ [some a0, some a1] S (fnP Q X) := wp_u u_m_House___mul__
end
end Lw

end
section
set_option maxRecDepth 100000
set_option maxHeartbeats 1000000
set_option linter.all false
namespace Lw
open Lt
/-- the bag at n -/
def Bag (S : Sto) (n : Nat) : Prop := ∃ (m : Nat) (cells : List Int) (pos rest mark : Int), S[n]? = some (.lst [.ref m, .int pos, .int rest, .int mark]) ∧ S[m]? = some (.lst (cells.map D.int)) ∧ 0 ≤ pos ∧ 0 ≤ mark ∧ mark < 2147483587
/-- only the bag is written, and there may be new cells -/
structure Drw (n : Nat) (S S' : Sto) : Prop where
  len : S.length ≤ S'.length
  at_ : ∀ i, i < S.length → i ≠ n → S'[i]? = S[i]?
  hd : ∀ (m : Nat) (a b c : D), S[n]? = some (.lst [.ref m, a, b, c]) → ∃ a' b' c', S'[n]? = some (.lst [.ref m, a', b', c'])
  bag : Bag S' n
theorem mulOk_r {i j : Int} (h1 : 0 ≤ j) (h2 : j < 2147483648) : mulOk i j = true := by
  unfold mulOk
  have a : decide (-(2 ^ 64) < j) = true := decide_eq_true (by have : (-(2 ^ 64) : Int) = -18446744073709551616 := by decide
                                                               omega)
  have b : decide (j < 2 ^ 64) = true := decide_eq_true (by have : (2 ^ 64 : Int) = 18446744073709551616 := by decide
                                                            omega)
  rw [a, b]
  simp
theorem atI_cells {cells : List Int} {pos : Int} (h0 : 0 ≤ pos) (h : pos < cells.length) : ∃ c, L2.atI (cells.map D.int) pos = some (.int c) := by
  obtain ⟨k, rfl⟩ := Int.eq_ofNat_of_zero_le h0
  rw [atI_nat (by rw [List.length_map]; omega), List.getElem?_map]
  have hk : k < cells.length := by omega
  exact ⟨cells[k], by rw [List.getElem?_eq_getElem hk]; rfl⟩
theorem stIx1 (S : Sto) {n : Nat} {a b c d : D} (h : S[n]? = some (.lst [a, b, c, d])) (x : D) : stIx (.ref n) (.int 1) x S = .ok () (S.set n (.lst [a, x, c, d])) := by
  unfold stIx
  dsimp only
  rw [bnd_ap, lod_ap, h]
  rfl
theorem stIx2 (S : Sto) {n : Nat} {a b c d : D} (h : S[n]? = some (.lst [a, b, c, d])) (x : D) : stIx (.ref n) (.int 2) x S = .ok () (S.set n (.lst [a, b, x, d])) := by
  unfold stIx
  dsimp only
  rw [bnd_ap, lod_ap, h]
  rfl
theorem stIx3 (S : Sto) {n : Nat} {a b c d : D} (h : S[n]? = some (.lst [a, b, c, d])) (x : D) : stIx (.ref n) (.int 3) x S = .ok () (S.set n (.lst [a, b, c, x])) := by
  unfold stIx
  dsimp only
  rw [bnd_ap, lod_ap, h]
  rfl
/-- the end of a draw: from a number left, or by the mark -/
theorem draw_tail {n m : Nat} {cells : List Int} {pos rest mark many : Int} {S : Sto} (h : S[n]? = some (.lst [.ref m, .int pos, .int rest, .int mark])) (hm : S[m]? = some (.lst (cells.map D.int))) (h1 : 0 ≤ pos) (h2 : 0 ≤ mark) (h3 : mark < 2147483587) (k1 : 0 < many) (k2 : many < 1073741824)
    (hl : rest = 0 → pos < cells.length → False) : ∃ v S', f__law_draw [.ref n, .int many] S = .ok (.int v) S' ∧ 0 ≤ v ∧ v < many ∧ Drw n S S' ∧ S'.length = S.length := by
  have hn : n < S.length := (List.getElem?_eq_some_iff.mp h).1
  have hne : m ≠ n := by
    rintro rfl
    rw [h] at hm
    cases cells with
    | nil => cases hm
    | cons c cs => simp at hm
  have hm2 : ∀ x, (S.set n x)[m]? = some (.lst (cells.map D.int)) := fun x => by rw [List.getElem?_set_ne (Ne.symm hne)]; exact hm
  have hs : ∀ x, (S.set n x)[n]? = some x := fun x => List.getElem?_set_self hn
  rw [u_f__law_draw, b_f__law_draw]
  by_cases hr : 0 < rest
  · have e : (rest == 0) = false := by simp; omega
    have e2 : ¬ rest = 0 := by omega
    have e3 : ¬ many ≤ 0 := by omega
    refine ⟨rest % many, S.set n (.lst [.ref m, .int pos, .int (rest / many), .int mark]), ?_, Int.emod_nonneg _ (by omega), Int.emod_lt_of_pos _ k1, ?_, by simp⟩
    · simp [h, e2, hr, k1, k2, stIx2 S h]
    · exact ⟨by simp, fun i _ hi => List.getElem?_set_ne (Ne.symm hi), fun m' a b c e => by
        rw [h] at e
        cases e
        exact ⟨_, _, _, hs _⟩, m, cells, pos, _, mark, hs _, hm2 _, h1, h2, h3⟩
  · obtain ⟨mk, hk⟩ : ∃ mk : Int, (mark * 46147 + 1123) % 2147483587 = mk := ⟨_, rfl⟩
    have q1 : 0 ≤ mk := by rw [← hk]; exact Int.emod_nonneg _ (by decide)
    have q2 : mk < 2147483587 := by rw [← hk]; exact Int.emod_lt_of_pos _ (by decide)
    refine ⟨(mk * mk % 999999893 / 41) % many, S.set n (.lst [.ref m, .int pos, .int rest, .int mk]), ?_, Int.emod_nonneg _ (by omega), Int.emod_lt_of_pos _ k1, ?_, by simp⟩
    · have w1 : mulOk mark 46147 = true := mulOk_r (by decide) (by decide)
      have w2 : mulOk mk mk = true := mulOk_r q1 (by omega)
      by_cases e2 : rest = 0
      · have e3 : ¬ pos < (cells.length : Int) := fun z => hl e2 z
        simp [h, hm, hr, e2, e3, k1, k2, stIx3 S h, w1, w2, hk, hs]
      · simp [h, hm, e2, hr, k1, k2, stIx3 S h, w1, w2, hk, hs]
    · exact ⟨by simp, fun i _ hi => List.getElem?_set_ne (Ne.symm hi), fun m' a b c e => by
        rw [h] at e
        cases e
        exact ⟨_, _, _, hs _⟩, m, cells, pos, _, mk, hs _, hm2 _, h1, q1, q2⟩
/-- a number below many -/
theorem draw_ok {S : Sto} {n : Nat} (hb : Bag S n) {many : Int} (k1 : 0 < many) (k2 : many < 1073741824) : ∃ v S', f__law_draw [.ref n, .int many] S = .ok (.int v) S' ∧ 0 ≤ v ∧ v < many ∧ Drw n S S' ∧ S'.length = S.length := by
  obtain ⟨m, cells, pos, rest, mark, h, hm, h1, h2, h3⟩ := hb
  by_cases hc : rest = 0 ∧ pos < cells.length
  · obtain ⟨e0, hp⟩ := hc
    subst e0
    have hn : n < S.length := (List.getElem?_eq_some_iff.mp h).1
    have hne : m ≠ n := by
      rintro rfl
      rw [h] at hm
      cases cells with
      | nil => cases hm
      | cons c cs => simp at hm
    have hm2 : ∀ x, (S.set n x)[m]? = some (.lst (cells.map D.int)) := fun x => by rw [List.getElem?_set_ne (Ne.symm hne)]; exact hm
    have hs : ∀ x, (S.set n x)[n]? = some x := fun x => List.getElem?_set_self hn
    obtain ⟨c, ec⟩ := atI_cells h1 hp
    have x1 : ∀ x, stIx (.ref n) (.int 1) x S = .ok () (S.set n (.lst [.ref m, x, .int 0, .int mark])) := stIx1 S h
    have x2 : ∀ a b c d x, stIx (.ref n) (.int 2) x (S.set n (.lst [a, b, c, d])) = .ok () (S.set n (.lst [a, b, x, d])) := fun a b c d x => by rw [stIx2 _ (hs _), List.set_set]
    have x3 : ∀ a b c d x, stIx (.ref n) (.int 3) x (S.set n (.lst [a, b, c, d])) = .ok () (S.set n (.lst [a, b, c, x])) := fun a b c d x => by rw [stIx3 _ (hs _), List.set_set]
    have p18 : (10 : Int) ^ 18 = 1000000000000000000 := by decide
    rw [u_f__law_draw, b_f__law_draw]
    by_cases hbig : 1000000000000000000 ≤ c
    · have hc0 : 0 < c := by omega
      refine ⟨c % many, S.set n (.lst [.ref m, .int (pos + 1), .int (c / many), .int mark]), ?_, Int.emod_nonneg _ (by omega), Int.emod_lt_of_pos _ k1, ?_, by simp⟩
      · simp [h, hm, hm2, hs, hp, ec, x1, x2, x3, p18, hbig, hc0, k1, k2]
      · exact ⟨by simp, fun i _ hi => List.getElem?_set_ne (Ne.symm hi), fun m' a b c e => by
        rw [h] at e
        cases e
        exact ⟨_, _, _, hs _⟩, m, cells, pos + 1, _, mark, hs _, hm2 _, by omega, h2, h3⟩
    · obtain ⟨m1, hm1⟩ : ∃ m1 : Int, (mark * 40751 + c % 2000000089 + (pos + 1)) % 2147483587 = m1 := ⟨_, rfl⟩
      have q1 : 0 ≤ m1 := by rw [← hm1]; exact Int.emod_nonneg _ (by decide)
      have q2 : m1 < 2147483587 := by rw [← hm1]; exact Int.emod_lt_of_pos _ (by decide)
      obtain ⟨mk, hk⟩ : ∃ mk : Int, (m1 * 46147 + 1123) % 2147483587 = mk := ⟨_, rfl⟩
      have r1 : 0 ≤ mk := by rw [← hk]; exact Int.emod_nonneg _ (by decide)
      have r2 : mk < 2147483587 := by rw [← hk]; exact Int.emod_lt_of_pos _ (by decide)
      have w0 : mulOk mark 40751 = true := mulOk_r (by decide) (by decide)
      have w1 : mulOk m1 46147 = true := mulOk_r (by decide) (by decide)
      have w2 : mulOk mk mk = true := mulOk_r r1 (by omega)
      refine ⟨(mk * mk % 999999893 / 41) % many, S.set n (.lst [.ref m, .int (pos + 1), .int 0, .int mk]), ?_, Int.emod_nonneg _ (by omega), Int.emod_lt_of_pos _ k1, ?_, by simp⟩
      · simp [h, hm, hm2, hs, hp, ec, x1, x2, x3, p18, hbig, k1, k2, w0, w1, w2, hm1, hk]
      · exact ⟨by simp, fun i _ hi => List.getElem?_set_ne (Ne.symm hi), fun m' a b c e => by
        rw [h] at e
        cases e
        exact ⟨_, _, _, hs _⟩, m, cells, pos + 1, _, mk, hs _, hm2 _, by omega, r1, r2⟩
  · exact draw_tail h hm h1 h2 h3 k1 k2 fun e0 hp => hc ⟨e0, hp⟩
end Lw

end
section
set_option maxRecDepth 100000
set_option maxHeartbeats 1000000
set_option linter.all false
namespace Lw
open Lt
theorem Bag.grow {S T : Sto} {n : Nat} (h : Bag S n) : Bag (S ++ T) n := by
  obtain ⟨m, cells, pos, rest, mark, h1, h2, h3⟩ := h
  have a1 := (List.getElem?_eq_some_iff.mp h1).1
  have a2 := (List.getElem?_eq_some_iff.mp h2).1
  exact ⟨m, cells, pos, rest, mark, by rw [List.getElem?_append_left a1]; exact h1, by rw [List.getElem?_append_left a2]; exact h2, h3⟩
theorem Bag.lt {S : Sto} {n : Nat} (h : Bag S n) : n < S.length := by
  obtain ⟨m, cells, pos, rest, mark, h1, _⟩ := h
  exact (List.getElem?_eq_some_iff.mp h1).1
theorem Drw.refl {S : Sto} {n : Nat} (h : Bag S n) : Drw n S S := ⟨Nat.le_refl _, fun _ _ _ => rfl, fun _ a b c e => ⟨a, b, c, e⟩, h⟩
theorem Drw.push {S T : Sto} {n : Nat} (h : Bag S n) : Drw n S (S ++ T) := ⟨by simp, fun i hi _ => List.getElem?_append_left hi, fun _ a b c e => ⟨a, b, c, by rw [List.getElem?_append_left (List.getElem?_eq_some_iff.mp e).1]; exact e⟩, h.grow⟩
theorem Drw.trans {S S' S'' : Sto} {n : Nat} (a : Drw n S S') (b : Drw n S' S'') : Drw n S S'' := ⟨Nat.le_trans a.len b.len, fun i hi hn => (b.at_ i (Nat.lt_of_lt_of_le hi a.len) hn).trans (a.at_ i hi hn), fun m x y z e => by
    obtain ⟨x', y', z', e'⟩ := a.hd m x y z e
    exact b.hd m x' y' z' e', b.bag⟩
theorem Drw.get {S S' : Sto} {n : Nat} (a : Drw n S S') {i : Nat} {c : Cell} (h : S[i]? = some c) (hn : i ≠ n) : S'[i]? = some c := by
  rw [a.at_ i (List.getElem?_eq_some_iff.mp h).1 hn]; exact h
/-- one of a list -/
theorem of_ok {S : Sto} {n l : Nat} (hb : Bag S n) {xs : List D} (h : S[l]? = some (.lst xs)) (hl : l ≠ n) (h0 : xs ≠ []) (hz : xs.length < 1000000) : ∃ x S', f__law_of [.ref n, .ref l] S = .ok x S' ∧ x ∈ xs ∧ Drw n S S' ∧ S'.length = S.length := by
  have k1 : (0 : Int) < (xs.length : Int) := by
    have : 0 < xs.length := List.length_pos_iff.mpr h0
    omega
  obtain ⟨v, S', e, v0, v1, d, el⟩ := draw_ok hb k1 (by omega)
  obtain ⟨k, rfl⟩ := Int.eq_ofNat_of_zero_le v0
  have hk : k < xs.length := by omega
  refine ⟨xs[k], S', ?_, List.getElem_mem hk, d, el⟩
  have h2 : S'[l]? = some (.lst xs) := d.get h hl
  rw [u_f__law_of, b_f__law_of]
  simp [h, e, h2, atI_nat hk, List.getElem?_eq_getElem hk]
/-- all pairs -/
def pairsD (a b : Nat) : List D := (List.range a).flatMap fun i => (List.range b).map fun j => .tup [.int (i : Nat), .int (j : Nat)]
theorem pairsD_succ (a b : Nat) : pairsD (a + 1) b = pairsD a b ++ (List.range b).map fun j => .tup [.int (a : Nat), .int (j : Nat)] := by
  unfold pairsD
  rw [List.range_succ, List.flatMap_append]
  simp
theorem pairsD_len (a b : Nat) : (pairsD a b).length = a * b := by
  induction a with
  | zero => simp [pairsD]
  | succ a ih => rw [pairsD_succ, List.length_append, ih, List.length_map, List.length_range, Nat.succ_mul]
theorem pairs_r0 {a b : Nat} (ha : a ≤ 100) (η : Env) (S : Sto) (h : η[0]? = some (some (.tup [.int a, .int b]))) : iRange1 (eIx (eLoc 0) (eC (.int 0))) η S = .ok (itR 0 a) S := by
  simp [h]
  rw [rng1_ap S (by omega) (by omega)]
  simp
theorem pairs_r1 {a b : Nat} (hb : b ≤ 100) (η : Env) (S : Sto) (h : η[0]? = some (some (.tup [.int a, .int b]))) : iRange1 (eIx (eLoc 0) (eC (.int 1))) η S = .ok (itR 0 b) S := by
  simp [h]
  rw [rng1_ap S (by omega) (by omega)]
  simp
def rowD (i b : Nat) : List D := (List.range b).map fun j => .tup [.int (i : Nat), .int (j : Nat)]
theorem rowD_len (i b : Nat) : (rowD i b).length = b := by simp [rowD]
noncomputable abbrev rowE : Env → M (List D) := lc1 (iRange1 (eIx (eLoc 0) (eC (.int 1)))) (gnN 3) bTrue (eTup [(eLoc 2), (eLoc 3)]) [3]
theorem pairs_row {S' : Sto} {i a b l : Nat} (hb : b ≤ 100) : rowE [some (.tup [.int a, .int b]), some (.ref l), some (.int i), none] S' = .ok (rowD i b) S' := by
  have hz : (rngD b).length ≤ szL := by
    rw [rngD_len]
    exact Nat.le_trans hb (by decide)
  have lc := lc1_map (g := gnN 3) (te := eTup [(eLoc 2), (eLoc 3)]) (vs := [3]) (rngD b) (fun x => .tup [.int i, x]) (pairs_r1 hb [some (.tup [.int a, .int b]), some (.ref l), some (.int i), none] S' rfl) (fun j _ => itR_at S' b j) hz (fun x hx => ⟨[some (.tup [.int a, .int b]), some (.ref l), some (.int i), some x], rfl, by simp⟩)
  have e : (rngD b).map (fun x => D.tup [.int i, x]) = rowD i b := by
    rw [rngD, List.map_map]
    rfl
  rw [e] at lc
  exact lc
theorem opB_addL {S : Sto} {a b : Nat} {xs ys : List D} (h1 : S[a]? = some (.lst xs)) (h2 : S[b]? = some (.lst ys)) (hz : xs.length + ys.length ≤ szL) : opB .add (.ref a) (.ref b) S = .ok (.ref S.length) (S ++ [.lst (xs ++ ys)]) := by
  show bnd (lod a) (fun c => bnd (lod b) fun d => match c, d with
    | .lst xs, .lst ys => grd (decide (xs.length + ys.length ≤ szL)) (alc (.lst (xs ++ ys)))
    | _, _ => no) S = _
  rw [bnd_ap, lod_ap, h1]
  dsimp only
  rw [bnd_ap, lod_ap, h2]
  dsimp only
  rw [decide_eq_true hz]
  rw [grd_tt]
  rfl
/-- x = x + [..] -/
theorem step_cat {f1 : EE} {re : Env → M (List D)} {η : Env} {S' : Sto} {l : Nat} {xs row : List D} (h1 : f1 η S' = .ok (.ref l) S') (h2 : re η S' = .ok row S') (h3 : S'[l]? = some (.lst xs)) (hz : xs.length + row.length ≤ szL) (i : Nat) :
    sSet i (eBin .add f1 (eAlc re)) η S' = .nx (η.set i (some (.ref (S'.length + 1)))) (S' ++ [Cell.lst row] ++ [Cell.lst (xs ++ row)]) := by
  have h5 : (S' ++ [Cell.lst row])[l]? = some (.lst xs) := by rw [List.getElem?_append_left (List.getElem?_eq_some_iff.mp h3).1]; exact h3
  have h6 : (S' ++ [Cell.lst row])[S'.length]? = some (.lst row) := by rw [List.getElem?_append_right (Nat.le_refl _), Nat.sub_self]; rfl
  have e := opB_addL h5 h6 hz
  have hl : (S' ++ [Cell.lst row]).length = S'.length + 1 := by rw [List.length_append]; rfl
  rw [hl] at e
  rw [sSet_ap, sB_ap, eBin_ap, bnd_ap, h1]
  dsimp only
  rw [bnd_ap, eAlc_ap, bnd_ap, h2]
  dsimp only
  rw [alc_ap]
  dsimp only
  rw [e]
theorem pairs_size {i b : Nat} (hb : b ≤ 100) (hi : i < 100) : (pairsD i b).length + (rowD i b).length ≤ szL := by
  rw [pairsD_len, rowD_len]
  have h7 : i * b ≤ 100 * 100 := Nat.mul_le_mul (Nat.le_of_lt hi) hb
  exact Nat.le_trans (Nat.add_le_add h7 hb) (by decide)
theorem pairs_loop {S : Sto} {a b : Nat} (ha : a ≤ 100) (hb : b ≤ 100) : ∃ l T x2, sFor (iRange1 (eIx (eLoc 0) (eC (.int 0)))) (gnN 2) (sAll [sSet 1 (eBin .add (eLoc 1) (eAlc rowE))]) [some (.tup [.int a, .int b]), some (.ref S.length), none, none] (S ++ [.lst []]) = .nx [some (.tup [.int a, .int b]), some (.ref l), x2, none] (S ++ T) ∧ (S ++ T)[l]? = some (.lst (pairsD a b)) ∧ S.length ≤ l := by
  obtain ⟨η', S', e, T, l, x2, h1, h2, h3, h4⟩ := sFor_inv (g := gnN 2) (b := sAll [sSet 1 (eBin .add (eLoc 1) (eAlc rowE))])
    (pairs_r0 ha [some (.tup [.int a, .int b]), some (.ref S.length), none, none] (S ++ [.lst []]) rfl) a (Nat.le_trans ha (by decide))
    (fun i η S' => ∃ T l x2, η = [some (.tup [.int a, .int b]), some (.ref l), x2, none] ∧ S' = S ++ T ∧ S'[l]? = some (.lst (pairsD i b)) ∧ S.length ≤ l) (fun i η S' hi ⟨T, l, x2, e1, e2, h3, h4⟩ => by
      refine ⟨.int i, [some (.tup [.int a, .int b]), some (.ref l), some (.int i), none], [some (.tup [.int a, .int b]), some (.ref (S'.length + 1)), some (.int i), none], S' ++ [Cell.lst (rowD i b)] ++ [Cell.lst (pairsD i b ++ rowD i b)], ?_, ?_, ?_, T ++ [Cell.lst (rowD i b)] ++ [Cell.lst (pairsD i b ++ rowD i b)], S'.length + 1, some (.int i), rfl, ?_, ?_, ?_⟩
      · rw [itR_at]
        simp [rngD, hi]
      · rw [e1]
        rfl
      · rw [sAll_one]
        exact step_cat (η := [some (.tup [.int a, .int b]), some (.ref l), some (.int i), none]) rfl (pairs_row hb) h3 (pairs_size hb (by omega)) 1
      · rw [e2]; simp
      · rw [pairsD_succ]
        have : (S' ++ [Cell.lst (rowD i b)]).length = S'.length + 1 := by simp
        rw [← this, List.getElem?_append_right (Nat.le_refl _)]
        simp [rowD]
      · rw [e2]
        simp
        omega) (fun η S' _ => by rw [itR_at]; simp [rngD]) ⟨[.lst []], S.length, none, rfl, rfl, by simp [pairsD], Nat.le_refl _⟩
  subst h1 h2
  exact ⟨l, T, x2, e, h3, h4⟩
theorem pairs_ok {S : Sto} {a b : Nat} (ha : a ≤ 100) (hb : b ≤ 100) : ∃ l T, f__law_pairs [.tup [.int a, .int b]] S = .ok (.ref l) (S ++ T) ∧ (S ++ T)[l]? = some (.lst (pairsD a b)) ∧ S.length ≤ l := by
  obtain ⟨l, T, x2, e, h3, h4⟩ := pairs_loop (S := S) ha hb
  refine ⟨l, T, ?_, h3, h4⟩
  rw [u_f__law_pairs, b_f__law_pairs, b1_f__law_pairs]
  simp only [sAll_ap, sSet_ap, sB_ap, eLst_ap, bnd_ap, aL_nil, alc_ap, List.set_cons_succ, List.set_cons_zero]
  unfold rowE at e
  rw [e]
  simp
end Lw

end
section
set_option maxRecDepth 100000
set_option maxHeartbeats 1000000
set_option linter.all false
namespace Lw
open Lt
/-! ### drawn houses -/
/-- an outcome: its goal below many, its price -/
def Oc (many : Nat) (d : D) : Prop := ∃ (g : Nat) (p : Int), d = .tup [.int g, .int p] ∧ g < many ∧ 0 ≤ p ∧ p ≤ 99
/-- a case of the pair p -/
def Cs (a b many : Nat) (p : D) (d : D) : Prop := ∃ (x y : Nat) (os : List D), p = .tup [.int x, .int y] ∧ d = .tup [.int x, .int y, .tup os] ∧ os.length = a * b ∧ ∀ o ∈ os, Oc many o
def Prices (ps : List D) : Prop := ps ≠ [] ∧ ps.length < 1000000 ∧ ∀ d ∈ ps, ∃ p : Int, d = .int p ∧ 0 ≤ p ∧ p ≤ 99
theorem outcomes_ok {S : Sto} {n l : Nat} (hb : Bag S n) {a b many : Nat} (ha : a ≤ 100) (hb' : b ≤ 100) (hm : 0 < many) (hm2 : many < 1000000) {ps : List D} (hp : Prices ps) (hl : S[l]? = some (.lst ps)) (hln : l ≠ n) :
    ∃ os S', f__law_outcomes [.ref n, .tup [.int a, .int b], .int many, .ref l] S = .ok (.tup os) S' ∧ os.length = a * b ∧ (∀ o ∈ os, Oc many o) ∧ Drw n S S' := by
  obtain ⟨lp, T, e, hlp, hge⟩ := pairs_ok (S := S) ha hb'
  have hnp : lp ≠ n := by
    have := hb.lt
    omega
  have d0 : Drw n S (S ++ T) := .push hb
  rw [u_f__law_outcomes, b_f__law_outcomes]
  have hf : iEach (eCall f__law_pairs [(eLoc 1)]) [some (.ref n), some (.tup [.int a, .int b]), some (.int many), some (.ref l), none] S = .ok (itL lp) (S ++ T) := by
    simp [e, hlp]
  have hz : a * b ≤ 100 * 100 := Nat.mul_le_mul ha hb'
  obtain ⟨os, S', e2, ⟨h1, h2, h3⟩⟩ := lcG_inv (it := itL lp) (g := gnN 4) (tt := bTrue) (body := lcB (eTup [(eCall f__law_draw [(eLoc 0), (eLoc 2)]), (eCall f__law_of [(eLoc 0), (eLoc 3)])])) (η0 := wipeE [some (.ref n), some (.tup [.int a, .int b]), some (.int many), some (.ref l), none] [4]) (a * b)
    (fun i acc S' => acc.length = i ∧ (∀ o ∈ acc, Oc many o) ∧ Drw n S S' ∧ S'[lp]? = some (.lst (pairsD a b)))
    (fun i acc S' hi ⟨h1, h2, h3, h4⟩ => by
      obtain ⟨v, S1, ev, v0, v1, dv, _⟩ := draw_ok h3.bag (many := many) (by omega) (by omega)
      have hl1 : S1[l]? = some (.lst ps) := dv.get (h3.get hl hln) hln
      obtain ⟨x, S2, ex, hx, dx, _⟩ := of_ok dv.bag hl1 hln hp.1 hp.2.1
      obtain ⟨p, rfl, p0, p1⟩ := hp.2.2 x hx
      obtain ⟨g, rfl⟩ := Int.eq_ofNat_of_zero_le v0
      have hlen : i < (pairsD a b).length := by rw [pairsD_len]; exact hi
      refine ⟨(pairsD a b)[i], [some (.ref n), some (.tup [.int a, .int b]), some (.int many), some (.ref l), some (pairsD a b)[i]], true, S', ?_, rfl, rfl, (fun z => by cases z), fun _ => ⟨acc ++ [.tup [.int g, .int p]], S2, ?_, by simp [h1], ?_, (h3.trans dv).trans dx, ?_⟩⟩
      · rw [itL_at S' (show lsO S'[lp]? = some (pairsD a b) by rw [h4]; rfl), List.getElem?_eq_getElem hlen]
      · rw [lcB_ap]
        have : acc.length < szL := by unfold szL; omega
        simp [ev, ex, this]
      · intro o ho
        rcases List.mem_append.mp ho with z | z
        · exact h2 o z
        · have z : o = .tup [.int g, .int p] := by simpa using z
          exact ⟨g, p, z, by omega, p0, p1⟩
      · exact dx.get (dv.get h4 hnp) hnp)
    (fun acc S' ⟨h1, h2, h3, h4⟩ => by
      rw [itL_at S' (show lsO S'[lp]? = some (pairsD a b) by rw [h4]; rfl), List.getElem?_eq_none (by rw [pairsD_len]; exact Nat.le_refl _)])
    FU 0 [] (S ++ T) (Nat.zero_le _) (FU_lt (by omega)) ⟨rfl, (fun o h => by cases h), d0, hlp⟩
  refine ⟨os, S', ?_, h1, h2, h3.1⟩
  have e3 : lc1 (iEach (eCall f__law_pairs [(eLoc 1)])) (gnN 4) bTrue (eTup [(eCall f__law_draw [(eLoc 0), (eLoc 2)]), (eCall f__law_of [(eLoc 0), (eLoc 3)])]) [4] [some (.ref n), some (.tup [.int a, .int b]), some (.int many), some (.ref l), none] S = .ok os S' := by
    unfold lc1
    rw [bnd_ap, hf]
    exact e2
  simp [e3]
end Lw

end
section
set_option maxRecDepth 100000
set_option maxHeartbeats 1000000
set_option linter.all false
namespace Lw
open Lt
/-- the pairs that a toss keeps -/
theorem toss_ok {S : Sto} {n lp : Nat} {xs : List D} {A B M L : Option D} (hb : Bag S n) (h : S[lp]? = some (.lst xs)) (hn : lp ≠ n) (hz : xs.length ≤ 10000) :
    ∃ ys S', lc1 (iEach (eLoc 5)) (gnN 9) (bCmp .eq (eCall f__law_draw [(eLoc 0), (eC (.int 2))]) (eC (.int 0))) (eLoc 9) [9] [some (.ref n), A, B, M, L, some (.ref lp), none, none, none, none] S = .ok ys S' ∧ ys.Sublist xs ∧ Drw n S S' := by
  obtain ⟨ys, S', e, h1, h2⟩ := lcG_inv (it := itL lp) (g := gnN 9) (tt := bCmp .eq (eCall f__law_draw [(eLoc 0), (eC (.int 2))]) (eC (.int 0))) (body := lcB (eLoc 9)) (η0 := wipeE [some (.ref n), A, B, M, L, some (.ref lp), none, none, none, none] [9]) xs.length
    (fun i acc S' => acc.Sublist (xs.take i) ∧ Drw n S S')
    (fun i acc S' hi ⟨h1, h2⟩ => by
      obtain ⟨v, S1, ev, v0, v1, dv, _⟩ := draw_ok h2.bag (many := 2) (by omega) (by omega)
      have hs : acc.Sublist (xs.take (i + 1)) := h1.trans (List.take_sublist_take_left (by omega))
      refine ⟨xs[i], [some (.ref n), A, B, M, L, some (.ref lp), none, none, none, some xs[i]], decide (v = 0), S1, ?_, rfl, ?_, fun _ => ⟨hs, h2.trans dv⟩, fun _ => ⟨acc ++ [xs[i]], S1, ?_, ?_, h2.trans dv⟩⟩
      · rw [itL_at S' (show lsO S'[lp]? = some xs by rw [h2.get h hn]; rfl), List.getElem?_eq_getElem hi]
      · simp [ev]
      · rw [lcB_ap]
        have : acc.length < szL := by
          have := h1.length_le
          rw [List.length_take] at this
          unfold szL
          omega
        simp [this]
      · rw [List.take_succ_eq_append_getElem hi]
        exact h1.append (List.Sublist.refl _))
    (fun acc S' ⟨h1, h2⟩ => by
      rw [itL_at S' (show lsO S'[lp]? = some xs by rw [h2.get h hn]; rfl), List.getElem?_eq_none (Nat.le_refl _)])
    FU 0 [] S (Nat.zero_le _) (FU_lt (by omega)) ⟨List.nil_sublist _, .refl hb⟩
  refine ⟨ys, S', ?_, by simpa using h1, h2⟩
  unfold lc1
  rw [bnd_ap]
  simp only [iEach_ap, bnd_ap, eLoc_ap, List.getElem?_cons_succ, List.getElem?_cons_zero, itOf_ref, lsAt_ap, h, lsO_lst, ret_ap]
  exact e
inductive All2 (P : D → D → Prop) : List D → List D → Prop
  | nil : All2 P [] []
  | snoc {xs ys : List D} {x y : D} : All2 P xs ys → P x y → All2 P (xs ++ [x]) (ys ++ [y])
theorem All2.len {P : D → D → Prop} {xs ys : List D} (h : All2 P xs ys) : xs.length = ys.length := by
  induction h with
  | nil => rfl
  | snoc _ _ ih => simp [ih]
theorem mem_pairs {a b : Nat} {d : D} (h : d ∈ pairsD a b) : ∃ x y : Nat, d = .tup [.int x, .int y] ∧ x < a ∧ y < b := by
  unfold pairsD at h
  rw [List.mem_flatMap] at h
  obtain ⟨i, hi, h⟩ := h
  rw [List.mem_map] at h
  obtain ⟨j, hj, rfl⟩ := h
  exact ⟨i, j, rfl, List.mem_range.mp hi, List.mem_range.mp hj⟩
/-- the cases of a state -/
theorem cases_ok {S : Sto} {n lp l : Nat} {ps xs : List D} {a b a' b' many : Nat} {A : Option D} (hb : Bag S n) (h : S[lp]? = some (.lst xs)) (hn : lp ≠ n) (hz : xs.length ≤ 10000) (hx : ∀ x ∈ xs, x ∈ pairsD a b)
    (ha : a' ≤ 100) (hb' : b' ≤ 100) (hm : 0 < many) (hm2 : many < 1000000) (hp : Prices ps) (hl : S[l]? = some (.lst ps)) (hln : l ≠ n) :
    ∃ ys S', lc1 (iEach (eLoc 5)) (gnT [(gnN 7), (gnN 8)]) bTrue (eTup [(eLoc 7), (eLoc 8), (eCall f__law_outcomes [(eLoc 0), (eLoc 2), (eLoc 3), (eLoc 4)])]) [7, 8] [some (.ref n), A, some (.tup [.int a', .int b']), some (.int many), some (.ref l), some (.ref lp), none, none, none, none] S = .ok ys S' ∧ All2 (Cs a' b' many) xs ys ∧ Drw n S S' := by
  obtain ⟨ys, S', e, h1, h2⟩ := lcG_inv (it := itL lp) (g := gnT [(gnN 7), (gnN 8)]) (tt := bTrue) (body := lcB (eTup [(eLoc 7), (eLoc 8), (eCall f__law_outcomes [(eLoc 0), (eLoc 2), (eLoc 3), (eLoc 4)])])) (η0 := wipeE [some (.ref n), A, some (.tup [.int a', .int b']), some (.int many), some (.ref l), some (.ref lp), none, none, none, none] [7, 8]) xs.length
    (fun i acc S' => All2 (Cs a' b' many) (xs.take i) acc ∧ Drw n S S')
    (fun i acc S' hi ⟨h1, h2⟩ => by
      obtain ⟨x, y, exy, _, _⟩ := mem_pairs (hx xs[i] (List.getElem_mem hi))
      obtain ⟨os, S1, eo, o1, o2, o3⟩ := outcomes_ok (a := a') (b := b') (many := many) h2.bag ha hb' hm hm2 hp (h2.get hl hln) hln
      refine ⟨xs[i], [some (.ref n), A, some (.tup [.int a', .int b']), some (.int many), some (.ref l), some (.ref lp), none, some (.int x), some (.int y), none], true, S', ?_, ?_, rfl, (fun z => by cases z), fun _ => ⟨acc ++ [.tup [.int x, .int y, .tup os]], S1, ?_, ?_, h2.trans o3⟩⟩
      · rw [itL_at S' (show lsO S'[lp]? = some xs by rw [h2.get h hn]; rfl), List.getElem?_eq_getElem hi]
      · rw [exy]
        rfl
      · rw [lcB_ap]
        have : acc.length < szL := by
          have := h1.len
          rw [List.length_take] at this
          unfold szL
          omega
        simp [eo, this]
      · rw [List.take_succ_eq_append_getElem hi]
        exact h1.snoc ⟨x, y, os, exy, rfl, o1, o2⟩)
    (fun acc S' ⟨h1, h2⟩ => by
      rw [itL_at S' (show lsO S'[lp]? = some xs by rw [h2.get h hn]; rfl), List.getElem?_eq_none (Nat.le_refl _)])
    FU 0 [] S (Nat.zero_le _) (FU_lt (by omega)) ⟨.nil, .refl hb⟩
  refine ⟨ys, S', ?_, by simpa using h1, h2⟩
  unfold lc1
  rw [bnd_ap]
  simp only [iEach_ap, bnd_ap, eLoc_ap, List.getElem?_cons_succ, List.getElem?_cons_zero, itOf_ref, lsAt_ap, h, lsO_lst, ret_ap]
  exact e
end Lw

end
section
set_option maxRecDepth 100000
set_option maxHeartbeats 1000000
set_option linter.all false
namespace Lw
open Lt
open PySem (PyData)
theorem optMap_mem {α β : Type} {f : α → Option β} {g : α → β} : ∀ {xs : List α}, (∀ x ∈ xs, f x = some (g x)) → optMap f xs = some (xs.map g)
  | [], _ => rfl
  | x :: xs, h => by
    unfold optMap
    rw [h x (List.mem_cons_self ..), optMap_mem fun y hy => h y (List.mem_cons_of_mem _ hy)]
    rfl
/-- pairs of numbers -/
def Prs (xs : List D) : Prop := ∀ d ∈ xs, ∃ x y : Int, d = .tup [.int x, .int y]
def ppD : D → PyData
  | .tup [.int x, .int y] => .tuple [.int x, .int y]
  | _ => .none
theorem pp_can : ∀ {xs : List D}, Prs xs → PyData.canLayAll0 (xs.map ppD) = true ∧ PyData.depthAll (xs.map ppD) ≤ 2
  | [], _ => ⟨rfl, by simp [PyData.depthAll]⟩
  | d :: xs, h => by
    obtain ⟨x, y, rfl⟩ := h d (List.mem_cons_self ..)
    have ih := pp_can (xs := xs) fun d hd => h d (List.mem_cons_of_mem _ hd)
    exact ⟨by simp [ppD, PyData.canLayAll0, PyData.canLay0, ih.1], by
      have := ih.2
      simp [ppD, PyData.depthAll, PyData.depth] at *
      omega⟩
theorem pp_data {S : Sto} {l : Nat} {xs : List D} (h : S[l]? = some (.lst xs)) (hx : Prs xs) : dataOf (.ref l) S = .ok (.list (xs.map ppD)) S := by
  have e : toP 64 S (.ref l) = some (.list (xs.map ppD)) := by
    show (match lsO S[l]? with
      | some xs => (match optMap (toP 63 S) xs with
        | some ps => some (PyData.list ps)
        | none => none)
      | none => none) = _
    rw [h]
    dsimp only [lsO]
    rw [optMap_mem (g := ppD) fun d hd => by
      obtain ⟨x, y, rfl⟩ := hx d hd
      rfl]
  have s : PySem.SeqAt.shaped (.list (xs.map ppD)) = true := by
    have := pp_can hx
    simp [PySem.SeqAt.shaped, PyData.canLay0, PyData.depth, this.1]
    omega
  unfold dataOf
  rw [e]
  dsimp only
  rw [s]
/-- is a list of pairs empty -/
theorem pp_empty {S : Sto} {l k : Nat} {xs : List D} (h : S[l]? = some (.lst xs)) (hk : S[k]? = some (.lst [])) (hx : Prs xs) : eqD (.ref l) (.ref k) S = .ok xs.isEmpty S := by
  unfold eqD
  rw [bnd_ap, pp_data h hx]
  dsimp only
  rw [bnd_ap, pp_data hk fun d hd => by cases hd]
  dsimp only
  rw [ret_ap]
  cases xs <;> rfl
theorem Prs.pairs (a b : Nat) : Prs (pairsD a b) := fun d h => by
  obtain ⟨x, y, e, _⟩ := mem_pairs h
  exact ⟨x, y, e⟩
theorem Prs.sub {xs ys : List D} (h : Prs ys) (s : xs.Sublist ys) : Prs xs := fun d hd => h d (s.subset hd)
end Lw

end
section
set_option maxRecDepth 100000
set_option maxHeartbeats 1000000
set_option linter.all false
namespace Lw
open Lt
/-- a state -/
def St (a b a' b' many : Nat) (d : D) : Prop := ∃ (s : Int) (ps cs : List D), d = .tup [.int s, .tup cs] ∧ 0 ≤ s ∧ s ≤ 2 ∧ ps ≠ [] ∧ ps.Sublist (pairsD a b) ∧ All2 (Cs a' b' many) ps cs
/-- the pairs, chosen -/
theorem state1 {S : Sto} {n lp : Nat} {xs : List D} {A B M L : Option D} (hb : Bag S n) (h : S[lp]? = some (.lst xs)) (hn : lp ≠ n) (hz : xs.length ≤ 10000) :
    ∃ lq ys S', sIf (bCmp .eq (eCall f__law_draw [(eLoc 0), (eC (.int 3))]) (eC (.int 0))) (sAll [(sSet 5 (eAlc (lc1 (iEach (eLoc 5)) (gnN 9) (bCmp .eq (eCall f__law_draw [(eLoc 0), (eC (.int 2))]) (eC (.int 0))) (eLoc 9) [9])))]) (sAll []) [some (.ref n), A, B, M, L, some (.ref lp), none, none, none, none] S
      = .nx [some (.ref n), A, B, M, L, some (.ref lq), none, none, none, none] S' ∧ S'[lq]? = some (.lst ys) ∧ ys.Sublist xs ∧ Drw n S S' ∧ lq ≠ n := by
  obtain ⟨v, S1, ev, v0, v1, dv, _⟩ := draw_ok hb (many := 3) (by omega) (by omega)
  by_cases hv : v = 0
  · obtain ⟨ys, S2, e2, h2, d2⟩ := toss_ok (A := A) (B := B) (M := M) (L := L) dv.bag (dv.get h hn) hn hz
    have d3 : Drw n S (S2 ++ [.lst ys]) := (dv.trans d2).trans (.push d2.bag)
    have := d2.bag.lt
    refine ⟨S2.length, ys, S2 ++ [.lst ys], ?_, by simp, h2, d3, by omega⟩
    simp [ev, hv, e2]
  · refine ⟨lp, xs, S1, ?_, dv.get h hn, List.Sublist.refl _, dv, hn⟩
    simp [ev, hv]
/-- never none -/
theorem state2 {S : Sto} {n lp : Nat} {ys : List D} {a b : Nat} {B M L : Option D} (ha : a ≤ 100) (hb' : b ≤ 100) (ha0 : 0 < a) (hb0 : 0 < b) (hb : Bag S n) (h : S[lp]? = some (.lst ys)) (hn : lp ≠ n) (hy : ys.Sublist (pairsD a b)) :
    ∃ lq zs S', sSet 5 (eIf (bCmp .ne (eLoc 5) (eLst [])) (eLoc 5) (eLst [(eCall f__law_of [(eLoc 0), (eCall f__law_pairs [(eLoc 1)])])])) [some (.ref n), some (.tup [.int a, .int b]), B, M, L, some (.ref lp), none, none, none, none] S
      = .nx [some (.ref n), some (.tup [.int a, .int b]), B, M, L, some (.ref lq), none, none, none, none] S' ∧ S'[lq]? = some (.lst zs) ∧ zs ≠ [] ∧ zs.Sublist (pairsD a b) ∧ Drw n S S' ∧ lq ≠ n := by
  have g1 : (S ++ [Cell.lst []])[lp]? = some (.lst ys) := by rw [List.getElem?_append_left (List.getElem?_eq_some_iff.mp h).1]; exact h
  have g2 : (S ++ [Cell.lst []])[S.length]? = some (.lst []) := by simp
  have eq := pp_empty g1 g2 (Prs.sub (Prs.pairs a b) hy)
  have dp : Drw n S (S ++ [Cell.lst []]) := .push hb
  cases ys with
  | cons y ys =>
    refine ⟨lp, y :: ys, S ++ [.lst []], ?_, g1, by simp, hy, dp, hn⟩
    simp [eq]
  | nil =>
    obtain ⟨l2, T, e2, h2, ge⟩ := pairs_ok (S := S ++ [Cell.lst []]) ha hb'
    have hlt := dp.bag.lt
    have hne : l2 ≠ n := by omega
    have hlen := pairsD_len a b
    have hpos : 0 < a * b := Nat.mul_pos ha0 hb0
    have hle : a * b ≤ 100 * 100 := Nat.mul_le_mul ha hb'
    have d2 : Drw n (S ++ [Cell.lst []]) (S ++ [Cell.lst []] ++ T) := .push dp.bag
    obtain ⟨x, S3, e3, hx, d3, _⟩ := of_ok d2.bag h2 hne (by
      intro z
      rw [z] at hlen
      simp at hlen
      omega) (by omega)
    have d4 : Drw n S (S3 ++ [.lst [x]]) := ((dp.trans d2).trans d3).trans (.push d3.bag)
    have := d3.bag.lt
    refine ⟨S3.length, [x], S3 ++ [.lst [x]], ?_, by simp, by simp, List.singleton_sublist.mpr hx, d4, by omega⟩
    simp at e2 e3
    simp [eq, e2, e3]
theorem state_ok {S : Sto} {n l : Nat} {a b a' b' many : Nat} {ps : List D} (hb : Bag S n) (h1 : a ≤ 100) (h2 : b ≤ 100) (h3 : a' ≤ 100) (h4 : b' ≤ 100) (h5 : 0 < a) (h6 : 0 < b) (hm : 0 < many) (hm2 : many < 1000000) (hp : Prices ps) (hl : S[l]? = some (.lst ps)) (hln : l ≠ n) :
    ∃ d S', f__law_state [.ref n, .tup [.int a, .int b], .tup [.int a', .int b'], .int many, .ref l] S = .ok d S' ∧ St a b a' b' many d ∧ Drw n S S' := by
  obtain ⟨l1, T, e1, g1, ge⟩ := pairs_ok (S := S) h1 h2
  have d1 : Drw n S (S ++ T) := .push hb
  have hlt := hb.lt
  have hlen := pairsD_len a b
  have hle : a * b ≤ 100 * 100 := Nat.mul_le_mul h1 h2
  obtain ⟨l2, ys, S2, e2, g2, s2, d2, n2⟩ := state1 (A := some (.tup [.int a, .int b])) (B := some (.tup [.int a', .int b'])) (M := some (.int many)) (L := some (.ref l)) d1.bag g1 (by omega) (by omega)
  obtain ⟨l3, zs, S3, e3, g3, z3, s3, d3, n3⟩ := state2 (B := some (.tup [.int a', .int b'])) (M := some (.int many)) (L := some (.ref l)) h1 h2 h5 h6 d2.bag g2 n2 s2
  have hzl : zs.length ≤ 10000 := by
    have := s3.length_le
    omega
  obtain ⟨cs, S4, e4, a4, d4⟩ := cases_ok (A := some (.tup [.int a, .int b])) d3.bag g3 n3 hzl (fun x hx => s3.subset hx) h3 h4 hm hm2 hp (d3.get (d2.get (d1.get hl hln) hln) hln) hln
  have d5 : Drw n S4 (S4 ++ [.lst cs]) := .push d4.bag
  have d6 : Drw n (S4 ++ [.lst cs]) (S4 ++ [.lst cs] ++ [.lst [.int 0, .int 0, .int 0, .int 1, .int 2]]) := .push d5.bag
  have lt6 := d5.bag.lt
  obtain ⟨x, S7, e7, hx, d7, _⟩ := of_ok (l := (S4 ++ [Cell.lst cs]).length) d6.bag (xs := [.int 0, .int 0, .int 0, .int 1, .int 2]) (by simp) (by omega) (by simp) (by simp)
  have ltn := d4.bag.lt
  have gc : S7[S4.length]? = some (.lst cs) := (d6.trans d7).get (by simp) (by omega)
  obtain ⟨s, rfl, s0, s1⟩ : ∃ s : Int, x = .int s ∧ 0 ≤ s ∧ s ≤ 2 := by
    simp at hx
    rcases hx with rfl | rfl | rfl
    · exact ⟨0, rfl, by decide, by decide⟩
    · exact ⟨1, rfl, by decide, by decide⟩
    · exact ⟨2, rfl, by decide, by decide⟩
  refine ⟨.tup [.int s, .tup cs], S7, ?_, ⟨s, zs, cs, rfl, s0, s1, z3, s3, a4⟩, d1.trans (d2.trans (d3.trans (d4.trans (d5.trans (d6.trans d7)))))⟩
  rw [u_f__law_state, b_f__law_state]
  rw [sAll_ap, show sSet 5 (eCall f__law_pairs [(eLoc 1)]) [some (.ref n), some (.tup [.int a, .int b]), some (.tup [.int a', .int b']), some (.int many), some (.ref l), none, none, none, none, none] S = .nx [some (.ref n), some (.tup [.int a, .int b]), some (.tup [.int a', .int b']), some (.int many), some (.ref l), some (.ref l1), none, none, none, none] (S ++ T) by simp [e1]]
  dsimp only
  rw [sAll_ap, e2]
  dsimp only
  rw [sAll_ap, e3]
  dsimp only
  simp at e7
  simp [e4, e7, gc]
end Lw

end
section
set_option maxRecDepth 100000
set_option maxHeartbeats 1000000
set_option linter.all false
namespace Lw
open Lt
/-- states -/
def Sts (a b a' b' : Nat) (ds : List D) : Prop := 0 < ds.length ∧ ∀ d ∈ ds, St a b a' b' ds.length d
theorem drawn_ok {S : Sto} {n l : Nat} {a b a' b' most : Nat} {ps : List D} (hb : Bag S n) (h1 : a ≤ 100) (h2 : b ≤ 100) (h3 : a' ≤ 100) (h4 : b' ≤ 100) (h5 : 0 < a) (h6 : 0 < b) (hm : 0 < most) (hm2 : most ≤ 1000) (hp : Prices ps) (hl : S[l]? = some (.lst ps)) (hln : l ≠ n) :
    ∃ k ds S', f__law_drawn [.ref n, .tup [.int a, .int b], .tup [.int a', .int b'], .int most, .ref l] S = .ok (.tup [.tup [.int a, .int b], .tup [.int a', .int b'], .ref k]) S' ∧ S'[k]? = some (.lst ds) ∧ ds.length ≤ most ∧ Sts a b a' b' ds ∧ Drw n S S' ∧ k ≠ n ∧ S.length ≤ k := by
  obtain ⟨v, S1, ev, v0, v1, dv, _⟩ := draw_ok hb (many := most) (by omega) (by omega)
  obtain ⟨g, rfl⟩ := Int.eq_ofNat_of_zero_le v0
  obtain ⟨many, hmany⟩ : ∃ many : Nat, many = 1 + g := ⟨_, rfl⟩
  have hmi : (1 + (g : Int)) = (many : Int) := by omega
  obtain ⟨ds, S2, e2, h7, h8, h9⟩ := lcG_inv (it := itR 0 many) (g := gnN 7) (tt := bTrue) (body := lcB (eCall f__law_state [(eLoc 0), (eLoc 1), (eLoc 2), (eLoc 5), (eLoc 4)])) (η0 := wipeE [some (.ref n), some (.tup [.int a, .int b]), some (.tup [.int a', .int b']), some (.int most), some (.ref l), some (.int many), none, none] [7]) many
    (fun i acc S' => acc.length = i ∧ (∀ d ∈ acc, St a b a' b' many d) ∧ Drw n S1 S')
    (fun i acc S' hi ⟨q1, q2, q3⟩ => by
      obtain ⟨d, S3, e3, t3, d3⟩ := state_ok (many := many) q3.bag h1 h2 h3 h4 h5 h6 (by omega) (by omega) hp (q3.get (dv.get hl hln) hln) hln
      refine ⟨.int i, [some (.ref n), some (.tup [.int a, .int b]), some (.tup [.int a', .int b']), some (.int most), some (.ref l), some (.int many), none, some (.int i)], true, S', ?_, rfl, rfl, (fun z => by cases z), fun _ => ⟨acc ++ [d], S3, ?_, by simp [q1], ?_, q3.trans d3⟩⟩
      · rw [itR_at]
        simp [rngD, hi]
      · rw [lcB_ap]
        have : acc.length < szL := by unfold szL; omega
        simp [e3, this]
      · intro z hz
        rcases List.mem_append.mp hz with w | w
        · exact q2 z w
        · have w : z = d := by simpa using w
          rw [w]
          exact t3)
    (fun acc S' _ => by
      rw [itR_at]
      simp [rngD])
    FU 0 [] S1 (Nat.zero_le _) (FU_lt (by omega)) ⟨rfl, (fun d h => by cases h), .refl dv.bag⟩
  have d4 : Drw n S (S2 ++ [.lst ds]) := (dv.trans h9).trans (.push h9.bag)
  have lt2 := h9.bag.lt
  refine ⟨S2.length, ds, S2 ++ [.lst ds], ?_, by simp, by omega, ⟨by omega, by rw [h7]; exact h8⟩, d4, by omega, Nat.le_trans dv.len h9.len⟩
  rw [u_f__law_drawn, b_f__law_drawn]
  have er : iRange1 (eLoc 5) [some (.ref n), some (.tup [.int a, .int b]), some (.tup [.int a', .int b']), some (.int most), some (.ref l), some (.int many), none, none] S1 = .ok (itR 0 many) S1 := by
    simp
    rw [rng1_ap S1 (by omega) (by omega)]
    simp
  have el : lc1 (iRange1 (eLoc 5)) (gnN 7) bTrue (eCall f__law_state [(eLoc 0), (eLoc 1), (eLoc 2), (eLoc 5), (eLoc 4)]) [7] [some (.ref n), some (.tup [.int a, .int b]), some (.tup [.int a', .int b']), some (.int most), some (.ref l), some (.int many), none, none] S1 = .ok ds S2 := by
    unfold lc1
    rw [bnd_ap, er]
    exact e2
  simp [ev, hmi, el]
theorem prices0 : Prices [.int 0, .int 1, .int 0, .int 2, .int 7, .int 33, .int 99] := by
  refine ⟨by simp, by simp, fun d h => ?_⟩
  simp at h
  rcases h with rfl | rfl | rfl | rfl | rfl | rfl | rfl
  · exact ⟨0, rfl, by decide, by decide⟩
  · exact ⟨1, rfl, by decide, by decide⟩
  · exact ⟨0, rfl, by decide, by decide⟩
  · exact ⟨2, rfl, by decide, by decide⟩
  · exact ⟨7, rfl, by decide, by decide⟩
  · exact ⟨33, rfl, by decide, by decide⟩
  · exact ⟨99, rfl, by decide, by decide⟩
theorem revB_tup (S : Sto) (xs : List D) : revB (.tup xs) S = .ok (.tup xs.reverse) S := rfl
/-- a drawn house's parts -/
structure Plan (S : Sto) (d : D) (most : Nat) : Prop where
  ex : ∃ (a b a' b' k : Nat) (ds : List D), d = .tup [.tup [.int a, .int b], .tup [.int a', .int b'], .ref k] ∧ S[k]? = some (.lst ds) ∧ ds.length ≤ most ∧ Sts a b a' b' ds ∧ 0 < a ∧ a ≤ 4 ∧ 0 < b ∧ b ≤ 4 ∧ 0 < a' ∧ a' ≤ 4 ∧ 0 < b' ∧ b' ≤ 4
theorem wide_ok {S : Sto} {n : Nat} {most : Nat} (hb : Bag S n) (hm : 0 < most) (hm2 : most ≤ 1000) :
    ∃ (a b a' b' k : Nat) (ds : List D) (S' : Sto), f__law_wide [.ref n, .int most] S = .ok (.tup [.tup [.int a, .int b], .tup [.int a', .int b'], .ref k]) S' ∧ S'[k]? = some (.lst ds) ∧ ds.length ≤ most ∧ Sts a b a' b' ds ∧ Drw n S S' ∧ k ≠ n ∧ S.length ≤ k ∧
      0 < a ∧ a ≤ 4 ∧ 0 < b ∧ b ≤ 4 ∧ 0 < a' ∧ a' ≤ 4 ∧ 0 < b' ∧ b' ≤ 4 := by
  obtain ⟨v1, S1, e1, p1, q1, d1, _⟩ := draw_ok hb (many := 4) (by omega) (by omega)
  obtain ⟨v2, S2, e2, p2, q2, d2, _⟩ := draw_ok d1.bag (many := 3) (by omega) (by omega)
  obtain ⟨v3, S3, e3, p3, q3, d3, _⟩ := draw_ok d2.bag (many := 3) (by omega) (by omega)
  obtain ⟨v4, S4, e4, p4, q4, d4, _⟩ := draw_ok d3.bag (many := 4) (by omega) (by omega)
  obtain ⟨v5, S5, e5, p5, q5, d5, _⟩ := draw_ok d4.bag (many := 2) (by omega) (by omega)
  obtain ⟨g1, rfl⟩ := Int.eq_ofNat_of_zero_le p1
  obtain ⟨g2, rfl⟩ := Int.eq_ofNat_of_zero_le p2
  obtain ⟨g3, rfl⟩ := Int.eq_ofNat_of_zero_le p3
  obtain ⟨g4, rfl⟩ := Int.eq_ofNat_of_zero_le p4
  have dd : Drw n S S5 := d1.trans (d2.trans (d3.trans (d4.trans d5)))
  have d6 : Drw n S5 (S5 ++ [.lst [.int 0, .int 1, .int 0, .int 2, .int 7, .int 33, .int 99]]) := .push d5.bag
  have lt5 := d5.bag.lt
  have c1 : (1 + (g1 : Int)) = ((1 + g1 : Nat) : Int) := by omega
  have c2 : (1 + (g2 : Int)) = ((1 + g2 : Nat) : Int) := by omega
  have c3 : (1 + (g3 : Int)) = ((1 + g3 : Nat) : Int) := by omega
  have c4 : (1 + (g4 : Int)) = ((1 + g4 : Nat) : Int) := by omega
  by_cases hv : v5 = 0
  · obtain ⟨k, ds, S7, e7, g7, l7, s7, d7, n7, ge7⟩ := drawn_ok (l := S5.length) (a := 1 + g2) (b := 1 + g1) (a' := 1 + g4) (b' := 1 + g3) (most := most) d6.bag (by omega) (by omega) (by omega) (by omega) (by omega) (by omega) hm hm2 prices0 (by simp) (by omega)
    refine ⟨1 + g2, 1 + g1, 1 + g4, 1 + g3, k, ds, S7, ?_, g7, l7, s7, dd.trans (d6.trans d7), n7, ?_, by omega, by omega, by omega, by omega, by omega, by omega, by omega, by omega⟩
    · rw [u_f__law_wide, b_f__law_wide]
      rw [← c1, ← c2, ← c3, ← c4] at e7
      simp [e1, e2, e3, e4, e5, hv, revB_tup, e7]
    · exact Nat.le_trans (Nat.le_trans dd.len d6.len) ge7
  · obtain ⟨k, ds, S7, e7, g7, l7, s7, d7, n7, ge7⟩ := drawn_ok (l := S5.length) (a := 1 + g1) (b := 1 + g2) (a' := 1 + g3) (b' := 1 + g4) (most := most) d6.bag (by omega) (by omega) (by omega) (by omega) (by omega) (by omega) hm hm2 prices0 (by simp) (by omega)
    refine ⟨1 + g1, 1 + g2, 1 + g3, 1 + g4, k, ds, S7, ?_, g7, l7, s7, dd.trans (d6.trans d7), n7, ?_, by omega, by omega, by omega, by omega, by omega, by omega, by omega, by omega⟩
    · rw [u_f__law_wide, b_f__law_wide]
      rw [← c1, ← c2, ← c3, ← c4] at e7
      simp [e1, e2, e3, e4, e5, hv, revB_tup, e7]
    · exact Nat.le_trans (Nat.le_trans dd.len d6.len) ge7
end Lw

end
section
set_option maxRecDepth 100000
set_option maxHeartbeats 1000000
set_option linter.all false
namespace Lw
open Lt
theorem bag_loop {S : Sto} {m : Nat} {cells : List Int} {A : Option D} {mk0 : Int} (h : S[m]? = some (.lst (cells.map D.int))) (hz : cells.length ≤ 63) (h0 : 0 ≤ mk0) (h1 : mk0 < 2147483587) :
    ∃ mk x3, sFor (iEach (eLoc 1)) (gnN 3) (sAll [(sSet 2 (eBin .mod (eCall mInt [(eBin .add (eBin .add (eBin .mul (eLoc 2) (eC (.int 48673))) (eBin .mod (eCall mInt [(eLoc 3)]) (eC (.int 2147483171)))) (eC (.int 23)))]) (eC (.int 2147483587))))]) [A, some (.ref m), some (.int mk0), none] S = .nx [A, some (.ref m), some (.int mk), x3] S ∧ 0 ≤ mk ∧ mk < 2147483587 := by
  have hf : iEach (eLoc 1) [A, some (.ref m), some (.int mk0), none] S = .ok (itL m) S := by simp [h]
  obtain ⟨η', S', e, mk, x3, e1, e2, g0, g1⟩ := sFor_inv (g := gnN 3) (b := sAll [(sSet 2 (eBin .mod (eCall mInt [(eBin .add (eBin .add (eBin .mul (eLoc 2) (eC (.int 48673))) (eBin .mod (eCall mInt [(eLoc 3)]) (eC (.int 2147483171)))) (eC (.int 23)))]) (eC (.int 2147483587))))]) hf cells.length (Nat.le_trans hz (by decide))
    (fun i η S' => ∃ mk x3, η = [A, some (.ref m), some (.int mk), x3] ∧ S' = S ∧ 0 ≤ mk ∧ mk < 2147483587) (fun i η S' hi ⟨mk, x3, q1, q2, q3, q4⟩ => by
      have w : mulOk mk 48673 = true := mulOk_r (by decide) (by decide)
      refine ⟨.int cells[i], [A, some (.ref m), some (.int mk), some (.int cells[i])], [A, some (.ref m), some (.int ((mk * 48673 + cells[i] % 2147483171 + 23) % 2147483587)), some (.int cells[i])], S, ?_, ?_, ?_, _, some (.int cells[i]), rfl, rfl, Int.emod_nonneg _ (by decide), Int.emod_lt_of_pos _ (by decide)⟩
      · rw [q2, itL_at S (show lsO S[m]? = some (cells.map D.int) by rw [h]; rfl), List.getElem?_map, List.getElem?_eq_getElem hi]
        rfl
      · rw [q1]
        rfl
      · rw [q2]
        simp [w]) (fun η S' ⟨mk, x3, q1, q2, _⟩ => by
      rw [q2, itL_at S (show lsO S[m]? = some (cells.map D.int) by rw [h]; rfl), List.getElem?_eq_none (by simp)]) ⟨mk0, none, rfl, rfl, h0, h1⟩
  subst e1 e2
  exact ⟨mk, x3, e, g0, g1⟩
theorem bag_ok {S S1 : Sto} {m : Nat} {x : D} {cells : List Int} (hz : cells.length ≤ 63) (h1 : eCall mList [(eSl (eLoc 0) none (some (eC (.int 63))))] [some x, none, none, none] S = .ok (.ref m) S1) (h : S1[m]? = some (.lst (cells.map D.int))) :
    ∃ n S', f__law_bag [x] S = .ok (.ref n) S' ∧ Bag S' n := by
  obtain ⟨mk, x3, e, g0, g1⟩ := bag_loop (A := some x) (mk0 := 5614 + 37 * cells.length) h hz (by omega) (by omega)
  refine ⟨S1.length, S1 ++ [.lst [.ref m, .int 0, .int 0, .int mk]], ?_, m, cells, 0, 0, mk, by simp, ?_, by decide, g0, g1⟩
  · rw [u_f__law_bag, b_f__law_bag, b1_f__law_bag]
    have w : mulOk 37 cells.length = true := mulOk_r (by omega) (by omega)
    rw [sAll_ap, show sSet 1 (eCall mList [(eSl (eLoc 0) none (some (eC (.int 63))))]) [some x, none, none, none] S = .nx [some x, some (.ref m), none, none] S1 by rw [sSet_ap, sB_ap, h1]; rfl]
    dsimp only
    rw [sAll_ap, show sSet 2 (eBin .add (eC (.int 5614)) (eBin .mul (eC (.int 37)) (eCall mLen [(eLoc 1)]))) [some x, some (.ref m), none, none] S1 = .nx [some x, some (.ref m), some (.int (5614 + 37 * cells.length)), none] S1 by simp [h, w]]
    dsimp only
    rw [sAll_ap, e]
    simp
  · rw [List.getElem?_append_left (List.getElem?_eq_some_iff.mp h).1]
    exact h
theorem cut63 {cells : List Int} (hz : cells.length ≤ 63) : cutD (cells.map D.int) none (some 63) = cells.map D.int := by
  unfold cutD
  have a : ∀ k : Nat, HT.sIx k 0 none = 0 := fun k => rfl
  rw [a, List.drop_zero, Nat.sub_zero]
  refine List.take_of_length_le ?_
  rw [List.length_map]
  simp [HT.sIx]
  omega
theorem bag_fls {ns : List Int} (hz : ns.length ≤ 63) : ∃ n S', f__law_bag [.ref 0] [.fls (ns.map D.int)] = .ok (.ref n) S' ∧ Bag S' n := by
  refine bag_ok (m := 2) (S1 := [.fls (ns.map D.int), .lst (ns.map D.int), .lst (ns.map D.int)]) hz ?_ rfl
  have e : slB (.ref 0) none (some 63) [.fls (ns.map D.int)] = .ok (.ref 1) [.fls (ns.map D.int), .lst (ns.map D.int)] := by
    show bnd (lsAt 0) (fun xs => alc (Cell.lst (cutD xs none (some 63)))) [Cell.fls (ns.map D.int)] = _
    rw [bnd_ap, show lsAt 0 [Cell.fls (ns.map D.int)] = .ok (ns.map D.int) [Cell.fls (ns.map D.int)] from rfl]
    dsimp only
    rw [cut63 hz]
    rfl
  simp [e]
theorem bag_kls {ns : List Int} (hz : ns.length ≤ 63) : ∃ n S', f__law_bag [.kls (ns.map D.int)] [] = .ok (.ref n) S' ∧ Bag S' n := by
  refine bag_ok (m := 1) (S1 := [.lst (ns.map D.int), .lst (ns.map D.int)]) hz ?_ rfl
  have e : slB (.kls (ns.map D.int)) none (some 63) [] = .ok (.ref 0) [.lst (ns.map D.int)] := by
    unfold slB
    dsimp only
    rw [cut63 hz]
    rfl
  simp [e]
end Lw

end
section
set_option maxRecDepth 100000
set_option maxHeartbeats 1000000
set_option linter.all false
namespace Lw
open Lt
open PySem (Heap)
theorem is_number_int (i : Int) (S : Sto) : f_is_number [.int i] S = .ok (.bl true) S := by
  rw [u_f_is_number]
  simp [b_f_is_number, subTy]
theorem is_within_int (i a b : Int) (S : Sto) : f_is_within [.int i, .int a, .int b] S = .ok (.bl (decide (a ≤ i) && decide (i ≤ b))) S := by
  rw [u_f_is_within]
  simp [b_f_is_within, is_number_int]
  cases h : decide (a ≤ i) <;> simp
theorem within_tt {i a b : Int} (h1 : a ≤ i) (h2 : i ≤ b) (S : Sto) : f_is_within [.int i, .int a, .int b] S = .ok (.bl true) S := by
  rw [is_within_int, decide_eq_true h1, decide_eq_true h2]
  rfl
theorem is_listed_ref (n : Nat) (xs : List D) (S : Sto) (h : S[n]? = some (.lst xs)) : f_is_listed [.ref n] S = .ok (.bl true) S := by
  rw [u_f_is_listed]
  simp [b_f_is_listed, isiT, tyOfD_lst S h]
  rfl
theorem lAll_tt (xs : List D) (S : Sto) : lAll (xs.map fun _ => D.bl true) S = .ok (.bl true) S := by
  have e : (xs.map fun _ => D.bl true) = (xs.map fun _ => true).map D.bl := by simp
  rw [e, lAll_bl]
  simp
theorem pair_within {x y a b : Int} (h1 : a ≤ x) (h2 : x ≤ b) (h3 : a ≤ y) (h4 : y ≤ b) (S : Sto) : f_is_pair_within [.tup [.int x, .int y], .int a, .int b] S = .ok (.bl true) S := by
  rw [u_f_is_pair_within]
  have e := lc1_map (g := gnN 3) (f := iEach (eLoc 0)) (te := eCall f_is_within [(eLoc 3), (eLoc 1), (eLoc 2)]) (vs := [3]) (η := [some (.tup [.int x, .int y]), some (.int a), some (.int b), none]) (S := S) (it := itT [.int x, .int y]) [.int x, .int y] (fun _ => .bl true) (by simp) (fun i _ => itT_at S _ i) (show 2 ≤ szL by decide) (fun d hd => ⟨[some (.tup [.int x, .int y]), some (.int a), some (.int b), some d], rfl, by
    simp at hd
    rcases hd with rfl | rfl
    · simp [within_tt h1 h2]
    · simp [within_tt h3 h4]⟩)
  have l := lAll_tt [.int x, .int y] S
  simp only [List.map_cons, List.map_nil] at e l
  simp [b_f_is_pair_within, subTy, e, l]
theorem oc_step {many : Nat} {o : D} (h : Oc many o) (A L B T : Option D) (S : Sto) :
    sAll [(sIf (bOr [(bNot (bV (eCall (mIsi IC) [(eLoc 5), (eC (.ty .tuple))]))), (bCmp .ne (eCall mLen [(eLoc 5)]) (eC (.int 2)))]) (sAll [(sRet (eC (.bl false)))]) (sAll [])), (sIf (bOr [(bNot (bV (eCall f_is_within [(eIx (eLoc 5) (eC (.int 0))), (eC (.int 0)), (eBin .sub (eLoc 3) (eC (.int 1)))]))), (bNot (bV (eCall f_is_within [(eIx (eLoc 5) (eC (.int 1))), (eC (.int 0)), (eC (.int 99))])))]) (sAll [(sRet (eC (.bl false)))]) (sAll []))]
      [A, L, B, some (.int many), T, some o] S = .nx [A, L, B, some (.int many), T, some o] S := by
  obtain ⟨g, p, rfl, hg, p0, p1⟩ := h
  have w : f_is_within [.int g, .int 0, .int ((many : Int) - 1)] S = .ok (.bl true) S := within_tt (by omega) (by omega) S
  simp [subTy, w, within_tt p0 p1]
theorem case_ok {a b a' b' many : Nat} {d p : D} (h : Cs a' b' many p d) (hp : p ∈ pairsD a b) (h3 : a' ≤ 100) (h4 : b' ≤ 100) (S : Sto) : f_is_case [d, .tup [.int a, .int b], .tup [.int a', .int b'], .int many] S = .ok (.bl true) S := by
  obtain ⟨x, y, os, rfl, rfl, hl, ho⟩ := h
  obtain ⟨x', y', e, hx, hy⟩ := mem_pairs hp
  cases e
  have hle : a' * b' ≤ 100 * 100 := Nat.mul_le_mul h3 h4
  have w1 : f_is_within [.int x, .int 0, .int ((a : Int) - 1)] S = .ok (.bl true) S := within_tt (by omega) (by omega) S
  have w2 : f_is_within [.int y, .int 0, .int ((b : Int) - 1)] S = .ok (.bl true) S := within_tt (by omega) (by omega) S
  have m : mulOk (a' : Int) (b' : Int) = true := mulOk_r (by omega) (by omega)
  have hl' : (os.length : Int) = (a' : Int) * (b' : Int) := by rw [hl]; exact Int.natCast_mul ..
  rw [u_f_is_case, b_f_is_case, b1_f_is_case]
  obtain ⟨η', S', e, z, r1, r2⟩ := sFor_inv (f := iEach (eLoc 4)) (g := gnN 5) (b := sAll [(sIf (bOr [(bNot (bV (eCall (mIsi IC) [(eLoc 5), (eC (.ty .tuple))]))), (bCmp .ne (eCall mLen [(eLoc 5)]) (eC (.int 2)))]) (sAll [(sRet (eC (.bl false)))]) (sAll [])), (sIf (bOr [(bNot (bV (eCall f_is_within [(eIx (eLoc 5) (eC (.int 0))), (eC (.int 0)), (eBin .sub (eLoc 3) (eC (.int 1)))]))), (bNot (bV (eCall f_is_within [(eIx (eLoc 5) (eC (.int 1))), (eC (.int 0)), (eC (.int 99))])))]) (sAll [(sRet (eC (.bl false)))]) (sAll []))])
    (it := itT os) (η := [some (.tup [.int x, .int y, .tup os]), some (.tup [.int a, .int b]), some (.tup [.int a', .int b']), some (.int many), some (.tup os), none]) (S := S) (S0 := S) (by simp) os.length (by unfold szL; omega)
    (fun i η S' => ∃ z, η = [some (.tup [.int x, .int y, .tup os]), some (.tup [.int a, .int b]), some (.tup [.int a', .int b']), some (.int many), some (.tup os), z] ∧ S' = S)
    (fun i η S' hi ⟨z, q1, q2⟩ => ⟨os[i], [some (.tup [.int x, .int y, .tup os]), some (.tup [.int a, .int b]), some (.tup [.int a', .int b']), some (.int many), some (.tup os), some os[i]], _, S', by rw [itT_at, List.getElem?_eq_getElem hi], by rw [q1]; rfl, oc_step (ho _ (List.getElem_mem hi)) _ _ _ _ S', some os[i], rfl, q2⟩)
    (fun η S' _ => by rw [itT_at, List.getElem?_eq_none (Nat.le_refl _)]) ⟨none, rfl, rfl⟩
  subst r1 r2
  simp [subTy, w1, w2, m, hl', e]
end Lw

end
section
set_option maxRecDepth 100000
set_option maxHeartbeats 1000000
set_option linter.all false
namespace Lw
open Lt
open PySem (PyData)
theorem pair_data (x y : Int) (S : Sto) : dataOf (.tup [.int x, .int y]) S = .ok (.tuple [.int x, .int y]) S := rfl
theorem pair_dataLt {x y x' y' : Int} (h : x < x' ∨ (x = x' ∧ y < y')) : PySem.W.dataLt (.tuple [.int x, .int y]) (.tuple [.int x', .int y']) = true := by
  unfold PySem.W.dataLt
  simp only [PySem.W.keyToks, PySem.W.keyToksAll, List.cons_append, List.nil_append]
  have pre : ∀ (p : Int ⊕ List Nat) a b, PyProof.Rows.lexLt PyProof.Rows.itemOrd (p :: a) (p :: b) = PyProof.Rows.lexLt PyProof.Rows.itemOrd a b := fun p a b => PySem.W.lex_pre [p] a b
  rcases h with h | ⟨rfl, h⟩
  · rw [pre, PySem.W.lex_atom (by intro z; cases z; omega), PySem.W.lex_one]
    exact decide_eq_true h
  · rw [pre, pre, pre, PySem.W.lex_atom (by intro z; cases z; omega), PySem.W.lex_one]
    exact decide_eq_true h
theorem pair_lt {x y x' y' : Int} (h : x < x' ∨ (x = x' ∧ y < y')) (S : Sto) : cmB .lt (.tup [.int x, .int y]) (.tup [.int x', .int y']) S = .ok true S := by
  show ltD _ _ S = _
  unfold ltD
  rw [bnd_ap, pair_data]
  dsimp only
  rw [bnd_ap, pair_data]
  dsimp only
  rw [pair_dataLt h, show (PySem.W.alike (.tuple [.int x, .int y]) (.tuple [.int x', .int y']) && !PyData.eqv (.tuple [.int x, .int y]) .none) = true by simp [PySem.W.alike, PySem.W.alikeAll, PyData.eqv], grd_tt]
  rfl
end Lw

end
section
set_option maxRecDepth 100000
set_option maxHeartbeats 1000000
set_option linter.all false
namespace Lw
open Lt
def Lt2 (d e : D) : Prop := ∃ x y x' y' : Int, d = .tup [.int x, .int y] ∧ e = .tup [.int x', .int y'] ∧ (x < x' ∨ (x = x' ∧ y < y'))
theorem pairs_sorted (a b : Nat) : (pairsD a b).Pairwise Lt2 := by
  unfold pairsD
  rw [List.pairwise_flatMap]
  refine ⟨fun i _ => ?_, ?_⟩
  · rw [List.pairwise_map]
    refine List.Pairwise.imp ?_ List.pairwise_lt_range
    intro j k h
    exact ⟨i, j, i, k, rfl, rfl, .inr ⟨rfl, by omega⟩⟩
  · refine List.Pairwise.imp ?_ List.pairwise_lt_range
    intro i k h d hd e he
    rw [List.mem_map] at hd he
    obtain ⟨j, _, rfl⟩ := hd
    obtain ⟨j', _, rfl⟩ := he
    exact ⟨i, j, k, j', rfl, rfl, .inl (by omega)⟩
end Lw

end
section
set_option maxRecDepth 100000
set_option maxHeartbeats 1000000
set_option linter.all false
namespace Lw
open Lt
def zipD (xs ys : List D) : List D := List.zipWith (fun x y => .tup [x, y]) xs ys
theorem zipD_at (xs ys : List D) (i : Nat) : pairD xs[i]? ys[i]? = (zipD xs ys)[i]? := by
  unfold zipD
  rw [List.getElem?_zipWith]
  cases xs[i]? <;> cases ys[i]? <;> rfl
theorem zipD_mem {xs : List D} (h : xs.Pairwise Lt2) {z : D} (hz : z ∈ zipD xs (xs.drop 1)) : ∃ d e, z = .tup [d, e] ∧ Lt2 d e := by
  obtain ⟨i, hi⟩ := List.mem_iff_getElem?.mp hz
  rw [← zipD_at, List.getElem?_drop] at hi
  by_cases h1 : 1 + i < xs.length
  · have h0 : i < xs.length := by omega
    rw [List.getElem?_eq_getElem h0, List.getElem?_eq_getElem h1] at hi
    cases hi
    exact ⟨_, _, rfl, List.pairwise_iff_getElem.mp h i (1 + i) h0 h1 (by omega)⟩
  · rw [List.getElem?_eq_none (i := 1 + i) (by omega)] at hi
    cases h2 : xs[i]? <;> rw [h2] at hi <;> cases hi
theorem cut1 (xs : List D) : cutD xs (some 1) none = xs.drop 1 := by
  unfold cutD
  have a : HT.sIx xs.length 0 (some 1) = min 1 xs.length := rfl
  have b : HT.sIx xs.length xs.length none = xs.length := rfl
  rw [a, b]
  cases xs with
  | nil => rfl
  | cons x xs =>
    have : min 1 (x :: xs).length = 1 := by simp
    rw [this]
    simp
theorem rising_ok {S : Sto} {l : Nat} {xs : List D} (h : S[l]? = some (.lst xs)) (hs : xs.Pairwise Lt2) (hz : xs.length ≤ 10000) : f_rising [.ref l] S = .ok (.bl true) (S ++ [.lst (xs.drop 1)]) := by
  have g1 : (S ++ [Cell.lst (xs.drop 1)])[l]? = some (.lst xs) := by rw [List.getElem?_append_left (List.getElem?_eq_some_iff.mp h).1]; exact h
  have g2 : (S ++ [Cell.lst (xs.drop 1)])[S.length]? = some (.lst (xs.drop 1)) := by simp
  have es : slB (.ref l) (some 1) none S = .ok (.ref S.length) (S ++ [.lst (xs.drop 1)]) := by
    show bnd (lsAt l) (fun xs => alc (Cell.lst (cutD xs (some 1) none))) S = _
    rw [bnd_ap, lsAt_ap, h]
    dsimp only [lsO]
    rw [cut1]
    rfl
  have hf : iZipE (eLoc 0) (eSl (eLoc 0) (some (eC (.int 1))) none) [some (.ref l), none, none] S = .ok (itZ l S.length) (S ++ [.lst (xs.drop 1)]) := by
    have ez : zp (.ref l) (.ref S.length) (S ++ [Cell.lst (xs.drop 1)]) = .ok (itZ l S.length) (S ++ [.lst (xs.drop 1)]) := by
      show bnd (lsAt l) (fun _ => bnd (lsAt S.length) fun _ => ret (itZ l S.length)) _ = _
      rw [bnd_ap, lsAt_ap, g1]
      dsimp only [lsO]
      rw [bnd_ap, lsAt_ap, g2]
      rfl
    simp only [iZipE_ap, bnd_ap, eLoc_ap, List.getElem?_cons_zero, ret_ap, eSl_ap, pO_some, pO_none, eC_ap, es]
    exact ez
  have hit : ∀ i, itZ l S.length i (S ++ [Cell.lst (xs.drop 1)]) = some (zipD xs (xs.drop 1))[i]? := fun i => by
    unfold itZ
    rw [g1, g2]
    dsimp only [lsO]
    rw [zipD_at]
  have lz : (zipD xs (xs.drop 1)).length ≤ szL := by
    unfold zipD szL
    rw [List.length_zipWith]
    omega
  have e : lc1 (iZipE (eLoc 0) (eSl (eLoc 0) (some (eC (.int 1))) none)) (gnT [(gnN 1), (gnN 2)]) bTrue (eCmp .lt (eLoc 1) (eLoc 2)) [1, 2] [some (.ref l), none, none] S = .ok ((zipD xs (xs.drop 1)).map fun _ => .bl true) (S ++ [.lst (xs.drop 1)]) := by
    unfold lc1
    rw [bnd_ap, hf]
    have := lcG_pure (η0 := wipeE [some (.ref l), none, none] [1, 2]) (te := eCmp .lt (eLoc 1) (eLoc 2)) (tt := bTrue) (g := gnT [(gnN 1), (gnN 2)]) (S := S ++ [Cell.lst (xs.drop 1)]) (it := itZ l S.length) (zipD xs (xs.drop 1)) (fun _ => .bl true) (fun _ => true) (fun i _ => hit i) (fun z hzm => by
      obtain ⟨d, e, rfl, hl⟩ := zipD_mem hs hzm
      refine ⟨[some (.ref l), some d, some e], rfl, rfl, fun _ => ?_⟩
      obtain ⟨x, y, x', y', rfl, rfl, q⟩ := hl
      simp [pair_lt q]) FU 0 [] (Nat.zero_le _) (FU_lt (by unfold szL at lz; omega)) (by simpa using lz)
    rw [List.filter_eq_self.mpr (by simp)] at this
    simpa using this
  rw [u_f_rising, b_f_rising]
  simp only [sAll_one, sRet_ap, sB_ap, eOnL_ap, bnd_ap, e, lAll_tt]
  rfl
end Lw

end
section
set_option maxRecDepth 100000
set_option maxHeartbeats 1000000
set_option linter.all false
namespace Lw
open Lt
open PySem (PyData)
theorem All2.mem {P : D → D → Prop} {xs ys : List D} (h : All2 P xs ys) : ∀ y ∈ ys, ∃ x ∈ xs, P x y := by
  induction h with
  | nil => intro y hy; cases hy
  | snoc _ p ih =>
    intro y hy
    rcases List.mem_append.mp hy with z | z
    · obtain ⟨x, hx, q⟩ := ih y z
      exact ⟨x, List.mem_append_left _ hx, q⟩
    · have z := List.mem_singleton.mp z
      rw [z]
      exact ⟨_, List.mem_append_right _ (List.mem_singleton.mpr rfl), p⟩
theorem All2.map {P : D → D → Prop} {F : D → D} {xs ys : List D} (h : All2 P xs ys) (hF : ∀ x y, P x y → F y = x) : ys.map F = xs := by
  induction h with
  | nil => rfl
  | snoc _ p ih => rw [List.map_append, ih, List.map_cons, List.map_nil, hF _ _ p]
/-- data of a case -/
def csP : D → PyData
  | .tup [.int x, .int y, .tup os] => .tuple [.int x, .int y, .tuple (os.map ppD)]
  | _ => .none
theorem oc_prs {many : Nat} {os : List D} (h : ∀ o ∈ os, Oc many o) : Prs os := fun d hd => by
  obtain ⟨g, p, e, _⟩ := h d hd
  exact ⟨g, p, e⟩
theorem cs_toP {a b many : Nat} {p d : D} (h : Cs a b many p d) (n : Nat) (S : Sto) : toP (n + 4) S d = some (csP d) ∧ (csP d).canLay0 = true ∧ (csP d).depth ≤ 4 := by
  obtain ⟨x, y, os, rfl, rfl, _, ho⟩ := h
  have hp := oc_prs ho
  have c := pp_can hp
  refine ⟨?_, by simp [csP, PyData.canLay0, PyData.canLayAll0, c.1], by
    have := c.2
    simp [csP, PyData.depth, PyData.depthAll]
    omega⟩
  have e : optMap (toP (n + 2) S) os = some (os.map ppD) := optMap_mem fun d hd => by
    obtain ⟨x, y, rfl⟩ := hp d hd
    rfl
  simp [toP, optMap, e, csP]
theorem cs_all {a b many : Nat} {ps cs : List D} (h : All2 (Cs a b many) ps cs) : PyData.canLayAll0 (cs.map csP) = true ∧ PyData.depthAll (cs.map csP) ≤ 5 := by
  have : ∀ c ∈ cs, (csP c).canLay0 = true ∧ (csP c).depth ≤ 4 := fun c hc => by
    obtain ⟨p, _, q⟩ := h.mem c hc
    exact (cs_toP q 0 []).2
  clear h
  induction cs with
  | nil => exact ⟨rfl, by simp [PyData.depthAll]⟩
  | cons c cs ih =>
    have i := ih fun d hd => this d (List.mem_cons_of_mem _ hd)
    have j := this c (List.mem_cons_self ..)
    refine ⟨by simp [PyData.canLayAll0, i.1, j.1], ?_⟩
    have := i.2
    have := j.2
    simp [PyData.depthAll]
    omega
theorem cs_data {a b many : Nat} {ps cs : List D} (h : All2 (Cs a b many) ps cs) (S : Sto) : dataOf (.tup cs) S = .ok (.tuple (cs.map csP)) S := by
  have e : toP 64 S (.tup cs) = some (.tuple (cs.map csP)) := by
    show (match optMap (toP 63 S) cs with
      | some ps => some (PyData.tuple ps)
      | none => none) = _
    rw [optMap_mem (g := csP) fun d hd => by
      obtain ⟨p, _, q⟩ := h.mem d hd
      exact (cs_toP q 59 S).1]
  have s : PySem.SeqAt.shaped (.tuple (cs.map csP)) = true := by
    have := cs_all h
    simp [PySem.SeqAt.shaped, PyData.canLay0, PyData.depth, this.1]
    omega
  unfold dataOf
  rw [e]
  dsimp only
  rw [s]
/-- no empty tuple of cases -/
theorem cs_ne {a b many : Nat} {ps cs : List D} (h : All2 (Cs a b many) ps cs) (h0 : ps ≠ []) (S : Sto) : eqD (.tup cs) (.tup []) S = .ok false S := by
  unfold eqD
  rw [bnd_ap, cs_data h]
  dsimp only
  rw [bnd_ap, show dataOf (.tup []) S = .ok (.tuple []) S from rfl]
  dsimp only
  rw [ret_ap]
  cases cs with
  | nil =>
    have := h.len
    exact absurd (List.length_eq_zero_iff.mp (by simpa using this)) h0
  | cons c cs => simp [PyData.eqv, PyData.eqvAll]
end Lw

end
section
set_option maxRecDepth 100000
set_option maxHeartbeats 1000000
set_option linter.all false
namespace Lw
open Lt
theorem cut2 (x y z : D) (S : Sto) : slB (.tup [x, y, z]) none (some 2) S = .ok (.tup [x, y]) S := rfl
def hdD : D → D
  | .tup (x :: y :: _) => .tup [x, y]
  | d => d
theorem hd_map {a b many : Nat} {ps cs : List D} (h : All2 (Cs a b many) ps cs) : cs.map hdD = ps := h.map fun p d q => by
  obtain ⟨x, y, os, rfl, rfl, _⟩ := q
  rfl
theorem state_is {a b a' b' many : Nat} {d : D} (h : St a b a' b' many d) (h1 : a ≤ 100) (h2 : b ≤ 100) (h3 : a' ≤ 100) (h4 : b' ≤ 100) (S : Sto) : ∃ T, f_is_state [d, .tup [.int a, .int b], .tup [.int a', .int b'], .int many] S = .ok (.bl true) (S ++ T) := by
  obtain ⟨s, ps, cs, rfl, s0, s1, z, sub, al⟩ := h
  have hle : a * b ≤ 100 * 100 := Nat.mul_le_mul h1 h2
  have hlen := pairsD_len a b
  have hpl := sub.length_le
  have hcl := al.len
  have w : f_is_within [.int s, .int 0, .int 8] S = .ok (.bl true) S := within_tt s0 (by omega) S
  have ne := cs_ne al z S
  have hz : cs.length ≤ szL := by unfold szL; omega
  have c1 := lc1_map (g := gnN 5) (f := iEach (eLoc 4)) (te := eCall f_is_case [(eLoc 5), (eLoc 1), (eLoc 2), (eLoc 3)]) (vs := [5]) (η := [some (.tup [.int s, .tup cs]), some (.tup [.int a, .int b]), some (.tup [.int a', .int b']), some (.int many), some (.tup cs), none]) (S := S) (it := itT cs) cs (fun _ => .bl true) (by simp) (fun i _ => itT_at S _ i) hz (fun c hc => ⟨[some (.tup [.int s, .tup cs]), some (.tup [.int a, .int b]), some (.tup [.int a', .int b']), some (.int many), some (.tup cs), some c], rfl, by
    obtain ⟨p, hp, q⟩ := al.mem c hc
    simp [case_ok q (sub.subset hp) h3 h4 S]⟩)
  have c2 := lc1_map (g := gnN 5) (f := iEach (eLoc 4)) (te := eSl (eLoc 5) none (some (eC (.int 2)))) (vs := [5]) (η := [some (.tup [.int s, .tup cs]), some (.tup [.int a, .int b]), some (.tup [.int a', .int b']), some (.int many), some (.tup cs), none]) (S := S) (it := itT cs) cs hdD (by simp) (fun i _ => itT_at S _ i) hz (fun c hc => ⟨[some (.tup [.int s, .tup cs]), some (.tup [.int a, .int b]), some (.tup [.int a', .int b']), some (.int many), some (.tup cs), some c], rfl, by
    obtain ⟨p, hp, x, y, os, rfl, rfl, _⟩ := al.mem c hc
    simp [cut2, hdD]⟩)
  rw [hd_map al] at c2
  have r := rising_ok (S := S ++ [.lst ps]) (l := S.length) (xs := ps) (by simp) ((pairs_sorted a b).sublist sub) (by omega)
  have l := lAll_tt cs S
  refine ⟨[.lst ps, .lst (ps.drop 1)], ?_⟩
  rw [u_f_is_state, b_f_is_state]
  simp only [List.append_assoc, List.cons_append, List.nil_append] at r
  simp at c1 c2 l r
  simp [subTy, w, ne, c1, c2, l, r]
end Lw

end
section
set_option maxRecDepth 100000
set_option maxHeartbeats 1000000
set_option linter.all false
namespace Lw
open Lt
theorem init1 {a b a' b' : Nat} (h0 : 0 < a) (h1 : a ≤ 4) (h2 : 0 < b) (h3 : b ≤ 4) (k0 : 0 < a') (k1 : a' ≤ 4) (k2 : 0 < b') (k3 : b' ≤ 4) (O L : Option D) (S : Sto) :
    ∃ z, sFor (iEach (eTup [(eLoc 1), (eLoc 2)])) (gnN 4) (sAll [(sIf (bNot (bV (eCall f_is_pair_within [(eLoc 4), (eC (.int 1)), (eC (.int 4))]))) (sAll [(sRz 24 1 (xIt [(10, .arg 0), (9, .str "InvalidHouse")]) [(eC .non)])]) (sAll []))]) [O, some (.tup [.int a, .int b]), some (.tup [.int a', .int b']), L, none, none, none] S
      = .nx [O, some (.tup [.int a, .int b]), some (.tup [.int a', .int b']), L, z, none, none] S := by
  obtain ⟨η', S', e, z, r1, r2⟩ := sFor_inv (f := iEach (eTup [(eLoc 1), (eLoc 2)])) (g := gnN 4) (b := sAll [(sIf (bNot (bV (eCall f_is_pair_within [(eLoc 4), (eC (.int 1)), (eC (.int 4))]))) (sAll [(sRz 24 1 (xIt [(10, .arg 0), (9, .str "InvalidHouse")]) [(eC .non)])]) (sAll []))])
    (it := itT [.tup [.int a, .int b], .tup [.int a', .int b']]) (η := [O, some (.tup [.int a, .int b]), some (.tup [.int a', .int b']), L, none, none, none]) (S := S) (S0 := S) (by simp) 2 (by decide)
    (fun i η S' => ∃ z, η = [O, some (.tup [.int a, .int b]), some (.tup [.int a', .int b']), L, z, none, none] ∧ S' = S)
    (fun i η S' hi ⟨z, q1, q2⟩ => by
      have p1 : f_is_pair_within [.tup [.int a, .int b], .int 1, .int 4] S' = .ok (.bl true) S' := pair_within (by omega) (by omega) (by omega) (by omega) S'
      have p2 : f_is_pair_within [.tup [.int a', .int b'], .int 1, .int 4] S' = .ok (.bl true) S' := pair_within (by omega) (by omega) (by omega) (by omega) S'
      rcases (by omega : i = 0 ∨ i = 1) with rfl | rfl
      · exact ⟨.tup [.int a, .int b], [O, some (.tup [.int a, .int b]), some (.tup [.int a', .int b']), L, some (.tup [.int a, .int b]), none, none], _, S', rfl, by rw [q1]; rfl, by simp [p1]; rfl, _, rfl, q2⟩
      · exact ⟨.tup [.int a', .int b'], [O, some (.tup [.int a, .int b]), some (.tup [.int a', .int b']), L, some (.tup [.int a', .int b']), none, none], _, S', rfl, by rw [q1]; rfl, by simp [p2]; rfl, _, rfl, q2⟩)
    (fun η S' _ => rfl) ⟨none, rfl, rfl⟩
  subst r1 r2
  exact ⟨z, e⟩
end Lw

end
section
set_option maxRecDepth 100000
set_option maxHeartbeats 1000000
set_option linter.all false
namespace Lw
open Lt
theorem itE_at {S : Sto} {n : Nat} {xs : List D} (h : S[n]? = some (.lst xs)) {i : Nat} (hi : i < xs.length) : itE n i S = some (some (.tup [.int i, xs[i]])) := by
  unfold itE
  rw [h]
  simp [hi]
theorem itE_end {S : Sto} {n : Nat} {xs : List D} (h : S[n]? = some (.lst xs)) : itE n xs.length S = some none := by
  unfold itE
  rw [h]
  simp
theorem init2 {a b a' b' l : Nat} {ds : List D} (h1 : a ≤ 4) (h3 : b ≤ 4) (k1 : a' ≤ 4) (k3 : b' ≤ 4) (O z : Option D) {S : Sto} (h : S[l]? = some (.lst ds)) (hd : Sts a b a' b' ds) (hz : ds.length ≤ 16) :
    ∃ i x T, sFor (iEnumE (eLoc 3)) (gnT [(gnN 5), (gnN 6)]) (sAll [(sIf (bNot (bV (eCall f_is_state [(eLoc 6), (eLoc 1), (eLoc 2), (eCall mLen [(eLoc 3)])]))) (sAll [(sRz 24 1 (xIt [(10, .arg 0), (9, .str "InvalidHouse")]) [(eLoc 5)])]) (sAll []))]) [O, some (.tup [.int a, .int b]), some (.tup [.int a', .int b']), some (.ref l), z, none, none] S
      = .nx [O, some (.tup [.int a, .int b]), some (.tup [.int a', .int b']), some (.ref l), z, i, x] (S ++ T) := by
  obtain ⟨η', S', e, i, x, T, r1, r2⟩ := sFor_inv (f := iEnumE (eLoc 3)) (g := gnT [(gnN 5), (gnN 6)]) (b := sAll [(sIf (bNot (bV (eCall f_is_state [(eLoc 6), (eLoc 1), (eLoc 2), (eCall mLen [(eLoc 3)])]))) (sAll [(sRz 24 1 (xIt [(10, .arg 0), (9, .str "InvalidHouse")]) [(eLoc 5)])]) (sAll []))])
    (it := itE l) (η := [O, some (.tup [.int a, .int b]), some (.tup [.int a', .int b']), some (.ref l), z, none, none]) (S := S) (S0 := S) (by simp [enm, h]) ds.length (by unfold szL; omega)
    (fun i η S' => ∃ i x T, η = [O, some (.tup [.int a, .int b]), some (.tup [.int a', .int b']), some (.ref l), z, i, x] ∧ S' = S ++ T)
    (fun i η S' hi ⟨j, x, T, q1, q2⟩ => by
      have g : S'[l]? = some (.lst ds) := by rw [q2, List.getElem?_append_left (List.getElem?_eq_some_iff.mp h).1]; exact h
      obtain ⟨U, es⟩ := state_is (hd.2 ds[i] (List.getElem_mem hi)) (by omega) (by omega) (by omega) (by omega) S'
      refine ⟨.tup [.int i, ds[i]], [O, some (.tup [.int a, .int b]), some (.tup [.int a', .int b']), some (.ref l), z, some (.int i), some ds[i]], _, S' ++ U, itE_at g hi, by rw [q1]; rfl, ?_, some (.int i), some ds[i], T ++ U, rfl, by rw [q2, List.append_assoc]⟩
      simp [g, es])
    (fun η S' ⟨j, x, T, q1, q2⟩ => itE_end (by rw [q2, List.getElem?_append_left (List.getElem?_eq_some_iff.mp h).1]; exact h)) ⟨none, none, [], rfl, by simp⟩
  subst r1 r2
  exact ⟨i, x, T, e⟩
end Lw

end
section
set_option maxRecDepth 100000
set_option maxHeartbeats 1000000
set_option linter.all false
namespace Lw
open Lt
theorem stFld_at {S : Sto} {n c a : Nat} {gs : List (Nat × D)} {d : D} (h : S[n]? = some (.ins c gs)) (hl : gs.length < 1000) : stFld [c] a (.ref n) d S = .ok () (S.set n (.ins c (putD a d gs))) := by
  show bnd (lod n) (fun z => match z with
    | .ins c' gs => grd ([c].contains c' && decide (gs.length < 1000)) (sto n (.ins c' (putD a d gs)))
    | _ => no) S = _
  rw [bnd_ap, lod_ap, h]
  dsimp only
  rw [show ([c].contains c && decide (gs.length < 1000)) = true by simp [hl], grd_tt]
  rfl
/-- a house at o -/
def Hse (S : Sto) (o : Nat) (A B : D) (ds : List D) : Prop := S[o]? = some (.ins 18 [(0, A), (1, B), (2, .tup ds)])
theorem house_ok {a b a' b' l : Nat} {ds : List D} {S : Sto} (h0 : 0 < a) (h1 : a ≤ 4) (h2 : 0 < b) (h3 : b ≤ 4) (k0 : 0 < a') (k1 : a' ≤ 4) (k2 : 0 < b') (k3 : b' ≤ 4) (h : S[l]? = some (.lst ds)) (hd : Sts a b a' b' ds) (hz : ds.length ≤ 16) :
    ∃ T, mkN 18 m_House___init__ [.tup [.int a, .int b], .tup [.int a', .int b'], .ref l] S = .ok (.ref S.length) (S ++ T) ∧ Hse (S ++ T) S.length (.tup [.int a, .int b]) (.tup [.int a', .int b']) ds := by
  have hl := (List.getElem?_eq_some_iff.mp h).1
  obtain ⟨S1, hS1⟩ : ∃ S1, S1 = S ++ [Cell.ins 18 []] := ⟨_, rfl⟩
  have g1 : S1[l]? = some (.lst ds) := by rw [hS1, List.getElem?_append_left hl]; exact h
  obtain ⟨z, e1⟩ := init1 h0 h1 h2 h3 k0 k1 k2 k3 (some (.ref S.length)) (some (.ref l)) S1
  obtain ⟨i, x, T, e2⟩ := init2 h1 h3 k1 k3 (some (.ref S.length)) z g1 hd hz
  have lst := is_listed_ref l ds S1 g1
  have c1 : (1 : Int) ≤ ds.length := by have := hd.1; omega
  have c2 : (ds.length : Int) ≤ 16 := by omega
  refine ⟨[.ins 18 [(0, .tup [.int a, .int b]), (1, .tup [.int a', .int b']), (2, .tup ds)]] ++ T, ?_, by simp [Hse]⟩
  have f1 : ∀ gs, (S ++ [Cell.ins 18 gs] ++ T)[S.length]? = some (.ins 18 gs) := fun gs => by simp
  have f2 : ∀ gs gs', (S ++ [Cell.ins 18 gs] ++ T).set S.length (.ins 18 gs') = S ++ [Cell.ins 18 gs'] ++ T := fun gs gs' => by simp
  have f3 : ∀ gs, (S ++ [Cell.ins 18 gs] ++ T)[l]? = some (.lst ds) := fun gs => by
    rw [List.append_assoc, List.getElem?_append_left hl]; exact h
  have st : ∀ gs a d, gs.length < 1000 → stFld [18] a (.ref S.length) d (S ++ [Cell.ins 18 gs] ++ T) = .ok () (S ++ [Cell.ins 18 (putD a d gs)] ++ T) := fun gs a d hgs => by rw [stFld_at (f1 gs) hgs, f2]
  have hi : m_House___init__ [.ref S.length, .tup [.int a, .int b], .tup [.int a', .int b'], .ref l] S1 = .ok .non (S ++ [Cell.ins 18 [(0, .tup [.int a, .int b]), (1, .tup [.int a', .int b']), (2, .tup ds)]] ++ T) := by
    rw [u_m_House___init__, b_m_House___init__, b1_m_House___init__, b2_m_House___init__, sAll_ap, e1]
    dsimp only
    rw [sAll_ap]
    simp only [sIf_ap, sB_ap, bOr_ap, bOr_one, bNot_ap, bV_ap, eCall_ap, aL_cons, aL_nil, eLoc_ap, eC_ap, bChain_ap, bnd_ap, ret_ap, List.getElem?_cons_succ, List.getElem?_cons_zero, lst, truB_bl, mLen_ref, lsAt_ap, g1, lsO_lst, lLen_ap, cmB_le, decide_eq_true c1, decide_eq_true c2, Bool.not_true, sAll_nil]
    rw [sAll_ap, e2]
    dsimp only
    rw [hS1]
    simp only [sAll_ap, sAll_one, sFldE_ap, sB_ap, eLoc_ap, eCall_ap, aL_cons, aL_nil, bnd_ap, ret_ap, List.getElem?_cons_succ, List.getElem?_cons_zero, st, List.length_nil, mTuple_ref, lsAt_ap, lTup_ap]
    rw [st [] 0 _ (by decide)]
    simp only [List.getElem?_cons_succ, List.getElem?_cons_zero]
    rw [st _ 1 _ (by simp [putD])]
    simp only [List.getElem?_cons_succ, List.getElem?_cons_zero, mTuple_ref, bnd_ap, lsAt_ap, f3, lsO_lst, lTup_ap]
    rw [st _ 2 _ (by simp [putD])]
    rfl
  unfold mkN
  rw [bnd_ap, alc_ap]
  dsimp only
  rw [← hS1, bnd_ap, hi]
  simp
end Lw

end
section
set_option maxRecDepth 100000
set_option maxHeartbeats 1000000
set_option linter.all false
namespace Lw
open Lt
theorem at2 {S : Sto} {o : Nat} {A B : D} {ds : List D} (h : Hse S o A B ds) : atB [(18, none)] 2 (.ref o) S = .ok (.tup ds) S := by
  unfold Hse at h
  simp [atB, h]
  rfl
theorem states_ok {S : Sto} {o : Nat} {A B : D} {ds : List D} (h : Hse S o A B ds) : m_House_states [.ref o] S = .ok (.ref S.length) (S ++ [.lst ds]) := by
  rw [u_m_House_states, b_m_House_states]
  simp [at2 h]
end Lw

end
section
set_option maxRecDepth 100000
set_option maxHeartbeats 1000000
set_option linter.all false
namespace Lw
open Lt
theorem need_ok {S : Sto} {o : Nat} {A B : D} {ds : List D} (h : Hse S o A B ds) {i : Nat} (hi : i < ds.length) : m_House_need_state [.ref o, .int i] S = .ok .non S := by
  have w : f_is_within [.int i, .int 0, .int ((ds.length : Int) - 1)] S = .ok (.bl true) S := within_tt (by omega) (by omega) S
  rw [u_m_House_need_state, b_m_House_need_state]
  simp [at2 h, w]
theorem meth3 {S : Sto} {o : Nat} {A B : D} {ds : List D} (h : Hse S o A B ds) (m : Fn) (a : Nat) (ha : a = 3 ∨ a = 4) : mOf [(18, m)] a (.ref o) S = .ok m S := by
  unfold Hse at h
  rcases ha with rfl | rfl
  · simp [mOf, h, List.lookup]
  · simp [mOf, h, List.lookup]
theorem sign_ok {S : Sto} {o : Nat} {A B : D} {ds : List D} (h : Hse S o A B ds) {i : Nat} {s c : D} (hi : ds[i]? = some (.tup [s, c])) : m_House_sign [.ref o, .int i] S = .ok s S := by
  have hl := (List.getElem?_eq_some_iff.mp hi).1
  rw [u_m_House_sign, b_m_House_sign]
  simp [at2 h, meth3 h, need_ok h hl, atI_nat hl, hi]
end Lw

end
section
set_option maxRecDepth 100000
set_option maxHeartbeats 1000000
set_option linter.all false
namespace Lw
open Lt
theorem pairsm_ok {S : Sto} {o : Nat} {A B : D} {ds : List D} (h : Hse S o A B ds) {i : Nat} {s : D} {a b many : Nat} {ps cs : List D} (hi : ds[i]? = some (.tup [s, .tup cs])) (al : All2 (Cs a b many) ps cs) (hz : cs.length ≤ 10000) : m_House_pairs [.ref o, .int i] S = .ok (.ref S.length) (S ++ [.lst ps]) := by
  have hl := (List.getElem?_eq_some_iff.mp hi).1
  have c2 := lc1_map (g := gnN 2) (f := iEach (eIx (eIx (eAttr [(18, none)] 2 (eLoc 0)) (eLoc 1)) (eC (.int 1)))) (te := eSl (eLoc 2) none (some (eC (.int 2)))) (vs := [2]) (η := [some (.ref o), some (.int i), none]) (S := S) (it := itT cs) cs hdD (by simp [at2 h, atI_nat hl, hi]) (fun i _ => itT_at S _ i) (by unfold szL; omega) (fun c hc => ⟨[some (.ref o), some (.int i), some c], rfl, by
    obtain ⟨p, hp, x, y, os, rfl, rfl, _⟩ := al.mem c hc
    simp [cut2, hdD]⟩)
  rw [hd_map al] at c2
  rw [u_m_House_pairs, b_m_House_pairs]
  simp [meth3 h, need_ok h hl, c2]
end Lw

end
section
set_option maxRecDepth 100000
set_option maxHeartbeats 1000000
set_option linter.all false
namespace Lw
open Lt
theorem pairsof_row {S : Sto} {i b : Nat} (hi : i < 100) (hb : b ≤ 100) (A : Option D) : lcG (itR 0 b) (gnN 2) bTrue (lcB (eTup [(eLoc 1), (eLoc 2)])) [A, some (.int i), none] FU 0 (pairsD i b) S = .ok (pairsD (i + 1) b) S := by
  obtain ⟨acc, S', e, h1, h2⟩ := lcG_inv (it := itR 0 b) (g := gnN 2) (tt := bTrue) (body := lcB (eTup [(eLoc 1), (eLoc 2)])) (η0 := [A, some (.int i), none]) b
    (fun j acc S' => acc = pairsD i b ++ rowD i j ∧ S' = S)
    (fun j acc S' hj ⟨q1, q2⟩ => by
      refine ⟨.int j, [A, some (.int i), some (.int j)], true, S', by rw [itR_at]; simp [rngD, hj], rfl, rfl, (fun z => by cases z), fun _ => ⟨acc ++ [.tup [.int i, .int j]], S', ?_, ?_, q2⟩⟩
      · rw [lcB_ap]
        have : acc.length < szL := by
          rw [q1, List.length_append, pairsD_len, rowD_len]
          have : i * b ≤ 100 * 100 := Nat.mul_le_mul (by omega) hb
          unfold szL
          omega
        simp [this]
      · rw [q1]
        unfold rowD
        rw [List.range_succ]
        simp)
    (fun acc S' _ => by rw [itR_at]; simp [rngD]) FU 0 (pairsD i b) S (Nat.zero_le _) (FU_lt (by omega)) ⟨by simp [rowD], rfl⟩
  rw [e, h1, h2, pairsD_succ]
  rfl
end Lw

end
section
set_option maxRecDepth 100000
set_option maxHeartbeats 1000000
set_option linter.all false
namespace Lw
open Lt
theorem pairsof_ok {S : Sto} {a b : Nat} (ha : a ≤ 100) (hb : b ≤ 100) : f_pairs_of [.tup [.int a, .int b]] S = .ok (.ref S.length) (S ++ [.lst (pairsD a b)]) := by
  obtain ⟨acc, S', e, h1, h2⟩ := lcG_inv (it := itR 0 a) (g := gnN 1) (tt := bTrue) (body := lcB2 (iRange1 (eIx (eLoc 0) (eC (.int 1)))) (gnN 2) bTrue (eTup [(eLoc 1), (eLoc 2)]) [2]) (η0 := [some (.tup [.int a, .int b]), none, none]) a
    (fun i acc S' => acc = pairsD i b ∧ S' = S)
    (fun i acc S' hi ⟨q1, q2⟩ => by
      refine ⟨.int i, [some (.tup [.int a, .int b]), some (.int i), none], true, S', by rw [itR_at]; simp [rngD, hi], rfl, rfl, (fun z => by cases z), fun _ => ⟨pairsD (i + 1) b, S', ?_, rfl, q2⟩⟩
      have er : iRange1 (eIx (eLoc 0) (eC (.int 1))) [some (.tup [.int a, .int b]), some (.int i), none] S' = .ok (itR 0 b) S' := pairs_r1 hb _ S' rfl
      unfold lcB2
      rw [bnd_ap, noX_ap, er]
      dsimp only
      rw [q1]
      exact pairsof_row (by omega) hb _)
    (fun acc S' _ => by rw [itR_at]; simp [rngD]) FU 0 [] S (Nat.zero_le _) (FU_lt (by omega)) ⟨by simp [pairsD], rfl⟩
  have e2 : lc2 (iRange1 (eIx (eLoc 0) (eC (.int 0)))) (gnN 1) bTrue (iRange1 (eIx (eLoc 0) (eC (.int 1)))) (gnN 2) bTrue (eTup [(eLoc 1), (eLoc 2)]) [1, 2] [2] [some (.tup [.int a, .int b]), none, none] S = .ok (pairsD a b) S := by
    unfold lc2
    rw [bnd_ap, pairs_r0 ha _ S rfl]
    rw [h1, h2] at e
    exact e
  rw [u_f_pairs_of, b_f_pairs_of]
  simp [e2]
end Lw

end
section
set_option maxRecDepth 100000
set_option maxHeartbeats 1000000
set_option linter.all false
namespace Lw
open Lt
open PySem (PyData)
theorem pp_eqv (x y x' y' : Int) : PyData.eqv (ppD (.tup [.int x, .int y])) (ppD (.tup [.int x', .int y'])) = (x == x' && y == y') := by
  simp [ppD, PyData.eqv, PyData.eqvAll]
theorem in_pairs {S : Sto} {l : Nat} {xs : List D} {x y : Int} (h : S[l]? = some (.lst xs)) (hx : Prs xs) (hm : D.tup [.int x, .int y] ∈ xs) : inD (.tup [.int x, .int y]) (.ref l) S = .ok true S := by
  unfold inD
  dsimp only
  rw [bnd_ap, pair_data]
  dsimp only
  rw [bnd_ap, pp_data h hx]
  dsimp only
  rw [ret_ap]
  congr 1
  rw [List.any_eq_true]
  exact ⟨_, List.mem_map_of_mem hm, by
    have := pp_eqv x y x y
    simpa [ppD] using this⟩
end Lw

end
section
set_option maxRecDepth 100000
set_option maxHeartbeats 1000000
set_option linter.all false
namespace Lw
open Lt
/-- alike, so deep at most -/
def Alk (S : Sto) : Nat → D → D → Prop
  | 0, _, _ => False
  | _ + 1, .int i, .int j => i = j
  | _ + 1, .str i, .str j => i = j ∧ PySem.PyData.strOk i = true
  | _ + 1, .bl i, .bl j => i = j
  | _ + 1, .non, .non => True
  | n + 1, .tup xs, .tup ys => xs.length = ys.length ∧ xs.length ≤ 100000 ∧ ∀ (i : Nat) (x y : D), xs[i]? = some x → ys[i]? = some y → Alk S n x y
  | n + 1, .ref a, .ref b => ∃ xs ys, S[a]? = some (.lst xs) ∧ S[b]? = some (.lst ys) ∧ xs.length = ys.length ∧ xs.length ≤ 100000 ∧ ∀ (i : Nat) (x y : D), xs[i]? = some x → ys[i]? = some y → Alk S n x y
  | _, _, _ => False
def zipL (xs ys : List D) : List D := List.zipWith (fun x y => .tup [x, y]) xs ys
theorem zipL_at (xs ys : List D) (i : Nat) : pairD xs[i]? ys[i]? = (zipL xs ys)[i]? := by
  unfold zipL
  rw [List.getElem?_zipWith]
  cases xs[i]? <;> cases ys[i]? <;> rfl
theorem zipL_mem {xs ys : List D} {z : D} (hz : z ∈ zipL xs ys) : ∃ (i : Nat) (x y : D), xs[i]? = some x ∧ ys[i]? = some y ∧ z = .tup [x, y] := by
  obtain ⟨i, hi⟩ := List.mem_iff_getElem?.mp hz
  rw [← zipL_at] at hi
  cases h1 : xs[i]? with
  | none => rw [h1] at hi; cases hi
  | some x =>
    cases h2 : ys[i]? with
    | none => rw [h1, h2] at hi; cases hi
    | some y =>
      rw [h1, h2] at hi
      cases hi
      exact ⟨i, x, y, h1, h2, rfl⟩
theorem itZ_zip {S : Sto} {a b : Nat} {xs ys : List D} (ha : S[a]? = some (.lst xs)) (hb : S[b]? = some (.lst ys)) (i : Nat) : itZ a b i S = some (zipL xs ys)[i]? := by
  unfold itZ
  rw [ha, hb]
  dsimp only [lsO]
  rw [zipL_at]
theorem all_true (xs : List D) : (xs.map fun _ => D.bl true) = (xs.map fun _ => true).map D.bl := by simp
abbrev AlkOk (n : Nat) : Prop := ∀ (x y : D) (S : Sto), Alk S n x y → wp (f__law_alike n [x, y]) S (fun d S' => d = .bl true ∧ S' = S) NX
section
variable {n : Nat} (ih : AlkOk n) {S : Sto}
include ih
theorem alike_int (i : Int) : wp (f__law_alike (n + 1) [.int i, .int i]) S (fun d S' => d = .bl true ∧ S' = S) NX := by
  rw [w_f__law_alike, b_f__law_alike]
  simp
  refine ws_forT [.int 1, .int 2, .int 3] (by decide) ?_
  simp [b1_f__law_alike]
  exact fun i S => rfl
theorem alike_bl (i : Bool) : wp (f__law_alike (n + 1) [.bl i, .bl i]) S (fun d S' => d = .bl true ∧ S' = S) NX := by
  rw [w_f__law_alike, b_f__law_alike]
  simp
  refine ws_forT [.int 1, .int 2, .int 3] (by decide) ?_
  simp [b1_f__law_alike]
  exact fun i S => rfl
theorem alike_non : wp (f__law_alike (n + 1) [.non, .non]) S (fun d S' => d = .bl true ∧ S' = S) NX := by
  rw [w_f__law_alike, b_f__law_alike]
  simp
theorem alike_str (i : PySem.Str) (h : PySem.PyData.strOk i = true) : wp (f__law_alike (n + 1) [.str i, .str i]) S (fun d S' => d = .bl true ∧ S' = S) NX := by
  rw [w_f__law_alike, b_f__law_alike]
  simp
  refine ws_forT [.int 1, .int 2, .int 3] (by decide) ?_
  simp [b1_f__law_alike, wp_eqD (x := .str i) (y := .str i) h h]
  exact fun i S => rfl
theorem alike_tup {xs ys : List D} (h : Alk S (n + 1) (.tup xs) (.tup ys)) : wp (f__law_alike (n + 1) [.tup xs, .tup ys]) S (fun d S' => d = .bl true ∧ S' = S) NX := by
  obtain ⟨hl, hl2, hx⟩ := h
  rw [w_f__law_alike, b_f__law_alike]
  simp
  refine ws_forT [.int 1, .int 2, .int 3] (by decide) ?_
  simp [hl, b1_f__law_alike]
  refine ⟨fun i S => rfl, ?_⟩
  refine wp_lc1m (zipL xs ys) (fun _ => .bl true) (by unfold zipL szL; rw [List.length_zipWith]; omega) ?_
  simp
  refine ⟨fun i _ => by unfold itZT; rw [zipL_at], fun z hz => ?_⟩
  obtain ⟨i, x, y, h1, h2, rfl⟩ := zipL_mem hz
  exact ⟨_, rfl, by simpa using ih x y S (hx i x y h1 h2)⟩
theorem alike_ref {a b : Nat} (h : Alk S (n + 1) (.ref a) (.ref b)) : wp (f__law_alike (n + 1) [.ref a, .ref b]) S (fun d S' => d = .bl true ∧ S' = S) NX := by
  obtain ⟨xs, ys, ha, hb, hl, hl2, hx⟩ := h
  rw [w_f__law_alike, b_f__law_alike]
  simp
  refine ws_forT [.int 1, .int 2, .int 3] (by decide) ?_
  simp [hl, b1_f__law_alike, wp_mIsi_ref ha, wp_mIsi_ref hb, wp_mLen_ref ha, wp_mLen_ref hb]
  refine ⟨fun i S => rfl, ?_⟩
  refine wp_lc1m (zipL xs ys) (fun _ => .bl true) (by unfold zipL szL; rw [List.length_zipWith]; omega) ?_
  simp [wp_zp ha hb]
  refine ⟨fun i _ => itZ_zip ha hb i, fun z hz => ?_⟩
  obtain ⟨i, x, y, h1, h2, rfl⟩ := zipL_mem hz
  exact ⟨_, rfl, by simpa using ih x y S (hx i x y h1 h2)⟩
theorem alike_step : AlkOk (n + 1) := by
  intro x y S h
  cases x with
  | int i => cases y with
    | int j => cases h; exact alike_int ih i
    | _ => exact h.elim
  | bl i => cases y with
    | bl j => cases h; exact alike_bl ih i
    | _ => exact h.elim
  | non => cases y with
    | non => exact alike_non ih
    | _ => exact h.elim
  | str i => cases y with
    | str j => obtain ⟨rfl, h⟩ := h; exact alike_str ih i h
    | _ => exact h.elim
  | tup i => cases y with
    | tup j => exact alike_tup ih h
    | _ => exact h.elim
  | ref i => cases y with
    | ref j => exact alike_ref ih h
    | _ => exact h.elim
  | _ => exact h.elim
end
theorem alike_ok : ∀ n, AlkOk n
  | 0 => fun _ _ _ h => h.elim
  | n + 1 => alike_step (alike_ok n)
end Lw

end
section
set_option maxRecDepth 100000
set_option maxHeartbeats 1000000
set_option linter.all false
/-! houses as plain data, and the methods of a house -/
namespace Lw
open Lt
structure CaseV where
  a : Nat
  b : Nat
  os : List (Nat × Nat)
structure StateV where
  sign : Nat
  cases : List CaseV
structure HouseV where
  m0 : Nat
  m1 : Nat
  n0 : Nat
  n1 : Nat
  sts : List StateV
def CaseV.p (c : CaseV) : Nat × Nat := (c.a, c.b)
def dP (p : Nat × Nat) : D := .tup [.int (p.1 : Nat), .int (p.2 : Nat)]
def dC (c : CaseV) : D := .tup [.int (c.a : Nat), .int (c.b : Nat), .tup (c.os.map dP)]
def dS (s : StateV) : D := .tup [.int (s.sign : Nat), .tup (s.cases.map dC)]
def pLt (p q : Nat × Nat) : Prop := p.1 < q.1 ∨ p.1 = q.1 ∧ p.2 < q.2
structure CaseV.Ok (m0 m1 n0 n1 k : Nat) (c : CaseV) : Prop where
  a : c.a < m0
  b : c.b < m1
  len : c.os.length = n0 * n1
  os : ∀ o ∈ c.os, o.1 < k ∧ o.2 ≤ 99
structure StateV.Ok (m0 m1 n0 n1 k : Nat) (s : StateV) : Prop where
  sign : s.sign ≤ 8
  ne : s.cases ≠ []
  asc : (s.cases.map CaseV.p).Pairwise pLt
  cs : ∀ c ∈ s.cases, c.Ok m0 m1 n0 n1 k
structure HouseV.Ok (h : HouseV) : Prop where
  m0a : 0 < h.m0
  m0b : h.m0 ≤ 4
  m1a : 0 < h.m1
  m1b : h.m1 ≤ 4
  n0a : 0 < h.n0
  n0b : h.n0 ≤ 4
  n1a : 0 < h.n1
  n1b : h.n1 ≤ 4
  ne : 0 < h.sts.length
  le : h.sts.length ≤ 16
  sts : ∀ s ∈ h.sts, s.Ok h.m0 h.m1 h.n0 h.n1 h.sts.length
def HouseV.ls (h : HouseV) : Nat × Nat := (h.m0, h.m1)
def HouseV.as (h : HouseV) : Nat × Nat := (h.n0, h.n1)
/-- a house at o -/
def At (S : Sto) (o : Nat) (h : HouseV) : Prop := S[o]? = some (.ins 18 [(0, dP h.ls), (1, dP h.as), (2, .tup (h.sts.map dS))])
theorem dP_inj {p q : Nat × Nat} : dP p = dP q ↔ p = q := by
  unfold dP
  obtain ⟨a, b⟩ := p
  obtain ⟨c, d⟩ := q
  simp only [D.tup.injEq, List.cons.injEq, D.int.injEq, Prod.mk.injEq, and_true]
  omega
theorem gn_dP (p : Nat × Nat) : Gn 2 (dP p) := rfl
theorem gd_dP (p : Nat × Nat) : Gd (dP p) := rfl
theorem gds_dP {ps : List (Nat × Nat)} (h : ps.length ≤ 100000) : Gds (ps.map dP) := ⟨by simpa using h, fun x hx => by
  obtain ⟨p, _, rfl⟩ := List.mem_map.mp hx
  exact gd_dP p⟩
theorem pLt_irrefl (p : Nat × Nat) : ¬ pLt p p := by
  unfold pLt
  omega
theorem pLt_ne {p q : Nat × Nat} (h : pLt p q) : p ≠ q := fun e => by
  subst e
  exact pLt_irrefl _ h
theorem CaseV.Ok.sz {m0 m1 n0 n1 k : Nat} {c : CaseV} (h : c.Ok m0 m1 n0 n1 k) (h0 : n0 ≤ 4) (h1 : n1 ≤ 4) : c.os.length ≤ 16 := by
  rw [h.len]
  exact Nat.mul_le_mul h0 h1
theorem nodup_range_len {l : List Nat} {n : Nat} (nd : l.Nodup) (h : ∀ x ∈ l, x ∈ List.range n) : l.length ≤ n := by
  induction n generalizing l with
  | zero =>
    cases l with
    | nil => simp
    | cons x l => have := h x (List.mem_cons_self ..); simp at this
  | succ n ih =>
    have e : (l.filter (· != n)).length ≤ n := ih (nd.sublist List.filter_sublist) fun x hx => by
      have h1 := List.mem_filter.mp hx
      have h2 := h x h1.1
      have h3 : x ≠ n := by simpa using h1.2
      rw [List.mem_range] at h2 ⊢
      omega
    have c : l.length ≤ (l.filter (· != n)).length + 1 := by
      clear ih e h
      induction l with
      | nil => simp
      | cons x l ih =>
        have nd2 := List.nodup_cons.mp nd
        by_cases hx : x = n
        · subst hx
          have : l.filter (· != x) = l := List.filter_eq_self.mpr fun y hy => by
            have : y ≠ x := fun e => nd2.1 (e ▸ hy)
            simpa using this
          rw [List.filter_cons_of_neg (by simp), this]
          simp
        · rw [List.filter_cons_of_pos (by simpa using hx)]
          have := ih nd2.2
          simp only [List.length_cons]
          omega
    omega
/-- ascending pairs are few -/
theorem asc_len {m0 m1 : Nat} {ps : List (Nat × Nat)} (h : ps.Pairwise pLt) (hb : ∀ p ∈ ps, p.1 < m0 ∧ p.2 < m1) : ps.length ≤ m0 * m1 := by
  have nd : (ps.map fun p => p.1 * m1 + p.2).Nodup := by
    rw [List.Nodup, List.pairwise_map]
    refine h.imp_of_mem fun {p q} hp hq hpq => ?_
    have h1 := hb p hp
    have h2 := hb q hq
    rcases hpq with z | ⟨z1, z2⟩
    · have : (p.1 + 1) * m1 ≤ q.1 * m1 := Nat.mul_le_mul_right _ z
      rw [Nat.add_mul] at this
      omega
    · rw [z1]
      omega
  have sub : ∀ x ∈ (ps.map fun p => p.1 * m1 + p.2), x ∈ List.range (m0 * m1) := fun x hx => by
    obtain ⟨p, hp, rfl⟩ := List.mem_map.mp hx
    have h1 := hb p hp
    rw [List.mem_range]
    have : (p.1 + 1) * m1 ≤ m0 * m1 := Nat.mul_le_mul_right _ h1.1
    rw [Nat.add_mul] at this
    omega
  have := (nodup_range_len nd sub)
  simpa using this
section
variable {S : Sto} {o : Nat} {h : HouseV} {Q : D → Sto → Prop} {X : Nat → List (Nat × D) → Sto → Prop}
theorem At.grow (H : At S o h) (T : Sto) : At (S ++ T) o h := by
  unfold At at *
  rw [List.getElem?_append_left (List.getElem?_eq_some_iff.mp H).1]
  exact H
theorem At.at0 (H : At S o h) : wp (atB [(18, none)] 0 (.ref o)) S Q X = Q (dP h.ls) S := wp_atB H rfl rfl
theorem At.at1 (H : At S o h) : wp (atB [(18, none)] 1 (.ref o)) S Q X = Q (dP h.as) S := wp_atB H rfl rfl
theorem At.at2 (H : At S o h) : wp (atB [(18, none)] 2 (.ref o)) S Q X = Q (.tup (h.sts.map dS)) S := wp_atB H rfl rfl
theorem At.mo (H : At S o h) {F : Fn → Sto → Prop} (m : Fn) (a : Nat) (ha : 3 ≤ a) : wp (mOf [(18, m)] a (.ref o)) S F X = F m S := wp_mOf H rfl (by
  have h0 : (a == 0) = false := by simp; omega
  have h1 : (a == 1) = false := by simp; omega
  have h2 : (a == 2) = false := by simp; omega
  simp [List.lookup, h0, h1, h2])
theorem wp_within (i a b : Int) : wp (f_is_within [.int i, .int a, .int b]) S Q X = Q (.bl (decide (a ≤ i) && decide (i ≤ b))) S := wp_eq (is_within_int i a b S)
theorem wp_states (H : At S o h) : wp (m_House_states [.ref o]) S Q X = Q (.ref S.length) (S ++ [.lst (h.sts.map dS)]) := by
  rw [w_m_House_states, b_m_House_states]
  simp [H.at2]
theorem wp_need (H : At S o h) {i : Nat} (hi : i < h.sts.length) : wp (m_House_need_state [.ref o, .int i]) S Q X = Q .non S := by
  rw [w_m_House_need_state, b_m_House_need_state]
  have : (i : Int) ≤ (h.sts.length : Int) - 1 := by omega
  simp [H.at2, wp_within, this]
theorem atI_dS {i : Nat} {s : StateV} (hi : h.sts[i]? = some s) : L2.atI (h.sts.map dS) (i : Int) = some (dS s) := atI_at (by simp [hi])
theorem wp_sign (H : At S o h) {i : Nat} {s : StateV} (hi : h.sts[i]? = some s) : wp (m_House_sign [.ref o, .int i]) S Q X = Q (.int s.sign) S := by
  rw [w_m_House_sign, b_m_House_sign]
  simp [H.at2, H.mo, wp_need H (List.getElem?_eq_some_iff.mp hi).1, atI_dS hi, dS]
end
end Lw

end
section
set_option maxRecDepth 100000
set_option maxHeartbeats 1000000
set_option linter.all false
namespace Lw
open Lt
theorem eq_of_wp {α : Type} {m : M α} {S S' : Sto} {a : α} (h : wp m S (fun a' S'' => a' = a ∧ S'' = S') NX) : m S = .ok a S' := by
  obtain ⟨b, S1, e, rfl, rfl⟩ := wp_ok h
  exact e
@[simp] theorem cut3_2 (x y z : D) : cutD [x, y, z] none (some 2) = [x, y] := rfl
theorem ixOf_nat {x : D} (hx : Gd x) : ∀ {xs : List D} {j : Nat}, (∀ y ∈ xs, Gd y) → xs[j]? = some x → (∀ k, k < j → xs[k]? ≠ some x) → ixOf (pd x) (xs.map pd) = some j
  | [], j, _, h, _ => by cases h
  | y :: ys, j, g, h, hk => by
    rw [List.map_cons]
    unfold ixOf
    rw [pd_eqv (g y (List.mem_cons_self ..)) hx]
    cases j with
    | zero =>
      cases h
      simp
    | succ j =>
      have : y ≠ x := fun e => hk 0 (Nat.succ_pos _) (by rw [e]; rfl)
      rw [decide_eq_false this, if_neg (by simp), ixOf_nat hx (fun z hz => g z (List.mem_cons_of_mem _ hz)) (j := j) (by simpa using h) fun k hk' e => hk (k + 1) (Nat.succ_lt_succ hk') (by simpa using e)]
      rfl
theorem wp_mIndex {S : Sto} {Q : D → Sto → Prop} {X : Nat → List (Nat × D) → Sto → Prop} {n j : Nat} {xs : List D} {x : D} (h : S[n]? = some (.lst xs)) (hx : Gd x) (g : Gds xs) (hj : xs[j]? = some x) (hk : ∀ k, k < j → xs[k]? ≠ some x) : wp (mIndex (.ref n) [x]) S Q X = Q (.int (j : Nat)) S := by
  refine wp_eq ?_
  unfold mIndex
  dsimp only
  rw [bnd_ap, dataOf_gd hx]
  dsimp only
  rw [bnd_ap, dataOf_gds (by rw [h]; rfl) g]
  dsimp only
  rw [bnd_ap, ixOf_nat hx g.2 hj hk]
  rfl
section
variable {S : Sto} {o : Nat} {h : HouseV} {Q : D → Sto → Prop} {X : Nat → List (Nat × D) → Sto → Prop}
/-- the pairs that are let -/
def StateV.ps (s : StateV) : List (Nat × Nat) := s.cases.map CaseV.p
theorem HouseV.Ok.st (k : h.Ok) {i : Nat} {s : StateV} (hi : h.sts[i]? = some s) : s.Ok h.m0 h.m1 h.n0 h.n1 h.sts.length := k.sts s (List.mem_of_getElem? hi)
theorem HouseV.Ok.few (k : h.Ok) {i : Nat} {s : StateV} (hi : h.sts[i]? = some s) : s.cases.length ≤ 16 := by
  have q := k.st hi
  have := asc_len q.asc (fun p hp => by
    obtain ⟨c, hc, rfl⟩ := List.mem_map.mp hp
    exact ⟨(q.cs c hc).a, (q.cs c hc).b⟩)
  rw [List.length_map] at this
  exact Nat.le_trans this (Nat.mul_le_mul k.m0b k.m1b)
theorem pairs_eq (k : h.Ok) (H : At S o h) {i : Nat} {s : StateV} (hi : h.sts[i]? = some s) : m_House_pairs [.ref o, .int i] S = .ok (.ref S.length) (S ++ [.lst (s.ps.map dP)]) := eq_of_wp (by
  rw [w_m_House_pairs, b_m_House_pairs]
  simp [H.at2, H.mo, wp_need H (List.getElem?_eq_some_iff.mp hi).1]
  have few := k.few hi
  refine wp_lc1m (s.cases.map dC) hdD (by simp; unfold szL; omega) ?_
  simp [H.at2, atI_dS hi, dS]
  refine ⟨fun i _ => by simp [itT_at], fun c hc => ?_, ?_⟩
  · simp [dC, hdD]
  · simp [StateV.ps, dC, hdD, dP, CaseV.p])
theorem wp_pairs (k : h.Ok) (H : At S o h) {i : Nat} {s : StateV} (hi : h.sts[i]? = some s) : wp (m_House_pairs [.ref o, .int i]) S Q X = Q (.ref S.length) (S ++ [.lst (s.ps.map dP)]) := wp_eq (pairs_eq k H hi)
/-- all pairs below two numbers -/
def prs (a b : Nat) : List (Nat × Nat) := (List.range a).flatMap fun i => (List.range b).map fun j => (i, j)
theorem prs_D (a b : Nat) : (prs a b).map dP = pairsD a b := by
  unfold prs pairsD
  rw [List.map_flatMap]
  simp [dP, Function.comp_def]
theorem mem_prs {a b : Nat} {p : Nat × Nat} : p ∈ prs a b ↔ p.1 < a ∧ p.2 < b := by
  unfold prs
  rw [List.mem_flatMap]
  constructor
  · rintro ⟨i, hi, h⟩
    obtain ⟨j, hj, rfl⟩ := List.mem_map.mp h
    exact ⟨List.mem_range.mp hi, List.mem_range.mp hj⟩
  · rintro ⟨h1, h2⟩
    exact ⟨p.1, List.mem_range.mpr h1, List.mem_map.mpr ⟨p.2, List.mem_range.mpr h2, rfl⟩⟩
theorem prs_len (a b : Nat) : (prs a b).length = a * b := by
  have := pairsD_len a b
  rw [← prs_D, List.length_map] at this
  exact this
theorem wp_pairsof (p : Nat × Nat) (h1 : p.1 ≤ 100) (h2 : p.2 ≤ 100) : wp (f_pairs_of [dP p]) S Q X = Q (.ref S.length) (S ++ [.lst ((prs p.1 p.2).map dP)]) := by
  rw [prs_D]
  exact wp_eq (pairsof_ok h1 h2)
theorem wp_pairw (p : Nat × Nat) (a b : Int) (h : a ≤ p.1 ∧ (p.1 : Int) ≤ b ∧ a ≤ p.2 ∧ (p.2 : Int) ≤ b) : wp (f_is_pair_within [dP p, .int a, .int b]) S Q X = Q (.bl true) S := wp_eq (pair_within h.1 h.2.1 h.2.2.1 h.2.2.2 S)
theorem mem_dP {p : Nat × Nat} {ps : List (Nat × Nat)} : dP p ∈ ps.map dP ↔ p ∈ ps := by
  constructor
  · intro h
    obtain ⟨q, hq, e⟩ := List.mem_map.mp h
    exact dP_inj.mp e ▸ hq
  · exact fun h => List.mem_map_of_mem h
theorem asc_first {ps : List (Nat × Nat)} (h : ps.Pairwise pLt) {j k : Nat} {p : Nat × Nat} (hj : ps[j]? = some p) (hk : k < j) : ps[k]? ≠ some p := fun e => by
  obtain ⟨h1, e1⟩ := List.getElem?_eq_some_iff.mp hj
  obtain ⟨h2, e2⟩ := List.getElem?_eq_some_iff.mp e
  have := List.pairwise_iff_getElem.mp h k j h2 h1 hk
  rw [e1, e2] at this
  exact pLt_irrefl _ this
theorem dP_first {ps : List (Nat × Nat)} (h : ps.Pairwise pLt) {j k : Nat} {p : Nat × Nat} (hj : ps[j]? = some p) (hk : k < j) : (ps.map dP)[k]? ≠ some (dP p) := fun e => by
  rw [List.getElem?_map] at e
  cases e2 : ps[k]? with
  | none => rw [e2] at e; cases e
  | some q =>
    rw [e2] at e
    have : q = p := dP_inj.mp (by simpa using e)
    subst this
    exact asc_first h hj hk e2
/-- the outcome -/
theorem outcome_eq (k : h.Ok) (H : At S o h) {i j : Nat} {s : StateV} {c : CaseV} (hi : h.sts[i]? = some s) (hj : s.cases[j]? = some c) {q r : Nat × Nat} (hq : q.1 < h.n0 ∧ q.2 < h.n1) (hr : c.os[q.1 * h.n1 + q.2]? = some r) :
    ∃ T, m_House_outcome [.ref o, .int i, dP c.p, dP q] S = .ok (dP r) (S ++ T) := by
  have w : wp (m_House_outcome [.ref o, .int i, dP c.p, dP q]) S (fun d S' => d = dP r ∧ ∃ T, S' = S ++ T) NX := by
    have few := k.few hi
    have so := k.st hi
    have co := so.cs c (List.mem_of_getElem? hj)
    have c1 := co.a
    have c2 := co.b
    have m0 := k.m0b
    have m1 := k.m1b
    have n0 := k.n0b
    have n1 := k.n1b
    have hcp : s.ps[j]? = some c.p := by simp [StateV.ps, hj]
    have memp : c.p ∈ s.ps := List.mem_of_getElem? hcp
    have lens : s.ps.length = s.cases.length := by simp [StateV.ps]
    rw [w_m_House_outcome, b_m_House_outcome]
    simp [H.mo, wp_need H (List.getElem?_eq_some_iff.mp hi).1]
    rw [wp_pairw c.p 0 3 (by unfold CaseV.p; dsimp only; omega)]
    simp [H.mo, wp_pairs k H hi]
    rw [wp_inD_ref (gd_dP c.p) (xs := s.ps.map dP) (by simp) (gds_dP (by omega))]
    simp [mem_dP, memp]
    rw [wp_pairw q 0 3 (by omega)]
    have H1 := H.grow [.lst (s.ps.map dP)]
    simp [H1.at1, wp_pairsof h.as (show h.as.1 ≤ 100 by unfold HouseV.as; dsimp only; omega) (show h.as.2 ≤ 100 by unfold HouseV.as; dsimp only; omega)]
    rw [wp_inD_ref (gd_dP q) (xs := (prs h.n0 h.n1).map dP) (by simp [HouseV.as]) (gds_dP (by rw [prs_len]; have := Nat.mul_le_mul n0 n1; omega))]
    simp [mem_dP, mem_prs, hq]
    generalize hT : [Cell.lst (s.ps.map dP), Cell.lst ((prs h.as.1 h.as.2).map dP)] = T
    have H2 := H.grow T
    have hn : (S ++ T)[(S ++ T).length]? = none := by simp
    have H3 := H2.grow [.lst (s.ps.map dP)]
    have g3 : (S ++ T ++ [Cell.lst (s.ps.map dP)])[(S ++ T).length]? = some (.lst (s.ps.map dP)) := by simp
    simp only [wp_eLoc, H2.at2, kAt_ap, List.getElem?_cons_succ, List.getElem?_cons_zero, wlo_some, kAt2_ap, wp_ixB_tup (atI_dS hi), wp_eC]
    rw [show dS s = .tup [.int s.sign, .tup (s.cases.map dC)] from rfl]
    simp only [wp_ixB_t, atI_1, wp_ofO_some, kAt_ap, wp_eBm, wp_eMeth, wp_eLoc, List.getElem?_cons_succ, List.getElem?_cons_zero, wlo_some, kMe_ap, H2.mo m_House_pairs 4 (by decide), kMe2_ap, wp_aL_cons, wp_aL_nil, kA_ap, kA2_ap, kMe3_ap, wp_pairs k H2 hi, kBm_ap, wp_isT_ref g3, kBm2_ap, kBm3_ap, wp_mIndex g3 (gd_dP c.p) (gds_dP (by omega)) (show (s.ps.map dP)[j]? = some (dP c.p) by simp [hcp]) (fun m hm => dP_first so.asc hcp hm)]
    have ij : L2.atI (s.cases.map dC) (j : Int) = some (dC c) := atI_at (by simp [hj])
    have ix : L2.atI (c.os.map dP) ((q.1 : Int) * h.n1 + q.2) = some (dP r) := by
      have := atI_at (xs := c.os.map dP) (i := q.1 * h.n1 + q.2) (x := dP r) (by simp [hr])
      simpa using this
    have mk : mulOk (q.1 : Int) (h.n1 : Int) = true := mulOk_r (by omega) (by omega)
    rw [kAt2_ap, wp_ixB_tup ij]
    rw [show dC c = .tup [.int c.a, .int c.b, .tup (c.os.map dP)] from rfl]
    rw [show dP q = .tup [.int q.1, .int q.2] from rfl]
    have ex : ∃ T', S ++ T ++ [Cell.lst (s.ps.map dP)] = S ++ T' := ⟨_, List.append_assoc ..⟩
    generalize S ++ T ++ [Cell.lst (s.ps.map dP)] = S3 at H3 ex
    have a1 := fun (Q : D → Sto → Prop) X => H3.at1 (Q := Q) (X := X)
    simp [a1, mk, ix, show dP h.as = .tup [.int h.n0, .int h.n1] from rfl, ex]
  obtain ⟨d, S', e, rfl, T, rfl⟩ := wp_ok w
  exact ⟨T, e⟩
end
end Lw

end
section
set_option maxRecDepth 100000
set_option maxHeartbeats 1000000
set_option linter.all false
namespace Lw
open Lt
/-! ### the store has grown -/
def Ext (S S' : Sto) : Prop := ∃ T, S' = S ++ T
theorem Ext.refl (S : Sto) : Ext S S := ⟨[], by simp⟩
theorem Ext.push (S T : Sto) : Ext S (S ++ T) := ⟨T, rfl⟩
theorem Ext.trans {S S' S'' : Sto} (a : Ext S S') (b : Ext S' S'') : Ext S S'' := by
  obtain ⟨T, rfl⟩ := a
  obtain ⟨U, rfl⟩ := b
  exact ⟨T ++ U, List.append_assoc ..⟩
theorem Ext.app {S S' : Sto} (a : Ext S S') (T : Sto) : Ext S (S' ++ T) := a.trans (.push _ _)
theorem Ext.set {S S' : Sto} (a : Ext S S') {l : Nat} (c : Cell) (h : S.length ≤ l) : Ext S (S'.set l c) := by
  obtain ⟨T, rfl⟩ := a
  exact ⟨T.set (l - S.length) c, by rw [List.set_append_right _ _ h]⟩
theorem Ext.len {S S' : Sto} (a : Ext S S') : S.length ≤ S'.length := by
  obtain ⟨T, rfl⟩ := a
  simp
theorem Ext.get {S S' : Sto} (a : Ext S S') {l : Nat} {c : Cell} (h : S[l]? = some c) : S'[l]? = some c := by
  obtain ⟨T, rfl⟩ := a
  rw [List.getElem?_append_left (List.getElem?_eq_some_iff.mp h).1]
  exact h
theorem Ext.at {S S' : Sto} (a : Ext S S') {o : Nat} {h : HouseV} (H : At S o h) : At S' o h := a.get H
theorem Ext.bag {S S' : Sto} (a : Ext S S') {n : Nat} (H : Bag S n) : Bag S' n := by
  obtain ⟨T, rfl⟩ := a
  exact H.grow
theorem Ext.drw {S S' : Sto} (a : Ext S S') {n : Nat} (H : Bag S n) : Drw n S S' := by
  obtain ⟨T, rfl⟩ := a
  exact .push H
/-- a new cell is written -/
theorem Drw.set {S S' : Sto} {n lb : Nat} (hb : Bag S n) (d : Drw n S S') (h : S.length ≤ lb) (c : Cell) : Drw n S (S'.set lb c) := by
  obtain ⟨m, cells, pos, rest, mark, h1, h2, _⟩ := hb
  have hn := (List.getElem?_eq_some_iff.mp h1).1
  have hm := (List.getElem?_eq_some_iff.mp h2).1
  obtain ⟨a, b, e, h3⟩ := d.hd _ _ _ _ h1
  obtain ⟨m', cells', pos', rest', mark', k1, k2, k3⟩ := d.bag
  have em : m' = m := by
    rw [k1] at h3
    cases h3
    rfl
  subst em
  have at_ : ∀ i, i < S.length → (S'.set lb c)[i]? = S'[i]? := fun i hi => List.getElem?_set_ne (by omega)
  refine ⟨by simpa using d.len, fun i hi hne => by rw [at_ i hi]; exact d.at_ i hi hne, fun m x y z q => ?_, m', cells', pos', rest', mark', by rw [at_ n hn]; exact k1, by rw [at_ m' hm]; exact k2, k3⟩
  rw [at_ n hn]
  exact d.hd m x y z q
theorem lst_lt {S : Sto} {l : Nat} {c : Cell} (h : S[l]? = some c) : l < S.length := (List.getElem?_eq_some_iff.mp h).1
section
variable {S : Sto} {Q : D → Sto → Prop} {X : Nat → List (Nat × D) → Sto → Prop}
theorem wp_mClear {n : Nat} {xs : List D} (h : S[n]? = some (.lst xs)) : wp (mClear (.ref n) []) S Q X = Q .non (S.set n (.lst [])) := by
  refine wp_eq ?_
  unfold mClear
  dsimp only
  rw [bnd_ap, lod_ap, h]
  rfl
end
/-! ### alike values -/
theorem alk_gnd {S : Sto} : ∀ {n : Nat} {d : D}, gnd n d = true → Alk S n d d
  | 0, _, h => by cases h
  | n + 1, d, h => by
    cases d with
    | tup xs =>
      obtain ⟨h1, h2⟩ := and2 (show (decide (xs.length ≤ 100000) && xs.all (gnd n)) = true from h)
      refine ⟨rfl, of_decide_eq_true h1, fun i x y hx hy => ?_⟩
      rw [hx] at hy
      cases hy
      exact alk_gnd (List.all_eq_true.mp h2 x (List.mem_of_getElem? hx))
    | int i => exact rfl
    | str i => exact ⟨rfl, h⟩
    | non => exact trivial
    | _ => cases h
theorem alk_up {S : Sto} : ∀ {n : Nat} {x y : D}, Alk S n x y → Alk S (n + 1) x y
  | 0, _, _, h => h.elim
  | n + 1, x, y, h => by
    cases x with
    | tup xs => cases y with
      | tup ys =>
        obtain ⟨h1, h2, h3⟩ := h
        exact ⟨h1, h2, fun i x y a b => alk_up (h3 i x y a b)⟩
      | _ => exact h.elim
    | ref xs => cases y with
      | ref ys =>
        obtain ⟨a, b, h0, h0', h1, h2, h3⟩ := h
        exact ⟨a, b, h0, h0', h1, h2, fun i x y a b => alk_up (h3 i x y a b)⟩
      | _ => exact h.elim
    | int i => cases y with
      | int j => exact h
      | _ => exact h.elim
    | str i => cases y with
      | str j => exact h
      | _ => exact h.elim
    | bl i => cases y with
      | bl j => exact h
      | _ => exact h.elim
    | non => cases y with
      | non => exact h
      | _ => exact h.elim
    | _ => exact h.elim
theorem alk_le {S : Sto} {n m : Nat} (hn : n ≤ m) {x y : D} (h : Alk S n x y) : Alk S m x y := by
  induction hn with
  | refl => exact h
  | step _ ih => exact alk_up ih
theorem alk_lst {S : Sto} {n a b : Nat} {xs : List D} (ha : S[a]? = some (.lst xs)) (hb : S[b]? = some (.lst xs)) (hl : xs.length ≤ 100000) (g : ∀ x ∈ xs, gnd n x = true) : Alk S (n + 1) (.ref a) (.ref b) :=
  ⟨xs, xs, ha, hb, rfl, hl, fun i x y hx hy => by
    rw [hx] at hy
    cases hy
    exact alk_gnd (g x (List.mem_of_getElem? hx))⟩
theorem gnd_dC {m0 m1 n0 n1 k : Nat} {c : CaseV} (h : c.Ok m0 m1 n0 n1 k) (h0 : n0 ≤ 4) (h1 : n1 ≤ 4) : gnd 4 (dC c) = true := by
  have := h.sz h0 h1
  refine gn_tup (by simp) fun x hx => ?_
  simp only [List.mem_cons, List.not_mem_nil, or_false] at hx
  rcases hx with rfl | rfl | rfl
  · rfl
  · rfl
  · refine gn_tup (by simp; omega) fun x hx => ?_
    obtain ⟨p, _, rfl⟩ := List.mem_map.mp hx
    rfl
theorem gnd_dS {h : HouseV} (k : h.Ok) {s : StateV} (hs : s ∈ h.sts) : gnd 6 (dS s) = true := by
  obtain ⟨i, hi⟩ := List.mem_iff_getElem?.mp hs
  have few := k.few hi
  refine gn_tup (by simp) fun x hx => ?_
  simp only [List.mem_cons, List.not_mem_nil, or_false] at hx
  rcases hx with rfl | rfl
  · rfl
  · refine gn_tup (by simp; omega) fun x hx => ?_
    obtain ⟨p, hp, rfl⟩ := List.mem_map.mp hx
    exact gnd_dC ((k.sts s hs).cs p hp) k.n0b k.n1b
/-! ### pairs, by their place -/
theorem prs_range (a b : Nat) : prs a b = (List.range (a * b)).map fun i => (i / b, i % b) := by
  induction a with
  | zero => simp [prs]
  | succ a ih =>
    have e : prs (a + 1) b = prs a b ++ (List.range b).map fun j => (a, j) := by
      unfold prs
      rw [List.range_succ, List.flatMap_append]
      simp
    rw [e, ih, Nat.succ_mul, List.range_add, List.map_append]
    congr 1
    rw [List.map_map]
    refine List.map_congr_left fun j hj => ?_
    have hb := List.mem_range.mp hj
    simp only [Function.comp_apply, Prod.mk.injEq]
    have h0 : 0 < b := by omega
    rw [Nat.mul_comm a b, Nat.mul_add_div h0, Nat.mul_add_mod, Nat.div_eq_of_lt hb, Nat.mod_eq_of_lt hb]
    simp
theorem prs_at {a b i : Nat} (h : i < a * b) : (prs a b)[i]? = some (i / b, i % b) := by
  rw [prs_range]
  simp [h]
/-! ### what was drawn, as plain data -/
theorem nat_list {α : Type} {F : α → D} {P : α → Prop} : ∀ {xs : List D}, (∀ d ∈ xs, ∃ v, d = F v ∧ P v) → ∃ vs : List α, xs = vs.map F ∧ ∀ v ∈ vs, P v
  | [], _ => ⟨[], rfl, fun v h => by cases h⟩
  | d :: xs, h => by
    obtain ⟨v, rfl, p⟩ := h d (List.mem_cons_self ..)
    obtain ⟨vs, rfl, q⟩ := nat_list fun e he => h e (List.mem_cons_of_mem _ he)
    exact ⟨v :: vs, rfl, fun w hw => by
      rcases List.mem_cons.mp hw with rfl | hw
      · exact p
      · exact q w hw⟩
theorem cs_nat {n0 n1 many : Nat} {p d : D} (h : Cs n0 n1 many p d) : ∃ c : CaseV, d = dC c ∧ p = dP c.p ∧ c.os.length = n0 * n1 ∧ ∀ o ∈ c.os, o.1 < many ∧ o.2 ≤ 99 := by
  obtain ⟨x, y, os, rfl, rfl, hl, ho⟩ := h
  obtain ⟨vs, rfl, q⟩ := nat_list (F := dP) (P := fun o : Nat × Nat => o.1 < many ∧ o.2 ≤ 99) (xs := os) fun d hd => by
    obtain ⟨g, p, rfl, h1, h2, h3⟩ := ho d hd
    obtain ⟨k, rfl⟩ := Int.eq_ofNat_of_zero_le h2
    exact ⟨(g, k), rfl, h1, by omega⟩
  exact ⟨⟨x, y, vs⟩, rfl, rfl, by simpa using hl, q⟩
theorem all2_nat {n0 n1 many : Nat} {ps cs : List D} (h : All2 (Cs n0 n1 many) ps cs) : ∃ vs : List CaseV, cs = vs.map dC ∧ ps = (vs.map CaseV.p).map dP ∧ ∀ c ∈ vs, c.os.length = n0 * n1 ∧ ∀ o ∈ c.os, o.1 < many ∧ o.2 ≤ 99 := by
  induction h with
  | nil => exact ⟨[], rfl, rfl, fun c h => by cases h⟩
  | snoc _ p ih =>
    obtain ⟨vs, rfl, rfl, q⟩ := ih
    obtain ⟨c, rfl, rfl, h1, h2⟩ := cs_nat p
    refine ⟨vs ++ [c], by simp, by simp, fun d hd => ?_⟩
    rcases List.mem_append.mp hd with z | z
    · exact q d z
    · have := List.mem_singleton.mp z
      subst this
      exact ⟨h1, h2⟩
theorem st_nat {m0 m1 n0 n1 many : Nat} {d : D} (h : St m0 m1 n0 n1 many d) : ∃ s : StateV, d = dS s ∧ s.Ok m0 m1 n0 n1 many ∧ s.sign ≤ 2 := by
  obtain ⟨s, ps, cs, rfl, h0, h1, hne, hsub, hall⟩ := h
  obtain ⟨k, rfl⟩ := Int.eq_ofNat_of_zero_le h0
  obtain ⟨vs, rfl, rfl, q⟩ := all2_nat hall
  have as := (pairs_sorted m0 m1).sublist hsub
  have mem : ∀ c ∈ vs, c.a < m0 ∧ c.b < m1 := fun c hc => by
    obtain ⟨x, y, e, hx, hy⟩ := mem_pairs (hsub.subset (List.mem_map_of_mem (f := dP) (List.mem_map_of_mem (f := CaseV.p) hc)))
    have := dP_inj.mp (show dP c.p = dP (x, y) from e)
    have e1 : c.a = x := congrArg Prod.fst this
    have e2 : c.b = y := congrArg Prod.snd this
    omega
  refine ⟨⟨k, vs⟩, rfl, ⟨by show k ≤ 8; omega, fun e => hne (by rw [show vs = [] from e]; rfl), ?_, fun c hc => ⟨(mem c hc).1, (mem c hc).2, (q c hc).1, (q c hc).2⟩⟩, by show k ≤ 2; omega⟩
  rw [List.pairwise_map] at as
  refine as.imp fun {p q} hpq => ?_
  obtain ⟨x, y, x', y', e1, e2, hlt⟩ := hpq
  unfold dP at e1 e2
  simp only [D.tup.injEq, List.cons.injEq, D.int.injEq, and_true] at e1 e2
  unfold pLt
  omega
theorem sts_nat {m0 m1 n0 n1 : Nat} {ds : List D} (h : Sts m0 m1 n0 n1 ds) (hl : ds.length ≤ 16) (a : 0 < m0 ∧ m0 ≤ 4 ∧ 0 < m1 ∧ m1 ≤ 4 ∧ 0 < n0 ∧ n0 ≤ 4 ∧ 0 < n1 ∧ n1 ≤ 4) : ∃ hv : HouseV, hv.Ok ∧ hv.ls = (m0, m1) ∧ hv.as = (n0, n1) ∧ ds = hv.sts.map dS ∧ ∀ s ∈ hv.sts, s.sign ≤ 2 := by
  obtain ⟨vs, e, q⟩ := nat_list (F := dS) (P := fun s : StateV => s.Ok m0 m1 n0 n1 ds.length ∧ s.sign ≤ 2) fun d hd => by
    obtain ⟨s, h1, h2⟩ := st_nat (h.2 d hd)
    exact ⟨s, h1, h2⟩
  have el : ds.length = vs.length := by rw [e, List.length_map]
  have h1 := h.1
  exact ⟨⟨m0, m1, n0, n1, vs⟩, ⟨a.1, a.2.1, a.2.2.1, a.2.2.2.1, a.2.2.2.2.1, a.2.2.2.2.2.1, a.2.2.2.2.2.2.1, a.2.2.2.2.2.2.2, by show 0 < vs.length; omega, by show vs.length ≤ 16; omega, fun s hs => by
    have := (q s hs).1
    rw [el] at this
    exact this⟩, rfl, rfl, e, fun s hs => (q s hs).2⟩
end Lw

end
section
set_option maxRecDepth 100000
set_option maxHeartbeats 2000000
set_option linter.all false
/-! a house is made of plain data -/
namespace Lw
open Lt
section
variable {S : Sto} {Q : D → Sto → Prop} {X : Nat → List (Nat × D) → Sto → Prop} {B : Bool → Sto → Prop}
theorem wp_isiT_lst {n : Nat} {xs : List D} (h : S[n]? = some (.lst xs)) : wp (f_is_listed [.ref n]) S Q X = Q (.bl true) S := wp_eq (is_listed_ref n xs S h)
theorem case_eqN {m0 m1 n0 n1 k : Nat} {c : CaseV} (co : c.Ok m0 m1 n0 n1 k) (h2 : n0 ≤ 4) (h3 : n1 ≤ 4) (S : Sto) : f_is_case [dC c, dP (m0, m1), dP (n0, n1), .int k] S = .ok (.bl true) S := eq_of_wp (by
  have z := co.sz h2 h3
  have ca := co.a
  have cb := co.b
  have cl := co.len
  rw [w_f_is_case, b_f_is_case]
  have i1 : ((c.a : Int) ≤ (m0 : Int) - 1) := by omega
  have i2 : ((c.b : Int) ≤ (m1 : Int) - 1) := by omega
  have mk : mulOk (n0 : Int) (n1 : Int) = true := mulOk_r (by omega) (by omega)
  have ln : (c.os.length : Int) = (n0 : Int) * n1 := by rw [cl]; simp
  rw [show dC c = .tup [.int c.a, .int c.b, .tup (c.os.map dP)] from rfl, show dP (m0, m1) = .tup [.int m0, .int m1] from rfl, show dP (n0, n1) = .tup [.int n0, .int n1] from rfl]
  simp [wp_within, i1, i2, mk, ln]
  refine ws_for (c.os.map dP) (fun i η S' => (∃ x, η = [some (.tup [.int c.a, .int c.b, .tup (c.os.map dP)]), some (.tup [.int m0, .int m1]), some (.tup [.int n0, .int n1]), some (.int k), some (.tup (c.os.map dP)), x]) ∧ S' = S) (by simp; unfold szL; omega) ?_ (fun i hi η S' => ?_) (fun η S' => ?_)
  · rw [wp_iEach, wp_eLoc]
    exact ⟨⟨⟨_, rfl⟩, rfl⟩, fun i η S _ _ => rfl⟩
  · rintro ⟨⟨x, rfl⟩, rfl⟩
    refine ⟨_, rfl, ?_⟩
    have hi' : i < c.os.length := by simpa using hi
    have oo := co.os c.os[i] (List.getElem_mem hi')
    have o1 : ((c.os[i].1 : Int) ≤ (k : Int) - 1) := by omega
    have o2 : (c.os[i].2 : Int) ≤ 99 := by omega
    rw [b1_f_is_case, List.getElem_map]
    rw [show dP c.os[i] = .tup [.int (c.os[i].1 : Nat), .int (c.os[i].2 : Nat)] from rfl]
    simp [wp_within, o1, o2]
  · rintro ⟨⟨x, rfl⟩, rfl⟩
    simp)
theorem rising_eqN {l : Nat} {ps : List (Nat × Nat)} (h : S[l]? = some (.lst (ps.map dP))) (hs : ps.Pairwise pLt) (hz : ps.length ≤ 10000) : f_rising [.ref l] S = .ok (.bl true) (S ++ [.lst ((ps.map dP).drop 1)]) := by
  refine rising_ok h ?_ (by simpa using hz)
  rw [List.pairwise_map]
  refine hs.imp fun {p q} hpq => ⟨p.1, p.2, q.1, q.2, rfl, rfl, ?_⟩
  unfold pLt at hpq
  omega
theorem state_wpN {m0 m1 n0 n1 k : Nat} {s : StateV} (so : s.Ok m0 m1 n0 n1 k) (h0 : m0 ≤ 4) (h1 : m1 ≤ 4) (h2 : n0 ≤ 4) (h3 : n1 ≤ 4) (hQ : ∀ S', Ext S S' → Q (.bl true) S') : wp (f_is_state [dS s, dP (m0, m1), dP (n0, n1), .int k]) S Q X := by
  have few : s.cases.length ≤ 16 := by
    have := asc_len so.asc (fun p hp => by
      obtain ⟨c, hc, rfl⟩ := List.mem_map.mp hp
      exact ⟨(so.cs c hc).a, (so.cs c hc).b⟩)
    rw [List.length_map] at this
    exact Nat.le_trans this (Nat.mul_le_mul h0 h1)
  have sg : (s.sign : Int) ≤ 8 := by have := so.sign; omega
  rw [w_f_is_state, b_f_is_state]
  rw [show dS s = .tup [.int s.sign, .tup (s.cases.map dC)] from rfl]
  have ne : s.cases.map dC ≠ [] := by
    intro e
    exact so.ne (List.map_eq_nil_iff.mp e)
  have gd : Gd (.tup (s.cases.map dC)) := (gn_tup (n := 4) (by simp; omega) fun x hx => by
    obtain ⟨c, hc, rfl⟩ := List.mem_map.mp hx
    exact gnd_dC (so.cs c hc) h2 h3 : Gn 5 _).gd
  simp [wp_within, sg]
  rw [wp_eqD gd (y := .tup []) rfl]
  simp [so.ne]
  refine wp_lc1m (s.cases.map dC) (fun _ => .bl true) (by simp; unfold szL; omega) ?_
  simp
  refine ⟨fun i _ => by simp [itT_at], fun c hc => ?_, ?_⟩
  · rw [wp_eq (case_eqN (so.cs c hc) h2 h3 S)]
    exact ⟨rfl, rfl⟩
  refine wp_lc1m (s.cases.map dC) hdD (by simp; unfold szL; omega) ?_
  simp
  refine ⟨fun i _ => by simp [itT_at], fun c hc => ?_, ?_⟩
  · simp [dC, hdD]
  have em : s.cases.map (hdD ∘ dC) = (s.cases.map CaseV.p).map dP := by simp [dC, hdD, dP, CaseV.p]
  have rs := rising_eqN (S := S ++ [.lst ((s.cases.map CaseV.p).map dP)]) (l := S.length) (ps := s.cases.map CaseV.p) (by simp) so.asc (by simp; omega)
  rw [em, wp_eq rs]
  exact hQ _ ((Ext.push _ _).app _)
theorem wp_mkN {c : Nat} {m : Fn} {ds : List D} (hQ : wp (m (.ref S.length :: ds)) (S ++ [.ins c []]) (fun d S' => d = .non ∧ Q (.ref S.length) S') X) : wp (mkN c m ds) S Q X := by
  unfold mkN
  rw [wp_bnd, wp_alc, kM_ap, wp_bnd]
  refine wp_mono hQ (fun d S' h => ?_) fun _ _ _ h => h
  obtain ⟨rfl, h⟩ := h
  exact h
/-- a house is made -/
theorem newN {h : HouseV} {l : Nat} (k : h.Ok) (hl : S[l]? = some (.lst (h.sts.map dS))) (hQ : ∀ S', Ext S S' → At S' S.length h → Q (.ref S.length) S') : wp (mkN 18 m_House___init__ [dP h.ls, dP h.as, .ref l]) S Q X := by
  refine wp_mkN ?_
  have ll := lst_lt hl
  have e0 : ∀ gs, Ext S (S ++ [Cell.ins 18 gs]) := fun gs => .push _ _
  have m0 := k.m0b
  have m1 := k.m1b
  have n0 := k.n0b
  have n1 := k.n1b
  have m0' := k.m0a
  have m1' := k.m1a
  have n0' := k.n0a
  have n1' := k.n1a
  have le := k.le
  have ne := k.ne
  rw [w_m_House___init__, b_m_House___init__]
  simp
  refine ws_forT [dP h.ls, dP h.as] (by simp [szL]) ?_
  simp
  refine ⟨fun i S => rfl, ?_⟩
  rw [b1_m_House___init__]
  simp
  rw [wp_pairw h.ls 1 4 (by unfold HouseV.ls; dsimp only; omega)]
  simp
  rw [wp_pairw h.as 1 4 (by unfold HouseV.as; dsimp only; omega)]
  simp
  have hl1 : (S ++ [Cell.ins 18 []])[l]? = some (.lst (h.sts.map dS)) := (e0 []).get hl
  have c1 : (1 : Int) ≤ h.sts.length := by omega
  have c2 : (h.sts.length : Int) ≤ 16 := by omega
  rw [wp_isiT_lst hl1]
  simp [wp_mLen_ref hl1, c1, c2]
  have put : ∀ T gs, (S ++ [Cell.ins 18 gs] ++ T)[S.length]? = some (.ins 18 gs) := fun T gs => by simp
  refine ws_for ((List.range h.sts.length).map fun i => .tup [.int (i : Nat), ((h.sts.map dS)[i]?).getD .non]) (fun i η S' => (∃ x y z, η = [some (.ref S.length), some (dP h.ls), some (dP h.as), some (.ref l), x, y, z]) ∧ ∃ T, S' = S ++ [.ins 18 []] ++ T) (by simp; unfold szL; omega) ?_ (fun i hi η S' => ?_) (fun η S' => ?_)
  · rw [wp_iEnumE, wp_eLoc]
    show wp (enm (.ref l)) _ _ _
    rw [wp_enm hl1]
    refine ⟨⟨⟨_, _, _, rfl⟩, [], by simp⟩, fun i η S' hi ⟨_, T, hT⟩ => ?_⟩
    have g : S'[l]? = some (.lst (h.sts.map dS)) := by
      rw [hT]
      exact (Ext.push _ T).get hl1
    unfold itE
    rw [g]
    dsimp only [lsO]
    by_cases hlt : i < h.sts.length
    · simp [hlt]
    · simp at hi
      have : i = h.sts.length := by omega
      subst this
      simp
  · rintro ⟨⟨x, y, z, rfl⟩, T, rfl⟩
    have hi' : i < h.sts.length := by simpa using hi
    have hs : h.sts[i]? = some h.sts[i] := List.getElem?_eq_getElem hi'
    refine ⟨_, by rw [List.getElem_map]; rfl, ?_⟩
    have g : (S ++ [Cell.ins 18 []] ++ T)[l]? = some (.lst (h.sts.map dS)) := (Ext.push _ T).get hl1
    have ex : ((h.sts.map dS)[(List.range h.sts.length)[i]'(by simpa using hi')]?).getD .non = dS h.sts[i] := by simp [hs]
    rw [ex, b2_m_House___init__]
    simp only [ws_one, ws_sIf, wp_bNot, wp_bV, wp_eCall, wp_aL_cons, wp_aL_nil, wp_eLoc, List.getElem?_cons_succ, List.getElem?_cons_zero, List.set_cons_succ, List.set_cons_zero, wlo_some, kA_ap, kA2_ap, kM_ap, wp_mLen_ref g, List.length_map]
    refine state_wpN (k.st hs) m0 m1 n0 n1 fun S2 e2 => ?_
    simp
    obtain ⟨U, rfl⟩ := e2
    exact ⟨T ++ U, by simp⟩
  · rintro ⟨⟨x, y, z, rfl⟩, T, rfl⟩
    have hlT : ∀ gs, (S ++ [Cell.ins 18 gs] ++ T)[l]? = some (.lst (h.sts.map dS)) := fun gs => (Ext.push _ T).get ((e0 gs).get hl)
    have st : ∀ gs gs', (S ++ [Cell.ins 18 gs] ++ T).set S.length (.ins 18 gs') = S ++ [Cell.ins 18 gs'] ++ T := fun gs gs' => by simp
    simp only [kC_nx, ws_cons, ws_one, ws_sFldE, wp_eLoc, List.getElem?_cons_succ, List.getElem?_cons_zero, wlo_some, kFld_ap, kFld2_ap]
    rw [wp_stFld (put T []) rfl (by decide), st]
    simp only [kNx_ap, kC_nx, ws_cons, ws_one, ws_sFldE, wp_eLoc, List.getElem?_cons_succ, List.getElem?_cons_zero, wlo_some, kFld_ap, kFld2_ap]
    rw [wp_stFld (put T _) rfl (by simp [putD]), st]
    simp only [kNx_ap, kC_nx, ws_cons, ws_one, ws_sFldE, wp_eCall, wp_aL_cons, wp_aL_nil, wp_eLoc, List.getElem?_cons_succ, List.getElem?_cons_zero, wlo_some, kA_ap, kA2_ap, kM_ap]
    rw [wp_mTuple_ref (hlT _)]
    simp only [kFld_ap, wp_eLoc, List.getElem?_cons_succ, List.getElem?_cons_zero, wlo_some, kFld2_ap]
    rw [wp_stFld (put T _) rfl (by simp [putD]), st]
    simp
    exact hQ _ (.push _ _) (by unfold At; simp [putD])
end
end Lw

end
section
set_option maxRecDepth 100000
set_option maxHeartbeats 2000000
set_option linter.all false
/-! House.turned on plain data -/
namespace Lw
open Lt
open PySem (PyData)
/-- the list at r is written, all else stays -/
structure Upd (r : Nat) (c : Cell) (S S' : Sto) : Prop where
  len : S.length ≤ S'.length
  at_ : S'[r]? = some c
  old : ∀ i, i < S.length → i ≠ r → S'[i]? = S[i]?
theorem ext_of_at {S S' : Sto} (hl : S.length ≤ S'.length) (h : ∀ i, i < S.length → S'[i]? = S[i]?) : Ext S S' := by
  refine ⟨S'.drop S.length, ?_⟩
  have e : S'.take S.length = S := by
    refine List.ext_getElem? fun i => ?_
    by_cases hi : i < S.length
    · rw [List.getElem?_take_of_lt hi, h i hi]
    · rw [List.getElem?_eq_none (by simp; omega), List.getElem?_eq_none (by omega)]
  conv => lhs; rw [← List.take_append_drop S.length S', e]
theorem Ext.upd {S S1 S2 : Sto} {r : Nat} {c : Cell} (e : Ext S S1) (u : Upd r c S1 S2) (hr : S.length ≤ r) : Ext S S2 := by
  refine ext_of_at (Nat.le_trans e.len u.len) fun i hi => ?_
  rw [u.old i (Nat.lt_of_lt_of_le hi e.len) (by omega)]
  obtain ⟨T, rfl⟩ := e
  rw [List.getElem?_append_left hi]
theorem Upd.app_set {S : Sto} {r : Nat} {c : Cell} (hr : r < S.length) (T : Sto) : Upd r c S ((S ++ T).set r c) := by
  refine ⟨by simp, List.getElem?_set_self (by simp; omega), fun i hi hne => ?_⟩
  rw [List.getElem?_set_ne (Ne.symm hne), List.getElem?_append_left hi]
theorem Upd.get {S S' : Sto} {r i : Nat} {c d : Cell} (u : Upd r c S S') (h : S[i]? = some d) (hne : i ≠ r) : S'[i]? = some d := by
  rw [u.old i (lst_lt h) hne]
  exact h
def pLe (p q : Nat × Nat) : Bool := decide (p.1 < q.1 ∨ p.1 = q.1 ∧ p.2 ≤ q.2)
theorem pLe_iff {p q : Nat × Nat} : pLe p q = true ↔ (p.1 < q.1 ∨ p.1 = q.1 ∧ p.2 ≤ q.2) := decide_eq_true_iff
def srtC (cs : List CaseV) : List CaseV := cs.mergeSort fun c d => pLe c.p d.p
def turnC (n0 n1 : Nat) (c : CaseV) : CaseV := ⟨c.b, c.a, (prs n1 n0).map fun q => (c.os[q.2 * n1 + q.1]?).getD (0, 0)⟩
def turnS (n0 n1 : Nat) (s : StateV) : StateV := ⟨s.sign, srtC (s.cases.map (turnC n0 n1))⟩
def turnV (h : HouseV) : HouseV := ⟨h.m1, h.m0, h.n1, h.n0, h.sts.map (turnS h.n0 h.n1)⟩
theorem pd_dC (c : CaseV) : pd (dC c) = .tuple [.int (c.a : Nat), .int (c.b : Nat), pdn 59 (.tup (c.os.map dP))] := rfl
theorem le_dC {cs : List CaseV} (nd : ∀ c ∈ cs, ∀ d ∈ cs, c.p = d.p → c = d) : ∀ c ∈ cs, ∀ d ∈ cs, pLe c.p d.p = PySem.W.dataLe false (fun x : D × PyData => x.2) (dC c, pd (dC c)) (dC d, pd (dC d)) := by
  intro c hc d hd
  show pLe c.p d.p = !PySem.W.dataLt (pd (dC d)) (pd (dC c))
  by_cases e : c.p = d.p
  · have := nd c hc d hd e
    subst this
    have : PySem.W.dataLt (pd (dC c)) (pd (dC c)) = false := PyProof.Rows.lex_irrefl _
    rw [this]
    simp [pLe]
  · rw [pd_dC, pd_dC, PySem.W.dataLt_tuple, PySem.W.dataLt_cons rfl, PySem.W.dataLt_cons rfl]
    have ne : ¬ (c.a = d.a ∧ c.b = d.b) := fun ⟨h1, h2⟩ => e (by unfold CaseV.p; rw [h1, h2])
    simp only [PyData.eqv, PySem.W.dataLt_int]
    have p1 : c.p.1 = c.a := rfl
    have p2 : c.p.2 = c.b := rfl
    have p3 : d.p.1 = d.a := rfl
    have p4 : d.p.2 = d.b := rfl
    by_cases h1 : d.a = c.a
    · by_cases h2 : d.b = c.b
      · exact absurd ⟨h1.symm, h2.symm⟩ ne
      · have e1 : ((d.a : Int) == (c.a : Int)) = true := by simp [h1]
        have e2 : ((d.b : Int) == (c.b : Int)) = false := by simp; omega
        rw [e1, e2, if_pos rfl, if_neg (by simp)]
        rw [Bool.eq_iff_iff, pLe_iff]
        simp only [Bool.not_eq_true', decide_eq_false_iff_not]
        omega
    · have e1 : ((d.a : Int) == (c.a : Int)) = false := by simp; omega
      rw [e1, if_neg (by simp)]
      rw [Bool.eq_iff_iff, pLe_iff]
      simp only [Bool.not_eq_true', decide_eq_false_iff_not]
      omega
theorem srt_dC {cs : List CaseV} (nd : ∀ c ∈ cs, ∀ d ∈ cs, c.p = d.p → c = d) : srtD (cs.map dC) ((cs.map dC).map pd) = (srtC cs).map dC := srt_by (le_dC nd)
theorem srtB_dC {cs : List CaseV} (g : ∀ c ∈ cs, Gd (dC c)) : srtB ((cs.map dC).map pd) = true := by
  unfold srtB
  rw [Bool.and_eq_true, Bool.and_eq_true, Bool.or_eq_true]
  refine ⟨?_, ?_, .inl ?_⟩
  · rw [List.all_eq_true]
    intro p hp
    obtain ⟨d, hd, rfl⟩ := List.mem_map.mp hp
    obtain ⟨c, hc, rfl⟩ := List.mem_map.mp hd
    have l := gnd_lay (g c hc)
    unfold PySem.SeqAt.shaped
    rw [show (pd (dC c)).canLay0 = true from l.1, Bool.true_and]
    exact decide_eq_true (Nat.le_trans l.2 (by decide))
  · unfold alikeB
    rw [List.all_eq_true]
    intro p hp
    rw [List.all_eq_true]
    intro q hq
    obtain ⟨d, hd, rfl⟩ := List.mem_map.mp hp
    obtain ⟨c, hc, rfl⟩ := List.mem_map.mp hd
    obtain ⟨d, hd, rfl⟩ := List.mem_map.mp hq
    obtain ⟨c', hc', rfl⟩ := List.mem_map.mp hd
    have al : ∀ xs ys : List (Nat × Nat), PySem.W.alikeAll (xs.map fun p => pdn 58 (dP p)) (ys.map fun p => pdn 58 (dP p)) = true := by
      intro xs
      induction xs with
      | nil => intro ys; cases ys <;> simp [PySem.W.alikeAll]
      | cons x xs ih =>
        intro ys
        cases ys with
        | nil => simp [PySem.W.alikeAll]
        | cons y ys =>
          rw [List.map_cons, List.map_cons, PySem.W.alikeAll, ih ys]
          rfl
    rw [pd_dC, pd_dC]
    have e : ∀ c : CaseV, pdn 59 (.tup (c.os.map dP)) = .tuple (c.os.map fun p => pdn 58 (dP p)) := fun c => by
      show PyData.tuple ((c.os.map dP).map (pdn 58)) = _
      rw [List.map_map]
      rfl
    rw [e, e]
    simp only [PySem.W.alike, PySem.W.alikeAll, al, Bool.and_self]
  · rw [List.all_eq_true]
    intro p hp
    obtain ⟨d, hd, rfl⟩ := List.mem_map.mp hp
    obtain ⟨c, hc, rfl⟩ := List.mem_map.mp hd
    rfl
theorem asc_inj {cs : List CaseV} (h : (cs.map CaseV.p).Pairwise pLt) : ∀ c ∈ cs, ∀ d ∈ cs, c.p = d.p → c = d := by
  intro c hc d hd e
  obtain ⟨i, hi, rfl⟩ := List.getElem_of_mem hc
  obtain ⟨j, hj, rfl⟩ := List.getElem_of_mem hd
  have pw := List.pairwise_iff_getElem.mp h
  rcases Nat.lt_trichotomy i j with z | z | z
  · have := pw i j (by simpa using hi) (by simpa using hj) z
    simp only [List.getElem_map] at this
    rw [e] at this
    exact absurd this (pLt_irrefl _)
  · subst z; rfl
  · have := pw j i (by simpa using hj) (by simpa using hi) z
    simp only [List.getElem_map] at this
    rw [e] at this
    exact absurd this (pLt_irrefl _)
theorem turn_inj {cs : List CaseV} (n0 n1 : Nat) (h : (cs.map CaseV.p).Pairwise pLt) : ∀ c ∈ cs.map (turnC n0 n1), ∀ d ∈ cs.map (turnC n0 n1), c.p = d.p → c = d := by
  intro c hc d hd e
  obtain ⟨c', hc', rfl⟩ := List.mem_map.mp hc
  obtain ⟨d', hd', rfl⟩ := List.mem_map.mp hd
  have : c'.p = d'.p := by
    have h1 := congrArg Prod.fst e
    have h2 := congrArg Prod.snd e
    exact Prod.ext h2 h1
  rw [asc_inj h c' hc' d' hd' this]
theorem srtC_perm (cs : List CaseV) : (srtC cs).Perm cs := List.mergeSort_perm ..
theorem srtC_asc {cs : List CaseV} (nd : (cs.map CaseV.p).Nodup) : ((srtC cs).map CaseV.p).Pairwise pLt := by
  have h1 : (srtC cs).Pairwise fun c d => pLe c.p d.p = true := List.pairwise_mergeSort (fun a b c h1 h2 => by
    unfold pLe at *
    simp at *
    omega) (fun a b => by
    unfold pLe
    simp
    omega) cs
  have h2 : ((srtC cs).map CaseV.p).Nodup := ((srtC_perm cs).map CaseV.p).nodup_iff.mpr nd
  rw [List.Nodup, List.pairwise_map] at h2
  rw [List.pairwise_map]
  refine (h1.and h2).imp fun {c d} h => ?_
  obtain ⟨h3, h4⟩ := h
  unfold pLe at h3
  unfold pLt
  have : ¬ (c.p.1 = d.p.1 ∧ c.p.2 = d.p.2) := fun ⟨q1, q2⟩ => h4 (Prod.ext q1 q2)
  simp at h3
  omega
theorem turnC_ok {m0 m1 n0 n1 k : Nat} {c : CaseV} (co : c.Ok m0 m1 n0 n1 k) : (turnC n0 n1 c).Ok m1 m0 n1 n0 k := by
  refine ⟨co.b, co.a, by simp [turnC, prs_len], fun o ho => ?_⟩
  obtain ⟨q, hq, rfl⟩ := List.mem_map.mp ho
  have hq := mem_prs.mp hq
  have lt : q.2 * n1 + q.1 < c.os.length := by
    rw [co.len]
    have : (q.2 + 1) * n1 ≤ n0 * n1 := Nat.mul_le_mul_right _ hq.2
    rw [Nat.add_mul] at this
    omega
  rw [List.getElem?_eq_getElem lt]
  exact co.os _ (List.getElem_mem lt)
theorem turnS_ok {m0 m1 n0 n1 k : Nat} {s : StateV} (so : s.Ok m0 m1 n0 n1 k) : (turnS n0 n1 s).Ok m1 m0 n1 n0 k := by
  have pm := srtC_perm (s.cases.map (turnC n0 n1))
  refine ⟨so.sign, fun e => ?_, srtC_asc ?_, fun c hc => ?_⟩
  · have := pm.length_eq
    rw [show srtC (s.cases.map (turnC n0 n1)) = [] from e] at this
    simp at this
    exact so.ne (List.length_eq_zero_iff.mp this.symm)
  · rw [List.map_map]
    have nd : (s.cases.map CaseV.p).Nodup := so.asc.imp fun {p q} h => pLt_ne h
    rw [List.Nodup, List.pairwise_map] at nd ⊢
    refine nd.imp fun {c d} h e => h ?_
    have h1 := congrArg Prod.fst e
    have h2 := congrArg Prod.snd e
    exact Prod.ext h2 h1
  · obtain ⟨d, hd, rfl⟩ := List.mem_map.mp (pm.mem_iff.mp hc)
    exact turnC_ok (so.cs d hd)
theorem turnV_ok {h : HouseV} (k : h.Ok) : (turnV h).Ok := ⟨k.m1a, k.m1b, k.m0a, k.m0b, k.n1a, k.n1b, k.n0a, k.n0b, by simpa [turnV] using k.ne, by simpa [turnV] using k.le, fun s hs => by
  obtain ⟨t, ht, rfl⟩ := List.mem_map.mp hs
  have := turnS_ok (k.sts t ht)
  simpa [turnV] using this⟩
end Lw

end
section
set_option maxRecDepth 100000
set_option maxHeartbeats 2000000
set_option linter.all false
/-! House.turned, walked -/
namespace Lw
open Lt
section
variable {S : Sto} {o : Nat} {h : HouseV} {Q : D → Sto → Prop} {X : Nat → List (Nat × D) → Sto → Prop} {P : Pst}
/-- the outcome at a place -/
def plF (os : List (Nat × Nat)) : D → D
  | .int i => dP ((os[i.toNat]?).getD (0, 0))
  | _ => .non
/-- the places, as they are told -/
def plD (n0 n1 : Nat) : List D := (rngD n1).flatMap fun y => (rngD n0).map fun x => match x, y with
  | .int x, .int y => .int (x * n1 + y)
  | _, _ => .non
theorem plD_eq (n0 n1 : Nat) : plD n0 n1 = (prs n1 n0).map fun q => .int ((q.2 * n1 + q.1 : Nat) : Int) := by
  unfold plD rngD prs
  rw [List.map_flatMap, List.flatMap_map]
  congr 1
  funext y
  rw [List.map_map, List.map_map]
  refine List.map_congr_left fun x _ => ?_
  simp
theorem rng_mem {n : Nat} {d : D} (hd : d ∈ rngD n) : ∃ i : Nat, d = .int i ∧ i < n := by
  obtain ⟨i, hi, rfl⟩ := List.mem_map.mp hd
  exact ⟨i, rfl, List.mem_range.mp hi⟩
theorem turn_b1 (H : At S o h) (k : h.Ok) {r : Nat} {fs : List D} {c : CaseV} (hr : S[r]? = some (.lst fs)) (hz : fs.length ≤ 1000) (co : c.Ok h.m0 h.m1 h.n0 h.n1 h.sts.length) {x1 x2 x3 x8 x9 x10 x11 : Option D}
    (hP : ∀ S' y8 y9 y10 y11, Upd r (.lst (fs ++ [dC (turnC h.n0 h.n1 c)])) S S' → P.nx [some (.ref o), x1, x2, x3, some (.ref r), some (.int c.a), some (.int c.b), some (.tup (c.os.map dP)), y8, y9, y10, y11] S') :
    ws b1_m_House_turned [some (.ref o), x1, x2, x3, some (.ref r), some (.int c.a), some (.int c.b), some (.tup (c.os.map dP)), x8, x9, x10, x11] S P := by
  have n0 := k.n0b
  have n1 := k.n1b
  have z := co.sz n0 n1
  have mk : ∀ x : Nat, x < 4 → mulOk (x : Int) (h.n1 : Int) = true := fun x hx => mulOk_r (by omega) (by omega)
  have as : dP h.as = .tup [.int h.n0, .int h.n1] := rfl
  have lp : (plD h.n0 h.n1).length ≤ 16 := by rw [plD_eq, List.length_map, prs_len]; exact Nat.mul_le_mul n1 n0
  rw [b1_m_House_turned]
  simp
  refine wp_lc2m (rngD h.n1) (fun _ => rngD h.n0) (fun y x => match x, y with
    | .int x, .int y => .int (x * h.n1 + y)
    | _, _ => .non) (by rw [rngD_len]; unfold szL; omega) (fun _ _ => by rw [rngD_len]; unfold szL; omega) (Nat.le_trans lp (by decide)) ?_
  simp [H.at1, as]
  rw [wp_rng1N (by omega)]
  refine ⟨fun i _ => itR_at S _ i, fun y hy => ?_, ?_⟩
  · obtain ⟨y, rfl, hy⟩ := rng_mem hy
    simp [H.at1, as]
    rw [wp_rng1N (by omega)]
    refine ⟨rfl, fun i _ => itR_at S _ i, fun x hx => ?_⟩
    obtain ⟨x, rfl, hx⟩ := rng_mem hx
    simp [H.at1, as, mk x (by omega)]
  · rw [show ((rngD h.n1).flatMap fun y => (rngD h.n0).map fun x => match x, y with
      | .int x, .int y => .int (x * h.n1 + y)
      | _, _ => .non) = plD h.n0 h.n1 from rfl]
    have g1 : (S ++ [Cell.lst (plD h.n0 h.n1)])[S.length]? = some (.lst (plD h.n0 h.n1)) := by simp
    have g2 : (S ++ [Cell.lst (plD h.n0 h.n1)])[r]? = some (.lst fs) := (Ext.push _ _).get hr
    rw [wp_isT_ref g2]
    simp
    refine wp_lc1m (plD h.n0 h.n1) (plF c.os) (Nat.le_trans lp (by decide)) ?_
    simp [wp_itOf_ref g1]
    refine ⟨fun i _ => by rw [itL_at (xs := plD h.n0 h.n1) _ (by rw [g1]; rfl)], fun d hd => ?_, ?_⟩
    · rw [plD_eq] at hd
      obtain ⟨q, hq, rfl⟩ := List.mem_map.mp hd
      have hq := mem_prs.mp hq
      have lt : q.2 * h.n1 + q.1 < c.os.length := by
        rw [co.len]
        have : (q.2 + 1) * h.n1 ≤ h.n0 * h.n1 := Nat.mul_le_mul_right _ hq.2
        rw [Nat.add_mul] at this
        omega
      have e : L2.atI (c.os.map dP) ((q.2 * h.n1 + q.1 : Nat) : Int) = some (dP ((c.os[q.2 * h.n1 + q.1]?).getD (0, 0))) := atI_at (by simp [lt])
      rw [wp_ixB_tup e]
      exact ⟨rfl, rfl⟩
    · have em :  (plD h.n0 h.n1).map (plF c.os) = (turnC h.n0 h.n1 c).os.map dP := by
        rw [plD_eq]
        unfold turnC
        rw [List.map_map, List.map_map]
        rfl
      rw [em, wp_mAppend g2 (by unfold szL; omega)]
      exact hP _ _ _ _ _ (Upd.app_set (lst_lt hr) _)
theorem take_map1 {α β : Type} (F : α → β) {xs : List α} {j : Nat} (h : j < xs.length) : (xs.take (j + 1)).map F = (xs.take j).map F ++ [F xs[j]] := by
  rw [List.take_add_one, List.getElem?_eq_getElem h, List.map_append]
  rfl
theorem upd_of {S S' : Sto} {r : Nat} {c : Cell} (e : Ext S S') (hr : r < S.length) : Upd r c S (S'.set r c) := by
  obtain ⟨T, rfl⟩ := e
  exact Upd.app_set hr T
theorem turn_b2 (H : At S o h) (k : h.Ok) {st : Nat} {acc : List D} {s : StateV} (hst : S[st]? = some (.lst acc)) (hz : acc.length ≤ 1000) (so : s.Ok h.m0 h.m1 h.n0 h.n1 h.sts.length) {x4 x5 x6 x7 x8 x9 x10 x11 : Option D}
    (hP : ∀ S' y4 y5 y6 y7 y8 y9 y10 y11, Upd st (.lst (acc ++ [dS (turnS h.n0 h.n1 s)])) S S' → P.nx [some (.ref o), some (.ref st), some (.int s.sign), some (.tup (s.cases.map dC)), y4, y5, y6, y7, y8, y9, y10, y11] S') :
    ws b2_m_House_turned [some (.ref o), some (.ref st), some (.int s.sign), some (.tup (s.cases.map dC)), x4, x5, x6, x7, x8, x9, x10, x11] S P := by
  have few : s.cases.length ≤ 16 := by
    have := asc_len so.asc (fun p hp => by
      obtain ⟨c, hc, rfl⟩ := List.mem_map.mp hp
      exact ⟨(so.cs c hc).a, (so.cs c hc).b⟩)
    rw [List.length_map] at this
    exact Nat.le_trans this (Nat.mul_le_mul k.m0b k.m1b)
  rw [b2_m_House_turned]
  simp
  refine ws_for (s.cases.map dC) (fun j η S' => (∃ y5 y6 y7 y8 y9 y10 y11, η = [some (.ref o), some (.ref st), some (.int s.sign), some (.tup (s.cases.map dC)), some (.ref S.length), y5, y6, y7, y8, y9, y10, y11]) ∧ Ext S S' ∧ S'[S.length]? = some (.lst (((s.cases.take j).map (turnC h.n0 h.n1)).map dC))) (by simp; unfold szL; omega) ?_ (fun j hj η S' => ?_) (fun η S' => ?_)
  · rw [wp_iEach, wp_eLoc]
    exact ⟨⟨⟨_, _, _, _, _, _, _, rfl⟩, Ext.push _ _, by simp⟩, fun i η S _ _ => rfl⟩
  · rintro ⟨⟨y5, y6, y7, y8, y9, y10, y11, rfl⟩, e, g⟩
    have hj' : j < s.cases.length := by simpa using hj
    have co := so.cs s.cases[j] (List.getElem_mem hj')
    refine ⟨_, by rw [List.getElem_map]; rfl, ?_⟩
    refine turn_b1 (e.at H) k g (by simp; omega) co fun S2 _ _ _ _ u => ?_
    refine ⟨⟨_, _, _, _, _, _, _, rfl⟩, e.upd u (Nat.le_refl _), ?_⟩
    rw [u.at_, take_map1 _ hj', List.map_append]
    rfl
  · rintro ⟨⟨y5, y6, y7, y8, y9, y10, y11, rfl⟩, e, g⟩
    rw [List.length_map, List.take_length] at g
    have gd : ∀ c ∈ s.cases.map (turnC h.n0 h.n1), Gd (dC c) := fun c hc => by
      obtain ⟨d, hd, rfl⟩ := List.mem_map.mp hc
      exact gnd_le (by decide) (gnd_dC (turnC_ok (so.cs d hd)) k.n1b k.n0b)
    have gds : Gds ((s.cases.map (turnC h.n0 h.n1)).map dC) := ⟨by simp; omega, fun x hx => by
      obtain ⟨c, hc, rfl⟩ := List.mem_map.mp hx
      exact gd c hc⟩
    have gst := e.get hst
    have inj := turn_inj h.n0 h.n1 so.asc
    simp only [kC_nx, ws_one, ws_sDrop, wp_eBm, wp_eLoc, List.getElem?_cons_succ, List.getElem?_cons_zero, wlo_some, kBm_ap, wp_isT_ref gst, kBm2_ap, wp_aL_cons, wp_eTup, kA_ap, wp_eCall, kA2_ap, wp_aL_nil, kM_ap]
    rw [wp_mSorted g gds (srtB_dC gd), srt_dC inj]
    have g1 : (S' ++ [Cell.lst ((srtC (s.cases.map (turnC h.n0 h.n1))).map dC)])[S'.length]? = some (.lst ((srtC (s.cases.map (turnC h.n0 h.n1))).map dC)) := by simp
    have g2 := (Ext.push S' [Cell.lst ((srtC (s.cases.map (turnC h.n0 h.n1))).map dC)]).get gst
    simp only [kA2_ap, wp_aL_nil, kM_ap, kA_ap]
    rw [wp_mTuple_ref g1]
    simp only [kA2_ap, wp_aL_nil, kM_ap, kA_ap, kT_ap, kBm3_ap]
    rw [wp_mAppend g2 (by unfold szL; omega)]
    exact hP _ _ _ _ _ _ _ _ _ (upd_of (e.app _) (lst_lt hst))
/-- House.turned -/
theorem turned_wp (H : At S o h) (k : h.Ok) (hQ : ∀ S' o', Ext S S' → S.length ≤ o' → At S' o' (turnV h) → Q (.ref o') S') : wp (m_House_turned [.ref o]) S Q X := by
  have le := k.le
  rw [w_m_House_turned, b_m_House_turned]
  simp
  refine ws_for (h.sts.map dS) (fun j η S' => (∃ y2 y3 y4 y5 y6 y7 y8 y9 y10 y11, η = [some (.ref o), some (.ref S.length), y2, y3, y4, y5, y6, y7, y8, y9, y10, y11]) ∧ Ext S S' ∧ S'[S.length]? = some (.lst (((h.sts.take j).map (turnS h.n0 h.n1)).map dS))) (by simp; unfold szL; omega) ?_ (fun j hj η S' => ?_) (fun η S' => ?_)
  · rw [wp_iEach, wp_eAttr, wp_eLoc]
    show wp (atB [(18, none)] 2 (.ref o)) _ _ _
    rw [((Ext.push _ _).at H).at2]
    exact ⟨⟨⟨_, _, _, _, _, _, _, _, _, _, rfl⟩, Ext.push _ _, by simp⟩, fun i η S _ _ => rfl⟩
  · rintro ⟨⟨y2, y3, y4, y5, y6, y7, y8, y9, y10, y11, rfl⟩, e, g⟩
    have hj' : j < h.sts.length := by simpa using hj
    have so := k.sts h.sts[j] (List.getElem_mem hj')
    refine ⟨_, by rw [List.getElem_map]; rfl, ?_⟩
    refine turn_b2 (e.at H) k g (by simp; omega) so fun S2 _ _ _ _ _ _ _ _ u => ?_
    refine ⟨⟨_, _, _, _, _, _, _, _, _, _, rfl⟩, e.upd u (Nat.le_refl _), ?_⟩
    rw [u.at_, take_map1 _ hj', List.map_append]
    rfl
  · rintro ⟨⟨y2, y3, y4, y5, y6, y7, y8, y9, y10, y11, rfl⟩, e, g⟩
    rw [List.length_map, List.take_length] at g
    have H' := e.at H
    simp [H'.at0]
    rw [show (dP h.ls) = .tup [.int h.m0, .int h.m1] from rfl]
    simp [H'.at1]
    rw [show (dP h.as) = .tup [.int h.n0, .int h.n1] from rfl]
    simp
    refine newN (h := turnV h) (turnV_ok k) g fun S2 e2 a2 => ?_
    exact hQ _ _ (e.trans e2) e.len a2
end
end Lw

end
section
set_option maxRecDepth 100000
set_option maxHeartbeats 2000000
set_option linter.all false
/-! turned twice; the order of turned pairs -/
namespace Lw
open Lt
theorem ofl {c : CaseV} {n0 n1 : Nat} (h : c.os.length = n0 * n1) {x y : Nat} (hx : x < n0) (hy : y < n1) : x * n1 + y < c.os.length := by
  rw [h]
  have : (x + 1) * n1 ≤ n0 * n1 := Nat.mul_le_mul_right _ hx
  rw [Nat.add_mul] at this
  omega
/-- an outcome of a turned case -/
theorem turn_at {c : CaseV} {n0 n1 : Nat} (h : c.os.length = n0 * n1) {x y : Nat} (hx : x < n0) (hy : y < n1) : (turnC n0 n1 c).os[y * n0 + x]? = c.os[x * n1 + y]? := by
  have l1 := ofl h hx hy
  have lt : y * n0 + x < n1 * n0 := by
    have : (y + 1) * n0 ≤ n1 * n0 := Nat.mul_le_mul_right _ hy
    rw [Nat.add_mul] at this
    omega
  unfold turnC
  dsimp only
  rw [List.getElem?_map, prs_at lt, List.getElem?_eq_getElem l1]
  have e1 : (y * n0 + x) / n0 = y := by
    rw [Nat.mul_comm, Nat.mul_add_div (by omega), Nat.div_eq_of_lt hx, Nat.add_zero]
  have e2 : (y * n0 + x) % n0 = x := by
    rw [Nat.mul_comm, Nat.mul_add_mod, Nat.mod_eq_of_lt hx]
  rw [e1, e2]
  simp [l1]
theorem turnC_two {c : CaseV} {n0 n1 : Nat} (h : c.os.length = n0 * n1) : turnC n1 n0 (turnC n0 n1 c) = c := by
  obtain ⟨a, b, os⟩ := c
  have e : (turnC n1 n0 (turnC n0 n1 ⟨a, b, os⟩)).os = os := by
    refine List.ext_getElem? fun i => ?_
    by_cases hi : i < n0 * n1
    · have hn1 : 0 < n1 := by
        rcases Nat.eq_zero_or_pos n1 with z | z
        · rw [z, Nat.mul_zero] at hi; omega
        · exact z
      have hx : i / n1 < n0 := Nat.div_lt_of_lt_mul (by rw [Nat.mul_comm]; exact hi)
      have hy : i % n1 < n1 := Nat.mod_lt _ hn1
      have ei : i / n1 * n1 + i % n1 = i := by rw [Nat.mul_comm]; exact Nat.div_add_mod i n1
      have h2 : (turnC n0 n1 ⟨a, b, os⟩).os.length = n1 * n0 := by simp [turnC, prs_len]
      have t1 := turn_at (c := turnC n0 n1 ⟨a, b, os⟩) (n0 := n1) (n1 := n0) h2 hy hx
      rw [ei] at t1
      rw [t1, turn_at h hx hy, ei]
    · rw [List.getElem?_eq_none (by simp [turnC, prs_len]; omega), List.getElem?_eq_none (by have : os.length = n0 * n1 := h; omega)]
  exact congrArg (CaseV.mk a b) e
theorem sorted_uniq : ∀ {as bs : List CaseV}, (as.map CaseV.p).Pairwise pLt → (bs.map CaseV.p).Pairwise pLt → as.Perm bs → as = bs := by
  intro as bs h1 h2 hp
  refine hp.eq_of_pairwise (le := fun c d => c.p = d.p ∨ pLt c.p d.p) (fun a b ha hb h3 h4 => ?_) ?_ ?_
  · have inj := asc_inj h1
    rcases h3 with z | z
    · exact inj a ha b (hp.mem_iff.mpr hb) z
    · rcases h4 with y | y
      · exact inj a ha b (hp.mem_iff.mpr hb) y.symm
      · unfold pLt at z y
        omega
  · rw [List.pairwise_map] at h1
    exact h1.imp fun h => .inr h
  · rw [List.pairwise_map] at h2
    exact h2.imp fun h => .inr h
theorem turnS_two {m0 m1 n0 n1 k : Nat} {s : StateV} (so : s.Ok m0 m1 n0 n1 k) : turnS n1 n0 (turnS n0 n1 s) = s := by
  have so1 := turnS_ok so
  have so2 := turnS_ok so1
  obtain ⟨sg, cs⟩ := s
  unfold turnS at *
  dsimp only at *
  congr 1
  refine sorted_uniq so2.asc so.asc ?_
  refine (srtC_perm _).trans (((srtC_perm _).map (turnC n1 n0)).trans ?_)
  rw [List.map_map]
  have : cs.map (turnC n1 n0 ∘ turnC n0 n1) = cs.map id := List.map_congr_left fun c hc => turnC_two (so.cs c hc).len
  rw [this, List.map_id]
theorem turnV_two {h : HouseV} (k : h.Ok) : turnV (turnV h) = h := by
  obtain ⟨m0, m1, n0, n1, sts⟩ := h
  show HouseV.mk m0 m1 n0 n1 ((sts.map (turnS n0 n1)).map (turnS n1 n0)) = _
  rw [List.map_map]
  have : sts.map (turnS n1 n0 ∘ turnS n0 n1) = sts.map id := List.map_congr_left fun s hs => turnS_two (k.sts s hs)
  rw [this, List.map_id]
/-! pairs, sorted -/
theorem le_dP (p q : Nat × Nat) : pLe p q = PySem.W.dataLe false (fun x : D × PySem.PyData => x.2) (dP p, pd (dP p)) (dP q, pd (dP q)) := by
  show pLe p q = !PySem.W.dataLt (.tuple [.int q.1, .int q.2]) (.tuple [.int p.1, .int p.2])
  rw [PySem.W.dataLt_pair rfl rfl]
  simp only [PySem.PyData.eqv, PySem.W.dataLt_int]
  by_cases h1 : q.1 = p.1
  · have e1 : ((q.1 : Int) == (p.1 : Int)) = true := by simp [h1]
    rw [e1, if_pos rfl]
    by_cases h2 : q.2 = p.2
    · have e2 : ((q.2 : Int) == (p.2 : Int)) = true := by simp [h2]
      rw [e2, if_pos rfl, Bool.eq_iff_iff, pLe_iff]
      simp
      omega
    · have e2 : ((q.2 : Int) == (p.2 : Int)) = false := by simp; omega
      rw [e2, if_neg (by simp), Bool.eq_iff_iff, pLe_iff]
      simp only [Bool.not_eq_true', decide_eq_false_iff_not]
      omega
  · have e1 : ((q.1 : Int) == (p.1 : Int)) = false := by simp; omega
    rw [e1, if_neg (by simp), Bool.eq_iff_iff, pLe_iff]
    simp only [Bool.not_eq_true', decide_eq_false_iff_not]
    omega
theorem srt_dP (ps : List (Nat × Nat)) : srtD (ps.map dP) ((ps.map dP).map pd) = (ps.mergeSort pLe).map dP := srt_by fun c _ d _ => le_dP c d
theorem srtC_p (cs : List CaseV) : (srtC cs).map CaseV.p = (cs.map CaseV.p).mergeSort pLe := by
  unfold srtC
  exact List.map_mergeSort (f := CaseV.p) (r := fun c d : CaseV => pLe c.p d.p) (s := pLe) fun _ _ _ _ => rfl
theorem srtB_dP (ps : List (Nat × Nat)) : srtB ((ps.map dP).map pd) = true := by
  unfold srtB
  rw [Bool.and_eq_true, Bool.and_eq_true, Bool.or_eq_true]
  refine ⟨?_, ?_, .inl ?_⟩
  · rw [List.all_eq_true]
    intro p hp
    obtain ⟨d, hd, rfl⟩ := List.mem_map.mp hp
    obtain ⟨c, hc, rfl⟩ := List.mem_map.mp hd
    rfl
  · unfold alikeB
    rw [List.all_eq_true]
    intro p hp
    rw [List.all_eq_true]
    intro q hq
    obtain ⟨d, hd, rfl⟩ := List.mem_map.mp hp
    obtain ⟨c, hc, rfl⟩ := List.mem_map.mp hd
    obtain ⟨d, hd, rfl⟩ := List.mem_map.mp hq
    obtain ⟨c', hc', rfl⟩ := List.mem_map.mp hd
    rfl
  · rw [List.all_eq_true]
    intro p hp
    obtain ⟨d, hd, rfl⟩ := List.mem_map.mp hp
    obtain ⟨c, hc, rfl⟩ := List.mem_map.mp hd
    rfl
end Lw

end
section
set_option maxRecDepth 100000
set_option maxHeartbeats 2000000
set_option linter.all false
/-! the laws' own look at a drawn house, and plays -/
namespace Lw
open Lt
section
variable {S : Sto} {h : HouseV} {k n : Nat} {Q : D → Sto → Prop} {X : Nat → List (Nat × D) → Sto → Prop} {P : Pst}
def plainD (h : HouseV) (k : Nat) : D := .tup [dP h.ls, dP h.as, .ref k]
theorem made_wp (ok : h.Ok) (hk : S[k]? = some (.lst (h.sts.map dS))) (hQ : ∀ S' o', Ext S S' → S.length ≤ o' → At S' o' h → Q (.ref o') S') : wp (f__law_made [plainD h k]) S Q X := by
  rw [w_f__law_made, b_f__law_made]
  simp [plainD]
  rw [wp_mList_ref hk]
  simp
  refine newN ok (by simp) fun S' e a => ?_
  exact hQ S' _ ((Ext.push _ _).trans e) (by simp) a
theorem let_eq (ok : h.Ok) (hk : S[k]? = some (.lst (h.sts.map dS))) {i : Nat} {s : StateV} (hi : h.sts[i]? = some s) : f__law_let [plainD h k, .int i] S = .ok (.ref S.length) (S ++ [.lst (s.ps.map dP)]) := eq_of_wp (by
  have few := ok.few hi
  rw [w_f__law_let, b_f__law_let]
  simp only [ws_one, ws_sRet, wp_eAlc]
  refine wp_lc1m (s.cases.map dC) hdD (by simp; unfold szL; omega) ?_
  simp [plainD, wp_lsAt hk, atI_dS hi]
  rw [show dS s = .tup [.int s.sign, .tup (s.cases.map dC)] from rfl]
  simp
  refine ⟨fun i _ => by simp [itT_at], fun c hc => ?_, ?_⟩
  · simp [dC, hdD]
  · simp [StateV.ps, dC, hdD, dP, CaseV.p])
theorem outcomeL_eq (ok : h.Ok) (hk : S[k]? = some (.lst (h.sts.map dS))) {i j : Nat} {s : StateV} {c : CaseV} (hi : h.sts[i]? = some s) (hj : s.cases[j]? = some c) {q r : Nat × Nat} (hq : q.1 < h.n0 ∧ q.2 < h.n1) (hr : c.os[q.1 * h.n1 + q.2]? = some r) : f__law_outcome [plainD h k, .int i, dP c.p, dP q] S = .ok (dP r) S := eq_of_wp (by
  have few := ok.few hi
  have so := ok.st hi
  have n1 := ok.n1b
  have n0 := ok.n0b
  have ix : L2.atI (c.os.map dP) ((q.1 : Int) * h.n1 + q.2) = some (dP r) := by
    have := atI_at (xs := c.os.map dP) (i := q.1 * h.n1 + q.2) (x := dP r) (by simp [hr])
    simpa using this
  have mk : mulOk (q.1 : Int) (h.n1 : Int) = true := mulOk_r (by omega) (by omega)
  rw [w_f__law_outcome, b_f__law_outcome]
  simp only [ws_cons]
  refine ws_for (s.cases.map dC) (fun m η S' => (∃ y4 y5 y6, η = [some (plainD h k), some (.int i), some (dP c.p), some (dP q), y4, y5, y6]) ∧ S' = S ∧ m ≤ j) (by simp; unfold szL; omega) ?_ (fun m hm η S' => ?_) (fun η S' => ?_)
  · simp [plainD, wp_lsAt hk, atI_dS hi]
    rw [show dS s = .tup [.int s.sign, .tup (s.cases.map dC)] from rfl]
    simp
    exact fun i hi => by simp [itT_at]
  · rintro ⟨⟨y4, y5, y6, rfl⟩, rfl, hmj⟩
    have hm' : m < s.cases.length := by simpa using hm
    refine ⟨_, by rw [List.getElem_map]; rfl, ?_⟩
    rw [b1_f__law_outcome]
    simp only [ws_one, ws_sIf, wp_bCmp, wp_eTup, wp_aL_cons, wp_aL_nil, wp_eLoc, List.set_cons_succ, List.set_cons_zero, List.getElem?_cons_succ, List.getElem?_cons_zero, wlo_some, kA_ap, kA2_ap, kT_ap, kCmp_ap, kCmp2_ap, cmB_eq]
    rw [show D.tup [D.int (s.cases[m].a : Nat), D.int (s.cases[m].b : Nat)] = dP s.cases[m].p from rfl, wp_eqD (gd_dP _) (gd_dP _)]
    by_cases e : m = j
    · subst e
      have ec : s.cases[m] = c := by
        have := List.getElem?_eq_getElem hm'
        rw [this] at hj
        exact Option.some.inj hj
      rw [ec]
      rw [show dP q = .tup [.int q.1, .int q.2] from rfl]
      simp [plainD, ix, mk, show dP h.as = .tup [.int h.n0, .int h.n1] from rfl]
    · have ne : s.cases[m].p ≠ c.p := fun z => by
        have h1 : s.ps[m]? = some s.cases[m].p := by simp [StateV.ps, hm']
        have h2 : s.ps[j]? = some c.p := by simp [StateV.ps, hj]
        exact asc_first so.asc h2 (by omega) (z ▸ h1)
      have ne2 : ¬ dP s.cases[m].p = dP c.p := fun z => ne (dP_inj.mp z)
      simp [ne2]
      omega
  · rintro ⟨⟨y4, y5, y6, rfl⟩, rfl, hmj⟩
    have := (List.getElem?_eq_some_iff.mp hj).1
    simp at hmj
    omega)
/-! ### plays -/
/-- a beat: where, the letters, the answers, the outcome -/
structure Bt where
  i : Nat
  p : Nat × Nat
  q : Nat × Nat
  r : Nat × Nat
/-- it can happen in h -/
structure Bt.In (h : HouseV) (b : Bt) : Prop where
  ex : ∃ s c, h.sts[b.i]? = some s ∧ c ∈ s.cases ∧ c.p = b.p ∧ b.q.1 < h.n0 ∧ b.q.2 < h.n1 ∧ c.os[b.q.1 * h.n1 + b.q.2]? = some b.r
def dB (b : Bt) : D := .tup [.int (b.p.1 : Nat), .int (b.p.2 : Nat), .int (b.q.1 : Nat), .int (b.q.2 : Nat)]
/-- a play from i to j -/
inductive Play (h : HouseV) (i : Nat) : List Bt → Nat → Prop
  | nil : Play h i [] i
  | snoc {bs : List Bt} {b : Bt} : Play h i bs b.i → b.In h → Play h i (bs ++ [b]) b.r.1
def dN (i : Nat) : D := .int (i : Nat)
theorem Bt.In.goal {b : Bt} (ok : h.Ok) (hb : b.In h) : b.r.1 < h.sts.length ∧ b.r.2 ≤ 99 := by
  obtain ⟨s, c, h1, h2, h3, h4, h5, h6⟩ := hb.ex
  exact ((ok.st h1).cs c h2).os _ (List.mem_of_getElem? h6)
theorem Play.lt (ok : h.Ok) {i j : Nat} {bs : List Bt} (p : Play h i bs j) (hi : i < h.sts.length) : j < h.sts.length := by
  cases p with
  | nil => exact hi
  | snoc _ b => exact (b.goal ok).1
theorem of_wp {xs : List D} {l : Nat} (hb : Bag S n) (h : S[l]? = some (.lst xs)) (hl : l ≠ n) (h0 : xs ≠ []) (hz : xs.length < 1000000) (hQ : ∀ x S', x ∈ xs → Drw n S S' → Q x S') : wp (f__law_of [.ref n, .ref l]) S Q X := by
  obtain ⟨x, S', e, hx, d, _⟩ := of_ok hb h hl h0 hz
  rw [wp_eq e]
  exact hQ x S' hx d
theorem app_at (S T : Sto) (i : Nat) : (S ++ T)[S.length + i]? = T[i]? := by
  rw [List.getElem?_append_right (Nat.le_add_right _ _), Nat.add_sub_cancel_left]
theorem draw_wp (hb : Bag S n) {many : Int} (k1 : 0 < many) (k2 : many < 1073741824) (hQ : ∀ v S', 0 ≤ v → v < many → Drw n S S' → Q (.int v) S') : wp (f__law_draw [.ref n, .int many]) S Q X := by
  obtain ⟨v, S', e, h0, h1, d, _⟩ := draw_ok hb k1 k2
  rw [wp_eq e]
  exact hQ v S' h0 h1 d
/-- one beat of a play -/
theorem play_b1 {S0 : Sto} (ok : h.Ok) (hb0 : Bag S0 n) (d : Drw n S0 S) (hk : S0[k]? = some (.lst (h.sts.map dS))) (hkn : k ≠ n) {i : Nat} (hi : i < h.sts.length) {lb lp lm : Nat} {ab ap am : List D}
    (gb : S[lb]? = some (.lst ab)) (gp : S[lp]? = some (.lst ap)) (gm : S[lm]? = some (.lst am)) (l1 : S0.length ≤ lb) (l2 : S0.length ≤ lp) (l3 : S0.length ≤ lm) (n12 : lb ≠ lp) (n13 : lb ≠ lm) (n23 : lp ≠ lm) (z1 : ab.length ≤ 1000) (z2 : ap.length ≤ 1000) (z3 : am.length ≤ 1000)
    {x2 x7 x8 x9 x10 x11 x12 : Option D}
    (hP : ∀ S' b y8 y9 y10 y11 y12, b.i = i → b.In h → Drw n S0 S' → S'[lb]? = some (.lst (ab ++ [dB b])) → S'[lp]? = some (.lst (ap ++ [dN b.r.2])) → S'[lm]? = some (.lst (am ++ [dN b.r.1])) → P.nx [some (.ref n), some (plainD h k), x2, some (dN b.r.1), some (.ref lb), some (.ref lp), some (.ref lm), x7, y8, y9, y10, y11, y12] S') :
    ws b1_f__law_play [some (.ref n), some (plainD h k), x2, some (.int i), some (.ref lb), some (.ref lp), some (.ref lm), x7, x8, x9, x10, x11, x12] S P := by
  have hn := hb0.lt
  obtain ⟨s, hs⟩ : ∃ s, h.sts[i]? = some s := ⟨_, List.getElem?_eq_getElem hi⟩
  have few := ok.few hs
  have so := ok.st hs
  have hkS := d.get hk hkn
  have n0 := ok.n0b
  have n1 := ok.n1b
  have lt0 := d.len
  rw [b1_f__law_play]
  simp [wp_eq (let_eq ok hkS hs)]
  have d1 : Drw n S0 (S ++ [Cell.lst (s.ps.map dP)]) := d.trans (.push d.bag)
  have ne : s.ps.map dP ≠ [] := by
    simp [StateV.ps]
    exact so.ne
  refine of_wp d1.bag (l := S.length) (xs := s.ps.map dP) (by simp) (by omega) ne (by simp [StateV.ps]; omega) fun x S2 hx d2 => ?_
  obtain ⟨p, hp, rfl⟩ := List.mem_map.mp hx
  obtain ⟨c, hc, rfl⟩ := List.mem_map.mp hp
  have e2 := d1.trans d2
  rw [show dP c.p = .tup [.int c.p.1, .int c.p.2] from rfl]
  simp
  obtain ⟨l, T, ep, gl, ge⟩ := pairs_ok (S := S2) (a := h.n0) (b := h.n1) (by omega) (by omega)
  rw [← prs_D] at gl
  have as : dP h.as = .tup [.int h.n0, .int h.n1] := rfl
  simp [plainD, as, wp_eq ep]
  have e3 := e2.trans (Drw.push (T := T) e2.bag)
  have ne2 : (prs h.n0 h.n1).map dP ≠ [] := by
    intro z
    have := congrArg List.length z
    rw [List.length_map, prs_len] at this
    have := Nat.mul_pos ok.n0a ok.n1a
    simp at *
    omega
  refine of_wp e3.bag (l := l) gl (by have := e2.len; omega) ne2 (by rw [List.length_map, prs_len]; have := Nat.mul_le_mul n0 n1; omega) fun y S3 hy d4 => ?_
  obtain ⟨q, hq, rfl⟩ := List.mem_map.mp hy
  have hq := mem_prs.mp hq
  have e4 := e3.trans d4
  rw [show dP q = .tup [.int q.1, .int q.2] from rfl]
  simp
  obtain ⟨j, hj⟩ := List.mem_iff_getElem?.mp hc
  have co := so.cs c hc
  have lt : q.1 * h.n1 + q.2 < c.os.length := by
    rw [co.len]
    have : (q.1 + 1) * h.n1 ≤ h.n0 * h.n1 := Nat.mul_le_mul_right _ hq.1
    rw [Nat.add_mul] at this
    omega
  have hr := List.getElem?_eq_getElem lt
  have oe := outcomeL_eq (S := S3) ok (e4.get hk hkn) hs hj hq hr
  rw [show plainD h k = .tup [dP h.ls, .tup [.int h.n0, .int h.n1], .ref k] from rfl, show dP c.p = .tup [.int c.p.1, .int c.p.2] from rfl, show dP q = .tup [.int q.1, .int q.2] from rfl] at oe
  rw [wp_eq oe, show dP c.os[q.1 * h.n1 + q.2] = .tup [.int (c.os[q.1 * h.n1 + q.2].1 : Nat), .int (c.os[q.1 * h.n1 + q.2].2 : Nat)] from rfl]
  simp
  have dS : Drw n S S3 := (Drw.push d.bag).trans (d2.trans ((Drw.push d2.bag).trans d4))
  have gb3 := dS.get gb (by omega)
  have gp3 := dS.get gp (by omega)
  have gm3 := dS.get gm (by omega)
  have e5 := e4.set hb0 l1 (.lst (ab ++ [.tup [.int c.p.1, .int c.p.2, .int q.1, .int q.2]]))
  have gb4 : (S3.set lb (.lst (ab ++ [.tup [.int c.p.1, .int c.p.2, .int q.1, .int q.2]])))[lb]? = some (.lst (ab ++ [.tup [.int c.p.1, .int c.p.2, .int q.1, .int q.2]])) := List.getElem?_set_self (lst_lt gb3)
  have gp4 : (S3.set lb (.lst (ab ++ [.tup [.int c.p.1, .int c.p.2, .int q.1, .int q.2]])))[lp]? = some (.lst ap) := by rw [List.getElem?_set_ne n12]; exact gp3
  have gm4 : (S3.set lb (.lst (ab ++ [.tup [.int c.p.1, .int c.p.2, .int q.1, .int q.2]])))[lm]? = some (.lst am) := by rw [List.getElem?_set_ne n13]; exact gm3
  rw [wp_isT_ref gb3]
  simp [wp_mAppend gb3 (show ab.length < szL by unfold szL; omega)]
  generalize S3.set lb (.lst (ab ++ [.tup [.int c.p.1, .int c.p.2, .int q.1, .int q.2]])) = S4 at e5 gb4 gp4 gm4 ⊢
  rw [wp_isT_ref gp4]
  simp [wp_mAppend gp4 (show ap.length < szL by unfold szL; omega)]
  have e6 := e5.set hb0 l2 (.lst (ap ++ [.int (c.os[q.1 * h.n1 + q.2].2 : Nat)]))
  have gb5 : (S4.set lp (.lst (ap ++ [.int (c.os[q.1 * h.n1 + q.2].2 : Nat)])))[lb]? = some (.lst (ab ++ [.tup [.int c.p.1, .int c.p.2, .int q.1, .int q.2]])) := by rw [List.getElem?_set_ne (Ne.symm n12)]; exact gb4
  have gp5 : (S4.set lp (.lst (ap ++ [.int (c.os[q.1 * h.n1 + q.2].2 : Nat)])))[lp]? = some (.lst (ap ++ [.int (c.os[q.1 * h.n1 + q.2].2 : Nat)])) := List.getElem?_set_self (lst_lt gp4)
  have gm5 : (S4.set lp (.lst (ap ++ [.int (c.os[q.1 * h.n1 + q.2].2 : Nat)])))[lm]? = some (.lst am) := by rw [List.getElem?_set_ne n23]; exact gm4
  generalize S4.set lp (.lst (ap ++ [.int (c.os[q.1 * h.n1 + q.2].2 : Nat)])) = S5 at e6 gb5 gp5 gm5 ⊢
  rw [wp_isT_ref gm5]
  simp [wp_mAppend gm5 (show am.length < szL by unfold szL; omega)]
  exact hP _ ⟨i, c.p, q, c.os[q.1 * h.n1 + q.2]⟩ _ _ _ _ _ rfl ⟨s, c, hs, hc, rfl, hq.1, hq.2, hr⟩ (e6.set hb0 l3 _) (by rw [List.getElem?_set_ne (Ne.symm n13)]; exact gb5) (by rw [List.getElem?_set_ne (Ne.symm n23)]; exact gp5) (List.getElem?_set_self (lst_lt gm5))
/-- a play is drawn -/
theorem play_wp (ok : h.Ok) (hb : Bag S n) (hk : S[k]? = some (.lst (h.sts.map dS))) (hkn : k ≠ n) {most : Nat} (hm : most ≤ 100)
    (hQ : ∀ S' lb lp lm bs j, Drw n S S' → Play h 0 bs j → bs.length ≤ 100 → S.length ≤ lb → S.length ≤ lp → S.length ≤ lm → S'[lb]? = some (.lst (bs.map dB)) → S'[lp]? = some (.lst (bs.map fun b => dN b.r.2)) → S'[lm]? = some (.lst (dN 0 :: bs.map fun b => dN b.r.1)) → Q (.tup [.ref lb, .ref lp, .ref lm]) S') :
    wp (f__law_play [.ref n, plainD h k, .int most]) S Q X := by
  rw [w_f__law_play, b_f__law_play]
  simp
  have ln : n < S.length := hb.lt
  have d0 : Drw n S (S ++ [Cell.lst [], Cell.lst [], Cell.lst [.int 0]]) := .push hb
  have a0 : (S ++ [Cell.lst [], Cell.lst [], Cell.lst [.int 0]])[S.length]? = some (.lst []) := app_at S _ 0
  have a1 : (S ++ [Cell.lst [], Cell.lst [], Cell.lst [.int 0]])[S.length + 1]? = some (.lst []) := app_at S _ 1
  have a2 : (S ++ [Cell.lst [], Cell.lst [], Cell.lst [.int 0]])[S.length + 1 + 1]? = some (.lst [.int 0]) := app_at S _ 2
  generalize S ++ [Cell.lst [], Cell.lst [], Cell.lst [.int 0]] = S1 at d0 a0 a1 a2 ⊢
  obtain ⟨v, S2, ev, h0, h1, dv, _⟩ := draw_ok d0.bag (many := (most : Int) + 1) (by omega) (by omega)
  obtain ⟨w, rfl⟩ := Int.eq_ofNat_of_zero_le h0
  have d2 := d0.trans dv
  refine ws_for (rngD w) (fun j η S' => ∃ bs i y7 y8 y9 y10 y11 y12, η = [some (.ref n), some (plainD h k), some (.int most), some (dN i), some (.ref S.length), some (.ref (S.length + 1)), some (.ref (S.length + 1 + 1)), y7, y8, y9, y10, y11, y12] ∧ Drw n S S' ∧ Play h 0 bs i ∧ bs.length = j ∧
    S'[S.length]? = some (.lst (bs.map dB)) ∧ S'[S.length + 1]? = some (.lst (bs.map fun b => dN b.r.2)) ∧ S'[S.length + 1 + 1]? = some (.lst (dN 0 :: bs.map fun b => dN b.r.1))) (by rw [rngD_len]; unfold szL; omega) ?_ (fun j hj η S' => ?_) (fun η S' => ?_)
  · simp only [wp_iRange1, wp_eCall, wp_aL_cons, wp_eLoc, List.getElem?_cons_succ, List.getElem?_cons_zero, wlo_some, kA_ap, wp_eBin, kBin_ap, wp_eC, kBin2_ap, opB_add, wp_ret, wp_aL_nil, kA2_ap, kM_ap, wp_eq ev]
    rw [wp_rng1N (by omega)]
    refine ⟨⟨[], 0, _, _, _, _, _, _, rfl, d2, .nil, rfl, dv.get a0 (by omega), dv.get a1 (by omega), dv.get a2 (by omega)⟩, fun i η S _ _ => itR_at S _ i⟩
  · rintro ⟨bs, i, y7, y8, y9, y10, y11, y12, rfl, d, pl, rfl, gb, gp, gm⟩
    have hlt := pl.lt ok ok.ne
    have lj : bs.length < w := by rw [rngD_len] at hj; exact hj
    refine ⟨_, rfl, ?_⟩
    refine play_b1 ok hb d hk hkn hlt gb gp gm (Nat.le_refl _) (by omega) (by omega) (by omega) (by omega) (by omega) (by simp; omega) (by simp; omega) (by simp; omega) fun S3 b _ _ _ _ _ hi hin d3 g1 g2 g3 => ?_
    subst hi
    exact ⟨bs ++ [b], b.r.1, _, _, _, _, _, _, rfl, d3, pl.snoc hin, by simp, by rw [g1, List.map_append]; rfl, by rw [g2, List.map_append]; rfl, by rw [g3, List.map_append]; rfl⟩
  · rintro ⟨bs, i, y7, y8, y9, y10, y11, y12, rfl, d, pl, lj, gb, gp, gm⟩
    rw [rngD_len] at lj
    simp
    exact hQ _ _ _ _ bs i d pl (by omega) (Nat.le_refl _) (by omega) (by omega) gb gp gm
end
end Lw

end
section
set_option maxRecDepth 100000
set_option maxHeartbeats 2000000
set_option linter.all false
/-! a play, followed in a house -/
namespace Lw
open Lt
theorem play_end {h : HouseV} {i j : Nat} {bs : List Bt} {b : Bt} (p : Play h i (bs ++ [b]) j) : Play h i bs b.i ∧ b.In h ∧ j = b.r.1 := by
  generalize e : bs ++ [b] = cs at p
  cases p with
  | nil => simp at e
  | snoc q hb =>
    obtain ⟨rfl, e2⟩ := List.append_inj' e rfl
    cases e2
    exact ⟨q, hb, rfl⟩
theorem play_take {h : HouseV} {i : Nat} : ∀ {bs : List Bt} {j : Nat}, Play h i bs j → ∀ m, ∃ j', Play h i (bs.take m) j'
  | _, _, .nil, m => ⟨i, by rw [List.take_nil]; exact .nil⟩
  | _, _, .snoc (bs := bs) (b := b) q hb, m => by
    by_cases hm : m ≤ bs.length
    · rw [List.take_append_of_le_length hm]
      exact play_take q m
    · rw [List.take_of_length_le (by simp; omega)]
      exact ⟨_, .snoc q hb⟩
theorem play_uniq {h : HouseV} {i : Nat} {bs : List Bt} {j j' : Nat} (p : Play h i bs j) (q : Play h i bs j') : j = j' := by
  cases p with
  | nil =>
    cases bs' : ([] : List Bt) with
    | nil =>
      generalize e : ([] : List Bt) = cs at q
      cases q with
      | nil => rfl
      | snoc _ _ => simp at e
    | cons a b => cases bs'
  | snoc p hb => exact (play_end q).2.2.symm
theorem play_at {h : HouseV} {i j : Nat} {bs : List Bt} (p : Play h i bs j) {m : Nat} (hm : m < bs.length) : Play h i (bs.take m) bs[m].i ∧ bs[m].In h := by
  obtain ⟨j', q⟩ := play_take p (m + 1)
  rw [List.take_add_one, List.getElem?_eq_getElem hm] at q
  obtain ⟨h1, h2, _⟩ := play_end (b := bs[m]) q
  exact ⟨h1, h2⟩
def sgn (h : HouseV) (i : Nat) : Nat := ((h.sts[i]?).map StateV.sign).getD 0
theorem sgn_at {h : HouseV} {i : Nat} {s : StateV} (hs : h.sts[i]? = some s) : sgn h i = s.sign := by
  unfold sgn
  rw [hs]
  rfl
section
variable {S : Sto} {h : HouseV} {o : Nat} {Q : D → Sto → Prop} {X : Nat → List (Nat × D) → Sto → Prop} {P : Pst}
theorem follow_b1 {S0 : Sto} (ok : h.Ok) (e : Ext S0 S) (H : At S0 o h) {b : Bt} (hb : b.In h) {lp ls : Nat} {ap as : List D} (gp : S[lp]? = some (.lst ap)) (gs : S[ls]? = some (.lst as)) (l1 : S0.length ≤ lp) (l2 : S0.length ≤ ls) (ne : lp ≠ ls) (z1 : ap.length ≤ 1000) (z2 : as.length ≤ 1000) {x1 x9 : Option D}
    (hP : ∀ S' y9, Ext S0 S' → S'[lp]? = some (.lst (ap ++ [dN b.r.2])) → S'[ls]? = some (.lst (as ++ [dN (sgn h b.r.1)])) → P.nx [some (.ref o), x1, some (dN b.r.1), some (.ref lp), some (.ref ls), some (.int b.p.1), some (.int b.p.2), some (.int b.q.1), some (.int b.q.2), y9] S') :
    ws b1_f__law_followed [some (.ref o), x1, some (dN b.i), some (.ref lp), some (.ref ls), some (.int b.p.1), some (.int b.p.2), some (.int b.q.1), some (.int b.q.2), x9] S P := by
  obtain ⟨s, c, hs, hc, hp, hq1, hq2, hr⟩ := hb.ex
  have gl := hb.goal ok
  obtain ⟨t, ht⟩ : ∃ t, h.sts[b.r.1]? = some t := ⟨_, List.getElem?_eq_getElem gl.1⟩
  have few := ok.few hs
  obtain ⟨j, hj⟩ := List.mem_iff_getElem?.mp hc
  have HS := e.at H
  have memp : b.p ∈ s.ps := by
    rw [← hp]
    exact List.mem_map_of_mem hc
  rw [b1_f__law_followed]
  simp [HS.mo, dN, wp_pairs ok HS hs]
  rw [show D.tup [D.int (b.p.1 : Nat), D.int (b.p.2 : Nat)] = dP b.p from rfl]
  rw [wp_inD_ref (gd_dP b.p) (xs := s.ps.map dP) (by simp) (gds_dP (by simp [StateV.ps]; omega))]
  have e1 := e.app [Cell.lst (s.ps.map dP)]
  have gp1 := (Ext.push S [Cell.lst (s.ps.map dP)]).get gp
  have gs1 := (Ext.push S [Cell.lst (s.ps.map dP)]).get gs
  simp [mem_dP, memp]
  generalize S ++ [Cell.lst (s.ps.map dP)] = S1 at e1 gp1 gs1 ⊢
  have H1 := e1.at H
  obtain ⟨T, eo⟩ := outcome_eq (S := S1) ok H1 hs hj ⟨hq1, hq2⟩ hr
  rw [hp, show dP b.p = D.tup [D.int (b.p.1 : Nat), D.int (b.p.2 : Nat)] from rfl, show dP b.q = D.tup [D.int (b.q.1 : Nat), D.int (b.q.2 : Nat)] from rfl] at eo
  simp [H1.mo, wp_eq eo]
  rw [show dP b.r = .tup [.int b.r.1, .int b.r.2] from rfl]
  simp
  have e2 := e1.app T
  have gp2 := (Ext.push S1 T).get gp1
  have gs2 := (Ext.push S1 T).get gs1
  generalize S1 ++ T = S2 at e2 gp2 gs2 ⊢
  rw [wp_isT_ref gp2]
  simp [wp_mAppend gp2 (show ap.length < szL by unfold szL; omega)]
  have e3 := e2.set (.lst (ap ++ [.int (b.r.2 : Nat)])) l1
  have gp3 : (S2.set lp (.lst (ap ++ [.int (b.r.2 : Nat)])))[lp]? = some (.lst (ap ++ [.int (b.r.2 : Nat)])) := List.getElem?_set_self (lst_lt gp2)
  have gs3 : (S2.set lp (.lst (ap ++ [.int (b.r.2 : Nat)])))[ls]? = some (.lst as) := by rw [List.getElem?_set_ne ne]; exact gs2
  generalize S2.set lp (.lst (ap ++ [.int (b.r.2 : Nat)])) = S3 at e3 gp3 gs3 ⊢
  have H3 := e3.at H
  rw [wp_isT_ref gs3]
  simp [H3.mo, wp_sign H3 ht, wp_mAppend gs3 (show as.length < szL by unfold szL; omega)]
  refine hP _ _ (e3.set _ l2) (by rw [List.getElem?_set_ne (Ne.symm ne)]; exact gp3) ?_
  rw [List.getElem?_set_self (lst_lt gs3), sgn_at ht]
  rfl
theorem follow_wp (ok : h.Ok) (H : At S o h) {bs : List Bt} {j le : Nat} (pl : Play h 0 bs j) (hz : bs.length ≤ 100) (gl : S[le]? = some (.lst (bs.map dB)))
    (hQ : ∀ S' lp ls, Ext S S' → S'[lp]? = some (.lst (bs.map fun b => dN b.r.2)) → S'[ls]? = some (.lst (dN (sgn h 0) :: bs.map fun b => dN (sgn h b.r.1))) → Q (.tup [.ref lp, .ref ls]) S') : wp (f__law_followed [.ref o, .ref le]) S Q X := by
  obtain ⟨s0, hs0⟩ : ∃ s, h.sts[0]? = some s := ⟨_, List.getElem?_eq_getElem ok.ne⟩
  rw [w_f__law_followed, b_f__law_followed]
  have H1 := H.grow [.lst []]
  have sg := fun (Q : D → Sto → Prop) X => wp_sign (Q := Q) (X := X) H1 hs0
  simp at sg
  simp [H1.mo, sg]
  refine ws_for (bs.map dB) (fun m η S' => ∃ i y5 y6 y7 y8 y9, η = [some (.ref o), some (.ref le), some (dN i), some (.ref S.length), some (.ref (S.length + 1)), y5, y6, y7, y8, y9] ∧ Ext S S' ∧ Play h 0 (bs.take m) i ∧
    S'[S.length]? = some (.lst ((bs.take m).map fun b => dN b.r.2)) ∧ S'[S.length + 1]? = some (.lst (dN (sgn h 0) :: (bs.take m).map fun b => dN (sgn h b.r.1)))) (by simp; unfold szL; omega) ?_ (fun m hm η S' => ?_) (fun η S' => ?_)
  · rw [wp_iEach, wp_eLoc]
    show wp (itOf (.ref le)) _ _ _
    rw [wp_itOf_ref ((Ext.push _ _).get gl)]
    refine ⟨⟨0, _, _, _, _, _, rfl, .push _ _, .nil, by simp, by simp [sgn_at hs0, dN]⟩, fun i η S' _ ⟨_, _, _, _, _, _, _, e, _⟩ => ?_⟩
    exact itL_at S' (by rw [e.get gl]; rfl) i
  · rintro ⟨i, y5, y6, y7, y8, y9, rfl, e, p, gp, gs⟩
    have hm' : m < bs.length := by simpa using hm
    obtain ⟨p2, hin⟩ := play_at pl hm'
    have := play_uniq p p2
    subst this
    refine ⟨_, by rw [List.getElem_map]; rfl, ?_⟩
    refine follow_b1 ok e H hin gp gs (Nat.le_refl _) (by omega) (by omega) (by simp; omega) (by simp; omega) fun S2 y9 e2 g1 g2 => ?_
    refine ⟨_, _, _, _, _, _, rfl, e2, ?_, ?_, ?_⟩
    · rw [List.take_add_one, List.getElem?_eq_getElem hm']
      exact p.snoc hin
    · rw [g1, take_map1 _ hm']
    · rw [g2, take_map1 _ hm']
      rfl
  · rintro ⟨i, y5, y6, y7, y8, y9, rfl, e, p, gp, gs⟩
    rw [List.length_map, List.take_length] at *
    simp
    exact hQ _ _ _ e gp gs
end
/-! the turned play -/
def turnB (b : Bt) : Bt := ⟨b.i, (b.p.2, b.p.1), (b.q.2, b.q.1), b.r⟩
theorem turnB_in {h : HouseV} (ok : h.Ok) {b : Bt} (hb : b.In h) : (turnB b).In (turnV h) := by
  obtain ⟨s, c, hs, hc, hp, hq1, hq2, hr⟩ := hb.ex
  refine ⟨turnS h.n0 h.n1 s, turnC h.n0 h.n1 c, ?_, ?_, ?_, hq2, hq1, ?_⟩
  · show (h.sts.map (turnS h.n0 h.n1))[b.i]? = _
    simp [hs]
  · exact (srtC_perm _).mem_iff.mpr (List.mem_map_of_mem hc)
  · unfold turnB
    dsimp only
    rw [← hp]
    rfl
  · have := turn_at ((ok.st hs).cs c hc).len hq1 hq2
    show (turnC h.n0 h.n1 c).os[b.q.2 * h.n0 + b.q.1]? = some b.r
    rw [this]
    exact hr
theorem turn_play {h : HouseV} (ok : h.Ok) {i : Nat} : ∀ {bs : List Bt} {j : Nat}, Play h i bs j → Play (turnV h) i (bs.map turnB) j
  | _, _, .nil => .nil
  | _, _, .snoc (bs := bs) (b := b) q hb => by
    rw [List.map_append]
    exact (turn_play ok q).snoc (b := turnB b) (turnB_in ok hb)
theorem sgn_turn (h : HouseV) (i : Nat) : sgn (turnV h) i = sgn h i := by
  unfold sgn turnV
  dsimp only
  rw [List.getElem?_map]
  cases h.sts[i]? <;> rfl
end Lw

end
section
set_option maxRecDepth 100000
set_option maxHeartbeats 4000000
set_option linter.all false
/-! what a house refuses -/
namespace Lw
open Lt
section
variable {S : Sto} {o : Nat} {h : HouseV} {Q : D → Sto → Prop} {X : Nat → List (Nat × D) → Sto → Prop}
theorem wp_number {v : D} {t : Ty} (hv : tyOfD S v = some (.inl t)) : wp (f_is_number [v]) S Q X = Q (.bl (decide (t = .int))) S := by
  rw [w_f_is_number, b_f_is_number]
  cases t <;> simp [wp_mIsi hv]
/-- no number within the range -/
def NotIn (S : Sto) (v : D) (a b : Int) : Prop := (∃ t, tyOfD S v = some (.inl t) ∧ t ≠ .int) ∨ ∃ i, v = .int i ∧ ¬(a ≤ i ∧ i ≤ b)
theorem NotIn.bl (c : Bool) (a b : Int) : NotIn S (.bl c) a b := .inl ⟨.bool, rfl, by decide⟩
theorem NotIn.non (a b : Int) : NotIn S .non a b := .inl ⟨.non, rfl, by decide⟩
theorem NotIn.str (x : PySem.Str) (a b : Int) : NotIn S (.str x) a b := .inl ⟨.str, rfl, by decide⟩
theorem NotIn.tup (xs : List D) (a b : Int) : NotIn S (.tup xs) a b := .inl ⟨.tuple, rfl, by decide⟩
theorem NotIn.ref {n : Nat} {xs : List D} (hn : S[n]? = some (.lst xs)) (a b : Int) : NotIn S (.ref n) a b := .inl ⟨.list, tyOfD_lst S hn, by decide⟩
theorem NotIn.int {i a b : Int} (hi : ¬(a ≤ i ∧ i ≤ b)) : NotIn S (.int i) a b := .inr ⟨i, rfl, hi⟩
theorem wp_within_no {v : D} {a b : Int} (hv : NotIn S v a b) : wp (f_is_within [v, .int a, .int b]) S Q X = Q (.bl false) S := by
  rcases hv with ⟨t, ht, hn⟩ | ⟨i, rfl, hi⟩
  · rw [w_f_is_within, b_f_is_within]
    simp [wp_number ht, hn]
  · rw [wp_within]
    have : (decide (a ≤ i) && decide (i ≤ b)) = false := by
      rw [← Bool.decide_and]
      exact decide_eq_false hi
    rw [this]
theorem need_no (H : At S o h) {v : D} (hv : NotIn S v 0 ((h.sts.length : Int) - 1)) : wp (m_House_need_state [.ref o, v]) S Q X = X 25 [(11, v), (9, .str "InvalidState")] S := by
  rw [w_m_House_need_state, b_m_House_need_state]
  simp [H.at2, wp_within_no hv]
theorem sign_no (H : At S o h) {v : D} (hv : NotIn S v 0 ((h.sts.length : Int) - 1)) : wp (m_House_sign [.ref o, v]) S Q X = X 25 [(11, v), (9, .str "InvalidState")] S := by
  rw [w_m_House_sign, b_m_House_sign]
  simp [H.mo, need_no H hv]
theorem pairs_no (H : At S o h) {v : D} (hv : NotIn S v 0 ((h.sts.length : Int) - 1)) : wp (m_House_pairs [.ref o, v]) S Q X = X 25 [(11, v), (9, .str "InvalidState")] S := by
  rw [w_m_House_pairs, b_m_House_pairs]
  simp [H.mo, need_no H hv]
theorem outcome_no1 (H : At S o h) {v p w : D} (hv : NotIn S v 0 ((h.sts.length : Int) - 1)) : wp (m_House_outcome [.ref o, v, p, w]) S Q X = X 25 [(11, v), (9, .str "InvalidState")] S := by
  rw [w_m_House_outcome, b_m_House_outcome]
  simp [H.mo, need_no H hv]
/-- no pair of numbers within the range -/
inductive PwNo (S : Sto) (a b : Int) : D → Prop
  | ty {v : D} {t : Ty} : tyOfD S v = some (.inl t) → t ≠ .tuple → PwNo S a b v
  | len {xs : List D} : xs.length ≠ 2 → PwNo S a b (.tup xs)
  | left {x : D} {y : D} : NotIn S x a b → (NotIn S y a b ∨ ∃ i, y = .int i) → PwNo S a b (.tup [x, y])
  | right {x : D} {y : D} : NotIn S y a b → (NotIn S x a b ∨ ∃ i, x = .int i) → PwNo S a b (.tup [x, y])
def wB (S : Sto) (a b : Int) : D → Bool
  | .int i => decide (a ≤ i) && decide (i ≤ b)
  | _ => false
theorem wp_withinB {v : D} {a b : Int} (hv : NotIn S v a b ∨ ∃ i, v = .int i) : wp (f_is_within [v, .int a, .int b]) S Q X = Q (.bl (wB S a b v)) S := by
  rcases hv with hv | ⟨i, rfl⟩
  · rw [wp_within_no hv]
    have : wB S a b v = false := by
      rcases hv with ⟨t, ht, hn⟩ | ⟨i, rfl, hi⟩
      · cases v with
        | int i => exact absurd (by cases ht; rfl) hn
        | _ => rfl
      · show (decide (a ≤ i) && decide (i ≤ b)) = false
        rw [← Bool.decide_and]
        exact decide_eq_false hi
    rw [this]
  · rw [wp_within]
    rfl
theorem notin_wB {v : D} {a b : Int} (hv : NotIn S v a b) : wB S a b v = false := by
  rcases hv with ⟨t, ht, hn⟩ | ⟨i, rfl, hi⟩
  · cases v with
    | int i => exact absurd (by cases ht; rfl) hn
    | _ => rfl
  · show (decide (a ≤ i) && decide (i ≤ b)) = false
    rw [← Bool.decide_and]
    exact decide_eq_false hi
theorem wp_pairw_no {v : D} {a b : Int} (hv : PwNo S a b v) : wp (f_is_pair_within [v, .int a, .int b]) S Q X = Q (.bl false) S := by
  have two : ∀ {x y : D}, (NotIn S x a b ∨ ∃ i, x = .int i) → (NotIn S y a b ∨ ∃ i, y = .int i) → (wB S a b x && wB S a b y) = false → wp (f_is_pair_within [.tup [x, y], .int a, .int b]) S Q X = Q (.bl false) S := fun {x y} hx hy hw => by
    refine wp_eq (eq_of_wp ?_)
    rw [w_f_is_pair_within, b_f_is_pair_within]
    simp
    refine wp_lc1m [x, y] (fun z => .bl (wB S a b z)) (by simp [szL]) ?_
    simp [itT_at]
    refine ⟨⟨by rw [wp_withinB hx]; simp, by rw [wp_withinB hy]; simp⟩, ?_⟩
    rw [show [D.bl (wB S a b x), D.bl (wB S a b y)] = [wB S a b x, wB S a b y].map D.bl from rfl, wp_lAll]
    simp [hw]
  cases hv with
  | ty h1 h2 =>
    rename_i t
    rw [w_f_is_pair_within, b_f_is_pair_within]
    simp [wp_mIsi h1]
    cases t <;> simp at h2 ⊢
  | len h1 =>
    rename_i xs
    rw [w_f_is_pair_within, b_f_is_pair_within]
    have : ¬((xs.length : Int) = 2) := by omega
    simp [this]
  | left h1 h2 => exact two (.inl h1) h2 (by rw [notin_wB h1]; rfl)
  | right h1 h2 => exact two h2 (.inl h1) (by rw [notin_wB h1]; simp)
/-- wrong letters -/
theorem outcome_no2 (k : h.Ok) (H : At S o h) {i : Nat} {s : StateV} (hi : h.sts[i]? = some s) {p w : D} (hp : PwNo S 0 3 p ∨ ∃ q : Nat × Nat, p = dP q ∧ q.1 ≤ 3 ∧ q.2 ≤ 3 ∧ q ∉ s.ps) (hX : ∀ S', Ext S S' → X 26 [(11, p), (9, .str "InvalidLetters")] S') : wp (m_House_outcome [.ref o, .int i, p, w]) S Q X := by
  have few := k.few hi
  have lens : s.ps.length = s.cases.length := by simp [StateV.ps]
  rw [w_m_House_outcome, b_m_House_outcome]
  simp [H.mo, wp_need H (List.getElem?_eq_some_iff.mp hi).1]
  rcases hp with hp | ⟨q, rfl, h1, h2, h3⟩
  · simp [wp_pairw_no hp]
    exact hX _ (.refl _)
  · rw [wp_pairw q 0 3 (by omega)]
    simp [H.mo, wp_pairs k H hi]
    rw [wp_inD_ref (gd_dP q) (xs := s.ps.map dP) (by simp) (gds_dP (by omega))]
    simp [mem_dP, h3]
    exact hX _ (.push _ _)
/-- wrong answers -/
theorem outcome_no3 (k : h.Ok) (H : At S o h) {i : Nat} {s : StateV} (hi : h.sts[i]? = some s) {p : Nat × Nat} (hp : p ∈ s.ps) {w : D} (hw : (∀ S', Ext S S' → PwNo S' 0 3 w) ∨ ∃ q : Nat × Nat, w = dP q ∧ q.1 ≤ 3 ∧ q.2 ≤ 3 ∧ ¬(q.1 < h.n0 ∧ q.2 < h.n1)) (hX : ∀ S', Ext S S' → X 27 [(11, w), (9, .str "InvalidAnswers")] S') : wp (m_House_outcome [.ref o, .int i, dP p, w]) S Q X := by
  have few := k.few hi
  have so := k.st hi
  have lens : s.ps.length = s.cases.length := by simp [StateV.ps]
  have m0 := k.m0b
  have m1 := k.m1b
  have n0 := k.n0b
  have n1 := k.n1b
  have hp3 : p.1 ≤ 3 ∧ p.2 ≤ 3 := by
    obtain ⟨c, hc, rfl⟩ := List.mem_map.mp hp
    have co := so.cs c hc
    have c1 := co.a
    have c2 := co.b
    unfold CaseV.p
    dsimp only
    omega
  rw [w_m_House_outcome, b_m_House_outcome]
  simp [H.mo, wp_need H (List.getElem?_eq_some_iff.mp hi).1]
  rw [wp_pairw p 0 3 (by omega)]
  simp [H.mo, wp_pairs k H hi]
  rw [wp_inD_ref (gd_dP p) (xs := s.ps.map dP) (by simp) (gds_dP (by omega))]
  simp [mem_dP, hp]
  have H1 := H.grow [.lst (s.ps.map dP)]
  rcases hw with hw | ⟨q, rfl, h1, h2, h3⟩
  · simp [wp_pairw_no (hw _ (.push S [.lst (s.ps.map dP)]))]
    exact hX _ (.push _ _)
  · rw [wp_pairw q 0 3 (by omega)]
    simp [H1.at1, wp_pairsof h.as (show h.as.1 ≤ 100 by unfold HouseV.as; dsimp only; omega) (show h.as.2 ≤ 100 by unfold HouseV.as; dsimp only; omega)]
    rw [wp_inD_ref (gd_dP q) (xs := (prs h.n0 h.n1).map dP) (by simp [HouseV.as]) (gds_dP (by rw [prs_len]; have := Nat.mul_le_mul n0 n1; omega))]
    simp [mem_dP, mem_prs, h3]
    exact hX _ (.push _ _)
end
end Lw

end
section
set_option maxRecDepth 100000
set_option maxHeartbeats 4000000
set_option linter.all false
/-! a drawn house in a law; values that are alike themselves -/
namespace Lw
open Lt
section
variable {S : Sto} {Q : D → Sto → Prop} {X : Nat → List (Nat × D) → Sto → Prop}
structure Dwn (n most : Nat) (S S' : Sto) (h : HouseV) (k : Nat) : Prop where
  ok : h.Ok
  few : h.sts.length ≤ most
  at_ : S'[k]? = some (.lst (h.sts.map dS))
  ne : k ≠ n
  new : S.length ≤ k
  drw : Drw n S S'
theorem wide_wp {n most : Nat} (hb : Bag S n) (h0 : 0 < most) (h1 : most ≤ 16) (hQ : ∀ (h : HouseV) (k : Nat) (S' : Sto), Dwn n most S S' h k → Q (plainD h k) S') : wp (f__law_wide [.ref n, .int (most : Nat)]) S Q X := by
  obtain ⟨a, b, a', b', k, ds, S', e, g, hl, hs, hd, kn, kl, r⟩ := wide_ok hb h0 (show most ≤ 1000 by omega)
  rw [wp_eq e]
  obtain ⟨hv, ok, e1, e2, rfl, _⟩ := sts_nat hs (by omega) r
  have := hQ hv k S' ⟨ok, by simpa using hl, g, kn, kl, hd⟩
  unfold plainD at this
  rw [e1, e2] at this
  exact this
theorem alike_wp {x y : D} (h : Alk S 20 x y) : wp (f__law_alike 20 [x, y]) S Q X = Q (.bl true) S := wp_eq (eq_of_wp (alike_ok 20 x y S h))
theorem wp_mIsi_own {ic : List Nat} {a c j : Nat} {fs : List (Nat × D)} (h : S[a]? = some (.ins c fs)) (hc : ic.contains c = true) (hj : ic.contains j = true) : wp (mIsi ic [.ref a, .glo j]) S Q X = Q (.bl (c == j)) S := by
  refine wp_eq ?_
  unfold mIsi
  dsimp only
  have e : tyOfD S (.ref a) = some (.inr c) := by
    unfold tyOfD
    dsimp only
    rw [h]
  rw [e]
  dsimp only
  unfold okT isi1
  dsimp only
  rw [hc, hj]
  rfl
theorem gd_sts {h : HouseV} (ok : h.Ok) : gnd 7 (.tup (h.sts.map dS)) = true := gn_tup (by simp; have := ok.le; omega) fun x hx => by
  obtain ⟨s, hs, rfl⟩ := List.mem_map.mp hx
  exact gnd_dS ok hs
theorem eq_self {o o' : Nat} {h : HouseV} (ok : h.Ok) (H : At S o h) (H' : At S o' h) : wp (m_House___eq__ [.ref o, .ref o']) S Q X = Q (.bl true) S := by
  refine wp_eq (eq_of_wp ?_)
  have g : Gd (.tup [dP h.ls, dP h.as, .tup (h.sts.map dS)]) := gnd_le (n := 8) (by decide) (gn_tup (by simp) fun x hx => by
    simp only [List.mem_cons, List.not_mem_nil, or_false] at hx
    rcases hx with rfl | rfl | rfl
    · exact gnd_le (n := 2) (by decide) rfl
    · exact gnd_le (n := 2) (by decide) rfl
    · exact gd_sts ok)
  rw [w_m_House___eq__, b_m_House___eq__]
  simp [wp_mIsi_own H' (ic := [18]) (j := 18) (by decide) (by decide), H.at0, H.at1, H.at2, H'.at0, H'.at1, H'.at2, wp_eqD g g]
theorem len_own {o : Nat} {h : HouseV} (H : At S o h) : wp (m_House___len__ [.ref o]) S Q X = Q (.int h.sts.length) S := by
  rw [w_m_House___len__, b_m_House___len__]
  simp [H.at2]
theorem Drw.atH {S S' : Sto} {n o : Nat} {h : HouseV} (hb : Bag S n) (d : Drw n S S') (H : At S o h) : At S' o h := d.get H (by
  rintro rfl
  obtain ⟨m, cells, pos, rest, mark, h1, _⟩ := hb
  unfold At at H
  rw [h1] at H
  cases H)
end
theorem bag_lst {ns : List Int} (hz : ns.length ≤ 63) : ∃ n S', f__law_bag [.ref 0] [.lst (ns.map D.int)] = .ok (.ref n) S' ∧ Bag S' n := by
  refine bag_ok (m := 2) (S1 := [.lst (ns.map D.int), .lst (ns.map D.int), .lst (ns.map D.int)]) hz ?_ rfl
  have e : slB (.ref 0) none (some 63) [.lst (ns.map D.int)] = .ok (.ref 1) [.lst (ns.map D.int), .lst (ns.map D.int)] := by
    show bnd (lsAt 0) (fun xs => alc (Cell.lst (cutD xs none (some 63)))) [Cell.lst (ns.map D.int)] = _
    rw [bnd_ap, show lsAt 0 [Cell.lst (ns.map D.int)] = .ok (ns.map D.int) [Cell.lst (ns.map D.int)] from rfl]
    dsimp only
    rw [cut63 hz]
    rfl
  simp [e]
/-- a law by its loop over the bag -/
theorem plain_of {f : Fn} (h : ∀ (x : D) (S S1 : Sto) (n : Nat), f__law_bag [x] S = .ok (.ref n) S1 → Bag S1 n → ∃ S', f [x] S = .ok (.bl true) S') (ns : List Int) (hl : ns.length ≤ 63) :
    (∃ S', f [.ref 0] [.fls (ns.map D.int)] = .ok (.bl true) S') ∧ (∃ S', f [.kls (ns.map D.int)] [] = .ok (.bl true) S') ∧ ∃ S', f [.ref 0] [.lst (ns.map D.int)] = .ok (.bl true) S' := by
  obtain ⟨n, S1, e1, b1⟩ := bag_fls hl
  obtain ⟨m, S2, e2, b2⟩ := bag_kls hl
  obtain ⟨l, S3, e3, b3⟩ := bag_lst hl
  exact ⟨h _ _ _ _ e1 b1, h _ _ _ _ e2 b2, h _ _ _ _ e3 b3⟩
section
variable {S : Sto} {n : Nat} {Q : D → Sto → Prop} {X : Nat → List (Nat × D) → Sto → Prop}
theorem lpairs_wp (p : Nat × Nat) (h1 : p.1 ≤ 100) (h2 : p.2 ≤ 100) (hQ : ∀ l S', Ext S S' → S.length ≤ l → S'[l]? = some (.lst ((prs p.1 p.2).map dP)) → Q (.ref l) S') : wp (f__law_pairs [dP p]) S Q X := by
  obtain ⟨l, T, e, g, hl⟩ := pairs_ok (S := S) h1 h2
  rw [show dP p = .tup [.int (p.1 : Nat), .int (p.2 : Nat)] from rfl, wp_eq e]
  exact hQ l _ (.push _ _) hl (by rw [prs_D]; exact g)
theorem let_wp {h : HouseV} {k : Nat} (ok : h.Ok) (hk : S[k]? = some (.lst (h.sts.map dS))) {i : Nat} {s : StateV} (hi : h.sts[i]? = some s) : wp (f__law_let [plainD h k, .int i]) S Q X = Q (.ref S.length) (S ++ [.lst (s.ps.map dP)]) := wp_eq (let_eq ok hk hi)
/-! alike itself -/
theorem alk_int (i : Int) (m : Nat) : Alk S (m + 1) (.int i) (.int i) := rfl
theorem alk_bl (b : Bool) (m : Nat) : Alk S (m + 1) (.bl b) (.bl b) := rfl
theorem alk_non (m : Nat) : Alk S (m + 1) .non .non := trivial
theorem alk_str {x : PySem.Str} (h : PySem.PyData.strOk x = true) (m : Nat) : Alk S (m + 1) (.str x) (.str x) := ⟨rfl, h⟩
theorem alk_tup0 {xs : List D} {m : Nat} (hl : xs.length ≤ 100000) (h : ∀ x ∈ xs, Alk S m x x) : Alk S (m + 1) (.tup xs) (.tup xs) := ⟨rfl, hl, fun i x y hx hy => by
  rw [hx] at hy
  cases hy
  exact h x (List.mem_of_getElem? hx)⟩
theorem alk_ref0 {l m : Nat} {xs : List D} (g : S[l]? = some (.lst xs)) (hl : xs.length ≤ 100000) (h : ∀ x ∈ xs, Alk S m x x) : Alk S (m + 1) (.ref l) (.ref l) := ⟨xs, xs, g, g, rfl, hl, fun i x y hx hy => by
  rw [hx] at hy
  cases hy
  exact h x (List.mem_of_getElem? hx)⟩
/-- ("no", tag, v) -/
theorem alk_no {t : PySem.Str} {v : D} {m : Nat} (ht : PySem.PyData.strOk t = true) (hm : m ≤ 18) (h : Alk S (m + 1) v v) : Alk S 20 (.tup [.str "no", .str t, v]) (.tup [.str "no", .str t, v]) :=
  alk_le (n := m + 2) (by omega) (alk_tup0 (by simp) fun x hx => by
    simp only [List.mem_cons, List.not_mem_nil, or_false] at hx
    rcases hx with rfl | rfl | rfl
    · exact alk_str (by decide +kernel) m
    · exact alk_str ht m
    · exact h)
end
def kCf (g : GN) (tt : BB) (te : EE) (vs : List Nat) (η : Env) (xs : List D) (p : D → Bool) (F : D → D) (L : List D → Sto → Prop) : IT → Sto → Prop := fun it S0 => ∃ J : Sto → Prop, J S0 ∧ (∀ S', J S' → ∀ i, i ≤ xs.length → it i S' = some xs[i]?) ∧
      (∀ x ∈ xs, ∀ S', J S' → ∃ η1, g x (wipeE η vs) = some η1 ∧ wp (tt η1) S' (fun b S2 => b = p x ∧ J S2 ∧ (b = true → wp (te η1) S2 (fun d S3 => d = F x ∧ J S3) NX)) NX) ∧
      ∀ S', J S' → L ((xs.filter p).map F) S'
theorem kCf_in {g : GN} {tt : BB} {te : EE} {vs : List Nat} {η : Env} {xs : List D} {p : D → Bool} {F : D → D} {L : List D → Sto → Prop} {it : IT} {S0 : Sto} (J : Sto → Prop) (j0 : J S0) (hit : ∀ S', J S' → ∀ i, i ≤ xs.length → it i S' = some xs[i]?)
    (step : ∀ x ∈ xs, ∀ S', J S' → ∃ η1, g x (wipeE η vs) = some η1 ∧ wp (tt η1) S' (fun b S2 => b = p x ∧ J S2 ∧ (b = true → wp (te η1) S2 (fun d S3 => d = F x ∧ J S3) NX)) NX) (done : ∀ S', J S' → L ((xs.filter p).map F) S') : kCf g tt te vs η xs p F L it S0 := ⟨J, j0, hit, step, done⟩
/-- a comprehension whose test and item may make new things -/
theorem wp_lc1f {L : List D → Sto → Prop} {X : Nat → List (Nat × D) → Sto → Prop} {η : Env} {S : Sto} {f : II} {g : GN} {tt : BB} {te : EE} {vs : List Nat} (xs : List D) (p : D → Bool) (F : D → D) (hz : xs.length ≤ szL)
    (hf : wp (f η) S (kCf g tt te vs η xs p F L) X) : wp (lc1 f g tt te vs η) S L X := by
  cases e : f η S with
  | no => unfold wp at hf; rw [e] at hf; exact hf.elim
  | exc c fs S' =>
    unfold wp at hf ⊢
    rw [e] at hf
    unfold lc1 bnd
    rw [e]
    exact hf
  | ok it S0 =>
  rw [wp_eq e] at hf
  obtain ⟨J, j0, hit, step, done⟩ := hf
  refine wp_lc1 xs (fun i acc S => J S ∧ acc = ((xs.take i).filter p).map F) hz (by rw [wp_eq e]; exact ⟨⟨j0, by simp⟩, fun i acc S hi ⟨h3, _⟩ => hit S h3 i hi⟩) (fun i hi acc S1 ⟨h1, h2⟩ => ?_) (fun acc S1 ⟨h1, h2⟩ => by
    rw [h2, List.take_of_length_le (Nat.le_refl _)]
    exact done S1 h1)
  obtain ⟨η1, h3, h4⟩ := step xs[i] (List.getElem_mem hi) S1 h1
  have tk : xs.take (i + 1) = xs.take i ++ [xs[i]] := by rw [List.take_succ, List.getElem?_eq_getElem hi]; rfl
  refine ⟨η1, h3, wp_mono h4 (fun b S2 ⟨h5, h6, h7⟩ => ?_) fun _ _ _ h => h⟩
  cases b with
  | true =>
    rw [if_pos rfl]
    refine wp_mono (h7 rfl) (fun d S3 ⟨h8, h9⟩ => ⟨h9, ?_⟩) fun _ _ _ h => h
    rw [tk, List.filter_append, List.map_append, h2, h8, List.filter_cons_of_pos h5.symm]
    rfl
  | false =>
    rw [if_neg (by simp)]
    refine ⟨h6, ?_⟩
    rw [tk, List.filter_append, h2, List.filter_cons_of_neg (by rw [← h5]; simp)]
    simp
/-- a for whose items are known only once it begins -/
def kForE (g : GN) (b : SS) (η : Env) (P : Pst) : IT → Sto → Prop := fun it S0 => ∃ (xs : List D) (I : Nat → Env → Sto → Prop), xs.length ≤ szL ∧ I 0 η S0 ∧ (∀ i η S, i ≤ xs.length → I i η S → it i S = some xs[i]?) ∧
  (∀ i (h : i < xs.length) η S, I i η S → ∃ η1, g xs[i] η = some η1 ∧ ws b η1 S (lpP (I (i + 1)) P)) ∧ ∀ η S, I xs.length η S → P.nx η S
theorem ws_forE {f : II} {g : GN} {b : SS} {η : Env} {S : Sto} {P : Pst} (hf : wp (f η) S (kForE g b η P) (fun c fs S' => P.ex c fs η S')) : ws (sFor f g b) η S P := by
  cases e : f η S with
  | no => unfold wp at hf; rw [e] at hf; exact hf.elim
  | exc c fs S' =>
    unfold wp at hf
    rw [e] at hf
    unfold ws sFor
    rw [wr_sB]
    unfold wp
    rw [e]
    exact hf
  | ok it S0 =>
    rw [wp_eq e] at hf
    obtain ⟨xs, I, h1, h2, h3, h4, h5⟩ := hf
    exact ws_for xs I h1 (by rw [wp_eq e]; exact ⟨h2, h3⟩) h4 h5
theorem wp_eqS {S : Sto} {B : Bool → Sto → Prop} {X : Nat → List (Nat × D) → Sto → Prop} {x y : PySem.Str} (hx : PySem.PyData.strOk x = true) (hy : PySem.PyData.strOk y = true) (b : Bool) (hb : (x == y) = b) : wp (eqD (.str x) (.str y)) S B X = B b S := by
  refine wp_eq ?_
  have e : ∀ z : PySem.Str, PySem.PyData.strOk z = true → dataOf (.str z) S = .ok (.str z) S := fun z hz => by
    unfold dataOf
    have : PySem.SeqAt.shaped (.str z) = true := str_shaped hz
    show (match PySem.SeqAt.shaped (.str z) with
      | true => R.ok (PySem.PyData.str z) S
      | false => .no) = _
    rw [this]
  unfold eqD
  rw [bnd_ap, e x hx]
  dsimp only
  rw [bnd_ap, e y hy]
  dsimp only
  rw [show PySem.PyData.eqv (.str x) (.str y) = b from hb]
  rfl
theorem app0 (S : Sto) (c : Cell) (T : Sto) : (S ++ c :: T)[S.length]? = some c := by simp
theorem opB_addW {S : Sto} {Q : D → Sto → Prop} {X : Nat → List (Nat × D) → Sto → Prop} {a b : Nat} {xs ys : List D} (h1 : S[a]? = some (.lst xs)) (h2 : S[b]? = some (.lst ys)) (hz : xs.length + ys.length ≤ szL) : wp (opB .add (.ref a) (.ref b)) S Q X = Q (.ref S.length) (S ++ [.lst (xs ++ ys)]) := wp_eq (opB_addL h1 h2 hz)
end Lw

end
section
set_option maxRecDepth 100000
set_option maxHeartbeats 4000000
set_option linter.all false
/-! what is_case, is_state and House say of any plain values -/
namespace Lw
open Lt
open PySem (PyData)
open PySem
/-- a plain value: numbers, texts, None, tuples and lists of them -/
def Tm (S : Sto) : Nat → D → Prop
  | 0, _ => False
  | _ + 1, .int _ => True
  | _ + 1, .bl _ => True
  | _ + 1, .non => True
  | _ + 1, .str x => PyData.strOk x = true
  | n + 1, .tup xs => xs.length ≤ 1000 ∧ ∀ x ∈ xs, Tm S n x
  | n + 1, .ref l => ∃ xs, S[l]? = some (.lst xs) ∧ xs.length ≤ 1000 ∧ ∀ x ∈ xs, Tm S n x
  | _ + 1, _ => False
theorem Tm.ext {S S' : Sto} (e : Ext S S') : ∀ {n : Nat} {v : D}, Tm S n v → Tm S' n v
  | 0, _, h => h.elim
  | n + 1, v, h => by
    cases v with
    | tup xs => exact ⟨h.1, fun x hx => Tm.ext e (h.2 x hx)⟩
    | ref l =>
      obtain ⟨xs, h1, h2, h3⟩ := h
      exact ⟨xs, e.get h1, h2, fun x hx => Tm.ext e (h3 x hx)⟩
    | _ => exact h
/-- .. kept, where the cells that it names are kept -/
theorem Tm.keep {S S' : Sto} (e : ∀ (l : Nat) (xs : List D), S[l]? = some (Cell.lst xs) → S'[l]? = some (Cell.lst xs)) : ∀ {n : Nat} {v : D}, Tm S n v → Tm S' n v
  | 0, _, h => h.elim
  | n + 1, v, h => by
    cases v with
    | tup xs => exact ⟨h.1, fun x hx => Tm.keep e (h.2 x hx)⟩
    | ref l =>
      obtain ⟨xs, h1, h2, h3⟩ := h
      exact ⟨xs, e _ _ h1, h2, fun x hx => Tm.keep e (h3 x hx)⟩
    | _ => exact h
theorem Tm.up {S : Sto} : ∀ {n : Nat} {v : D}, Tm S n v → Tm S (n + 1) v
  | 0, _, h => h.elim
  | n + 1, v, h => by
    cases v with
    | tup xs => exact ⟨h.1, fun x hx => (h.2 x hx).up⟩
    | ref l =>
      obtain ⟨xs, h1, h2, h3⟩ := h
      exact ⟨xs, h1, h2, fun x hx => (h3 x hx).up⟩
    | _ => exact h
theorem Tm.le {S : Sto} {n m : Nat} (hn : n ≤ m) {v : D} (h : Tm S n v) : Tm S m v := by
  induction hn with
  | refl => exact h
  | step _ ih => exact ih.up
theorem Tm.ty {S : Sto} {n : Nat} {v : D} (h : Tm S n v) : ∃ t, tyOfD S v = some (.inl t) := by
  cases n with
  | zero => exact h.elim
  | succ n =>
    cases v with
    | int i => exact ⟨_, rfl⟩
    | bl i => exact ⟨_, rfl⟩
    | non => exact ⟨_, rfl⟩
    | str i => exact ⟨_, rfl⟩
    | tup xs => exact ⟨_, rfl⟩
    | ref l =>
      obtain ⟨xs, h1, _⟩ := h
      exact ⟨_, tyOfD_lst S h1⟩
    | _ => exact h.elim
theorem Tm.alk {S : Sto} : ∀ {n : Nat} {v : D}, Tm S n v → Alk S n v v
  | 0, _, h => h.elim
  | n + 1, v, h => by
    cases v with
    | int i => exact alk_int i n
    | bl i => exact alk_bl i n
    | non => exact alk_non n
    | str i => exact alk_str h n
    | tup xs => exact alk_tup0 (by have := h.1; omega) fun x hx => (h.2 x hx).alk
    | ref l =>
      obtain ⟨xs, h1, h2, h3⟩ := h
      exact alk_ref0 h1 (by omega) fun x hx => (h3 x hx).alk
    | _ => exact h.elim
theorem optMap_ex {α β : Type} {f : α → Option β} {P : β → Prop} : ∀ {xs : List α}, (∀ x ∈ xs, ∃ p, f x = some p ∧ P p) → ∃ ps, optMap f xs = some ps ∧ ps.length = xs.length ∧ ∀ p ∈ ps, P p
  | [], _ => ⟨[], rfl, rfl, fun p h => by cases h⟩
  | x :: xs, h => by
    obtain ⟨p, h1, h2⟩ := h x (List.mem_cons_self ..)
    obtain ⟨ps, h3, h4, h5⟩ := optMap_ex fun y hy => h y (List.mem_cons_of_mem _ hy)
    refine ⟨p :: ps, by unfold optMap; rw [h1, h3], by simp [h4], fun q hq => ?_⟩
    rcases List.mem_cons.mp hq with rfl | hq
    · exact h2
    · exact h5 q hq
theorem all_lay {n : Nat} : ∀ {ps : List PyData}, (∀ p ∈ ps, p.canLay0 = true ∧ p.depth ≤ n) → PyData.canLayAll0 ps = true ∧ PyData.depthAll ps ≤ n
  | [], _ => ⟨rfl, Nat.zero_le _⟩
  | p :: ps, h => by
    obtain ⟨h1, h2⟩ := h p (List.mem_cons_self ..)
    obtain ⟨h3, h4⟩ := all_lay fun q hq => h q (List.mem_cons_of_mem _ hq)
    exact ⟨by show (p.canLay0 && PyData.canLayAll0 ps) = true; rw [h1, h3]; rfl, by show max p.depth (PyData.depthAll ps) ≤ n; omega⟩
theorem Tm.toP {S : Sto} : ∀ {n : Nat} {v : D}, Tm S n v → ∀ m, n ≤ m → ∃ p, Lt.toP m S v = some p ∧ p.canLay0 = true ∧ p.depth ≤ n
  | 0, _, h, _, _ => h.elim
  | n + 1, v, h, m, hm => by
    obtain ⟨m, rfl⟩ : ∃ k, m = k + 1 := ⟨m - 1, by omega⟩
    cases v with
    | int i => exact ⟨_, rfl, rfl, Nat.zero_le _⟩
    | bl i => exact ⟨_, rfl, rfl, Nat.zero_le _⟩
    | non => exact ⟨_, rfl, rfl, Nat.zero_le _⟩
    | str i => exact ⟨_, rfl, h, Nat.zero_le _⟩
    | tup xs =>
      obtain ⟨ps, h1, h2, h3⟩ := optMap_ex (f := Lt.toP m S) fun x hx => Tm.toP (h.2 x hx) m (by omega)
      obtain ⟨h4, h5⟩ := all_lay h3
      refine ⟨.tuple ps, ?_, h4, Nat.succ_le_succ h5⟩
      show (match optMap (Lt.toP m S) xs with
        | some ps => some (PyData.tuple ps)
        | none => none) = _
      rw [h1]
    | ref l =>
      obtain ⟨xs, g, hl, hx⟩ := h
      obtain ⟨ps, h1, h2, h3⟩ := optMap_ex (f := Lt.toP m S) fun x hx' => Tm.toP (hx x hx') m (by omega)
      obtain ⟨h4, h5⟩ := all_lay h3
      refine ⟨.list ps, ?_, h4, Nat.succ_le_succ h5⟩
      show (match lsO S[l]? with
        | some xs => (match optMap (Lt.toP m S) xs with
          | some ps => some (PyData.list ps)
          | none => none)
        | none => none) = _
      rw [g]
      dsimp only [lsO]
      rw [h1]
    | _ => exact h.elim
theorem Tm.data {S : Sto} {n : Nat} {v : D} (h : Tm S n v) (hn : n ≤ 60) : ∃ p, dataOf v S = .ok p S ∧ Lt.toP 64 S v = some p := by
  obtain ⟨p, h1, h2, h3⟩ := h.toP 64 (by omega)
  refine ⟨p, ?_, h1⟩
  unfold dataOf
  rw [h1]
  have : SeqAt.shaped p = true := by
    unfold SeqAt.shaped
    rw [h2, Bool.true_and]
    exact decide_eq_true (by omega)
  dsimp only
  rw [this]
section
variable {S : Sto} {Q : D → Sto → Prop} {X : Nat → List (Nat × D) → Sto → Prop} {B : Bool → Sto → Prop}
theorem eq_empty {xs : List D} {n : Nat} (h : Tm S n (.tup xs)) (hn : n ≤ 60) : wp (eqD (.tup xs) (.tup [])) S B X = B xs.isEmpty S := by
  refine wp_eq ?_
  obtain ⟨p, h1, h2⟩ := h.data hn
  unfold eqD
  rw [bnd_ap, h1]
  dsimp only
  rw [bnd_ap, show dataOf (.tup []) S = .ok (.tuple []) S from rfl]
  dsimp only
  have h3 : (match optMap (Lt.toP 63 S) xs with
    | some ps => some (PyData.tuple ps)
    | none => none) = some p := h2
  cases xs with
  | nil =>
    cases h3
    rfl
  | cons x xs =>
    cases e : optMap (Lt.toP 63 S) (x :: xs) with
    | none => rw [e] at h3; cases h3
    | some ps =>
      rw [e] at h3
      cases h3
      have : ps.length = (x :: xs).length := (optMap_len e).symm
      cases ps with
      | nil => simp at this
      | cons q qs => rfl
/-! numbers -/
def iB (a b : Int) : D → Bool
  | .int i => decide (a ≤ i) && decide (i ≤ b)
  | _ => false
theorem within_T {n : Nat} {v : D} {a b : Int} (h : Tm S n v) : wp (f_is_within [v, .int a, .int b]) S Q X = Q (.bl (iB a b v)) S := by
  cases v with
  | int i => exact wp_within i a b
  | bl c => exact wp_within_no (.bl _ _ _)
  | non => exact wp_within_no (.non _ _)
  | str x => exact wp_within_no (.str _ _ _)
  | tup xs => exact wp_within_no (.tup _ _ _)
  | ref l =>
    cases n with
    | zero => exact h.elim
    | succ n =>
      obtain ⟨xs, g, _⟩ := h
      exact wp_within_no (.ref g _ _)
  | _ => cases n <;> exact h.elim
/-! outcomes, cases -/
def ocB (k : Int) : D → Bool
  | .tup [g, p] => iB 0 (k - 1) g && iB 0 99 p
  | _ => false
def csB (m0 m1 n0 n1 : Nat) (k : Int) : D → Bool
  | .tup [a, b, .tup os] => iB 0 ((m0 : Int) - 1) a && (iB 0 ((m1 : Int) - 1) b && (decide (os.length = n0 * n1) && os.all (ocB k)))
  | _ => false
theorem ty_tuple {v : D} {t : Ty} (h : tyOfD S v = some (.inl t)) (ht : t ≠ .tuple) : ∀ xs, v ≠ .tup xs := by
  rintro xs rfl
  cases h
  exact ht rfl
theorem oc_T {n : Nat} {o : D} (h : Tm S n o) {A L M C : Option D} {k : Int} {P : Pst} :
    ws b1_f_is_case [A, L, M, some (.int k), C, some o] S P = if ocB k o = true then P.nx [A, L, M, some (.int k), C, some o] S else P.rt (.bl false) S := by
  obtain ⟨t, ht⟩ := h.ty
  rw [b1_f_is_case]
  by_cases e : ∃ xs, o = .tup xs
  · obtain ⟨xs, rfl⟩ := e
    by_cases hl : xs.length = 2
    · obtain ⟨g, p, rfl⟩ : ∃ g p, xs = [g, p] := by
        match xs, hl with
        | [g, p], _ => exact ⟨g, p, rfl⟩
      cases n with
      | zero => exact h.elim
      | succ n =>
        have hg : Tm S n g := h.2 g (by simp)
        have hp : Tm S n p := h.2 p (by simp)
        simp [within_T hg, within_T hp, ocB]
        cases iB 0 (k - 1) g <;> cases iB 0 99 p <;> simp
    · have z : ocB k (.tup xs) = false := by
        unfold ocB
        split
        · rename_i q; cases q; simp at hl
        · rfl
      have : ¬((xs.length : Int) = 2) := by omega
      simp [z, this]
  · have z : ocB k o = false := by
      unfold ocB
      split
      · exact absurd ⟨_, rfl⟩ e
      · rfl
    have ht' : t ≠ .tuple := by
      rintro rfl
      cases o with
      | tup xs => exact e ⟨_, rfl⟩
      | int i => cases ht
      | bl i => cases ht
      | non => cases ht
      | str i => cases ht
      | ref l =>
        cases n with
        | zero => exact h.elim
        | succ n =>
          obtain ⟨xs, g, _⟩ := h
          rw [tyOfD_lst S g] at ht
          cases ht
      | _ => cases n <;> exact h.elim
    simp [wp_mIsi ht, z]
    cases t <;> simp at ht' ⊢
end
end Lw

end
section
set_option maxRecDepth 100000
set_option maxHeartbeats 4000000
set_option linter.all false
namespace Lw
open Lt
open PySem (PyData)
section
variable {S : Sto} {Q : D → Sto → Prop} {X : Nat → List (Nat × D) → Sto → Prop} {B : Bool → Sto → Prop}
theorem Tm.notTup {n : Nat} {v : D} (h : Tm S n v) (e : ∀ xs, v ≠ .tup xs) : ∃ t, tyOfD S v = some (.inl t) ∧ t ≠ .tuple := by
  obtain ⟨t, ht⟩ := h.ty
  refine ⟨t, ht, ?_⟩
  rintro rfl
  cases v with
  | tup xs => exact e xs rfl
  | int i => cases ht
  | bl i => cases ht
  | non => cases ht
  | str i => cases ht
  | ref l =>
    cases n with
    | zero => exact h.elim
    | succ n =>
      obtain ⟨xs, g, _⟩ := h
      rw [tyOfD_lst S g] at ht
      cases ht
  | _ => cases n <;> exact h.elim
theorem isi_tup {n : Nat} {v : D} (h : Tm S n v) (e : ∀ xs, v ≠ .tup xs) {ic : List Nat} : wp (mIsi ic [v, .ty .tuple]) S Q X = Q (.bl false) S := by
  obtain ⟨t, ht, hn⟩ := h.notTup e
  rw [wp_mIsi ht]
  cases t <;> simp at hn ⊢
theorem Tm.mem {n : Nat} {xs : List D} (h : Tm S n (.tup xs)) : ∀ x ∈ xs, Tm S n x := fun x hx => by
  cases n with
  | zero => exact h.elim
  | succ n => exact (h.2 x hx).up
theorem Tm.len {n : Nat} {xs : List D} (h : Tm S n (.tup xs)) : xs.length ≤ 1000 := by
  cases n with
  | zero => exact h.elim
  | succ n => exact h.1
theorem three {α : Type} {xs : List α} (h : xs.length = 3) : ∃ a b c, xs = [a, b, c] := by
  match xs, h with
  | [a, b, c], _ => exact ⟨a, b, c, rfl⟩
theorem two {α : Type} {xs : List α} (h : xs.length = 2) : ∃ a b, xs = [a, b] := by
  match xs, h with
  | [a, b], _ => exact ⟨a, b, rfl⟩
theorem oc_loop {os : List D} {k : Int} (ho : ∀ o ∈ os, ∃ n, Tm S n o) (hl : os.length ≤ 1000) {A L M : Option D} {P : Pst} (hn : os.all (ocB k) = true → ∀ x, P.nx [A, L, M, some (.int k), some (.tup os), x] S) (hr : os.all (ocB k) = false → P.rt (.bl false) S) :
    ws (sFor (iEach (eLoc 4)) (gnN 5) b1_f_is_case) [A, L, M, some (.int k), some (.tup os), none] S P := by
  refine ws_for os (fun i η S' => (∃ x, η = [A, L, M, some (.int k), some (.tup os), x]) ∧ S' = S ∧ (os.take i).all (ocB k) = true) (by unfold szL; omega) ?_ (fun i hi η S' => ?_) (fun η S' => ?_)
  · rw [wp_iEach, wp_eLoc]
    exact ⟨⟨⟨_, rfl⟩, rfl, by simp⟩, fun i η S _ _ => rfl⟩
  · rintro ⟨⟨x, rfl⟩, rfl, hp⟩
    refine ⟨_, rfl, ?_⟩
    obtain ⟨n, tm⟩ := ho os[i] (List.getElem_mem hi)
    rw [show ([A, L, M, some (.int k), some (.tup os), x] : Env).set 5 (some os[i]) = [A, L, M, some (.int k), some (.tup os), some os[i]] from rfl, oc_T tm]
    have tk : os.take (i + 1) = os.take i ++ [os[i]] := by rw [List.take_succ, List.getElem?_eq_getElem hi]; rfl
    cases e : ocB k os[i] with
    | true =>
      rw [if_pos rfl]
      exact ⟨⟨_, rfl⟩, rfl, by rw [tk, List.all_append, hp]; simp [e]⟩
    | false =>
      rw [if_neg (by simp)]
      refine hr ?_
      rw [List.all_eq_false]
      exact ⟨os[i], List.getElem_mem hi, by simp [e]⟩
  · rintro ⟨⟨x, rfl⟩, rfl, hp⟩
    rw [List.take_of_length_le (Nat.le_refl _)] at hp
    exact hn hp x
theorem case_T {m0 m1 n0 n1 : Nat} {k : Int} {n : Nat} {c : D} (h : Tm S n c) (h0 : n0 ≤ 4) (h1 : n1 ≤ 4) : f_is_case [c, dP (m0, m1), dP (n0, n1), .int k] S = .ok (.bl (csB m0 m1 n0 n1 k c)) S := eq_of_wp (by
  rw [w_f_is_case, b_f_is_case]
  rw [show dP (m0, m1) = .tup [.int m0, .int m1] from rfl, show dP (n0, n1) = .tup [.int n0, .int n1] from rfl]
  by_cases e : ∃ xs, c = .tup xs
  · obtain ⟨xs, rfl⟩ := e
    by_cases hl : xs.length = 3
    · obtain ⟨a, b, os, rfl⟩ := three hl
      have ta := h.mem a (by simp)
      have tb := h.mem b (by simp)
      have to := h.mem os (by simp)
      simp [within_T ta, within_T tb]
      cases za : iB 0 ((m0 : Int) - 1) a with
      | false =>
        have : csB m0 m1 n0 n1 k (.tup [a, b, os]) = false := by
          unfold csB
          split
          · rename_i q; cases q; rw [za]; rfl
          · rfl
        simp [this]
      | true =>
      cases zb : iB 0 ((m1 : Int) - 1) b with
      | false =>
        have : csB m0 m1 n0 n1 k (.tup [a, b, os]) = false := by
          unfold csB
          split
          · rename_i q; cases q; rw [zb]; simp
          · rfl
        simp [this]
      | true =>
      simp
      by_cases eo : ∃ l, os = .tup l
      · obtain ⟨l, rfl⟩ := eo
        have mk : mulOk (n0 : Int) (n1 : Int) = true := mulOk_r (by omega) (by omega)
        have ev : csB m0 m1 n0 n1 k (.tup [a, b, .tup l]) = (decide (l.length = n0 * n1) && l.all (ocB k)) := by
          unfold csB
          dsimp only
          rw [za, zb]
          rfl
        by_cases hz : l.length = n0 * n1
        · have hz' : (l.length : Int) = (n0 : Int) * n1 := by rw [hz]; simp
          simp [mk, hz']
          refine oc_loop (fun o ho => ⟨n, to.mem o ho⟩) to.len (fun hp x => ?_) fun hp => ?_
          · simp only [kC_nx, ws_one, ws_sRet, wp_eC, fnP_rt]
            rw [ev, hp]
            simp [hz]
          · simp only [kC_rt, fnP_rt]
            rw [ev, hp]
            simp
        · have hz' : ¬((l.length : Int) = (n0 : Int) * n1) := fun q => hz (by
            have : (l.length : Int) = ((n0 * n1 : Nat) : Int) := by rw [q]; simp
            exact Int.ofNat.inj this)
          simp [mk, hz']
          rw [ev]
          simp [hz]
      · have eo' : ∀ l, os ≠ .tup l := fun l z => eo ⟨l, z⟩
        rw [isi_tup to eo']
        have : csB m0 m1 n0 n1 k (.tup [a, b, os]) = false := by
          unfold csB
          split
          · rename_i q; cases q; exact absurd rfl (eo' _)
          · rfl
        simp [this]
    · have z : csB m0 m1 n0 n1 k (.tup xs) = false := by
        unfold csB
        split
        · rename_i q; cases q; simp at hl
        · rfl
      have : ¬((xs.length : Int) = 3) := by omega
      simp [z, this]
  · have e' : ∀ l, c ≠ .tup l := fun l z => e ⟨l, z⟩
    have z : csB m0 m1 n0 n1 k c = false := by
      unfold csB
      split
      · exact absurd rfl (e' _)
      · rfl
    simp [isi_tup h e', z])
end
end Lw

end
section
set_option maxRecDepth 100000
set_option maxHeartbeats 4000000
set_option linter.all false
namespace Lw
open Lt
open PySem (PyData)
theorem pair_dataB (x y x' y' : Int) : PySem.W.dataLt (.tuple [.int x, .int y]) (.tuple [.int x', .int y']) = decide (x < x' ∨ (x = x' ∧ y < y')) := by
  by_cases h : x < x' ∨ (x = x' ∧ y < y')
  · rw [pair_dataLt h, decide_eq_true h]
  · rw [decide_eq_false h]
    unfold PySem.W.dataLt
    simp only [PySem.W.keyToks, PySem.W.keyToksAll, List.cons_append, List.nil_append]
    have pre : ∀ (p : Int ⊕ List Nat) a b, PyProof.Rows.lexLt PyProof.Rows.itemOrd (p :: a) (p :: b) = PyProof.Rows.lexLt PyProof.Rows.itemOrd a b := fun p a b => PySem.W.lex_pre [p] a b
    by_cases e : x = x'
    · subst e
      by_cases e2 : y = y'
      · subst e2
        simp only [pre]
        rfl
      · rw [pre, pre, pre, PySem.W.lex_atom (by intro z; cases z; exact e2 rfl), PySem.W.lex_one]
        exact decide_eq_false (by omega)
    · rw [pre, PySem.W.lex_atom (by intro z; cases z; exact e rfl), PySem.W.lex_one]
      exact decide_eq_false (by omega)
def ltP : D → D → Bool
  | .tup [.int x, .int y], .tup [.int x', .int y'] => decide (x < x' ∨ (x = x' ∧ y < y'))
  | _, _ => false
def risB : List D → Bool
  | x :: y :: r => ltP x y && risB (y :: r)
  | _ => true
def IP (d : D) : Prop := ∃ x y : Int, d = .tup [.int x, .int y]
def ltZ : D → D
  | .tup [x, y] => .bl (ltP x y)
  | _ => .bl false
theorem zip_cons (x y : D) (r : List D) : zipD (x :: y :: r) ((x :: y :: r).drop 1) = .tup [x, y] :: zipD (y :: r) ((y :: r).drop 1) := rfl
theorem ris_all : ∀ xs : List D, (zipD xs (xs.drop 1)).map ltZ = ((zipD xs (xs.drop 1)).map fun z => match ltZ z with
    | .bl b => b
    | _ => false).map D.bl ∧ ((zipD xs (xs.drop 1)).map fun z => match ltZ z with
    | .bl b => b
    | _ => false).all id = risB xs
  | [] => ⟨rfl, rfl⟩
  | [x] => ⟨rfl, rfl⟩
  | x :: y :: r => by
    obtain ⟨h1, h2⟩ := ris_all (y :: r)
    rw [zip_cons]
    simp only [List.map_cons, List.all_cons]
    refine ⟨?_, ?_⟩
    · rw [h1]; rfl
    · rw [h2]; rfl
section
variable {S : Sto} {Q : D → Sto → Prop} {X : Nat → List (Nat × D) → Sto → Prop} {B : Bool → Sto → Prop}
theorem wp_ltP {d e : D} (hd : IP d) (he : IP e) : wp (cmB .lt d e) S B X = B (ltP d e) S := by
  obtain ⟨x, y, rfl⟩ := hd
  obtain ⟨x', y', rfl⟩ := he
  refine wp_eq ?_
  show ltD _ _ S = _
  unfold ltD
  rw [bnd_ap, pair_data]
  dsimp only
  rw [bnd_ap, pair_data]
  dsimp only
  rw [pair_dataB, show (PySem.W.alike (.tuple [.int x, .int y]) (.tuple [.int x', .int y']) && !PyData.eqv (.tuple [.int x, .int y]) .none) = true by simp [PySem.W.alike, PySem.W.alikeAll, PyData.eqv], grd_tt]
  rfl
theorem zip_IP {xs : List D} (h : ∀ x ∈ xs, IP x) {z : D} (hz : z ∈ zipD xs (xs.drop 1)) : ∃ d e, z = .tup [d, e] ∧ IP d ∧ IP e := by
  obtain ⟨i, hi⟩ := List.mem_iff_getElem?.mp hz
  rw [← zipD_at, List.getElem?_drop] at hi
  cases e1 : xs[i]? with
  | none => rw [e1] at hi; cases hi
  | some d =>
    cases e2 : xs[1 + i]? with
    | none => rw [e1, e2] at hi; cases hi
    | some e =>
      rw [e1, e2] at hi
      cases hi
      exact ⟨d, e, rfl, h d (List.mem_of_getElem? e1), h e (List.mem_of_getElem? e2)⟩
theorem itZ_at2 {S : Sto} {a b : Nat} {xs ys : List D} (ha : S[a]? = some (.lst xs)) (hb : S[b]? = some (.lst ys)) (i : Nat) : itZ a b i S = some (zipD xs ys)[i]? := by
  have := itZ_zip ha hb i
  exact this
theorem rising_T {l : Nat} {xs : List D} (h : S[l]? = some (.lst xs)) (hx : ∀ x ∈ xs, IP x) (hl : xs.length ≤ 1000) : wp (f_rising [.ref l]) S Q X = Q (.bl (risB xs)) (S ++ [.lst (xs.drop 1)]) := by
  refine wp_eq (eq_of_wp ?_)
  rw [w_f_rising, b_f_rising]
  simp
  have zl : (zipD xs (xs.drop 1)).length ≤ 1000 := by unfold zipD; rw [List.length_zipWith]; omega
  refine wp_lc1m (zipD xs (xs.drop 1)) ltZ (by unfold szL; omega) ?_
  simp
  rw [wp_slB_ref h, cut1]
  simp
  have g1 : (S ++ [Cell.lst (xs.drop 1)])[l]? = some (.lst xs) := (Ext.push _ _).get h
  have g2 := app0 S (Cell.lst (xs.drop 1)) []
  rw [show List.tail xs = xs.drop 1 by simp, wp_zp g1 g2]
  refine ⟨fun i _ => ?_, fun z hz => ?_, ?_⟩
  · exact itZ_at2 g1 g2 i
  · obtain ⟨d, e, rfl, hd, he⟩ := zip_IP hx (by simpa using hz)
    refine ⟨_, rfl, ?_⟩
    simp [wp_ltP hd he, ltZ]
  · obtain ⟨h1, h2⟩ := ris_all xs
    rw [h1, wp_lAll, h2]
    exact ⟨rfl, rfl⟩
/-! states -/
def stB (m0 m1 n0 n1 : Nat) (k : Int) : D → Bool
  | .tup [sg, .tup cs] => iB 0 8 sg && (!cs.isEmpty && (cs.all (csB m0 m1 n0 n1 k) && risB (cs.map hdD)))
  | _ => false
theorem iB_int {a b : Int} {v : D} (h : iB a b v = true) : ∃ i, v = .int i := by
  unfold iB at h
  split at h
  · exact ⟨_, rfl⟩
  · cases h
theorem csB_hd {m0 m1 n0 n1 : Nat} {k : Int} {c : D} (h : csB m0 m1 n0 n1 k c = true) : ∃ a b os, c = .tup [.int a, .int b, os] := by
  unfold csB at h
  split at h
  · obtain ⟨h1, h2⟩ := and2 h
    obtain ⟨h2, _⟩ := and2 h2
    obtain ⟨a, rfl⟩ := iB_int h1
    obtain ⟨b, rfl⟩ := iB_int h2
    exact ⟨a, b, _, rfl⟩
  · cases h
theorem state_T {m0 m1 n0 n1 : Nat} {k : Int} {n : Nat} {s : D} (h : Tm S n s) (hn : n ≤ 60) (h0 : n0 ≤ 4) (h1 : n1 ≤ 4) (hQ : ∀ S', Ext S S' → Q (.bl (stB m0 m1 n0 n1 k s)) S') : wp (f_is_state [s, dP (m0, m1), dP (n0, n1), .int k]) S Q X := by
  rw [w_f_is_state, b_f_is_state]
  by_cases e : ∃ xs, s = .tup xs
  · obtain ⟨xs, rfl⟩ := e
    by_cases hl : xs.length = 2
    · obtain ⟨sg, cs, rfl⟩ := two hl
      have ts := h.mem sg (by simp)
      have tc := h.mem cs (by simp)
      simp [within_T ts]
      cases zs : iB 0 8 sg with
      | false =>
        have : stB m0 m1 n0 n1 k (.tup [sg, cs]) = false := by
          unfold stB
          split
          · rename_i q; cases q; rw [zs]; rfl
          · rfl
        rw [this] at hQ
        simpa using hQ S (.refl S)
      | true =>
      simp
      by_cases ec : ∃ l, cs = .tup l
      · obtain ⟨l, rfl⟩ := ec
        have ev : stB m0 m1 n0 n1 k (.tup [sg, .tup l]) = (!l.isEmpty && (l.all (csB m0 m1 n0 n1 k) && risB (l.map hdD))) := by
          unfold stB
          dsimp only
          rw [zs]
          rfl
        rw [ev] at hQ
        simp
        rw [eq_empty tc hn]
        cases ez : l.isEmpty with
        | true =>
          rw [ez] at hQ
          simpa using hQ S (.refl S)
        | false =>
        rw [ez] at hQ
        simp
        refine wp_lc1m l (fun c => .bl (csB m0 m1 n0 n1 k c)) (by have := tc.len; unfold szL; omega) ?_
        simp
        refine ⟨fun i _ => rfl, fun c hc => ?_, ?_⟩
        · rw [wp_eq (case_T (tc.mem c hc) h0 h1)]
          exact ⟨rfl, rfl⟩
        rw [wp_lAll_map]
        cases ea : l.all (csB m0 m1 n0 n1 k) with
        | false =>
          rw [ea] at hQ
          simpa using hQ S (.refl S)
        | true =>
        rw [ea] at hQ
        simp
        refine wp_lc1m l hdD (by have := tc.len; unfold szL; omega) ?_
        simp
        refine ⟨fun i _ => rfl, fun c hc => ?_, ?_⟩
        · obtain ⟨a, b, os, rfl⟩ := csB_hd (List.all_eq_true.mp ea c hc)
          simp [hdD]
        rw [rising_T (app0 S _ []) (fun x hx => by
          obtain ⟨c, hc, rfl⟩ := List.mem_map.mp hx
          obtain ⟨a, b, os, rfl⟩ := csB_hd (List.all_eq_true.mp ea c hc)
          exact ⟨a, b, rfl⟩) (by have := tc.len; simpa using this)]
        simpa using hQ (S ++ [Cell.lst (l.map hdD), Cell.lst (l.map hdD).tail]) (.push _ _)
      · have ec' : ∀ l, cs ≠ .tup l := fun l z => ec ⟨l, z⟩
        have : stB m0 m1 n0 n1 k (.tup [sg, cs]) = false := by
          unfold stB
          split
          · rename_i q; cases q; exact absurd rfl (ec' _)
          · rfl
        rw [this] at hQ
        rw [isi_tup tc ec']
        simpa using hQ S (.refl S)
    · have z : stB m0 m1 n0 n1 k (.tup xs) = false := by
        unfold stB
        split
        · rename_i q; cases q; simp at hl
        · rfl
      rw [z] at hQ
      have : ¬((xs.length : Int) = 2) := by omega
      simpa [this] using hQ S (.refl S)
  · have e' : ∀ l, s ≠ .tup l := fun l z => e ⟨l, z⟩
    have z : stB m0 m1 n0 n1 k s = false := by
      unfold stB
      split
      · exact absurd rfl (e' _)
      · rfl
    rw [z] at hQ
    simpa [isi_tup h e'] using hQ S (.refl S)
end
end Lw

end
section
set_option maxRecDepth 100000
set_option maxHeartbeats 4000000
set_option linter.all false
/-! what House(..) refuses -/
namespace Lw
open Lt
section
variable {S : Sto} {Q : D → Sto → Prop} {X : Nat → List (Nat × D) → Sto → Prop} {B : Bool → Sto → Prop}
theorem listed_T {v : D} {t : Ty} (h : tyOfD S v = some (.inl t)) : wp (f_is_listed [v]) S Q X = Q (.bl (decide (t = .list ∨ t = .tuple))) S := by
  refine wp_eq ?_
  rw [u_f_is_listed]
  cases t <;> (simp [b_f_is_listed, isiT, h]; rfl)
/-- two good sizes -/
def Sz (p : Nat × Nat) : Prop := 1 ≤ p.1 ∧ p.1 ≤ 4 ∧ 1 ≤ p.2 ∧ p.2 ≤ 4
theorem init_bad1 {L A W : D} (hL : ∀ S', Ext S S' → PwNo S' 1 4 L) (hX : ∀ S', Ext S S' → X 24 [(10, .non), (9, .str "InvalidHouse")] S') : wp (mkN 18 m_House___init__ [L, A, W]) S Q X := by
  refine wp_mkN ?_
  rw [w_m_House___init__, b_m_House___init__]
  simp
  refine ws_forT [L, A] (by simp [szL]) ?_
  simp
  refine ⟨fun i S => rfl, ?_⟩
  rw [b1_m_House___init__]
  simp
  rw [wp_pairw_no (hL _ (.push _ _))]
  simp
  exact hX _ (.push _ _)
theorem init_bad2 {A W : D} {p : Nat × Nat} (hp : Sz p) (hA : ∀ S', Ext S S' → PwNo S' 1 4 A) (hX : ∀ S', Ext S S' → X 24 [(10, .non), (9, .str "InvalidHouse")] S') : wp (mkN 18 m_House___init__ [dP p, A, W]) S Q X := by
  obtain ⟨p1, p2, p3, p4⟩ := hp
  refine wp_mkN ?_
  rw [w_m_House___init__, b_m_House___init__]
  simp
  refine ws_forT [dP p, A] (by simp [szL]) ?_
  simp
  refine ⟨fun i S => rfl, ?_⟩
  rw [b1_m_House___init__]
  simp
  rw [wp_pairw p 1 4 (by omega)]
  simp
  rw [wp_pairw_no (hA _ (.push _ _))]
  simp
  exact hX _ (.push _ _)
/-- no list of one to sixteen -/
def NoSts (S : Sto) (W : D) : Prop := (∃ t, tyOfD S W = some (.inl t) ∧ t ≠ .list ∧ t ≠ .tuple) ∨ (∃ l xs, W = .ref l ∧ S[l]? = some (.lst xs) ∧ (xs.length = 0 ∨ 16 < xs.length)) ∨ ∃ xs, W = .tup xs ∧ (xs.length = 0 ∨ 16 < xs.length)
theorem NoSts.ext {S S' : Sto} {W : D} (h : NoSts S W) (e : Ext S S') (hW : ∀ l, W = .ref l → ∃ xs, S[l]? = some (.lst xs)) : NoSts S' W := by
  rcases h with ⟨t, h1, h2, h3⟩ | ⟨l, xs, rfl, g, h⟩ | ⟨xs, rfl, h⟩
  · cases W with
    | ref l =>
      obtain ⟨xs, g⟩ := hW l rfl
      rw [tyOfD_lst S g] at h1
      cases h1
      exact absurd rfl h2
    | tup xs => cases h1; exact absurd rfl h3
    | int i => exact .inl ⟨_, h1, h2, h3⟩
    | bl i => exact .inl ⟨_, h1, h2, h3⟩
    | str i => exact .inl ⟨_, h1, h2, h3⟩
    | non => exact .inl ⟨_, h1, h2, h3⟩
    | ty i => exact .inl ⟨_, h1, h2, h3⟩
    | glo i => exact .inl ⟨_, h1, h2, h3⟩
    | kls i => exact .inl ⟨_, h1, h2, h3⟩
  · exact .inr (.inl ⟨l, xs, rfl, e.get g, h⟩)
  · exact .inr (.inr ⟨xs, rfl, h⟩)
theorem init_bad3 {W : D} {p q : Nat × Nat} (hp : Sz p) (hq : Sz q) (hW : NoSts (S ++ [.ins 18 []]) W) (hX : ∀ S', Ext S S' → X 24 [(10, .non), (9, .str "InvalidHouse")] S') : wp (mkN 18 m_House___init__ [dP p, dP q, W]) S Q X := by
  obtain ⟨p1, p2, p3, p4⟩ := hp
  obtain ⟨q1, q2, q3, q4⟩ := hq
  refine wp_mkN ?_
  rw [w_m_House___init__, b_m_House___init__]
  simp
  refine ws_forT [dP p, dP q] (by simp [szL]) ?_
  simp
  refine ⟨fun i S => rfl, ?_⟩
  rw [b1_m_House___init__]
  simp
  rw [wp_pairw p 1 4 (by omega)]
  simp
  rw [wp_pairw q 1 4 (by omega)]
  simp
  rcases hW with ⟨t, h1, h2, h3⟩ | ⟨l, xs, rfl, g, h⟩ | ⟨xs, rfl, h⟩
  · rw [listed_T h1]
    simp [h2, h3]
    exact hX _ (.push _ _)
  · rw [wp_isiT_lst g]
    have : ¬((1 : Int) ≤ xs.length ∧ (xs.length : Int) ≤ 16) := by omega
    simp [wp_mLen_ref g]
    by_cases z : (1 : Int) ≤ xs.length
    · have z' : (16 : Int) < xs.length := by omega
      simp [z, z']
      exact hX _ (.push _ _)
    · simp [z]
      exact hX _ (.push _ _)
  · rw [listed_T (t := .tuple) rfl]
    simp
    by_cases z : (1 : Int) ≤ xs.length
    · have z' : (16 : Int) < xs.length := by omega
      simp [z, z']
      exact hX _ (.push _ _)
    · simp [z]
      exact hX _ (.push _ _)
/-- the first wrong state -/
theorem init_bad4 {p q : Nat × Nat} {l i : Nat} {xs : List D} {n : Nat} (hp : Sz p) (hq : Sz q) (hl : S[l]? = some (.lst xs)) (h1 : 1 ≤ xs.length) (h2 : xs.length ≤ 16) (ht : ∀ x ∈ xs, Tm S n x) (hn : n ≤ 60) (hi : i < xs.length)
    (hb : stB p.1 p.2 q.1 q.2 (xs.length : Int) (xs[i]?.getD .non) = false) (hg : ∀ j, j < i → stB p.1 p.2 q.1 q.2 (xs.length : Int) (xs[j]?.getD .non) = true) (hX : ∀ S', Ext S S' → X 24 [(10, .int i), (9, .str "InvalidHouse")] S') : wp (mkN 18 m_House___init__ [dP p, dP q, .ref l]) S Q X := by
  obtain ⟨p1, p2, p3, p4⟩ := hp
  obtain ⟨q1, q2, q3, q4⟩ := hq
  refine wp_mkN ?_
  have e0 : Ext S (S ++ [Cell.ins 18 []]) := .push _ _
  have hl1 := e0.get hl
  rw [w_m_House___init__, b_m_House___init__]
  simp
  refine ws_forT [dP p, dP q] (by simp [szL]) ?_
  simp
  refine ⟨fun i S => rfl, ?_⟩
  rw [b1_m_House___init__]
  simp
  rw [wp_pairw p 1 4 (by omega)]
  simp
  rw [wp_pairw q 1 4 (by omega)]
  simp
  have c1 : (1 : Int) ≤ xs.length := by omega
  have c2 : (xs.length : Int) ≤ 16 := by omega
  rw [wp_isiT_lst hl1]
  simp [wp_mLen_ref hl1, c1, c2]
  generalize S ++ [Cell.ins 18 []] = S1 at e0 hl1 ⊢
  refine ws_for ((List.range xs.length).map fun i => .tup [.int (i : Nat), (xs[i]?).getD .non]) (fun j η S' => (∃ x y z, η = [some (.ref S.length), some (dP p), some (dP q), some (.ref l), x, y, z]) ∧ Ext S1 S' ∧ j ≤ i) (by simp; unfold szL; omega) ?_ (fun j hj η S' => ?_) (fun η S' => ?_)
  · rw [wp_iEnumE, wp_eLoc]
    show wp (enm (.ref l)) _ _ _
    rw [wp_enm hl1]
    refine ⟨⟨⟨_, _, _, rfl⟩, .refl _, Nat.zero_le _⟩, fun i η S' hi ⟨_, e, _⟩ => ?_⟩
    have g := e.get hl1
    unfold itE
    rw [g]
    dsimp only [lsO]
    by_cases hlt : i < xs.length
    · simp [hlt]
    · simp at hi
      have : i = xs.length := by omega
      subst this
      simp
  · rintro ⟨⟨x, y, z, rfl⟩, e, hji⟩
    have hj' : j < xs.length := by simpa using hj
    refine ⟨_, by rw [List.getElem_map]; rfl, ?_⟩
    have g := e.get hl1
    have rj : (List.range xs.length)[j]'(by simpa using hj') = j := by simp
    rw [rj, b2_m_House___init__]
    simp only [ws_one, ws_sIf, wp_bNot, wp_bV, wp_eCall, wp_aL_cons, wp_aL_nil, wp_eLoc, List.getElem?_cons_succ, List.getElem?_cons_zero, List.set_cons_succ, List.set_cons_zero, wlo_some, kA_ap, kA2_ap, kM_ap, wp_mLen_ref g]
    have tj : Tm S' n (xs[j]?.getD .non) := by
      rw [List.getElem?_eq_getElem hj']
      exact (ht _ (List.getElem_mem hj')).ext (e0.trans e)
    refine state_T (m0 := p.1) (m1 := p.2) (n0 := q.1) (n1 := q.2) tj hn q2 q4 fun S2 e2 => ?_
    by_cases eq : j = i
    · subst eq
      rw [hb]
      simp
      exact hX _ ((e0.trans e).trans e2)
    · rw [hg j (by omega)]
      simp
      exact ⟨e.trans e2, by omega⟩
  · rintro ⟨_, _, hji⟩
    simp at hji
    omega
end
end Lw

end
section
set_option maxRecDepth 100000
set_option maxHeartbeats 4000000
set_option linter.all false
/-! _law_bad_state: a value that is no state -/
namespace Lw
open Lt
theorem cutL (xs : List D) : cutD xs none (some (-1)) = xs.dropLast := by
  unfold cutD
  have a : HT.sIx xs.length 0 none = 0 := rfl
  have b : HT.sIx xs.length xs.length (some (-1)) = xs.length - 1 := by
    cases xs with
    | nil => rfl
    | cons x xs => simp [HT.sIx]; omega
  rw [a, b, List.drop_zero, Nat.sub_zero, List.dropLast_eq_take]
theorem cutT (xs : List D) : cutD xs none (some 1) = xs.take 1 := by
  unfold cutD
  have a : HT.sIx xs.length 0 none = 0 := rfl
  have b : HT.sIx xs.length xs.length (some 1) = min 1 xs.length := rfl
  rw [a, b, List.drop_zero, Nat.sub_zero]
  cases xs with
  | nil => rfl
  | cons x xs => simp
theorem atI_last {xs : List D} {x : D} (h : xs.getLast? = some x) : L2.atI xs (-1) = some x := by
  cases xs with
  | nil => cases h
  | cons y ys =>
    unfold L2.atI
    rw [List.getLast?_eq_getElem?] at h
    have e : L2.ixN (y :: ys).length (-1) = some ((y :: ys).length - 1) := by
      unfold L2.ixN
      simp
      omega
    rw [e]
    exact h
theorem wp_addT {S : Sto} {Q : D → Sto → Prop} {X : Nat → List (Nat × D) → Sto → Prop} {xs ys : List D} (h : xs.length + ys.length ≤ szL) : wp (opB .add (.tup xs) (.tup ys)) S Q X = Q (.tup (xs ++ ys)) S := by
  show wp (grd (decide (xs.length + ys.length ≤ szL)) (ret (.tup (xs ++ ys)))) S Q X = _
  simp [h]
section
variable {S : Sto} {n : Nat} {Q : D → Sto → Prop} {X : Nat → List (Nat × D) → Sto → Prop}
/-- the first wrong ones -/
def bad1 (SG A B M0 M1 : D) (C O : List D) (r : Nat) : List D :=
  [.tup [.int (-1), .tup C], .tup [.int 9, .tup C], .tup [.bl true, .tup C], .tup [.str "0", .tup C], .tup [SG, .tup []], .tup [SG, .ref r], .tup [SG], .non,
   .ref (r + 2), .tup [SG, .tup C, .int 0], .tup [SG, .tup (C ++ [.tup [A, B, .tup O]])], .tup [SG, .tup [.tup [A, B]]]]
def bad2 (SG A B M0 M1 : D) (C O : List D) : List D :=
  [.tup [SG, .tup [.tup [A, M1, .tup O]]], .tup [SG, .tup [.tup [M0, B, .tup O]]], .tup [SG, .tup [.tup [A, B, .tup (O.drop 1)]]], .tup [SG, .tup [.tup [A, B, .tup (O ++ O.take 1)]]]]
def badV (SG A B : D) (C O : List D) (o : D) : D := .tup [SG, .tup (.tup [A, B, .tup (O.dropLast ++ [o])] :: C.drop 1)]
def bad3 (GO PR K : D) (r : Nat) : List D := [.tup [K, PR], .tup [.int (-1), PR], .tup [GO, .int 100], .tup [GO, .int (-1)], .tup [GO, .bl true], .ref r, .tup [GO], .int 0]
def lstI (L xs : List D) (V : D → D) (i : Nat) : List D := L ++ (xs.take i).map V
theorem lstI_0 (L xs : List D) (V : D → D) : lstI L xs V 0 = L := by simp [lstI]
theorem lstI_s {L xs : List D} {V : D → D} {i : Nat} (hi : i < xs.length) : lstI L xs V (i + 1) = lstI L xs V i ++ [V xs[i]] := by
  unfold lstI
  have tk : xs.take (i + 1) = xs.take i ++ [xs[i]] := by rw [List.take_succ, List.getElem?_eq_getElem hi]; rfl
  rw [tk, List.map_append, List.append_assoc]
  rfl
theorem lstI_n (L xs : List D) (V : D → D) : lstI L xs V xs.length = L ++ xs.map V := by
  unfold lstI
  rw [List.take_of_length_le (Nat.le_refl _)]
theorem lstI_len (L xs : List D) (V : D → D) (i : Nat) : (lstI L xs V i).length ≤ L.length + xs.length := by
  unfold lstI
  rw [List.length_append, List.length_map, List.length_take]
  omega
theorem set_same {S : Sto} {l : Nat} {c : Cell} (h : S[l]? = some c) : S.set l c = S := by
  refine List.ext_getElem? fun i => ?_
  by_cases e : l = i
  · subst e
    rw [List.getElem?_set_self (lst_lt h), h]
  · rw [List.getElem?_set_ne e]
theorem bad_list (hb : Bag S n) {SG A B GO PR M0 M1 K : D} {C O : List D} (hC : L2.atI C 0 = some (.tup [A, B, .tup O])) (hO : L2.atI O (-1) = some (.tup [GO, PR])) (lC : C.length ≤ 100) (lO : O.length ≤ 100) {N0 N1 : D}
    (hQ : ∀ x S' r1 r2 r3, Drw n S S' → S.length ≤ r1 → S.length ≤ r2 → S.length ≤ r3 → S'[r1]? = some (.lst C) → S'[r1 + 2]? = some (.lst [SG, .tup C]) → S'[r2]? = some (.lst O) → S'[r3]? = some (.lst [GO, PR]) →
      x ∈ bad1 SG A B M0 M1 C O r1 ++ (bad2 SG A B M0 M1 C O ++ ([.tup [SG, .tup [.tup [A, B, .ref r2]]], .tup [SG, .tup (.tup [.int (-1), B, .tup O] :: C.drop 1)]] ++ (bad3 GO PR K r3).map (badV SG A B C O))) → Q x S') :
    wp (f__law_bad_state [.ref n, .tup [SG, .tup C], .tup [M0, M1], .tup [N0, N1], K]) S Q X := by
  rw [w_f__law_bad_state, b_f__law_bad_state]
  simp [hC, hO]
  rw [wp_addT (by simp [szL]; omega)]
  simp
  generalize hS1 : S ++ [Cell.lst C, _, Cell.lst [SG, .tup C], _] = S1
  have e1 : Ext S S1 := ⟨_, hS1.symm⟩
  have g1 : S1[S.length]? = some (.lst C) := by rw [← hS1]; exact app0 _ _ _
  have g2 : S1[S.length + 2]? = some (.lst [SG, .tup C]) := by rw [← hS1]; exact app_at S _ 2
  have g3 := app_at S [Cell.lst C, Cell.lst [D.tup [.int (-1), .tup C], .tup [.int 9, .tup C], .tup [.bl true, .tup C], .tup [.str "0", .tup C], .tup [SG, .tup []], .tup [SG, .ref S.length], .tup [SG], .non], Cell.lst [SG, .tup C], Cell.lst [.ref (S.length + 2), .tup [SG, .tup C, .int 0], .tup [SG, .tup (C ++ [.tup [A, B, .tup O]])], .tup [SG, .tup [.tup [A, B]]]]] 1
  have g4 := app_at S [Cell.lst C, Cell.lst [D.tup [.int (-1), .tup C], .tup [.int 9, .tup C], .tup [.bl true, .tup C], .tup [.str "0", .tup C], .tup [SG, .tup []], .tup [SG, .ref S.length], .tup [SG], .non], Cell.lst [SG, .tup C], Cell.lst [.ref (S.length + 2), .tup [SG, .tup C, .int 0], .tup [SG, .tup (C ++ [.tup [A, B, .tup O]])], .tup [SG, .tup [.tup [A, B]]]]] 3
  rw [hS1] at g3 g4
  rw [opB_addW g3 g4 (by simp [szL])]
  simp
  generalize hS2 : S1 ++ [_, _] = S2
  have e2 : Ext S1 S2 := ⟨_, hS2.symm⟩
  have g5 : S2[S1.length]? = some (.lst (bad1 SG A B M0 M1 C O S.length)) := by rw [← hS2]; exact app0 _ _ _
  have g6 : S2[S1.length + 1]? = some (.lst [.tup [SG, .tup [.tup [A, M1, .tup O]]], .tup [SG, .tup [.tup [M0, B, .tup O]]]]) := by rw [← hS2]; exact app_at S1 _ 1
  rw [opB_addW g5 g6 (by simp [szL, bad1])]
  simp
  rw [cutT, wp_addT (by simp [szL]; omega)]
  simp
  generalize hS3 : S2 ++ [_, _] = S3
  have e3 : Ext S2 S3 := ⟨_, hS3.symm⟩
  have g7 : S3[S2.length]? = some (.lst (bad1 SG A B M0 M1 C O S.length ++ [.tup [SG, .tup [.tup [A, M1, .tup O]]], .tup [SG, .tup [.tup [M0, B, .tup O]]]])) := by rw [← hS3]; exact app0 _ _ _
  have g8 : S3[S2.length + 1]? = some (.lst [.tup [SG, .tup [.tup [A, B, .tup (O.drop 1)]]], .tup [SG, .tup [.tup [A, B, .tup (O ++ O.take 1)]]]]) := by rw [← hS3, ← cut1]; exact app_at S2 _ 1
  rw [opB_addW g7 g8 (by simp [szL, bad1])]
  simp
  rw [wp_addT (by rw [cut1]; simp [szL]; omega)]
  simp
  generalize hS4 : S3 ++ [_, _, _] = S4
  have e4 : Ext S3 S4 := ⟨_, hS4.symm⟩
  have g9 : S4[S3.length]? = some (.lst (bad1 SG A B M0 M1 C O S.length ++ bad2 SG A B M0 M1 C O)) := by rw [← hS4]; simp [bad2]
  have g10 : S4[S3.length + 1]? = some (.lst O) := by rw [← hS4]; exact app_at S3 _ 1
  have g11 : S4[S3.length + 2]? = some (.lst [.tup [SG, .tup [.tup [A, B, .ref (S3.length + 1)]]], .tup [SG, .tup (.tup [.int (-1), B, .tup O] :: C.drop 1)]]) := by rw [← hS4, ← cut1]; exact app_at S3 _ 2
  rw [opB_addW g9 g11 (by simp [szL, bad1, bad2])]
  simp
  generalize hS5 : S4 ++ [_] = S5
  have e5 : Ext S4 S5 := ⟨_, hS5.symm⟩
  have g12 : S5[S4.length]? = some (.lst (bad1 SG A B M0 M1 C O S.length ++ (bad2 SG A B M0 M1 C O ++ [.tup [SG, .tup [.tup [A, B, .ref (S3.length + 1)]]], .tup [SG, .tup (.tup [.int (-1), B, .tup O] :: C.drop 1)]]))) := by rw [← hS5]; simp
  generalize hL : bad1 SG A B M0 M1 C O S.length ++ (bad2 SG A B M0 M1 C O ++ [.tup [SG, .tup [.tup [A, B, .ref (S3.length + 1)]]], .tup [SG, .tup (.tup [.int (-1), B, .tup O] :: C.drop 1)]]) = L18 at g12
  have l18 : L18.length = 18 := by rw [← hL]; simp [bad1, bad2]
  have e6 : Ext S5 (S5 ++ [Cell.lst [GO, PR]]) := .push _ _
  have h6 := e6.get g12
  have k6 := app0 S5 (Cell.lst [GO, PR]) []
  generalize hS6 : S5 ++ [Cell.lst [GO, PR]] = S6 at e6 h6 k6
  refine ws_for (bad3 GO PR K S5.length) (fun i η S' => (∃ y, η = [some (D.ref n), some (D.tup [SG, D.tup C]), some (D.tup [M0, M1]), some (D.tup [N0, N1]), some K, some SG,
      some (D.tup C), some A, some B, some (D.tup O), some GO, some PR, some (D.ref S4.length), y]) ∧ S' = S6.set S4.length (.lst (lstI L18 (bad3 GO PR K S5.length) (badV SG A B C O) i))) (by simp [bad3, szL]) ?_ (fun i hi η S' => ?_) (fun η S' => ?_)
  · simp only [wp_iEach, wp_eTup, wp_eLst, wp_aL_cons, wp_aL_nil, wp_eLoc, wp_eC, wp_eNeg, kM_ap, negD, wp_ret, kA_ap, kA2_ap, kT_ap, kL_ap, List.getElem?_cons_succ, List.getElem?_cons_zero, wlo_some, wp_itOf_tup]
    rw [hS6]
    refine ⟨⟨⟨_, rfl⟩, ?_⟩, fun i _ _ _ _ => rfl⟩
    rw [lstI_0, set_same h6]
  · rintro ⟨⟨y, rfl⟩, rfl⟩
    refine ⟨_, rfl, ?_⟩
    rw [b1_f__law_bad_state]
    have lt6 := lst_lt h6
    have ll := lstI_len L18 (bad3 GO PR K S5.length) (badV SG A B C O) i
    have l8 : (bad3 GO PR K S5.length).length = 8 := rfl
    rw [lstI_s hi]
    generalize lstI L18 (bad3 GO PR K S5.length) (badV SG A B C O) i = LI at ll ⊢
    have gi : (S6.set S4.length (.lst LI))[S4.length]? = some (.lst LI) := List.getElem?_set_self lt6
    simp
    rw [wp_isT_ref gi]
    simp
    rw [cutL, wp_addT (by simp [szL]; omega)]
    simp
    rw [cut1, wp_addT (by simp [szL]; omega)]
    simp
    rw [wp_mAppend gi (by unfold szL; omega)]
    simp [badV]
  · rintro ⟨⟨y, rfl⟩, rfl⟩
    rw [lstI_n]
    simp
    have lt6 := lst_lt h6
    have gi : (S6.set S4.length (.lst (L18 ++ (bad3 GO PR K S5.length).map (badV SG A B C O))))[S4.length]? = some (.lst (L18 ++ (bad3 GO PR K S5.length).map (badV SG A B C O))) := List.getElem?_set_self lt6
    have e06 : Ext S S6 := e1.trans (e2.trans (e3.trans (e4.trans (e5.trans e6))))
    have ls : S.length ≤ S4.length := (e1.trans (e2.trans (e3.trans e4))).len
    have e7 := e06.set (.lst (L18 ++ (bad3 GO PR K S5.length).map (badV SG A B C O))) ls
    have keep : ∀ {r : Nat} {c : Cell}, S6[r]? = some c → r ≠ S4.length → (S6.set S4.length (.lst (L18 ++ (bad3 GO PR K S5.length).map (badV SG A B C O))))[r]? = some c := fun {r c} h hr => by
      rw [List.getElem?_set_ne (Ne.symm hr)]; exact h
    have l1 := lst_lt g1
    have l2 := lst_lt g2
    have l4 := e4.len
    have l10 := lst_lt g10
    have l23 := e2.len
    have l34 := e3.len
    have lb := hb.lt
    have a1 := keep (e2.get g1 |> e3.get |> e4.get |> e5.get |> e6.get) (by omega)
    have a2 := keep (e2.get g2 |> e3.get |> e4.get |> e5.get |> e6.get) (by omega)
    have a3 := keep (e5.get g10 |> e6.get) (by omega)
    have l5 : S4.length < S5.length := lst_lt g12
    have a4 := keep k6 (by omega)
    refine of_wp (e7.bag hb) gi (by omega) (by rw [← hL]; simp [bad1]) (by simp [bad3]; omega) fun x S8 hx d8 => ?_
    rw [← hL] at hx
    refine hQ x S8 _ _ _ (e7.drw hb |>.trans d8) (Nat.le_refl _) (by omega) (by omega) (d8.get a1 (by omega)) (d8.get a2 (by omega)) (d8.get a3 (by omega)) (d8.get a4 (by omega)) ?_
    simpa using hx
end
end Lw

end
section
set_option maxRecDepth 100000
set_option maxHeartbeats 4000000
set_option linter.all false
namespace Lw
open Lt
section
variable {m0 m1 n0 n1 : Nat} {k : Int}
theorem iB_nat {a b : Int} {i : Nat} (h1 : a ≤ i) (h2 : (i : Int) ≤ b) : iB a b (.int i) = true := by
  show (decide (a ≤ (i : Int)) && decide ((i : Int) ≤ b)) = true
  rw [decide_eq_true h1, decide_eq_true h2]
  rfl
theorem iB_out {a b i : Int} (h : ¬(a ≤ i ∧ i ≤ b)) : iB a b (.int i) = false := by
  show (decide (a ≤ i) && decide (i ≤ b)) = false
  rw [← Bool.decide_and]
  exact decide_eq_false h
theorem csB_ok {m0 m1 n0 n1 k : Nat} {c : CaseV} (co : c.Ok m0 m1 n0 n1 k) : csB m0 m1 n0 n1 k (dC c) = true := by
  have ca := co.a
  have cb := co.b
  show (iB 0 ((m0 : Int) - 1) (.int c.a) && (iB 0 ((m1 : Int) - 1) (.int c.b) && (decide ((c.os.map dP).length = n0 * n1) && (c.os.map dP).all (ocB k)))) = true
  rw [iB_nat (by omega) (by omega), iB_nat (by omega) (by omega), List.length_map, decide_eq_true co.len]
  simp only [Bool.true_and, List.all_map, List.all_eq_true]
  intro o ho
  obtain ⟨h1, h2⟩ := co.os o ho
  show (iB 0 ((k : Int) - 1) (.int o.1) && iB 0 99 (.int o.2)) = true
  rw [iB_nat (by omega) (by omega), iB_nat (by omega) (by omega)]
  rfl
theorem stB_no {SG : D} {cs : List D} (h : cs.all (csB m0 m1 n0 n1 k) = false) : stB m0 m1 n0 n1 k (.tup [SG, .tup cs]) = false := by
  unfold stB
  dsimp only
  rw [h]
  simp
theorem csB_os {A B : D} {os : List D} (h : os.all (ocB k) = false) : csB m0 m1 n0 n1 k (.tup [A, B, .tup os]) = false := by
  unfold csB
  dsimp only
  rw [h]
  simp
theorem csB_len {A B : D} {os : List D} (h : os.length ≠ n0 * n1) : csB m0 m1 n0 n1 k (.tup [A, B, .tup os]) = false := by
  unfold csB
  dsimp only
  rw [decide_eq_false h]
  simp
theorem csB_a {A B O : D} (h : iB 0 ((m0 : Int) - 1) A = false) : csB m0 m1 n0 n1 k (.tup [A, B, O]) = false := by
  unfold csB
  split
  · rename_i q; cases q; rw [h]; simp
  · rfl
theorem csB_b {A B O : D} (h : iB 0 ((m1 : Int) - 1) B = false) : csB m0 m1 n0 n1 k (.tup [A, B, O]) = false := by
  unfold csB
  split
  · rename_i q; cases q; rw [h]; simp
  · rfl
theorem stB_sg {SG : D} {cs : List D} (h : iB 0 8 SG = false) : stB m0 m1 n0 n1 k (.tup [SG, .tup cs]) = false := by
  unfold stB
  dsimp only
  rw [h]
  rfl
/-- the first case once more behind the last one -/
theorem ris_again {c0 : CaseV} : ∀ {cs : List CaseV}, (∀ c ∈ cs, pLt c0.p c.p) → cs ≠ [] → risB ((cs.map dC ++ [dC c0]).map hdD) = false
  | [], _, h => absurd rfl h
  | [c], h, _ => by
    have := h c (by simp)
    unfold pLt CaseV.p at this
    show (decide ((c.a : Int) < c0.a ∨ ((c.a : Int) = c0.a ∧ (c.b : Int) < c0.b)) && true) = false
    rw [decide_eq_false (by omega)]
    rfl
  | c :: d :: r, h, _ => by
    have := ris_again (c0 := c0) (cs := d :: r) (fun e he => h e (List.mem_cons_of_mem _ he)) (by simp)
    show (ltP (hdD (dC c)) (hdD (dC d)) && risB (((d :: r).map dC ++ [dC c0]).map hdD)) = false
    rw [this]
    simp
theorem ris_twice {c0 : CaseV} {cr : List CaseV} (h : ((c0 :: cr).map CaseV.p).Pairwise pLt) : risB (((c0 :: cr).map dC ++ [dC c0]).map hdD) = false := by
  cases cr with
  | nil =>
    show (decide ((c0.a : Int) < c0.a ∨ ((c0.a : Int) = c0.a ∧ (c0.b : Int) < c0.b)) && true) = false
    rw [decide_eq_false (by omega)]
    rfl
  | cons d r =>
    have h1 := (List.pairwise_cons.mp h).1
    have := ris_again (c0 := c0) (cs := d :: r) (fun c hc => h1 _ (List.mem_map_of_mem hc)) (by simp)
    show (ltP (hdD (dC c0)) (hdD (dC d)) && risB (((d :: r).map dC ++ [dC c0]).map hdD)) = false
    rw [this]
    simp
end
section
variable {S : Sto} {n : Nat} {Q : D → Sto → Prop} {X : Nat → List (Nat × D) → Sto → Prop}
theorem tm_dP (p : Nat × Nat) : Tm S 2 (dP p) := ⟨by simp, fun x hx => by
  simp only [List.mem_cons, List.not_mem_nil, or_false] at hx
  rcases hx with rfl | rfl <;> trivial⟩
theorem tm_tup {n : Nat} {xs : List D} (hl : xs.length ≤ 1000) (h : ∀ x ∈ xs, Tm S n x) : Tm S (n + 1) (.tup xs) := ⟨hl, h⟩
theorem tm_case {A B : D} {os : List D} (hA : Tm S 1 A) (hB : Tm S 1 B) (hl : os.length ≤ 1000) (h : ∀ o ∈ os, Tm S 2 o) : Tm S 4 (.tup [A, B, .tup os]) := tm_tup (by simp) fun x hx => by
  simp only [List.mem_cons, List.not_mem_nil, or_false] at hx
  rcases hx with rfl | rfl | rfl
  · exact hA.le (by decide)
  · exact hB.le (by decide)
  · exact tm_tup hl h
theorem tm_state {SG : D} {cs : List D} (hs : Tm S 1 SG) (hl : cs.length ≤ 1000) (h : ∀ c ∈ cs, Tm S 4 c) : Tm S 6 (.tup [SG, .tup cs]) := tm_tup (by simp) fun x hx => by
  simp only [List.mem_cons, List.not_mem_nil, or_false] at hx
  rcases hx with rfl | rfl
  · exact hs.le (by decide)
  · exact tm_tup hl h
theorem tm_dC {c : CaseV} (h : c.os.length ≤ 100) : Tm S 4 (dC c) := tm_case trivial trivial (by simp; omega) fun o ho => by
  obtain ⟨p, _, rfl⟩ := List.mem_map.mp ho
  exact tm_dP p
theorem tm_dS {m0 m1 n0 n1 k : Nat} {s : StateV} (so : s.Ok m0 m1 n0 n1 k) (h1 : n0 ≤ 4) (h2 : n1 ≤ 4) (hl : s.cases.length ≤ 100) : Tm S 6 (dS s) := tm_state trivial (by simp; omega) fun c hc => by
  obtain ⟨c', hc', rfl⟩ := List.mem_map.mp hc
  exact tm_dC (by have := (so.cs c' hc').sz h1 h2; omega)
theorem stB_ok {m0 m1 n0 n1 k : Nat} {s : StateV} (so : s.Ok m0 m1 n0 n1 k) : stB m0 m1 n0 n1 k (dS s) = true := by
  have sg := so.sign
  show (iB 0 8 (.int s.sign) && (!(s.cases.map dC).isEmpty && ((s.cases.map dC).all (csB m0 m1 n0 n1 k) && risB ((s.cases.map dC).map hdD)))) = true
  have ne : (s.cases.map dC).isEmpty = false := by
    have := so.ne
    cases q : s.cases with
    | nil => exact absurd q this
    | cons _ _ => rfl
  have al : (s.cases.map dC).all (csB m0 m1 n0 n1 k) = true := by
    rw [List.all_eq_true]
    intro c hc
    obtain ⟨c', hc', rfl⟩ := List.mem_map.mp hc
    exact csB_ok (so.cs c' hc')
  have rs : ∀ cs : List CaseV, (cs.map CaseV.p).Pairwise pLt → risB ((cs.map dC).map hdD) = true := fun cs => by
    induction cs with
    | nil => exact fun _ => rfl
    | cons c cs ih =>
      intro h
      have h1 := List.pairwise_cons.mp h
      cases cs with
      | nil => rfl
      | cons d r =>
        have := h1.1 d.p (by simp)
        show (ltP (hdD (dC c)) (hdD (dC d)) && risB (((d :: r).map dC).map hdD)) = true
        rw [ih h1.2]
        unfold pLt CaseV.p at this
        show (decide ((c.a : Int) < d.a ∨ ((c.a : Int) = d.a ∧ (c.b : Int) < d.b)) && true) = true
        rw [decide_eq_true (by omega)]
        rfl
  rw [iB_nat (by omega) (by omega), ne, al, rs _ so.asc]
  rfl
theorem bad_mem {m0 m1 n0 n1 k : Nat} {s : StateV} (so : s.Ok m0 m1 n0 n1 k) (h0 : n0 ≤ 4) (h1 : n1 ≤ 4) (h2 : 0 < n0) (h3 : 0 < n1) (hc : s.cases.length ≤ 16) {c0 : CaseV} {cr : List CaseV} (ec : s.cases = c0 :: cr) {oi : List (Nat × Nat)} {la : Nat × Nat} (eo : c0.os = oi ++ [la]) {x : D} {S' : Sto} {r1 r2 r3 : Nat}
    (g1 : S'[r1]? = some (.lst (s.cases.map dC))) (g2 : S'[r1 + 2]? = some (.lst [.int s.sign, .tup (s.cases.map dC)])) (g3 : S'[r2]? = some (.lst (c0.os.map dP))) (g4 : S'[r3]? = some (.lst [.int la.1, .int la.2]))
    (hx : x ∈ bad1 (.int s.sign) (.int c0.a) (.int c0.b) (.int m0) (.int m1) (s.cases.map dC) (c0.os.map dP) r1 ++ (bad2 (.int s.sign) (.int c0.a) (.int c0.b) (.int m0) (.int m1) (s.cases.map dC) (c0.os.map dP) ++ ([.tup [.int s.sign, .tup [.tup [.int c0.a, .int c0.b, .ref r2]]], .tup [.int s.sign, .tup (.tup [.int (-1), .int c0.b, .tup (c0.os.map dP)] :: (s.cases.map dC).drop 1)]] ++ (bad3 (.int la.1) (.int la.2) (.int k) r3).map (badV (.int s.sign) (.int c0.a) (.int c0.b) (s.cases.map dC) (c0.os.map dP))))) :
    Tm S' 10 x ∧ stB m0 m1 n0 n1 (k : Int) x = false := by
  have co := so.cs c0 (by rw [ec]; simp)
  have lo := co.len
  have sz := co.sz h0 h1
  have pos : 0 < n0 * n1 := Nat.mul_pos h2 h3
  obtain ⟨la1, la2⟩ := co.os la (by rw [eo]; simp)
  have lC : (s.cases.map dC).length ≤ 16 := by simpa using hc
  have lO : (c0.os.map dP).length ≤ 16 := by simpa using sz
  have tC : ∀ {S' : Sto}, ∀ c ∈ s.cases.map dC, Tm S' 4 c := fun {S'} c hc => by
    obtain ⟨c', hc', rfl⟩ := List.mem_map.mp hc
    exact tm_dC (by have := (so.cs c' hc').sz h0 h1; omega)
  have tO : ∀ {S' : Sto}, ∀ o ∈ c0.os.map dP, Tm S' 2 o := fun {S'} o ho => by
    obtain ⟨p, _, rfl⟩ := List.mem_map.mp ho
    exact tm_dP p
  have sub : ∀ {S' : Sto} {xs : List D}, (∀ c ∈ xs, c ∈ s.cases.map dC) → ∀ c ∈ xs, Tm S' 4 c := fun h c hc => tC c (h c hc)
  have fin : Tm S' 6 x → stB m0 m1 n0 n1 (k : Int) x = false → Tm S' 10 x ∧ stB m0 m1 n0 n1 (k : Int) x = false := fun a b => ⟨a.le (by decide), b⟩
  have fin2 : Tm S' 8 x → stB m0 m1 n0 n1 (k : Int) x = false → Tm S' 10 x ∧ stB m0 m1 n0 n1 (k : Int) x = false := fun a b => ⟨a.le (by decide), b⟩
  simp only [bad1, bad2, bad3, List.mem_append, List.mem_cons, List.not_mem_nil, or_false, List.map_cons, List.map_nil] at hx
  have tcase : ∀ {A B : D} {os : List D}, Tm S' 1 A → Tm S' 1 B → os.length ≤ 40 → (∀ o ∈ os, Tm S' 2 o) → Tm S' 6 (.tup [.int s.sign, .tup [.tup [A, B, .tup os]]]) := fun hA hB hl ho => tm_state trivial (by simp) fun c hc => by
    simp only [List.mem_cons, List.not_mem_nil, or_false] at hc
    subst hc
    exact tm_case hA hB (by omega) ho
  have tcs : ∀ {A B : D} {os : List D}, Tm S' 1 A → Tm S' 1 B → os.length ≤ 40 → (∀ o ∈ os, Tm S' 2 o) → Tm S' 6 (.tup [.int s.sign, .tup (.tup [A, B, .tup os] :: (s.cases.map dC).drop 1)]) := fun hA hB hl ho => tm_state trivial (by simp; omega) fun c hc => by
    rcases List.mem_cons.mp hc with rfl | hc
    · exact tm_case hA hB (by omega) ho
    · exact tC c (List.mem_of_mem_drop hc)
  have one : ∀ {c : D}, csB m0 m1 n0 n1 (k : Int) c = false → stB m0 m1 n0 n1 (k : Int) (.tup [.int s.sign, .tup [c]]) = false := fun h => stB_no (by simp [h])
  have fst : ∀ {c : D} {r : List D}, csB m0 m1 n0 n1 (k : Int) c = false → stB m0 m1 n0 n1 (k : Int) (.tup [.int s.sign, .tup (c :: r)]) = false := fun h => stB_no (by simp [h])
  have vO : ∀ {o : D}, Tm S' 2 o → ocB (k : Int) o = false → x = badV (.int s.sign) (.int c0.a) (.int c0.b) (s.cases.map dC) (c0.os.map dP) o → Tm S' 10 x ∧ stB m0 m1 n0 n1 (k : Int) x = false := fun {o} to hb e => by
    subst e
    refine fin (tcs trivial trivial (by simp; omega) fun z hz => ?_) (fst (csB_os (by simp [hb])))
    rcases List.mem_append.mp hz with hz | hz
    · exact tO z (List.dropLast_subset _ hz)
    · simp only [List.mem_cons, List.not_mem_nil, or_false] at hz
      subst hz
      exact to
  have t2 : ∀ {a b : D}, Tm S' 1 a → Tm S' 1 b → Tm S' 2 (.tup [a, b]) := fun ha hb => tm_tup (by simp) fun z hz => by
    simp only [List.mem_cons, List.not_mem_nil, or_false] at hz
    rcases hz with rfl | rfl
    · exact ha
    · exact hb
  rcases hx with (rfl | rfl | rfl | rfl | rfl | rfl | rfl | rfl | rfl | rfl | rfl | rfl) | (rfl | rfl | rfl | rfl) | (rfl | rfl) | (hx | hx | hx | hx | hx | hx | hx | hx)
  · exact fin (tm_state trivial (by omega) tC) (stB_sg (iB_out (by omega)))
  · exact fin (tm_state trivial (by omega) tC) (stB_sg (iB_out (by omega)))
  · exact fin (tm_state trivial (by omega) tC) (stB_sg rfl)
  · exact fin (tm_state (by decide +kernel : PySem.PyData.strOk "0" = true) (by omega) tC) (stB_sg rfl)
  · refine fin (tm_state trivial (by simp) fun c hc => by cases hc) ?_
    simp [stB]
  · refine fin (tm_tup (by simp) fun z hz => ?_) rfl
    simp only [List.mem_cons, List.not_mem_nil, or_false] at hz
    rcases hz with rfl | rfl
    · trivial
    · exact ⟨_, g1, by omega, tC⟩
  · refine fin (tm_tup (by simp) fun z hz => ?_) rfl
    simp only [List.mem_cons, List.not_mem_nil, or_false] at hz
    subst hz
    trivial
  · exact fin trivial rfl
  · refine fin2 ⟨_, g2, by simp, fun z hz => ?_⟩ rfl
    simp only [List.mem_cons, List.not_mem_nil, or_false] at hz
    rcases hz with rfl | rfl
    · trivial
    · exact tm_tup (by omega) fun c hc => (tC c hc).le (by decide)
  · refine fin2 (tm_tup (by simp) fun z hz => ?_) rfl
    simp only [List.mem_cons, List.not_mem_nil, or_false] at hz
    rcases hz with rfl | rfl | rfl
    · trivial
    · exact tm_tup (by omega) fun c hc => (tC c hc).le (by decide)
    · trivial
  · refine fin (tm_state trivial (by simp; omega) fun c hc => ?_) ?_
    · rcases List.mem_append.mp hc with hc | hc
      · exact tC c hc
      · simp only [List.mem_cons, List.not_mem_nil, or_false] at hc
        subst hc
        exact tm_case trivial trivial (by omega) tO
    · have := ris_twice (c0 := c0) (cr := cr) (by rw [← ec]; exact so.asc)
      unfold stB
      dsimp only
      rw [ec]
      rw [show D.tup [.int c0.a, .int c0.b, .tup (c0.os.map dP)] = dC c0 from rfl, this]
      simp
  · refine fin (tm_state trivial (by simp) fun c hc => ?_) (one rfl)
    simp only [List.mem_cons, List.not_mem_nil, or_false] at hc
    subst hc
    exact (t2 (a := .int c0.a) (b := .int c0.b) trivial trivial).le (by decide)
  · exact fin (tcase trivial trivial (by omega) tO) (one (csB_b (iB_out (by omega))))
  · exact fin (tcase trivial trivial (by omega) tO) (one (csB_a (iB_out (by omega))))
  · exact fin (tcase trivial trivial (by simp; omega) fun o ho => tO o (List.mem_of_mem_drop ho)) (one (csB_len (by simp; omega)))
  · refine fin (tcase trivial trivial (by simp; omega) fun o ho => ?_) (one (csB_len (by simp; omega)))
    rcases List.mem_append.mp ho with ho | ho
    · exact tO o ho
    · exact tO o (List.mem_of_mem_take ho)
  · refine fin (tm_state trivial (by simp) fun c hc => ?_) (one rfl)
    simp only [List.mem_cons, List.not_mem_nil, or_false] at hc
    subst hc
    refine tm_tup (by simp) fun z hz => ?_
    simp only [List.mem_cons, List.not_mem_nil, or_false] at hz
    rcases hz with rfl | rfl | rfl
    · trivial
    · trivial
    · exact ⟨_, g3, by omega, tO⟩
  · exact fin (tcs trivial trivial (by omega) tO) (fst (csB_a (iB_out (by omega))))
  · exact vO (t2 (a := .int k) (b := .int la.2) trivial trivial) (by show (iB 0 ((k : Int) - 1) (.int k) && iB 0 99 (.int la.2)) = false; rw [iB_out (by omega)]; rfl) hx
  · exact vO (t2 (a := .int (-1)) (b := .int la.2) trivial trivial) (by show (iB 0 ((k : Int) - 1) (.int (-1)) && iB 0 99 (.int la.2)) = false; rw [iB_out (by omega)]; rfl) hx
  · exact vO (t2 (a := .int la.1) (b := .int 100) trivial trivial) (by show (iB 0 ((k : Int) - 1) (.int la.1) && iB 0 99 (.int 100)) = false; rw [iB_out (a := 0) (b := 99) (by omega)]; simp) hx
  · exact vO (t2 (a := .int la.1) (b := .int (-1)) trivial trivial) (by show (iB 0 ((k : Int) - 1) (.int la.1) && iB 0 99 (.int (-1))) = false; rw [iB_out (a := 0) (b := 99) (by omega)]; simp) hx
  · exact vO (t2 (a := .int la.1) (b := .bl true) trivial trivial) (by show (iB 0 ((k : Int) - 1) (.int la.1) && iB 0 99 (.bl true)) = false; simp [iB]) hx
  · refine vO (o := .ref r3) ⟨_, g4, by simp, fun z hz => ?_⟩ rfl hx
    simp only [List.mem_cons, List.not_mem_nil, or_false] at hz
    rcases hz with rfl | rfl <;> trivial
  · refine vO (tm_tup (by simp) fun z hz => ?_) rfl hx
    simp only [List.mem_cons, List.not_mem_nil, or_false] at hz
    subst hz
    trivial
  · exact vO (o := .int 0) trivial rfl hx
theorem bad_wp {m0 m1 n0 n1 k : Nat} {s : StateV} (hb : Bag S n) (so : s.Ok m0 m1 n0 n1 k) (h0 : n0 ≤ 4) (h1 : n1 ≤ 4) (h2 : 0 < n0) (h3 : 0 < n1) (hc : s.cases.length ≤ 16) (hQ : ∀ x S', Drw n S S' → (∀ S'' : Sto, (∀ (r : Nat) (c : Cell), S.length ≤ r → S'[r]? = some c → S''[r]? = some c) → Tm S'' 10 x) → stB m0 m1 n0 n1 (k : Int) x = false → Q x S') : wp (f__law_bad_state [.ref n, dS s, dP (m0, m1), dP (n0, n1), .int k]) S Q X := by
  obtain ⟨c0, cr, ec⟩ : ∃ c0 cr, s.cases = c0 :: cr := by
    have := so.ne
    cases q : s.cases with
    | nil => exact absurd q this
    | cons c r => exact ⟨c, r, rfl⟩
  have co := so.cs c0 (by rw [ec]; simp)
  have lo := co.len
  have sz := co.sz h0 h1
  have pos : 0 < n0 * n1 := Nat.mul_pos h2 h3
  have neo : c0.os ≠ [] := by
    intro z
    rw [z] at lo
    simp at lo
    omega
  obtain ⟨oi, la, eo⟩ : ∃ oi la, c0.os = oi ++ [la] := ⟨c0.os.dropLast, c0.os.getLast neo, (List.dropLast_concat_getLast neo).symm⟩
  have lC : (s.cases.map dC).length ≤ 16 := by simpa using hc
  have lO : (c0.os.map dP).length ≤ 16 := by simpa using sz
  refine bad_list (A := .int c0.a) (B := .int c0.b) (GO := .int la.1) (PR := .int la.2) (C := s.cases.map dC) (O := c0.os.map dP) hb (by rw [ec]; simp [L2.atI, L2.ixN, dC]) (atI_last (by rw [eo]; simp [dP])) (by omega) (by omega) fun x S' r1 r2 r3 d q1 q2 q3 g1 g2 g3 g4 hx => ?_
  exact hQ x S' d (fun S'' ks => (bad_mem so h0 h1 h2 h3 hc ec eo (ks _ _ q1 g1) (ks _ _ (by omega) g2) (ks _ _ q2 g3) (ks _ _ q3 g4) hx).1) (bad_mem so h0 h1 h2 h3 hc ec eo g1 g2 g3 g4 hx).2
end
end Lw

end
section
set_option maxRecDepth 100000
set_option maxHeartbeats 4000000
set_option linter.all false
/-! the dearest price of a house -/
namespace Lw
open Lt
def mxN (xs : List Nat) : Nat := xs.foldr max 0
theorem maxI_nat : ∀ {xs : List Nat}, xs ≠ [] → maxI (xs.map fun n : Nat => (n : Int)) = some ((mxN xs : Nat) : Int)
  | [], h => absurd rfl h
  | [x], _ => by
    show some (x : Int) = some ((max x 0 : Nat) : Int)
    rw [Nat.max_zero]
  | x :: y :: xs, _ => by
    have ih := maxI_nat (xs := y :: xs) (by simp)
    show (match maxI ((y :: xs).map fun n : Nat => (n : Int)) with
      | none => some (x : Int)
      | some m => some (if (x : Int) ≤ m then m else x)) = some ((max x (mxN (y :: xs)) : Nat) : Int)
    rw [ih]
    show some (if (x : Int) ≤ _ then _ else _) = _
    congr 1
    split <;> omega
theorem asI_map : ∀ xs : List Nat, optMap asI (xs.map fun n : Nat => D.int (n : Int)) = some (xs.map fun n : Nat => (n : Int))
  | [] => rfl
  | x :: xs => by
    have ih := asI_map xs
    simp only [List.map_cons]
    unfold optMap
    rw [ih]
    rfl
theorem lMax_nat {S : Sto} {xs : List Nat} (h : xs ≠ []) : lMax (xs.map fun n : Nat => D.int (n : Int)) S = .ok (D.int (mxN xs : Nat)) S := by
  unfold lMax
  rw [asI_map]
  show (bnd (ofO (some (xs.map fun n : Nat => (n : Int)))) fun ns => bnd (ofO (maxI ns)) fun m => ret (D.int m)) S = _
  show (bnd (ofO (maxI (xs.map fun n : Nat => (n : Int)))) fun m => ret (D.int m)) S = _
  rw [maxI_nat h]
  rfl
def prD : D → Nat
  | .tup [_, .int p] => p.toNat
  | _ => 0
def CaseV.mx (c : CaseV) : Nat := mxN (c.os.map (·.2))
def cmD : D → D
  | .tup [_, _, .tup os] => .int (mxN (os.map prD) : Nat)
  | _ => .non
theorem cmD_dC (c : CaseV) : cmD (dC c) = .int (c.mx : Nat) := by
  show D.int (mxN ((c.os.map dP).map prD) : Nat) = _
  rw [List.map_map]
  rfl
def HouseV.mxs (h : HouseV) : List Nat := h.sts.flatMap fun s => s.cases.map CaseV.mx
def HouseV.dear (h : HouseV) : Nat := mxN h.mxs
section
variable {S : Sto} {n : Nat} {Q : D → Sto → Prop} {X : Nat → List (Nat × D) → Sto → Prop} {h : HouseV} {o : Nat}
def csD : D → List D
  | .tup [_, .tup cs] => cs
  | _ => []
theorem flat_le {α β : Type} {f : α → List β} {b : Nat} : ∀ {xs : List α}, (∀ x ∈ xs, (f x).length ≤ b) → (xs.flatMap f).length ≤ xs.length * b
  | [], _ => by simp
  | x :: xs, h => by
    have ih := flat_le (f := f) (b := b) (xs := xs) fun y hy => h y (List.mem_cons_of_mem _ hy)
    have := h x List.mem_cons_self
    rw [List.flatMap_cons, List.length_append, List.length_cons, Nat.add_mul]
    omega
theorem mxs_len (k : h.Ok) : h.mxs.length ≤ 256 := by
  have := flat_le (f := fun s : StateV => s.cases.map CaseV.mx) (b := 16) (xs := h.sts) fun s hs => by
    obtain ⟨i, hi⟩ := List.mem_iff_getElem?.mp hs
    have := k.few hi
    simpa using this
  have := k.le
  unfold HouseV.mxs
  omega
theorem mxs_ne (k : h.Ok) : h.mxs ≠ [] := by
  unfold HouseV.mxs
  have := k.ne
  obtain ⟨s, hs⟩ : ∃ s, h.sts[0]? = some s := ⟨_, List.getElem?_eq_getElem this⟩
  have so := (k.st hs).ne
  intro z
  have := List.flatMap_eq_nil_iff.mp z s (List.mem_of_getElem? hs)
  exact so (by simpa using this)
theorem mxs_flat : (h.sts.map dS).flatMap (fun x => (csD x).map cmD) = h.mxs.map fun n : Nat => D.int (n : Int) := by
  unfold HouseV.mxs
  rw [List.flatMap_map, List.map_flatMap]
  congr 1
  funext s
  show (s.cases.map dC).map cmD = _
  rw [List.map_map, List.map_map]
  exact List.map_congr_left fun c _ => cmD_dC c
theorem dear_eq (k : h.Ok) (H : At S o h) : m_House_dearest [.ref o] S = .ok (.int h.dear) S := eq_of_wp (by
  rw [w_m_House_dearest, b_m_House_dearest]
  simp
  refine wp_lc2m (h.sts.map dS) csD (fun _ y => cmD y) (by have := k.le; simp; unfold szL; omega) (fun x hx => ?_) (by rw [mxs_flat, List.length_map]; have := mxs_len k; unfold szL; omega) ?_
  · obtain ⟨s, hs, rfl⟩ := List.mem_map.mp hx
    obtain ⟨i, hi⟩ := List.mem_iff_getElem?.mp hs
    have := k.few hi
    show (s.cases.map dC).length ≤ szL
    rw [List.length_map]
    unfold szL
    omega
  rw [mxs_flat]
  simp [H.at2]
  refine ⟨fun i _ => by simp [itT_at], fun s hs => ?_, ?_⟩
  · obtain ⟨i, hi⟩ := List.mem_iff_getElem?.mp hs
    have so := k.st hi
    rw [show dS s = .tup [.int s.sign, .tup (s.cases.map dC)] from rfl, show csD (.tup [.int s.sign, .tup (s.cases.map dC)]) = s.cases.map dC from rfl]
    simp
    refine ⟨fun i _ => by simp [itT_at], fun c hc => ?_⟩
    have co := so.cs c hc
    rw [cmD_dC]
    simp [dC]
    refine wp_lc1m (c.os.map dP) (fun d => .int (prD d : Nat)) (by have := co.sz k.n0b k.n1b; simp; unfold szL; omega) ?_
    simp
    refine ⟨fun i _ => by simp [itT_at], fun x a b hx e => ?_, ?_⟩
    · subst e
      simp [dP, prD]
    · rw [show c.os.map ((fun d => D.int (prD d : Nat)) ∘ dP) = (c.os.map (·.2)).map fun n : Nat => D.int (n : Int) by rw [List.map_map]; rfl]
      have ne : c.os.map (·.2) ≠ [] := by
        intro z
        have := co.len
        rw [show c.os = [] by simpa using z] at this
        have := Nat.mul_pos k.n0a k.n1a
        simp at *
        omega
      rw [wp_eq (lMax_nat ne)]
      exact ⟨rfl, rfl⟩
  · rw [wp_eq (lMax_nat (mxs_ne k))]
    simp
    rfl)
theorem dear_wp (k : h.Ok) (H : At S o h) : wp (m_House_dearest [.ref o]) S Q X = Q (.int h.dear) S := wp_eq (dear_eq k H)
end
end Lw

end
section
set_option maxRecDepth 100000
set_option maxHeartbeats 4000000
set_option linter.all false
/-! houses with multiplied prices -/
namespace Lw
open Lt
def mulO (n : Nat) (o : Nat × Nat) : Nat × Nat := (o.1, o.2 * n)
def mulC (n : Nat) (c : CaseV) : CaseV := ⟨c.a, c.b, c.os.map (mulO n)⟩
def mulS (n : Nat) (s : StateV) : StateV := ⟨s.sign, s.cases.map (mulC n)⟩
def mulH (n : Nat) (h : HouseV) : HouseV := ⟨h.m0, h.m1, h.n0, h.n1, h.sts.map (mulS n)⟩
def mulB (n : Nat) (h : HouseV) : Bool := h.sts.all fun s => s.cases.all fun c => c.os.all fun o => decide (o.2 * n ≤ 99)
theorem mul_ps (n : Nat) (s : StateV) : (mulS n s).cases.map CaseV.p = s.cases.map CaseV.p := by
  show (s.cases.map (mulC n)).map CaseV.p = _
  rw [List.map_map]
  rfl
theorem mulH_ok {n : Nat} {h : HouseV} (k : h.Ok) (b : mulB n h = true) : (mulH n h).Ok where
  m0a := k.m0a
  m0b := k.m0b
  m1a := k.m1a
  m1b := k.m1b
  n0a := k.n0a
  n0b := k.n0b
  n1a := k.n1a
  n1b := k.n1b
  ne := by show 0 < (h.sts.map (mulS n)).length; rw [List.length_map]; exact k.ne
  le := by show (h.sts.map (mulS n)).length ≤ 16; rw [List.length_map]; exact k.le
  sts := fun s0 hs0 => by
    obtain ⟨s, hs, rfl⟩ := List.mem_map.mp hs0
    have so := k.sts s hs
    have e : (mulH n h).sts.length = h.sts.length := List.length_map _
    rw [e]
    refine ⟨so.sign, fun z => so.ne (List.map_eq_nil_iff.mp z), by rw [mul_ps]; exact so.asc, fun c0 hc0 => ?_⟩
    obtain ⟨c, hc, rfl⟩ := List.mem_map.mp hc0
    have co := so.cs c hc
    refine ⟨co.a, co.b, by show (c.os.map _).length = _; rw [List.length_map]; exact co.len, fun o0 ho0 => ?_⟩
    obtain ⟨o, ho, rfl⟩ := List.mem_map.mp ho0
    exact ⟨(co.os o ho).1, of_decide_eq_true (List.all_eq_true.mp (List.all_eq_true.mp (List.all_eq_true.mp b s hs) c hc) o ho)⟩
theorem mxN_mul {n : Nat} : ∀ {xs : List Nat}, mxN xs * n ≤ 99 ↔ ∀ x ∈ xs, x * n ≤ 99
  | [] => by simp [mxN]
  | x :: xs => by
    have ih := mxN_mul (n := n) (xs := xs)
    show max x (mxN xs) * n ≤ 99 ↔ _
    rw [List.forall_mem_cons, ← ih]
    rcases Nat.le_total x (mxN xs) with z | z
    · rw [Nat.max_eq_right z]
      have := Nat.mul_le_mul_right n z
      omega
    · rw [Nat.max_eq_left z]
      have := Nat.mul_le_mul_right n z
      omega
theorem mulB_dear {n : Nat} {h : HouseV} : mulB n h = decide (h.dear * n ≤ 99) := by
  have e : mulB n h = true ↔ h.dear * n ≤ 99 := by
    unfold HouseV.dear
    rw [mxN_mul]
    unfold mulB HouseV.mxs
    simp only [List.all_eq_true, decide_eq_true_eq, List.mem_flatMap, List.mem_map]
    constructor
    · rintro q x ⟨s, hs, c, hc, rfl⟩
      unfold CaseV.mx
      rw [mxN_mul]
      intro y hy
      obtain ⟨o, ho, rfl⟩ := List.mem_map.mp hy
      exact q s hs c hc o ho
    · intro q s hs c hc o ho
      have := q c.mx ⟨s, hs, c, hc, rfl⟩
      unfold CaseV.mx at this
      rw [mxN_mul] at this
      exact this _ (List.mem_map.mpr ⟨o, ho, rfl⟩)
  cases q : mulB n h with
  | true => exact (decide_eq_true (e.mp q)).symm
  | false =>
    refine (decide_eq_false fun z => ?_).symm
    rw [e.mpr z] at q
    cases q
/-- an outcome's data -/
def mulD (n : Nat) : D → D
  | .tup [g, .int p] => .tup [g, .int (p * n)]
  | _ => .non
theorem mulD_dP (n : Nat) (p : Nat × Nat) : mulD n (dP p) = dP (mulO n p) := by
  show D.tup [.int (p.1 : Nat), .int ((p.2 : Int) * n)] = .tup [.int (p.1 : Nat), .int ((p.2 * n : Nat) : Int)]
  rw [Int.natCast_mul]
theorem mulD_os (n : Nat) (os : List (Nat × Nat)) : (os.map dP).map (mulD n) = (os.map (mulO n)).map dP := by
  rw [List.map_map, List.map_map]
  exact List.map_congr_left fun p _ => mulD_dP n p
end Lw

end
section
set_option maxRecDepth 100000
set_option maxHeartbeats 4000000
set_option linter.all false
namespace Lw
open Lt
section
variable {S : Sto} {P : Pst} {Q : D → Sto → Prop} {X : Nat → List (Nat × D) → Sto → Prop} {h : HouseV} {o n : Nat}
theorem mul_b1 {r : Nat} {fs : List D} {c : CaseV} {m0 m1 n0 n1 k : Nat} (hr : S[r]? = some (.lst fs)) (hz : fs.length ≤ 1000) (co : c.Ok m0 m1 n0 n1 k) (h0 : n0 ≤ 4) (h1 : n1 ≤ 4) (hn : n ≤ 99) {x0 x2 x3 x4 x9 x10 : Option D}
    (hP : ∀ S' y9 y10, Upd r (.lst (fs ++ [dC (mulC n c)])) S S' → P.nx [x0, some (.int n), x2, x3, x4, some (.ref r), some (.int c.a), some (.int c.b), some (.tup (c.os.map dP)), y9, y10] S') :
    ws b1_f__law_multiplied [x0, some (.int n), x2, x3, x4, some (.ref r), some (.int c.a), some (.int c.b), some (.tup (c.os.map dP)), x9, x10] S P := by
  have z := co.sz h0 h1
  rw [b1_f__law_multiplied]
  simp
  rw [wp_isT_ref hr]
  simp
  refine wp_lc1m (c.os.map dP) (mulD n) (by simp; unfold szL; omega) ?_
  simp
  refine ⟨fun i _ => by simp [itT_at], fun x a b hx e => ?_, ?_⟩
  · subst e
    simp [dP, mulD, mulOk_r (i := (b : Int)) (j := (n : Int)) (by omega) (by omega)]
  · have e : c.os.map (mulD n ∘ dP) = (c.os.map (mulO n)).map dP := by rw [← List.map_map, mulD_os]
    rw [e, wp_mAppend hr (by unfold szL; omega)]
    exact hP _ _ _ (upd_of (.refl _) (lst_lt hr))
theorem mul_b2 {st : Nat} {acc : List D} {s : StateV} {m0 m1 n0 n1 k : Nat} (hst : S[st]? = some (.lst acc)) (hz : acc.length ≤ 1000) (so : s.Ok m0 m1 n0 n1 k) (few : s.cases.length ≤ 16) (h0 : n0 ≤ 4) (h1 : n1 ≤ 4) (hn : n ≤ 99) {x0 x5 x6 x7 x8 x9 x10 : Option D}
    (hP : ∀ S' y5 y6 y7 y8 y9 y10, Upd st (.lst (acc ++ [dS (mulS n s)])) S S' → P.nx [x0, some (.int n), some (.ref st), some (.int s.sign), some (.tup (s.cases.map dC)), y5, y6, y7, y8, y9, y10] S') :
    ws b2_f__law_multiplied [x0, some (.int n), some (.ref st), some (.int s.sign), some (.tup (s.cases.map dC)), x5, x6, x7, x8, x9, x10] S P := by
  rw [b2_f__law_multiplied]
  simp
  refine ws_for (s.cases.map dC) (fun j η S' => (∃ y6 y7 y8 y9 y10, η = [x0, some (.int n), some (.ref st), some (.int s.sign), some (.tup (s.cases.map dC)), some (.ref S.length), y6, y7, y8, y9, y10]) ∧ Ext S S' ∧ S'[S.length]? = some (.lst (((s.cases.take j).map (mulC n)).map dC))) (by simp; unfold szL; omega) ?_ (fun j hj η S' => ?_) (fun η S' => ?_)
  · rw [wp_iEach, wp_eLoc]
    exact ⟨⟨⟨_, _, _, _, _, rfl⟩, Ext.push _ _, by simp⟩, fun i η S _ _ => rfl⟩
  · rintro ⟨⟨y6, y7, y8, y9, y10, rfl⟩, e, g⟩
    have hj' : j < s.cases.length := by simpa using hj
    have co := so.cs s.cases[j] (List.getElem_mem hj')
    refine ⟨_, by rw [List.getElem_map]; rfl, ?_⟩
    refine mul_b1 g (by simp; omega) co h0 h1 hn fun S2 _ _ u => ?_
    refine ⟨⟨_, _, _, _, _, rfl⟩, e.upd u (Nat.le_refl _), ?_⟩
    rw [u.at_, take_map1 _ hj', List.map_append]
    rfl
  · rintro ⟨⟨y6, y7, y8, y9, y10, rfl⟩, e, g⟩
    rw [List.length_map, List.take_length] at g
    have gst := e.get hst
    simp
    rw [wp_isT_ref gst]
    simp
    rw [wp_mTuple_ref g]
    simp
    rw [wp_mAppend gst (by unfold szL; omega)]
    rw [show D.tup [.int s.sign, .tup (s.cases.map (dC ∘ mulC n))] = dS (mulS n s) by simp [dS, mulS]]
    exact hP _ _ _ _ _ _ _ (upd_of e (lst_lt hst))
theorem mult_wp {k : Nat} (ok : h.Ok) (hk : S[k]? = some (.lst (h.sts.map dS))) (hn : n ≤ 99) (hQ : ∀ S' l, Ext S S' → S.length ≤ l → S'[l]? = some (.lst ((mulH n h).sts.map dS)) → Q (.ref l) S') : wp (f__law_multiplied [plainD h k, .int n]) S Q X := by
  have le := ok.le
  rw [w_f__law_multiplied, b_f__law_multiplied]
  simp
  refine ws_for (h.sts.map dS) (fun j η S' => (∃ y3 y4 y5 y6 y7 y8 y9 y10, η = [some (plainD h k), some (.int n), some (.ref S.length), y3, y4, y5, y6, y7, y8, y9, y10]) ∧ Ext S S' ∧ S'[S.length]? = some (.lst (((h.sts.take j).map (mulS n)).map dS))) (by simp; unfold szL; omega) ?_ (fun j hj η S' => ?_) (fun η S' => ?_)
  · simp [plainD]
    rw [wp_itOf_ref ((Ext.push _ _).get hk)]
    exact ⟨⟨Ext.push _ _, by simp⟩, fun i η S1 _ _ _ _ _ _ _ _ _ _ e _ => by rw [itL_at (xs := h.sts.map dS) S1 (by rw [e.get hk]; rfl), List.getElem?_map]⟩
  · rintro ⟨⟨y3, y4, y5, y6, y7, y8, y9, y10, rfl⟩, e, g⟩
    have hj' : j < h.sts.length := by simpa using hj
    have so := ok.sts h.sts[j] (List.getElem_mem hj')
    refine ⟨_, by rw [List.getElem_map]; rfl, ?_⟩
    refine mul_b2 g (by simp; omega) so (ok.few (List.getElem?_eq_getElem hj')) ok.n0b ok.n1b hn fun S2 _ _ _ _ _ _ u => ?_
    refine ⟨⟨_, _, _, _, _, _, _, _, rfl⟩, e.upd u (Nat.le_refl _), ?_⟩
    rw [u.at_, take_map1 _ hj', List.map_append]
    rfl
  · rintro ⟨⟨y3, y4, y5, y6, y7, y8, y9, y10, rfl⟩, e, g⟩
    rw [List.length_map, List.take_length] at g
    simp
    exact hQ _ _ e (Nat.le_refl _) g
end
end Lw

end
section
set_option maxRecDepth 100000
set_option maxHeartbeats 4000000
set_option linter.all false
namespace Lw
open Lt
section
variable {S : Sto} {P : Pst} {Q : D → Sto → Prop} {X : Nat → List (Nat × D) → Sto → Prop} {h : HouseV} {o n : Nat}
@[simp] theorem opB_add_tup (xs ys : List D) : opB .add (.tup xs) (.tup ys) = grd (decide (xs.length + ys.length ≤ szL)) (ret (.tup (xs ++ ys))) := rfl
def osB (n : Nat) (os : List (Nat × Nat)) : Bool := os.all fun o => decide (o.2 * n ≤ 99)
def szD (h : HouseV) : D := .tup [.int h.m0, .int h.m1, .int h.n0, .int h.n1]
theorem good_b1 {c : CaseV} (k : h.Ok) (co : c.Ok h.m0 h.m1 h.n0 h.n1 h.sts.length) {x0 x3 x4 x5 x9 x10 x11 x12 : Option D}
    (hN : osB n c.os = true → P.nx [x0, some (szD h), some (.int h.sts.length), x3, x4, x5, some (.int c.a), some (.int c.b), some (.tup ((mulC n c).os.map dP)), x9, x10, x11, x12] S)
    (hF : osB n c.os = false → P.rt (.bl false) S) :
    ws b1_f__law_is_good [x0, some (szD h), some (.int h.sts.length), x3, x4, x5, some (.int c.a), some (.int c.b), some (.tup ((mulC n c).os.map dP)), x9, x10, x11, x12] S P := by
  have z := co.sz k.n0b k.n1b
  have a := co.a
  have b := co.b
  have l := co.len
  have n0 := k.n0b
  have n1 := k.n1b
  rw [b1_f__law_is_good]
  simp [szD, mulC]
  have l2 : (c.os.length : Int) = (h.n0 : Int) * h.n1 := by rw [l, Int.natCast_mul]
  rw [if_neg (by omega), if_neg (by omega), if_pos l2]
  refine ⟨mulOk_r (by omega) (by omega), ?_⟩
  refine wp_lc1m (c.os.map (dP ∘ mulO n)) (fun d => .bl (match d with
    | .tup [_, .int p] => decide (p ≤ 99)
    | _ => false)) (by simp; unfold szL; omega) ?_
  simp
  refine ⟨fun i _ => by simp [itT_at], fun x a b hx e => ?_, ?_⟩
  · subst e
    have := (co.os _ hx).1
    simp [mulO, dP]
    intro z
    dsimp only at this
    omega
  · rw [List.map_congr_left (g := fun o : Nat × Nat => D.bl (decide (o.2 * n ≤ 99))) (fun o _ => by
      show D.bl (decide (((o.2 * n : Nat) : Int) ≤ 99)) = _
      congr 1
      exact decide_eq_decide.mpr (by omega))]
    rw [wp_lAll_map]
    change _ → _ at hN
    have e : (c.os.all fun o => decide (o.2 * n ≤ 99)) = osB n c.os := rfl
    rw [e]
    rw [show c.os.map (dP ∘ mulO n) = (mulC n c).os.map dP by simp [mulC]]
    cases q : osB n c.os with
    | true => simp; exact hN q
    | false => simp; exact hF q
theorem dP_tup (p : Nat × Nat) : dP p = tupI [(p.1 : Int), (p.2 : Int)] := rfl
theorem okK_ps {l : List (Nat × Nat)} (h1 : l.length < 64) (h2 : ∀ p ∈ l, p.1 < 1000 ∧ p.2 < 1000) : okK (l.map fun p => [(p.1 : Int), (p.2 : Int)]) = true := by
  have e : (l.map fun p => [(p.1 : Int), (p.2 : Int)]).all (fun k => decide (k.length = 2) && k.all fun x => decide (0 ≤ x) && decide (x < setB)) = true := List.all_eq_true.mpr fun k hk => by
    obtain ⟨p, hp, rfl⟩ := List.mem_map.mp hk
    have := h2 p hp
    have z1 : (p.1 : Int) < setB := by show (p.1 : Int) < 1048576; omega
    have z2 : (p.2 : Int) < setB := by show (p.2 : Int) < 1048576; omega
    simp [z1, z2]
  unfold okK
  rw [List.length_map, decide_eq_true h1]
  cases l with
  | nil => rfl
  | cons p l =>
    have : dimK ((p :: l).map fun p => [(p.1 : Int), (p.2 : Int)]) = 2 := rfl
    rw [this, e]
    rfl
theorem code_lt2 {a b c d : Nat} (hb : b < 1000) (h : a < c ∨ a = c ∧ b < d) : TS.code setB [(a : Int), (b : Int)] < TS.code setB [(c : Int), (d : Int)] := by
  show (a : Int) * setB ^ 1 + ((b : Int) * setB ^ 0 + 0) < (c : Int) * setB ^ 1 + ((d : Int) * setB ^ 0 + 0)
  have e1 : setB ^ 1 = 1048576 := by decide
  have e0 : setB ^ 0 = 1 := by decide
  rw [e1, e0]
  omega
/-- the pairs of a state stand in order -/
theorem srt_ps {l : List (Nat × Nat)} (h1 : l.length < 64) (h2 : ∀ p ∈ l, p.1 < 1000 ∧ p.2 < 1000) (h3 : l.Pairwise pLt) : srtK (l.map fun p => [(p.1 : Int), (p.2 : Int)]) = l.map fun p => [(p.1 : Int), (p.2 : Int)] :=
  srtK_self (okK_ps h1 h2) (List.pairwise_map.mpr (h3.imp_of_mem fun hp _ z => code_lt2 (h2 _ hp).2 z))
theorem good_b2 {s : StateV} (k : h.Ok) (so : s.Ok h.m0 h.m1 h.n0 h.n1 h.sts.length) (few : s.cases.length ≤ 16) {x0 x5 x6 x7 x8 x9 x10 x11 x12 : Option D}
    (hN : (s.cases.all fun c => osB n c.os) = true → ∀ S' y5 y6 y7 y8 y9 y10 y11 y12, Ext S S' → P.nx [x0, some (szD h), some (.int h.sts.length), some (.int s.sign), some (.tup ((mulS n s).cases.map dC)), y5, y6, y7, y8, y9, y10, y11, y12] S')
    (hF : (s.cases.all fun c => osB n c.os) = false → ∀ S', Ext S S' → P.rt (.bl false) S') :
    ws b2_f__law_is_good [x0, some (szD h), some (.int h.sts.length), some (.int s.sign), some (.tup ((mulS n s).cases.map dC)), x5, x6, x7, x8, x9, x10, x11, x12] S P := by
  rw [b2_f__law_is_good]
  simp
  have le2 : (mulS n s).cases.length ≤ 16 := by show (s.cases.map _).length ≤ 16; rw [List.length_map]; exact few
  refine wp_lc1m ((mulS n s).cases.map dC) hdD (by simp; unfold szL; omega) ?_
  simp
  refine ⟨fun i _ => by simp [itT_at], fun c hc => by simp [dC, hdD], ?_⟩
  rw [show (mulS n s).cases.map (hdD ∘ dC) = s.ps.map dP by
    show (s.cases.map (mulC n)).map (hdD ∘ dC) = (s.cases.map CaseV.p).map dP
    rw [List.map_map, List.map_map]
    rfl]
  have sg := so.sign
  have pl : s.ps.length ≤ 16 := by unfold StateV.ps; rw [List.length_map]; exact few
  have bd : ∀ p ∈ s.ps, p.1 < 1000 ∧ p.2 < 1000 := fun p hp => by
    obtain ⟨c, hc, rfl⟩ := List.mem_map.mp hp
    have co := so.cs c hc
    have := co.a
    have := co.b
    have := k.m0b
    have := k.m1b
    exact ⟨by show c.a < 1000; omega, by show c.b < 1000; omega⟩
  have gp : Gds (s.ps.map dP) := gds_dP (by omega)
  have g0 := app0 S (Cell.lst (s.ps.map dP)) []
  have neq : s.ps.map dP ≠ [] := by
    have := so.ne
    unfold StateV.ps
    intro z
    exact this (by simpa using z)
  have gnil : Gds [] := ⟨by simp, fun x hx => by cases hx⟩
  rw [if_neg (by omega)]
  rw [wp_eqD_ref (app0 S (Cell.lst (s.ps.map dP)) [Cell.lst []]) (app_at S [Cell.lst (s.ps.map dP), Cell.lst []] 1) gp gnil]
  simp [neq]
  have e1 : s.ps.map dP = (s.ps.map fun p => [(p.1 : Int), (p.2 : Int)]).map tupI := by
    rw [List.map_map]
    rfl
  rw [wp_mKeys (ks := s.ps.map fun p => [(p.1 : Int), (p.2 : Int)]) (by rw [← e1]; exact app0 _ _ _) (okK_ps (by omega) bd)]
  rw [kSrt_ap, srt_ps (by omega) bd so.asc, ← e1]
  simp
  rw [wp_eqD_ref (xs := s.ps.map dP) (ys := s.ps.map dP) (app0 _ _ _) (app_at S _ 2) gp gp]
  simp
  generalize hS1 : S ++ [Cell.lst (s.ps.map dP), _, _] = S1
  have e1 : Ext S S1 := ⟨_, hS1.symm⟩
  have el : (mulS n s).cases.length = s.cases.length := by show (s.cases.map _).length = _; rw [List.length_map]
  refine ws_for ((mulS n s).cases.map dC) (fun j η S' => (∃ y6 y7 y8 y9 y10 y11 y12, η = [x0, some (szD h), some (.int h.sts.length), some (.int s.sign), some (.tup ((mulS n s).cases.map dC)), some (.ref S.length), y6, y7, y8, y9, y10, y11, y12]) ∧ S' = S1 ∧ ((s.cases.take j).all fun c => osB n c.os) = true) (by simp; unfold szL; omega) ?_ (fun j hj η S' => ?_) (fun η S' => ?_)
  · rw [wp_iEach, wp_eLoc]
    exact ⟨⟨⟨_, _, _, _, _, _, _, rfl⟩, rfl, rfl⟩, fun i η S _ _ => rfl⟩
  · rintro ⟨⟨y6, y7, y8, y9, y10, y11, y12, rfl⟩, rfl, g⟩
    have hj' : j < s.cases.length := by simpa [el] using hj
    have co := so.cs s.cases[j] (List.getElem_mem hj')
    have ej : ((mulS n s).cases.map dC)[j] = dC (mulC n s.cases[j]) := by simp [mulS]
    refine ⟨_, by rw [ej]; rfl, ?_⟩
    refine good_b1 k co (fun q => ?_) (fun q => ?_)
    · refine ⟨⟨_, _, _, _, _, _, _, rfl⟩, rfl, ?_⟩
      rw [List.take_add_one, List.getElem?_eq_getElem hj', List.all_append, g]
      simp [q]
    · refine hF ?_ _ e1
      cases z : s.cases.all fun c => osB n c.os with
      | false => rfl
      | true =>
        have := List.all_eq_true.mp z _ (List.getElem_mem hj')
        rw [q] at this
        cases this
  · rintro ⟨⟨y6, y7, y8, y9, y10, y11, y12, rfl⟩, rfl, g⟩
    rw [List.length_map, el, List.take_length] at g
    exact hN g _ _ _ _ _ _ _ _ _ e1
theorem mulB_os : mulB n h = h.sts.all fun s => s.cases.all fun c => osB n c.os := rfl
theorem good_wp {l : Nat} (k : h.Ok) (hl : S[l]? = some (.lst ((mulH n h).sts.map dS))) (hQ : ∀ S', Ext S S' → Q (.bl (mulB n h)) S') : wp (f__law_is_good [.tup [dP h.ls, dP h.as, .ref l]]) S Q X := by
  have le := k.le
  have ne := k.ne
  have m0 := k.m0b
  have m1 := k.m1b
  have n0 := k.n0b
  have n1 := k.n1b
  have m0' := k.m0a
  have m1' := k.m1a
  have n0' := k.n0a
  have n1' := k.n1a
  have el : (mulH n h).sts.length = h.sts.length := by show (h.sts.map _).length = _; rw [List.length_map]
  rw [w_f__law_is_good, b_f__law_is_good]
  have eP : dP h.ls = .tup [.int h.m0, .int h.m1] := rfl
  have eA : dP h.as = .tup [.int h.n0, .int h.n1] := rfl
  simp [eP, eA]
  rw [wp_mLen_ref hl]
  simp
  rw [el]
  refine ⟨by unfold szL; omega, ?_⟩
  refine wp_lc1m [.int h.m0, .int h.m1, .int h.n0, .int h.n1] (fun _ => .bl true) (by simp [szL]) ?_
  simp
  refine ⟨fun i _ => by simp [itT_at], by omega, ?_⟩
  rw [if_pos (by omega), if_neg (by omega)]
  refine ws_for ((mulH n h).sts.map dS) (fun j η S' => (∃ y3 y4 y5 y6 y7 y8 y9 y10 y11 y12, η = [some (.tup [dP h.ls, dP h.as, .ref l]), some (szD h), some (.int h.sts.length), y3, y4, y5, y6, y7, y8, y9, y10, y11, y12]) ∧ Ext S S' ∧ ((h.sts.take j).all fun s => s.cases.all fun c => osB n c.os) = true) (by simp [el]; unfold szL; omega) ?_ (fun j hj η S' => ?_) (fun η S' => ?_)
  · simp [eP, eA]
    rw [wp_itOf_ref hl]
    exact ⟨⟨rfl, Ext.refl _⟩, fun i η S1 _ _ _ _ _ _ _ _ _ _ _ _ e _ => by rw [itL_at (xs := (mulH n h).sts.map dS) S1 (by rw [e.get hl]; rfl), List.getElem?_map]⟩
  · rintro ⟨⟨y3, y4, y5, y6, y7, y8, y9, y10, y11, y12, rfl⟩, e, g⟩
    have hj' : j < h.sts.length := by simpa [el] using hj
    have so := k.sts h.sts[j] (List.getElem_mem hj')
    have ej : ((mulH n h).sts.map dS)[j] = dS (mulS n h.sts[j]) := by simp [mulH]
    refine ⟨_, by rw [ej]; rfl, ?_⟩
    refine good_b2 k so (k.few (List.getElem?_eq_getElem hj')) (fun q S2 _ _ _ _ _ _ _ _ e2 => ?_) (fun q S2 e2 => ?_)
    · refine ⟨⟨_, _, _, _, _, _, _, _, _, _, rfl⟩, e.trans e2, ?_⟩
      rw [List.take_add_one, List.getElem?_eq_getElem hj', List.all_append, g]
      simpa using q
    · have : mulB n h = false := by
        rw [mulB_os]
        cases z : h.sts.all fun s => s.cases.all fun c => osB n c.os with
        | false => rfl
        | true =>
          have := List.all_eq_true.mp z _ (List.getElem_mem hj')
          rw [q] at this
          cases this
      have := this ▸ hQ S2 (e.trans e2)
      exact this
  · rintro ⟨⟨y3, y4, y5, y6, y7, y8, y9, y10, y11, y12, rfl⟩, e, g⟩
    rw [List.length_map, el, List.take_length] at g
    simp
    have := hQ S' e
    rw [mulB_os, g] at this
    exact this
end
end Lw

end
section
set_option maxRecDepth 100000
set_option maxHeartbeats 4000000
set_option linter.all false
namespace Lw
open Lt
section
variable {S : Sto} {P : Pst} {Q : D → Sto → Prop} {X : Nat → List (Nat × D) → Sto → Prop} {h : HouseV} {o n : Nat}
/-- a case's data, multiplied -/
def mulCD (n : Nat) : D → D
  | .tup [a, b, .tup os] => .tup [a, b, .tup (os.map (mulD n))]
  | _ => .non
theorem mulCD_dC (n : Nat) (c : CaseV) : mulCD n (dC c) = dC (mulC n c) := by
  show D.tup [.int (c.a : Nat), .int (c.b : Nat), .tup ((c.os.map dP).map (mulD n))] = .tup [.int (c.a : Nat), .int (c.b : Nat), .tup ((c.os.map (mulO n)).map dP)]
  rw [mulD_os]
theorem priced_b1 {st : Nat} {acc : List D} {s : StateV} {m0 m1 n0 n1 k : Nat} (hst : S[st]? = some (.lst acc)) (hz : acc.length ≤ 1000) (so : s.Ok m0 m1 n0 n1 k) (few : s.cases.length ≤ 16) (h0 : n0 ≤ 4) (h1 : n1 ≤ 4) (hn : n ≤ 99) {x0 x5 x6 x7 x8 x9 x10 : Option D}
    (hP : ∀ S' y5 y6 y7 y8 y9 y10, Upd st (.lst (acc ++ [dS (mulS n s)])) S S' → P.nx [x0, some (.int n), some (.ref st), some (.int s.sign), some (.tup (s.cases.map dC)), y5, y6, y7, y8, y9, y10] S') :
    ws b1_f_priced [x0, some (.int n), some (.ref st), some (.int s.sign), some (.tup (s.cases.map dC)), x5, x6, x7, x8, x9, x10] S P := by
  rw [b1_f_priced]
  simp
  refine wp_lc1m (s.cases.map dC) (mulCD n) (by simp; unfold szL; omega) ?_
  simp
  refine ⟨fun i _ => by simp [itT_at], fun c hc => ?_, ?_⟩
  · have co := so.cs c hc
    have z := co.sz h0 h1
    rw [mulCD_dC]
    simp [dC]
    refine wp_lc1m (c.os.map dP) (mulD n) (by simp; unfold szL; omega) ?_
    simp
    refine ⟨fun i _ => by simp [itT_at], fun x a b hx e => ?_, ?_⟩
    · subst e
      simp [dP, mulD, mulOk_r (i := (b : Int)) (j := (n : Int)) (by omega) (by omega)]
    · have e : c.os.map (mulD n ∘ dP) = (c.os.map (mulO n)).map dP := by rw [← List.map_map, mulD_os]
      simp [e, mulC]
  · have e : s.cases.map (mulCD n ∘ dC) = (s.cases.map (mulC n)).map dC := by
      rw [List.map_map]
      exact List.map_congr_left fun c _ => mulCD_dC n c
    rw [e]
    have gst := (Ext.push S [Cell.lst ((s.cases.map (mulC n)).map dC)]).get hst
    rw [wp_isT_ref gst]
    simp only [kBm2_ap, wp_aL_cons, wp_eTup, wp_eLoc, kA_ap, wp_eCall, kA2_ap, wp_aL_nil, kM_ap, List.getElem?_cons_succ, List.getElem?_cons_zero, wlo_some]
    rw [wp_mTuple_ref (app0 S _ _)]
    simp only [kA2_ap, wp_aL_nil, kM_ap, kA_ap, kT_ap, kBm3_ap]
    rw [wp_mAppend gst (by unfold szL; omega)]
    exact hP _ _ _ _ _ _ _ (upd_of (Ext.push _ _) (lst_lt hst))
theorem mul_no {v : D} (H : At S o h) (hv : NotIn S v 0 99) : wp (m_House___mul__ [.ref o, v]) S Q X = X 32 [(11, v), (9, .str "InvalidCount")] S := by
  rw [w_m_House___mul__, b_m_House___mul__]
  simp
  rw [w_f_priced, b_f_priced]
  simp
  rw [wp_within_no hv]
  simp
theorem mul_dear (k : h.Ok) (H : At S o h) (hn : n ≤ 99) (hd : mulB n h = false) : wp (m_House___mul__ [.ref o, .int n]) S Q X = X 33 [(17, .int 99), (9, .str "TooDear")] S := by
  have hd : 99 < h.dear * n := by
    rw [mulB_dear] at hd
    have := of_decide_eq_false hd
    omega
  rw [w_m_House___mul__, b_m_House___mul__]
  simp
  rw [w_f_priced, b_f_priced]
  simp
  rw [wp_within]
  simp [show (n : Int) ≤ 99 by omega]
  rw [wp_atP H rfl, dear_wp k H]
  have e : ((h.dear : Int) * n) = ((h.dear * n : Nat) : Int) := by rw [Int.natCast_mul]
  simp [mulOk_r (i := (h.dear : Int)) (j := (n : Int)) (by omega) (by omega)]
  intro z
  omega
theorem mul_wp (k : h.Ok) (H : At S o h) (hn : n ≤ 99) (hd : mulB n h = true) (hQ : ∀ S' o', Ext S S' → S.length ≤ o' → At S' o' (mulH n h) → Q (.ref o') S') : wp (m_House___mul__ [.ref o, .int n]) S Q X := by
  have le := k.le
  have hd' : h.dear * n ≤ 99 := by
    rw [mulB_dear] at hd
    exact of_decide_eq_true hd
  rw [w_m_House___mul__, b_m_House___mul__]
  simp
  rw [w_f_priced, b_f_priced]
  simp
  rw [wp_within]
  simp [show (n : Int) ≤ 99 by omega]
  rw [wp_atP H rfl, dear_wp k H]
  have e : ((h.dear : Int) * n) = ((h.dear * n : Nat) : Int) := by rw [Int.natCast_mul]
  simp [mulOk_r (i := (h.dear : Int)) (j := (n : Int)) (by omega) (by omega)]
  rw [if_neg (by omega)]
  refine ws_for (h.sts.map dS) (fun j η S' => (∃ y3 y4 y5 y6 y7 y8 y9 y10, η = [some (.ref o), some (.int n), some (.ref S.length), y3, y4, y5, y6, y7, y8, y9, y10]) ∧ Ext S S' ∧ S'[S.length]? = some (.lst (((h.sts.take j).map (mulS n)).map dS)) ∧ S.length + 1 < S'.length ∧ S'[S.length + 1]? = some (.lst (h.sts.map dS))) (by simp; unfold szL; omega) ?_ (fun j hj η S' => ?_) (fun η S' => ?_)
  · simp
    rw [((Ext.push S _).at H).mo m_House_states 5 (by decide)]
    simp
    rw [wp_states ((Ext.push S _).at H)]
    simp
    rw [wp_itOf_ref (app_at S _ 1)]
    exact ⟨⟨Ext.push _ _, app0 _ _ _, by simp, app_at S _ 1⟩, fun i η S1 _ _ _ _ _ _ _ _ _ _ _ _ _ g => by rw [itL_at (xs := h.sts.map dS) S1 (by rw [g]; rfl), List.getElem?_map]⟩
  · rintro ⟨⟨y3, y4, y5, y6, y7, y8, y9, y10, rfl⟩, e, g, l2, g2⟩
    have hj' : j < h.sts.length := by simpa using hj
    have so := k.sts h.sts[j] (List.getElem_mem hj')
    refine ⟨_, by rw [List.getElem_map]; rfl, ?_⟩
    refine priced_b1 g (by simp; omega) so (k.few (List.getElem?_eq_getElem hj')) k.n0b k.n1b hn fun S2 _ _ _ _ _ _ u => ?_
    refine ⟨⟨_, _, _, _, _, _, _, _, rfl⟩, e.upd u (Nat.le_refl _), ?_, ?_, ?_⟩
    · rw [u.at_, take_map1 _ hj', List.map_append]
      rfl
    · exact Nat.lt_of_lt_of_le l2 u.len
    · exact u.get g2 (by omega)
  · rintro ⟨⟨y3, y4, y5, y6, y7, y8, y9, y10, rfl⟩, e, g, _, _⟩
    rw [List.length_map, List.take_length] at g
    have H' := e.at H
    simp [H'.at0]
    simp [H'.at1]
    refine newN (h := mulH n h) (mulH_ok k hd) g fun S2 e2 a2 => ?_
    exact hQ _ _ (e.trans e2) e.len a2
end
end Lw

end
section
set_option Elab.async false
set_option linter.all false
set_option maxRecDepth 100000
set_option maxHeartbeats 0
/-! the defs of the law (printed by gen.py) -/
namespace Lw
open PySem PySem.Spec PyProof.Rows L2 Lt
noncomputable section
abbrev pw : Program := PySem.Challenge.pw_lagtoll_k08_prices_multiplied
def tp (i : Nat) : Stmt := PySem.Challenge.pw_lagtoll_k08_prices_multiplied.main.body.getD i (.Pass ⟨0, 0, 0, 0⟩)
def mth (i j : Nat) : Stmt := (clsBody (tp i)).getD j (.Pass ⟨0, 0, 0, 0⟩)
def GT : List Str := [("is_number" : Str), ("is_within" : Str), ("is_pair_within" : Str), ("is_listed" : Str), ("rising" : Str), ("pairs_of" : Str), ("is_case" : Str), ("is_state" : Str), ("_law_bag" : Str), ("_law_draw" : Str), ("_law_of" : Str), ("_law_alike" : Str), ("_law_pairs" : Str), ("_law_outcomes" : Str), ("_law_state" : Str), ("_law_drawn" : Str), ("_law_wide" : Str), ("law" : Str), ("House" : Str), ("_law_made" : Str), ("_law_let" : Str), ("_law_outcome" : Str), ("_law_play" : Str), ("_law_followed" : Str), ("InvalidHouse" : Str), ("InvalidState" : Str), ("InvalidLetters" : Str), ("InvalidAnswers" : Str), ("_law_bad_state" : Str), ("priced" : Str), ("_law_is_good" : Str), ("_law_multiplied" : Str), ("InvalidCount" : Str), ("TooDear" : Str)]
def ATS : List Str := ["letters", "answers", "kept_states", "need_state", "pairs", "states", "outcome", "sign", "turned", "tag", "state", "given", "hand", "beat", "word", "line", "cost", "most", "name", "dearest"]
theorem gtN : GT.Nodup := kDist_ok (by kernel_rfl)
theorem atN : ATS.Nodup := kDist_ok (by kernel_rfl)
def d_f__law_bag : He.DefD := ⟨("_law_bag", none), "_law_bag", "_law_bag", defArgs (tp 43), defBody (tp 43), defScope (tp 43), [], []⟩
def d_f__law_draw : He.DefD := ⟨("_law_draw", none), "_law_draw", "_law_draw", defArgs (tp 44), defBody (tp 44), defScope (tp 44), [], []⟩
def d_f__law_of : He.DefD := ⟨("_law_of", none), "_law_of", "_law_of", defArgs (tp 45), defBody (tp 45), defScope (tp 45), [], []⟩
def d_f__law_pairs : He.DefD := ⟨("_law_pairs", none), "_law_pairs", "_law_pairs", defArgs (tp 49), defBody (tp 49), defScope (tp 49), [], []⟩
def d_f__law_outcomes : He.DefD := ⟨("_law_outcomes", none), "_law_outcomes", "_law_outcomes", defArgs (tp 50), defBody (tp 50), defScope (tp 50), [], []⟩
def d_f__law_state : He.DefD := ⟨("_law_state", none), "_law_state", "_law_state", defArgs (tp 51), defBody (tp 51), defScope (tp 51), [], []⟩
def d_f__law_drawn : He.DefD := ⟨("_law_drawn", none), "_law_drawn", "_law_drawn", defArgs (tp 52), defBody (tp 52), defScope (tp 52), [], []⟩
def d_f_is_number : He.DefD := ⟨("is_number", none), "is_number", "is_number", defArgs (tp 3), defBody (tp 3), defScope (tp 3), [], []⟩
def d_f_is_within : He.DefD := ⟨("is_within", none), "is_within", "is_within", defArgs (tp 4), defBody (tp 4), defScope (tp 4), [], []⟩
def d_f_is_pair_within : He.DefD := ⟨("is_pair_within", none), "is_pair_within", "is_pair_within", defArgs (tp 5), defBody (tp 5), defScope (tp 5), [], []⟩
def d_f_is_listed : He.DefD := ⟨("is_listed", none), "is_listed", "is_listed", defArgs (tp 6), defBody (tp 6), defScope (tp 6), [], []⟩
def d_f_is_case : He.DefD := ⟨("is_case", none), "is_case", "is_case", defArgs (tp 27), defBody (tp 27), defScope (tp 27), [], []⟩
def d_f_rising : He.DefD := ⟨("rising", none), "rising", "rising", defArgs (tp 7), defBody (tp 7), defScope (tp 7), [], []⟩
def d_f_is_state : He.DefD := ⟨("is_state", none), "is_state", "is_state", defArgs (tp 28), defBody (tp 28), defScope (tp 28), [], []⟩
def d_m_House___init__ : He.DefD := ⟨("House", some "__init__"), "__init__", "House.__init__", defArgs (mth 35 0), defBody (mth 35 0), defScope (mth 35 0), [], []⟩
def d_f__law_made : He.DefD := ⟨("_law_made", none), "_law_made", "_law_made", defArgs (tp 53), defBody (tp 53), defScope (tp 53), [], []⟩
def d_f__law_multiplied : He.DefD := ⟨("_law_multiplied", none), "_law_multiplied", "_law_multiplied", defArgs (tp 55), defBody (tp 55), defScope (tp 55), [], []⟩
def d_f__law_is_good : He.DefD := ⟨("_law_is_good", none), "_law_is_good", "_law_is_good", defArgs (tp 54), defBody (tp 54), defScope (tp 54), [], []⟩
def d_f__law_alike : He.DefD := ⟨("_law_alike", none), "_law_alike", "_law_alike", defArgs (tp 46), defBody (tp 46), defScope (tp 46), [], []⟩
def d_m_House_states : He.DefD := ⟨("House", some "states"), "states", "House.states", defArgs (mth 35 9), defBody (mth 35 9), defScope (mth 35 9), [], []⟩
def d_m_House___eq__ : He.DefD := ⟨("House", some "__eq__"), "__eq__", "House.__eq__", defArgs (mth 35 3), defBody (mth 35 3), defScope (mth 35 3), [], []⟩
def d_f_priced : He.DefD := ⟨("priced", none), "priced", "priced", defArgs (tp 36), defBody (tp 36), defScope (tp 36), [], []⟩
def d_m_House___mul__ : He.DefD := ⟨("House", some "__mul__"), "__mul__", "House.__mul__", defArgs (mth 35 7), defBody (mth 35 7), defScope (mth 35 7), [], []⟩
def d_k08_f_law : He.DefD := ⟨("law", none), "law", "law", defArgs (tp 56), defBody (tp 56), defScope (tp 56), [], []⟩
def d_f__law_fields : He.DefD := ⟨("_law_fields", none), "_law_fields", "_law_fields", defArgs (tp 47), defBody (tp 47), defScope (tp 47), [], []⟩
def d_f__law_try : He.DefD := ⟨("_law_try", none), "_law_try", "_law_try", defArgs (tp 48), defBody (tp 48), defScope (tp 48), [], []⟩
def fn : List He.DefD := [d_f__law_bag, d_f__law_draw, d_f__law_of, d_f__law_pairs, d_f__law_outcomes, d_f__law_state, d_f__law_drawn, d_f_is_number, d_f_is_within, d_f_is_pair_within, d_f_is_listed, d_f_is_case, d_f_rising, d_f_is_state, d_m_House___init__, d_f__law_made, d_f__law_multiplied, d_f__law_is_good, d_f__law_alike, d_m_House_states, d_m_House___eq__, d_f_priced, d_m_House___mul__, d_k08_f_law, d_f__law_fields, d_f__law_try]
def x_InvalidHouse : XcD := ⟨"InvalidHouse", "InvalidHouse.__init__", defArgs (mth 12 0), defBody (mth 12 0), defScope (mth 12 0)⟩
def x_InvalidCount : XcD := ⟨"InvalidCount", "InvalidCount.__init__", defArgs (mth 16 0), defBody (mth 16 0), defScope (mth 16 0)⟩
def x_TooDear : XcD := ⟨"TooDear", "TooDear.__init__", defArgs (mth 19 0), defBody (mth 19 0), defScope (mth 19 0)⟩
def xs : List XcD := [x_InvalidHouse, x_InvalidCount, x_TooDear]
def p_m_House_dearest : PrD := ⟨"House", "dearest", "House.dearest", defArgs (mth 35 2), defBody (mth 35 2), defScope (mth 35 2)⟩
def prl : List PrD := [p_m_House_dearest]
def tf : List He.Defn := [("law", none)]
def fl : Str := pw.main.file
def fa : List He.Fa := [.glo "_law_bag", .keep "_law_bag", .glo "_law_draw", .keep "_law_draw", .glo "_law_of", .keep "_law_of", .glo "_law_pairs", .keep "_law_pairs", .glo "_law_outcomes", .keep "_law_outcomes", .glo "_law_state", .keep "_law_state", .glo "_law_drawn", .keep "_law_drawn", .glo "is_number", .keep "is_number", .glo "is_within", .keep "is_within", .glo "is_pair_within", .keep "is_pair_within", .glo "is_listed", .keep "is_listed", .glo "is_case", .keep "is_case", .glo "rising", .keep "rising", .glo "is_state", .keep "is_state", .glo "_law_made", .keep "_law_made", .glo "_law_multiplied", .keep "_law_multiplied", .glo "_law_is_good", .keep "_law_is_good", .glo "_law_alike", .keep "_law_alike", .glo "priced", .keep "priced", .glo "law", .keep "law", .glo "House", .cls "House", .mkr "House", .noat "House" "letters", .noat "House" "answers", .noat "House" "kept_states", .meth "House" "states", .meth "House" "__eq__", .meth "House" "__mul__", .glo "_law_fields", .keep "_law_fields", .glo "_law_try", .keep "_law_try", .glo "InvalidHouse", .glo "InvalidCount", .glo "TooDear", .glo "TollError", .glo "Missing", .glo "NothingLeft", .free "super", .free "list", .free "len", .free "int", .free "range", .free "tuple", .free "isinstance", .free "bool", .free "all", .int "MOST_PRICE" 99, .free "zip", .int "MOST_SIGN" 8, .int "MOST_SIZE" 4, .int "MOST_STATES" 16, .free "enumerate", .free "sorted", .free "set", .free "str", .free "max"]
def fb : List Fb2 := [.exc x_InvalidHouse fl ["tag", "state"], .exc x_InvalidCount fl ["tag", "given"], .exc x_TooDear fl ["tag", "most"], .caught "InvalidHouse" "TollError" "Missing" "NothingLeft", .caught "InvalidCount" "TollError" "Missing" "NothingLeft", .caught "TooDear" "TollError" "Missing" "NothingLeft", .prop p_m_House_dearest, .opr "House" "__mul__" "__rmul__", .old (.ins "House")]
structure Hy (w : World) (K : PySem.W.Frag) (mg : Str → Option Value) (base : Heap) : Prop where
  says : He.SaysD fa fn K
  new : ∀ (i : Nat) (f : Fb2), fb[i]? = some f → f.ok K = true
  xss : ∀ (i : Nat) (d : XcD), xs[i]? = some d → fnV K (d.ad K) = d.val
  pss : ∀ (i : Nat) (d : PrD), prl[i]? = some d → fnV K (d.ad K) = d.val
  tb : ∀ p ∈ tf, LamX.TabB base mg (He.cT K p).1 (He.cT K p).2
  ex : ∃ h : Heap, K.In h ∧ h.Ns mainGlobals mg
abbrev tbs (K : PySem.W.Frag) : List (Addr × Str) := [((He.cT K ("law", none)).2, "law" ++ ".<locals>." ++ "<lambda>")]
abbrev G (w : World) (K : PySem.W.Frag) (mg : Str → Option Value) (base : Heap) : GC := ⟨pw, w, K, mg, base, GT, ATS, atN, gtN, tbs K⟩
section
variable {w : World} {K : PySem.W.Frag} {mg : Str → Option Value} {base : Heap}
theorem Hy.nw (h : Hy w K mg base) (i : Nat) {f : Fb2} (e : fb[i]? = some f := by rfl) : f.ok K = true := h.new i f e
theorem Hy.glo (h : Hy w K mg base) (i : Nat) {x : Str} (e : fa[i]? = some (.glo x) := by rfl) : mg x = some (.ref (He.ga K x)) := let ⟨_, X, G⟩ := h.ex; He.glo_ok X G (h.says.fact i e)
theorem Hy.free (h : Hy w K mg base) (i : Nat) {x : Str} (e : fa[i]? = some (.free x) := by rfl) : mg x = none := let ⟨_, X, G⟩ := h.ex; He.free_ok X G (h.says.fact i e)
theorem Hy.int (h : Hy w K mg base) (i : Nat) {x : Str} {n : Int} (e : fa[i]? = some (.int x n) := by rfl) : ∃ t, mg x = some (.int n t) := let ⟨_, X, G⟩ := h.ex; He.int_ok X G (h.says.fact i e)
theorem Hy.str (h : Hy w K mg base) (i : Nat) {x y : Str} (e : fa[i]? = some (.str x y) := by rfl) : ∃ t, mg x = some (.str y t) := let ⟨_, X, G⟩ := h.ex; He.str_ok X G (h.says.fact i e)
theorem Hy.keep (h : Hy w K mg base) (i : Nat) {x : Str} (e : fa[i]? = some (.keep x) := by rfl) : PySem.W.keepIn K (.ref (He.ga K x)) = true := He.keep_ok (h.says.fact i e)
theorem Hy.cls (h : Hy w K mg base) (i : Nat) {x : Str} (e : fa[i]? = some (.cls x) := by rfl) : Cls K (He.ga K x) := He.cls_ok (h.says.fact i e)
theorem Hy.noat (h : Hy w K mg base) (i : Nat) {x f : Str} (e : fa[i]? = some (.noat x f) := by rfl) : NoAttr K (He.ga K x) f := He.noat_ok (h.says.fact i e)
theorem Hy.meth (h : Hy w K mg base) (i : Nat) {x m : Str} (e : fa[i]? = some (.meth x m) := by rfl) : Meth K (He.ga K x) m (He.ma K (He.ga K x) m) := He.meth_ok (h.says.fact i e)
theorem Hy.mkr (h : Hy w K mg base) (i : Nat) {x : Str} (e : fa[i]? = some (.mkr x) := by rfl) : Mk K (He.ga K x) (He.ma K (He.ga K x) "__init__") := He.mkr_ok (h.says.fact i e)
theorem xf_InvalidHouse (h : Hy w K mg base) : ∀ p ∈ ([("tag", .str "InvalidHouse"), ("state", .arg 0)] : List (Str × XA)), PySem.W.findIn K (.ref (He.ga K x_InvalidHouse.cls)) p.1 = some none := fun p hp => of_decide_eq_true (List.all_eq_true.mp (and2 (h.nw 0 (f := .exc x_InvalidHouse fl ["tag", "state"]))).2 p.1 (List.mem_map.mpr ⟨p, hp, rfl⟩))
theorem xc_InvalidHouse (h : Hy w K mg base) : XcOk (G w K mg base) 1 24 1 "InvalidHouse" (xIt [(10, .arg 0), (9, .str "InvalidHouse")]) := xc_ok (d := x_InvalidHouse) (ps := ["self", "state"]) (file := fl) (its := [("tag", .str "InvalidHouse"), ("state", .arg 0)]) (h.xss 0 _ rfl) (and2 (h.nw 0 (f := .exc x_InvalidHouse fl ["tag", "state"]))).1 (xf_InvalidHouse h) rfl (by kernel_rfl) (by kernel_rfl) (by kernel_rfl) (by kernel_rfl) rfl (h.glo 53) (h.free 59)
theorem xf_InvalidCount (h : Hy w K mg base) : ∀ p ∈ ([("tag", .str "InvalidCount"), ("given", .arg 0)] : List (Str × XA)), PySem.W.findIn K (.ref (He.ga K x_InvalidCount.cls)) p.1 = some none := fun p hp => of_decide_eq_true (List.all_eq_true.mp (and2 (h.nw 1 (f := .exc x_InvalidCount fl ["tag", "given"]))).2 p.1 (List.mem_map.mpr ⟨p, hp, rfl⟩))
theorem xc_InvalidCount (h : Hy w K mg base) : XcOk (G w K mg base) 1 32 1 "InvalidCount" (xIt [(11, .arg 0), (9, .str "InvalidCount")]) := xc_ok (d := x_InvalidCount) (ps := ["self", "given"]) (file := fl) (its := [("tag", .str "InvalidCount"), ("given", .arg 0)]) (h.xss 1 _ rfl) (and2 (h.nw 1 (f := .exc x_InvalidCount fl ["tag", "given"]))).1 (xf_InvalidCount h) rfl (by kernel_rfl) (by kernel_rfl) (by kernel_rfl) (by kernel_rfl) rfl (h.glo 54) (h.free 59)
theorem xf_TooDear (h : Hy w K mg base) : ∀ p ∈ ([("tag", .str "TooDear"), ("most", .arg 0)] : List (Str × XA)), PySem.W.findIn K (.ref (He.ga K x_TooDear.cls)) p.1 = some none := fun p hp => of_decide_eq_true (List.all_eq_true.mp (and2 (h.nw 2 (f := .exc x_TooDear fl ["tag", "most"]))).2 p.1 (List.mem_map.mpr ⟨p, hp, rfl⟩))
theorem xc_TooDear (h : Hy w K mg base) : XcOk (G w K mg base) 1 33 1 "TooDear" (xIt [(17, .arg 0), (9, .str "TooDear")]) := xc_ok (d := x_TooDear) (ps := ["self", "most"]) (file := fl) (its := [("tag", .str "TooDear"), ("most", .arg 0)]) (h.xss 2 _ rfl) (and2 (h.nw 2 (f := .exc x_TooDear fl ["tag", "most"]))).1 (xf_TooDear h) rfl (by kernel_rfl) (by kernel_rfl) (by kernel_rfl) (by kernel_rfl) rfl (h.glo 55) (h.free 59)
theorem try_ok (h : Hy w K mg base) : TryOk (G w K mg base) [24, 32, 33] := by
  obtain ⟨fdf, FF⟩ := h.says.def_ 24 (d := d_f__law_fields) rfl
  obtain ⟨fdg, FT⟩ := h.says.def_ 25 (d := d_f__law_try) rfl
  have ef : d_f__law_fields.body = fieldsB ⟨316, 7, 316, 13⟩ ⟨316, 7, 316, 17⟩ ⟨316, 22, 316, 36⟩ ⟨316, 38, 316, 53⟩ ⟨316, 55, 316, 71⟩ ⟨316, 73, 316, 86⟩ ⟨316, 88, 316, 96⟩ ⟨316, 98, 316, 109⟩ ⟨316, 21, 316, 110⟩ ⟨316, 7, 316, 110⟩ ⟨317, 11, 317, 17⟩ ⟨317, 11, 317, 21⟩ ⟨317, 25, 317, 39⟩ ⟨317, 11, 317, 39⟩ ⟨318, 20, 318, 26⟩ ⟨318, 20, 318, 32⟩ ⟨318, 19, 318, 34⟩ ⟨318, 12, 318, 34⟩ ⟨317, 8, 318, 34⟩ ⟨319, 11, 319, 17⟩ ⟨319, 11, 319, 21⟩ ⟨319, 25, 319, 40⟩ ⟨319, 11, 319, 40⟩ ⟨320, 20, 320, 26⟩ ⟨320, 20, 320, 31⟩ ⟨320, 33, 320, 39⟩ ⟨320, 33, 320, 44⟩ ⟨320, 19, 320, 45⟩ ⟨320, 12, 320, 45⟩ ⟨319, 8, 320, 45⟩ ⟨321, 11, 321, 17⟩ ⟨321, 11, 321, 21⟩ ⟨321, 25, 321, 41⟩ ⟨321, 11, 321, 41⟩ ⟨322, 20, 322, 26⟩ ⟨322, 20, 322, 31⟩ ⟨322, 19, 322, 33⟩ ⟨322, 12, 322, 33⟩ ⟨321, 8, 322, 33⟩ ⟨323, 11, 323, 17⟩ ⟨323, 11, 323, 21⟩ ⟨323, 25, 323, 38⟩ ⟨323, 11, 323, 38⟩ ⟨324, 20, 324, 26⟩ ⟨324, 20, 324, 31⟩ ⟨324, 19, 324, 33⟩ ⟨324, 12, 324, 33⟩ ⟨323, 8, 324, 33⟩ ⟨325, 33, 325, 39⟩ ⟨325, 33, 325, 43⟩ ⟨325, 47, 325, 55⟩ ⟨325, 33, 325, 55⟩ ⟨325, 16, 325, 22⟩ ⟨325, 16, 325, 27⟩ ⟨325, 15, 325, 29⟩ ⟨325, 62, 325, 68⟩ ⟨325, 62, 325, 73⟩ ⟨325, 61, 325, 75⟩ ⟨325, 15, 325, 75⟩ ⟨325, 8, 325, 75⟩ ⟨316, 4, 325, 75⟩ ⟨326, 7, 326, 13⟩ ⟨326, 7, 326, 17⟩ ⟨326, 22, 326, 31⟩ ⟨326, 33, 326, 42⟩ ⟨326, 44, 326, 53⟩ ⟨326, 55, 326, 61⟩ ⟨326, 21, 326, 62⟩ ⟨326, 7, 326, 62⟩ ⟨327, 16, 327, 22⟩ ⟨327, 16, 327, 27⟩ ⟨327, 15, 327, 29⟩ ⟨327, 8, 327, 29⟩ ⟨326, 4, 327, 29⟩ ⟨328, 7, 328, 13⟩ ⟨328, 7, 328, 17⟩ ⟨328, 22, 328, 35⟩ ⟨328, 37, 328, 50⟩ ⟨328, 21, 328, 51⟩ ⟨328, 7, 328, 51⟩ ⟨329, 16, 329, 22⟩ ⟨329, 16, 329, 27⟩ ⟨329, 15, 329, 29⟩ ⟨329, 8, 329, 29⟩ ⟨328, 4, 329, 29⟩ ⟨330, 4, 330, 13⟩ ⟨330, 17, 330, 31⟩ ⟨330, 33, 330, 46⟩ ⟨330, 48, 330, 61⟩ ⟨330, 63, 330, 74⟩ ⟨330, 76, 330, 89⟩ ⟨330, 91, 330, 104⟩ ⟨330, 16, 330, 105⟩ ⟨330, 4, 330, 105⟩ ⟨331, 17, 331, 23⟩ ⟨331, 17, 331, 27⟩ ⟨331, 31, 331, 40⟩ ⟨331, 17, 331, 40⟩ ⟨331, 11, 331, 13⟩ ⟨331, 47, 331, 53⟩ ⟨331, 47, 331, 59⟩ ⟨331, 46, 331, 61⟩ ⟨331, 11, 331, 61⟩ ⟨331, 4, 331, 61⟩ := by kernel_rfl
  have et : d_f__law_try.body = tryB ⟨334, 16, 334, 22⟩ ⟨334, 24, 334, 32⟩ ⟨334, 24, 334, 34⟩ ⟨334, 15, 334, 35⟩ ⟨334, 8, 334, 35⟩ ⟨335, 12, 335, 21⟩ ⟨335, 23, 335, 30⟩ ⟨335, 32, 335, 43⟩ ⟨335, 11, 335, 44⟩ ⟨336, 16, 336, 20⟩ ⟨336, 22, 336, 28⟩ ⟨336, 22, 336, 32⟩ ⟨336, 15, 336, 33⟩ ⟨336, 36, 336, 47⟩ ⟨336, 48, 336, 54⟩ ⟨336, 36, 336, 55⟩ ⟨336, 15, 336, 55⟩ ⟨336, 8, 336, 55⟩ ⟨335, 4, 336, 55⟩ ⟨333, 4, 336, 55⟩ := by kernel_rfl
  have pf : parNames d_f__law_fields.params = (["_law_e"] : List Str) := strsB_ok (by kernel_rfl)
  have pt : parNames d_f__law_try.params = (["_law_ask"] : List Str) := strsB_ok (by kernel_rfl)
  have bf := binds_plain FF (by kernel_rfl)
  have bt := binds_plain FT (by kernel_rfl)
  rw [pf] at bf
  rw [pt] at bt
  have FF2 : FunD K "_law_fields" "_law_fields" d_f__law_fields.params (fieldsB ⟨316, 7, 316, 13⟩ ⟨316, 7, 316, 17⟩ ⟨316, 22, 316, 36⟩ ⟨316, 38, 316, 53⟩ ⟨316, 55, 316, 71⟩ ⟨316, 73, 316, 86⟩ ⟨316, 88, 316, 96⟩ ⟨316, 98, 316, 109⟩ ⟨316, 21, 316, 110⟩ ⟨316, 7, 316, 110⟩ ⟨317, 11, 317, 17⟩ ⟨317, 11, 317, 21⟩ ⟨317, 25, 317, 39⟩ ⟨317, 11, 317, 39⟩ ⟨318, 20, 318, 26⟩ ⟨318, 20, 318, 32⟩ ⟨318, 19, 318, 34⟩ ⟨318, 12, 318, 34⟩ ⟨317, 8, 318, 34⟩ ⟨319, 11, 319, 17⟩ ⟨319, 11, 319, 21⟩ ⟨319, 25, 319, 40⟩ ⟨319, 11, 319, 40⟩ ⟨320, 20, 320, 26⟩ ⟨320, 20, 320, 31⟩ ⟨320, 33, 320, 39⟩ ⟨320, 33, 320, 44⟩ ⟨320, 19, 320, 45⟩ ⟨320, 12, 320, 45⟩ ⟨319, 8, 320, 45⟩ ⟨321, 11, 321, 17⟩ ⟨321, 11, 321, 21⟩ ⟨321, 25, 321, 41⟩ ⟨321, 11, 321, 41⟩ ⟨322, 20, 322, 26⟩ ⟨322, 20, 322, 31⟩ ⟨322, 19, 322, 33⟩ ⟨322, 12, 322, 33⟩ ⟨321, 8, 322, 33⟩ ⟨323, 11, 323, 17⟩ ⟨323, 11, 323, 21⟩ ⟨323, 25, 323, 38⟩ ⟨323, 11, 323, 38⟩ ⟨324, 20, 324, 26⟩ ⟨324, 20, 324, 31⟩ ⟨324, 19, 324, 33⟩ ⟨324, 12, 324, 33⟩ ⟨323, 8, 324, 33⟩ ⟨325, 33, 325, 39⟩ ⟨325, 33, 325, 43⟩ ⟨325, 47, 325, 55⟩ ⟨325, 33, 325, 55⟩ ⟨325, 16, 325, 22⟩ ⟨325, 16, 325, 27⟩ ⟨325, 15, 325, 29⟩ ⟨325, 62, 325, 68⟩ ⟨325, 62, 325, 73⟩ ⟨325, 61, 325, 75⟩ ⟨325, 15, 325, 75⟩ ⟨325, 8, 325, 75⟩ ⟨316, 4, 325, 75⟩ ⟨326, 7, 326, 13⟩ ⟨326, 7, 326, 17⟩ ⟨326, 22, 326, 31⟩ ⟨326, 33, 326, 42⟩ ⟨326, 44, 326, 53⟩ ⟨326, 55, 326, 61⟩ ⟨326, 21, 326, 62⟩ ⟨326, 7, 326, 62⟩ ⟨327, 16, 327, 22⟩ ⟨327, 16, 327, 27⟩ ⟨327, 15, 327, 29⟩ ⟨327, 8, 327, 29⟩ ⟨326, 4, 327, 29⟩ ⟨328, 7, 328, 13⟩ ⟨328, 7, 328, 17⟩ ⟨328, 22, 328, 35⟩ ⟨328, 37, 328, 50⟩ ⟨328, 21, 328, 51⟩ ⟨328, 7, 328, 51⟩ ⟨329, 16, 329, 22⟩ ⟨329, 16, 329, 27⟩ ⟨329, 15, 329, 29⟩ ⟨329, 8, 329, 29⟩ ⟨328, 4, 329, 29⟩ ⟨330, 4, 330, 13⟩ ⟨330, 17, 330, 31⟩ ⟨330, 33, 330, 46⟩ ⟨330, 48, 330, 61⟩ ⟨330, 63, 330, 74⟩ ⟨330, 76, 330, 89⟩ ⟨330, 91, 330, 104⟩ ⟨330, 16, 330, 105⟩ ⟨330, 4, 330, 105⟩ ⟨331, 17, 331, 23⟩ ⟨331, 17, 331, 27⟩ ⟨331, 31, 331, 40⟩ ⟨331, 17, 331, 40⟩ ⟨331, 11, 331, 13⟩ ⟨331, 47, 331, 53⟩ ⟨331, 47, 331, 59⟩ ⟨331, 46, 331, 61⟩ ⟨331, 11, 331, 61⟩ ⟨331, 4, 331, 61⟩) d_f__law_fields.scope [] [] (He.ga K "_law_fields") fdf := by rw [← ef]; exact FF
  have FT2 : FunD K "_law_try" "_law_try" d_f__law_try.params (tryB ⟨334, 16, 334, 22⟩ ⟨334, 24, 334, 32⟩ ⟨334, 24, 334, 34⟩ ⟨334, 15, 334, 35⟩ ⟨334, 8, 334, 35⟩ ⟨335, 12, 335, 21⟩ ⟨335, 23, 335, 30⟩ ⟨335, 32, 335, 43⟩ ⟨335, 11, 335, 44⟩ ⟨336, 16, 336, 20⟩ ⟨336, 22, 336, 28⟩ ⟨336, 22, 336, 32⟩ ⟨336, 15, 336, 33⟩ ⟨336, 36, 336, 47⟩ ⟨336, 48, 336, 54⟩ ⟨336, 36, 336, 55⟩ ⟨336, 15, 336, 55⟩ ⟨336, 8, 336, 55⟩ ⟨335, 4, 336, 55⟩ ⟨333, 4, 336, 55⟩) d_f__law_try.scope [] [] (He.ga K "_law_try") fdg := by rw [← et]; exact FT
  refine ⟨He.ga K "_law_try", He.ga K "_law_fields", fdf, fdg, .ref (He.ga K "TollError"), .ref (He.ga K "Missing"), .ref (He.ga K "NothingLeft"), d_f__law_try.scope, d_f__law_try.params, [], ?_⟩
  exact { F := fields_fn FF2 (scB_ok (by kernel_rfl)) (kLook_lookup (by kernel_rfl)) (kLook_lookup (by kernel_rfl)), bf := bf, D := ⟨_, _, _, _, _, _, _, _, _, _, _, _, _, _, _, _, _, _, _, _, FT2⟩, bg := bt, S := scB_ok (by kernel_rfl)
          va := kLook_lookup (by kernel_rfl), ve := kLook_lookup (by kernel_rfl), g1 := kLook_lookup (by kernel_rfl), g2 := kLook_lookup (by kernel_rfl), g3 := kLook_lookup (by kernel_rfl), gf := kLook_lookup (by kernel_rfl)
          m1 := h.glo 56, m2 := h.glo 57, m3 := h.glo 58, mf := h.glo 49, mt := h.glo 51, kf := h.keep 50, kg := h.keep 52
          cs := all_cons (tc_ok rfl (h.glo 53) (h.nw 3)) (all_cons (tc_ok rfl (h.glo 54) (h.nw 4)) (all_cons (tc_ok rfl (h.glo 55) (h.nw 5)) (all_nil))) }
def tb_f__law_bag : Tb := ⟨[("list", .bf .list), ("len", .bf .len), ("int", .bf .int)], [], [], [], ATS, IC, [], [], none, [], []⟩
theorem e_f__law_bag : semB (sem 60) 60 ⟨["_law_script", "_law_cells", "_law_mark", "_law_cell"], d_f__law_bag.scope, none, tb_f__law_bag, false⟩ d_f__law_bag.body = b_f__law_bag := by kernel_rfl
theorem ok_f__law_bag (h : Hy w K mg base) : DefOk (G w K mg base) 1 (He.ga K "_law_bag") f__law_bag := by
  obtain ⟨fd, F⟩ := h.says.def_ 0 (d := d_f__law_bag) rfl
  exact mk_def (G := G w K mg base) (k := 0) (N := ["_law_script", "_law_cells", "_law_mark", "_law_cell"]) (ps := ["_law_script"]) (tb := tb_f__law_bag) (b := b_f__law_bag) F (by kernel_rfl) (by kernel_rfl) (by kernel_rfl) ⟨all_cons (gm_bf (h.free 60) rfl) (all_cons (gm_bf (h.free 61) rfl) (all_cons (gm_bf (h.free 62) rfl) (all_nil))), all_nil, all_nil, all_nil, rfl, isi_nil, all_nil, lenV_nil, (fun cs e => by cases e), all_nil, all_nil⟩  e_f__law_bag
theorem cv_f__law_bag (h : Hy w K mg base) : CallV (G w K mg base) 1 (.ref (He.ga K "_law_bag")) f__law_bag := (ok_f__law_bag h).callV
def tb_f__law_draw : Tb := ⟨[("len", .bf .len), ("int", .bf .int)], [], [], [], ATS, IC, [], [], none, [], []⟩
theorem e_f__law_draw : semB (sem 60) 60 ⟨["_law_bag_here", "_law_many", "_law_cell", "_law_mixed", "_law_found"], d_f__law_draw.scope, none, tb_f__law_draw, false⟩ d_f__law_draw.body = b_f__law_draw := by kernel_rfl
theorem ok_f__law_draw (h : Hy w K mg base) : DefOk (G w K mg base) 1 (He.ga K "_law_draw") f__law_draw := by
  obtain ⟨fd, F⟩ := h.says.def_ 1 (d := d_f__law_draw) rfl
  exact mk_def (G := G w K mg base) (k := 0) (N := ["_law_bag_here", "_law_many", "_law_cell", "_law_mixed", "_law_found"]) (ps := ["_law_bag_here", "_law_many"]) (tb := tb_f__law_draw) (b := b_f__law_draw) F (by kernel_rfl) (by kernel_rfl) (by kernel_rfl) ⟨all_cons (gm_bf (h.free 61) rfl) (all_cons (gm_bf (h.free 62) rfl) (all_nil)), all_nil, all_nil, all_nil, rfl, isi_nil, all_nil, lenV_nil, (fun cs e => by cases e), all_nil, all_nil⟩  e_f__law_draw
theorem cv_f__law_draw (h : Hy w K mg base) : CallV (G w K mg base) 1 (.ref (He.ga K "_law_draw")) f__law_draw := (ok_f__law_draw h).callV
def tb_f__law_of : Tb := ⟨[("_law_draw", .fn 9 f__law_draw), ("len", .bf .len)], [], [], [], ATS, IC, [], [], none, [], []⟩
theorem e_f__law_of : semB (sem 60) 60 ⟨["_law_bag_here", "_law_things"], d_f__law_of.scope, none, tb_f__law_of, false⟩ d_f__law_of.body = b_f__law_of := by kernel_rfl
theorem ok_f__law_of (h : Hy w K mg base) : DefOk (G w K mg base) 2 (He.ga K "_law_of") f__law_of := by
  obtain ⟨fd, F⟩ := h.says.def_ 2 (d := d_f__law_of) rfl
  exact mk_def (G := G w K mg base) (k := 1) (N := ["_law_bag_here", "_law_things"]) (ps := ["_law_bag_here", "_law_things"]) (tb := tb_f__law_of) (b := b_f__law_of) F (by kernel_rfl) (by kernel_rfl) (by kernel_rfl) ⟨all_cons (gm_fn rfl (h.glo 2) (h.keep 3) ((cv_f__law_draw h).mono (by decide))) (all_cons (gm_bf (h.free 61) rfl) (all_nil)), all_nil, all_nil, all_nil, rfl, isi_nil, all_nil, lenV_nil, (fun cs e => by cases e), all_nil, all_nil⟩  e_f__law_of
theorem cv_f__law_of (h : Hy w K mg base) : CallV (G w K mg base) 2 (.ref (He.ga K "_law_of")) f__law_of := (ok_f__law_of h).callV
def tb_f__law_pairs : Tb := ⟨[("range", .bf .range)], [], [], [], ATS, IC, [], [], none, [], []⟩
theorem e_f__law_pairs : semB (sem 60) 60 ⟨["_law_sizes", "_law_found", "_law_one", "_law_other"], d_f__law_pairs.scope, none, tb_f__law_pairs, false⟩ d_f__law_pairs.body = b_f__law_pairs := by kernel_rfl
theorem ok_f__law_pairs (h : Hy w K mg base) : DefOk (G w K mg base) 1 (He.ga K "_law_pairs") f__law_pairs := by
  obtain ⟨fd, F⟩ := h.says.def_ 3 (d := d_f__law_pairs) rfl
  exact mk_def (G := G w K mg base) (k := 0) (N := ["_law_sizes", "_law_found", "_law_one", "_law_other"]) (ps := ["_law_sizes"]) (tb := tb_f__law_pairs) (b := b_f__law_pairs) F (by kernel_rfl) (by kernel_rfl) (by kernel_rfl) ⟨all_cons (gm_bf (h.free 63) rfl) (all_nil), all_nil, all_nil, all_nil, rfl, isi_nil, all_nil, lenV_nil, (fun cs e => by cases e), all_nil, all_nil⟩  e_f__law_pairs
theorem cv_f__law_pairs (h : Hy w K mg base) : CallV (G w K mg base) 1 (.ref (He.ga K "_law_pairs")) f__law_pairs := (ok_f__law_pairs h).callV
def tb_f__law_outcomes : Tb := ⟨[("tuple", .bf .tuple), ("_law_pairs", .fn 12 f__law_pairs), ("_law_draw", .fn 9 f__law_draw), ("_law_of", .fn 10 f__law_of)], [], [], [], ATS, IC, [], [], none, [], []⟩
theorem e_f__law_outcomes : semB (sem 60) 60 ⟨["_law_bag_here", "_law_answers", "_law_many", "_law_dear", "_law_pair"], d_f__law_outcomes.scope, none, tb_f__law_outcomes, false⟩ d_f__law_outcomes.body = b_f__law_outcomes := by kernel_rfl
theorem ok_f__law_outcomes (h : Hy w K mg base) : DefOk (G w K mg base) 3 (He.ga K "_law_outcomes") f__law_outcomes := by
  obtain ⟨fd, F⟩ := h.says.def_ 4 (d := d_f__law_outcomes) rfl
  exact mk_def (G := G w K mg base) (k := 2) (N := ["_law_bag_here", "_law_answers", "_law_many", "_law_dear", "_law_pair"]) (ps := ["_law_bag_here", "_law_answers", "_law_many", "_law_dear"]) (tb := tb_f__law_outcomes) (b := b_f__law_outcomes) F (by kernel_rfl) (by kernel_rfl) (by kernel_rfl) ⟨all_cons (gm_bf (h.free 64) rfl) (all_cons (gm_fn rfl (h.glo 6) (h.keep 7) ((cv_f__law_pairs h).mono (by decide))) (all_cons (gm_fn rfl (h.glo 2) (h.keep 3) ((cv_f__law_draw h).mono (by decide))) (all_cons (gm_fn rfl (h.glo 4) (h.keep 5) ((cv_f__law_of h).mono (by decide))) (all_nil)))), all_nil, all_nil, all_nil, rfl, isi_nil, all_nil, lenV_nil, (fun cs e => by cases e), all_nil, all_nil⟩  e_f__law_outcomes
theorem cv_f__law_outcomes (h : Hy w K mg base) : CallV (G w K mg base) 3 (.ref (He.ga K "_law_outcomes")) f__law_outcomes := (ok_f__law_outcomes h).callV
def tb_f__law_state : Tb := ⟨[("_law_pairs", .fn 12 f__law_pairs), ("_law_draw", .fn 9 f__law_draw), ("_law_of", .fn 10 f__law_of), ("_law_outcomes", .fn 13 f__law_outcomes), ("tuple", .bf .tuple)], [], [], [], ATS, IC, [], [], none, [], []⟩
theorem e_f__law_state : semB (sem 60) 60 ⟨["_law_bag_here", "_law_letters", "_law_answers", "_law_many", "_law_dear", "_law_some", "_law_cases", "_law_a", "_law_b", "_law_pair"], d_f__law_state.scope, none, tb_f__law_state, false⟩ d_f__law_state.body = b_f__law_state := by kernel_rfl
theorem ok_f__law_state (h : Hy w K mg base) : DefOk (G w K mg base) 4 (He.ga K "_law_state") f__law_state := by
  obtain ⟨fd, F⟩ := h.says.def_ 5 (d := d_f__law_state) rfl
  exact mk_def (G := G w K mg base) (k := 3) (N := ["_law_bag_here", "_law_letters", "_law_answers", "_law_many", "_law_dear", "_law_some", "_law_cases", "_law_a", "_law_b", "_law_pair"]) (ps := ["_law_bag_here", "_law_letters", "_law_answers", "_law_many", "_law_dear"]) (tb := tb_f__law_state) (b := b_f__law_state) F (by kernel_rfl) (by kernel_rfl) (by kernel_rfl) ⟨all_cons (gm_fn rfl (h.glo 6) (h.keep 7) ((cv_f__law_pairs h).mono (by decide))) (all_cons (gm_fn rfl (h.glo 2) (h.keep 3) ((cv_f__law_draw h).mono (by decide))) (all_cons (gm_fn rfl (h.glo 4) (h.keep 5) ((cv_f__law_of h).mono (by decide))) (all_cons (gm_fn rfl (h.glo 8) (h.keep 9) ((cv_f__law_outcomes h).mono (by decide))) (all_cons (gm_bf (h.free 64) rfl) (all_nil))))), all_nil, all_nil, all_nil, rfl, isi_nil, all_nil, lenV_nil, (fun cs e => by cases e), all_nil, all_nil⟩  e_f__law_state
theorem cv_f__law_state (h : Hy w K mg base) : CallV (G w K mg base) 4 (.ref (He.ga K "_law_state")) f__law_state := (ok_f__law_state h).callV
def tb_f__law_drawn : Tb := ⟨[("_law_draw", .fn 9 f__law_draw), ("range", .bf .range), ("_law_state", .fn 14 f__law_state)], [], [], [], ATS, IC, [], [], none, [], []⟩
theorem e_f__law_drawn : semB (sem 60) 60 ⟨["_law_bag_here", "_law_letters", "_law_answers", "_law_most", "_law_dear", "_law_many", "_law_states", "_law_place"], d_f__law_drawn.scope, none, tb_f__law_drawn, false⟩ d_f__law_drawn.body = b_f__law_drawn := by kernel_rfl
theorem ok_f__law_drawn (h : Hy w K mg base) : DefOk (G w K mg base) 5 (He.ga K "_law_drawn") f__law_drawn := by
  obtain ⟨fd, F⟩ := h.says.def_ 6 (d := d_f__law_drawn) rfl
  exact mk_def (G := G w K mg base) (k := 4) (N := ["_law_bag_here", "_law_letters", "_law_answers", "_law_most", "_law_dear", "_law_many", "_law_states", "_law_place"]) (ps := ["_law_bag_here", "_law_letters", "_law_answers", "_law_most", "_law_dear"]) (tb := tb_f__law_drawn) (b := b_f__law_drawn) F (by kernel_rfl) (by kernel_rfl) (by kernel_rfl) ⟨all_cons (gm_fn rfl (h.glo 2) (h.keep 3) ((cv_f__law_draw h).mono (by decide))) (all_cons (gm_bf (h.free 63) rfl) (all_cons (gm_fn rfl (h.glo 10) (h.keep 11) ((cv_f__law_state h).mono (by decide))) (all_nil))), all_nil, all_nil, all_nil, rfl, isi_nil, all_nil, lenV_nil, (fun cs e => by cases e), all_nil, all_nil⟩  e_f__law_drawn
theorem cv_f__law_drawn (h : Hy w K mg base) : CallV (G w K mg base) 5 (.ref (He.ga K "_law_drawn")) f__law_drawn := (ok_f__law_drawn h).callV
def tb_f_is_number : Tb := ⟨[("isinstance", .bf .isi), ("int", .bf .int), ("bool", .bf .bool)], [], [], [], ATS, IC, [], [], none, [], []⟩
theorem e_f_is_number : semB (sem 60) 60 ⟨["value"], d_f_is_number.scope, none, tb_f_is_number, false⟩ d_f_is_number.body = b_f_is_number := by kernel_rfl
theorem ok_f_is_number (h : Hy w K mg base) : DefOk (G w K mg base) 1 (He.ga K "is_number") f_is_number := by
  obtain ⟨fd, F⟩ := h.says.def_ 7 (d := d_f_is_number) rfl
  exact mk_def (G := G w K mg base) (k := 0) (N := ["value"]) (ps := ["value"]) (tb := tb_f_is_number) (b := b_f_is_number) F (by kernel_rfl) (by kernel_rfl) (by kernel_rfl) ⟨all_cons (gm_bf (h.free 65) rfl) (all_cons (gm_bf (h.free 62) rfl) (all_cons (gm_bf (h.free 66) rfl) (all_nil))), all_nil, all_nil, all_nil, rfl, isi_nil, all_nil, lenV_nil, (fun cs e => by cases e), all_nil, all_nil⟩  e_f_is_number
theorem cv_f_is_number (h : Hy w K mg base) : CallV (G w K mg base) 1 (.ref (He.ga K "is_number")) f_is_number := (ok_f_is_number h).callV
def tb_f_is_within : Tb := ⟨[("is_number", .fn 0 f_is_number)], [], [], [], ATS, IC, [], [], none, [], []⟩
theorem e_f_is_within : semB (sem 60) 60 ⟨["value", "least", "most"], d_f_is_within.scope, none, tb_f_is_within, false⟩ d_f_is_within.body = b_f_is_within := by kernel_rfl
theorem ok_f_is_within (h : Hy w K mg base) : DefOk (G w K mg base) 2 (He.ga K "is_within") f_is_within := by
  obtain ⟨fd, F⟩ := h.says.def_ 8 (d := d_f_is_within) rfl
  exact mk_def (G := G w K mg base) (k := 1) (N := ["value", "least", "most"]) (ps := ["value", "least", "most"]) (tb := tb_f_is_within) (b := b_f_is_within) F (by kernel_rfl) (by kernel_rfl) (by kernel_rfl) ⟨all_cons (gm_fn rfl (h.glo 14) (h.keep 15) ((cv_f_is_number h).mono (by decide))) (all_nil), all_nil, all_nil, all_nil, rfl, isi_nil, all_nil, lenV_nil, (fun cs e => by cases e), all_nil, all_nil⟩  e_f_is_within
theorem cv_f_is_within (h : Hy w K mg base) : CallV (G w K mg base) 2 (.ref (He.ga K "is_within")) f_is_within := (ok_f_is_within h).callV
def tb_f_is_pair_within : Tb := ⟨[("isinstance", .bf .isi), ("tuple", .bf .tuple), ("len", .bf .len), ("all", .bf .all), ("is_within", .fn 1 f_is_within)], [], [], [], ATS, IC, [], [], none, [], []⟩
theorem e_f_is_pair_within : semB (sem 60) 60 ⟨["value", "least", "most", "one"], d_f_is_pair_within.scope, none, tb_f_is_pair_within, false⟩ d_f_is_pair_within.body = b_f_is_pair_within := by kernel_rfl
theorem ok_f_is_pair_within (h : Hy w K mg base) : DefOk (G w K mg base) 3 (He.ga K "is_pair_within") f_is_pair_within := by
  obtain ⟨fd, F⟩ := h.says.def_ 9 (d := d_f_is_pair_within) rfl
  exact mk_def (G := G w K mg base) (k := 2) (N := ["value", "least", "most", "one"]) (ps := ["value", "least", "most"]) (tb := tb_f_is_pair_within) (b := b_f_is_pair_within) F (by kernel_rfl) (by kernel_rfl) (by kernel_rfl) ⟨all_cons (gm_bf (h.free 65) rfl) (all_cons (gm_bf (h.free 64) rfl) (all_cons (gm_bf (h.free 61) rfl) (all_cons (gm_bf (h.free 67) rfl) (all_cons (gm_fn rfl (h.glo 16) (h.keep 17) ((cv_f_is_within h).mono (by decide))) (all_nil))))), all_nil, all_nil, all_nil, rfl, isi_nil, all_nil, lenV_nil, (fun cs e => by cases e), all_nil, all_nil⟩  e_f_is_pair_within
theorem cv_f_is_pair_within (h : Hy w K mg base) : CallV (G w K mg base) 3 (.ref (He.ga K "is_pair_within")) f_is_pair_within := (ok_f_is_pair_within h).callV
def tb_f_is_listed : Tb := ⟨[("isinstance", .bf .isi), ("list", .bf .list), ("tuple", .bf .tuple)], [], [], [], ATS, IC, [], [], none, [], []⟩
theorem e_f_is_listed : semB (sem 60) 60 ⟨["value"], d_f_is_listed.scope, none, tb_f_is_listed, false⟩ d_f_is_listed.body = b_f_is_listed := by kernel_rfl
theorem ok_f_is_listed (h : Hy w K mg base) : DefOk (G w K mg base) 1 (He.ga K "is_listed") f_is_listed := by
  obtain ⟨fd, F⟩ := h.says.def_ 10 (d := d_f_is_listed) rfl
  exact mk_def (G := G w K mg base) (k := 0) (N := ["value"]) (ps := ["value"]) (tb := tb_f_is_listed) (b := b_f_is_listed) F (by kernel_rfl) (by kernel_rfl) (by kernel_rfl) ⟨all_cons (gm_bf (h.free 65) rfl) (all_cons (gm_bf (h.free 60) rfl) (all_cons (gm_bf (h.free 64) rfl) (all_nil))), all_nil, all_nil, all_nil, rfl, isi_nil, all_nil, lenV_nil, (fun cs e => by cases e), all_nil, all_nil⟩  e_f_is_listed
theorem cv_f_is_listed (h : Hy w K mg base) : CallV (G w K mg base) 1 (.ref (He.ga K "is_listed")) f_is_listed := (ok_f_is_listed h).callV
def tb_f_is_case : Tb := ⟨[("isinstance", .bf .isi), ("tuple", .bf .tuple), ("len", .bf .len), ("is_within", .fn 1 f_is_within), ("MOST_PRICE", .val (.int 99))], [], [], [], ATS, IC, [], [], none, [], []⟩
theorem e_f_is_case : semB (sem 60) 60 ⟨["value", "letters", "answers", "count", "outcomes", "outcome"], d_f_is_case.scope, none, tb_f_is_case, false⟩ d_f_is_case.body = b_f_is_case := by kernel_rfl
theorem ok_f_is_case (h : Hy w K mg base) : DefOk (G w K mg base) 3 (He.ga K "is_case") f_is_case := by
  obtain ⟨fd, F⟩ := h.says.def_ 11 (d := d_f_is_case) rfl
  exact mk_def (G := G w K mg base) (k := 2) (N := ["value", "letters", "answers", "count", "outcomes", "outcome"]) (ps := ["value", "letters", "answers", "count"]) (tb := tb_f_is_case) (b := b_f_is_case) F (by kernel_rfl) (by kernel_rfl) (by kernel_rfl) ⟨all_cons (gm_bf (h.free 65) rfl) (all_cons (gm_bf (h.free 64) rfl) (all_cons (gm_bf (h.free 61) rfl) (all_cons (gm_fn rfl (h.glo 16) (h.keep 17) ((cv_f_is_within h).mono (by decide))) (all_cons (gm_int (h.int 68)) (all_nil))))), all_nil, all_nil, all_nil, rfl, isi_nil, all_nil, lenV_nil, (fun cs e => by cases e), all_nil, all_nil⟩  e_f_is_case
theorem cv_f_is_case (h : Hy w K mg base) : CallV (G w K mg base) 3 (.ref (He.ga K "is_case")) f_is_case := (ok_f_is_case h).callV
def tb_f_rising : Tb := ⟨[("all", .bf .all), ("zip", .bf .zip)], [], [], [], ATS, IC, [], [], none, [], []⟩
theorem e_f_rising : semB (sem 60) 60 ⟨["items", "one", "other"], d_f_rising.scope, none, tb_f_rising, false⟩ d_f_rising.body = b_f_rising := by kernel_rfl
theorem ok_f_rising (h : Hy w K mg base) : DefOk (G w K mg base) 1 (He.ga K "rising") f_rising := by
  obtain ⟨fd, F⟩ := h.says.def_ 12 (d := d_f_rising) rfl
  exact mk_def (G := G w K mg base) (k := 0) (N := ["items", "one", "other"]) (ps := ["items"]) (tb := tb_f_rising) (b := b_f_rising) F (by kernel_rfl) (by kernel_rfl) (by kernel_rfl) ⟨all_cons (gm_bf (h.free 67) rfl) (all_cons (gm_bf (h.free 69) rfl) (all_nil)), all_nil, all_nil, all_nil, rfl, isi_nil, all_nil, lenV_nil, (fun cs e => by cases e), all_nil, all_nil⟩  e_f_rising
theorem cv_f_rising (h : Hy w K mg base) : CallV (G w K mg base) 1 (.ref (He.ga K "rising")) f_rising := (ok_f_rising h).callV
def tb_f_is_state : Tb := ⟨[("isinstance", .bf .isi), ("tuple", .bf .tuple), ("len", .bf .len), ("is_within", .fn 1 f_is_within), ("MOST_SIGN", .val (.int 8)), ("all", .bf .all), ("is_case", .fn 6 f_is_case), ("rising", .fn 4 f_rising)], [], [], [], ATS, IC, [], [], none, [], []⟩
theorem e_f_is_state : semB (sem 60) 60 ⟨["value", "letters", "answers", "count", "cases", "case"], d_f_is_state.scope, none, tb_f_is_state, false⟩ d_f_is_state.body = b_f_is_state := by kernel_rfl
theorem ok_f_is_state (h : Hy w K mg base) : DefOk (G w K mg base) 4 (He.ga K "is_state") f_is_state := by
  obtain ⟨fd, F⟩ := h.says.def_ 13 (d := d_f_is_state) rfl
  exact mk_def (G := G w K mg base) (k := 3) (N := ["value", "letters", "answers", "count", "cases", "case"]) (ps := ["value", "letters", "answers", "count"]) (tb := tb_f_is_state) (b := b_f_is_state) F (by kernel_rfl) (by kernel_rfl) (by kernel_rfl) ⟨all_cons (gm_bf (h.free 65) rfl) (all_cons (gm_bf (h.free 64) rfl) (all_cons (gm_bf (h.free 61) rfl) (all_cons (gm_fn rfl (h.glo 16) (h.keep 17) ((cv_f_is_within h).mono (by decide))) (all_cons (gm_int (h.int 70)) (all_cons (gm_bf (h.free 67) rfl) (all_cons (gm_fn rfl (h.glo 22) (h.keep 23) ((cv_f_is_case h).mono (by decide))) (all_cons (gm_fn rfl (h.glo 24) (h.keep 25) ((cv_f_rising h).mono (by decide))) (all_nil)))))))), all_nil, all_nil, all_nil, rfl, isi_nil, all_nil, lenV_nil, (fun cs e => by cases e), all_nil, all_nil⟩  e_f_is_state
theorem cv_f_is_state (h : Hy w K mg base) : CallV (G w K mg base) 4 (.ref (He.ga K "is_state")) f_is_state := (ok_f_is_state h).callV
def tb_m_House___init__ : Tb := ⟨[("is_pair_within", .fn 2 f_is_pair_within), ("MOST_SIZE", .val (.int 4)), ("is_listed", .fn 3 f_is_listed), ("len", .bf .len), ("MOST_STATES", .val (.int 16)), ("enumerate", .bf .enumerate), ("is_state", .fn 7 f_is_state), ("tuple", .bf .tuple)], [], [], [("letters", [18]), ("answers", [18]), ("kept_states", [18])], ATS, IC, [], [], none, [("InvalidHouse", ⟨24, 1, [(10, .arg 0), (9, .str "InvalidHouse")]⟩)], []⟩
theorem e_m_House___init__ : semB (sem 60) 60 ⟨["self", "letters", "answers", "states", "sizes", "index", "state"], d_m_House___init__.scope, none, tb_m_House___init__, false⟩ d_m_House___init__.body = b_m_House___init__ := by kernel_rfl
theorem ok_m_House___init__ (h : Hy w K mg base) : DefOk (G w K mg base) 5 (He.ma K (He.ga K "House") "__init__") m_House___init__ := by
  obtain ⟨fd, F⟩ := h.says.def_ 14 (d := d_m_House___init__) rfl
  exact mk_def (G := G w K mg base) (k := 4) (N := ["self", "letters", "answers", "states", "sizes", "index", "state"]) (ps := ["self", "letters", "answers", "states"]) (tb := tb_m_House___init__) (b := b_m_House___init__) F (by kernel_rfl) (by kernel_rfl) (by kernel_rfl) ⟨all_cons (gm_fn rfl (h.glo 18) (h.keep 19) ((cv_f_is_pair_within h).mono (by decide))) (all_cons (gm_int (h.int 71)) (all_cons (gm_fn rfl (h.glo 20) (h.keep 21) ((cv_f_is_listed h).mono (by decide))) (all_cons (gm_bf (h.free 61) rfl) (all_cons (gm_int (h.int 72)) (all_cons (gm_bf (h.free 73) rfl) (all_cons (gm_fn rfl (h.glo 26) (h.keep 27) ((cv_f_is_state h).mono (by decide))) (all_cons (gm_bf (h.free 64) rfl) (all_nil)))))))), all_nil, all_nil, all_cons ((all_cons ⟨_, _, rfl, h.glo 40, h.cls 41, h.noat 43⟩ (all_nil))) (all_cons ((all_cons ⟨_, _, rfl, h.glo 40, h.cls 41, h.noat 44⟩ (all_nil))) (all_cons ((all_cons ⟨_, _, rfl, h.glo 40, h.cls 41, h.noat 45⟩ (all_nil))) (all_nil))), rfl, isi_nil, all_nil, lenV_nil, (fun cs e => by cases e), all_cons ⟨by decide, 1, by decide, xc_InvalidHouse h⟩ (all_nil), all_nil⟩  e_m_House___init__
theorem cv_cls_House (h : Hy w K mg base) : CallV (G w K mg base) 6 (.ref (He.ga K "House")) (mkN 18 m_House___init__) := (ok_m_House___init__ h).cls (h.mkr 42) rfl (h.glo 40)
def tb_f__law_made : Tb := ⟨[("House", .fn 18 (mkN 18 m_House___init__)), ("list", .bf .list)], [], [], [], ATS, IC, [], [], none, [], []⟩
theorem e_f__law_made : semB (sem 60) 60 ⟨["_law_plain"], d_f__law_made.scope, none, tb_f__law_made, false⟩ d_f__law_made.body = b_f__law_made := by kernel_rfl
theorem ok_f__law_made (h : Hy w K mg base) : DefOk (G w K mg base) 7 (He.ga K "_law_made") f__law_made := by
  obtain ⟨fd, F⟩ := h.says.def_ 15 (d := d_f__law_made) rfl
  exact mk_def (G := G w K mg base) (k := 6) (N := ["_law_plain"]) (ps := ["_law_plain"]) (tb := tb_f__law_made) (b := b_f__law_made) F (by kernel_rfl) (by kernel_rfl) (by kernel_rfl) ⟨all_cons (gm_fn rfl (h.glo 40) (h.mkr 42).kp ((cv_cls_House h).mono (by decide))) (all_cons (gm_bf (h.free 60) rfl) (all_nil)), all_nil, all_nil, all_nil, rfl, isi_nil, all_nil, lenV_nil, (fun cs e => by cases e), all_nil, all_nil⟩  e_f__law_made
theorem cv_f__law_made (h : Hy w K mg base) : CallV (G w K mg base) 7 (.ref (He.ga K "_law_made")) f__law_made := (ok_f__law_made h).callV
def tb_f__law_multiplied : Tb := ⟨[("tuple", .bf .tuple)], [], [], [], ATS, IC, [], [], none, [], []⟩
theorem e_f__law_multiplied : semB (sem 60) 60 ⟨["_law_plain", "_law_number", "_law_states", "_law_sign", "_law_cases", "_law_found", "_law_a", "_law_b", "_law_outcomes_here", "_law_goal", "_law_price"], d_f__law_multiplied.scope, none, tb_f__law_multiplied, false⟩ d_f__law_multiplied.body = b_f__law_multiplied := by kernel_rfl
theorem ok_f__law_multiplied (h : Hy w K mg base) : DefOk (G w K mg base) 1 (He.ga K "_law_multiplied") f__law_multiplied := by
  obtain ⟨fd, F⟩ := h.says.def_ 16 (d := d_f__law_multiplied) rfl
  exact mk_def (G := G w K mg base) (k := 0) (N := ["_law_plain", "_law_number", "_law_states", "_law_sign", "_law_cases", "_law_found", "_law_a", "_law_b", "_law_outcomes_here", "_law_goal", "_law_price"]) (ps := ["_law_plain", "_law_number"]) (tb := tb_f__law_multiplied) (b := b_f__law_multiplied) F (by kernel_rfl) (by kernel_rfl) (by kernel_rfl) ⟨all_cons (gm_bf (h.free 64) rfl) (all_nil), all_nil, all_nil, all_nil, rfl, isi_nil, all_nil, lenV_nil, (fun cs e => by cases e), all_nil, all_nil⟩  e_f__law_multiplied
theorem cv_f__law_multiplied (h : Hy w K mg base) : CallV (G w K mg base) 1 (.ref (He.ga K "_law_multiplied")) f__law_multiplied := (ok_f__law_multiplied h).callV
def tb_f__law_is_good : Tb := ⟨[("len", .bf .len), ("all", .bf .all), ("sorted", .bf .sorted), ("set", .bf .set)], [], [], [], ATS, IC, [], [], none, [], []⟩
theorem e_f__law_is_good : semB (sem 60) 60 ⟨["_law_plain", "_law_sizes", "_law_many", "_law_sign", "_law_cases", "_law_pairs_here", "_law_a", "_law_b", "_law_outcomes_here", "_law_case", "_law_size", "_law_goal", "_law_price"], d_f__law_is_good.scope, none, tb_f__law_is_good, false⟩ d_f__law_is_good.body = b_f__law_is_good := by kernel_rfl
theorem ok_f__law_is_good (h : Hy w K mg base) : DefOk (G w K mg base) 1 (He.ga K "_law_is_good") f__law_is_good := by
  obtain ⟨fd, F⟩ := h.says.def_ 17 (d := d_f__law_is_good) rfl
  exact mk_def (G := G w K mg base) (k := 0) (N := ["_law_plain", "_law_sizes", "_law_many", "_law_sign", "_law_cases", "_law_pairs_here", "_law_a", "_law_b", "_law_outcomes_here", "_law_case", "_law_size", "_law_goal", "_law_price"]) (ps := ["_law_plain"]) (tb := tb_f__law_is_good) (b := b_f__law_is_good) F (by kernel_rfl) (by kernel_rfl) (by kernel_rfl) ⟨all_cons (gm_bf (h.free 61) rfl) (all_cons (gm_bf (h.free 67) rfl) (all_cons (gm_bf (h.free 74) rfl) (all_cons (gm_bf (h.free 75) rfl) (all_nil)))), all_nil, all_nil, all_nil, rfl, isi_nil, all_nil, lenV_nil, (fun cs e => by cases e), all_nil, all_nil⟩  e_f__law_is_good
theorem cv_f__law_is_good (h : Hy w K mg base) : CallV (G w K mg base) 1 (.ref (He.ga K "_law_is_good")) f__law_is_good := (ok_f__law_is_good h).callV
def tb_f__law_alike (self : Fn) : Tb := ⟨[("isinstance", .bf .isi), ("bool", .bf .bool), ("str", .bf .str), ("int", .bf .int), ("tuple", .bf .tuple), ("list", .bf .list), ("len", .bf .len), ("all", .bf .all), ("zip", .bf .zip), ("_law_alike", .fn 11 self)], [], [], [], ATS, IC, [], [], none, [], []⟩
theorem e_f__law_alike (self : Fn) : semB (sem 60) 60 ⟨["_law_found", "_law_due", "_law_sort", "_law_one", "_law_two"], d_f__law_alike.scope, none, tb_f__law_alike self, false⟩ d_f__law_alike.body = b_f__law_alike self := by kernel_rfl
theorem cv_f__law_alike_ (h : Hy w K mg base) : ∀ n : Nat, CallV (G w K mg base) (0 + n) (.ref (He.ga K "_law_alike")) (f__law_alike n)
  | 0 => fun X W ok hr pins σ H s us vs Q I r ⟨ρ, S, ds, _, _, p⟩ => p.elim
  | n + 1 => by
    have ih := cv_f__law_alike_ h n
    obtain ⟨fd, F⟩ := h.says.def_ 18 (d := d_f__law_alike) rfl
    exact (mk_def (G := G w K mg base) (k := 0 + n) (N := ["_law_found", "_law_due", "_law_sort", "_law_one", "_law_two"]) (ps := ["_law_found", "_law_due"]) (tb := tb_f__law_alike (f__law_alike n)) (b := b_f__law_alike (f__law_alike n)) F (by kernel_rfl) (by kernel_rfl) (by kernel_rfl) ⟨all_cons (gm_bf (h.free 65) rfl) (all_cons (gm_bf (h.free 66) rfl) (all_cons (gm_bf (h.free 76) rfl) (all_cons (gm_bf (h.free 62) rfl) (all_cons (gm_bf (h.free 64) rfl) (all_cons (gm_bf (h.free 60) rfl) (all_cons (gm_bf (h.free 61) rfl) (all_cons (gm_bf (h.free 67) rfl) (all_cons (gm_bf (h.free 69) rfl) (all_cons (gm_fn rfl (h.glo 34) (h.keep 35) ih) (all_nil)))))))))), all_nil, all_nil, all_nil, rfl, isi_nil, all_nil, lenV_nil, (fun cs e => by cases e), all_nil, all_nil⟩ (e_f__law_alike (f__law_alike n))).callV
theorem cv_f__law_alike (h : Hy w K mg base) : CallV (G w K mg base) 20 (.ref (He.ga K "_law_alike")) (f__law_alike 20) := cv_f__law_alike_ h 20
def tb_m_House_states : Tb := ⟨[("list", .bf .list)], [], [("kept_states", [(18, none)])], [], ATS, IC, [], [], none, [], []⟩
theorem e_m_House_states : semB (sem 60) 60 ⟨["self"], d_m_House_states.scope, none, tb_m_House_states, false⟩ d_m_House_states.body = b_m_House_states := by kernel_rfl
theorem ok_m_House_states (h : Hy w K mg base) : DefOk (G w K mg base) 1 (He.ma K (He.ga K "House") "states") m_House_states := by
  obtain ⟨fd, F⟩ := h.says.def_ 19 (d := d_m_House_states) rfl
  exact mk_def (G := G w K mg base) (k := 0) (N := ["self"]) (ps := ["self"]) (tb := tb_m_House_states) (b := b_m_House_states) F (by kernel_rfl) (by kernel_rfl) (by kernel_rfl) ⟨all_cons (gm_bf (h.free 60) rfl) (all_nil), all_nil, all_cons ((all_cons ⟨_, _, rfl, h.glo 40, h.cls 41, h.noat 45⟩ (all_nil))) (all_nil), all_nil, rfl, isi_nil, all_nil, lenV_nil, (fun cs e => by cases e), all_nil, all_nil⟩  e_m_House_states
def tb_m_House___eq__ : Tb := ⟨[("isinstance", .bf .isi), ("House", .fn 18 fNo)], [], [("letters", [(18, none)]), ("answers", [(18, none)]), ("kept_states", [(18, none)])], [], ATS, [18], [], [], none, [], []⟩
theorem e_m_House___eq__ : semB (sem 60) 60 ⟨["self", "other"], d_m_House___eq__.scope, none, tb_m_House___eq__, false⟩ d_m_House___eq__.body = b_m_House___eq__ := by kernel_rfl
theorem ok_m_House___eq__ (h : Hy w K mg base) : DefOk (G w K mg base) 1 (He.ma K (He.ga K "House") "__eq__") m_House___eq__ := by
  obtain ⟨fd, F⟩ := h.says.def_ 20 (d := d_m_House___eq__) rfl
  exact mk_def (G := G w K mg base) (k := 0) (N := ["self", "other"]) (ps := ["self", "other"]) (tb := tb_m_House___eq__) (b := b_m_House___eq__) F (by kernel_rfl) (by kernel_rfl) (by kernel_rfl) ⟨all_cons (gm_bf (h.free 65) rfl) (all_cons (gm_cl rfl (h.glo 40) (h.mkr 42).kp) (all_nil)), all_nil, all_cons ((all_cons ⟨_, _, rfl, h.glo 40, h.cls 41, h.noat 43⟩ (all_nil))) (all_cons ((all_cons ⟨_, _, rfl, h.glo 40, h.cls 41, h.noat 44⟩ (all_nil))) (all_cons ((all_cons ⟨_, _, rfl, h.glo 40, h.cls 41, h.noat 45⟩ (all_nil))) (all_nil))), all_nil, rfl, isi_one rfl (h.glo 40) (h.cls 41) (h.nw 8 (f := .old (.ins "House"))), all_nil, lenV_nil, (fun cs e => by cases e), all_nil, all_nil⟩  e_m_House___eq__
def tb_m_House_dearest : Tb := ⟨[("max", .bf .max)], [], [("kept_states", [(18, none)])], [], ATS, IC, [], [], none, [], []⟩
theorem e_m_House_dearest : semB (sem 60) 60 ⟨["self", "state", "case", "goal", "price"], p_m_House_dearest.scope, none, tb_m_House_dearest, false⟩ p_m_House_dearest.body = b_m_House_dearest := by kernel_rfl
theorem ok_m_House_dearest (h : Hy w K mg base) : DefOk (G w K mg base) 1 (p_m_House_dearest.ad K) m_House_dearest := by
  obtain ⟨_, fd, F⟩ := prop_ok (h.pss 0 p_m_House_dearest rfl) (h.nw 6 (f := .prop p_m_House_dearest))
  exact mk_def (G := G w K mg base) (k := 0) (N := ["self", "state", "case", "goal", "price"]) (ps := ["self"]) (tb := tb_m_House_dearest) (b := b_m_House_dearest) F (by kernel_rfl) (by kernel_rfl) (by kernel_rfl) ⟨all_cons (gm_bf (h.free 77) rfl) (all_nil), all_nil, all_cons ((all_cons ⟨_, _, rfl, h.glo 40, h.cls 41, h.noat 45⟩ (all_nil))) (all_nil), all_nil, rfl, isi_nil, all_nil, lenV_nil, (fun cs e => by cases e), all_nil, all_nil⟩  e_m_House_dearest
def tb_f_priced : Tb := ⟨[("is_within", .fn 1 f_is_within), ("MOST_PRICE", .val (.int 99)), ("tuple", .bf .tuple), ("House", .fn 18 (mkN 18 m_House___init__))], [("states", [(18, m_House_states)])], [("dearest", [(18, some m_House_dearest)]), ("letters", [(18, none)]), ("answers", [(18, none)])], [], ATS, IC, [], [], none, [("InvalidCount", ⟨32, 1, [(11, .arg 0), (9, .str "InvalidCount")]⟩), ("TooDear", ⟨33, 1, [(17, .arg 0), (9, .str "TooDear")]⟩)], []⟩
theorem e_f_priced : semB (sem 60) 60 ⟨["house", "number", "states", "sign", "cases", "found", "a", "b", "outcomes", "goal", "price"], d_f_priced.scope, none, tb_f_priced, false⟩ d_f_priced.body = b_f_priced := by kernel_rfl
theorem ok_f_priced (h : Hy w K mg base) : DefOk (G w K mg base) 7 (He.ga K "priced") f_priced := by
  obtain ⟨fd, F⟩ := h.says.def_ 21 (d := d_f_priced) rfl
  exact mk_def (G := G w K mg base) (k := 6) (N := ["house", "number", "states", "sign", "cases", "found", "a", "b", "outcomes", "goal", "price"]) (ps := ["house", "number"]) (tb := tb_f_priced) (b := b_f_priced) F (by kernel_rfl) (by kernel_rfl) (by kernel_rfl) ⟨all_cons (gm_fn rfl (h.glo 16) (h.keep 17) ((cv_f_is_within h).mono (by decide))) (all_cons (gm_int (h.int 68)) (all_cons (gm_bf (h.free 64) rfl) (all_cons (gm_fn rfl (h.glo 40) (h.mkr 42).kp ((cv_cls_House h).mono (by decide))) (all_nil)))), all_cons ((all_cons (((ok_m_House_states h).mono (by decide)).meth (h.meth 46) (h.cls 41) rfl (h.glo 40)) (all_nil))) (all_nil), all_cons ((all_cons (at_prop rfl (h.glo 40) (h.cls 41) (prop_ok (h.pss 0 p_m_House_dearest rfl) (h.nw 6 (f := .prop p_m_House_dearest))).1 (ok_m_House_dearest h) (by decide)) (all_nil))) (all_cons ((all_cons ⟨_, _, rfl, h.glo 40, h.cls 41, h.noat 43⟩ (all_nil))) (all_cons ((all_cons ⟨_, _, rfl, h.glo 40, h.cls 41, h.noat 44⟩ (all_nil))) (all_nil))), all_nil, rfl, isi_nil, all_nil, lenV_nil, (fun cs e => by cases e), all_cons ⟨by decide, 1, by decide, xc_InvalidCount h⟩ (all_cons ⟨by decide, 1, by decide, xc_TooDear h⟩ (all_nil)), all_nil⟩  e_f_priced
theorem cv_f_priced (h : Hy w K mg base) : CallV (G w K mg base) 7 (.ref (He.ga K "priced")) f_priced := (ok_f_priced h).callV
def tb_m_House___mul__ : Tb := ⟨[("priced", .fn 29 f_priced)], [], [], [], ATS, IC, [], [], none, [], []⟩
theorem e_m_House___mul__ : semB (sem 60) 60 ⟨["self", "number"], d_m_House___mul__.scope, none, tb_m_House___mul__, false⟩ d_m_House___mul__.body = b_m_House___mul__ := by kernel_rfl
theorem ok_m_House___mul__ (h : Hy w K mg base) : DefOk (G w K mg base) 8 (He.ma K (He.ga K "House") "__mul__") m_House___mul__ := by
  obtain ⟨fd, F⟩ := h.says.def_ 22 (d := d_m_House___mul__) rfl
  exact mk_def (G := G w K mg base) (k := 7) (N := ["self", "number"]) (ps := ["self", "number"]) (tb := tb_m_House___mul__) (b := b_m_House___mul__) F (by kernel_rfl) (by kernel_rfl) (by kernel_rfl) ⟨all_cons (gm_fn rfl (h.glo 36) (h.keep 37) ((cv_f_priced h).mono (by decide))) (all_nil), all_nil, all_nil, all_nil, rfl, isi_nil, all_nil, lenV_nil, (fun cs e => by cases e), all_nil, all_nil⟩  e_m_House___mul__
def b1_k08_f_law : SS := (sAll [(sSet 3 (eCall f__law_of [(eLoc 1), (eLst [(eLst [(eC (.int 0)), (eC (.int 1))]), (eLst [(eC (.int 0)), (eC (.int 1)), (eC (.int 3))]), (eLst [(eC (.int 0)), (eC (.int 0)), (eC (.int 11))]), (eLst [(eC (.int 1)), (eC (.int 33)), (eC (.int 49))]), (eLst [(eC (.int 0)), (eC (.int 99))]), (eLst [(eC (.int 0))])])])), (sSet 4 (eTup [(eBin .add (eC (.int 1)) (eCall f__law_draw [(eLoc 1), (eC (.int 3))])), (eBin .add (eC (.int 1)) (eCall f__law_draw [(eLoc 1), (eC (.int 2))]))])), (sSet 5 (eCall f__law_drawn [(eLoc 1), (eLoc 4), (eTup [(eC (.int 2)), (eBin .add (eC (.int 1)) (eCall f__law_draw [(eLoc 1), (eC (.int 3))]))]), (eC (.int 3)), (eLoc 3)])), (sAsg (gnT [(gnN 6), (gnN 7)]) (eTup [(eCall f__law_made [(eLoc 5)]), (eCall f__law_of [(eLoc 1), (eLst [(eC (.int 0)), (eC (.int 1)), (eC (.int 2)), (eC (.int 3)), (eC (.int 9)), (eC (.int 33)), (eC (.int 50)), (eC (.int 99))])])])), (sSet 8 (eCall f__law_multiplied [(eLoc 5), (eLoc 7)])), (sSet 9 (eTry [24, 32, 33] ATS (eBinO [(18, m_House___mul__)] .mul (eLoc 6) (eLoc 7)))), (sIf (bV (eCall f__law_is_good [(eTup [(eIx (eLoc 5) (eC (.int 0))), (eIx (eLoc 5) (eC (.int 1))), (eLoc 8)])])) (sAll [(sIf (bOr [(bCmp .ne (eIx (eLoc 9) (eC (.int 0))) (eC (.str "told"))), (bNot (bV (eCall (f__law_alike 20) [(eMeth [(18, m_House_states)] 5 (eIx (eLoc 9) (eC (.int 1))) []), (eLoc 8)])))]) (sAll [(sRet (eC (.bl false)))]) (sAll [])), (sIf (bNot (bV (eCall (f__law_alike 20) [(eLst [(eAttr [(18, none)] 0 (eIx (eLoc 9) (eC (.int 1)))), (eAttr [(18, none)] 1 (eIx (eLoc 9) (eC (.int 1))))]), (eLst [(eIx (eLoc 5) (eC (.int 0))), (eIx (eLoc 5) (eC (.int 1)))])]))) (sAll [(sRet (eC (.bl false)))]) (sAll []))]) (sAll [(sIf (bNot (bV (eCall (f__law_alike 20) [(eLoc 9), (eTup [(eC (.str "no")), (eC (.str "TooDear")), (eC (.int 99))])]))) (sAll [(sRet (eC (.bl false)))]) (sAll []))])), (sSet 10 (eCall f__law_of [(eLoc 1), (eLst [(eNeg (eC (.int 1))), (eC (.int 100)), (eBin .pow (eC (.int 10)) (eC (.int 25))), (eC (.bl true)), (eC .non), (eC (.str "2")), (eTup [(eC (.int 2))])])])), (sIf (bNot (bV (eCall (f__law_alike 20) [(eTry [24, 32, 33] ATS (eBinO [(18, m_House___mul__)] .mul (eLoc 6) (eLoc 10))), (eTup [(eC (.str "no")), (eC (.str "InvalidCount")), (eLoc 10)])]))) (sAll [(sRet (eC (.bl false)))]) (sAll [])), (sIf (bOr [(bNot (bV (eCall (f__law_alike 20) [(eMeth [(18, m_House_states)] 5 (eLoc 6) []), (eIx (eLoc 5) (eC (.int 2)))]))), (bNot (bEqO [(18, m_House___eq__)] (eBinO [(18, m_House___mul__)] .mul (eLoc 6) (eC (.int 1))) (eLoc 6)))]) (sAll [(sRet (eC (.bl false)))]) (sAll []))])
def b_k08_f_law : SS := (sAll [(sSet 1 (eCall f__law_bag [(eLoc 0)])), (sFor (iRange1 (eC (.int 5))) (gnN 2) b1_k08_f_law), (sRet (eC (.bl true)))])
def k08_f_law : Fn := fnB 1 11 b_k08_f_law
theorem u_k08_f_law {a0 : D} (S : Sto) : k08_f_law [a0] S = runF (b_k08_f_law [some a0, none, none, none, none, none, none, none, none, none, none] S) := rfl
theorem w_k08_f_law {a0 : D} {S : Sto} {Q : D → Sto → Prop} {X : Nat → List (Nat × D) → Sto → Prop} : wp (k08_f_law [a0]) S Q X = ws b_k08_f_law [some a0, none, none, none, none, none, none, none, none, none, none] S (fnP Q X) := wp_u u_k08_f_law
def tb_k08_f_law : Tb := ⟨[("_law_bag", .fn 8 f__law_bag), ("range", .bf .range), ("_law_of", .fn 10 f__law_of), ("_law_draw", .fn 9 f__law_draw), ("_law_drawn", .fn 15 f__law_drawn), ("_law_made", .fn 19 f__law_made), ("_law_multiplied", .fn 31 f__law_multiplied), ("_law_is_good", .fn 30 f__law_is_good), ("_law_alike", .fn 11 (f__law_alike 20))], [("states", [(18, m_House_states)])], [("letters", [(18, none)]), ("answers", [(18, none)])], [], ATS, IC, [(18, m_House___eq__)], [], some [24, 32, 33], [], [(.mul, [(18, m_House___mul__)])]⟩
theorem e_k08_f_law : semB (sem 60) 60 ⟨["_law_script", "_law_bag_here", "_law_turn", "_law_dear", "_law_letters", "_law_plain", "_law_house", "_law_number", "_law_states", "_law_found", "_law_wrong"], d_k08_f_law.scope, none, tb_k08_f_law, true⟩ d_k08_f_law.body = b_k08_f_law := by kernel_rfl
theorem ok_k08_f_law (h : Hy w K mg base) : DefOk (G w K mg base) 23 (He.ga K "law") k08_f_law := by
  obtain ⟨fd, F⟩ := h.says.def_ 23 (d := d_k08_f_law) rfl
  exact mk_defL (G := G w K mg base) (k := 19) (p := ("law", none)) (N := ["_law_script", "_law_bag_here", "_law_turn", "_law_dear", "_law_letters", "_law_plain", "_law_house", "_law_number", "_law_states", "_law_found", "_law_wrong"]) (ps := ["_law_script"]) (tb := tb_k08_f_law) (b := b_k08_f_law) F (by kernel_rfl) (by kernel_rfl) (by kernel_rfl) ⟨all_cons (gm_fn rfl (h.glo 0) (h.keep 1) ((cv_f__law_bag h).mono (by decide))) (all_cons (gm_bf (h.free 63) rfl) (all_cons (gm_fn rfl (h.glo 4) (h.keep 5) ((cv_f__law_of h).mono (by decide))) (all_cons (gm_fn rfl (h.glo 2) (h.keep 3) ((cv_f__law_draw h).mono (by decide))) (all_cons (gm_fn rfl (h.glo 12) (h.keep 13) ((cv_f__law_drawn h).mono (by decide))) (all_cons (gm_fn rfl (h.glo 28) (h.keep 29) ((cv_f__law_made h).mono (by decide))) (all_cons (gm_fn rfl (h.glo 30) (h.keep 31) ((cv_f__law_multiplied h).mono (by decide))) (all_cons (gm_fn rfl (h.glo 32) (h.keep 33) ((cv_f__law_is_good h).mono (by decide))) (all_cons (gm_fn rfl (h.glo 34) (h.keep 35) ((cv_f__law_alike h).mono (by decide))) (all_nil))))))))), all_cons ((all_cons (((ok_m_House_states h).mono (by decide)).meth (h.meth 46) (h.cls 41) rfl (h.glo 40)) (all_nil))) (all_nil), all_cons ((all_cons ⟨_, _, rfl, h.glo 40, h.cls 41, h.noat 43⟩ (all_nil))) (all_cons ((all_cons ⟨_, _, rfl, h.glo 40, h.cls 41, h.noat 44⟩ (all_nil))) (all_nil)), all_nil, rfl, isi_nil, all_cons (eqv_of rfl (h.glo 40) (h.meth 47) (((ok_m_House___eq__ h).mono (by decide)).callV)) (all_nil), lenV_nil, fun cs e => by cases e; exact try_ok h, all_nil, all_cons (all_cons (bin_ok rfl (h.glo 40) (h.meth 48) (by kernel_rfl) (by kernel_rfl) (h.nw 7 (f := .opr "House" "__mul__" "__rmul__")) ((ok_m_House___mul__ h).mono (by decide))) (all_nil)) (all_nil)⟩ (h.tb _ (by decide)) (by first | exact List.mem_cons_self | simp) (by intro z hz _; simp only [tbs, List.mem_cons, List.not_mem_nil, or_false] at hz; rw [hz]; rfl) e_k08_f_law
theorem fg_law (h : Hy w K mg base) {fd : FuncData} (F : FunD K d_k08_f_law.name d_k08_f_law.qual d_k08_f_law.params d_k08_f_law.body d_k08_f_law.scope (d_k08_f_law.dvs K) (d_k08_f_law.kws K) (He.fAd K d_k08_f_law.at_) fd) : FnG (G w K mg base) 23 (He.ga K "law") fd ["_law_script"] k08_f_law :=
  mk_fnL (G := G w K mg base) (k := 19) (p := ("law", none)) (N := ["_law_script", "_law_bag_here", "_law_turn", "_law_dear", "_law_letters", "_law_plain", "_law_house", "_law_number", "_law_states", "_law_found", "_law_wrong"]) (ps := ["_law_script"]) (tb := tb_k08_f_law) (b := b_k08_f_law) F (by kernel_rfl) ⟨all_cons (gm_fn rfl (h.glo 0) (h.keep 1) ((cv_f__law_bag h).mono (by decide))) (all_cons (gm_bf (h.free 63) rfl) (all_cons (gm_fn rfl (h.glo 4) (h.keep 5) ((cv_f__law_of h).mono (by decide))) (all_cons (gm_fn rfl (h.glo 2) (h.keep 3) ((cv_f__law_draw h).mono (by decide))) (all_cons (gm_fn rfl (h.glo 12) (h.keep 13) ((cv_f__law_drawn h).mono (by decide))) (all_cons (gm_fn rfl (h.glo 28) (h.keep 29) ((cv_f__law_made h).mono (by decide))) (all_cons (gm_fn rfl (h.glo 30) (h.keep 31) ((cv_f__law_multiplied h).mono (by decide))) (all_cons (gm_fn rfl (h.glo 32) (h.keep 33) ((cv_f__law_is_good h).mono (by decide))) (all_cons (gm_fn rfl (h.glo 34) (h.keep 35) ((cv_f__law_alike h).mono (by decide))) (all_nil))))))))), all_cons ((all_cons (((ok_m_House_states h).mono (by decide)).meth (h.meth 46) (h.cls 41) rfl (h.glo 40)) (all_nil))) (all_nil), all_cons ((all_cons ⟨_, _, rfl, h.glo 40, h.cls 41, h.noat 43⟩ (all_nil))) (all_cons ((all_cons ⟨_, _, rfl, h.glo 40, h.cls 41, h.noat 44⟩ (all_nil))) (all_nil)), all_nil, rfl, isi_nil, all_cons (eqv_of rfl (h.glo 40) (h.meth 47) (((ok_m_House___eq__ h).mono (by decide)).callV)) (all_nil), lenV_nil, fun cs e => by cases e; exact try_ok h, all_nil, all_cons (all_cons (bin_ok rfl (h.glo 40) (h.meth 48) (by kernel_rfl) (by kernel_rfl) (h.nw 7 (f := .opr "House" "__mul__" "__rmul__")) ((ok_m_House___mul__ h).mono (by decide))) (all_nil)) (all_nil)⟩ (h.tb _ (by decide)) (by first | exact List.mem_cons_self | simp) (by intro z hz _; simp only [tbs, List.mem_cons, List.not_mem_nil, or_false] at hz; rw [hz]; rfl) e_k08_f_law
theorem cv_k08_f_law (h : Hy w K mg base) : CallV (G w K mg base) 23 (.ref (He.ga K "law")) k08_f_law := (ok_k08_f_law h).callV
end
end
end Lw

end
section
set_option Elab.async false
set_option linter.all false
set_option maxRecDepth 100000
set_option maxHeartbeats 0
namespace Lw
open PySem PySem.Spec PyProof.Rows L2 Lt
abbrev R : PySem.W.OpenRow := PySem.W.OpenLaw.row PySem.Challenge.rw_lagtoll_k08_prices_multiplied
abbrev hk : PySem.W.Hook := hookY 5 fa fb fn xs prl tf
def ob (s : PySem.W.SharedT) : AlY := obsY 5 fa fb fn xs prl tf (HandSHeadRun.getT s)
theorem ob_eq (s : PySem.W.SharedT) : ob s = hk.obs s.abs := obsY_eq (HandSHeadRun.getT_eq s)
def names0 : List PySem.Str := ["_wall", "is_number", "is_within", "is_pair_within", "is_listed", "rising", "read_figures", "TollError", "Missing", "InvalidHouse", "InvalidState", "InvalidLetters", "InvalidAnswers", "InvalidCount", "InvalidText", "TooMany", "TooDear", "NothingLeft", "pairs_of", "is_case", "is_state", "sizes_in", "outcome_in", "case_in", "state_in", "state_text", "text_parts", "House", "priced", "beside"]
def names1 : List PySem.Str := ["joined_case", "lots_of", "merged", "least_of", "_law_bag", "_law_draw", "_law_of", "_law_alike", "_law_fields", "_law_try", "_law_pairs", "_law_outcomes", "_law_state", "_law_drawn", "_law_made", "_law_is_good", "_law_multiplied", "FIGURES", "MOST_SIZE", "MOST_STATES", "MOST_SIGN", "MOST_PRICE"]
def names : List PySem.Str := names0 ++ names1
theorem run (w : World) : HandSHeadRun.RunEq R (PySem.W.view R.prog [56]) hk ob 12000 names w := by
  intro os
  kernel_rfl
/-- what the plain law must give -/
def Plain : Prop := ∀ ns : List Int, ns.length ≤ 63 → (∃ S', k08_f_law [.ref 0] [.fls (ns.map D.int)] = .ok (.bl true) S') ∧ (∃ S', k08_f_law [.kls (ns.map D.int)] [] = .ok (.bl true) S') ∧ ∃ S', k08_f_law [.ref 0] [.lst (ns.map D.int)] = .ok (.bl true) S'
theorem facts (pl : Plain) {w : World} {K : PySem.W.Frag} {h : Heap} {mg : Str → Option Value} {f : Addr} (X : K.In h) (Gn : h.Ns mainGlobals mg) (hfa : mg ("law" : Str) = some (.ref f)) (c : SaysY fa fb fn xs prl tf h K) :
    LamX.LawAtS PySem.Challenge.rw_lagtoll_k08_prices_multiplied w K (L2.CX pw w) 23 63 "_law_script" mg f h := by
  have e := hfa.symm.trans (He.glo_ok X Gn (c.old.fact 38 (f := .glo "law") rfl))
  cases e
  obtain ⟨fd, F⟩ := c.old.def_ 23 (d := d_k08_f_law) rfl
  have hp : plainP d_k08_f_law.params = true := by kernel_rfl
  have hps : parNames d_k08_f_law.params = (["_law_script"] : List Str) := by kernel_rfl
  refine ⟨fd, tf.map (He.cT K), fun vs H Q E => ∀ base, spF (G w K mg base) k08_f_law 1 vs H Q E, fun p hp => ?_, fun p hp => ?_, fun p hp => ?_, fun s v => ?_, fun H a ns hl _ hT hS base => law_endT (G := G w K mg base) (fun p hp => ?_) hS (pl ns hl).1 (pl ns hl).2.1 fun _ => (pl ns hl).2.2, fun base hb hg hT => ?_⟩
  · obtain ⟨q, hq, e⟩ := List.mem_map.mp hp
    subst e
    exact c.empty q hq
  · obtain ⟨q, hq, e⟩ := List.mem_map.mp hp
    subst e
    exact c.out q hq
  · obtain ⟨q, hq, e⟩ := List.mem_map.mp hp
    subst e
    exact PySem.W.codeHd_of_K X (c.hd q hq)
  · have b := FunD.bindsA (ps := ["_law_script"]) F (fun kV doc pm an cdv ct us hl => by rw [← hps]; exact plain_bind hp kV doc pm an cdv ct us (by rw [hps]; exact hl))
    exact b s [v] rfl
  · have hp2 : p.1 ∈ (tbs K).map (·.1) := List.mem_map.mpr ⟨p, hp, rfl⟩
    have e : (tbs K).map (·.1) = (tf.map (He.cT K)).map (·.2) := rfl
    rw [e] at hp2
    obtain ⟨q, hq, e⟩ := List.mem_map.mp hp2
    exact LamX.TabS.nil (by rw [← e]; exact hT q hq)
  · have hy : Hy w K mg base := ⟨c.old, fun i f e => c.fbs i e, fun i d e => c.xss i e, fun i d e => c.prs_ i e, fun p hp => hT _ (List.mem_map.mpr ⟨p, hp, rfl⟩), h, X, Gn⟩
    exact (fg_law hy F).imp fun vs H Q E q => q base
end Lw
open PySem PySem.W PySem.Calls PyProof.Rows in
theorem Lw.holds_of (pl : Lw.Plain) : PySem.Challenge.rw_lagtoll_k08_prices_multiplied.Holds := by
  w_on; o_law
  refine HandSHeadRun.head_any (r := OpenLaw.row PySem.Challenge.rw_lagtoll_k08_prices_multiplied) (q := view (OpenLaw.row PySem.Challenge.rw_lagtoll_k08_prices_multiplied).prog [56]) (H := Lw.hk) (ob := Lw.ob) (M := 12000) (loose := Lw.names) (d := HandSHeadRun.topDef (OpenLaw.row PySem.Challenge.rw_lagtoll_k08_prices_multiplied).prog 56) (kwd := []) Lw.ob_eq
    (by kernel_rfl) (fun s => by kernel_rfl) Lw.run (by kernel_rfl) (by kernel_rfl) (by kernel_rfl) (by rfl) (by first | assumption | decide +kernel) (by decide +kernel) ⟨rfl, rfl, rfl, rfl, rfl, by decide +kernel⟩ ?hw ?hc
  case hw => w_witness2
  case hc =>
    refine Lt.walk_ofY (l := PySem.Challenge.rw_lagtoll_k08_prices_multiplied) (n := 63) (k := 23) (x := "_law_script") (CX := fun w => L2.CX (PySem.Challenge.rw_lagtoll_k08_prices_multiplied).prog w) rfl (by decide) (by kernel_rfl) ⟨rfl, by decide, by decide⟩ ?F (fun w H s e s' h => Lt.cx_off h)
    intro w mg fa h Y Gn hmg0
    obtain ⟨K, KX, c⟩ := Y
    have hmg : mg ("law" : PySem.Str) = some (.ref fa) := by
      have e : (HandSHeadRun.topDef (OpenLaw.row PySem.Challenge.rw_lagtoll_k08_prices_multiplied).prog 56).name = ("law" : PySem.Str) := by kernel_rfl
      rw [← e]
      exact hmg0
    exact ⟨K, KX, Lw.facts (w := w) pl KX Gn hmg c⟩

end
section
set_option maxRecDepth 100000
set_option maxHeartbeats 4000000
set_option linter.all false
namespace Lw
open Lt
section
variable {S : Sto} {n : Nat} {P : Pst} {Q : D → Sto → Prop} {X : Nat → List (Nat × D) → Sto → Prop}
theorem drawn_wp {l a b a' b' most : Nat} {ps : List D} (hb : Bag S n) (h1 : 0 < a ∧ a ≤ 4) (h2 : 0 < b ∧ b ≤ 4) (h3 : 0 < a' ∧ a' ≤ 4) (h4 : 0 < b' ∧ b' ≤ 4) (hm : 0 < most) (hm2 : most ≤ 16) (hp : Prices ps) (hl : S[l]? = some (.lst ps)) (hln : l ≠ n)
    (hQ : ∀ (h : HouseV) (k : Nat) (S' : Sto), Dwn n most S S' h k → h.ls = (a, b) → h.as = (a', b') → Q (plainD h k) S') :
    wp (f__law_drawn [.ref n, .tup [.int (a : Nat), .int (b : Nat)], .tup [.int (a' : Nat), .int (b' : Nat)], .int (most : Nat), .ref l]) S Q X := by
  obtain ⟨k, ds, S', e, g, hl', hs, hd, kn, kl⟩ := drawn_ok (a := a) (b := b) (a' := a') (b' := b') hb (by omega) (by omega) (by omega) (by omega) h1.1 h2.1 hm (by omega) hp hl hln
  rw [wp_eq e]
  obtain ⟨hv, ok, e1, e2, rfl, _⟩ := sts_nat hs (by omega) ⟨h1.1, h1.2, h2.1, h2.2, h3.1, h3.2, h4.1, h4.2⟩
  have := hQ hv k S' ⟨ok, by simpa using hl', g, kn, kl, hd⟩ e1 e2
  unfold plainD at this
  rw [e1, e2] at this
  exact this
def x32 (v : D) : excL ATS [(11, v), (9, .str "InvalidCount")] = some [.str "InvalidCount", v] := by kernel_rfl
def x33 : excL ATS [(17, .int 99), (9, .str "TooDear")] = some [.str "TooDear", .int 99] := by kernel_rfl
theorem c32 (v : D) : kCat [24, 32, 33] ATS Q 32 [(11, v), (9, .str "InvalidCount")] S = Q (.tup [.str "no", .str "InvalidCount", v]) S := kCat_of (by decide) (x32 v)
theorem c33 : kCat [24, 32, 33] ATS Q 33 [(17, .int 99), (9, .str "TooDear")] S = Q (.tup [.str "no", .str "TooDear", .int 99]) S := kCat_of (by decide) x33
theorem mulO_1 : mulO 1 = id := funext fun o => by
  obtain ⟨a, b⟩ := o
  simp [mulO]
theorem mulC_1 : mulC 1 = id := funext fun c => by
  obtain ⟨a, b, os⟩ := c
  simp [mulC, mulO_1]
theorem mulS_1 : mulS 1 = id := funext fun s => by
  obtain ⟨a, cs⟩ := s
  simp [mulS, mulC_1]
theorem mulH_1 (h : HouseV) : mulH 1 h = h := by
  obtain ⟨a, b, c, d, s⟩ := h
  simp [mulH, mulS_1]
theorem k08_t {h : HouseV} {k o : Nat} (ok : h.Ok) (kn : k ≠ n) (hb : Bag S n) (H : At S o h) (hk : S[k]? = some (.lst (h.sts.map dS))) {x0 x2 x3 x4 x7 x8 x9 x10 : Option D}
    (hP : ∀ y3 y4 y5 y6 y7 y8 y9 y10 S', Bag S' n → P.nx [x0, some (.ref n), x2, y3, y4, y5, y6, y7, y8, y9, y10] S') :
    (kC [(sSet 10 (eCall f__law_of [(eLoc 1), (eLst [(eNeg (eC (.int 1))), (eC (.int 100)), (eBin .pow (eC (.int 10)) (eC (.int 25))), (eC (.bl true)), (eC .non), (eC (.str "2")), (eTup [(eC (.int 2))])])])), (sIf (bNot (bV (eCall (f__law_alike 20) [(eTry [24, 32, 33] ATS (eBinO [(18, m_House___mul__)] .mul (eLoc 6) (eLoc 10))), (eTup [(eC (.str "no")), (eC (.str "InvalidCount")), (eLoc 10)])]))) (sAll [(sRet (eC (.bl false)))]) (sAll [])), (sIf (bOr [(bNot (bV (eCall (f__law_alike 20) [(eMeth [(18, m_House_states)] 5 (eLoc 6) []), (eIx (eLoc 5) (eC (.int 2)))]))), (bNot (bEqO [(18, m_House___eq__)] (eBinO [(18, m_House___mul__)] .mul (eLoc 6) (eC (.int 1))) (eLoc 6)))]) (sAll [(sRet (eC (.bl false)))]) (sAll []))] P).nx [x0, some (.ref n), x2, x3, x4, some (.tup [dP h.ls, dP h.as, .ref k]), some (.ref o), x7, x8, x9, x10] S := by
  simp
  have nl := hb.lt
  refine of_wp (xs := [.int (-1), .int 100, .int 10000000000000000000000000, .bl true, .non, .str "2", .tup [.int 2]]) hb.grow (app0 S _ _) (by omega) (by simp) (by simp) fun v S1 hv d1 => ?_
  have H1 := d1.atH hb.grow (H.grow _)
  have hk1 := d1.get ((Ext.push S _).get hk) kn
  have b1 := d1.bag
  have no : ∀ S, NotIn S v 0 99 := fun S => by
    simp only [List.mem_cons, List.not_mem_nil, or_false] at hv
    rcases hv with rfl | rfl | rfl | rfl | rfl | rfl | rfl
    · exact .int (by omega)
    · exact .int (by omega)
    · exact .int (by omega)
    · exact .bl _ _ _
    · exact .non _ _
    · exact .str _ _ _
    · exact .tup _ _ _
  have av : ∀ S, Alk S 3 v v := fun S => by
    simp only [List.mem_cons, List.not_mem_nil, or_false] at hv
    rcases hv with rfl | rfl | rfl | rfl | rfl | rfl | rfl
    · exact alk_int _ _
    · exact alk_int _ _
    · exact alk_int _ _
    · exact alk_bl _ _
    · exact alk_non _
    · exact alk_str (by decide +kernel) _
    · exact alk_tup0 (by simp) fun x hx => by
        simp only [List.mem_cons, List.not_mem_nil, or_false] at hx
        subst hx
        exact alk_int _ _
  have an : (anT v).isSome = true := by
    simp only [List.mem_cons, List.not_mem_nil, or_false] at hv
    rcases hv with rfl | rfl | rfl | rfl | rfl | rfl | rfl <;> rfl
  simp
  rw [wp_opO_own H1 rfl an, mul_no H1 (no _), c32]
  simp
  rw [alike_wp (alk_no (m := 2) (by decide +kernel) (by decide) (av _))]
  simp
  rw [H1.mo m_House_states 5 (by decide)]
  simp
  rw [wp_states H1]
  simp
  have gd : ∀ x ∈ h.sts.map dS, gnd 6 x = true := fun x hx => by
    obtain ⟨s, hs, rfl⟩ := List.mem_map.mp hx
    exact gnd_dS ok hs
  have lz : (h.sts.map dS).length ≤ 100000 := by have := ok.le; simp; omega
  rw [alike_wp (alk_le (n := 7) (by decide) (alk_lst (app0 S1 _ []) ((Ext.push S1 _).get hk1) lz gd))]
  simp
  have H2 := H1.grow [Cell.lst (h.sts.map dS)]
  have b2 : Bag (S1 ++ [Cell.lst (h.sts.map dS)]) n := b1.grow
  rw [wp_opO_own H2 rfl rfl]
  have q1 : mulB 1 h = true := List.all_eq_true.mpr fun s hs => List.all_eq_true.mpr fun c hc => List.all_eq_true.mpr fun o ho => decide_eq_true (by
    have := ((ok.sts s hs).cs c hc).os o ho
    omega)
  refine mul_wp (n := 1) ok H2 (by decide) q1 fun S3 o3 e3 _ H3 => ?_
  have e1 : mulH 1 h = h := mulH_1 h
  rw [e1] at H3
  simp
  rw [wp_eqO_ins H3 (e3.at H2) rfl, eq_self ok H3 (e3.at H2)]
  simp
  exact hP _ _ _ _ _ _ _ _ _ (e3.bag b2)
theorem k08_b (hb : Bag S n) {x0 x2 x3 x4 x5 x6 x7 x8 x9 x10 : Option D}
    (hP : ∀ y3 y4 y5 y6 y7 y8 y9 y10 S', Bag S' n → P.nx [x0, some (.ref n), x2, y3, y4, y5, y6, y7, y8, y9, y10] S') :
    ws b1_k08_f_law [x0, some (.ref n), x2, x3, x4, x5, x6, x7, x8, x9, x10] S P := by
  rw [b1_k08_f_law]
  simp
  have nl := hb.lt
  generalize hS1 : S ++ [Cell.lst [D.int 0, .int 1], _, _, _, _, _, _] = S1
  have e1 : Ext S S1 := ⟨_, hS1.symm⟩
  have b1 := e1.bag hb
  have g0 : S1[S.length]? = some (.lst [.int 0, .int 1]) := by rw [← hS1]; exact app0 _ _ _
  have g1 : S1[S.length + 1]? = some (.lst [.int 0, .int 1, .int 3]) := by rw [← hS1]; exact app_at S _ 1
  have g2 : S1[S.length + 2]? = some (.lst [.int 0, .int 0, .int 11]) := by rw [← hS1]; exact app_at S _ 2
  have g3 : S1[S.length + 3]? = some (.lst [.int 1, .int 33, .int 49]) := by rw [← hS1]; exact app_at S _ 3
  have g4 : S1[S.length + 4]? = some (.lst [.int 0, .int 99]) := by rw [← hS1]; exact app_at S _ 4
  have g5 : S1[S.length + 5]? = some (.lst [.int 0]) := by rw [← hS1]; exact app_at S _ 5
  have g6 : S1[S.length + 6]? = some (.lst [.ref S.length, .ref (S.length + 1), .ref (S.length + 2), .ref (S.length + 3), .ref (S.length + 4), .ref (S.length + 5)]) := by rw [← hS1]; exact app_at S _ 6
  have pr : ∀ d ∈ [D.ref S.length, .ref (S.length + 1), .ref (S.length + 2), .ref (S.length + 3), .ref (S.length + 4), .ref (S.length + 5)], ∃ l ps, d = .ref l ∧ l ≠ n ∧ Prices ps ∧ S1[l]? = some (.lst ps) := fun d hd => by
    simp only [List.mem_cons, List.not_mem_nil, or_false] at hd
    have pp : ∀ ps : List D, ps ≠ [] → ps.length < 1000000 → (∀ d ∈ ps, ∃ p : Int, d = .int p ∧ 0 ≤ p ∧ p ≤ 99) → Prices ps := fun _ a b c => ⟨a, b, c⟩
    rcases hd with rfl | rfl | rfl | rfl | rfl | rfl
    · exact ⟨_, _, rfl, by omega, pp _ (by simp) (by simp) (by simp), g0⟩
    · exact ⟨_, _, rfl, by omega, pp _ (by simp) (by simp) (by simp), g1⟩
    · exact ⟨_, _, rfl, by omega, pp _ (by simp) (by simp) (by simp), g2⟩
    · exact ⟨_, _, rfl, by omega, pp _ (by simp) (by simp) (by simp), g3⟩
    · exact ⟨_, _, rfl, by omega, pp _ (by simp) (by simp) (by simp), g4⟩
    · exact ⟨_, _, rfl, by omega, pp _ (by simp) (by simp) (by simp), g5⟩
  refine of_wp b1 g6 (by omega) (by simp) (by simp) fun d S2 hd d2 => ?_
  obtain ⟨l, ps, rfl, ln, hp, gl⟩ := pr d hd
  have gl2 := d2.get gl ln
  simp
  refine draw_wp d2.bag (by decide) (by decide) fun v1 S3 v10 v11 d3 => ?_
  obtain ⟨a, rfl⟩ := Int.eq_ofNat_of_zero_le v10
  simp
  refine draw_wp d3.bag (by decide) (by decide) fun v1 S4 v20 v21 d4 => ?_
  obtain ⟨b, rfl⟩ := Int.eq_ofNat_of_zero_le v20
  simp
  refine draw_wp d4.bag (by decide) (by decide) fun v1 S5 v30 v31 d5 => ?_
  obtain ⟨c, rfl⟩ := Int.eq_ofNat_of_zero_le v30
  simp
  rw [show (1 + (a : Int)) = ((1 + a : Nat) : Int) by omega, show (1 + (b : Int)) = ((1 + b : Nat) : Int) by omega, show (1 + (c : Int)) = ((1 + c : Nat) : Int) by omega, show (D.int 2) = D.int ((2 : Nat) : Int) from rfl, show (D.int 3) = D.int ((3 : Nat) : Int) from rfl]
  refine drawn_wp d5.bag (by omega) (by omega) (by omega) (by omega) (by decide) (by decide) hp (d5.get (d4.get (d3.get gl2 ln) ln) ln) ln fun h k S6 t el ea => ?_
  have ok := t.ok
  have b6 := t.drw.bag
  simp
  refine made_wp ok t.at_ fun S7 o e7 o7 H7 => ?_
  have b7 := e7.bag b6
  have hk7 := e7.get t.at_
  simp
  refine of_wp (xs := [.int 0, .int 1, .int 2, .int 3, .int 9, .int 33, .int 50, .int 99]) b7.grow (app0 S7 _ _) (by have := b7.lt; omega) (by simp) (by simp) fun v S8 hv d8 => ?_
  obtain ⟨m, rfl, hm⟩ : ∃ m : Nat, v = .int m ∧ m ≤ 99 := by
    simp only [List.mem_cons, List.not_mem_nil, or_false] at hv
    rcases hv with rfl | rfl | rfl | rfl | rfl | rfl | rfl | rfl
    · exact ⟨0, rfl, by decide⟩
    · exact ⟨1, rfl, by decide⟩
    · exact ⟨2, rfl, by decide⟩
    · exact ⟨3, rfl, by decide⟩
    · exact ⟨9, rfl, by decide⟩
    · exact ⟨33, rfl, by decide⟩
    · exact ⟨50, rfl, by decide⟩
    · exact ⟨99, rfl, by decide⟩
  have H8 := d8.atH b7.grow (H7.grow _)
  have b8 := d8.bag
  have hk8 := d8.get ((Ext.push S7 _).get hk7) t.ne
  simp
  refine mult_wp ok hk8 hm fun S9 lm e9 hlm g9 => ?_
  have H9 := e9.at H8
  have b9 := e9.bag b8
  have hk9 := e9.get hk8
  simp
  rw [wp_opO_own H9 rfl rfl]
  cases q : mulB m h with
  | false =>
    rw [mul_dear ok H9 hm q, c33]
    simp [plainD]
    refine good_wp ok g9 fun ST eT => ?_
    rw [q]
    simp
    rw [alike_wp (alk_no (m := 2) (by decide +kernel) (by decide) (alk_int _ _))]
    simp
    have bT := eT.bag b9
    have HT := eT.at H9
    have hkT := eT.get hk9
    have T := k08_t (P := P) (x0 := x0) (x2 := x2) (x3 := some (.ref l)) (x4 := some (.tup [.int (1 + (a : Int)), .int (1 + (b : Int))])) (x7 := some (.int m)) (x8 := some (.ref lm)) (x9 := some (.tup [.str "no", .str "TooDear", .int 99])) (x10 := x10) ok t.ne bT HT hkT fun _ _ _ _ _ _ _ _ S' b => hP _ _ _ _ _ _ _ _ _ b
    simp at T
    exact T
  | true =>
    refine mul_wp ok H9 hm q fun S10 o2 e10 lo2 H10 => ?_
    have mok := mulH_ok ok q
    have g10 := e10.get g9
    simp [plainD]
    refine good_wp ok g10 fun S11 e11 => ?_
    rw [q]
    have H11 := e11.at H10
    have g11 := e11.get g10
    simp
    rw [wp_eqS (by decide +kernel) (by decide +kernel) true (by decide +kernel)]
    simp
    rw [H11.mo m_House_states 5 (by decide)]
    simp
    rw [wp_states H11]
    simp
    have gd : ∀ x ∈ (mulH m h).sts.map dS, gnd 6 x = true := fun x hx => by
      obtain ⟨s, hs, rfl⟩ := List.mem_map.mp hx
      exact gnd_dS mok hs
    have lz : ((mulH m h).sts.map dS).length ≤ 100000 := by have := mok.le; simp; omega
    rw [alike_wp (alk_le (n := 7) (by decide) (alk_lst (app0 S11 _ []) ((Ext.push S11 _).get g11) lz gd))]
    simp
    have H12 := H11.grow [Cell.lst ((mulH m h).sts.map dS)]
    simp [H12.at0, H12.at1]
    rw [show (mulH m h).ls = h.ls from rfl, show (mulH m h).as = h.as from rfl]
    generalize hS13 : S11 ++ [Cell.lst ((mulH m h).sts.map dS), _, _] = S13
    have e13 : Ext S11 S13 := ⟨_, hS13.symm⟩
    have ga : S13[S11.length + 1]? = some (.lst [dP h.ls, dP h.as]) := by rw [← hS13]; exact app_at S11 _ 1
    have gb : S13[S11.length + 2]? = some (.lst [dP h.ls, dP h.as]) := by rw [← hS13]; exact app_at S11 _ 2
    rw [alike_wp (alk_le (n := 3) (by decide) (alk_lst ga gb (by simp) (fun x hx => by
      simp only [List.mem_cons, List.not_mem_nil, or_false] at hx
      rcases hx with rfl | rfl <;> rfl)))]
    simp
    have e9T := (e10.trans e11).trans e13
    have bT := e9T.bag b9
    have HT := e9T.at H9
    have hkT := e9T.get hk9
    have T := k08_t (P := P) (x0 := x0) (x2 := x2) (x3 := some (.ref l)) (x4 := some (.tup [.int (1 + (a : Int)), .int (1 + (b : Int))])) (x7 := some (.int m)) (x8 := some (.ref lm)) (x9 := some (.tup [.str "told", .ref o2])) (x10 := x10) ok t.ne bT HT hkT fun _ _ _ _ _ _ _ _ S' b => hP _ _ _ _ _ _ _ _ _ b
    simp at T
    exact T
theorem k08_law {x : D} {S S1 : Sto} {n : Nat} (e : f__law_bag [x] S = .ok (.ref n) S1) (hb : Bag S1 n) : ∃ S', k08_f_law [x] S = .ok (.bl true) S' := by
  have w : wp (k08_f_law [x]) S (fun d _ => d = .bl true) NX := by
    rw [w_k08_f_law, b_k08_f_law]
    simp [wp_eq e]
    refine ws_for (rngD 5) (fun j η S' => (∃ x2 x3 x4 x5 x6 x7 x8 x9 x10, η = [some x, some (.ref n), x2, x3, x4, x5, x6, x7, x8, x9, x10]) ∧ Bag S' n) (by decide) ?_ (fun j hj η S' => ?_) ?_
    · rw [wp_iRange1, wp_eC, kM_ap, show (D.int 5) = D.int ((5 : Nat) : Int) from rfl, wp_rng1N (by omega)]
      exact ⟨⟨⟨_, _, _, _, _, _, _, _, _, rfl⟩, hb⟩, fun i η S _ _ => itR_at S 5 i⟩
    · rintro ⟨⟨x2, x3, x4, x5, x6, x7, x8, x9, x10, rfl⟩, hS⟩
      refine ⟨_, rfl, ?_⟩
      exact k08_b hS fun _ _ _ _ _ _ _ _ S' b => ⟨⟨_, _, _, _, _, _, _, _, _, rfl⟩, b⟩
    · rintro η S' ⟨⟨x2, x3, x4, x5, x6, x7, x8, x9, x10, rfl⟩, hS⟩
      simp
  obtain ⟨d, S', e, rfl⟩ := wp_ok w
  exact ⟨S', e⟩
end
theorem k08_plain : Plain := fun ns hl => plain_of (fun x S S1 n e b => k08_law e b) ns hl
end Lw

end
section
set_option Elab.async false
theorem PySem.Challenge.cw_lagtoll_k08_prices_multiplied_holds : PySem.Challenge.rw_lagtoll_k08_prices_multiplied.Holds :=
  Lw.holds_of Lw.k08_plain
end
